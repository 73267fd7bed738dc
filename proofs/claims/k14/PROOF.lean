import PyProof.Rows.All
import Wide.All
import OpenK.AllK
import Wide.FinOn
import HandS.ForMost
import HandS.Wide
import HandS.Exc
import HandS.Deep
import HandS.Iter
import HandS.Zip
import HandS.NoneIn
import HandS.Lambda
import HandS.EndTab
import HandS.ExcInit
import HandS.TupMul
import HandS.TupAny
import HandS.IsInst
import HandS.TupLe
import HandS.Rev
import PyProof.ListRange
import HandS.Style
import HandS.TupSets
import HandS.SortOrd
import KE.GoesZip
import PyProof.Draws
import HandS.More
import PyProof.EnumMake
import PyProof.EnumFor
import KE.KeyNested
import KE.SortData
import HandS.ExcValue
import HandS.Conv
import HandS.Small
import KE.KDictPairs
import KE.KDictKeyed
import KE.DataCmp
import KE.BitLaws
import KE.KTupSum
import KE.DataMinMax
import PyProof.Claim2Refuses
import PyProof.ReprRoads
import PyProof.Rows.NestShow
import HandS.SetFor
import HandS.Strs
import PyProof.FitsInt
import HandS.FStrTup
import HandS.Defaults
import HandS.Text
import HandS.FStr
import KE.IntTextLaws
import KE.KDictZip
import PyProof.StrBlock2
import HandS.ExcOwn
import HandS.ExcCtx
import HandS.ExcField
import HandS.ExcIs
import HandS.HotCalls
import HandS.ExcInitHot
import HandS.TryMany
import HandS.TryOnly
import HandS.NestedK
import KE.DataMinKey
import KE.KNestM
import HandS.TupLen
import HandS.WordsDict
import KE.GoesMore
import HandS.EndOwn
import PyProof.Rows.StrRev
import PyProof.StrWalks
import HandS.CallSlots
import PyProof.StrLawsRepr
import PySem.Challenge.RW_healfloor_k14_refusals_made
set_option Elab.async false
set_option linter.all false
set_option maxRecDepth 100000
set_option maxHeartbeats 2000000
namespace DLK
open PySem PySem.Spec PyProof.Rows L2
def LamO (f : Addr) (qual : Str) (params : Arguments) (body : Expr) (scope : Scope) (cl : List (Str × Addr)) (c' : Addr) : HO := .ext fun h => ∃ (od : Option Addr) (sl : Array (Option Value)) (pm ctv : Value), h.get? f = some (⟨.type "function", od, .func (PySem.W.kla_fn "<lambda>" qual params body scope cl pm (.ref c') ctv), sl⟩ : Obj)
structure Site where
  cp : Addr
  q : Str
  ps : Arguments
  b : Expr
  sc : Scope
  cl : List (Str × Addr)
  vs : List V
abbrev Site.obj (i : Site) (f : Addr) : HO := LamO f i.q i.ps i.b i.sc i.cl i.cp
end DLK
namespace DL
open PySem PySem.Spec PyProof.Rows L2

inductive XC | noName | noText | tooMany | notPaper | noDeed
  deriving DecidableEq
def XC.nm : XC → Str
  | .noName => "NoName"
  | .noText => "NoText"
  | .tooMany => "TooMany"
  | .notPaper => "NotPaper"
  | .noDeed => "NoDeed"
def XC.fld : XC → Option Str
  | .noName => some "name"
  | .noText => some "row"
  | .tooMany => some "many"
  | _ => none
inductive D where
  | non | bl (b : Bool) | int (i : Int) | str (x : Str) | ty (n : String)
  | tup (ds : List D) | lst (ds : List D)
  | dT (ks : List (List Key)) (ds : List D) | dK (ks : List Key) (ds : List D)
  | deal | feed | ref (a : Addr) | scr (ns : List Int)
  | exc (a dd : Addr) (f : Str) (d : D)
  | stp (ds : List D)
  | lam (i : DLK.Site) (es : List D)
  | err (n : XC) (x : D)
  deriving Inhabited

structure Cfg where
  K : PySem.W.Frag
  fx : Addr → (Addr ⊕ DLK.Site) → Prop
  cs : Addr → Prop
abbrev Cfg.fd (c : Cfg) (a l : Addr) : Prop := c.fx a (.inl l)
def Cfg.S (c : Cfg) (b : Addr) : Prop := (∃ a l, c.fd a l ∧ (b = a ∨ b = l)) ∨ c.cs b
theorem Cfg.S1 {c : Cfg} {a l : Addr} (f : c.fd a l) : c.S a := .inl ⟨a, l, f, .inl rfl⟩
theorem Cfg.S2 {c : Cfg} {a l : Addr} (f : c.fd a l) : c.S l := .inl ⟨a, l, f, .inr rfl⟩
class TabsOf where
  T : List (Addr × Str)
instance (priority := 10) tabs0 : TabsOf := ⟨[]⟩
variable [TabsOf]
def TabC (c : Cfg) (H : Hp) (P : Addr) (q : Str) : Prop := c.cs P ∧ ∃ ps : Array Value, H P = some (.tbl ps) ∧ TriplesOk ps.toList ∧ ∀ (pos : Pos) (cv : Value), codeAmong pos ps.toList = some cv → ∃ c', cv = .ref c' ∧ c.cs c' ∧ H c' = some (LamX.CodeO c' q)

def FeedA (H : Hp) (a l : Addr) : Prop := a ≠ l ∧ ∃ (s n : Int) (ns : List Int), H a = some (.dK [(Sum.inr "seed", .int s), (Sum.inr "number", .int n), (Sum.inr "left", .ref l)]) ∧ H l = some (.lst (ns.map V.int)) ∧
  0 ≤ s ∧ s < 2147483648 ∧ 0 ≤ n ∧ (∀ x ∈ ns, 0 < x) ∧ ns.length ≤ 63
def FeedC (H : Hp) (a l : Addr) : Prop := a = l ∧ ∃ (n s : Int), H a = some (.lst [.int n, .int s]) ∧ 0 ≤ n ∧ 0 ≤ s ∧ s < 2147483648
def FeedOk (H : Hp) (a l : Addr) : Prop := FeedA H a l ∨ FeedC H a l
theorem FeedOk.some1 {H : Hp} {a l : Addr} (h : FeedOk H a l) : H a ≠ none := by
  rcases h with ⟨_, s, n, ns, h, _⟩ | ⟨_, n, s, h, _⟩ <;> rw [h] <;> exact fun z => nomatch z
theorem FeedOk.some2 {H : Hp} {a l : Addr} (h : FeedOk H a l) : H l ≠ none := by
  rcases h with ⟨_, s, n, ns, _, h, _⟩ | ⟨e, n, s, h, _⟩
  · rw [h]; exact fun z => nomatch z
  · subst e; rw [h]; exact fun z => nomatch z
theorem FeedOk.same {H H' : Hp} {a l : Addr} (h : FeedOk H a l) (ha : H' a = H a) (hl : H' l = H l) : FeedOk H' a l := by
  unfold FeedOk FeedA FeedC at *
  rw [ha, hl]
  exact h
structure FeedsOk (c : Cfg) (H : Hp) : Prop where
  ok : ∀ a l, c.fd a l → FeedOk H a l
  apart : ∀ a l a' l', c.fd a l → c.fd a' l' → (a = a' ∧ l = l') ∨ (a ≠ a' ∧ a ≠ l' ∧ l ≠ a' ∧ l ≠ l')
  sep : ∀ a l, c.fd a l → ¬ c.cs a ∧ ¬ c.cs l
  cal : ∀ b, c.cs b → (∃ ps, H b = some (.tbl ps)) ∨ ∃ p, H b = some (.ext p)
  tab : ∀ p ∈ TabsOf.T, TabC c H p.1 p.2
  lam : ∀ f i, c.fx f (.inr i) → (c.cs f ∧ c.cs i.cp) ∧ H f = some (i.obj f) ∧ H i.cp = some (LamX.CodeO i.cp i.q)
theorem FeedsOk.al {c : Cfg} {H : Hp} (h : FeedsOk c H) {b : Addr} (hb : c.S b) : H b ≠ none := by
  rcases hb with ⟨a, l, f, rfl | rfl⟩ | hb
  · exact (h.ok _ _ f).some1
  · exact (h.ok _ _ f).some2
  · rcases h.cal b hb with ⟨_, e⟩ | ⟨_, e⟩ <;> rw [e] <;> exact fun z => nomatch z
theorem FeedsOk.notT {c : Cfg} {H : Hp} (h : FeedsOk c H) {b : Addr} (hb : c.cs b) (vs : List V) : H b ≠ some (.tup vs) := fun z => by
  rcases h.cal b hb with ⟨_, e⟩ | ⟨_, e⟩
  · rw [e] at z; cases z
  · rw [e] at z; cases z
theorem FeedsOk.notTup {c : Cfg} {H : Hp} (h : FeedsOk c H) {b : Addr} (hb : c.S b) (vs : List V) : H b ≠ some (.tup vs) := fun z => by
  rcases hb with ⟨a, l, f, e⟩ | hb
  · rcases h.ok a l f with ⟨_, s, n, ns, h1, h2, _⟩ | ⟨q, n, s, h1, _⟩
    · rcases e with e | e
      · rw [e, h1] at z; cases z
      · rw [e, h2] at z; cases z
    · have : b = a := by rcases e with e | e
                         · exact e
                         · exact e.trans q.symm
      rw [this, h1] at z; cases z
  · exact h.notT hb vs z
theorem TabC.same {c : Cfg} {H H' : Hp} {P : Addr} {q : Str} (t : TabC c H P q) (e : ∀ b, c.cs b → H' b = H b) : TabC c H' P q := by
  obtain ⟨h0, ps, h1, h2, h3⟩ := t
  refine ⟨h0, ps, by rw [e P h0]; exact h1, h2, fun pos cv hc => ?_⟩
  obtain ⟨c', e1, e2, e3⟩ := h3 pos cv hc
  exact ⟨c', e1, e2, by rw [e c' e2]; exact e3⟩
theorem FeedsOk.same {c : Cfg} {H H' : Hp} (h : FeedsOk c H) (e : ∀ b, c.S b → H' b = H b) : FeedsOk c H' :=
  ⟨fun a l f => (h.ok a l f).same (e a (Cfg.S1 f)) (e l (Cfg.S2 f)), h.apart, h.sep, fun b hb => by rw [e b (.inr hb)]; exact h.cal b hb, fun p hp => (h.tab p hp).same fun b hb => e b (.inr hb), fun f i hf => by
    obtain ⟨⟨c1, c2⟩, h1, h2⟩ := h.lam f i hf
    exact ⟨⟨c1, c2⟩, by rw [e f (.inr c1)]; exact h1, by rw [e i.cp (.inr c2)]; exact h2⟩⟩
theorem FeedsOk.upd {c : Cfg} {H : Hp} (h : FeedsOk c H) {p : Addr} {o : HO} (hs : ¬ c.S p) : FeedsOk c (L2.upd H p o) := h.same fun b hb => upd_ne fun z => hs (z ▸ hb)

structure Step (c : Cfg) (H : Hp) (c' : Cfg) (H' : Hp) : Prop where
  kk : c'.K = c.K
  sub : ∀ a l, c.fx a l → c'.fx a l
  subC : ∀ b, c.cs b → c'.cs b
  new : ∀ b, c'.S b → c.S b ∨ H b = none
  keep : ∀ b o, ¬ c.S b → H b = some o → H' b = some o
  keepC : ∀ b q, H b = some (LamX.CodeO b q) → H' b = some (LamX.CodeO b q)
  fok : FeedsOk c' H'
theorem Step.subS {c c' : Cfg} {H H' : Hp} (t : Step c H c' H') {b : Addr} (h : c.S b) : c'.S b := by
  rcases h with ⟨a, l, f, e⟩ | h
  · exact .inl ⟨a, l, t.sub _ _ f, e⟩
  · exact .inr (t.subC _ h)
theorem Step.refl {c : Cfg} {H : Hp} (h : FeedsOk c H) : Step c H c H := ⟨rfl, fun _ _ f => f, fun _ f => f, fun _ h => .inl h, fun _ _ _ h => h, fun _ _ h => h, h⟩
theorem Step.notS {c c' : Cfg} {H H' : Hp} (t : Step c H c' H') {b : Addr} {o : HO} (h : H b = some o) (hs : ¬ c.S b) : ¬ c'.S b := fun z => by
  rcases t.new b z with z | z
  · exact hs z
  · rw [h] at z; cases z
theorem Step.trans {c c1 c2 : Cfg} {H H1 H2 : Hp} (t : Step c H c1 H1) (u : Step c1 H1 c2 H2) : Step c H c2 H2 := by
  refine ⟨u.kk.trans t.kk, fun a l f => u.sub _ _ (t.sub _ _ f), fun b f => u.subC _ (t.subC _ f), fun b h => ?_, fun b o hs h => u.keep b o (t.notS h hs) (t.keep b o hs h), fun b q h => u.keepC b q (t.keepC b q h), u.fok⟩
  rcases u.new b h with h | h
  · exact t.new b h
  · cases q : H b with
    | none => exact .inr rfl
    | some o =>
      by_cases hs : c.S b
      · exact .inl hs
      · rw [t.keep b o hs q] at h; cases h
theorem Step.alive {c c' : Cfg} {H H' : Hp} (t : Step c H c' H') {b : Addr} (h : H b ≠ none) : H' b ≠ none := by
  by_cases hs : c.S b
  · exact t.fok.al (t.subS hs)
  · cases q : H b with
    | none => exact absurd q h
    | some o => rw [t.keep b o hs q]; exact fun z => nomatch z
theorem Step.fresh {c c' : Cfg} {H H' : Hp} (t : Step c H c' H') {b : Addr} (h : H' b = none) : H b = none := by
  cases q : H b with
  | none => rfl
  | some o => exact absurd h (t.alive (by rw [q]; exact fun z => nomatch z))
theorem Step.upd {c c' : Cfg} {H H' : Hp} (t : Step c H c' H') {p : Addr} {o : HO} (h : H p = none) (hs : ¬ c'.S p) : Step c H c' (upd H' p o) := by
  refine ⟨t.kk, t.sub, t.subC, t.new, fun b u hb e => ?_, fun b q e => ?_, t.fok.upd hs⟩
  · rw [upd_ne (ne_of_none e h)]
    exact t.keep b u hb e
  · rw [upd_ne (ne_of_none e h)]
    exact t.keepC b q e
theorem FeedsOk.fresh {c : Cfg} {H : Hp} (h : FeedsOk c H) {p : Addr} (hp : H p = none) : ¬ c.S p := fun z => h.al z hp
theorem Step.one {c : Cfg} {H : Hp} (f : FeedsOk c H) {p : Addr} {o : HO} (h : H p = none) : Step c H c (L2.upd H p o) := (Step.refl f).upd h (f.fresh h)
theorem Step.more {c c' : Cfg} {H H' : Hp} (t : Step c H c' H') {p : Addr} {o : HO} (h : H' p = none) : Step c H c' (L2.upd H' p o) := t.upd (t.fresh h) (t.fok.fresh h)
theorem Step.ofSame {c : Cfg} {H H' : Hp} (f : FeedsOk c H) (h : ∀ b o, H b = some o → H' b = some o) : Step c H c H' := by
  have e : ∀ b, H b ≠ none → H' b = H b := fun b hb => by
    cases q : H b with
    | none => exact absurd q hb
    | some o => exact h b o q
  exact ⟨rfl, fun _ _ z => z, fun _ z => z, fun _ z => .inl z, fun b o _ z => h b o z, fun b q z => h b _ z, f.same fun b hb => e b (f.al hb)⟩

def NodT (c : Cfg) (Av : Addr → Prop) (H : Hp) (a : Addr) (vs : List V) : Prop := vs.length ≤ sizeLine ∧ ¬ Av a ∧ H a = some (.tup vs)
def PlO (o : Obj) : Prop := o.cls = .type "tuple" ∧ o.dict = none ∧ ∃ (its : Array Value) (n : Nat), o.data = .seq its n
def PlT (c : Cfg) (Av : Addr → Prop) (H : Hp) (a : Addr) (vs : List V) : Prop :=
  (∃ (o : Obj) (its : Array Value) (n : Nat), c.K.lookup a = some o ∧ o.cls = .type "tuple" ∧ o.dict = none ∧ o.data = .seq its n ∧ its.size ≤ sizeLine ∧ Vals vs its.toList) ∨
  (¬ Av a ∧ vs.length ≤ sizeLine ∧ ∃ o, PlO o ∧ H a = some (.frz o (.tup vs)))
theorem PlT.sq {c : Cfg} {Av : Addr → Prop} {H : Hp} {a : Addr} {vs : List V} (h : PlT c Av H a vs) : SqT c.K H a vs := by
  rcases h with ⟨o, its, n, h1, h2, _, h4, h5, h6⟩ | ⟨_, _, o, _, h⟩
  · exact .inr ⟨o, its, n, h1, h2, h4, h5, h6⟩
  · exact .inl (.inr ⟨o, h⟩)
theorem PlT.mv {c c' : Cfg} {Av Av' : Addr → Prop} {H H' : Hp} {a : Addr} {vs : List V} (k : c'.K = c.K) (m : ∀ b o, ¬ Av b → H b = some o → ¬ Av' b ∧ H' b = some o) (h : PlT c Av H a vs) : PlT c' Av' H' a vs := by
  rcases h with h | ⟨n, z, o, p, h⟩
  · exact .inl (by rw [k]; exact h)
  · exact .inr ⟨(m _ _ n h).1, z, o, p, (m _ _ n h).2⟩
def NodL (Av : Addr → Prop) (H : Hp) (a : Addr) (vs : List V) : Prop := vs.length ≤ sizeLine ∧ ¬ Av a ∧ H a = some (.lst vs)
mutual
inductive Rep (c : Cfg) (Av : Addr → Prop) (H : Hp) : V → D → Prop
  | non : Rep c Av H .non .non
  | bl (b : Bool) : Rep c Av H (.bl b) (.bl b)
  | int (i : Int) : Rep c Av H (.int i) (.int i)
  | str (x : Str) : Rep c Av H (.str x) (.str x)
  | ty (n : String) : Rep c Av H (.ty n) (.ty n)
  | ref (a : Addr) : Rep c Av H (.ref a) (.ref a)
  | deal {a l : Addr} : a ≠ l → c.fd a l → Rep c Av H (.ref a) .deal
  | feed {a : Addr} : c.fd a a → Rep c Av H (.ref a) .feed
  | scr {a : Addr} {ns : List Int} : ns.length ≤ 63 → ((¬ Av a ∧ Rd H a (.lst (ns.map V.int))) ∨ SqL c.K (fun _ => none) a (ns.map V.int)) → Rep c Av H (.ref a) (.scr ns)
  | exc {a dd : Addr} {fs : List (Str × V)} {f : Str} {v : V} {d : D} : ¬ Av dd → H dd = some (.xd fs) → fs.lookup f = some v → Rep c Av H v d → Rep c Av H (.ref a) (.exc a dd f d)
  | lam {f : Addr} {i : DLK.Site} {es : List D} : c.fx f (.inr i) → RepL c Av H i.vs es → Rep c Av H (.ref f) (.lam i es)
  | err1 {a dx C : Addr} {n : XC} {f : Str} {v : V} {x : D} : n.fld = some f → ¬ Av a → ¬ Av dx → PySem.W.nsIn c.K mainGlobals n.nm = some (some (.ref C)) → H a = some (exo a C (some dx)) → H dx = some (exd dx [(f, v)]) → Rep c Av H v x → Rep c Av H (.ref a) (.err n x)
  | err0 {a C : Addr} {n : XC} : n.fld = none → ¬ Av a → PySem.W.nsIn c.K mainGlobals n.nm = some (some (.ref C)) → H a = some (exo a C none) → Rep c Av H (.ref a) (.err n .non)
  | stp {a : Addr} {vs : List V} {ds : List D} : PlT c Av H a vs → RepL c Av H vs ds → Rep c Av H (.ref a) (.stp ds)
  | tup {a : Addr} {vs : List V} {ds : List D} : NodT c Av H a vs → RepL c Av H vs ds → Rep c Av H (.ref a) (.tup ds)
  | lst {a : Addr} {vs : List V} {ds : List D} : NodL Av H a vs → RepL c Av H vs ds → Rep c Av H (.ref a) (.lst ds)
  | dT {a : Addr} {ks : List (List Key)} {vs : List V} {ds : List D} : ks.length = vs.length → ¬ Av a → H a = some (.dT (ks.zip vs)) → RepL c Av H vs ds → Rep c Av H (.ref a) (.dT ks ds)
  | dK {a : Addr} {ks : List Key} {vs : List V} {ds : List D} : ks.length = vs.length → ¬ Av a → H a = some (.dK (ks.zip vs)) → RepL c Av H vs ds → Rep c Av H (.ref a) (.dK ks ds)
inductive RepL (c : Cfg) (Av : Addr → Prop) (H : Hp) : List V → List D → Prop
  | nil : RepL c Av H [] []
  | cons {v : V} {vs : List V} {d : D} {ds : List D} : Rep c Av H v d → RepL c Av H vs ds → RepL c Av H (v :: vs) (d :: ds)
end
section
variable {c c' : Cfg} {Av Av' : Addr → Prop} {H H' : Hp}
theorem rd_mv {a : Addr} {u : HO} (m : ∀ b o, ¬ Av b → H b = some o → ¬ Av' b ∧ H' b = some o) (n : ¬ Av a) (h : Rd H a u) : ¬ Av' a ∧ Rd H' a u := by
  rcases h with h | ⟨o, h⟩
  · exact ⟨(m _ _ n h).1, .inl (m _ _ n h).2⟩
  · exact ⟨(m _ _ n h).1, .inr ⟨o, (m _ _ n h).2⟩⟩
mutual
theorem Rep.mv (k : c'.K = c.K) (f' : ∀ a l, c.fx a l → c'.fx a l) (m : ∀ b o, ¬ Av b → H b = some o → ¬ Av' b ∧ H' b = some o) : ∀ (d : D) (v : V), Rep c Av H v d → Rep c' Av' H' v d
  | .non, _, h => by cases h; exact .non
  | .bl _, _, h => by cases h; exact .bl _
  | .int _, _, h => by cases h; exact .int _
  | .str _, _, h => by cases h; exact .str _
  | .ty _, _, h => by cases h; exact .ty _
  | .ref _, _, h => by cases h; exact .ref _
  | .deal, _, h => by cases h with | deal n z => exact .deal n (f' _ _ z)
  | .feed, _, h => by cases h with | feed z => exact .feed (f' _ _ z)
  | .scr ns, _, h => by
    cases h with
    | scr e n =>
      refine .scr e ?_
      rcases n with n | n
      · exact .inl (rd_mv m n.1 n.2)
      · exact .inr (by rw [k]; exact n)
  | .exc a dd f d, _, h => by
    cases h with
    | exc n g l r => exact .exc (m _ _ n g).1 (m _ _ n g).2 l (Rep.mv k f' m d _ r)
  | .lam i es, _, h => by cases h with | lam z r => exact .lam (f' _ _ z) (RepL.mv k f' m es _ r)
  | .err n x, _, h => by
    cases h with
    | err1 e n1 n2 ns o1 o2 r => exact .err1 e (m _ _ n1 o1).1 (m _ _ n2 o2).1 (by rw [k]; exact ns) (m _ _ n1 o1).2 (m _ _ n2 o2).2 (Rep.mv k f' m x _ r)
    | err0 e n1 ns o1 => exact .err0 e (m _ _ n1 o1).1 (by rw [k]; exact ns) (m _ _ n1 o1).2
  | .stp ds, _, h => by
    cases h with
    | stp q r => exact .stp (q.mv k m) (RepL.mv k f' m ds _ r)
  | .tup ds, _, h => by
    cases h with
    | tup n r =>
      exact .tup ⟨n.1, m _ _ n.2.1 n.2.2⟩ (RepL.mv k f' m ds _ r)
  | .lst ds, _, h => by
    cases h with
    | lst n r => exact .lst ⟨n.1, m _ _ n.2.1 n.2.2⟩ (RepL.mv k f' m ds _ r)
  | .dT ks ds, _, h => by
    cases h with
    | dT e n g r => exact .dT e (m _ _ n g).1 (m _ _ n g).2 (RepL.mv k f' m ds _ r)
  | .dK ks ds, _, h => by
    cases h with
    | dK e n g r => exact .dK e (m _ _ n g).1 (m _ _ n g).2 (RepL.mv k f' m ds _ r)
theorem RepL.mv (k : c'.K = c.K) (f : ∀ a l, c.fx a l → c'.fx a l) (m : ∀ b o, ¬ Av b → H b = some o → ¬ Av' b ∧ H' b = some o) : ∀ (ds : List D) (vs : List V), RepL c Av H vs ds → RepL c' Av' H' vs ds
  | [], _, h => by cases h; exact .nil
  | d :: ds, _, h => by
    cases h with
    | cons r s => exact .cons (Rep.mv k f m d _ r) (RepL.mv k f m ds _ s)
end
theorem RepL.len : ∀ {vs : List V} {ds : List D}, RepL c Av H vs ds → vs.length = ds.length
  | _, _, .nil => rfl
  | _, _, .cons _ t => congrArg (· + 1) t.len
theorem RepL.get : ∀ {vs : List V} {ds : List D} {i : Nat} {d : D}, RepL c Av H vs ds → ds[i]? = some d → ∃ v, vs[i]? = some v ∧ Rep c Av H v d
  | _, _, _, _, .nil, e => by simp at e
  | _, _, 0, _, .cons r _, e => by
    have e' := Option.some.inj e
    subst e'
    exact ⟨_, rfl, r⟩
  | _, _, i + 1, d, .cons _ t, e => by
    obtain ⟨u, h1, h2⟩ := RepL.get (i := i) (d := d) t (by simpa using e)
    exact ⟨u, by simpa using h1, h2⟩
theorem RepL.append : ∀ {vs ws : List V} {ds es : List D}, RepL c Av H vs ds → RepL c Av H ws es → RepL c Av H (vs ++ ws) (ds ++ es)
  | _, _, _, _, .nil, s => s
  | _, _, _, _, .cons r t, s => .cons r (t.append s)
theorem RepL.take : ∀ {vs : List V} {ds : List D} (n : Nat), RepL c Av H vs ds → RepL c Av H (vs.take n) (ds.take n)
  | _, _, 0, _ => .nil
  | _, _, _ + 1, .nil => .nil
  | _, _, n + 1, .cons r t => .cons r (t.take n)
theorem RepL.drop : ∀ {vs : List V} {ds : List D} (n : Nat), RepL c Av H vs ds → RepL c Av H (vs.drop n) (ds.drop n)
  | _, _, 0, r => r
  | _, _, _ + 1, .nil => .nil
  | _, _, n + 1, .cons _ t => t.drop n
theorem RepL.set {v : V} {d : D} (r : Rep c Av H v d) : ∀ {vs : List V} {ds : List D} (i : Nat), RepL c Av H vs ds → RepL c Av H (vs.set i v) (ds.set i d)
  | _, _, _, .nil => .nil
  | _, _, 0, .cons _ t => .cons r t
  | _, _, i + 1, .cons q t => .cons q (t.set r i)
theorem RepL.rev : ∀ {vs : List V} {ds : List D}, RepL c Av H vs ds → RepL c Av H vs.reverse ds.reverse
  | _, _, .nil => .nil
  | _, _, .cons r t => by
    rw [List.reverse_cons, List.reverse_cons]
    exact t.rev.append (.cons r .nil)
theorem RepL.ints : ∀ {vs : List V} {ns : List Int}, RepL c Av H vs (ns.map D.int) → vs = ns.map V.int
  | _, [], h => by cases h; rfl
  | _, n :: ns, h => by
    cases h with
    | cons r t =>
      cases r
      rw [t.ints]
      rfl
theorem RepL.ofInts : ∀ (ns : List Int), RepL c Av H (ns.map V.int) (ns.map D.int)
  | [] => .nil
  | n :: ns => .cons (.int n) (RepL.ofInts ns)
theorem sqL_any {K : PySem.W.Frag} {a : Addr} {vs : List V} (h : SqL K (fun _ => none) a vs) (H : Hp) : SqL K H a vs := by
  rcases h with (h | ⟨o, h⟩) | h
  · cases h
  · cases h
  · exact .inr h
theorem NodT.sq {a : Addr} {vs : List V} (h : NodT c Av H a vs) : SqT c.K H a vs := .inl (.inl h.2.2)
theorem NodL.sq {K : PySem.W.Frag} {a : Addr} {vs : List V} (h : NodL Av H a vs) : SqL K H a vs := .inl (.inl h.2.2)
end

abbrev PEnv := List (Option D)
def OwnA (own : List Nat) (σ : L2.St) (ρ : PEnv) (a : Addr) : Prop := ∃ i d, i ∈ own ∧ ρ[i]? = some (some d) ∧ σ[i]? = some (some (.ref a))
def Avd (c : Cfg) (own : List Nat) (A : Addr → Prop) (σ : L2.St) (ρ : PEnv) (a : Addr) : Prop := A a ∨ c.S a ∨ OwnA own σ ρ a
inductive OwnR (c : Cfg) (Av : Addr → Prop) (H : Hp) (a : Addr) : D → Prop
  | lst {vs : List V} {ds : List D} : vs.length ≤ sizeLine → H a = some (.lst vs) → RepL c Av H vs ds → OwnR c Av H a (.lst ds)
  | dT {ks : List (List Key)} {vs : List V} {ds : List D} : ks.length = vs.length → H a = some (.dT (ks.zip vs)) → RepL c Av H vs ds → OwnR c Av H a (.dT ks ds)
  | dK {ks : List Key} {vs : List V} {ds : List D} : ks.length = vs.length → H a = some (.dK (ks.zip vs)) → RepL c Av H vs ds → OwnR c Av H a (.dK ks ds)
def AvOk (H : Hp) (a : Addr) : Prop := H a ≠ none ∧ ∀ vs, H a ≠ some (.tup vs)
theorem Step.avOk {c c' : Cfg} {H H' : Hp} (t : Step c H c' H') {b : Addr} (h : AvOk H b) : AvOk H' b := by
  by_cases hs : c.S b
  · exact ⟨t.fok.al (t.subS hs), fun vs z => t.fok.notTup (t.subS hs) vs z⟩
  · cases q : H b with
    | none => exact absurd q h.1
    | some o =>
      have e := t.keep b o hs q
      refine ⟨by rw [e]; exact fun z => (nomatch z), fun vs z => h.2 vs ?_⟩
      rw [e] at z
      rw [q, z]
structure EnvR (c : Cfg) (own : List Nat) (A : Addr → Prop) (σ : L2.St) (ρ : PEnv) (H : Hp) : Prop where
  fok : FeedsOk c H
  len : ρ.length = σ.length
  avA : ∀ a, A a → AvOk H a
  slot : ∀ i d, ρ[i]? = some (some d) → i ∉ own → ∃ v, σ[i]? = some (some v) ∧ Rep c (Avd c own A σ ρ) H v d
  ownS : ∀ i d, ρ[i]? = some (some d) → i ∈ own → ∃ a, σ[i]? = some (some (.ref a)) ∧ ¬ A a ∧ ¬ c.S a ∧ OwnR c (Avd c own A σ ρ) H a d
  dist : ∀ i j a d e, i ∈ own → j ∈ own → ρ[i]? = some (some d) → ρ[j]? = some (some e) → σ[i]? = some (some (.ref a)) → σ[j]? = some (some (.ref a)) → i = j
section
variable {c c' : Cfg} {own : List Nat} {A : Addr → Prop} {σ : L2.St} {ρ : PEnv} {H H' : Hp}
theorem OwnR.some {Av : Addr → Prop} {a : Addr} {d : D} (h : OwnR c Av H a d) : H a ≠ none := by
  cases h with
  | lst _ h _ => rw [h]; exact fun z => nomatch z
  | dT _ h _ => rw [h]; exact fun z => nomatch z
  | dK _ h _ => rw [h]; exact fun z => nomatch z
theorem OwnR.mv {Av Av' : Addr → Prop} {a : Addr} {d : D} (k : c'.K = c.K) (f : ∀ a l, c.fx a l → c'.fx a l) (m : ∀ b o, ¬ Av b → H b = .some o → ¬ Av' b ∧ H' b = .some o) (e : ∀ o, H a = .some o → H' a = .some o) (h : OwnR c Av H a d) : OwnR c' Av' H' a d := by
  cases h with
  | lst z h r => exact .lst z (e _ h) (RepL.mv k f m _ _ r)
  | dT z h r => exact .dT z (e _ h) (RepL.mv k f m _ _ r)
  | dK z h r => exact .dK z (e _ h) (RepL.mv k f m _ _ r)
theorem EnvR.own_al (E : EnvR c own A σ ρ H) {a : Addr} (h : OwnA own σ ρ a) : H a ≠ none := by
  obtain ⟨i, d, hi, h1, h2⟩ := h
  obtain ⟨b, e, _, _, r⟩ := E.ownS i d h1 hi
  rw [h2] at e
  have e' := Option.some.inj (Option.some.inj e)
  cases e'
  exact r.some
theorem EnvR.own_av (E : EnvR c own A σ ρ H) {a : Addr} (h : OwnA own σ ρ a) : AvOk H a := by
  refine ⟨E.own_al h, fun vs z => ?_⟩
  obtain ⟨i, d, hi, h1, h2⟩ := h
  obtain ⟨b, e, _, _, r⟩ := E.ownS i d h1 hi
  rw [h2] at e
  have e' := Option.some.inj (Option.some.inj e)
  cases e'
  cases r with
  | lst _ h _ => rw [h] at z; cases z
  | dT _ h _ => rw [h] at z; cases z
  | dK _ h _ => rw [h] at z; cases z
theorem EnvR.al (E : EnvR c own A σ ρ H) {a : Addr} (h : Avd c own A σ ρ a) : H a ≠ none := by
  rcases h with h | h | h
  · exact (E.avA a h).1
  · exact E.fok.al h
  · exact E.own_al h
theorem EnvR.mv (E : EnvR c own A σ ρ H) (t : Step c H c' H') : ∀ b o, ¬ Avd c own A σ ρ b → H b = some o → ¬ Avd c' own A σ ρ b ∧ H' b = some o := fun b o n h => by
  have hs : ¬ c.S b := fun z => n (.inr (.inl z))
  refine ⟨fun z => ?_, t.keep b o hs h⟩
  rcases z with z | z | z
  · exact n (.inl z)
  · exact t.notS h hs z
  · exact n (.inr (.inr z))
theorem EnvR.step (E : EnvR c own A σ ρ H) (t : Step c H c' H') : EnvR c' own A σ ρ H' := by
  have m := E.mv t
  refine ⟨t.fok, E.len, fun a h => t.avOk (E.avA a h), fun i d h hi => ?_, fun i d h hi => ?_, E.dist⟩
  · obtain ⟨v, h1, h2⟩ := E.slot i d h hi
    exact ⟨v, h1, Rep.mv t.kk t.sub m d v h2⟩
  · obtain ⟨a, h1, h2, h3, h4⟩ := E.ownS i d h hi
    have q : H a ≠ none := h4.some
    refine ⟨a, h1, h2, fun z => ?_, h4.mv t.kk t.sub m fun o e => t.keep a o h3 e⟩
    rcases t.new a z with z | z
    · exact h3 z
    · exact q z
end
end DL

set_option Elab.async false
set_option linter.all false
set_option maxRecDepth 100000
set_option maxHeartbeats 2000000
namespace DL
open PySem PySem.Spec PyProof.Rows L2
variable [TabsOf]

theorem pe_imp {X : Cx} {e : Expr} {t t' : TE} (h : PE X e t) (m : ∀ σ H Q, t' σ H Q → t σ H Q) : PE X e t' := ⟨fun pins s σ H Q I q => h.run pins s σ H Q I (m σ H Q q)⟩
theorem pt_imp {X : Cx} {e : Expr} {t t' : TT} (h : PT X e t) (m : ∀ σ H Q, t' σ H Q → t σ H Q) : PT X e t' := ⟨fun pins s σ H Q I q => h.run pins s σ H Q I (m σ H Q q)⟩
theorem pw_imp {X : Cx} {e : Expr} {t t' : TT} (h : PW X e t) (m : ∀ σ H Q, t' σ H Q → t σ H Q) : PW X e t' := ⟨fun w pins s σ H Q I q => h.run w pins s σ H Q I (m σ H Q q)⟩
theorem pa_imp {X : Cx} {es : List Expr} {t t' : TA} (h : PA X es t) (m : ∀ σ H Q, t' σ H Q → t σ H Q) : PA X es t' := ⟨fun p pins s σ H Q I q => h.run p pins s σ H Q I (m σ H Q q)⟩
theorem ps_imp {X : Cx} {st : Stmt} {t t' : TS} (h : PS X st t) (m : ∀ D σ H, t' D σ H → t D σ H) : PS X st t' := ⟨fun pins s σ H D I q => h.run pins s σ H D I (m D σ H q)⟩
theorem pss_imp {X : Cx} {st : List Stmt} {t t' : TS} (h : PSs X st t) (m : ∀ D σ H, t' D σ H → t D σ H) : PSs X st t' := ⟨fun pins s σ H D I q => h.run pins s σ H D I (m D σ H q)⟩

inductive Kd where | weak | strong | fresh
abbrev TED := PEnv → (D → Prop) → Prop
abbrev TTD := PEnv → (Bool → Prop) → Prop
abbrev TAD := PEnv → (List D → Prop) → Prop

section
variable (c : Cfg) (own : List Nat) (A : Addr → Prop) (σ : L2.St) (ρ : PEnv)
def RepW (H : Hp) (v : V) (d : D) : Prop := Rep c (Avd c own A σ ρ) H v d ∨ ∃ a, v = .ref a ∧ OwnA own σ ρ a ∧ ¬ A a ∧ ¬ c.S a ∧ OwnR c (Avd c own A σ ρ) H a d
def Fr (H0 H : Hp) (v : V) (d : D) : Prop := ∃ a, v = .ref a ∧ H0 a = none ∧ ¬ c.S a ∧ OwnR c (fun b => Avd c own A σ ρ b ∨ b = a) H a d
def Res (k : Kd) (H0 H : Hp) (v : V) (d : D) : Prop := match k with
  | .weak => RepW c own A σ ρ H v d
  | .strong => Rep c (Avd c own A σ ρ) H v d
  | .fresh => Fr c own A σ ρ H0 H v d
end

def lift (K : PySem.W.Frag) (own : List Nat) (k : Kd) (p : TED) : TE := fun σ H Q => ∃ c A ρ R, c.K = K ∧ EnvR c own A σ ρ H ∧ p ρ R ∧ ∀ c' v H' d, Step c H c' H' → Res c' own A σ ρ k H H' v d → R d → Q v H'
def liftT (K : PySem.W.Frag) (own : List Nat) (p : TTD) : TT := fun σ H Q => ∃ c A ρ R, c.K = K ∧ EnvR c own A σ ρ H ∧ p ρ R ∧ ∀ c' H' b, Step c H c' H' → R b → Q b H'
def liftA (K : PySem.W.Frag) (own : List Nat) (k : Kd) (n : Nat) (p : TAD) : TA := fun σ H Q => ∃ c A ρ R, c.K = K ∧ EnvR c own A σ ρ H ∧ p ρ R ∧ ∀ c' vs H' ds, Step c H c' H' → Paired (Res c' own A σ ρ k H' H') vs ds → ds.length = n → R ds → Q vs H'

section
variable {c c' : Cfg} {own : List Nat} {A : Addr → Prop} {σ : L2.St} {ρ : PEnv} {H H' H0 : Hp} {v : V} {d : D}
theorem Rep.step (E : EnvR c own A σ ρ H) (t : Step c H c' H') (r : Rep c (Avd c own A σ ρ) H v d) : Rep c' (Avd c' own A σ ρ) H' v d := Rep.mv t.kk t.sub (E.mv t) d v r
theorem RepL.step {vs : List V} {ds : List D} (E : EnvR c own A σ ρ H) (t : Step c H c' H') (r : RepL c (Avd c own A σ ρ) H vs ds) : RepL c' (Avd c' own A σ ρ) H' vs ds := RepL.mv t.kk t.sub (E.mv t) ds vs r
theorem RepW.step (E : EnvR c own A σ ρ H) (t : Step c H c' H') (r : RepW c own A σ ρ H v d) : RepW c' own A σ ρ H' v d := by
  rcases r with r | ⟨a, e, o, n1, n2, r⟩
  · exact .inl (r.step E t)
  · refine .inr ⟨a, e, o, n1, fun z => ?_, r.mv t.kk t.sub (E.mv t) fun o e => t.keep a o n2 e⟩
    rcases t.new a z with z | z
    · exact n2 z
    · exact r.some z
theorem Rep.weak (r : Rep c (Avd c own A σ ρ) H v d) : RepW c own A σ ρ H v d := .inl r
theorem Fr.strong (t : Step c H0 c' H') (E : EnvR c own A σ ρ H0) (r : Fr c' own A σ ρ H0 H' v d) : Rep c' (Avd c' own A σ ρ) H' v d := by
  obtain ⟨a, rfl, n, ns, r⟩ := r
  have na : ¬ Avd c' own A σ ρ a := fun z => by
    rcases z with z | z | z
    · exact (E.avA a z).1 n
    · exact ns z
    · exact E.own_al z n
  have m : ∀ b o, ¬ (Avd c' own A σ ρ b ∨ b = a) → H' b = some o → ¬ Avd c' own A σ ρ b ∧ H' b = some o := fun b o h e => ⟨fun z => h (.inl z), e⟩
  cases r with
  | lst z h r => exact .lst ⟨z, na, h⟩ (RepL.mv rfl (fun _ _ z => z) m _ _ r)
  | dT z h r => exact .dT z na h (RepL.mv rfl (fun _ _ z => z) m _ _ r)
  | dK z h r => exact .dK z na h (RepL.mv rfl (fun _ _ z => z) m _ _ r)
theorem Res.weak {k : Kd} (t : Step c H c' H') (E : EnvR c own A σ ρ H) (r : Res c' own A σ ρ k H H' v d) : RepW c' own A σ ρ H' v d := by
  cases k with
  | weak => exact r
  | strong => exact .inl r
  | fresh => exact .inl (Fr.strong t E r)
theorem Res.strong {k : Kd} (hk : k ≠ .weak) (t : Step c H c' H') (E : EnvR c own A σ ρ H) (r : Res c' own A σ ρ k H H' v d) : Rep c' (Avd c' own A σ ρ) H' v d := by
  cases k with
  | weak => exact absurd rfl hk
  | strong => exact r
  | fresh => exact Fr.strong t E r
theorem RepW.int {i : Int} (r : RepW c own A σ ρ H v (.int i)) : v = .int i := by
  rcases r with r | ⟨a, e, o, n1, n2, r⟩
  · cases r; rfl
  · cases r
theorem RepW.bl {b : Bool} (r : RepW c own A σ ρ H v (.bl b)) : v = .bl b := by
  rcases r with r | ⟨a, e, o, n1, n2, r⟩
  · cases r; rfl
  · cases r
theorem RepW.str {x : Str} (r : RepW c own A σ ρ H v (.str x)) : v = .str x := by
  rcases r with r | ⟨a, e, o, n1, n2, r⟩
  · cases r; rfl
  · cases r
theorem RepW.non (r : RepW c own A σ ρ H v .non) : v = .non := by
  rcases r with r | ⟨a, e, o, n1, n2, r⟩
  · cases r; rfl
  · cases r
theorem RepW.ty {n : String} (r : RepW c own A σ ρ H v (.ty n)) : v = .ty n := by
  rcases r with r | ⟨a, e, o, n1, n2, r⟩
  · cases r; rfl
  · cases r
theorem RepW.ref {a : Addr} (r : RepW c own A σ ρ H v (.ref a)) : v = .ref a := by
  rcases r with r | ⟨a, e, o, n1, n2, r⟩
  · cases r; rfl
  · cases r
theorem RepW.scr {ns : List Int} (r : RepW c own A σ ρ H v (.scr ns)) : ∃ a, v = .ref a ∧ ns.length ≤ 63 ∧ SqL c.K H a (ns.map V.int) := by
  rcases r with r | ⟨a, e, o, n1, n2, r⟩
  · cases r with
    | scr e n =>
      refine ⟨_, rfl, e, ?_⟩
      rcases n with n | n
      · exact .inl n.2
      · exact sqL_any n H
  · cases r
theorem RepW.deal (r : RepW c own A σ ρ H v .deal) : ∃ a l, v = .ref a ∧ a ≠ l ∧ c.fd a l := by
  rcases r with r | ⟨a, e, o, n1, n2, r⟩
  · cases r with | deal n z => exact ⟨_, _, rfl, n, z⟩
  · cases r
theorem RepW.tup {ds : List D} (r : RepW c own A σ ρ H v (.tup ds)) : ∃ a vs, v = .ref a ∧ NodT c (Avd c own A σ ρ) H a vs ∧ RepL c (Avd c own A σ ρ) H vs ds := by
  rcases r with r | ⟨a, e, o, n1, n2, r⟩
  · cases r with | tup n r => exact ⟨_, _, rfl, n, r⟩
  · cases r
theorem RepW.stp {ds : List D} (r : RepW c own A σ ρ H v (.stp ds)) : ∃ a vs, v = .ref a ∧ PlT c (Avd c own A σ ρ) H a vs ∧ RepL c (Avd c own A σ ρ) H vs ds := by
  rcases r with r | ⟨a, e, o, n1, n2, r⟩
  · cases r with | stp n r => exact ⟨_, _, rfl, n, r⟩
  · cases r
theorem RepW.lst {ds : List D} (r : RepW c own A σ ρ H v (.lst ds)) : ∃ a vs, v = .ref a ∧ vs.length ≤ sizeLine ∧ H a = some (.lst vs) ∧ RepL c (Avd c own A σ ρ) H vs ds := by
  rcases r with r | ⟨a, e, o, n1, n2, r⟩
  · cases r with | lst n r => exact ⟨_, _, rfl, n.1, n.2.2, r⟩
  · cases r with | lst z h r => exact ⟨_, _, e, z, h, r⟩
theorem RepW.dT {ks : List (List Key)} {ds : List D} (r : RepW c own A σ ρ H v (.dT ks ds)) : ∃ a vs, v = .ref a ∧ ks.length = vs.length ∧ H a = some (.dT (ks.zip vs)) ∧ RepL c (Avd c own A σ ρ) H vs ds := by
  rcases r with r | ⟨a, e, o, n1, n2, r⟩
  · cases r with | dT e n g r => exact ⟨_, _, rfl, e, g, r⟩
  · cases r with | dT z h r => exact ⟨_, _, e, z, h, r⟩
theorem RepW.dK {ks : List Key} {ds : List D} (r : RepW c own A σ ρ H v (.dK ks ds)) : ∃ a vs, v = .ref a ∧ ks.length = vs.length ∧ H a = some (.dK (ks.zip vs)) ∧ RepL c (Avd c own A σ ρ) H vs ds := by
  rcases r with r | ⟨a, e, o, n1, n2, r⟩
  · cases r with | dK e n g r => exact ⟨_, _, rfl, e, g, r⟩
  · cases r with | dK z h r => exact ⟨_, _, e, z, h, r⟩
theorem Fr.newL (E : EnvR c own A σ ρ H) {vs : List V} {ds : List D} {p : Addr} (hp : H p = none) (hz : vs.length ≤ sizeLine) (r : RepL c (Avd c own A σ ρ) H vs ds) : Fr c own A σ ρ H (L2.upd H p (.lst vs)) (.ref p) (.lst ds) :=
  ⟨p, rfl, hp, E.fok.fresh hp, .lst hz upd_same (RepL.mv rfl (fun _ _ z => z) (fun b o n e => by
    have hb : b ≠ p := ne_of_none e hp
    exact ⟨fun z => z.elim n hb, by rw [upd_ne hb]; exact e⟩) _ _ r)⟩
theorem Rep.newT (E : EnvR c own A σ ρ H) {vs : List V} {ds : List D} {p : Addr} (hp : H p = none) (hz : vs.length ≤ sizeLine) (r : RepL c (Avd c own A σ ρ) H vs ds) : Rep c (Avd c own A σ ρ) (L2.upd H p (.tup vs)) (.ref p) (.tup ds) :=
  .tup ⟨hz, fun z => E.al z hp, upd_same⟩ (RepL.mv rfl (fun _ _ z => z) (fun b o n e => ⟨n, by rw [upd_ne (ne_of_none e hp)]; exact e⟩) _ _ r)
theorem paired_strong {vs : List V} {ds : List D} (h : Paired (Res c own A σ ρ .strong H H) vs ds) : RepL c (Avd c own A σ ρ) H vs ds := by
  induction h with
  | nil => exact .nil
  | cons r _ ih => exact .cons r ih
theorem OwnR.rep {Av Av' : Addr → Prop} {a : Addr} {d : D} (n : ¬ Av' a) (m : ∀ b, Av' b → Av b) (h : OwnR c Av H a d) : Rep c Av' H (.ref a) d := by
  cases h with
  | lst z h r => exact .lst ⟨z, n, h⟩ (RepL.mv rfl (fun _ _ z => z) (fun b o k e => ⟨fun z => k (m b z), e⟩) _ _ r)
  | dT z h r => exact .dT z n h (RepL.mv rfl (fun _ _ z => z) (fun b o k e => ⟨fun z => k (m b z), e⟩) _ _ r)
  | dK z h r => exact .dK z n h (RepL.mv rfl (fun _ _ z => z) (fun b o k e => ⟨fun z => k (m b z), e⟩) _ _ r)
theorem RepW.seen (h : RepW c own A σ ρ H v d) : Rep c (fun b => A b ∨ c.S b) H v d := by
  rcases h with r | ⟨a, e, o, n1, n2, r⟩
  · exact Rep.mv rfl (fun _ _ z => z) (fun b o n e => ⟨fun z => n (z.elim .inl fun z => .inr (.inl z)), e⟩) _ _ r
  · subst e
    exact r.rep (fun z => z.elim n1 n2) fun b z => z.elim .inl fun z => .inr (.inl z)
end

section
variable {X : Cx} {own : List Nat} {k : Kd} {p q r : TED}
theorem e_weak {e : Expr} (h : PE X e (lift X.K own k p)) : PE X e (lift X.K own .weak p) := pe_imp h fun σ H Q ⟨c, A, ρ, R, hk, E, hp, f⟩ => ⟨c, A, ρ, R, hk, E, hp, fun c' v H' d t r => f c' v H' d t (Res.weak t E r)⟩
theorem e_strong {e : Expr} (h : PE X e (lift X.K own .fresh p)) : PE X e (lift X.K own .strong p) := pe_imp h fun σ H Q ⟨c, A, ρ, R, hk, E, hp, f⟩ => ⟨c, A, ρ, R, hk, E, hp, fun c' v H' d t r => f c' v H' d t (Fr.strong t E r)⟩

def pV (i : Nat) : TED := fun ρ R => match ρ[i]? with | some (some d) => R d | _ => False
def pC (d : D) : TED := fun _ R => R d
theorem lift_pV (K : PySem.W.Frag) {i : Nat} (hi : i ∉ own) : ∀ σ H Q, lift K own .strong (pV i) σ H Q → tVar i σ H Q := fun σ H Q ⟨c, A, ρ, R, hk, E, hp, f⟩ => by
  unfold pV at hp
  split at hp
  · rename_i d e
    obtain ⟨v, h1, h2⟩ := E.slot i d e hi
    exact ⟨v, h1, f c v H d (Step.refl E.fok) h2 hp⟩
  · exact hp.elim
theorem lift_pVo (K : PySem.W.Frag) {i : Nat} (hi : i ∈ own) : ∀ σ H Q, lift K own .weak (pV i) σ H Q → tVar i σ H Q := fun σ H Q ⟨c, A, ρ, R, hk, E, hp, f⟩ => by
  unfold pV at hp
  split at hp
  · rename_i d e
    obtain ⟨a, h1, h2, h3, h4⟩ := E.ownS i d e hi
    exact ⟨.ref a, h1, f c _ H d (Step.refl E.fok) (.inr ⟨a, rfl, ⟨i, d, hi, e, h1⟩, h2, h3, h4⟩) hp⟩
  · exact hp.elim
theorem e_var (i : Nat) {x : Str} {pos : Pos} (ho : i ∉ own := by decide) (hN : X.N[i]? = some x := by rfl) (hv : Vis X.env.scope x := by first | exact Or.inl rfl | exact Or.inr (Or.inl rfl) | exact Or.inr (Or.inr rfl)) (hd : (x == ("__debug__" : Str)) = false := by decide)
    (hcd : (x == ("__classdict__" : Str)) = false := by decide) : PE X (.Name x pos) (lift X.K own .strong (pV i)) := pe_imp (pe_var hN hv hd hcd) (lift_pV _ ho)
theorem e_varO (i : Nat) {x : Str} {pos : Pos} (ho : i ∈ own := by decide) (hN : X.N[i]? = some x := by rfl) (hv : Vis X.env.scope x := by first | exact Or.inl rfl | exact Or.inr (Or.inl rfl) | exact Or.inr (Or.inr rfl)) (hd : (x == ("__debug__" : Str)) = false := by decide)
    (hcd : (x == ("__classdict__" : Str)) = false := by decide) : PE X (.Name x pos) (lift X.K own .weak (pV i)) := pe_imp (pe_var hN hv hd hcd) (lift_pVo _ ho)
theorem lift_pC (K : PySem.W.Frag) {v : V} {d : D} (r : ∀ c Av H, Rep c Av H v d) : ∀ σ H Q, lift K own .strong (pC d) σ H Q → tC v σ H Q := fun σ H Q ⟨c, A, ρ, R, hk, E, hp, f⟩ => f c v H d (Step.refl E.fok) (r _ _ _) hp
theorem e_int {i j pos} : PE X (.Constant (.int i) j pos) (lift X.K own .strong (pC (.int i))) := pe_imp pe_int (lift_pC _ fun _ _ _ => .int i)
theorem e_bl {b j pos} : PE X (.Constant (.bool b) j pos) (lift X.K own .strong (pC (.bl b))) := pe_imp pe_bl (lift_pC _ fun _ _ _ => .bl b)
theorem e_non {j pos} : PE X (.Constant .none j pos) (lift X.K own .strong (pC .non)) := pe_imp pe_non (lift_pC _ fun _ _ _ => .non)
theorem e_str {x j pos} : PE X (.Constant (.str x) j pos) (lift X.K own .strong (pC (.str x))) := pe_imp pe_str (lift_pC _ fun _ _ _ => .str x)
def C1 (K : PySem.W.Frag) (r : V → Hp → VK → Prop) (ko : Kd) (r' : D → (D → Prop) → Prop) : Prop := ∀ c own A σ ρ H v d R (Q : VK), c.K = K → EnvR c own A σ ρ H → RepW c own A σ ρ H v d → r' d R →
  (∀ c' v' H' d', Step c H c' H' → Res c' own A σ ρ ko H H' v' d' → R d' → Q v' H') → r v H Q
def C2 (K : PySem.W.Frag) (r : R2) (ko : Kd) (r' : D → D → (D → Prop) → Prop) : Prop := ∀ c own A σ ρ H v w d e R (Q : VK), c.K = K → EnvR c own A σ ρ H → RepW c own A σ ρ H v d → RepW c own A σ ρ H w e → r' d e R →
  (∀ c' v' H' d', Step c H c' H' → Res c' own A σ ρ ko H H' v' d' → R d' → Q v' H') → r v w H Q
def CL (K : PySem.W.Frag) (r : List V → Hp → VK → Prop) (ko : Kd) (r' : List D → (D → Prop) → Prop) : Prop := ∀ c own A σ ρ H vs ds R (Q : VK), c.K = K → EnvR c own A σ ρ H → Paired (RepW c own A σ ρ H) vs ds → r' ds R →
  (∀ c' v' H' d', Step c H c' H' → Res c' own A σ ρ ko H H' v' d' → R d' → Q v' H') → r vs H Q
theorem Fr.back {c : Cfg} {own : List Nat} {A : Addr → Prop} {σ : L2.St} {ρ : PEnv} {H0 H1 H2 : Hp} {v : V} {d : D} {c0 c1 : Cfg} (t : Step c0 H0 c1 H1) (h : Fr c own A σ ρ H1 H2 v d) : Fr c own A σ ρ H0 H2 v d := by
  obtain ⟨a, e, n, r⟩ := h
  exact ⟨a, e, t.fresh n, r⟩
theorem Res.back {c : Cfg} {own : List Nat} {A : Addr → Prop} {σ : L2.St} {ρ : PEnv} {H0 H1 H2 : Hp} {v : V} {d : D} {c0 c1 : Cfg} {k : Kd} (t : Step c0 H0 c1 H1) (h : Res c own A σ ρ k H1 H2 v d) : Res c own A σ ρ k H0 H2 v d := by
  cases k with
  | weak => exact h
  | strong => exact h
  | fresh => exact Fr.back t h
def p1 (r' : D → (D → Prop) → Prop) (p : TED) : TED := fun ρ R => p ρ fun x => r' x R
def p2 (r' : D → D → (D → Prop) → Prop) (p q : TED) : TED := fun ρ R => p ρ fun x => q ρ fun y => r' x y R
def pL (r' : List D → (D → Prop) → Prop) (p : TAD) : TED := fun ρ R => p ρ fun ds => r' ds R
theorem lift2 {K : PySem.W.Frag} {r : R2} {ko : Kd} {r' : D → D → (D → Prop) → Prop} (hr : C2 K r ko r') : ∀ σ H Q, lift K own ko (p2 r' p q) σ H Q → tOp r (lift K own .weak p) (lift K own .weak q) σ H Q :=
  fun σ H Q ⟨c, A, ρ, R, hk, E, hp, f⟩ => ⟨c, A, ρ, fun x => q ρ fun y => r' x y R, hk, E, hp, fun c1 v1 H1 d1 t1 r1 g1 => ⟨c1, A, ρ, fun y => r' d1 y R, t1.kk.trans hk, E.step t1, g1, fun c2 v2 H2 d2 t2 r2 g2 =>
    hr c2 own A σ ρ H2 v1 v2 d1 d2 R Q (t2.kk.trans (t1.kk.trans hk)) ((E.step t1).step t2) (RepW.step (E.step t1) t2 r1) r2 g2 fun c3 v3 H3 d3 t3 r3 g3 => f c3 v3 H3 d3 ((t1.trans t2).trans t3) (Res.back (t1.trans t2) r3) g3⟩⟩
theorem liftL {K : PySem.W.Frag} {r : List V → Hp → VK → Prop} {ko : Kd} {r' : List D → (D → Prop) → Prop} {n : Nat} {pa : TAD} (hr : CL K r ko r') : ∀ σ H Q, lift K own ko (pL r' pa) σ H Q → tCB r (liftA K own .weak n pa) σ H Q :=
  fun σ H Q ⟨c, A, ρ, R, hk, E, hp, f⟩ => ⟨c, A, ρ, fun ds => r' ds R, hk, E, hp, fun c1 vs H1 ds t1 r1 hn g1 =>
    hr c1 own A σ ρ H1 vs ds R Q (t1.kk.trans hk) (E.step t1) r1 g1 fun c2 v2 H2 d2 t2 r2 g2 => f c2 v2 H2 d2 (t1.trans t2) (Res.back t1 r2) g2⟩
variable {a b : Expr} {pos : Pos} {ko : Kd}
theorem e_op {op : Operator} {r : R2} {r' : D → D → (D → Prop) → Prop} (ho : OpR X (binaryOp op) r) (hr : C2 X.K r ko r') (ha : PE X a (lift X.K own .weak p)) (hb : PE X b (lift X.K own .weak q)) : PE X (.BinOp a op b pos) (lift X.K own ko (p2 r' p q)) := pe_imp (pe_op ho ha hb) (lift2 hr)
theorem e_cmp {op : CmpOp} {r : R2} {r' : D → D → (D → Prop) → Prop} (ho : OpR X (compareOp op) r) (hr : C2 X.K r ko r') (ha : PE X a (lift X.K own .weak p)) (hb : PE X b (lift X.K own .weak q)) (hm : behindInMarks op b = false := by first | exact nomark _ | rfl) : PE X (.Compare a [op] [b] pos) (lift X.K own ko (p2 r' p q)) := pe_imp (pe_cmpR ho ha hb hm) (lift2 hr)
theorem e_ix {r : R2} {r' : D → D → (D → Prop) → Prop} (ho : IxR X r) (hr : C2 X.K r ko r') (ha : PE X a (lift X.K own .weak p)) (hb : PE X b (lift X.K own .weak q)) (hs : PlainIx b := by exact fun _ _ => rfl) : PE X (.Subscript a b pos) (lift X.K own ko (p2 r' p q)) := pe_imp (pe_ix ho ha hb hs) (lift2 hr)
theorem e_callB {e : Expr} {es : List Expr} {x : Str} {id : String} {r : List V → Hp → VK → Prop} {r' : List D → (D → Prop) → Prop} {n : Nat} {pa : TAD} {pn : Pos} (hc : CallR X (.builtin id) r) (hr : CL X.K r ko r') (ha : PA X (e :: es) (liftA X.K own .weak n pa)) (hm : X.mg x = none) (hg : Gl X x := by rfl) (hv : bootBuiltins x = some (.builtin id) := by decide +kernel) (hn : x ≠ "__name__" := by decide) (hdb : (x == ("__debug__" : Str)) = false := by decide)
    (hs : starEach (e :: es) X.env = (false, eval e X.env) :: starEach es X.env := by rfl) (hpl : (backTo pos (starEach es X.env)).any (·.1) = false := by rfl) :
    PE X (.Call (.Name x pn) (e :: es) [] pos) (lift X.K own ko (pL r' pa)) := pe_imp (pe_callB hc hg hm hv ha hn hdb hs hpl) (liftL hr)
end
end DL

set_option Elab.async false
set_option linter.all false
set_option maxRecDepth 100000
set_option maxHeartbeats 2000000
namespace DL
open PySem PySem.Spec PyProof.Rows L2
variable [TabsOf]

section
variable {X : Cx} {own : List Nat} {k : Kd} {p q r : TED}
def paN : TAD := fun _ R => R []
def paC (p : TED) (pa : TAD) : TAD := fun ρ R => p ρ fun x => pa ρ fun xs => R (x :: xs)
theorem a_nil : PA X [] (liftA X.K own k 0 paN) := pa_imp pa_nil fun σ H Q ⟨c, A, ρ, R, hk, E, hp, f⟩ => f c [] H [] (Step.refl E.fok) .nil rfl hp
theorem a_cons {e : Expr} {es : List Expr} {n : Nat} {pa : TAD} (ha : PE X e (lift X.K own .weak p)) (hr : PA X es (liftA X.K own .weak n pa)) (hs : starEach (e :: es) X.env = (false, eval e X.env) :: starEach es X.env := by rfl) : PA X (e :: es) (liftA X.K own .weak (n + 1) (paC p pa)) :=
  pa_imp (pa_cons ha hr hs) fun σ H Q ⟨c, A, ρ, R, hk, E, hp, f⟩ => ⟨c, A, ρ, fun x => pa ρ fun xs => R (x :: xs), hk, E, hp, fun c1 v1 H1 d1 t1 r1 g1 => ⟨c1, A, ρ, fun xs => R (d1 :: xs), t1.kk.trans hk, E.step t1, g1, fun c2 vs H2 ds t2 r2 hn g2 =>
    f c2 (v1 :: vs) H2 (d1 :: ds) (t1.trans t2) (.cons (RepW.step (E.step t1) t2 r1) r2) (by rw [List.length_cons, hn]) g2⟩⟩
theorem a_consS {e : Expr} {es : List Expr} {n : Nat} {pa : TAD} (ha : PE X e (lift X.K own .strong p)) (hr : PA X es (liftA X.K own .strong n pa)) (hs : starEach (e :: es) X.env = (false, eval e X.env) :: starEach es X.env := by rfl) : PA X (e :: es) (liftA X.K own .strong (n + 1) (paC p pa)) :=
  pa_imp (pa_cons ha hr hs) fun σ H Q ⟨c, A, ρ, R, hk, E, hp, f⟩ => ⟨c, A, ρ, fun x => pa ρ fun xs => R (x :: xs), hk, E, hp, fun c1 v1 H1 d1 t1 r1 g1 => ⟨c1, A, ρ, fun xs => R (d1 :: xs), t1.kk.trans hk, E.step t1, g1, fun c2 vs H2 ds t2 r2 hn g2 =>
    f c2 (v1 :: vs) H2 (d1 :: ds) (t1.trans t2) (.cons (Rep.step (E.step t1) t2 r1) r2) (by rw [List.length_cons, hn]) g2⟩⟩
theorem paired_len {α β : Type} {F : α → β → Prop} {xs : List α} {ys : List β} (h : Paired F xs ys) : xs.length = ys.length := by
  induction h with
  | nil => rfl
  | cons _ _ ih => rw [List.length_cons, List.length_cons, ih]
theorem sz_small {n : Nat} (h : n ≤ 1000) : n ≤ sizeLine := Nat.le_of_lt (small1000 h)

def pTup (pa : TAD) : TED := fun ρ R => pa ρ fun ds => R (.tup ds)
def pLst (pa : TAD) : TED := fun ρ R => pa ρ fun ds => R (.lst ds)
theorem e_tup {es : List Expr} {n x1 : Nat} {pa : TAD} {pos : Pos} (ha : PA X es (liftA X.K own .strong n pa)) (hn : n ≤ 1000 := by decide) : PE X (.Tuple es x1 pos) (lift X.K own .strong (pTup pa)) :=
  pe_imp (pe_tup ha) fun σ H Q ⟨c, A, ρ, R, hk, E, hp, f⟩ => ⟨c, A, ρ, _, hk, E, hp, fun c1 vs H1 ds t1 r1 hl g1 => by
    have rl := paired_strong r1
    have hz : vs.length ≤ sizeLine := by rw [paired_len r1, hl]; exact sz_small hn
    exact ⟨hz, fun p hp => f c1 (.ref p) _ (.tup ds) (t1.more hp) (Rep.newT (E.step t1) hp hz rl) g1⟩⟩
theorem e_lst {es : List Expr} {n : Nat} {pa : TAD} {pos : Pos} (ha : PA X es (liftA X.K own .strong n pa)) (hn : n ≤ 1000 := by decide) : PE X (.List es pos) (lift X.K own .fresh (pLst pa)) :=
  pe_imp (pe_lst ha) fun σ H Q ⟨c, A, ρ, R, hk, E, hp, f⟩ => ⟨c, A, ρ, _, hk, E, hp, fun c1 vs H1 ds t1 r1 hl g1 => by
    have rl := paired_strong r1
    have hz : vs.length ≤ sizeLine := by rw [paired_len r1, hl]; exact sz_small hn
    exact ⟨hz, fun p hp => f c1 (.ref p) _ (.lst ds) (t1.more hp) (Fr.back t1 (Fr.newL (E.step t1) hp hz rl)) g1⟩⟩

def dBl (x : D) (f : Bool → Prop) : Prop := match x with | .bl b => f b | _ => False
def dInt (x : D) (f : Int → Prop) : Prop := match x with | .int i => f i | _ => False
theorem dBl_iff {x : D} {f : Bool → Prop} (h : dBl x f) : ∃ b, x = .bl b ∧ f b := by
  cases x with
  | bl b => exact ⟨b, rfl, h⟩
  | _ => exact h.elim
theorem dInt_iff {x : D} {f : Int → Prop} (h : dInt x f) : ∃ b, x = .int b ∧ f b := by
  cases x with
  | int b => exact ⟨b, rfl, h⟩
  | _ => exact h.elim
def pAnd (p q : TED) : TED := fun ρ R => p ρ fun x => dBl x fun b => if b = true then q ρ R else R (.bl false)
def pOr (p q : TED) : TED := fun ρ R => p ρ fun x => dBl x fun b => if b = true then R (.bl true) else q ρ R
def pNot (p : TED) : TED := fun ρ R => p ρ fun x => dBl x fun b => R (.bl (!b))
variable {a b : Expr} {pos : Pos} {rest : List Expr}
def tV (p : TED) : TTD := fun ρ R => p ρ fun x => dBl x R
def tAndD (t u : TTD) : TTD := fun ρ R => t ρ fun b => if b = true then u ρ R else R false
def tOrD (t u : TTD) : TTD := fun ρ R => t ρ fun b => if b = true then R true else u ρ R
def tNotD (t : TTD) : TTD := fun ρ R => t ρ fun b => R (!b)
variable {t u : TTD}
theorem t_cmp {op : CmpOp} {r : R2} {r' : D → D → (D → Prop) → Prop} {ko : Kd} (ho : OpR X (compareOp op) r) (hr : C2 X.K r .strong r') (ha : PE X a (lift X.K own .weak p)) (hb : PE X b (lift X.K own .weak q)) (hm : behindInMarks op b = false := by first | exact nomark _ | rfl) : PT X (.Compare a [op] [b] pos) (liftT X.K own (tV (p2 r' p q))) :=
  pt_imp (pt_cmpR ho ha hb hm) fun σ H Q ⟨c, A, ρ, R, hk, E, hp, f⟩ => lift2 hr σ H _ ⟨c, A, ρ, fun x => dBl x R, hk, E, hp, fun c1 v1 H1 d1 t1 r1 g1 => by
    obtain ⟨b, rfl, g1⟩ := dBl_iff g1
    cases r1
    exact ⟨b, rfl, f c1 H1 b t1 g1⟩⟩
theorem t_or1 (ha : PT X a (liftT X.K own t)) : PW X (.BoolOp .Or [a] pos) (liftT X.K own t) := pw_or1 ha
theorem t_or (ha : PT X a (liftT X.K own t)) (hb : PW X (.BoolOp .Or (b :: rest) pos) (liftT X.K own u)) : PW X (.BoolOp .Or (a :: b :: rest) pos) (liftT X.K own (tOrD t u)) :=
  pw_imp (pw_or ha hb) fun σ H Q ⟨c, A, ρ, R, hk, E, hp, f⟩ => ⟨c, A, ρ, _, hk, E, hp, fun c1 H1 b t1 g1 => by
    cases b with
    | false => exact ⟨c1, A, ρ, R, t1.kk.trans hk, E.step t1, g1, fun c2 H2 d2 t2 g2 => f c2 H2 d2 (t1.trans t2) g2⟩
    | true => exact f c1 H1 true t1 g1⟩
def pIf (t : TTD) (p q : TED) : TED := fun ρ R => t ρ fun b => if b = true then p ρ R else q ρ R
def pChain (r s : D → D → (D → Prop) → Prop) (p q w : TED) : TED := fun ρ R => p ρ fun x => q ρ fun y => r x y fun z => dBl z fun b => if b = true then w ρ fun v => s y v R else R (.bl false)
def ResF (k : Kd) (c : Cfg) (A : Addr → Prop) (H0 H : Hp) (v : V) (d : D) : Prop := match k with
  | .fresh => ∃ a, v = .ref a ∧ H0 a = none ∧ ¬ c.S a ∧ OwnR c (fun b => A b ∨ c.S b ∨ b = a) H a d
  | _ => Rep c (fun b => A b ∨ c.S b) H v d
def spD (K : PySem.W.Frag) (n : Nat) (ko : Kd) (w : List D → (D → Prop) → Prop) : Sp := fun vs H Q _ => vs.length = n ∧ ∃ c A ds R, c.K = K ∧ FeedsOk c H ∧ (∀ a, A a → AvOk H a) ∧ RepL c (fun a => A a ∨ c.S a) H vs ds ∧ w ds R ∧
  ∀ c' v H' d, Step c H c' H' → ResF ko c' A H H' v d → R d → Q v H'
def pCall (w : List D → (D → Prop) → Prop) (pa : TAD) : TED := fun ρ R => pa ρ fun ds => w ds R
def D.flat : D → Bool
  | .tup ds => flats ds
  | .lst _ => false
  | .dT _ _ => false
  | .dK _ _ => false
  | .scr _ => false
  | .exc _ _ _ _ => false
  | .stp _ => false
  | .lam _ _ => false
  | .err _ _ => false
  | _ => true
where flats : List D → Bool
  | [] => true
  | d :: ds => d.flat && flats ds
theorem ResF.here {c' : Cfg} {A : Addr → Prop} {σ : L2.St} {ρ : PEnv} {H H' : Hp} {v : V} {d : D} {ko : Kd} (hk : ko ≠ .weak) (r : ResF ko c' (fun b => A b ∨ OwnA own σ ρ b) H H' v d) : Res c' own A σ ρ ko H H' v d := by
  cases ko with
  | weak => exact absurd rfl hk
  | strong => exact Rep.mv rfl (fun _ _ z => z) (fun b o n e => ⟨fun z => n (by rcases z with z | z | z; exact .inl (.inl z); exact .inr z; exact .inl (.inr z)), e⟩) _ _ r
  | fresh =>
    obtain ⟨a, rfl, n, ns, r⟩ := r
    refine ⟨a, rfl, n, ns, r.mv rfl (fun _ _ z => z) (fun b o n e => ⟨fun z => n (by rcases z with (z | z | z) | z; exact .inl (.inl z); exact .inr (.inl z); exact .inl (.inr z); exact .inr (.inr z)), e⟩) fun _ e => e⟩
theorem lift_call {K : PySem.W.Frag} {n : Nat} {ko : Kd} {w : List D → (D → Prop) → Prop} {pa : TAD} {E0 : XK} (hk : ko ≠ .weak) : ∀ σ H Q, lift K own ko (pCall w pa) σ H Q → tCall (spD K n ko w) [] E0 (liftA K own .strong n pa) σ H Q :=
  fun σ H Q ⟨c, A, ρ, R, hK, E, hp, f⟩ => ⟨c, A, ρ, _, hK, E, hp, fun c1 vs H1 ds t1 r1 hn g1 => by
    have E1 := E.step t1
    have rl := paired_strong r1
    refine ⟨by rw [List.append_nil, rl.len, hn], c1, fun b => A b ∨ OwnA own σ ρ b, ds, R, t1.kk.trans hK, E1.fok, fun a h => h.elim (E1.avA a) E1.own_av, ?_, g1, fun c2 v H2 d t2 r2 g2 => ?_⟩
    · rw [List.append_nil]
      exact RepL.mv rfl (fun _ _ z => z) (fun b o n e => ⟨fun z => n (by rcases z with (z | z) | z; exact .inl z; exact .inr (.inr z); exact .inr (.inl z)), e⟩) _ _ rl
    · exact f c2 v H2 d (t1.trans t2) (Res.back t1 (ResF.here hk r2)) g2⟩
def pCallW (w : List D → (D → Prop) → Prop) (pa : TAD) : TED := fun ρ R => pa ρ fun ds => w ds fun d => d.flat = true ∧ R d
section
variable {e : Expr} {es : List Expr} {x : Str} {pn : Pos} {f : Addr} {fd : FuncData} {ps : List Str} {kk n : Nat} {ko : Kd} {w : List D → (D → Prop) → Prop} {pa : TAD}
theorem e_call (F : FnOk X.prog X.w X.K X.mg X.base CX0 kk f fd ps (spD X.K n ko w)) (hr : Room kk X.A) (hm : X.mg x = some (.ref f)) (hkp : PySem.W.keepIn X.K (.ref f) = true) (hb : Binds X.K fd ps []) (ha : PA X (e :: es) (liftA X.K own .strong n pa)) (hk : ko ≠ .weak := by intro z; cases z) (hg : Gl X x := by rfl)
    (hs : starEach (e :: es) X.env = (false, eval e X.env) :: starEach es X.env := by rfl) (hpl : (backTo pos (starEach es X.env)).any (·.1) = false := by rfl) (hd : (x == ("__debug__" : Str)) = false := by decide) :
    PE X (.Call (.Name x pn) (e :: es) [] pos) (lift X.K own ko (pCall w pa)) := pe_imp (pe_call (E := E0) F hr hg hm hkp hb .nil pass0 ha hd hs hpl) (lift_call hk)
end
end
end DL

set_option Elab.async false
set_option linter.all false
set_option maxRecDepth 100000
set_option maxHeartbeats 2000000
namespace DL
open PySem PySem.Spec PyProof.Rows L2
variable [TabsOf]

section
variable {c c' : Cfg} {own : List Nat} {A : Addr → Prop} {σ σ' : L2.St} {ρ ρ' : PEnv} {H H' H0 : Hp}
theorem ownA_congr (h : ∀ i, i ∈ own → ρ'[i]? = ρ[i]? ∧ σ'[i]? = σ[i]?) (a : Addr) : OwnA own σ' ρ' a ↔ OwnA own σ ρ a := by
  constructor
  · rintro ⟨i, d, hi, h1, h2⟩
    exact ⟨i, d, hi, by rw [← (h i hi).1]; exact h1, by rw [← (h i hi).2]; exact h2⟩
  · rintro ⟨i, d, hi, h1, h2⟩
    exact ⟨i, d, hi, by rw [(h i hi).1]; exact h1, by rw [(h i hi).2]; exact h2⟩
theorem avd_congr (h : ∀ i, i ∈ own → ρ'[i]? = ρ[i]? ∧ σ'[i]? = σ[i]?) : Avd c own A σ' ρ' = Avd c own A σ ρ := by
  funext a
  unfold Avd
  rw [propext (ownA_congr h a)]
theorem EnvR.re (E : EnvR c own A σ ρ H) (hl : ρ'.length = σ'.length) (h : ∀ i, i ∈ own → ρ'[i]? = ρ[i]? ∧ σ'[i]? = σ[i]?)
    (hs : ∀ i d, ρ'[i]? = some (some d) → i ∉ own → ∃ v, σ'[i]? = some (some v) ∧ Rep c (Avd c own A σ ρ) H v d) : EnvR c own A σ' ρ' H := by
  have e := avd_congr (c := c) (A := A) h
  refine ⟨E.fok, hl, E.avA, fun i d h1 hi => ?_, fun i d h1 hi => ?_, fun i j a d e hi hj h1 h2 h3 h4 => ?_⟩
  · rw [e]; exact hs i d h1 hi
  · rw [e]
    rw [(h i hi).1] at h1
    rw [(h i hi).2]
    exact E.ownS i d h1 hi
  · rw [(h i hi).1] at h1
    rw [(h j hj).1] at h2
    rw [(h i hi).2] at h3
    rw [(h j hj).2] at h4
    exact E.dist i j a d e hi hj h1 h2 h3 h4
theorem EnvR.set (E : EnvR c own A σ ρ H) {i : Nat} {v : V} {d : D} (hi : i ∉ own) (r : Rep c (Avd c own A σ ρ) H v d) : EnvR c own A (σ.set i (some v)) (ρ.set i (some d)) H := by
  refine E.re (by rw [List.length_set, List.length_set]; exact E.len) (fun j hj => ?_) fun j e h1 hj => ?_
  · have hne : i ≠ j := fun z => hi (z ▸ hj)
    rw [List.getElem?_set_ne hne, List.getElem?_set_ne hne]
    exact ⟨rfl, rfl⟩
  · by_cases hne : i = j
    · subst hne
      by_cases hz : i < ρ.length
      · rw [List.getElem?_set_self hz] at h1
        cases h1
        exact ⟨v, List.getElem?_set_self (by rw [← E.len]; exact hz), r⟩
      · rw [List.getElem?_eq_none (by rw [List.length_set]; omega)] at h1
        cases h1
    · rw [List.getElem?_set_ne hne] at h1
      rw [List.getElem?_set_ne hne]
      exact E.slot j e h1 hj
theorem EnvR.more (E : EnvR c own A σ ρ H) {p : Addr} {o : HO} (hp : H p = none) (ho : ∀ vs, o ≠ .tup vs := by intro _ z; cases z) : EnvR c own (fun b => A b ∨ b = p) σ ρ (upd H p o) := by
  have t : Step c H c (upd H p o) := .one E.fok hp
  have E1 := E.step t
  have m : ∀ b u, ¬ Avd c own A σ ρ b → H b = some u → ¬ Avd c own (fun b => A b ∨ b = p) σ ρ b ∧ (upd H p o) b = some u := fun b u n e => by
    have hb := ne_of_none e hp
    refine ⟨fun z => n ?_, by rw [upd_ne hb]; exact e⟩
    rcases z with (z | z) | z | z
    · exact .inl z
    · exact absurd z hb
    · exact .inr (.inl z)
    · exact .inr (.inr z)
  refine ⟨E1.fok, E.len, fun a h => ?_, fun i d h hi => ?_, fun i d h hi => ?_, E.dist⟩
  · rcases h with h | h
    · exact E1.avA a h
    · subst h; unfold AvOk; rw [upd_same]; exact ⟨fun z => (nomatch z), fun vs z => ho vs (Option.some.inj z)⟩
  · obtain ⟨v, h1, h2⟩ := E.slot i d h hi
    exact ⟨v, h1, Rep.mv rfl (fun _ _ z => z) m d v h2⟩
  · obtain ⟨a, h1, h2, h3, h4⟩ := E.ownS i d h hi
    have ha : a ≠ p := fun z => h4.some (z ▸ hp)
    exact ⟨a, h1, fun z => z.elim h2 ha, h3, h4.mv rfl (fun _ _ z => z) m fun o e => by rw [upd_ne ha]; exact e⟩
def wipeD (ρ : PEnv) : List Nat → PEnv
  | [] => ρ
  | v :: vs => (wipeD ρ vs).set v none
theorem wipeD_length (ρ : PEnv) : ∀ vs : List Nat, (wipeD ρ vs).length = ρ.length
  | [] => rfl
  | v :: vs => by unfold wipeD; rw [List.length_set, wipeD_length ρ vs]
theorem wipeD_some {ρ : PEnv} {i : Nat} {x : D} : ∀ {vs : List Nat}, (wipeD ρ vs)[i]? = some (some x) → ρ[i]? = some (some x) ∧ i ∉ vs
  | [], h => ⟨h, by simp⟩
  | v :: vs, h => by
    unfold wipeD at h
    by_cases hi : v = i
    · subst hi
      by_cases hv : v < (wipeD ρ vs).length
      · rw [List.getElem?_set_self hv] at h; cases h
      · rw [List.getElem?_eq_none (by simpa using hv)] at h; cases h
    · rw [List.getElem?_set_ne hi] at h
      obtain ⟨h1, h2⟩ := wipeD_some h
      exact ⟨h1, by simp only [List.mem_cons, not_or]; exact ⟨fun e => hi e.symm, h2⟩⟩
theorem wipeD_out {ρ : PEnv} {i : Nat} : ∀ {vs : List Nat}, i ∉ vs → (wipeD ρ vs)[i]? = ρ[i]?
  | [], _ => rfl
  | v :: vs, h => by
    simp only [List.mem_cons, not_or] at h
    unfold wipeD
    rw [List.getElem?_set_ne (fun z => h.1 z.symm)]
    exact wipeD_out h.2
theorem wipeS_out {σ : L2.St} {i : Nat} : ∀ {vs : List Nat}, i ∉ vs → (wipe σ vs)[i]? = σ[i]?
  | [], _ => rfl
  | v :: vs, h => by
    simp only [List.mem_cons, not_or] at h
    unfold wipe
    rw [List.getElem?_set_ne (fun z => h.1 z.symm)]
    exact wipeS_out h.2
theorem EnvR.wipe (E : EnvR c own A σ ρ H) {vs : List Nat} (h : ∀ i ∈ vs, i ∉ own) : EnvR c own A (L2.wipe σ vs) (wipeD ρ vs) H := by
  refine E.re (by rw [wipeD_length, wipe_length]; exact E.len) (fun i hi => ?_) fun i d h1 hi => ?_
  · have : i ∉ vs := fun z => h i z hi
    exact ⟨wipeD_out this, wipeS_out this⟩
  · obtain ⟨h2, h3⟩ := wipeD_some h1
    rw [wipeS_out h3]
    exact E.slot i d h2 hi
theorem wipe_set {σ : L2.St} {i : Nat} {x : Option V} : ∀ {vs : List Nat}, i ∈ vs → L2.wipe (σ.set i x) vs = L2.wipe σ vs
  | v :: vs, h => by
    unfold L2.wipe
    by_cases hi : i ∈ vs
    · rw [wipe_set hi]
    · have e : i = v := by
        rcases List.mem_cons.mp h with h | h
        · exact h
        · exact absurd h hi
      subst e
      have : ∀ ws : List Nat, i ∉ ws → L2.wipe (σ.set i x) ws = (L2.wipe σ ws).set i x := by
        intro ws
        induction ws with
        | nil => intro _; rfl
        | cons w ws ih =>
          intro hn
          simp only [List.mem_cons, not_or] at hn
          unfold L2.wipe
          rw [ih hn.2, List.set_comm _ _ hn.1]
      rw [this vs hi, List.set_set]
end

abbrev TGD := D → PEnv → (PEnv → Prop) → Prop
abbrev TGsD := List D → PEnv → (PEnv → Prop) → Prop
def TgOk (K : PySem.W.Frag) (own is : List Nat) (g : TG) (p : TGD) : Prop := ∀ c A σ ρ H v d Qd (Q : L2.St → Hp → Prop), c.K = K → EnvR c own A σ ρ H → Rep c (Avd c own A σ ρ) H v d → p d ρ Qd →
  (∀ σ' ρ', EnvR c own A σ' ρ' H → (∀ i, i ∈ own → ρ'[i]? = ρ[i]? ∧ σ'[i]? = σ[i]?) → (∀ vs, (∀ i ∈ is, i ∈ vs) → L2.wipe σ' vs = L2.wipe σ vs) → Qd ρ' → Q σ' H) → g v σ H Q
def TgsOk (K : PySem.W.Frag) (own is : List Nat) (g : TGs) (p : TGsD) : Prop := ∀ c A σ ρ H vs ds Qd (Q : L2.St → Hp → Prop), c.K = K → EnvR c own A σ ρ H → RepL c (Avd c own A σ ρ) H vs ds → p ds ρ Qd →
  (∀ σ' ρ', EnvR c own A σ' ρ' H → (∀ i, i ∈ own → ρ'[i]? = ρ[i]? ∧ σ'[i]? = σ[i]?) → (∀ vs, (∀ i ∈ is, i ∈ vs) → L2.wipe σ' vs = L2.wipe σ vs) → Qd ρ' → Q σ' H) → g vs σ H Q
def gN (i : Nat) : TGD := fun d ρ Q => Q (ρ.set i (some d))
def gsN : TGsD := fun ds ρ Q => match ds with | [] => Q ρ | _ => False
def gsC (g : TGD) (gs : TGsD) : TGsD := fun ds ρ Q => match ds with | d :: ds => g d ρ fun ρ' => gs ds ρ' Q | [] => False
def gT (gs : TGsD) : TGD := fun d ρ Q => match d with | .tup ds => gs ds ρ Q | .lst ds => gs ds ρ Q | _ => False
def gTL (K : PySem.W.Frag) (n : Nat) (t : TGs) : TG := fun v σ H Q => gTup K n t v σ H Q ∨ gUnl K n t v σ H Q
theorem pg_tupA {X : Cx} {es : List Expr} {k : Nat} {t : TGs} {n : Nat} {pos : Pos} (hc : X.calm = true) (h : PGs X es t)
    (hn : (assignEach es X.env).length = n := by rfl) (hst : (assignEach es X.env).findIdx? (·.1) = none := by rfl) : PG X (.Tuple es k pos) (gTL X.K n t) :=
  ⟨fun pins s σ H v u Q I r hw => hw.elim ((pg_tup hc h hn hst).run pins s σ H v u Q I r) ((pg_unl hc h hn hst).run pins s σ H v u Q I r)⟩
theorem tg_name {K : PySem.W.Frag} {own : List Nat} {i : Nat} (hi : i ∉ own) : TgOk K own [i] (gName i) (gN i) := fun c A σ ρ H v d Qd Q hk E r h f => by
  refine f _ _ (E.set hi r) (fun j hj => ?_) (fun vs hv => wipe_set (hv i (by simp))) h
  have hne : i ≠ j := fun z => hi (z ▸ hj)
  rw [List.getElem?_set_ne hne, List.getElem?_set_ne hne]
  exact ⟨rfl, rfl⟩
theorem tgs_nil {K : PySem.W.Frag} {own : List Nat} : TgsOk K own [] gNil gsN := fun c A σ ρ H vs ds Qd Q hk E r h f => by
  cases r with
  | nil => exact ⟨rfl, f _ _ E (fun _ _ => ⟨rfl, rfl⟩) (fun _ _ => rfl) h⟩
  | cons _ _ => exact h.elim
theorem tgs_cons {K : PySem.W.Frag} {own is js : List Nat} {g : TG} {gs : TGs} {p : TGD} {ps : TGsD} (h1 : TgOk K own is g p) (h2 : TgsOk K own js gs ps) : TgsOk K own (is ++ js) (gCons g gs) (gsC p ps) := fun c A σ ρ H vs ds Qd Q hk E r h f => by
  cases r with
  | nil => exact h.elim
  | cons r1 r2 =>
    refine ⟨_, _, rfl, h1 c A σ ρ H _ _ _ _ hk E r1 h fun σ1 ρ1 E1 o1 w1 q1 => ?_⟩
    have e1 := avd_congr (c := c) (A := A) o1
    refine h2 c A σ1 ρ1 H _ _ _ _ hk E1 (by rw [e1]; exact r2) q1 fun σ2 ρ2 E2 o2 w2 q2 => ?_
    exact f σ2 ρ2 E2 (fun i hi => ⟨(o2 i hi).1.trans (o1 i hi).1, (o2 i hi).2.trans (o1 i hi).2⟩) (fun vs hv => (w2 vs fun i hi => hv i (List.mem_append_right _ hi)).trans (w1 vs fun i hi => hv i (List.mem_append_left _ hi))) q2
theorem tg_tup {K : PySem.W.Frag} {own is : List Nat} {gs : TGs} {ps : TGsD} {n : Nat} (h : TgsOk K own is gs ps) (hn : ∀ ds ρ Q, ps ds ρ Q → ds.length = n) : TgOk K own is (gTL K n gs) (gT ps) := fun c A σ ρ H v d Qd Q hk E r hp f => by
  cases d with
  | tup ds =>
    cases r with
    | tup nd rl =>
      have hp : ps ds ρ Qd := hp
      exact .inl ⟨_, _, rfl, by rw [← hk]; exact nd.sq, by rw [rl.len]; exact hn _ _ _ hp, h c A σ ρ H _ _ _ _ hk E rl hp f⟩
  | lst ds =>
    cases r with
    | lst nd rl =>
      have hp : ps ds ρ Qd := hp
      exact .inr ⟨_, _, rfl, nd.sq, by rw [rl.len]; exact hn _ _ _ hp, h c A σ ρ H _ _ _ _ hk E rl hp f⟩
  | _ => exact hp.elim
theorem gs_len0 : ∀ ds ρ Q, gsN ds ρ Q → ds.length = 0 := fun ds ρ Q h => by
  cases ds with
  | nil => rfl
  | cons _ _ => exact h.elim
theorem gs_len1 {g : TGD} {ps : TGsD} {n : Nat} (h : ∀ ds ρ Q, ps ds ρ Q → ds.length = n) (hs : ∀ d ρ Q, g d ρ Q → ∃ ρ', Q ρ') : ∀ ds ρ Q, gsC g ps ds ρ Q → ds.length = n + 1 := fun ds ρ Q q => by
  cases ds with
  | nil => exact q.elim
  | cons d ds =>
    obtain ⟨ρ', z⟩ := hs _ _ _ q
    rw [List.length_cons, h _ _ _ z]
theorem gN_some (i : Nat) : ∀ d ρ Q, gN i d ρ Q → ∃ ρ', Q ρ' := fun _ _ _ h => ⟨_, h⟩
def ItOk (c : Cfg) (Av : Addr → Prop) (J : It) (H0 : Hp) (ds : List D) : Prop := ∀ c2 H2 Av2, Step c H0 c2 H2 → (∀ b, Av2 b → H2 b ≠ none) → (∀ b o, ¬ Av b → H0 b = some o → ¬ Av2 b) →
  ∀ i, (ds.length ≤ i → J.stop i H2) ∧ ∀ d, ds[i]? = some d → J.go i H2 ∧ ∀ x H3, J.yld i H2 x H3 → (∀ b o, H2 b = some o → H3 b = some o) ∧ Rep c2 Av2 H3 x d
open Classical in
noncomputable def mask (own : List Nat) (σ : L2.St) (ρ : PEnv) (H : Hp) : Hp := fun b => if OwnA own σ ρ b then none else H b
theorem mask_some {own : List Nat} {σ : L2.St} {ρ : PEnv} {H : Hp} {b : Addr} {o : HO} (h : mask own σ ρ H b = some o) : ¬ OwnA own σ ρ b ∧ H b = some o := by
  unfold mask at h
  split at h
  · cases h
  · rename_i n; exact ⟨n, h⟩
theorem mask_of {own : List Nat} {σ : L2.St} {ρ : PEnv} {H : Hp} {b : Addr} {o : HO} (n : ¬ OwnA own σ ρ b) (h : H b = some o) : mask own σ ρ H b = some o := by
  unfold mask
  rw [if_neg n]
  exact h
theorem Step.less {c c' : Cfg} {H H0 H' : Hp} (t : Step c H c' H') (h : ∀ b o, H0 b = some o → H b = some o) : Step c H0 c' H' := by
  refine ⟨t.kk, t.sub, t.subC, fun b z => (t.new b z).imp_right fun e => ?_, fun b o n e => t.keep b o n (h b o e), fun b q e => t.keepC b q (h b _ e), t.fok⟩
  cases q : H0 b with
  | none => rfl
  | some o => rw [h b o q] at e; cases e
def liftI (K : PySem.W.Frag) (own : List Nat) (k : Kd) (src : TAD) : TI := fun σ H Rr => ∃ c A ρ R, c.K = K ∧ EnvR c own A σ ρ H ∧ src ρ R ∧ ∀ c' J H' ds, Step c H c' H' → ItOk c' (Avd c' own A σ ρ) J (match k with | .weak => H' | _ => mask own σ ρ H') ds → R ds → Rr J H'
theorem pi_imp {X : Cx} {tg e : Expr} {t t' : TI} (h : PI X tg e t) (m : ∀ σ H Q, t' σ H Q → t σ H Q) : PI X tg e t' := ⟨fun pins s σ H Q I q => h.run pins s σ H Q I (m σ H Q q)⟩
def iSeq (K : PySem.W.Frag) (tl : TE) : TI := fun σ H R => tl σ H fun x H1 => ∃ a, x = .ref a ∧ (((∃ xs, SqL K H1 a xs) ∧ R (Itl K a) H1) ∨ ((∃ xs, SqT K H1 a xs) ∧ R (Itt K a) H1))
theorem pi_seq {X : Cx} {tg l : Expr} {tl : TE} (hl : PE X l tl) : PI X tg l (iSeq X.K tl) := by
  refine ⟨fun pins s σ H R I h => ?_⟩
  refine thn (hl.run pins s σ H _ I h) fun v s1 ⟨x, H1, I1, r1, q1⟩ => ?_
  obtain ⟨a, e, q⟩ := q1
  subst e
  cases r1
  rcases q with ⟨⟨xs, hq⟩, q⟩ | ⟨⟨xs, hq⟩, q⟩
  · obtain ⟨its, rv, p, hz⟩ := I1.list hq
    refine wpAny_pyIter_list p.isList ?_
    refine ⟨s1.heap.objs.size, [s1.heap.objs.size], _, _, H1, rfl, I1.kept (t' := s1.toks) fun b o e => Heap.get?_push_of_some _ e, turn_list a _, ⟨_, Heap.get?_push_size _ rfl, rfl, rfl⟩, fun b hb => ?_, q⟩
    have e : b = s1.heap.objs.size := by simpa using hb
    subst e
    exact I1.fpOk (Nat.le_refl _) (I1.hok.fresh (Nat.le_refl _))
  · obtain ⟨its, rv, p, hz⟩ := I1.tuple hq
    refine wpAny_pyIter_tuple (show s1.heap.IsTuple a its.toArray from p) ?_
    refine ⟨s1.heap.objs.size, [s1.heap.objs.size], _, _, H1, rfl, I1.kept (t' := s1.toks) fun b o e => Heap.get?_push_of_some _ e, turn_tuple a _, ⟨_, Heap.get?_push_size _ rfl, rfl, rfl⟩, fun b hb => ?_, q⟩
    have e : b = s1.heap.objs.size := by simpa using hb
    subst e
    exact I1.fpOk (Nat.le_refl _) (I1.hok.fresh (Nat.le_refl _))
def sSeq (p : TED) : TAD := fun ρ R => p ρ fun x => match x with | .lst ds => R ds | .tup ds => R ds | .stp ds => R ds | _ => False
theorem ItOk.of {c : Cfg} {Av : Addr → Prop} {H0 : Hp} {vs : List V} {ds : List D} {J : It} (hav : ∀ b, c.S b → Av b) (r : RepL c Av H0 vs ds)
    (h : ∀ c2 H2, Step c H0 c2 H2 → ∀ i, (vs.length ≤ i → J.stop i H2) ∧ ∀ v, vs[i]? = some v → J.go i H2 ∧ ∀ x H3, J.yld i H2 x H3 → H3 = H2 ∧ x = v) : ItOk c Av J H0 ds := fun c2 H2 Av2 t al m i => by
  have r2 : RepL c2 Av2 H2 vs ds := RepL.mv t.kk t.sub (fun b o n e => ⟨m b o n e, t.keep b o (fun z => n (hav b z)) e⟩) _ _ r
  refine ⟨fun hl => (h c2 H2 t i).1 (by rw [r.len]; exact hl), fun d hd => ?_⟩
  obtain ⟨v, h1, h2⟩ := r2.get hd
  obtain ⟨g1, g2⟩ := (h c2 H2 t i).2 v h1
  refine ⟨g1, fun x H3 y => ?_⟩
  obtain ⟨e1, e2⟩ := g2 x H3 y
  subst e1; subst e2
  exact ⟨fun _ _ e => e, h2⟩
theorem itl_ok {c : Cfg} {Av : Addr → Prop} {H0 : Hp} {a : Addr} {vs : List V} {ds : List D} (hav : ∀ b, c.S b → Av b) (hs : ¬ c.S a) (ha : H0 a = some (.lst vs)) (r : RepL c Av H0 vs ds) : ItOk c Av (Itl c.K a) H0 ds := .of hav r fun c2 H2 t i => by
  have h2 : SqL c.K H2 a vs := .inl (.inl (t.keep a _ hs ha))
  exact ⟨fun hl => ⟨vs, h2, hl⟩, fun v hv => ⟨⟨vs, v, h2, hv⟩, fun x H3 y => ⟨y.1, Option.some.inj ((y.2 vs h2).symm.trans hv)⟩⟩⟩
theorem itt_ok {c : Cfg} {Av : Addr → Prop} {H0 : Hp} {a : Addr} {vs : List V} {ds : List D} (hav : ∀ b, c.S b → Av b) (n : NodT c Av H0 a vs) (r : RepL c Av H0 vs ds) : ItOk c Av (Itt c.K a) H0 ds := .of hav r fun c2 H2 t i => by
  have h2 : SqT c.K H2 a vs := .inl (.inl (t.keep a _ (fun z => n.2.1 (hav a z)) n.2.2))
  exact ⟨fun hl => ⟨vs, h2, hl⟩, fun v hv => ⟨⟨vs, v, h2, hv⟩, fun x H3 y => ⟨y.1, Option.some.inj ((y.2 vs h2).symm.trans hv)⟩⟩⟩
theorem PlT.stay {c c2 : Cfg} {Av : Addr → Prop} {H0 H2 : Hp} {a : Addr} {vs : List V} (hav : ∀ b, c.S b → Av b) (n : PlT c Av H0 a vs) (t : Step c H0 c2 H2) : SqT c.K H2 a vs := by
  rcases n with ⟨o, its, n, h1, h2, _, h4, h5, h6⟩ | ⟨n, _, o, _, h⟩
  · exact .inr ⟨o, its, n, h1, h2, h4, h5, h6⟩
  · exact .inl (.inr ⟨o, t.keep a _ (fun z => n (hav a z)) h⟩)
theorem its_ok {c : Cfg} {Av : Addr → Prop} {H0 : Hp} {a : Addr} {vs : List V} {ds : List D} (hav : ∀ b, c.S b → Av b) (n : PlT c Av H0 a vs) (r : RepL c Av H0 vs ds) : ItOk c Av (Itt c.K a) H0 ds := .of hav r fun c2 H2 t i => by
  have h2 : SqT c.K H2 a vs := n.stay hav t
  exact ⟨fun hl => ⟨vs, h2, hl⟩, fun v hv => ⟨⟨vs, v, h2, hv⟩, fun x H3 y => ⟨y.1, Option.some.inj ((y.2 vs h2).symm.trans hv)⟩⟩⟩
section
variable {c : Cfg} {own : List Nat} {A : Addr → Prop} {σ : L2.St} {ρ : PEnv} {H : Hp} {vs : List V} {ds : List D} {v : V} {d : D}
theorem RepL.mask (r : RepL c (Avd c own A σ ρ) H vs ds) : RepL c (Avd c own A σ ρ) (mask own σ ρ H) vs ds := RepL.mv rfl (fun _ _ z => z) (fun b o n e => ⟨n, mask_of (fun z => n (.inr (.inr z))) e⟩) _ _ r
theorem Rep.mask (r : Rep c (Avd c own A σ ρ) H v d) : Rep c (Avd c own A σ ρ) (DL.mask own σ ρ H) v d := Rep.mv rfl (fun _ _ z => z) (fun b o n e => ⟨n, mask_of (fun z => n (.inr (.inr z))) e⟩) _ _ r
theorem avdS : ∀ b, c.S b → Avd c own A σ ρ b := fun _ z => .inr (.inl z)
end
theorem lift_seqW (K : PySem.W.Frag) {own : List Nat} {p : TED} : ∀ σ H Q, liftI K own .weak (sSeq p) σ H Q → iSeq K (lift K own .weak p) σ H Q := fun σ H Q ⟨c, A, ρ, R, hk, E, hp, f⟩ => ⟨c, A, ρ, _, hk, E, hp, fun c1 v H1 d t r g => by
  cases d with
  | lst ds =>
    obtain ⟨a, vs, rfl, hz, ha, rl⟩ := RepW.lst r
    have hs : ¬ c1.S a := by
      rcases r with r | ⟨b, e, o, n1, n2, r⟩
      · cases r with | lst n _ => exact fun z => n.2.1 (.inr (.inl z))
      · cases e; exact n2
    have h := itl_ok avdS hs ha rl
    rw [t.kk.trans hk] at h
    exact ⟨a, rfl, .inl ⟨⟨vs, .inl (.inl ha)⟩, f c1 _ H1 ds t h g⟩⟩
  | tup ds =>
    obtain ⟨a, vs, rfl, n, rl⟩ := RepW.tup r
    have h := itt_ok avdS n rl
    rw [t.kk.trans hk] at h
    have sq := n.sq
    rw [t.kk.trans hk] at sq
    exact ⟨a, rfl, .inr ⟨⟨vs, sq⟩, f c1 _ H1 ds t h g⟩⟩
  | stp ds =>
    obtain ⟨a, vs, rfl, n, rl⟩ := RepW.stp r
    have h := its_ok avdS n rl
    rw [t.kk.trans hk] at h
    have sq := n.sq
    rw [t.kk.trans hk] at sq
    exact ⟨a, rfl, .inr ⟨⟨vs, sq⟩, f c1 _ H1 ds t h g⟩⟩
  | _ => exact g.elim⟩
theorem lift_seqS (K : PySem.W.Frag) {own : List Nat} {p : TED} : ∀ σ H Q, liftI K own .strong (sSeq p) σ H Q → iSeq K (lift K own .strong p) σ H Q := fun σ H Q ⟨c, A, ρ, R, hk, E, hp, f⟩ => ⟨c, A, ρ, _, hk, E, hp, fun c1 v H1 d t r g => by
  have r : Rep c1 (Avd c1 own A σ ρ) H1 v d := r
  cases d with
  | lst ds =>
    cases r with
    | lst n rl =>
      have h := itl_ok avdS (fun z => n.2.1 (.inr (.inl z))) (mask_of (fun z => n.2.1 (.inr (.inr z))) n.2.2) (RepL.mask rl)
      rw [t.kk.trans hk] at h
      exact ⟨_, rfl, .inl ⟨⟨_, .inl (.inl n.2.2)⟩, f c1 _ H1 ds t h g⟩⟩
  | tup ds =>
    cases r with
    | tup n rl =>
      have n' : NodT c1 (Avd c1 own A σ ρ) (mask own σ ρ H1) _ _ := ⟨n.1, n.2.1, mask_of (fun w => n.2.1 (.inr (.inr w))) n.2.2⟩
      have h := itt_ok avdS n' (RepL.mask rl)
      rw [t.kk.trans hk] at h
      have sq := n.sq
      rw [t.kk.trans hk] at sq
      exact ⟨_, rfl, .inr ⟨⟨_, sq⟩, f c1 _ H1 ds t h g⟩⟩
  | stp ds =>
    cases r with
    | stp n rl =>
      have h := its_ok avdS (n.mv rfl fun b o n e => ⟨n, mask_of (fun z => n (.inr (.inr z))) e⟩) (RepL.mask rl)
      rw [t.kk.trans hk] at h
      have sq := n.sq
      rw [t.kk.trans hk] at sq
      exact ⟨_, rfl, .inr ⟨⟨_, sq⟩, f c1 _ H1 ds t h g⟩⟩
  | _ => exact g.elim⟩
def rangeD (lo hi : Int) : List D := (List.range (hi - lo).toNat).map fun i => D.int (lo + (i : Nat))
theorem itr_ok {c : Cfg} {Av : Addr → Prop} {H0 : Hp} (lo hi : Int) : ItOk c Av (Itr lo (hi - lo).toNat) H0 (rangeD lo hi) := fun c2 H2 Av2 t al m i => by
  refine ⟨fun hl => ?_, fun d hd => ?_⟩
  · show (hi - lo).toNat ≤ i
    simpa [rangeD] using hl
  · have hi' : i < (hi - lo).toNat := by
      have := (List.getElem?_eq_some_iff.mp hd).1
      simpa [rangeD] using this
    refine ⟨hi', fun x H3 y => ?_⟩
    obtain ⟨e1, e2⟩ := y
    subst e1; subst e2
    have e : d = .int (lo + (i : Nat)) := by
      unfold rangeD at hd
      rw [List.getElem?_map, List.getElem?_range hi'] at hd
      exact (Option.some.inj hd).symm
    subst e
    exact ⟨fun _ _ e => e, .int _⟩
def small62 (i : Int) : Prop := -(2 ^ 62) ≤ i ∧ i < 2 ^ 62
def sRng1 (pa : TAD) : TAD := fun ρ R => pa ρ fun ds => match ds with | [x] => dInt x fun j => small62 j ∧ R (rangeD 0 j) | _ => False
def sRng2 (pa : TAD) : TAD := fun ρ R => pa ρ fun ds => match ds with | [x, y] => dInt x fun i => dInt y fun j => small62 i ∧ small62 j ∧ R (rangeD i j) | _ => False
theorem lift_rng1 (K : PySem.W.Frag) {own : List Nat} {pa : TAD} {k : Kd} : ∀ σ H Q, liftI K own k (sRng1 pa) σ H Q → iRng1 (liftA K own .weak 1 pa) σ H Q := fun σ H Q ⟨c, A, ρ, R, hk, E, hp, f⟩ => ⟨c, A, ρ, _, hk, E, hp, fun c1 vs H1 ds t r hn g => by
  match ds, r, g with
  | [x], .cons r1 .nil, g =>
    obtain ⟨j, rfl, h, g⟩ := dInt_iff g
    have e := RepW.int r1
    subst e
    refine ⟨j, rfl, h.1, h.2, ?_⟩
    have q := f c1 (Itr 0 (j - 0).toNat) H1 (rangeD 0 j) t (itr_ok 0 j) g
    rw [Int.sub_zero] at q
    exact q⟩
section
variable {X : Cx} {own : List Nat} {tg : Expr} {p : TED} {pa : TAD}
theorem i_seqW {l : Expr} (h : PE X l (lift X.K own .weak p)) : PI X tg l (liftI X.K own .weak (sSeq p)) := pi_imp (pi_seq h) (lift_seqW _)
theorem i_seqS {l : Expr} (h : PE X l (lift X.K own .strong p)) : PI X tg l (liftI X.K own .strong (sSeq p)) := pi_imp (pi_seq h) (lift_seqS _)
theorem i_rng1 {a : Expr} {pn pos : Pos} {k : Kd} (hm : X.mg "range" = none) (ha : PA X [a] (liftA X.K own .weak 1 pa)) (hg : Gl X "range" := by rfl) (hs : starEach [a] X.env = [(false, eval a X.env)] := by rfl) : PI X tg (.Call (.Name "range" pn) [a] [] pos) (liftI X.K own k (sRng1 pa)) := pi_imp (pi_range1 hg hm ha hs) (lift_rng1 _)
end

def compR (tg : TGD) (tt : TTD) (te : TED) (ρ : PEnv) : List D → List D → (List D → Prop) → Prop
  | [], acc, R => R acc
  | d :: ds, acc, R => tg d ρ fun ρ1 => tt ρ1 fun b => if b = true then te ρ1 fun y => compR tg tt te ρ ds (acc ++ [y]) R else compR tg tt te ρ ds acc R
def pComp (src : TAD) (tg : TGD) (tt : TTD) (te : TED) (vs : List Nat) : TED := fun ρ R => src ρ fun ds => ds.length ≤ sizeLine ∧ compR tg tt te (wipeD ρ vs) ds [] fun acc => R (.lst acc)
def tYesD : TTD := fun _ R => R true
structure PTsD (X : Cx) (own : List Nat) (ifs : List Expr) (t : TTD) : Prop where
  ts : PTs X ifs (liftT X.K own t)
theorem pts_imp {X : Cx} {ifs : List Expr} {t t' : TT} (h : PTs X ifs t) (m : ∀ σ H Q, t' σ H Q → t σ H Q) : PTs X ifs t' := ⟨fun pins s σ H Q I q => h.run pins s σ H Q I (m σ H Q q)⟩
theorem ts_nil {X : Cx} {own : List Nat} : PTs X [] (liftT X.K own tYesD) := pts_imp pts_nil fun σ H Q ⟨c, A, ρ, R, hk, E, hp, f⟩ => f c H true (Step.refl E.fok) hp
theorem ts_one {X : Cx} {own : List Nat} {e : Expr} {t : TTD} (h : PT X e (liftT X.K own t)) : PTs X [e] (liftT X.K own t) := pts_one h
theorem wipe_wipe (σ : L2.St) : ∀ vs : List Nat, L2.wipe (L2.wipe σ vs) vs = L2.wipe σ vs
  | vs => by
    apply List.ext_getElem?
    intro i
    by_cases hi : i ∈ vs
    · have h : ∀ (τ : L2.St) (ws : List Nat), i ∈ ws → i < τ.length → (L2.wipe τ ws)[i]? = some none := by
        intro τ ws
        induction ws with
        | nil => intro h; cases h
        | cons w ws ih =>
          intro h hl
          unfold L2.wipe
          by_cases e : w = i
          · subst e
            exact List.getElem?_set_self (by rw [wipe_length]; exact hl)
          · rw [List.getElem?_set_ne e]
            exact ih ((List.mem_cons.mp h).resolve_left fun z => e z.symm) hl
      by_cases hl : i < σ.length
      · rw [h _ _ hi (by rw [wipe_length]; exact hl), h _ _ hi hl]
      · rw [List.getElem?_eq_none (by rw [wipe_length, wipe_length]; omega), List.getElem?_eq_none (by rw [wipe_length]; omega)]
    · rw [wipeS_out hi]
theorem EnvR.mutA {c : Cfg} {own : List Nat} {A : Addr → Prop} {σ : L2.St} {ρ : PEnv} {H : Hp} (E : EnvR c own A σ ρ H) {a : Addr} {o : HO} (ha : A a) (hs : ¬ c.S a) (ho : ∀ vs, o ≠ .tup vs := by intro _ z; cases z) : EnvR c own A σ ρ (upd H a o) := by
  have m : ∀ b u, ¬ Avd c own A σ ρ b → H b = some u → ¬ Avd c own A σ ρ b ∧ (upd H a o) b = some u := fun b u n e => ⟨n, by rw [upd_ne (fun z => n (.inl (by rw [z]; exact ha)))]; exact e⟩
  refine ⟨E.fok.upd hs, E.len, fun b h => ?_, fun i d h hi => ?_, fun i d h hi => ?_, E.dist⟩
  · by_cases e : b = a
    · subst e; unfold AvOk; rw [upd_same]; exact ⟨fun z => (nomatch z), fun vs z => ho vs (Option.some.inj z)⟩
    · unfold AvOk; rw [upd_ne e]; exact E.avA b h
  · obtain ⟨v, h1, h2⟩ := E.slot i d h hi
    exact ⟨v, h1, Rep.mv rfl (fun _ _ z => z) m d v h2⟩
  · obtain ⟨b, h1, h2, h3, h4⟩ := E.ownS i d h hi
    exact ⟨b, h1, h2, h3, h4.mv rfl (fun _ _ z => z) m fun u e => by rw [upd_ne (fun z => h2 (by rw [z]; exact ha))]; exact e⟩
theorem lift_comp (K : PySem.W.Frag) {own is : List Nat} {src : TAD} {tg : TGD} {tt : TTD} {te : TED} {vs : List Nat} {g : TG} (hg : TgOk K own is g tg) (hv : ∀ i ∈ is, i ∈ vs) (ho : ∀ i ∈ vs, i ∉ own) :
    ∀ σ H Q, lift K own .fresh (pComp src tg tt te vs) σ H Q → tLc (liftI K own .weak src) g (liftT K own tt) (lift K own .strong te) vs σ H Q := by
  intro σ H Q ⟨c, A, ρ, R, hk, E, hp, f⟩
  refine ⟨c, A, ρ, _, hk, E, hp, fun c1 J H1 ds t1 it g1 => ?_⟩
  obtain ⟨hz, g1⟩ := g1
  have E1 := E.step t1
  intro L hL
  have EL := E1.more (o := .lst []) hL
  have tL : Step c1 H1 c1 (upd H1 L (.lst [])) := .one E1.fok hL
  let A' : Addr → Prop := fun b => A b ∨ b = L
  let Wn : Nat → Hp → Prop := fun i H2 => ∃ c2 acc us, Step c1 H1 c2 H2 ∧ ¬ c2.S L ∧ H2 L = some (.lst us) ∧ us.length ≤ i ∧ RepL c2 (Avd c2 own A' σ ρ) H2 us acc ∧ EnvR c2 own A' σ ρ H2 ∧ compR tg tt te (wipeD ρ vs) (ds.drop i) acc fun acc => R (.lst acc)
  refine ⟨fun i m H2 => m = ds.length - i ∧ i ≤ ds.length ∧ Wn i H2, ⟨ds.length, by simp, Nat.zero_le _, c1, [], [], tL, E1.fok.fresh hL, upd_same, Nat.le_refl _, .nil, EL, g1⟩, ?_⟩
  rintro i m H2 ⟨rfl, hi, c2, acc, us, t2, nS, h2, hu, ru, E2, cr⟩
  have hcon : ∀ i, i ∈ own → (wipeD ρ vs)[i]? = ρ[i]? ∧ (L2.wipe σ vs)[i]? = σ[i]? := fun i hi => by
    have : i ∉ vs := fun z => ho i z hi
    exact ⟨wipeD_out this, wipeS_out this⟩
  have E2w := E2.wipe ho
  have al : ∀ b, Avd c2 own A' (L2.wipe σ vs) (wipeD ρ vs) b → H2 b ≠ none := fun b h => E2w.al h
  have it2 := it c2 H2 (Avd c2 own A' (L2.wipe σ vs) (wipeD ρ vs)) t2 al (fun b o n e z => by
    have e : H1 b = some o := e
    rw [avd_congr hcon] at z
    rcases z with (z | z) | z | z
    · exact n (.inl z)
    · subst z; rw [hL] at e; cases e
    · rcases t2.new b z with z | z
      · exact n (.inr (.inl z))
      · rw [z] at e; cases e
    · exact n (.inr (.inr z))) i
  by_cases hlt : i < ds.length
  · refine .inr ?_
    have hd : ds[i]? = some ds[i] := List.getElem?_eq_getElem hlt
    obtain ⟨go, yl⟩ := it2.2 _ hd
    have hdrop : ds.drop i = ds[i] :: ds.drop (i + 1) := List.drop_eq_getElem_cons hlt
    rw [hdrop] at cr
    refine ⟨go, fun H' => Wn (i + 1) H', fun H' h' => ⟨ds.length - (i + 1), by omega, rfl, hlt, h'⟩, fun x H3 y => ?_⟩
    obtain ⟨same, rx⟩ := yl x H3 y
    have t3 : Step c2 H2 c2 H3 := .ofSame E2.fok same
    have E3 := E2w.step t3
    have k2 : c2.K = K := t2.kk.trans (t1.kk.trans hk)
    refine hg c2 A' _ _ H3 x ds[i] _ _ k2 E3 rx cr fun σ4 ρ4 E4 o4 w4 q4 => ⟨by rw [w4 vs hv, wipe_wipe], ?_⟩
    have hcon4 : Avd c2 own A' σ4 ρ4 = Avd c2 own A' σ ρ := (avd_congr o4).trans (avd_congr hcon)
    refine ⟨c2, A', ρ4, _, k2, E4, q4, fun c5 H5 b t5 g5 => ?_⟩
    have n5 : ¬ c5.S L := t5.notS (same L _ h2) nS
    have h5 : H5 L = some (.lst us) := t5.keep L _ nS (same L _ h2)
    have E5 : EnvR c5 own A' σ ρ H5 := (E2.step t3).step t5
    have t25 := t3.trans t5
    cases b with
    | false =>
      exact ⟨c5, acc, us, t2.trans t25, n5, h5, Nat.le_succ_of_le hu, RepL.mv t25.kk t25.sub (E2.mv t25) _ _ ru, E5, g5⟩
    | true =>
      refine ⟨c5, A', ρ4, _, t5.kk.trans k2, E4.step t5, g5, fun c6 v H6 d6 t6 r6 g6 => ?_⟩
      have n6 : ¬ c6.S L := t6.notS h5 n5
      have h6 : H6 L = some (.lst us) := t6.keep L _ n5 h5
      have E6 : EnvR c6 own A' σ ρ H6 := E5.step t6
      have t26 := t25.trans t6
      refine ⟨us, h6, Nat.lt_of_lt_of_le (Nat.lt_of_le_of_lt hu hlt) hz, c6, acc ++ [d6], us ++ [v], (t2.trans t26).upd hL n6, n6, upd_same, by rw [List.length_append]; exact Nat.succ_le_succ hu, ?_, E6.mutA (.inr rfl) n6, g6⟩
      have ru6 : RepL c6 (Avd c6 own A' σ ρ) H6 us acc := RepL.mv t26.kk t26.sub (E2.mv t26) _ _ ru
      have hcon6 : Avd c6 own A' σ4 ρ4 = Avd c6 own A' σ ρ := (avd_congr o4).trans (avd_congr hcon)
      have r6' : Rep c6 (Avd c6 own A' σ ρ) H6 v d6 := by
        rw [← hcon6]
        exact r6
      exact RepL.mv rfl (fun _ _ z => z) (fun b o n e => ⟨n, by rw [upd_ne (fun z => n (.inl (.inr z)))]; exact e⟩) _ _ (ru6.append (.cons r6' .nil))
  · refine .inl ⟨it2.1 (by omega), ?_⟩
    have e : ds.drop i = [] := List.drop_eq_nil_of_le (by omega)
    rw [e] at cr
    refine f c2 (.ref L) H2 (.lst acc) (t1.trans t2) ⟨L, rfl, t1.fresh hL, nS, .lst (by omega) h2 ?_⟩ cr
    exact RepL.mv rfl (fun _ _ z => z) (fun b o n e => ⟨fun z => n (by
      rcases z with (z | z | z) | z
      · exact .inl (.inl z)
      · exact .inr (.inl z)
      · exact .inr (.inr z)
      · exact .inl (.inr z)), e⟩) _ _ ru
end DL

set_option Elab.async false
set_option linter.all false
set_option maxRecDepth 100000
set_option maxHeartbeats 2000000
namespace DL
open PySem PySem.Spec PyProof.Rows L2
variable [TabsOf]

section
variable {X : Cx} {own : List Nat}
theorem e_comp {elt tg iter : Expr} {ifs : List Expr} {scope : Scope} {ow : List (Str × Nat)} {pos : Pos} {is : List Nat} {src : TAD} {g : TG} {tgd : TGD} {tt : TTD} {te : TED} (hc : X.calm = true) (hN : X.N.Nodup) (hi : PI X tg iter (liftI X.K own .weak src)) (ok : BlkOk X.N X.env.scope scope ow)
    (hg : ∀ (s : Shared) (H : Hp) (C : Addr) (cl : List (Str × Addr)) (fp : List Addr), PG (X.blk s H scope (compEnvC scope cl C X.env) fp) tg g) (hgd : TgOk X.K own is g tgd) (ht : ∀ (s : Shared) (H : Hp) (C : Addr) (cl : List (Str × Addr)) (fp : List Addr), PTs (X.blk s H scope (compEnvC scope cl C X.env) fp) ifs (liftT X.K own tt))
    (he : ∀ (s : Shared) (H : Hp) (C : Addr) (cl : List (Str × Addr)) (fp : List Addr), PE (X.blk s H scope (compEnvC scope cl C X.env) fp) elt (lift X.K own .strong te)) (hv : ∀ i ∈ is, i ∈ ow.map (·.2) := by decide) (ho : ∀ i ∈ ow.map (·.2), i ∉ own := by decide) {vs : List Nat} (hvs : ow.map (·.2) = vs := by rfl) (hs : ∀ x, foldedSetIterable iter X.env x = pure x := by intro _; rfl) :
    PE X (.ListComp elt [⟨tg, iter, ifs, 0⟩] scope pos) (lift X.K own .fresh (pComp src tgd tt te vs)) := hvs ▸ pe_imp (pe_lc hc hN hi ok hg ht he hs) (lift_comp _ hgd hv ho)
end

structure DEnds where
  nx : PEnv → Prop
  rt : D → Prop
  bk : PEnv → Prop
  ct : PEnv → Prop
abbrev TSD := DEnds → PEnv → Prop
def OwnF (own : List Nat) (σ : L2.St) (ρ : PEnv) (H0 : Hp) : Prop := ∀ a, OwnA own σ ρ a → H0 a = none
def Nxt (K : PySem.W.Frag) (own : List Nat) (fr : Bool) (c0 : Cfg) (H0 : Hp) (A : Addr → Prop) (P : PEnv → Prop) (Q : L2.St → Hp → Prop) : Prop :=
  ∀ c' own' σ' ρ' H', c'.K = K → (∀ i ∈ own', i ∈ own) → (fr = false → own' = own) → Step c0 H0 c' H' → EnvR c' own' A σ' ρ' H' → OwnF own' σ' ρ' H0 → P ρ' → Q σ' H'
def Rtn (K : PySem.W.Frag) (ko : Kd) (c0 : Cfg) (H0 : Hp) (A : Addr → Prop) (P : D → Prop) (Q : VK) : Prop :=
  ∀ c' v H' d, c'.K = K → Step c0 H0 c' H' → ResF ko c' A H0 H' v d → P d → Q v H'
def XRep (c : Cfg) (Av : Addr → Prop) (H : Hp) (n : XC) (x : D) (cls : Value) (dx : Option Addr) : Prop :=
  PySem.W.nsIn c.K mainGlobals n.nm = some (some cls) ∧ match n.fld with
    | some f => ∃ dd fs v, dx = some dd ∧ ¬ Av dd ∧ H dd = some (.xd fs) ∧ fs.lookup f = some v ∧ Rep c Av H v x
    | none => dx = none
structure XWish where
  XX : XC → D → PEnv → Prop
  W : L2.WX
def xw0 : XWish := ⟨fun _ _ _ => False, fun _ _ _ _ => False⟩
def XNxt (K : PySem.W.Frag) (xw : XWish) (own : List Nat) (fr : Bool) (c0 : Cfg) (H0 : Hp) (A : Addr → Prop) : Prop :=
  ∀ c' own' σ' ρ' H' n x cls dx, c'.K = K → (∀ i ∈ own', i ∈ own) → (fr = false → own' = own) → Step c0 H0 c' H' → EnvR c' own' A σ' ρ' H' → OwnF own' σ' ρ' H0 → XRep c' (Avd c' own' A σ' ρ') H' n x cls dx → xw.XX n x ρ' → xw.W cls dx σ' H'
theorem xNxt0 {K : PySem.W.Frag} {own : List Nat} {fr : Bool} {c0 : Cfg} {H0 : Hp} {A : Addr → Prop} : XNxt K xw0 own fr c0 H0 A := fun _ _ _ _ _ _ _ _ _ _ _ _ _ _ _ _ h => h.elim
structure EndsOk (K : PySem.W.Frag) (xw : XWish) (own : List Nat) (fr : Bool) (ko : Kd) (c0 : Cfg) (H0 : Hp) (A : Addr → Prop) (DD : DEnds) (Dn : Ends) : Prop where
  nx : Nxt K own fr c0 H0 A DD.nx Dn.nx
  rt : Rtn K ko c0 H0 A DD.rt Dn.rt
  bk : Nxt K own fr c0 H0 A DD.bk Dn.bk
  ct : Nxt K own fr c0 H0 A DD.ct Dn.ct
  xe : XNxt K xw own fr c0 H0 A
def liftS (K : PySem.W.Frag) (xw : XWish) (own : List Nat) (fr : Bool) (ko : Kd) (p : TSD) : TS := fun Dn σ H => ∃ c0 H0 A c ρ DD, c.K = K ∧ Step c0 H0 c H ∧ EnvR c own A σ ρ H ∧ OwnF own σ ρ H0 ∧ p DD ρ ∧ EndsOk K xw own fr ko c0 H0 A DD Dn

section
variable {c c' c0 : Cfg} {own own' : List Nat} {A : Addr → Prop} {σ σ' : L2.St} {ρ ρ' : PEnv} {H H' H0 : Hp} {K : PySem.W.Frag} {fr : Bool} {ko : Kd}
theorem EnvR.freeze (E : EnvR c own A σ ρ H) (h : ∀ i ∈ own', i ∈ own) : EnvR c own' A σ ρ H := by
  have oa : ∀ a, OwnA own' σ ρ a → OwnA own σ ρ a := fun a ⟨i, d, hi, h1, h2⟩ => ⟨i, d, h i hi, h1, h2⟩
  have m : ∀ b, Avd c own' A σ ρ b → Avd c own A σ ρ b := fun b z => by
    rcases z with z | z | z
    · exact .inl z
    · exact .inr (.inl z)
    · exact .inr (.inr (oa b z))
  have mv : ∀ b o, ¬ Avd c own A σ ρ b → H b = some o → ¬ Avd c own' A σ ρ b ∧ H b = some o := fun b o n e => ⟨fun z => n (m b z), e⟩
  refine ⟨E.fok, E.len, E.avA, fun i d h1 hi => ?_, fun i d h1 hi => ?_, fun i j a d e hi hj => E.dist i j a d e (h i hi) (h j hj)⟩
  · by_cases hio : i ∈ own
    · obtain ⟨a, h2, h3, h4, h5⟩ := E.ownS i d h1 hio
      refine ⟨.ref a, h2, h5.rep (fun z => ?_) m⟩
      rcases z with z | z | ⟨j, e, hj, h6, h7⟩
      · exact h3 z
      · exact h4 z
      · have := E.dist i j a d e hio (h j hj) h1 h6 h2 h7
        subst this
        exact hi hj
    · obtain ⟨v, h2, h3⟩ := E.slot i d h1 hio
      exact ⟨v, h2, Rep.mv rfl (fun _ _ z => z) mv _ _ h3⟩
  · obtain ⟨a, h2, h3, h4, h5⟩ := E.ownS i d h1 (h i hi)
    exact ⟨a, h2, h3, h4, h5.mv rfl (fun _ _ z => z) mv fun _ e => e⟩
theorem OwnF.freeze (F : OwnF own σ ρ H0) (h : ∀ i ∈ own', i ∈ own) : OwnF own' σ ρ H0 := fun a ⟨i, d, hi, h1, h2⟩ => F a ⟨i, d, h i hi, h1, h2⟩
theorem OwnF.congr (F : OwnF own σ ρ H0) (h : ∀ i, i ∈ own → ρ'[i]? = ρ[i]? ∧ σ'[i]? = σ[i]?) : OwnF own σ' ρ' H0 := fun a z => F a ((ownA_congr h a).mp z)
theorem EnvR.setO (E : EnvR c own A σ ρ H) (t : Step c H c' H') {i : Nat} {v : V} {d : D} (hi : i ∈ own) (r : Fr c' own A σ ρ H H' v d) : EnvR c' own A (σ.set i (some v)) (ρ.set i (some d)) H' := by
  obtain ⟨p, rfl, hp, np, r⟩ := r
  have oa : ∀ a, OwnA own (σ.set i (some (.ref p))) (ρ.set i (some d)) a → OwnA own σ ρ a ∨ a = p := fun a ⟨j, e, hj, h1, h2⟩ => by
    by_cases e1 : i = j
    · subst e1
      by_cases hl : i < σ.length
      · rw [List.getElem?_set_self hl] at h2
        have := Option.some.inj (Option.some.inj h2)
        cases this
        exact .inr rfl
      · rw [List.getElem?_eq_none (by rw [List.length_set]; omega)] at h2
        cases h2
    · rw [List.getElem?_set_ne e1] at h1 h2
      exact .inl ⟨j, e, hj, h1, h2⟩
  have mA : ∀ b, Avd c' own A (σ.set i (some (.ref p))) (ρ.set i (some d)) b → Avd c' own A σ ρ b ∨ b = p := fun b z => by
    rcases z with z | z | z
    · exact .inl (.inl z)
    · exact .inl (.inr (.inl z))
    · exact (oa b z).imp_left fun z => .inr (.inr z)
  have m : ∀ b o, ¬ Avd c own A σ ρ b → H b = some o → ¬ Avd c' own A (σ.set i (some (.ref p))) (ρ.set i (some d)) b ∧ H' b = some o := fun b o n e => by
    obtain ⟨n', e'⟩ := E.mv t b o n e
    refine ⟨fun z => ?_, e'⟩
    rcases mA b z with z | z
    · exact n' z
    · subst z; rw [hp] at e; cases e
  have pA : ¬ A p := fun z => (E.avA p z).1 hp
  refine ⟨t.fok, by rw [List.length_set, List.length_set]; exact E.len, fun a h => t.avOk (E.avA a h), fun j e h1 hj => ?_, fun j e h1 hj => ?_, fun j k a e e' hj hk h1 h2 h3 h4 => ?_⟩
  · have hne : i ≠ j := fun z => hj (z ▸ hi)
    rw [List.getElem?_set_ne hne] at h1
    rw [List.getElem?_set_ne hne]
    obtain ⟨v, h2, h3⟩ := E.slot j e h1 hj
    exact ⟨v, h2, Rep.mv t.kk t.sub m _ _ h3⟩
  · by_cases e1 : i = j
    · subst e1
      by_cases hl : i < ρ.length
      · rw [List.getElem?_set_self hl] at h1
        cases h1
        refine ⟨p, List.getElem?_set_self (by rw [← E.len]; exact hl), pA, np, r.mv rfl (fun _ _ z => z) (fun b o n e => ⟨fun z => n (mA b z), e⟩) fun _ e => e⟩
      · rw [List.getElem?_eq_none (by rw [List.length_set]; omega)] at h1
        cases h1
    · rw [List.getElem?_set_ne e1] at h1
      rw [List.getElem?_set_ne e1]
      obtain ⟨a, h2, h3, h4, h5⟩ := E.ownS j e h1 hj
      refine ⟨a, h2, h3, fun z => ?_, h5.mv t.kk t.sub m fun o e => t.keep a o h4 e⟩
      rcases t.new a z with z | z
      · exact h4 z
      · exact h5.some z
  · have nop : ∀ j e, j ∈ own → i ≠ j → ρ[j]? = some (some e) → σ[j]? = some (some (.ref p)) → False := fun j e hj hne h1 h3 => by
      exact E.own_al ⟨j, e, hj, h1, h3⟩ hp
    by_cases e1 : i = j
    · by_cases e2 : i = k
      · exact e1.symm.trans e2
      · subst e1
        rw [List.getElem?_set_ne e2] at h2 h4
        by_cases hl : i < σ.length
        · rw [List.getElem?_set_self hl] at h3
          have := Option.some.inj (Option.some.inj h3)
          cases this
          exact (nop k e' hk e2 h2 h4).elim
        · rw [List.getElem?_eq_none (by rw [List.length_set]; omega)] at h3
          cases h3
    · by_cases e2 : i = k
      · subst e2
        rw [List.getElem?_set_ne e1] at h1 h3
        by_cases hl : i < σ.length
        · rw [List.getElem?_set_self hl] at h4
          have := Option.some.inj (Option.some.inj h4)
          cases this
          exact (nop j e hj e1 h1 h3).elim
        · rw [List.getElem?_eq_none (by rw [List.length_set]; omega)] at h4
          cases h4
      · rw [List.getElem?_set_ne e1] at h1 h3
        rw [List.getElem?_set_ne e2] at h2 h4
        exact E.dist j k a e e' hj hk h1 h2 h3 h4
theorem OwnF.setO (F : OwnF own σ ρ H0) (t : Step c0 H0 c H) {i : Nat} {p : Addr} {d : D} (hp : H p = none) : OwnF own (σ.set i (some (.ref p))) (ρ.set i (some d)) H0 := fun a ⟨j, e, hj, h1, h2⟩ => by
  by_cases e1 : i = j
  · subst e1
    by_cases hl : i < σ.length
    · rw [List.getElem?_set_self hl] at h2
      have := Option.some.inj (Option.some.inj h2)
      cases this
      exact t.fresh hp
    · rw [List.getElem?_eq_none (by rw [List.length_set]; omega)] at h2
      cases h2
  · rw [List.getElem?_set_ne e1] at h1 h2
    exact F a ⟨j, e, hj, h1, h2⟩
theorem EnvR.mutO (E : EnvR c own A σ ρ H) {i : Nat} {a : Addr} {d e : D} {o : HO} (hi : i ∈ own) (h1 : ρ[i]? = some (some d)) (h2 : σ[i]? = some (some (.ref a)))
    (r : OwnR c (Avd c own A σ ρ) (upd H a o) a e) : EnvR c own A σ (ρ.set i (some e)) (upd H a o) := by
  obtain ⟨a', h3, nA, nS, ro⟩ := E.ownS i d h1 hi
  rw [h2] at h3
  have := Option.some.inj (Option.some.inj h3)
  cases this
  have hl : i < ρ.length := (List.getElem?_eq_some_iff.mp h1).1
  have oa : ∀ b, OwnA own σ (ρ.set i (some e)) b ↔ OwnA own σ ρ b := fun b => by
    constructor
    · rintro ⟨j, u, hj, k1, k2⟩
      by_cases e1 : i = j
      · subst e1
        exact ⟨i, d, hj, h1, k2⟩
      · rw [List.getElem?_set_ne e1] at k1
        exact ⟨j, u, hj, k1, k2⟩
    · rintro ⟨j, u, hj, k1, k2⟩
      by_cases e1 : i = j
      · subst e1
        exact ⟨i, e, hj, List.getElem?_set_self hl, k2⟩
      · exact ⟨j, u, hj, by rw [List.getElem?_set_ne e1]; exact k1, k2⟩
  have av : Avd c own A σ (ρ.set i (some e)) = Avd c own A σ ρ := by
    funext b
    unfold Avd
    rw [propext (oa b)]
  have ha : Avd c own A σ ρ a := .inr (.inr ⟨i, d, hi, h1, h2⟩)
  have m : ∀ b u, ¬ Avd c own A σ ρ b → H b = some u → ¬ Avd c own A σ ρ b ∧ (upd H a o) b = some u := fun b u n e => ⟨n, by rw [upd_ne (fun z => n (by rw [z]; exact ha))]; exact e⟩
  refine ⟨E.fok.upd nS, by rw [List.length_set]; exact E.len, fun b h => ?_, fun j u k1 hj => ?_, fun j u k1 hj => ?_, fun j k b u u' hj hk k1 k2 k3 k4 => ?_⟩
  · by_cases e1 : b = a
    · subst e1; exact absurd h nA
    · unfold AvOk; rw [upd_ne e1]; exact E.avA b h
  · have hne : i ≠ j := fun z => hj (z ▸ hi)
    rw [List.getElem?_set_ne hne] at k1
    obtain ⟨v, k2, k3⟩ := E.slot j u k1 hj
    rw [av]
    exact ⟨v, k2, Rep.mv rfl (fun _ _ z => z) m _ _ k3⟩
  · by_cases e1 : i = j
    · subst e1
      rw [List.getElem?_set_self hl] at k1
      cases k1
      rw [av]
      exact ⟨a, h2, nA, nS, r⟩
    · rw [List.getElem?_set_ne e1] at k1
      obtain ⟨b, k2, k3, k4, k5⟩ := E.ownS j u k1 hj
      have hb : b ≠ a := fun z => e1 (E.dist i j a d u hi hj h1 k1 h2 (by rw [← z]; exact k2))
      rw [av]
      exact ⟨b, k2, k3, k4, k5.mv rfl (fun _ _ z => z) m fun w e => by rw [upd_ne hb]; exact e⟩
  · have back : ∀ j u, (ρ.set i (some e))[j]? = some (some u) → ∃ u', ρ[j]? = some (some u') := fun j u k1 => by
      by_cases e1 : i = j
      · subst e1; exact ⟨d, h1⟩
      · rw [List.getElem?_set_ne e1] at k1; exact ⟨u, k1⟩
    obtain ⟨w1, k1'⟩ := back j u k1
    obtain ⟨w2, k2'⟩ := back k u' k2
    exact E.dist j k b w1 w2 hj hk k1' k2' k3 k4
theorem OwnF.mutO (F : OwnF own σ ρ H0) {i : Nat} {d e : D} (h1 : ρ[i]? = some (some d)) : OwnF own σ (ρ.set i (some e)) H0 := fun a ⟨j, u, hj, k1, k2⟩ => by
  by_cases e1 : i = j
  · subst e1; exact F a ⟨i, d, hj, h1, k2⟩
  · rw [List.getElem?_set_ne e1] at k1; exact F a ⟨j, u, hj, k1, k2⟩
theorem Nxt.here {P : PEnv → Prop} {Q : L2.St → Hp → Prop} (n : Nxt K own fr c0 H0 A P Q) (hk : c.K = K) (t : Step c0 H0 c H) (E : EnvR c own A σ ρ H) (F : OwnF own σ ρ H0) (p : P ρ) : Q σ H := n c own σ ρ H hk (fun _ h => h) (fun _ => rfl) t E F p
end

section
variable {X : Cx} {own : List Nat} {fr : Bool} {ko k : Kd} {p q : TSD} {pe : TED} {pt : TTD} {pos : Pos} {e : Expr}
def sNext : TSD := fun DD ρ => DD.nx ρ
def sSeqD (p q : TSD) : TSD := fun DD ρ => p { DD with nx := q DD } ρ
theorem s_nil : PSs X [] (liftS X.K xw own fr ko sNext) := pss_imp pss_nil fun D σ H ⟨c0, H0, A, c, ρ, DD, hk, t, E, F, h, z⟩ => z.nx.here hk t E F h
theorem Nxt.sub {K : PySem.W.Frag} {own own' : List Nat} {fr : Bool} {c0 : Cfg} {H0 : Hp} {A : Addr → Prop} {P : PEnv → Prop} {Q : L2.St → Hp → Prop} (n : Nxt K own fr c0 H0 A P Q) (ho : ∀ i ∈ own', i ∈ own) (hf : fr = false → own' = own) : Nxt K own' fr c0 H0 A P Q :=
  fun c' o' σ' ρ' H' k' s1 s2 t' E' F' h' => n c' o' σ' ρ' H' k' (fun i hi => ho i (s1 i hi)) (fun z => (s2 z).trans (hf z)) t' E' F' h'
theorem Nxt.exact {K : PySem.W.Frag} {own : List Nat} {fr : Bool} {c0 : Cfg} {H0 : Hp} {A : Addr → Prop} {P : PEnv → Prop} {Q : L2.St → Hp → Prop} (n : Nxt K own fr c0 H0 A P Q) : Nxt K own false c0 H0 A P Q :=
  fun c' o' σ' ρ' H' k' s1 s2 t' E' F' h' => n c' o' σ' ρ' H' k' s1 (fun _ => s2 rfl) t' E' F' h'
theorem XNxt.sub {K : PySem.W.Frag} {xw : XWish} {own own' : List Nat} {fr : Bool} {c0 : Cfg} {H0 : Hp} {A : Addr → Prop} (n : XNxt K xw own fr c0 H0 A) (ho : ∀ i ∈ own', i ∈ own) (hf : fr = false → own' = own) : XNxt K xw own' fr c0 H0 A :=
  fun c' o' σ' ρ' H' m x cls dx k' s1 s2 t' E' F' r h => n c' o' σ' ρ' H' m x cls dx k' (fun i hi => ho i (s1 i hi)) (fun z => (s2 z).trans (hf z)) t' E' F' r h
theorem XNxt.exact {K : PySem.W.Frag} {xw : XWish} {own : List Nat} {fr : Bool} {c0 : Cfg} {H0 : Hp} {A : Addr → Prop} (n : XNxt K xw own fr c0 H0 A) : XNxt K xw own false c0 H0 A :=
  fun c' o' σ' ρ' H' m x cls dx k' s1 s2 t' E' F' r h => n c' o' σ' ρ' H' m x cls dx k' s1 (fun _ => s2 rfl) t' E' F' r h
theorem EndsOk.sub {K : PySem.W.Frag} {own own' : List Nat} {fr : Bool} {ko : Kd} {c0 : Cfg} {H0 : Hp} {A : Addr → Prop} {DD : DEnds} {Dn : Ends} (z : EndsOk K xw own fr ko c0 H0 A DD Dn) (ho : ∀ i ∈ own', i ∈ own) (hf : fr = false → own' = own) : EndsOk K xw own' fr ko c0 H0 A DD Dn := ⟨z.nx.sub ho hf, z.rt, z.bk.sub ho hf, z.ct.sub ho hf, z.xe.sub ho hf⟩
theorem s_cons {st : Stmt} {rest : List Stmt} {own' : List Nat} (h1 : PS X st (liftS X.K xw own false ko p)) (h2 : PSs X rest (liftS X.K xw own' fr ko q)) (ho : ∀ i ∈ own', i ∈ own := by decide) (hf : fr = false → own' = own := by decide) : PSs X (st :: rest) (liftS X.K xw own fr ko (sSeqD p q)) :=
  pss_imp (pss_cons h1 h2) fun D σ H ⟨c0, H0, A, c, ρ, DD, hk, t, E, F, h, z⟩ => ⟨c0, H0, A, c, ρ, _, hk, t, E, F, h, ⟨fun c' o' σ' ρ' H' k' s1 s2 t' E' F' h' => by
    have e := s2 rfl
    subst e
    exact ⟨c0, H0, A, c', ρ', DD, k', t', E'.freeze ho, F'.freeze ho, h', z.sub ho hf⟩, z.rt, z.bk.exact, z.ct.exact, z.xe.exact⟩⟩
theorem s_one {st : Stmt} (h : PS X st (liftS X.K xw own fr ko p)) : PSs X [st] (liftS X.K xw own fr ko p) := pss_one h
def sPass : TSD := fun DD ρ => DD.nx ρ
def sBrk : TSD := fun DD ρ => DD.bk ρ
def sCnt : TSD := fun DD ρ => DD.ct ρ
def sRet (pe : TED) : TSD := fun DD ρ => pe ρ DD.rt
theorem resF_of {c' : Cfg} {A : Addr → Prop} {σ : L2.St} {ρ : PEnv} {H' : Hp} {v : V} {d : D} (r : Rep c' (Avd c' own A σ ρ) H' v d) : Rep c' (fun b => A b ∨ c'.S b) H' v d :=
  Rep.mv rfl (fun _ _ z => z) (fun b o n e => ⟨fun z => n (z.elim .inl fun z => .inr (.inl z)), e⟩) _ _ r
theorem s_ret (he : PE X e (lift X.K own .strong pe)) : PS X (.Return (some e) pos) (liftS X.K xw own fr .strong (sRet pe)) :=
  ps_imp (ps_ret he) fun D σ H ⟨c0, H0, A, c, ρ, DD, hk, t, E, F, h, z⟩ => ⟨c, A, ρ, DD.rt, hk, E, h, fun c' v H' d t' r g => z.rt c' v H' d (t'.kk.trans hk) (t.trans t') (resF_of r) g⟩
def sRetN : TSD := fun DD _ => DD.rt .non
def sIf (pt : TTD) (p q : TSD) : TSD := fun DD ρ => pt ρ fun b => if b = true then p DD ρ else q DD ρ
theorem s_if {a b : List Stmt} (hc : PT X e (liftT X.K own pt)) (ha : PSs X a (liftS X.K xw own fr ko p)) (hb : PSs X b (liftS X.K xw own fr ko q)) : PS X (.If e a b pos) (liftS X.K xw own fr ko (sIf pt p q)) :=
  ps_imp (ps_if hc ha hb) fun D σ H ⟨c0, H0, A, c, ρ, DD, hk, t, E, F, h, z⟩ => ⟨c, A, ρ, _, hk, E, h, fun c' H' b t' g => by
    cases b with
    | true => exact ⟨c0, H0, A, c', ρ, DD, t'.kk.trans hk, t.trans t', E.step t', F, g, z⟩
    | false => exact ⟨c0, H0, A, c', ρ, DD, t'.kk.trans hk, t.trans t', E.step t', F, g, z⟩⟩
def sSet (i : Nat) (pe : TED) : TSD := fun DD ρ => pe ρ fun d => DD.nx (ρ.set i (some d))
theorem lift_set (K : PySem.W.Frag) {i : Nat} (hi : i ∉ own) {te : TE} (hte : ∀ σ H Q, lift K own .strong pe σ H Q → te σ H Q) : ∀ D σ H, liftS K xw own fr ko (sSet i pe) D σ H → tAsg te (gName i) D σ H := fun D σ H ⟨c0, H0, A, c, ρ, DD, hk, t, E, F, h, z⟩ => hte σ H _ ⟨c, A, ρ, _, hk, E, h, fun c' v H' d t' r g => by
    have o : ∀ j, j ∈ own → (ρ.set i (some d))[j]? = ρ[j]? ∧ (σ.set i (some v))[j]? = σ[j]? := fun j hj => by
      have hne : i ≠ j := fun z => hi (z ▸ hj)
      rw [List.getElem?_set_ne hne, List.getElem?_set_ne hne]
      exact ⟨rfl, rfl⟩
    exact z.nx.here (t'.kk.trans hk) (t.trans t') ((E.step t').set hi r) (F.congr o) g⟩
theorem lift_setO (K : PySem.W.Frag) {i : Nat} (hi : i ∈ own) {te : TE} (hte : ∀ σ H Q, lift K own .fresh pe σ H Q → te σ H Q) : ∀ D σ H, liftS K xw own fr ko (sSet i pe) D σ H → tAsg te (gName i) D σ H := fun D σ H ⟨c0, H0, A, c, ρ, DD, hk, t, E, F, h, z⟩ => hte σ H _ ⟨c, A, ρ, _, hk, E, h, fun c' v H' d t' r g => by
    have E' := E.setO t' hi r
    obtain ⟨a, e1, e2, e3⟩ := r
    subst e1
    exact z.nx.here (t'.kk.trans hk) (t.trans t') E' (F.setO t e2) g⟩
section
variable {x : Str} {pn : Pos}
theorem s_set (i : Nat) (hN : X.N.Nodup) (he : PE X e (lift X.K own .strong pe)) (hi : X.N[i]? = some x := by rfl) (hx : Loc X.env.scope x := by first | exact .inl rfl | exact .inr rfl) (ho : i ∉ own := by decide) (hs : swapsWith e (some (.Name x pn)) pos.line X.env = pure false := by rfl) (hf : X.fn x = true ∨ X.env.scope.names.lookup x = some .local := by first | exact .inl rfl | exact .inr rfl) :
    PS X (.Assign [.Name x pn] e pos) (liftS X.K xw own fr ko (sSet i pe)) := ps_imp (ps_set hN hi hx he hs hf) (lift_set _ ho fun _ _ _ h => h)
theorem s_setO (i : Nat) (hN : X.N.Nodup) (he : PE X e (lift X.K own .fresh pe)) (hi : X.N[i]? = some x := by rfl) (hx : Loc X.env.scope x := by first | exact .inl rfl | exact .inr rfl) (ho : i ∈ own := by decide) (hs : swapsWith e (some (.Name x pn)) pos.line X.env = pure false := by rfl) (hf : X.fn x = true ∨ X.env.scope.names.lookup x = some .local := by first | exact .inl rfl | exact .inr rfl) :
    PS X (.Assign [.Name x pn] e pos) (liftS X.K xw own fr ko (sSet i pe)) := ps_imp (ps_set hN hi hx he hs hf) (lift_setO _ ho fun _ _ _ h => h)
end
def sAsg (pe : TED) (g : TGD) : TSD := fun DD ρ => pe ρ fun d => g d ρ DD.nx
def sDrop (pe : TED) : TSD := fun DD ρ => pe ρ fun _ => DD.nx ρ
end
end DL

set_option Elab.async false
set_option linter.all false
set_option maxRecDepth 100000
set_option maxHeartbeats 2000000
namespace DL
open PySem PySem.Spec PyProof.Rows L2
variable [TabsOf]

section
variable {c c' c0 c1 c2 : Cfg} {own own' : List Nat} {A : Addr → Prop} {σ σ2 : L2.St} {ρ ρ2 : PEnv} {H H' H0 H1 H2 : Hp} {K : PySem.W.Frag} {ko : Kd}
theorem mask_back (t : Step c0 H0 c1 H1) (F : OwnF own σ ρ H0) {b : Addr} (h : mask own σ ρ H1 b = none) : H0 b = none := by
  unfold mask at h
  split at h
  · rename_i o; exact F b o
  · exact t.fresh h
theorem loop_back (t : Step c0 H0 c1 H1) (F : OwnF own σ ρ H0) (u : Step c1 (mask own σ ρ H1) c2 H2) : Step c0 H0 c2 H2 := by
  refine ⟨u.kk.trans t.kk, fun a l f => u.sub _ _ (t.sub _ _ f), fun b f => u.subC _ (t.subC _ f), fun b h => ?_, fun b o n e => ?_, fun b q e => ?_, u.fok⟩
  · rcases u.new b h with h | h
    · exact t.new b h
    · exact .inr (mask_back t F h)
  · have no : ¬ OwnA own σ ρ b := fun z => by rw [F b z] at e; cases e
    exact u.keep b o (t.notS e n) (mask_of no (t.keep b o n e))
  · have no : ¬ OwnA own σ ρ b := fun z => by rw [F b z] at e; cases e
    exact u.keepC b q (mask_of no (t.keepC b q e))
theorem ownF_back (t : Step c0 H0 c1 H1) (F : OwnF own σ ρ H0) (G : OwnF own' σ2 ρ2 (mask own σ ρ H1)) : OwnF own' σ2 ρ2 H0 := fun a h => mask_back t F (G a h)
theorem nxt_back {fr : Bool} {P : PEnv → Prop} {Q : L2.St → Hp → Prop} (t : Step c0 H0 c1 H1) (F : OwnF own σ ρ H0) (n : Nxt K own fr c0 H0 A P Q) : Nxt K own false c1 (mask own σ ρ H1) A P Q :=
  fun c' o' σ' ρ' H' k' s1 s2 t' E' F' h' => n c' o' σ' ρ' H' k' s1 (fun _ => s2 rfl) (loop_back t F t') E' (ownF_back t F F') h'
theorem xnxt_back {xw : XWish} {fr : Bool} (t : Step c0 H0 c1 H1) (F : OwnF own σ ρ H0) (n : XNxt K xw own fr c0 H0 A) : XNxt K xw own false c1 (mask own σ ρ H1) A :=
  fun c' o' σ' ρ' H' m x cls dx k' s1 s2 t' E' F' r h => n c' o' σ' ρ' H' m x cls dx k' s1 (fun _ => s2 rfl) (loop_back t F t') E' (ownF_back t F F') r h
theorem rtn_back {P : D → Prop} {Q : VK} (t : Step c0 H0 c1 H1) (F : OwnF own σ ρ H0) (n : Rtn K ko c0 H0 A P Q) : Rtn K ko c1 (mask own σ ρ H1) A P Q :=
  fun c' v H' d k' t' r g => n c' v H' d k' (loop_back t F t') (by
    cases ko with
    | weak => exact r
    | strong => exact r
    | fresh =>
      obtain ⟨a, e1, e2, e3⟩ := r
      exact ⟨a, e1, mask_back t F e2, e3⟩) g
end

def forR (tg : TGD) (body : TSD) (DD : DEnds) : List D → PEnv → Prop
  | [], ρ => DD.nx ρ
  | d :: ds, ρ => tg d ρ fun ρ1 => body { DD with nx := forR tg body DD ds, ct := forR tg body DD ds, bk := DD.nx } ρ1
def sFor (src : TAD) (tg : TGD) (body : TSD) : TSD := fun DD ρ => src ρ fun ds => forR tg body DD ds ρ
theorem lift_for (K : PySem.W.Frag) {own is : List Nat} {fr : Bool} {ko : Kd} {src : TAD} {tgd : TGD} {body : TSD} {g : TG} (hg : TgOk K own is g tgd) :
    ∀ D σ H, liftS K xw own fr ko (sFor src tgd body) D σ H → tFor (liftI K own .strong src) g (liftS K xw own false ko body) D σ H := by
  intro D σ H ⟨c0, H0, A, c, ρ, DD, hk, t, E, F, h, z⟩
  refine ⟨c, A, ρ, _, hk, E, h, fun c1 J H1 ds t1 it g1 => ?_⟩
  have E1 := E.step t1
  have t01 := t.trans t1
  have k1 : c1.K = K := t1.kk.trans hk
  let M := mask own σ ρ H1
  have tM : Step c1 M c1 H1 := (Step.refl E1.fok).less fun b o e => (mask_some e).2
  have FM : OwnF own σ ρ M := fun a ha => by
    show mask own σ ρ H1 a = none
    unfold mask
    rw [if_pos ha]
  refine ⟨fun i m σ2 H2 => m = ds.length - i ∧ i ≤ ds.length ∧ ∃ c2 ρ2, Step c1 M c2 H2 ∧ EnvR c2 own A σ2 ρ2 H2 ∧ OwnF own σ2 ρ2 M ∧ forR tgd body DD (ds.drop i) ρ2, ⟨ds.length, by simp, Nat.zero_le _, c1, ρ, tM, E1, FM, g1⟩, ?_⟩
  rintro i m σ2 H2 ⟨rfl, hi, c2, ρ2, t2, E2, F2, fr2⟩
  have k2 : c2.K = K := t2.kk.trans k1
  have it2 := it c2 H2 (Avd c2 own A σ2 ρ2) t2 (fun b h => E2.al h) (fun b o n e q => by
    rcases q with q | q | q
    · exact n (.inl q)
    · rcases t2.new b q with q | q
      · exact n (.inr (.inl q))
      · have e : M b = some o := e
        rw [q] at e; cases e
    · have e : M b = some o := e
      rw [F2 b q] at e; cases e) i
  by_cases hlt : i < ds.length
  · refine .inr ?_
    have hd : ds[i]? = some ds[i] := List.getElem?_eq_getElem hlt
    obtain ⟨go, yl⟩ := it2.2 _ hd
    have hdrop : ds.drop i = ds[i] :: ds.drop (i + 1) := List.drop_eq_getElem_cons hlt
    rw [hdrop] at fr2
    refine ⟨go, fun σ' H' => ∃ c3 ρ3, Step c1 M c3 H' ∧ EnvR c3 own A σ' ρ3 H' ∧ OwnF own σ' ρ3 M ∧ forR tgd body DD (ds.drop (i + 1)) ρ3, fun σ' H' h' => ⟨ds.length - (i + 1), by omega, rfl, hlt, h'⟩, fun x H3 y => ?_⟩
    obtain ⟨same, rx⟩ := yl x H3 y
    have t3 : Step c2 H2 c2 H3 := .ofSame E2.fok same
    refine hg c2 A σ2 ρ2 H3 x ds[i] _ _ k2 (E2.step t3) rx fr2 fun σ4 ρ4 E4 o4 _ q4 => ?_
    refine ⟨c1, M, A, c2, ρ4, _, k2, t2.trans t3, E4, F2.congr o4, q4, ⟨?_, rtn_back t01 F z.rt, nxt_back t01 F z.nx, ?_, xnxt_back t01 F z.xe⟩⟩
    · intro c' o' σ' ρ' H' k' s1 s2 t' E' F' h'
      have e := s2 rfl
      subst e
      exact ⟨c', ρ', t', E', F', h'⟩
    · intro c' o' σ' ρ' H' k' s1 s2 t' E' F' h'
      have e := s2 rfl
      subst e
      exact ⟨c', ρ', t', E', F', h'⟩
  · refine .inl ⟨it2.1 (by omega), ?_⟩
    have e : ds.drop i = [] := List.drop_eq_nil_of_le (by omega)
    rw [e] at fr2
    exact z.nx.here k2 (loop_back t01 F t2) E2 (ownF_back t01 F F2) fr2
section
variable {X : Cx} {own : List Nat} {fr : Bool} {ko k : Kd} {p q : TSD} {pe pk : TED} {pt : TTD} {pos : Pos} {e : Expr}
theorem s_for {tg iter : Expr} {body : List Stmt} {is : List Nat} {src : TAD} {g : TG} {tgd : TGD} (hp : PassesOwn (model X.prog X.w) X.A X.env X.xe) (hc : X.calm = true) (hi : PI X tg iter (liftI X.K own .strong src)) (hg : PG X tg g) (hgd : TgOk X.K own is g tgd) (hb : PSs X body (liftS X.K xw own false ko p))
    (hs : ∀ x, foldedSetIterable iter X.env x = pure x := by intro _; rfl) : PS X (.For tg iter body [] pos) (liftS X.K xw own fr ko (sFor src tgd p)) := ps_imp (ps_for hp hc hi hg hb hs) (lift_for _ hgd)
theorem lift_less {p : TED} (K : PySem.W.Frag) : ∀ σ H Q, lift K own .strong p σ H Q → lift K own .fresh p σ H Q := fun σ H Q ⟨c, A, ρ, R, hk, E, hp, f⟩ => ⟨c, A, ρ, R, hk, E, hp, fun c' v H' d t r => f c' v H' d t (Fr.strong t E r)⟩
theorem s_setLc (i : Nat) {y : Str} {py : Pos} {elt tg iter : Expr} {ifs : List Expr} {scope : Scope} {ow : List (Str × Nat)} {spos : Pos} {is : List Nat} {src : TAD} {g : TG} {tgd : TGD} {tt : TTD} {te : TED} (hc : X.calm = true) (hN : X.N.Nodup) (hi : PI X tg iter (liftI X.K own .weak src)) (ok : BlkOk X.N X.env.scope scope ow)
    (hg : ∀ (s : Shared) (H : Hp) (C : Addr) (cl : List (Str × Addr)) (fp : List Addr), PG (X.blk s H scope (compEnvC scope cl C X.env) fp) tg g) (hgd : TgOk X.K own is g tgd) (ht : ∀ (s : Shared) (H : Hp) (C : Addr) (cl : List (Str × Addr)) (fp : List Addr), PTs (X.blk s H scope (compEnvC scope cl C X.env) fp) ifs (liftT X.K own tt))
    (he : ∀ (s : Shared) (H : Hp) (C : Addr) (cl : List (Str × Addr)) (fp : List Addr), PE (X.blk s H scope (compEnvC scope cl C X.env) fp) elt (lift X.K own .strong te)) (hy : X.N[i]? = some y := by rfl) (hyl : X.env.scope.names.lookup y = some .local := by rfl)
    (hsw : swapsWith (.ListComp elt [⟨tg, iter, ifs, 0⟩] scope pos) (some (.Name y py)) spos.line X.env = pure true := by exact sw_true rfl rfl rfl (by decide +kernel)) (hv : ∀ i ∈ is, i ∈ ow.map (·.2) := by decide) (ho : ∀ i ∈ ow.map (·.2), i ∉ own := by decide) (hno : i ∉ own := by decide) {vs : List Nat} (hvs : ow.map (·.2) = vs := by rfl) (hs : ∀ x, foldedSetIterable iter X.env x = pure x := by intro _; rfl) :
    PS X (.Assign [.Name y py] (.ListComp elt [⟨tg, iter, ifs, 0⟩] scope pos) spos) (liftS X.K xw own fr ko (sSet i (pComp src tgd tt te vs))) :=
  hvs ▸ ps_imp (ps_setLc hc hN hy hyl hsw hi ok hg ht he hs) (lift_set _ hno fun σ H Q h => lift_comp _ hgd hv ho σ H Q (lift_less _ σ H Q h))
def ownL (ρ : PEnv) (i : Nat) (f : List D → Prop) : Prop := match ρ[i]? with | some (some (.lst ds)) => f ds | _ => False
theorem ownL_iff {ρ : PEnv} {i : Nat} {f : List D → Prop} (h : ownL ρ i f) : ∃ ds, ρ[i]? = some (some (.lst ds)) ∧ f ds := by
  unfold ownL at h
  split at h
  · rename_i ds e; exact ⟨ds, e, h⟩
  · exact h.elim
def sApp (i : Nat) (pe : TED) : TSD := fun DD ρ => ownL ρ i fun ds => pe ρ fun d => ds.length < sizeLine ∧ DD.nx (ρ.set i (some (.lst (ds ++ [d]))))
theorem ownL_at {c : Cfg} {A : Addr → Prop} {σ : L2.St} {ρ : PEnv} {H : Hp} {i : Nat} {ds : List D} (E : EnvR c own A σ ρ H) (hi : i ∈ own) (e : ρ[i]? = some (some (.lst ds))) : ∃ a vs, σ[i]? = some (some (.ref a)) ∧ ¬ c.S a ∧ vs.length ≤ sizeLine ∧ H a = some (.lst vs) ∧ RepL c (Avd c own A σ ρ) H vs ds := by
  obtain ⟨a, h1, h2, h3, h4⟩ := E.ownS i _ e hi
  cases h4 with
  | lst z h r => exact ⟨a, _, h1, h3, z, h, r⟩
theorem lst_mut {K : PySem.W.Frag} {c c0 : Cfg} {A : Addr → Prop} {σ : L2.St} {ρ : PEnv} {H H0 : Hp} {i : Nat} {a : Addr} {ds es : List D} {ws : List V} {P : PEnv → Prop} {Q : L2.St → Hp → Prop} (n : Nxt K own fr c0 H0 A P Q) (hk : c.K = K) (t : Step c0 H0 c H) (E : EnvR c own A σ ρ H) (F : OwnF own σ ρ H0)
    (hi : i ∈ own) (e : ρ[i]? = some (some (.lst ds))) (ha : σ[i]? = some (some (.ref a))) (hs : ¬ c.S a) (hz : ws.length ≤ sizeLine) (r : RepL c (Avd c own A σ ρ) H ws es) (p : P (ρ.set i (some (.lst es)))) : Q σ (upd H a (.lst ws)) := by
  have own_a : OwnA own σ ρ a := ⟨i, _, hi, e, ha⟩
  have m : ∀ b u, ¬ Avd c own A σ ρ b → H b = some u → ¬ Avd c own A σ ρ b ∧ (upd H a (.lst ws)) b = some u := fun b u n e => ⟨n, by rw [upd_ne (fun z => n (by rw [z]; exact .inr (.inr own_a)))]; exact e⟩
  exact n.here hk (t.upd (F a own_a) hs) (E.mutO hi e ha (.lst hz upd_same (RepL.mv rfl (fun _ _ z => z) m _ _ r))) (F.mutO e) p
theorem lift_app (K : PySem.W.Frag) {i : Nat} (hi : i ∈ own) : ∀ D σ H, liftS K xw own fr ko (sApp i pe) D σ H → tDrop (tBM K "list" rAppend (tVar i) (tCons (lift K own .strong pe) tNil)) D σ H := by
  intro D σ H ⟨c0, H0, A, c, ρ, DD, hk, t, E, F, h, z⟩
  obtain ⟨ds, e, h⟩ := ownL_iff h
  obtain ⟨a, vs, h1, h2, h3, h4, h5⟩ := ownL_at E hi e
  refine ⟨.ref a, h1, .inl ⟨rfl, _, SqL.of h4⟩, c, A, ρ, _, hk, E, h, fun c1 v H1 d t1 r1 g1 => ?_⟩
  have E1 := E.step t1
  obtain ⟨hz, g1⟩ := g1
  have h4' : H1 a = some (.lst vs) := t1.keep a _ h2 h4
  have r5 := RepL.step E t1 h5
  have hl : vs.length < sizeLine := by rw [h5.len]; exact hz
  refine ⟨a, vs, v, rfl, rfl, h4', hl, ?_⟩
  exact lst_mut z.nx (t1.kk.trans hk) (t.trans t1) E1 F hi e h1 (t1.notS h4 h2) (by rw [List.length_append]; exact hl) (r5.append (.cons r1 .nil)) g1
theorem s_app (i : Nat) {st : Stmt} (h : PS X st (tDrop (tBM X.K "list" rAppend (tVar i) (tCons (lift X.K own .strong pe) tNil)))) (hi : i ∈ own := by decide) : PS X st (liftS X.K xw own fr ko (sApp i pe)) := ps_imp h (lift_app _ hi)
def sItem (i : Nat) (pk pe : TED) : TSD := fun DD ρ => ownL ρ i fun ds => pe ρ fun d => pk ρ fun k => dInt k fun k => ∃ j, ixN ds.length k = some j ∧ DD.nx (ρ.set i (some (.lst (ds.set j d))))
end

def startD (m : Nat) (ds : List D) : PEnv := ds.map some ++ List.replicate (m - ds.length) none
def fnW (ko : Kd) (m : Nat) (p : TSD) : List D → (D → Prop) → Prop := fun ds R => p ⟨fun _ => (match ko with | .fresh => False | _ => R .non), R, fun _ => False, fun _ => False⟩ (startD m ds)
theorem start_env {c : Cfg} {own : List Nat} {A : Addr → Prop} {N : List Str} {vs : List V} {ds : List D} {H : Hp} (fo : FeedsOk c H) (hA : ∀ a, A a → AvOk H a) (r : RepL c (fun a => A a ∨ c.S a) H vs ds) (ho : ∀ i ∈ own, vs.length ≤ i) (hN : vs.length ≤ N.length) : EnvR c own A (L2.start N vs) (startD N.length ds) H ∧ ∀ a, ¬ OwnA own (L2.start N vs) (startD N.length ds) a := by
  have hl := r.len
  have none_at : ∀ i d, i ∈ own → (startD N.length ds)[i]? ≠ some (some d) := fun i d hi z => by
    unfold startD at z
    rw [List.getElem?_append_right (by rw [List.length_map, ← hl]; exact ho i hi)] at z
    by_cases h : i - (ds.map some).length < N.length - ds.length
    · rw [List.getElem?_replicate, if_pos h] at z; cases z
    · rw [List.getElem?_replicate, if_neg h] at z; cases z
  have no : ∀ a, ¬ OwnA own (L2.start N vs) (startD N.length ds) a := fun a ⟨i, d, hi, h1, _⟩ => none_at i d hi h1
  refine ⟨⟨fo, by simp [L2.start, startD, hl], hA, fun i d h hi => ?_, fun i d h hi => (none_at i d hi h).elim, fun i j a d e hi hj h1 => (none_at i d hi h1).elim⟩, no⟩
  have hil : i < ds.length := by
    by_cases q : i < ds.length
    · exact q
    · unfold startD at h
      rw [List.getElem?_append_right (by rw [List.length_map]; omega)] at h
      by_cases h' : i - (ds.map some).length < N.length - ds.length
      · rw [List.getElem?_replicate, if_pos h'] at h; cases h
      · rw [List.getElem?_replicate, if_neg h'] at h; cases h
  unfold startD at h
  rw [List.getElem?_append_left (by rw [List.length_map]; exact hil), List.getElem?_map] at h
  cases q : ds[i]? with
  | none => rw [q] at h; cases h
  | some d' =>
    rw [q] at h
    have := Option.some.inj (Option.some.inj h)
    subst this
    obtain ⟨v, h1, h2⟩ := r.get q
    refine ⟨v, ?_, Rep.mv rfl (fun _ _ z => z) (fun b o n e => ⟨fun z => n (by
      rcases z with z | z | z
      · exact .inl z
      · exact .inr z
      · exact (no b z).elim), e⟩) _ _ h2⟩
    unfold L2.start
    rw [List.getElem?_append_left (by rw [List.length_map, hl]; exact hil), List.getElem?_map, h1]
    rfl
theorem fn_d {P : Program} {w : World} {K : PySem.W.Frag} {mg : Str → Option Value} {base : Heap} {x qual : Str} {st : Stmt} {f : Addr} {fd : FuncData} {N ps : List Str} {k n : Nat} {own : List Nat} {fr : Bool} {ko : Kd} {p : TSD} (F : Fun K x qual st f fd) (S : FnScope N ps (defScope st)) (hn : ps.length = n) (ho : ∀ i ∈ own, n ≤ i) (hN : n ≤ N.length)
    (hbody : ∀ (cdv : Value) (A : Around) (outer : List Env) (s : Shared) (H : Hp) (E : XK), Room k (A.deeper (envOfC qual (defScope st) s.heap.objs.size f cdv)) →
      PSs (cxOf CX0 P w K mg base N qual (defScope st) f cdv A outer s H E).nox (defBody st) (liftS K xw0 own fr ko p)) : FnOk P w K mg base CX0 (k + 1) f fd ps (spD K n ko (fnW ko N.length p)) := by
  refine F.ok S (fun vs H Q E h => h.1.trans hn.symm) fun cdv A outer s H vs Q E hr h => ⟨_, hbody cdv A outer s H E hr, ?_⟩
  obtain ⟨hl, c, A', ds, R, hk, fo, hA, r, hw, q⟩ := h
  obtain ⟨E0, no⟩ := start_env (own := own) (N := N) fo hA r (fun i hi => by rw [hl]; exact ho i hi) (by rw [hl]; exact hN)
  refine ⟨c, H, A', c, _, _, hk, Step.refl fo, E0, fun a h => (no a h).elim, hw, ⟨?_, fun c' v H' d k' t' r' g => q c' v H' d t' r' g, fun _ _ _ _ _ _ _ _ _ _ _ h => h.elim, fun _ _ _ _ _ _ _ _ _ _ _ h => h.elim, xNxt0⟩⟩
  intro c' o' σ' ρ' H' k' s1 s2 t' E' F' h'
  cases ko with
  | fresh => exact h'.elim
  | weak => exact q c' .non H' .non t' .non h'
  | strong => exact q c' .non H' .non t' .non h'
end DL

set_option Elab.async false
set_option linter.all false
set_option maxRecDepth 100000
set_option maxHeartbeats 2000000
namespace DL
open PySem PySem.Spec PyProof.Rows L2
variable [TabsOf]

def dAdd (x y : D) (R : D → Prop) : Prop := match x, y with
  | .int i, .int j => R (.int (i + j))
  | .str s, .str t => s.length + t.length ≤ sizeLine ∧ R (.str (s ++ t))
  | .lst a, .lst b => a.length + b.length ≤ sizeLine ∧ R (.lst (a ++ b))
  | .tup a, .tup b => a.length + b.length ≤ sizeLine ∧ R (.tup (a ++ b))
  | _, _ => False
def rAddA (K : PySem.W.Frag) : R2 := fun x y H Q => (rI0 (fun i j => .int (i + j)) x y H Q ∨ (∃ i j, x = .str i ∧ y = .str j ∧ i.length + j.length ≤ sizeLine ∧ Q (.str (i ++ j)) H)) ∨ (rCat x y H Q ∨ rCatA K x y H Q)
theorem o_add {X : Cx} : OpR X (binaryOp .Add) (rAddA X.K) := (op_add.or op_add_str).or (op_cat.or op_catA)
theorem RepL.nil_of {c : Cfg} {Av : Addr → Prop} {H : Hp} {ds : List D} (r : RepL c Av H [] ds) : ds = [] := by cases r; rfl
theorem NodT.rep {c : Cfg} {Av : Addr → Prop} {H : Hp} {a : Addr} {vs : List V} {ds : List D} (n : NodT c Av H a vs) (r : RepL c Av H vs ds) : Rep c Av H (.ref a) (.tup ds) := .tup n r
theorem C2.weaken {K : PySem.W.Frag} {r : R2} {r' : D → D → (D → Prop) → Prop} (h : C2 K r .fresh r') : C2 K r .strong r' := fun c own A σ ρ H v w d e R Q hk E r1 r2 g q => h c own A σ ρ H v w d e R Q hk E r1 r2 g fun c' v' H' d' t r => q c' v' H' d' t (Fr.strong t E r)
theorem C1.weaken {K : PySem.W.Frag} {r : V → Hp → VK → Prop} {r' : D → (D → Prop) → Prop} (h : C1 K r .fresh r') : C1 K r .strong r' := fun c own A σ ρ H v d R Q hk E r1 g q => h c own A σ ρ H v d R Q hk E r1 g fun c' v' H' d' t r => q c' v' H' d' t (Fr.strong t E r)
theorem CL.weaken {K : PySem.W.Frag} {r : List V → Hp → VK → Prop} {r' : List D → (D → Prop) → Prop} (h : CL K r .fresh r') : CL K r .strong r' := fun c own A σ ρ H vs ds R Q hk E r1 g q => h c own A σ ρ H vs ds R Q hk E r1 g fun c' v' H' d' t r => q c' v' H' d' t (Fr.strong t E r)
def dCat (x y : D) (R : D → Prop) : Prop := match x, y with
  | .lst a, .lst b => a.length + b.length ≤ sizeLine ∧ R (.lst (a ++ b))
  | _, _ => False
theorem c_cat {K : PySem.W.Frag} : C2 K rCat .fresh dCat := fun c own A σ ρ H v w d e R Q hk E r1 r2 g q => by
  unfold dCat at g
  split at g
  · obtain ⟨a, vs, rfl, z1, h1, rl1⟩ := RepW.lst r1
    obtain ⟨b, ws, rfl, z2, h2, rl2⟩ := RepW.lst r2
    have hz : vs.length + ws.length ≤ sizeLine := by rw [rl1.len, rl2.len]; exact g.1
    exact ⟨a, b, vs, ws, rfl, rfl, h1, h2, hz, fun p hp => q c (.ref p) _ _ (.one E.fok hp) (Fr.newL E hp (by rw [List.length_append]; exact hz) (rl1.append rl2)) g.2⟩
  · exact g.elim
theorem c_add {K : PySem.W.Frag} : C2 K (rAddA K) .strong dAdd := fun c own A σ ρ H v w d e R Q hk E r1 r2 g q => by
  unfold dAdd at g
  split at g
  · have e1 := RepW.int r1
    have e2 := RepW.int r2
    subst e1; subst e2
    exact .inl (.inl ⟨_, _, rfl, rfl, q c _ H _ (Step.refl E.fok) (.int _) g⟩)
  · have e1 := RepW.str r1
    have e2 := RepW.str r2
    subst e1; subst e2
    exact .inl (.inr ⟨_, _, rfl, rfl, g.1, q c _ H _ (Step.refl E.fok) (.str _) g.2⟩)
  · exact .inr (.inl (c_cat.weaken c own A σ ρ H v w _ _ R Q hk E r1 r2 g q))
  · obtain ⟨a, vs, rfl, n1, rl1⟩ := RepW.tup r1
    obtain ⟨b, ws, rfl, n2, rl2⟩ := RepW.tup r2
    have hz : vs.length + ws.length ≤ sizeLine := by rw [rl1.len, rl2.len]; exact g.1
    have s1 := n1.sq
    have s2 := n2.sq
    rw [hk] at s1 s2
    refine .inr (.inr ⟨a, b, vs, ws, rfl, rfl, s1, s2, hz, fun e0 => ?_, fun n0 e0 => ?_, fun n0 n3 p hp => ?_⟩)
    · subst e0
      have := rl1.nil_of
      subst this
      exact q c _ H _ (Step.refl E.fok) (n2.rep rl2) g.2
    · subst e0
      have := rl2.nil_of
      subst this
      have g2 := g.2
      rw [List.append_nil] at g2
      exact q c _ H _ (Step.refl E.fok) (n1.rep rl1) g2
    · exact q c (.ref p) _ _ (.one E.fok hp) (Rep.newT E hp (by rw [List.length_append]; exact hz) (rl1.append rl2)) g.2
  · exact g.elim

def dI2 (f : Int → Int → (D → Prop) → Prop) (x y : D) (R : D → Prop) : Prop := match x, y with | .int i, .int j => f i j R | _, _ => False
theorem dI2_iff {f : Int → Int → (D → Prop) → Prop} {x y : D} {R : D → Prop} (h : dI2 f x y R) : ∃ i j, x = .int i ∧ y = .int j ∧ f i j R := by
  unfold dI2 at h
  split at h
  · exact ⟨_, _, rfl, rfl, h⟩
  · exact h.elim
theorem c_I {K : PySem.W.Frag} {C : Int → Int → Prop} {g : Int → Int → V} {f : Int → Int → (D → Prop) → Prop} (h : ∀ i j R, f i j R → C i j ∧ ∃ d, R d ∧ ∀ c Av H, Rep c Av H (g i j) d) : C2 K (rI C g) .strong (dI2 f) := fun c own A σ ρ H v w d e R Q hk E r1 r2 gg q => by
  obtain ⟨i, j, rfl, rfl, gg⟩ := dI2_iff gg
  have e1 := RepW.int r1
  have e2 := RepW.int r2
  subst e1; subst e2
  obtain ⟨hc, d, hr, rp⟩ := h i j R gg
  exact ⟨i, j, rfl, rfl, hc, q c _ H _ (Step.refl E.fok) (rp _ _ _) hr⟩
theorem c_I0 {K : PySem.W.Frag} {g : Int → Int → V} {f : Int → Int → (D → Prop) → Prop} (h : ∀ i j R, f i j R → ∃ d, R d ∧ ∀ c Av H, Rep c Av H (g i j) d) : C2 K (rI0 g) .strong (dI2 f) := fun c own A σ ρ H v w d e R Q hk E r1 r2 gg q => by
  obtain ⟨i, j, rfl, rfl, gg⟩ := dI2_iff gg
  have e1 := RepW.int r1
  have e2 := RepW.int r2
  subst e1; subst e2
  obtain ⟨d, hr, rp⟩ := h i j R gg
  exact ⟨i, j, rfl, rfl, q c _ H _ (Step.refl E.fok) (rp _ _ _) hr⟩
def dSub : D → D → (D → Prop) → Prop := dI2 fun i j R => R (.int (i - j))
theorem c_sub {K : PySem.W.Frag} : C2 K (rI0 fun i j => .int (i - j)) .strong dSub := c_I0 fun i j R h => ⟨_, h, fun _ _ _ => .int _⟩
def mulOk (i j : Int) : Prop := i.natAbs.log2 + j.natAbs.log2 < 1000000
def dMulI : D → D → (D → Prop) → Prop := dI2 fun i j R => mulOk i j ∧ R (.int (i * j))
theorem c_mulI {K : PySem.W.Frag} : C2 K (rI CMulW fun i j => .int (i * j)) .strong dMulI := c_I fun i j R h => ⟨h.1, _, h.2, fun _ _ _ => .int _⟩
def dRep (x y : D) (R : D → Prop) : Prop := match x, y with
  | .lst a, .int k => (-(2 ^ 63) ≤ k ∧ k < 2 ^ 63 ∧ a.length * k.toNat ≤ sizeLine) ∧ R (.lst (List.replicate k.toNat a).flatten)
  | _, _ => False
theorem RepL.flat {c : Cfg} {Av : Addr → Prop} {H : Hp} {vs : List V} {ds : List D} (r : RepL c Av H vs ds) : ∀ n, RepL c Av H (List.replicate n vs).flatten (List.replicate n ds).flatten
  | 0 => .nil
  | n + 1 => by
    rw [List.replicate_succ, List.replicate_succ, List.flatten_cons, List.flatten_cons]
    exact r.append (r.flat n)
theorem flat_len {α : Type} (a : List α) : ∀ n, (List.replicate n a).flatten.length = a.length * n
  | 0 => by simp
  | n + 1 => by
    rw [List.replicate_succ, List.flatten_cons, List.length_append, flat_len a n, Nat.mul_succ, Nat.add_comm]
theorem c_rep {K : PySem.W.Frag} : C2 K rRep .fresh dRep := fun c own A σ ρ H v w d e R Q hk E r1 r2 g q => by
  unfold dRep at g
  split at g
  · obtain ⟨a, vs, rfl, z1, h1, rl1⟩ := RepW.lst r1
    have e2 := RepW.int r2
    subst e2
    obtain ⟨⟨g1, g2, g3⟩, g4⟩ := g
    refine ⟨a, _, vs, rfl, rfl, h1, g1, g2, by rw [rl1.len]; exact g3, fun p hp => q c (.ref p) _ _ (.one E.fok hp) (Fr.newL E hp ?_ (rl1.flat _)) g4⟩
    rw [flat_len, rl1.len]
    exact g3
  · exact g.elim
theorem tuple_mul_same (l : Addr) (items : Array Value) (n : Nat) (sl : Array (Option Value)) (dd : Option Addr) (x : Int) (u : Tok) (c0 : (decide (x < -(2 ^ 63)) || decide (x ≥ 2 ^ 63)) = false) (c1 : (items.isEmpty || x == 1) = true) :
    Meets (Builtin.«tuple.__mul__» ⟨[.ref l, .int x u], []⟩) (fun _ R s => s.heap.get? l = some { cls := .type "tuple", dict := dd, data := .seq items n, slots := sl } ∧ R (.ok (.ret (Value.ref l))) s) :=
  .of_wp fun prog w A R s h => by
    obtain ⟨hp, g, d, tk, os⟩ := s
    obtain ⟨hl, h⟩ := h
    have f1 := AutoSeq1.idx_int
    wp_walk using wpAny_loadPart' hl
    repeat (first
      | (refine wpAny_ite_false (decide_eq_false (by rw [c0]; exact Bool.false_ne_true)) ?_; wp_walk using wpAny_loadPart' hl)
      | (refine wpAny_ite_true (decide_eq_true c1) ?_; wp_walk using wpAny_loadPart' hl))
    exact ⟨_, rfl, h⟩
theorem tuple_mul_none (l : Addr) (items : Array Value) (n : Nat) (sl : Array (Option Value)) (dd : Option Addr) (x : Int) (u : Tok) (c0 : (decide (x < -(2 ^ 63)) || decide (x ≥ 2 ^ 63)) = false) (c1 : (items.isEmpty || x == 1) = false) (c2 : (decide (x ≤ 0) || items.isEmpty) = true) :
    Meets (Builtin.«tuple.__mul__» ⟨[.ref l, .int x u], []⟩) (fun _ R s => s.heap.get? l = some { cls := .type "tuple", dict := dd, data := .seq items n, slots := sl } ∧
      R (.ok (.ret (Value.ref s.heap.objs.size))) { s with heap := s.heap.push { cls := Value.type "tuple", data := Data.seq #[] }, toks := s.toks }) :=
  .of_wp fun prog w A R s h => by
    obtain ⟨hp, g, d, tk, os⟩ := s
    obtain ⟨hl, h⟩ := h
    have f1 := AutoSeq1.idx_int
    wp_walk using wpAny_loadPart' hl
    repeat (first
      | (refine wpAny_ite_false (decide_eq_false (by rw [c0]; exact Bool.false_ne_true)) ?_; wp_walk using wpAny_loadPart' hl)
      | (refine wpAny_ite_false (decide_eq_false (by rw [c1]; exact Bool.false_ne_true)) ?_; wp_walk using wpAny_loadPart' hl)
      | (refine wpAny_ite_true (decide_eq_true c2) ?_; wp_walk using wpAny_loadPart' hl))
    exact ⟨_, rfl, h⟩
def rRepB (K : PySem.W.Frag) : R2 := fun x y H Q => ∃ l k xs, x = .ref l ∧ y = .int k ∧ SqT K H l xs ∧ -(2 ^ 63) ≤ k ∧ k < 2 ^ 63 ∧ xs.length * k.toNat ≤ 1000000 ∧
  (xs = [] ∨ k = 1 → Q (.ref l) H) ∧ (xs ≠ [] → k ≠ 1 → ∀ p, H p = none → Q (.ref p) (upd H p (.tup (List.replicate k.toNat xs).flatten)))
theorem op_repB {X : Cx} : OpR X (binaryOp .Mult) (rRepB X.K) := by
  intro pins s σ H x y v u Q I rx ry h
  obtain ⟨l, k, xs, rfl, rfl, hT, h1, h2, hz, q1, q2⟩ := h
  cases rx
  obtain ⟨t, rfl⟩ := ry
  obtain ⟨its, r, ⟨⟨cls, dd, data, sl⟩, ho, hc, n, hd⟩, hs⟩ := I.tuple hT
  simp only at hc hd
  subst hc hd
  have hle : its.length = xs.length := r.length.symm
  have hsz0 : its.toArray.size = xs.length := by rw [List.size_toArray, hle]
  have c0 : (decide (k < -(2 ^ 63)) || decide (k ≥ 2 ^ 63)) = false := by
    rw [decide_eq_false (by omega), decide_eq_false (by omega)] <;> rfl
  have emp : its.toArray.isEmpty = decide (xs = []) := by
    cases its with
    | nil =>
      have : xs = [] := List.eq_nil_of_length_eq_zero hle.symm
      rw [this]; rfl
    | cons a b =>
      have : xs ≠ [] := fun e => by rw [e] at hle; simp at hle
      rw [decide_eq_false this]; rfl
  by_cases hw : xs = [] ∨ k = 1
  · have c1 : (its.toArray.isEmpty || k == 1) = true := by
      rw [emp, Bool.or_eq_true, decide_eq_true_iff, beq_iff_eq]
      exact hw
    refine wpAny_binaryOp_repeat_ref (T := "tuple") (U := "int") (by decide) ⟨_, ho, rfl⟩ (fun s' => typeIs_int s' k t) noFill_tuple_mul F.fills_int_mul F.slot_int_rmul repeat_tuple F.slot_int_index.lookup
      (call_meets F.slot_int_rmul (typeIs_int s k t) F.entry_int_rmul (F.args_int_rmul_2 _ _) (int_rmul_tuple k t l its.toArray n dd sl)
        ⟨ho, rfl, ⟨_, ho, rfl⟩, call_meets F.slot_tuple_mul ⟨_, ho, rfl⟩ F.entry_tuple_mul (F.args_tuple_mul_2 _ _) (tuple_mul_same l its.toArray n sl dd k t c0 c1) ⟨ho, ?_⟩⟩)
    exact ⟨.ref l, H, I, rfl, q1 hw⟩
  · have hx : xs ≠ [] := fun e => hw (.inl e)
    have hk : k ≠ 1 := fun e => hw (.inr e)
    have c1 : (its.toArray.isEmpty || k == 1) = false := by
      rw [emp, decide_eq_false hx, Bool.false_or]
      exact beq_eq_false_iff_ne.mpr hk
    by_cases h0 : k ≤ 0
    · have c2 : (decide (k ≤ 0) || its.toArray.isEmpty) = true := by rw [decide_eq_true h0]; rfl
      refine wpAny_binaryOp_repeat_ref (T := "tuple") (U := "int") (by decide) ⟨_, ho, rfl⟩ (fun s' => typeIs_int s' k t) noFill_tuple_mul F.fills_int_mul F.slot_int_rmul repeat_tuple F.slot_int_index.lookup
        (call_meets F.slot_int_rmul (typeIs_int s k t) F.entry_int_rmul (F.args_int_rmul_2 _ _) (int_rmul_tuple k t l its.toArray n dd sl)
          ⟨ho, rfl, ⟨_, ho, rfl⟩, call_meets F.slot_tuple_mul ⟨_, ho, rfl⟩ F.entry_tuple_mul (F.args_tuple_mul_2 _ _) (tuple_mul_none l its.toArray n sl dd k t c0 c1 c2) ⟨ho, ?_⟩⟩)
      have e0 : (List.replicate k.toNat xs).flatten = [] := by rw [show k.toNat = 0 by omega]; rfl
      refine ⟨.ref s.heap.objs.size, _, I.laid (t' := s.toks) (o := .tup (List.replicate k.toNat xs).flatten) (fun b ob q => Heap.get?_push_of_some _ q) (Nat.le_refl _) ?_, rfl, q2 hx hk _ (I.hok.fresh (Nat.le_refl _))⟩
      rw [e0]
      exact ⟨Nat.zero_le _, [], .nil, IsTup.new _ _⟩
    · have c2 : (decide (k ≤ 0) || its.toArray.isEmpty) = false := by
        rw [emp, decide_eq_false hx, Bool.or_false]
        exact decide_eq_false h0
      have hm : ((its.toArray.size : Nat) : Int) * k ≤ 1000000 := by
        rw [hsz0]
        have : ((xs.length * k.toNat : Nat) : Int) ≤ 1000000 := by omega
        rwa [Int.natCast_mul, Int.toNat_of_nonneg (by omega)] at this
      have flen : (List.replicate k.toNat its).flatten.length ≤ sizeLine := by
        rw [PyProof.Rows.lm_len_rep_flat, hle, sizeLine_eq, Nat.mul_comm]
        omega
      have c4 : Builtin.Tuple.tupleTooMany (((its.toArray.size : Nat) : Int) * k) = false := by
        unfold Builtin.Tuple.tupleTooMany
        rw [sizeLine_eq]
        exact decide_eq_false (by omega)
      refine wpAny_binaryOp_repeat_ref (T := "tuple") (U := "int") (by decide) ⟨_, ho, rfl⟩ (fun s' => typeIs_int s' k t) noFill_tuple_mul F.fills_int_mul F.slot_int_rmul repeat_tuple F.slot_int_index.lookup
        (call_meets F.slot_int_rmul (typeIs_int s k t) F.entry_int_rmul (F.args_int_rmul_2 _ _) (int_rmul_tuple k t l its.toArray n dd sl)
          ⟨ho, rfl, ⟨_, ho, rfl⟩, call_meets F.slot_tuple_mul ⟨_, ho, rfl⟩ F.entry_tuple_mul (F.args_tuple_mul_2 _ _) (tuple_mulW l its.toArray n dd sl k t c0 c1 c2 (by omega) c4 (by rw [size_rep, List.size_toArray]; exact flen)) ⟨ho, ?_⟩⟩)
      rw [size_rep]
      refine ⟨.ref s.heap.objs.size, _, I.laid (t' := s.toks) (o := .tup (List.replicate k.toNat xs).flatten) (fun b ob q => Heap.get?_push_of_some _ q) (Nat.le_refl _) ?_, rfl, q2 hx hk _ (I.hok.fresh (Nat.le_refl _))⟩
      exact ⟨by rw [PyProof.Rows.lm_len_rep_flat, sizeLine_eq, Nat.mul_comm]; omega, _, r.rep k.toNat, IsTup.new _ _⟩
def dMul (x y : D) (R : D → Prop) : Prop := match x, y with
  | .int i, .int j => mulOk i j ∧ R (.int (i * j))
  | .lst a, .int k => (-(2 ^ 63) ≤ k ∧ k < 2 ^ 63 ∧ a.length * k.toNat ≤ sizeLine) ∧ R (.lst (List.replicate k.toNat a).flatten)
  | .tup a, .int k => (-(2 ^ 63) ≤ k ∧ k < 2 ^ 63 ∧ a.length * k.toNat ≤ 1000000) ∧ R (.tup (List.replicate k.toNat a).flatten)
  | _, _ => False
def rMulA (K : PySem.W.Frag) : R2 := fun x y H Q => (rI CMulW (fun i j => .int (i * j)) x y H Q ∨ rRep x y H Q) ∨ rRepB K x y H Q
theorem o_mul {X : Cx} : OpR X (binaryOp .Mult) (rMulA X.K) := (op_mulW.or op_rep).or op_repB
theorem c_mul {K : PySem.W.Frag} : C2 K (rMulA K) .strong dMul := fun c own A σ ρ H v w d e R Q hk E r1 r2 g q => by
  unfold dMul at g
  split at g
  · exact .inl (.inl (c_mulI c own A σ ρ H v w _ _ R Q hk E r1 r2 g q))
  · exact .inl (.inr (c_rep.weaken c own A σ ρ H v w _ _ R Q hk E r1 r2 g q))
  · obtain ⟨a, vs, rfl, n1, rl1⟩ := RepW.tup r1
    have e2 := RepW.int r2
    subst e2
    obtain ⟨⟨g1, g2, g3⟩, g4⟩ := g
    have s1 := n1.sq
    rw [hk] at s1
    refine .inr ⟨a, _, vs, rfl, rfl, s1, g1, g2, by rw [rl1.len]; exact g3, fun hw => ?_, fun n0 n3 p hp => ?_⟩
    · refine q c _ H _ (Step.refl E.fok) ?_ g4
      rcases hw with e | e
      · subst e
        have := rl1.nil_of
        subst this
        rw [show (List.replicate (Int.toNat _) ([] : List D)).flatten = [] by simp]
        exact n1.rep rl1
      · subst e
        have e1 : ∀ l : List D, (List.replicate (Int.toNat 1) l).flatten = l := fun l => by
          show (List.replicate 1 l).flatten = l
          simp
        rw [e1]
        exact n1.rep rl1
    · exact q c (.ref p) _ _ (.one E.fok hp) (Rep.newT E hp (by rw [flat_len, rl1.len, sizeLine_eq]; omega) (rl1.flat _)) g4
  · exact g.elim
def CDivA (_ j : Int) : Prop := j ≠ 0 ∧ j.natAbs.log2 < 9000
theorem o_fdiv {X : Cx} : OpR X (binaryOp .FloorDiv) (rI CDivA fun i j => .int (i.fdiv j)) := opI fun i j _ _ _ _ _ hc q => floordiv_int hc.1 q (.inl (PyProof.noPylong_of_log2 hc.2))
def dDiv : D → D → (D → Prop) → Prop := dI2 fun i j R => (j ≠ 0 ∧ j.natAbs.log2 < 9000) ∧ R (.int (i.fdiv j))
def dMod : D → D → (D → Prop) → Prop := dI2 fun i j R => j ≠ 0 ∧ R (.int (i.fmod j))
theorem c_mod {K : PySem.W.Frag} : C2 K (rI (fun _ j => j ≠ 0) fun i j => .int (i.fmod j)) .strong dMod := c_I fun i j R h => ⟨h.1, _, h.2, fun _ _ _ => .int _⟩
def dPow : D → D → (D → Prop) → Prop := dI2 fun i j R => (0 ≤ j ∧ j ≤ 1000000 ∧ i.natAbs < 2 ^ 64) ∧ R (.int (i ^ j.toNat))
theorem c_pow {K : PySem.W.Frag} : C2 K (rI CPow fun i j => .int (i ^ j.toNat)) .strong dPow := c_I fun i j R h => ⟨h.1, _, h.2, fun _ _ _ => .int _⟩
def dNeg (x : D) (R : D → Prop) : Prop := dInt x fun i => R (.int (-i))
def eqD : D → D → Bool
  | .non, .non => true
  | .bl a, .bl b => a == b
  | .bl a, .int j => (if a then 1 else 0) == j
  | .int i, .bl b => i == (if b then 1 else 0)
  | .int i, .int j => i == j
  | .str x, .str y => x == y
  | .lst xs, .lst ys => eqDs xs ys
  | .tup xs, .tup ys => eqDs xs ys
  | _, _ => false
where eqDs : List D → List D → Bool
  | [], [] => true
  | x :: xs, y :: ys => eqD x y && eqDs xs ys
  | _, _ => false
def okD : Nat → D → Bool
  | _, .non => true
  | _, .bl _ => true
  | _, .int _ => true
  | _, .str x => PyData.canLay0 (.str x)
  | n, .tup ds => match n with | 0 => false | n + 1 => okDs n ds
  | n, .lst ds => match n with | 0 => false | n + 1 => okDs n ds
  | _, _ => false
where okDs : Nat → List D → Bool
  | _, [] => true
  | n, d :: ds => okD n d && okDs n ds
def toPy : D → PyData
  | .non => .none
  | .bl b => .bool b
  | .int i => .int i
  | .str x => .str x
  | .tup ds => .tuple (toPys ds)
  | .lst ds => .list (toPys ds)
  | _ => .none
where toPys : List D → List PyData
  | [] => []
  | d :: ds => toPy d :: toPys ds
mutual
theorem okD_lay : ∀ (d : D) (n : Nat), okD n d = true → (toPy d).canLay0 = true ∧ (toPy d).depth ≤ n
  | .non, n, h => by simp [toPy, PyData.canLay0, PyData.depth]
  | .bl _, n, h => by simp [toPy, PyData.canLay0, PyData.depth]
  | .int _, n, h => by simp [toPy, PyData.canLay0, PyData.depth]
  | .str x, n, h => by
    refine ⟨by simpa [toPy, okD] using h, ?_⟩
    simp [toPy, PyData.depth]
  | .ty _, n, h => by simp [okD] at h
  | .ref _, n, h => by simp [okD] at h
  | .deal, n, h => by simp [okD] at h
  | .feed, n, h => by simp [okD] at h
  | .scr _, n, h => by simp [okD] at h
  | .stp _, n, h => by simp [okD] at h
  | .dT _ _, n, h => by simp [okD] at h
  | .dK _ _, n, h => by simp [okD] at h
  | .tup ds, n, h => by
    match n, h with
    | 0, h => simp [okD] at h
    | n + 1, h =>
      obtain ⟨h1, h2⟩ := okDs_lay ds n (by simpa [okD] using h)
      refine ⟨by simpa [toPy, PyData.canLay0] using h1, ?_⟩
      simp only [toPy, PyData.depth]
      omega
  | .lst ds, n, h => by
    match n, h with
    | 0, h => simp [okD] at h
    | n + 1, h =>
      obtain ⟨h1, h2⟩ := okDs_lay ds n (by simpa [okD] using h)
      refine ⟨by simpa [toPy, PyData.canLay0] using h1, ?_⟩
      simp only [toPy, PyData.depth]
      omega
theorem okDs_lay : ∀ (ds : List D) (n : Nat), okD.okDs n ds = true → PyData.canLayAll0 (toPy.toPys ds) = true ∧ PyData.depthAll (toPy.toPys ds) ≤ n
  | [], n, h => by simp [toPy.toPys, PyData.canLayAll0, PyData.depthAll]
  | d :: ds, n, h => by
    simp only [okD.okDs, Bool.and_eq_true] at h
    obtain ⟨h1, h2⟩ := okD_lay d n h.1
    obtain ⟨h3, h4⟩ := okDs_lay ds n h.2
    simp only [toPy.toPys, PyData.canLayAll0, PyData.depthAll, Bool.and_eq_true]
    exact ⟨⟨h1, h3⟩, by omega⟩
end
theorem okD_shaped {d : D} (h : okD 60 d = true) : SeqAt.shaped (toPy d) = true := by
  obtain ⟨h1, h2⟩ := okD_lay d 60 h
  show ((toPy d).canLay0 && decide ((toPy d).depth ≤ 64)) = true
  rw [Bool.and_eq_true]
  exact ⟨h1, decide_eq_true (by omega)⟩
mutual
theorem eqv_eqD : ∀ (x y : D) (n m : Nat), okD n x = true → okD m y = true → PyData.eqv (toPy x) (toPy y) = eqD x y
  | .non, y, n, m, h1, h2 => by cases y <;> simp [okD] at h2 <;> simp [toPy, PyData.eqv, eqD]
  | .bl _, y, n, m, h1, h2 => by cases y <;> simp [okD] at h2 <;> simp [toPy, PyData.eqv, eqD]
  | .int _, y, n, m, h1, h2 => by cases y <;> simp [okD] at h2 <;> simp [toPy, PyData.eqv, eqD]
  | .str x, y, n, m, h1, h2 => by cases y <;> simp [okD] at h2 <;> simp [toPy, PyData.eqv, eqD]
  | .ty _, _, n, m, h, _ => by simp [okD] at h
  | .ref _, _, n, m, h, _ => by simp [okD] at h
  | .deal, _, n, m, h, _ => by simp [okD] at h
  | .feed, _, n, m, h, _ => by simp [okD] at h
  | .scr _, _, n, m, h, _ => by simp [okD] at h
  | .stp _, _, n, m, h, _ => by simp [okD] at h
  | .dT _ _, _, n, m, h, _ => by simp [okD] at h
  | .dK _ _, _, n, m, h, _ => by simp [okD] at h
  | .tup ds, y, n, m, h1, h2 => by
    match n, h1 with
    | 0, h1 => simp [okD] at h1
    | n + 1, h1 =>
      cases y with
      | tup es =>
        match m, h2 with
        | 0, h2 => simp [okD] at h2
        | m + 1, h2 => simp only [toPy, PyData.eqv, eqD]; exact eqvs_eqDs ds es n m (by simpa [okD] using h1) (by simpa [okD] using h2)
      | _ => first | (simp [okD] at h2; done) | simp [toPy, PyData.eqv, eqD]
  | .lst ds, y, n, m, h1, h2 => by
    match n, h1 with
    | 0, h1 => simp [okD] at h1
    | n + 1, h1 =>
      cases y with
      | lst es =>
        match m, h2 with
        | 0, h2 => simp [okD] at h2
        | m + 1, h2 => simp only [toPy, PyData.eqv, eqD]; exact eqvs_eqDs ds es n m (by simpa [okD] using h1) (by simpa [okD] using h2)
      | _ => first | (simp [okD] at h2; done) | simp [toPy, PyData.eqv, eqD]
theorem eqvs_eqDs : ∀ (xs ys : List D) (n m : Nat), okD.okDs n xs = true → okD.okDs m ys = true → PyData.eqvAll (toPy.toPys xs) (toPy.toPys ys) = eqD.eqDs xs ys
  | [], ys, n, m, h1, h2 => by cases ys <;> simp [toPy.toPys, PyData.eqvAll, eqD.eqDs]
  | x :: xs, ys, n, m, h1, h2 => by
    cases ys with
    | nil => simp [toPy.toPys, PyData.eqvAll, eqD.eqDs]
    | cons y ys =>
      simp only [okD.okDs, Bool.and_eq_true] at h1 h2
      simp only [toPy.toPys, PyData.eqvAll, eqD.eqDs]
      rw [eqv_eqD x y n m h1.1 h2.1, eqvs_eqDs xs ys n m h1.2 h2.2]
end
end DL

set_option Elab.async false
set_option linter.all false
set_option maxRecDepth 100000
set_option maxHeartbeats 2000000
namespace DL
open PySem PySem.Spec PyProof.Rows L2
variable [TabsOf]

section
variable {c : Cfg} {Av : Addr → Prop} {H : Hp}
mutual
theorem Rep.dp : ∀ (d : D) (n : Nat) (v : V), okD n d = true → Rep c Av H v d → Dp c.K H v (toPy d)
  | .non, n, _, _, h => by cases h; simp only [toPy]; exact .non
  | .bl b, n, _, _, h => by cases h; simp only [toPy]; exact .bl b
  | .int i, n, _, _, h => by cases h; simp only [toPy]; exact .int i
  | .str x, n, _, _, h => by cases h; simp only [toPy]; exact .str x
  | .ty _, n, _, o, _ => by simp [okD] at o
  | .ref _, n, _, o, _ => by simp [okD] at o
  | .deal, n, _, o, _ => by simp [okD] at o
  | .feed, n, _, o, _ => by simp [okD] at o
  | .scr _, n, _, o, _ => by simp [okD] at o
  | .stp _, n, _, o, _ => by simp [okD] at o
  | .dT _ _, n, _, o, _ => by simp [okD] at o
  | .dK _ _, n, _, o, _ => by simp [okD] at o
  | .tup ds, n, _, o, h => by
    match n, o with
    | 0, o => simp [okD] at o
    | n + 1, o =>
      cases h with
      | tup nd r =>
        simp only [toPy]
        exact .tup nd.sq (RepL.dp ds n _ (by simpa [okD] using o) r)
  | .lst ds, n, _, o, h => by
    match n, o with
    | 0, o => simp [okD] at o
    | n + 1, o =>
      cases h with
      | lst nd r =>
        simp only [toPy]
        exact .lst nd.sq (RepL.dp ds n _ (by simpa [okD] using o) r)
theorem RepL.dp : ∀ (ds : List D) (n : Nat) (vs : List V), okD.okDs n ds = true → RepL c Av H vs ds → DpAll c.K H vs (toPy.toPys ds)
  | [], n, _, _, h => by cases h; simp only [toPy.toPys]; exact .nil
  | d :: ds, n, _, o, h => by
    simp only [okD.okDs, Bool.and_eq_true] at o
    cases h with
    | cons r s =>
      simp only [toPy.toPys]
      exact .cons (Rep.dp d n _ o.1 r) (RepL.dp ds n _ o.2 s)
end
end
theorem RepW.dp {c : Cfg} {own : List Nat} {A : Addr → Prop} {σ : L2.St} {ρ : PEnv} {H : Hp} {v : V} {d : D} {n : Nat} (o : okD n d = true) (r : RepW c own A σ ρ H v d) : Dp c.K H v (toPy d) := Rep.dp d n v o r.seen

def dEq (x y : D) (R : D → Prop) : Prop := (okD 60 x = true ∧ okD 60 y = true) ∧ R (.bl (eqD x y))
def dNe (x y : D) (R : D → Prop) : Prop := (okD 60 x = true ∧ okD 60 y = true) ∧ R (.bl (!eqD x y))
theorem c_eq {K : PySem.W.Frag} : C2 K (rEqD K) .strong dEq := fun c own A σ ρ H v w d e R Q hk E r1 r2 g q => by
  obtain ⟨⟨o1, o2⟩, g⟩ := g
  have d1 := r1.dp o1
  have d2 := r2.dp o2
  rw [hk] at d1 d2
  refine ⟨_, _, d1, d2, okD_shaped o1, okD_shaped o2, ?_⟩
  rw [eqv_eqD d e 60 60 o1 o2]
  exact q c _ H _ (Step.refl E.fok) (.bl _) g
theorem c_ne {K : PySem.W.Frag} : C2 K (rNeD K) .strong dNe := fun c own A σ ρ H v w d e R Q hk E r1 r2 g q => by
  obtain ⟨⟨o1, o2⟩, g⟩ := g
  have d1 := r1.dp o1
  have d2 := r2.dp o2
  rw [hk] at d1 d2
  refine ⟨_, _, d1, d2, okD_shaped o1, okD_shaped o2, ?_⟩
  rw [eqv_eqD d e 60 60 o1 o2]
  exact q c _ H _ (Step.refl E.fok) (.bl _) g

def dLtI : D → D → (D → Prop) → Prop := dI2 fun i j R => R (.bl (decide (i < j)))
def dLeI : D → D → (D → Prop) → Prop := dI2 fun i j R => R (.bl (decide (i ≤ j)))
def dGtI : D → D → (D → Prop) → Prop := dI2 fun i j R => R (.bl (decide (j < i)))
def dGeI : D → D → (D → Prop) → Prop := dI2 fun i j R => R (.bl (decide (j ≤ i)))
theorem c_geI {K : PySem.W.Frag} : C2 K (rI0 fun i j => .bl (decide (j ≤ i))) .strong dGeI := c_I0 fun i j R h => ⟨_, h, fun _ _ _ => .bl _⟩

def D.isN : D → Bool | .non => true | _ => false
theorem RepW.isN {c : Cfg} {own : List Nat} {A : Addr → Prop} {σ : L2.St} {ρ : PEnv} {H : Hp} {v : V} {d : D} (r : RepW c own A σ ρ H v d) : decide (v = .non) = d.isN := by
  rcases r with r | ⟨a, e, o, n1, n2, r⟩
  · cases r <;> simp [D.isN]
  · subst e; cases r <;> simp [D.isN]
def dIsN (x y : D) (R : D → Prop) : Prop := match y with | .non => R (.bl x.isN) | _ => False
def dNotN (x y : D) (R : D → Prop) : Prop := match y with | .non => R (.bl (!x.isN)) | _ => False
def dIx (x y : D) (R : D → Prop) : Prop := match x, y with
  | .tup ds, .int i => ∃ d, atI ds i = some d ∧ R d
  | .lst ds, .int i => ∃ d, atI ds i = some d ∧ R d
  | .stp ds, .int i => ∃ d, atI ds i = some d ∧ R d
  | .str z, .int i => z.length ≤ sizeLine ∧ ∃ c, atI z.cps.toList i = some c ∧ R (.str ⟨#[c]⟩)
  | _, _ => False
theorem RepL.atI {c : Cfg} {Av : Addr → Prop} {H : Hp} {vs : List V} {ds : List D} {i : Int} {d : D} (r : RepL c Av H vs ds) (h : L2.atI ds i = some d) : ∃ v, L2.atI vs i = some v ∧ Rep c Av H v d := by
  unfold L2.atI at *
  rw [r.len]
  cases e : ixN ds.length i with
  | none => rw [e] at h; cases h
  | some j =>
    rw [e] at h
    exact r.get h
theorem c_ix {K : PySem.W.Frag} : C2 K (rIx K) .strong dIx := fun c own A σ ρ H v w d e R Q hk E r1 r2 g q => by
  unfold dIx at g
  split at g
  · obtain ⟨d, h, g⟩ := g
    obtain ⟨a, vs, rfl, n1, rl1⟩ := RepW.tup r1
    have e2 := RepW.int r2
    subst e2
    have s1 := n1.sq
    rw [hk] at s1
    obtain ⟨u, h1, h2⟩ := rl1.atI h
    exact .inr (.inl ⟨a, vs, _, u, rfl, rfl, s1, h1, q c _ H _ (Step.refl E.fok) h2 g⟩)
  · obtain ⟨d, h, g⟩ := g
    obtain ⟨a, vs, rfl, z1, n1, rl1⟩ := RepW.lst r1
    have e2 := RepW.int r2
    subst e2
    obtain ⟨u, h1, h2⟩ := rl1.atI h
    exact .inl ⟨a, vs, _, u, rfl, rfl, .inl (.inl n1), h1, q c _ H _ (Step.refl E.fok) h2 g⟩
  · obtain ⟨d, h, g⟩ := g
    obtain ⟨a, vs, rfl, n1, rl1⟩ := RepW.stp r1
    have e2 := RepW.int r2
    subst e2
    have s1 := n1.sq
    rw [hk] at s1
    obtain ⟨u, h1, h2⟩ := rl1.atI h
    exact .inr (.inl ⟨a, vs, _, u, rfl, rfl, s1, h1, q c _ H _ (Step.refl E.fok) h2 g⟩)
  · obtain ⟨hz, u, h, g⟩ := g
    have e1 := RepW.str r1
    have e2 := RepW.int r2
    subst e1; subst e2
    exact .inr (.inr ⟨_, _, u, rfl, rfl, hz, h, q c _ H _ (Step.refl E.fok) (.str _) g⟩)
  · exact g.elim

def dOne (xs : List D) (f : D → Prop) : Prop := match xs with | [x] => f x | _ => False
def dTwo (xs : List D) (f : D → D → Prop) : Prop := match xs with | [x, y] => f x y | _ => False
theorem dOne_iff {xs : List D} {f : D → Prop} (h : dOne xs f) : ∃ x, xs = [x] ∧ f x := by
  unfold dOne at h
  split at h
  · exact ⟨_, rfl, h⟩
  · exact h.elim
theorem dTwo_iff {xs : List D} {f : D → D → Prop} (h : dTwo xs f) : ∃ x y, xs = [x, y] ∧ f x y := by
  unfold dTwo at h
  split at h
  · exact ⟨_, _, rfl, h⟩
  · exact h.elim
theorem paired1 {F : V → D → Prop} {vs : List V} {d : D} (h : Paired F vs [d]) : ∃ v, vs = [v] ∧ F v d := by
  cases h with
  | cons a t => cases t; exact ⟨_, rfl, a⟩
theorem paired2 {F : V → D → Prop} {vs : List V} {d e : D} (h : Paired F vs [d, e]) : ∃ v w, vs = [v, w] ∧ F v d ∧ F w e := by
  cases h with
  | cons a t =>
    cases t with
    | cons b t => cases t; exact ⟨_, _, rfl, a, b⟩
def dLen (xs : List D) (R : D → Prop) : Prop := dOne xs fun x => match x with
  | .lst ds => R (.int ds.length)
  | .tup ds => R (.int ds.length)
  | .scr ns => R (.int ns.length)
  | .str z => z.length ≤ sizeLine ∧ R (.int z.length)
  | _ => False
def rLenA (K : PySem.W.Frag) : List V → Hp → VK → Prop := fun xs H Q => (∃ p ys, xs = [.ref p] ∧ (SqL K H p ys ∨ SqT K H p ys) ∧ Q (.int ys.length) H) ∨ (∃ z, xs = [.str z] ∧ z.length ≤ sizeLine ∧ Q (.int z.length) H)
theorem b_len {X : Cx} : CallR X (.builtin "len") (rLenA X.K) := call_len_seq.or call_len_str
def dBls (x : D) (f : List Bool → Prop) : Prop := match x with | .lst ds => ∃ bs : List Bool, ds = bs.map D.bl ∧ f bs | _ => False
def dAll (xs : List D) (R : D → Prop) : Prop := dOne xs fun x => dBls x fun bs => R (.bl (bs.all id))
def dAny (xs : List D) (R : D → Prop) : Prop := dOne xs fun x => dBls x fun bs => R (.bl (bs.any id))
theorem RepL.bls {c : Cfg} {Av : Addr → Prop} {H : Hp} : ∀ {vs : List V} {bs : List Bool}, RepL c Av H vs (bs.map D.bl) → vs = bs.map V.bl
  | _, [], h => by cases h; rfl
  | _, b :: bs, h => by
    cases h with
    | cons r t =>
      cases r
      rw [t.bls]
      rfl
theorem c_all {K : PySem.W.Frag} : CL K (rAll K) .strong dAll := fun c own A σ ρ H vs ds R Q hk E r1 g q => by
  obtain ⟨x, rfl, g⟩ := dOne_iff g
  obtain ⟨v, rfl, r⟩ := paired1 r1
  have g1 : dBls x (fun bs => R (.bl (bs.all id))) := g
  unfold dBls at g1
  split at g1
  · obtain ⟨bs, e0, g2⟩ := g1
    subst e0
    obtain ⟨a, us, rfl, z1, n1, rl1⟩ := RepW.lst r
    have e := rl1.bls
    subst e
    exact ⟨a, bs, rfl, .inl (.inl n1), q c _ H _ (Step.refl E.fok) (.bl _) g2⟩
  · exact g1.elim
def dAbs (xs : List D) (R : D → Prop) : Prop := dOne xs fun x => dInt x fun i => R (.int (if i < 0 then -i else i))
def dMax2 (xs : List D) (R : D → Prop) : Prop := dTwo xs fun x y => dInt x fun i => dInt y fun j => R (.int (if j > i then j else i))
def dMin2 (xs : List D) (R : D → Prop) : Prop := dTwo xs fun x y => dInt x fun i => dInt y fun j => R (.int (if j < i then j else i))
theorem c_max2 {K : PySem.W.Frag} : CL K (fun xs H Q => ∃ i j, xs = [.int i, .int j] ∧ Q (.int (if j > i then j else i)) H) .strong dMax2 := fun c own A σ ρ H vs ds R Q hk E r1 g q => by
  obtain ⟨x, y, rfl, g⟩ := dTwo_iff g
  obtain ⟨v, w, rfl, r, s⟩ := paired2 r1
  obtain ⟨i, rfl, g⟩ := dInt_iff g
  obtain ⟨j, rfl, g⟩ := dInt_iff g
  have e := RepW.int r
  have e2 := RepW.int s
  subst e; subst e2
  exact ⟨i, j, rfl, q c _ H _ (Step.refl E.fok) (.int _) g⟩
def dToI (xs : List D) (R : D → Prop) : Prop := dOne xs fun x => match x with
  | .int i => R (.int i)
  | .bl b => R (.int (if b then 1 else 0))
  | _ => False
def dTuple (xs : List D) (R : D → Prop) : Prop := dOne xs fun x => match x with
  | .lst ds => R (.tup ds)
  | .tup ds => R (.tup ds)
  | _ => False
def tyOf : D → String
  | .non => "NoneType" | .bl _ => "bool" | .int _ => "int" | .str _ => "str" | .tup _ => "tuple" | .lst _ => "list" | .dT _ _ => "dict" | .dK _ _ => "dict" | _ => ""
def isTy (n T : String) : Bool := n == T || (n == "bool" && T == "int")
def tyNames : List String := ["NoneType", "bool", "int", "str", "tuple", "list", "dict"]
def dIsi (xs : List D) (R : D → Prop) : Prop := dTwo xs fun x y => match y with
  | .ty T => (tyOf x ∈ tyNames ∧ T ∈ tyNames) ∧ R (.bl (isTy (tyOf x) T))
  | _ => False
end DL

set_option Elab.async false
set_option linter.all false
set_option maxRecDepth 100000
set_option maxHeartbeats 2000000
namespace RT
open PySem PySem.Spec PyProof.Rows
section
variable {prog : Program} {w : World} {A : Around} {E : Value → Shared → Prop} {s : Shared}
theorem dl_extend_rev {R : Result → Shared → Prop} {it l S : Addr} {items : Array Value} {c0 : Nat} (hh : A.handled = none) (hit : s.heap.IsRevIter it l ((items.size : Int) - 1)) (hl : s.heap.IsList l items) (hne : l ≠ it) (hn : items.size ≤ sizeLine) (hSi : S ≠ it) (hSl : S ≠ l)
    (res : Value) (hS : s.heap.get? S = some { cls := .type "list", data := .seq #[] c0 })
    (hR : ∀ h' tk acc' c', (∀ b o, b ≠ S → b ≠ it → s.heap.get? b = some o → h'.get? b = some o) → h'.get? S = some { cls := .type "list", dict := none, data := .seq acc' c', slots := #[] } →
      ItemsOf (fun i v => items[items.size - 1 - i]? = some v) acc' items.size → R (.ok (.ret res)) { s with heap := h', toks := tk }) :
    wpAny (model prog w) A.in1 (Builtin.List.listExtendWith (.ref S) (.ref it) res)
      (fun fin s' => match fin with | .done f => R (.ok f) s' | .again c' => c'.quiet = true ∧ codeAny (model prog w) A c' R s') (fun e s' => R (.error e) s') s := by
  have W := (Walks.listRev (prog := prog) (w := w) (A := A.in1) hh it l hne items).toS
  have hSf : S ∉ [it, l] := by simp only [List.mem_cons, List.not_mem_nil, or_false, not_or]; exact ⟨hSi, hSl⟩
  have hT : s.TypeIs (.ref it) "list_reverseiterator" := Heap.IsRevIter.typeIs hit
  have h1 : Builtin.List.listSameRef (.ref S) (.ref it) = false := by simp [Builtin.List.listSameRef, hSi]
  unfold Builtin.List.listExtendWith
  refine wpAny_bind (wpAny_typeOf hT ?_)
  rw [if_neg (by rw [h1]; decide)]
  refine wpAny_bind (wpAny_pyIter_revIter hit ?_)
  refine wpAny_bind (wpAny_holding ?_)
  unfold Builtin.List.listLengthHint
  refine wpAny_bind (wpAny_specialOf hT nolen_lri ?_)
  show wpAny _ A.in1 (specialOf (Value.ref it) (Str.ofString "__length_hint__") >>= _) _ _ _
  refine wpAny_bind (wpAny_specialOf hT hint_lri ?_)
  generalize hid : ("list_reverseiterator.__length_hint__" : String) = id0
  wp_delta
  rw [show splitId id0 = some ("list_reverseiterator", "__length_hint__") from by subst hid; decide +kernel]
  subst hid
  refine wpAny_bind (wpAny_isInstance (b := true) hT (by rw [isSubtype_type]; kernel_rfl) ?_)
  refine wpAny_pure ?_
  rw [if_neg (by decide)]
  have e0 : ((items.size : Nat) : Int) - 1 - ((0 : Nat) : Int) = (items.size : Int) - 1 := by omega
  refine wpAny_pure ⟨plainId_quiet F.plain_extend_loop _, codeAny_extend_loopS W hn _ hSf _ items.size 0 _ _ _ rfl (Nat.zero_le _) ⟨Nat.zero_le _, by rw [e0]; exact hit, hl⟩ hS (ItemsOf.nil _) fun s' acc' c' hm hS' hacc => ?_⟩
  rw [Moved.eq_with hm]
  refine hR s'.heap s'.toks acc' c' (fun b o hb hb2 e => hm.heap b o (fun hmem => ?_) e) hS' hacc
  rcases List.mem_cons.mp hmem with e' | hmem
  · exact hb e'
  · exact hb2 (List.mem_singleton.mp hmem)
theorem dl_list_rev {it l : Addr} {items : Array Value} {Q : Value → Shared → Prop} (hh : A.handled = none) (hit : s.heap.IsRevIter it l ((items.size : Int) - 1)) (hl : s.heap.IsList l items) (hne : l ≠ it) (hn : items.size ≤ sizeLine)
    (hQ : ∀ (h' : Heap) (tk : Nat) (acc : Array Value) (n : Nat), (∀ b o, b ≠ it → s.heap.get? b = some o → h'.get? b = some o) → h'.get? s.heap.objs.size = some { cls := .type "list", data := .seq acc n } → ItemsOf (fun i v => items[items.size - 1 - i]? = some v) acc items.size →
      Q (.ref s.heap.objs.size) { s with heap := h', toks := tk }) :
    wpAny (model prog w) A (call (.type "list") [.ref it]) Q E s := by
  obtain ⟨oi, hoi, _⟩ := id hit
  obtain ⟨ol, hol, _⟩ := id hl
  have hSi : s.heap.objs.size ≠ it := Nat.ne_of_gt (Heap.lt_size hoi)
  have hSl : s.heap.objs.size ≠ l := Nat.ne_of_gt (Heap.lt_size hol)
  refine callType_codes (Q₁ := fun obj s₁ => obj = .ref s.heap.objs.size ∧ s₁ = { s with heap := s.heap.push { cls := .type "list", data := .seq #[] } }) F.called_list (F.typeCall_list_1 _) F.entry_list_init
    (code_list_new _ ⟨rfl, rfl⟩) fun obj s₁ h₁ => ?_
  obtain ⟨rfl, rfl⟩ := h₁
  have hS : (s.heap.push { cls := .type "list", data := .seq #[] }).get? s.heap.objs.size = some { cls := .type "list", data := .seq #[] } := Heap.get?_push_size _ rfl
  refine ⟨⟨_, hS, rfl⟩, F.args_list_init_2 _ _, ?_⟩
  show wpAny _ _ (do let old ← Builtin.List.listItems (.ref s.heap.objs.size); Builtin.List.listUpdate (.ref s.heap.objs.size) (fun _ => #[]); letGo old.toList.reverse; Builtin.List.listExtendWith (.ref s.heap.objs.size) (.ref it) .none) _ _ _
  refine wpAny_bind ?_
  unfold Builtin.List.listItems
  refine wpAny_bind (wpAny_seqItems hS rfl (wpAny_pure ?_))
  show wpAny _ _ (updateSeq s.heap.objs.size (fun _ => #[]) >>= fun _ => letGo (#[] : Array Value).toList.reverse >>= fun _ => Builtin.List.listExtendWith (.ref s.heap.objs.size) (.ref it) .none) _ _ _
  refine wpAny_bind (wpAny_updateSeq hS rfl ?_)
  have hS₂ := Heap.get?_update_self (Obj.mapSeq (fun _ => (#[] : Array Value))) hS rfl
  have oth : ∀ b o, b ≠ s.heap.objs.size → s.heap.get? b = some o → ((s.heap.push { cls := .type "list", data := .seq #[] }).update s.heap.objs.size (Obj.mapSeq (fun _ => (#[] : Array Value)))).get? b = some o :=
    fun b o hb e => (Heap.get?_update_other _ _ (Ne.symm hb)).trans (Heap.get?_push_of_some _ e)
  refine wpAny_bind (wpAny_letGo ?_)
  refine dl_extend_rev (A := A.in1) (s := { s with heap := (s.heap.push { cls := .type "list", data := .seq #[] }).update s.heap.objs.size (Obj.mapSeq (fun _ => (#[] : Array Value))) }) hh (hit.at fun o e => oth _ o (Ne.symm hSi) e) (by
    obtain ⟨o, h1, h2⟩ := hl
    exact ⟨o, oth _ o (Ne.symm hSl) h1, h2⟩) hne hn hSi hSl .none hS₂ fun h' tk acc' c' hk hS' hacc => ?_
  exact ⟨rfl, hQ h' tk acc' c' (fun b o hb e => hk b o (Nat.ne_of_lt (Heap.lt_size e)) hb (oth b o (Nat.ne_of_lt (Heap.lt_size e)) e)) hS' hacc⟩
end
end RT
namespace DL
open PySem PySem.Spec PyProof.Rows L2 RT
variable [TabsOf]
section
variable {X : Cx} {own : List Nat}
def tLstRev (K : PySem.W.Frag) (te : TE) : TE := fun σ H Q => te σ H fun v H1 => ∃ (a : Addr) (xs : List V), v = .ref a ∧ SqL K H1 a xs ∧ ∀ q, H1 q = none → Q (.ref q) (upd H1 q (.lst xs.reverse))
theorem pe_lstRev {e : Expr} {te : TE} {p p2 pos pos2 : Pos} (hc : X.calm = true) (hg : Gl X "list") (hm : X.mg "list" = none) (hg2 : Gl X "reversed") (hm2 : X.mg "reversed" = none) (he : PE X e te)
    (hs : starEach [e] X.env = (false, eval e X.env) :: starEach [] X.env := by rfl)
    (hs2 : starEach [.Call (.Name "reversed" p2) [e] [] pos2] X.env = (false, eval (.Call (.Name "reversed" p2) [e] [] pos2) X.env) :: starEach [] X.env := by rfl) :
    PE X (.Call (.Name "list" p) [.Call (.Name "reversed" p2) [e] [] pos2] [] pos) (tLstRev X.K te) := by
  refine ⟨fun pins s σ H Q I h => ?_⟩
  refine Call_ (ld_blt I hg hm boot_list (PyProof.Rows.callWith_type1 (args_cons (Call_ (ld_blt I hg2 hm2 PyProof.Rows.boot_reversed (PyProof.Rows.callWith_type1 (args_cons (thn (he.run pins s σ H _ I h) fun u s1 ⟨v, H1, I1, r1, q1⟩ => args_nil ?_) hs) hs rfl))) hs2) hs2 rfl))
  obtain ⟨a, xs, ev, hq, q⟩ := q1
  subst ev
  obtain rfl : u = Value.ref a := r1
  obtain ⟨its, rv, p', hz⟩ := I1.list hq
  refine call_reversed_list p'.isList (args_nil ?_)
  have k0 : ∀ b o, s1.heap.get? b = some o → (s1.heap.push (revObj a ((its.toArray.size : Int) - 1))).get? b = some o := fun b o e => Heap.get?_push_of_some _ e
  have I2 : Inv X pins σ H1 { s1 with heap := s1.heap.push (revObj a ((its.toArray.size : Int) - 1)) } := I1.kept (t' := s1.toks) k0
  obtain ⟨f0, f1, f2, f3, f4, f5⟩ := I1.fpOk (H' := H1) (b := s1.heap.objs.size) (Nat.le_refl _) (I1.hok.fresh (Nat.le_refl _))
  have hl := p'.isList
  obtain ⟨ol, hol, _⟩ := id hl
  have hne : a ≠ s1.heap.objs.size := Nat.ne_of_lt (Heap.lt_size hol)
  have hn : its.toArray.size ≤ sizeLine := by rw [List.size_toArray, ← rv.length]; exact hz
  refine dl_list_rev (s := { s1 with heap := s1.heap.push (revObj a ((its.toArray.size : Int) - 1)) }) (I1.ok.hd hc) ⟨_, Heap.get?_push_size _ rfl, rfl, rfl⟩ (hl.push _) hne hn fun h' tk acc n hk hS hi => ?_
  have szS : ({ s1 with heap := s1.heap.push (revObj a ((its.toArray.size : Int) - 1)) } : Shared).heap.objs.size = s1.heap.objs.size + 1 := Heap.size_push ..
  have fp : FpOk X pins H1 s1.heap.objs.size := I1.fpOk (Nat.le_refl _) (I1.hok.fresh (Nat.le_refl _))
  have hfr : H1 (s1.heap.objs.size + 1) = none := I1.hok.fresh (Nat.le_succ _)
  have I3 : Inv X pins σ (upd H1 (s1.heap.objs.size + 1) (.lst xs.reverse)) { s1 with heap := h', toks := tk } := I2.turnedNew (t' := tk) (ch := [s1.heap.objs.size]) (T := s1.heap.objs.size + 1) (ob := .lst xs.reverse) (h' := h')
    (fun b o hb e => hk b o (by simpa using hb) e) (fun b hb => by
      have e : b = s1.heap.objs.size := by simpa using hb
      subst e
      exact fp) (Nat.le_of_eq szS) (show ObjOk X.prog X.w _ _ _ (.lst xs.reverse) from ⟨by rw [List.length_reverse]; exact hz, acc.toList, n, vals_rev rv hi, by rw [← szS]; simpa using hS⟩)
  rw [szS]
  exact ⟨.ref (s1.heap.objs.size + 1), _, I3, rfl, q _ hfr⟩
def dRev (x : D) (R : D → Prop) : Prop := match x with | .lst ds => R (.lst ds.reverse) | _ => False
theorem lift_lstRev (K : PySem.W.Frag) {p : TED} : ∀ σ H Q, lift K own .fresh (p1 dRev p) σ H Q → tLstRev K (lift K own .weak p) σ H Q := fun σ H Q ⟨c, A, ρ, R, hk, E, hp, f⟩ => ⟨c, A, ρ, _, hk, E, hp, fun c1 v H1 d t1 r1 g1 => by
  cases d with
  | lst ds =>
    obtain ⟨a, vs, rfl, z1, n1, rl1⟩ := RepW.lst r1
    exact ⟨a, vs, rfl, .inl (.inl n1), fun p hp => f c1 (.ref p) _ _ (t1.more hp) (Fr.back t1 (Fr.newL (E.step t1) hp (by rw [List.length_reverse]; exact z1) rl1.rev)) g1⟩
  | _ => exact g1.elim⟩
theorem e_lstRev {e : Expr} {p : TED} {pn p2 pos pos2 : Pos} (hc : X.calm = true) (hm : X.mg "list" = none) (hm2 : X.mg "reversed" = none) (he : PE X e (lift X.K own .weak p)) (hg : Gl X "list" := by rfl) (hg2 : Gl X "reversed" := by rfl)
    (hs : starEach [e] X.env = (false, eval e X.env) :: starEach [] X.env := by rfl)
    (hs2 : starEach [.Call (.Name "reversed" p2) [e] [] pos2] X.env = (false, eval (.Call (.Name "reversed" p2) [e] [] pos2) X.env) :: starEach [] X.env := by rfl) :
    PE X (.Call (.Name "list" pn) [.Call (.Name "reversed" p2) [e] [] pos2] [] pos) (lift X.K own .fresh (p1 dRev p)) := pe_imp (pe_lstRev hc hg hm hg2 hm2 he hs hs2) (lift_lstRev _)

def TOD := PEnv → (Option Int → Prop) → Prop
def liftO (K : PySem.W.Frag) (own : List Nat) (p : TOD) : TO := fun σ H Q => ∃ c A ρ R, c.K = K ∧ EnvR c own A σ ρ H ∧ p ρ R ∧ ∀ c' H' o, Step c H c' H' → R o → Q o H'
def oNone : TOD := fun _ R => R none
def oSome (p : TED) : TOD := fun ρ R => p ρ fun x => dInt x fun i => R (some i)
theorem po_imp {e : Option Expr} {t t' : TO} (h : PO X e t) (m : ∀ σ H Q, t' σ H Q → t σ H Q) : PO X e t' := ⟨fun pins s σ H Q I q => h.run pins s σ H Q I (m σ H Q q)⟩
theorem o_none : PO X none (liftO X.K own oNone) := po_imp po_none fun σ H Q ⟨c, A, ρ, R, hk, E, hp, f⟩ => f c H none (Step.refl E.fok) hp
theorem o_some {e : Expr} {p : TED} (h : PE X e (lift X.K own .weak p)) : PO X (some e) (liftO X.K own (oSome p)) := po_imp (po_some h) fun σ H Q ⟨c, A, ρ, R, hk, E, hp, f⟩ => ⟨c, A, ρ, _, hk, E, hp, fun c1 v H1 d t1 r1 g1 => by
  obtain ⟨i, rfl, g⟩ := dInt_iff g1
  exact ⟨i, RepW.int r1, f c1 H1 _ t1 g⟩⟩
def cutD (ds : List D) (lo hi : Option Int) : List D := (ds.drop (HT.sIx ds.length 0 lo)).take (HT.sIx ds.length ds.length hi - HT.sIx ds.length 0 lo)
def dSl (x : D) (lo hi : Option Int) (R : D → Prop) : Prop := match x with
  | .lst ds => R (.lst (cutD ds lo hi))
  | .tup ds => R (.tup (cutD ds lo hi))
  | .scr ns => R (.lst (cutD (ns.map D.int) lo hi))
  | .str z => z.length ≤ sizeLine ∧ R (.str (cutS z lo hi))
  | _ => False
def dSlL (x : D) (lo hi : Option Int) (R : D → Prop) : Prop := match x with
  | .lst ds => R (.lst (cutD ds lo hi))
  | .scr ns => R (.lst (cutD (ns.map D.int) lo hi))
  | _ => False
def pSl (r : D → Option Int → Option Int → (D → Prop) → Prop) (p : TED) (lo hi : TOD) : TED := fun ρ R => p ρ fun x => lo ρ fun l => hi ρ fun u => r x l u R
theorem RepL.cut {c : Cfg} {Av : Addr → Prop} {H : Hp} {vs : List V} {ds : List D} (r : RepL c Av H vs ds) (lo hi : Option Int) : RepL c Av H (cutV vs lo hi) (cutD ds lo hi) := by
  unfold cutV cutD
  rw [r.len]
  exact (r.drop _).take _
def rSlAll (K : PySem.W.Frag) : V → Option Int → Option Int → Hp → VK → Prop := fun x lo hi H Q => rSlL K x lo hi H Q ∨ (rSlA K x lo hi H Q ∨ rSlS x lo hi H Q)
theorem o_sl : SlR X (rSlAll X.K) := sl_list.or (sl_tupA.or sl_str)
theorem lift_sl {r : V → Option Int → Option Int → Hp → VK → Prop} {r' : D → Option Int → Option Int → (D → Prop) → Prop} {ko : Kd} (K : PySem.W.Frag)
    (hr : ∀ c A σ ρ H v d lo hi R (Q : VK), c.K = K → EnvR c own A σ ρ H → RepW c own A σ ρ H v d → r' d lo hi R → (∀ c' v' H' d', Step c H c' H' → Res c' own A σ ρ ko H H' v' d' → R d' → Q v' H') → r v lo hi H Q) {p : TED} {lo hi : TOD} :
    ∀ σ H Q, lift K own ko (pSl r' p lo hi) σ H Q → tSl r (lift K own .weak p) (liftO K own lo) (liftO K own hi) σ H Q :=
  fun σ H Q ⟨c, A, ρ, R, hk, E, hp, f⟩ => ⟨c, A, ρ, _, hk, E, hp, fun c1 v1 H1 d1 t1 r1 g1 => ⟨c1, A, ρ, _, t1.kk.trans hk, E.step t1, g1, fun c2 H2 l t2 g2 => ⟨c2, A, ρ, _, t2.kk.trans (t1.kk.trans hk), (E.step t1).step t2, g2, fun c3 H3 u t3 g3 =>
    hr c3 A σ ρ H3 v1 d1 l u R Q (t3.kk.trans (t2.kk.trans (t1.kk.trans hk))) (((E.step t1).step t2).step t3) (RepW.step ((E.step t1).step t2) t3 (RepW.step (E.step t1) t2 r1)) g3 fun c4 v4 H4 d4 t4 r4 g4 => f c4 v4 H4 d4 (((t1.trans t2).trans t3).trans t4) (Res.back ((t1.trans t2).trans t3) r4) g4⟩⟩⟩
theorem c_slL (K : PySem.W.Frag) : ∀ c A σ ρ H v d lo hi R (Q : VK), c.K = K → EnvR c own A σ ρ H → RepW c own A σ ρ H v d → dSlL d lo hi R → (∀ c' v' H' d', Step c H c' H' → Res c' own A σ ρ .fresh H H' v' d' → R d' → Q v' H') → rSlL K v lo hi H Q := fun c A σ ρ H v d lo hi R Q hk E r g q => by
  cases d with
  | lst ds =>
    obtain ⟨a, vs, rfl, z1, n1, rl1⟩ := RepW.lst r
    exact ⟨a, vs, rfl, .inl (.inl n1), fun p hp => q c (.ref p) _ _ (.one E.fok hp) (Fr.newL E hp (Nat.le_trans (cutV_length _ _ _) z1) (rl1.cut lo hi)) g⟩
  | scr ns =>
    obtain ⟨a, rfl, hn, s⟩ := RepW.scr r
    rw [hk] at s
    refine ⟨a, _, rfl, s, fun p hp => q c (.ref p) _ _ (.one E.fok hp) (Fr.newL E hp (Nat.le_trans (cutV_length _ _ _) (by rw [List.length_map]; exact sz_small (by omega))) ((RepL.ofInts ns).cut lo hi)) g⟩
  | _ => exact g.elim
theorem c_sl (K : PySem.W.Frag) : ∀ c A σ ρ H v d lo hi R (Q : VK), c.K = K → EnvR c own A σ ρ H → RepW c own A σ ρ H v d → dSl d lo hi R → (∀ c' v' H' d', Step c H c' H' → Res c' own A σ ρ .strong H H' v' d' → R d' → Q v' H') → rSlAll K v lo hi H Q := fun c A σ ρ H v d lo hi R Q hk E r g q => by
  cases d with
  | lst ds => exact .inl (c_slL K c A σ ρ H v _ lo hi R Q hk E r g fun c' v' H' d' t r => q c' v' H' d' t (Fr.strong t E r))
  | scr ns => exact .inl (c_slL K c A σ ρ H v _ lo hi R Q hk E r g fun c' v' H' d' t r => q c' v' H' d' t (Fr.strong t E r))
  | tup ds =>
    obtain ⟨a, vs, rfl, n1, rl1⟩ := RepW.tup r
    have s1 := n1.sq
    rw [hk] at s1
    refine .inr (.inl ⟨a, vs, rfl, s1, fun hw => ?_, fun _ p hp => ?_⟩)
    · have e : cutD ds lo hi = ds := by
        unfold cutD
        rw [← rl1.len, hw.1, hw.2, List.drop_zero, Nat.sub_zero, rl1.len, List.take_length]
      have g' : R (.tup (cutD ds lo hi)) := g
      rw [e] at g'
      exact q c _ H _ (Step.refl E.fok) (n1.rep rl1) g'
    · exact q c (.ref p) _ _ (.one E.fok hp) (Rep.newT E hp (Nat.le_trans (cutV_length _ _ _) n1.1) (rl1.cut lo hi)) g
  | str z =>
    have e := RepW.str r
    subst e
    exact .inr (.inr ⟨z, rfl, g.1, q c _ H _ (Step.refl E.fok) (.str _) g.2⟩)
  | _ => exact g.elim
theorem e_sl {e : Expr} {lo hi : Option Expr} {p : TED} {pl ph : TOD} {pos p2 : Pos} (he : PE X e (lift X.K own .weak p)) (hl : PO X lo (liftO X.K own pl)) (hh : PO X hi (liftO X.K own ph)) : PE X (.Subscript e (.Slice lo hi none p2) pos) (lift X.K own .strong (pSl dSl p pl ph)) := pe_imp (pe_slice o_sl he hl hh) (lift_sl _ (c_sl _))
end
end DL

set_option Elab.async false
set_option linter.all false
set_option maxRecDepth 100000
set_option maxHeartbeats 4000000
namespace DL
open PySem PySem.Spec PyProof.Rows L2
variable [TabsOf]

def kS : Key := Sum.inr "seed"
def kN : Key := Sum.inr "number"
def kL : Key := Sum.inr "left"
theorem k_sn : ¬ kS = kN := by decide +kernel
theorem k_sl : ¬ kS = kL := by decide +kernel
theorem k_nl : ¬ kN = kL := by decide +kernel
def feedKV (s n : Int) (l : Addr) : List (Key × V) := [(kS, .int s), (kN, .int n), (kL, .ref l)]
theorem fk_s (s n : Int) (l : Addr) : valV (feedKV s n l) kS = some (.int s) := by unfold feedKV; rw [valV_pos rfl]
theorem fk_n (s n : Int) (l : Addr) : valV (feedKV s n l) kN = some (.int n) := by unfold feedKV; rw [valV_neg k_sn, valV_pos rfl]
theorem fk_l (s n : Int) (l : Addr) : valV (feedKV s n l) kL = some (.ref l) := by unfold feedKV; rw [valV_neg k_sl, valV_neg k_nl, valV_pos rfl]
theorem fp_n (s n m : Int) (l : Addr) : putK (feedKV s n l) kN (.int m) = feedKV s m l := by
  unfold putK feedKV
  have h2 : ¬ kL = kN := fun z => k_nl z.symm
  simp [k_sn, h2]
theorem fp_s (s n m : Int) (l : Addr) : putK (feedKV s n l) kS (.int m) = feedKV m n l := by
  unfold putK feedKV
  have h1 : ¬ kN = kS := fun z => k_sn z.symm
  have h2 : ¬ kL = kS := fun z => k_sl z.symm
  simp [h1, h2]
theorem fm (s n : Int) (l : Addr) : mergeK [] (feedKV s n l) = feedKV s n l := by
  unfold mergeK feedKV
  simp only [List.foldl_cons, List.foldl_nil]
  unfold putK
  simp [k_sn, k_sl, k_nl]
theorem fk_len (s n : Int) (l : Addr) : (feedKV s n l).length < sizeLine := small1000 (show 3 ≤ 1000 by decide)

def wDraw (ds : List D) (R : D → Prop) : Prop := dTwo ds fun x y => match x with
  | .deal => dInt y fun m => (0 < m ∧ m.natAbs.log2 < 9000) ∧ ∀ r, 0 ≤ r → r < m → R (.int r)
  | _ => False
def gN0 : TE := tDGet (tVar 0) (tC (.str "number"))
def gL0 : TE := tDGet (tVar 0) (tC (.str "left"))
def gS0 : TE := tDGet (tVar 0) (tC (.str "seed"))
def rGt0 : R2 := rI0 fun i j => .bl (decide (j < i))
def rAdd0 : R2 := rI0 fun i j => .int (i + j)
def rMulW0 : R2 := rI CMulW fun i j => .int (i * j)
def rModN0 : R2 := rI (fun _ j => j ≠ 0) fun i j => .int (i.fmod j)
def rDivA0 : R2 := rI CDivA fun i j => .int (i.fdiv j)
def tI (i : Int) : TE := tC (.int i)
def tDrawA (K : PySem.W.Frag) : TS :=
  tSeq (tWhile (tAnd (tTest (tOp rEq gN0 (tI 0))) (tTest (tOp rGt0 (tCB (rLenA K) (tCons gL0 tNil)) (tI 0)))) (sDPut (tVar 0) (tC (.str "number")) (tBM0 K "list" rPop gL0)))
  (tSeq (tAsg gN0 (gName 2))
  (tSeq (tIfS (tTest (tOp rGt0 (tVar 2) (tI 0))) (tSeq (sDPut (tVar 0) (tC (.str "number")) (tOp rDivA0 (tVar 2) (tVar 1))) (tRet (tOp rModN0 (tVar 2) (tVar 1)))) tNext)
  (tSeq (tAsg (tOp rModN0 (tOp rAdd0 (tOp rMulW0 gS0 (tI 48271)) (tI 7919)) (tI 2147483647)) (gName 3))
  (tSeq (sDPut (tVar 0) (tC (.str "seed")) (tOp rModN0 (tOp rAdd0 (tOp rMulW0 (tVar 3) (tI 40692)) (tI 104729)) (tI 2147483399)))
  (tSeq (tAsg (tOp rModN0 (tOp rMulW0 gS0 gS0) (tI 2147483563)) (gName 4))
  (tRet (tOp rModN0 (tOp rAdd0 (tOp rMulW0 (tOp rModN0 (tOp rMulW0 (tVar 3) (tVar 3)) (tI 2147483629)) (tI 2147483563)) (tVar 4)) (tVar 1))))))))
theorem mul_ok {i j : Int} {a b : Nat} (ha : i.natAbs < 2 ^ a) (hb : j.natAbs < 2 ^ b) (h0 : 0 < a := by decide) (h1 : 0 < b := by decide) (h : a + b ≤ 1000000 := by decide) : CMulW i j := wide_mul ha hb h0 h1 h
theorem fmod_rng (i : Int) {j : Int} (h : 0 < j) : 0 ≤ i.fmod j ∧ i.fmod j < j := by
  rw [Int.fmod_eq_emod_of_nonneg i (Int.le_of_lt h)]
  exact ⟨Int.emod_nonneg i (by omega), Int.emod_lt_of_pos i h⟩
theorem fdiv_nn {i j : Int} (hi : 0 ≤ i) (h : 0 < j) : 0 ≤ i.fdiv j := by
  rw [Int.fdiv_eq_ediv_of_nonneg i (Int.le_of_lt h)]
  exact Int.ediv_nonneg hi (Int.le_of_lt h)
theorem feed_step {c0 c : Cfg} {H0 H H' : Hp} {a l : Addr} (t : Step c0 H0 c H) (f : c.fd a l) (oth : ∀ b, b ≠ a → b ≠ l → H' b = H b) (ok : FeedOk H' a l) : Step c0 H0 c H' := by
  have oc : ∀ b, c.cs b → H' b = H b := fun b hb => oth b (fun z => (t.fok.sep a l f).1 (z ▸ hb)) fun z => (t.fok.sep a l f).2 (z ▸ hb)
  refine ⟨t.kk, t.sub, t.subC, t.new, fun b o hs e => ?_, fun b q e => ?_, ⟨fun a' l' f' => ?_, t.fok.apart, t.fok.sep, fun b hb => by rw [oc b hb]; exact t.fok.cal b hb, fun p hp => (t.fok.tab p hp).same oc, fun f i hf => by
    obtain ⟨⟨c1, c2⟩, h1, h2⟩ := t.fok.lam f i hf
    exact ⟨⟨c1, c2⟩, by rw [oc f c1]; exact h1, by rw [oc i.cp c2]; exact h2⟩⟩⟩
  · have hs' := t.notS e hs
    rw [oth b (fun z => hs' (z ▸ Cfg.S1 f)) (fun z => hs' (z ▸ Cfg.S2 f))]
    exact t.keep b o hs e
  · have e1 := t.keepC b q e
    have nf : ∀ u, H b = some u → (∀ xs, u ≠ .lst xs) → (∀ ps, u ≠ .dK ps) → b ≠ a ∧ b ≠ l := fun u hu n1 n2 => by
      rcases t.fok.ok a l f with ⟨_, s, n, ns, h1, h2, _⟩ | ⟨ea, n, s, h1, _⟩
      · exact ⟨fun z => by rw [z, h1] at hu; exact n2 _ (Option.some.inj hu).symm, fun z => by rw [z, h2] at hu; exact n1 _ (Option.some.inj hu).symm⟩
      · exact ⟨fun z => by rw [z, h1] at hu; exact n1 _ (Option.some.inj hu).symm, fun z => by rw [z, ← ea, h1] at hu; exact n1 _ (Option.some.inj hu).symm⟩
    obtain ⟨n1, n2⟩ := nf _ e1 (fun xs z => by unfold LamX.CodeO at z; cases z) fun ps z => by unfold LamX.CodeO at z; cases z
    rw [oth b n1 n2]
    exact e1
  · rcases t.fok.apart a l a' l' f f' with ⟨e1, e2⟩ | ⟨h1, h2, h3, h4⟩
    · subst e1; subst e2; exact ok
    · exact (t.fok.ok a' l' f').same (oth a' (Ne.symm h1) (Ne.symm h3)) (oth l' (Ne.symm h2) (Ne.symm h4))
theorem draw_read {K : PySem.W.Frag} {vs : List V} {H : Hp} {Q : VK} {E : XK} {N : List Str} (hN : N.length = 5) (h : spD K 2 .strong wDraw vs H Q E) : tDrawA K { nx := fun _ H' => Q .non H', rt := Q } (L2.start N vs) H := by
  obtain ⟨hl, c, A, ds, R, hk, fo, hAl, r, hw, q⟩ := h
  obtain ⟨x, y, rfl, hw⟩ := dTwo_iff hw
  cases x with
  | deal =>
    obtain ⟨m, rfl, ⟨hm, hm2⟩, hw⟩ := dInt_iff hw
    cases r with
    | cons r1 r2 =>
      cases r2 with
      | cons r2 r3 =>
        cases r3
        cases r1 with
        | deal nal0 f =>
          rename_i a l
          cases r2
          have st0 : L2.start N [V.ref a, V.int m] = [some (.ref a), some (.int m), none, none, none] := by
            unfold L2.start
            rw [hN]
            rfl
          rw [st0]
          have fa0 : FeedA H a l := (fo.ok a l f).resolve_right fun z => nal0 z.1
          -- what is told at the end
          have fin : ∀ (H' : Hp) (z : Int), (∃ (s n : Int) (ns : List Int), H' a = some (.dK (feedKV s n l)) ∧ H' l = some (.lst (ns.map V.int)) ∧ 0 ≤ s ∧ s < 2147483648 ∧ 0 ≤ n ∧ (∀ x ∈ ns, 0 < x) ∧ ns.length ≤ 63) → (∀ b, b ≠ a → b ≠ l → H' b = H b) → 0 ≤ z → z < m → Q (.int z) H' := fun H' z ⟨s, n, ns, h1, h2, h3⟩ oth z0 z1 => by
            exact q c (.int z) H' (.int z) (feed_step (Step.refl fo) f oth (.inl ⟨fa0.1, s, n, ns, h1, h2, h3⟩)) (.int z) (hw z z0 z1)
          have nal : a ≠ l := fa0.1
          obtain ⟨s0, n0, ns0, ha0, hl0, b1, b2, b3, b4, b5⟩ := fa0.2
          have dg : ∀ {H' : Hp} {s n : Int}, H' a = some (.dK (feedKV s n l)) → DGet H' a (.str "number") (some (.int n)) ∧ DGet H' a (.str "left") (some (.ref l)) ∧ DGet H' a (.str "seed") (some (.int s)) := fun {H' s n} e => by
            have g1 := DGet.k (k := kN) e
            have g2 := DGet.k (k := kL) e
            have g3 := DGet.k (k := kS) e
            rw [fk_n] at g1
            rw [fk_l] at g2
            rw [fk_s] at g3
            exact ⟨g1, g2, g3⟩
          have dpn : ∀ {H' : Hp} {s n : Int} (z : Int), H' a = some (.dK (feedKV s n l)) → DPut H' a (.str "number") (.int z) (upd H' a (.dK (feedKV s z l))) := fun {H' s n} z e => by
            have g := DPut.k (k := kN) (v := .int z) e (fk_len s n l)
            rw [fp_n] at g
            exact g
          have dps : ∀ {H' : Hp} {s n : Int} (z : Int), H' a = some (.dK (feedKV s n l)) → DPut H' a (.str "seed") (.int z) (upd H' a (.dK (feedKV z n l))) := fun {H' s n} z e => by
            have g := DPut.k (k := kS) (v := .int z) e (fk_len s n l)
            rw [fp_s] at g
            exact g
          -- the rest of the def, the number known
          let W : Nat → L2.St → Hp → Prop := fun k σ H' => σ = [some (.ref a), some (.int m), none, none, none] ∧ ∃ (s n : Int) (ns : List Int), k = ns.length ∧ H' a = some (.dK (feedKV s n l)) ∧ H' l = some (.lst (ns.map V.int)) ∧ (0 ≤ s ∧ s < 2147483648 ∧ 0 ≤ n ∧ (∀ x ∈ ns, 0 < x) ∧ ns.length ≤ 63) ∧ ∀ b, b ≠ a → b ≠ l → H' b = H b
          refine ⟨W, ⟨ns0.length, rfl, s0, n0, ns0, rfl, ha0, hl0, ⟨b1, b2, b3, b4, b5⟩, fun _ _ _ => rfl⟩, ?_⟩
          have tail : ∀ (s n : Int) (ns : List Int) (H' : Hp), H' a = some (.dK (feedKV s n l)) → H' l = some (.lst (ns.map V.int)) → (0 ≤ s ∧ s < 2147483648 ∧ 0 ≤ n ∧ (∀ x ∈ ns, 0 < x) ∧ ns.length ≤ 63) → (∀ b, b ≠ a → b ≠ l → H' b = H b) →
              (tSeq (tAsg gN0 (gName 2))
                (tSeq (tIfS (tTest (tOp rGt0 (tVar 2) (tI 0))) (tSeq (sDPut (tVar 0) (tC (.str "number")) (tOp rDivA0 (tVar 2) (tVar 1))) (tRet (tOp rModN0 (tVar 2) (tVar 1)))) tNext)
                (tSeq (tAsg (tOp rModN0 (tOp rAdd0 (tOp rMulW0 gS0 (tI 48271)) (tI 7919)) (tI 2147483647)) (gName 3))
                (tSeq (sDPut (tVar 0) (tC (.str "seed")) (tOp rModN0 (tOp rAdd0 (tOp rMulW0 (tVar 3) (tI 40692)) (tI 104729)) (tI 2147483399)))
                (tSeq (tAsg (tOp rModN0 (tOp rMulW0 gS0 gS0) (tI 2147483563)) (gName 4))
                (tRet (tOp rModN0 (tOp rAdd0 (tOp rMulW0 (tOp rModN0 (tOp rMulW0 (tVar 3) (tVar 3)) (tI 2147483629)) (tI 2147483563)) (tVar 4)) (tVar 1)))))))) { nx := fun _ H' => Q .non H', rt := Q } [some (.ref a), some (.int m), none, none, none] H' := by
            intro s n ns H' e1 e2 bd oth
            obtain ⟨g1, g2, g3⟩ := dg e1
            refine ⟨_, rfl, a, _, rfl, g1, ?_⟩
            refine ⟨_, rfl, _, _, rfl, rfl, _, rfl, ?_⟩
            by_cases hn : 0 < n
            · rw [decide_eq_true hn]
              refine iteT ?_
              refine ⟨_, rfl, _, rfl, _, _, rfl, rfl, ⟨by omega, hm2⟩, _, rfl, a, _, rfl, dpn _ e1, ?_⟩
              refine ⟨_, rfl, _, rfl, _, _, rfl, rfl, by omega, ?_⟩
              obtain ⟨r0, r1⟩ := fmod_rng n hm
              refine fin _ _ ⟨s, _, ns, upd_same, by rw [upd_ne (Ne.symm nal)]; exact e2, bd.1, bd.2.1, fdiv_nn bd.2.2.1 hm, bd.2.2.2⟩ (fun b h1 h2 => by rw [upd_ne h1]; exact oth b h1 h2) r0 r1
            · rw [decide_eq_false hn]
              refine iteF ?_
              have q1 : CMulW s 48271 := mul_ok (a := 31) (b := 17) (by omega) (by decide)
              obtain ⟨o0, o1⟩ := fmod_rng (s * 48271 + 7919) (j := 2147483647) (by decide)
              obtain ⟨one, he⟩ : ∃ one, one = (s * 48271 + 7919).fmod 2147483647 := ⟨_, rfl⟩
              rw [← he] at o0 o1
              have q2 : CMulW one 40692 := mul_ok (a := 31) (b := 17) (by omega) (by decide)
              obtain ⟨s0, s1⟩ := fmod_rng (one * 40692 + 104729) (j := 2147483399) (by decide)
              obtain ⟨s', hs'⟩ : ∃ s', s' = (one * 40692 + 104729).fmod 2147483399 := ⟨_, rfl⟩
              rw [← hs'] at s0 s1
              have q3 : CMulW s' s' := mul_ok (a := 31) (b := 31) (by omega) (by omega)
              obtain ⟨p0, p1⟩ := fmod_rng (s' * s') (j := 2147483563) (by decide)
              obtain ⟨oth', ho'⟩ : ∃ z, z = (s' * s').fmod 2147483563 := ⟨_, rfl⟩
              rw [← ho'] at p0 p1
              have q4 : CMulW one one := mul_ok (a := 31) (b := 31) (by omega) (by omega)
              obtain ⟨u0, u1⟩ := fmod_rng (one * one) (j := 2147483629) (by decide)
              obtain ⟨oo, hoo⟩ : ∃ z, z = (one * one).fmod 2147483629 := ⟨_, rfl⟩
              rw [← hoo] at u0 u1
              have q5 : CMulW oo 2147483563 := mul_ok (a := 31) (b := 31) (by omega) (by decide)
              obtain ⟨r0, r1⟩ := fmod_rng (oo * 2147483563 + oth') hm
              obtain ⟨g1', g2', g3'⟩ := dg (H' := upd H' a (.dK (feedKV s' n l))) upd_same
              refine ⟨_, rfl, a, _, rfl, g3, _, _, rfl, rfl, q1, _, _, rfl, rfl, _, _, rfl, rfl, (by show (2147483647 : Int) ≠ 0; decide), ?_⟩
              show (tSeq (sDPut (tVar 0) (tC (.str "seed")) (tOp rModN0 (tOp rAdd0 (tOp rMulW0 (tVar 3) (tI 40692)) (tI 104729)) (tI 2147483399)))
                (tSeq (tAsg (tOp rModN0 (tOp rMulW0 gS0 gS0) (tI 2147483563)) (gName 4))
                (tRet (tOp rModN0 (tOp rAdd0 (tOp rMulW0 (tOp rModN0 (tOp rMulW0 (tVar 3) (tVar 3)) (tI 2147483629)) (tI 2147483563)) (tVar 4)) (tVar 1))))) { nx := fun _ H' => Q .non H', rt := Q } [some (.ref a), some (.int m), some (.int n), some (.int ((s * 48271 + 7919).fmod 2147483647)), none] H'
              rw [← he]
              refine ⟨_, rfl, _, _, rfl, rfl, q2, _, _, rfl, rfl, _, _, rfl, rfl, (by show (2147483399 : Int) ≠ 0; decide), _, rfl, a, _, rfl, dps _ e1, ?_⟩
              rw [← hs']
              refine ⟨_, rfl, a, _, rfl, g3', _, rfl, a, _, rfl, g3', _, _, rfl, rfl, q3, _, _, rfl, rfl, (by show (2147483563 : Int) ≠ 0; decide), ?_⟩
              show (tRet (tOp rModN0 (tOp rAdd0 (tOp rMulW0 (tOp rModN0 (tOp rMulW0 (tVar 3) (tVar 3)) (tI 2147483629)) (tI 2147483563)) (tVar 4)) (tVar 1))) { nx := fun _ H' => Q .non H', rt := Q } [some (.ref a), some (.int m), some (.int n), some (.int one), some (.int ((s' * s').fmod 2147483563))] (upd H' a (.dK (feedKV s' n l)))
              rw [← ho']
              refine ⟨_, rfl, _, rfl, _, _, rfl, rfl, q4, _, _, rfl, rfl, (by show (2147483629 : Int) ≠ 0; decide), ?_⟩
              dsimp only
              rw [← hoo]
              refine ⟨_, _, rfl, rfl, q5, _, rfl, _, _, rfl, rfl, _, rfl, _, _, rfl, rfl, (by show m ≠ 0; omega), ?_⟩
              exact fin _ _ ⟨s', n, ns, upd_same, by rw [upd_ne (Ne.symm nal)]; exact e2, s0, by omega, bd.2.2⟩ (fun b h1 h2 => by rw [upd_ne h1]; exact oth b h1 h2) r0 r1
          rintro k σ H' ⟨rfl, s, n, ns, rfl, e1, e2, bd, oth⟩
          obtain ⟨g1, g2, g3⟩ := dg e1
          -- deal['number'] == 0
          refine ⟨_, rfl, a, _, rfl, g1, rfl, _, rfl, ?_⟩
          by_cases hn : n = 0
          · subst hn
            rw [decide_eq_true rfl]
            refine iteT ?_
            -- len(deal['left']) > 0
            refine ⟨_, rfl, a, _, rfl, g2, .inl ⟨l, _, rfl, .inl (.inl (.inl e2)), _, _, rfl, rfl, _, rfl, ?_⟩⟩
            rw [List.length_map]
            by_cases hz : (0 : Int) < ns.length
            · rw [decide_eq_true hz]
              refine iteT ?_
              have hlt : ns.length - 1 < ns.length := by omega
              refine ⟨fun σ' H2 => ∃ m', m' < ns.length ∧ W m' σ' H2, fun σ' H2 h => h, _, rfl, a, _, rfl, g2, (.inl ⟨rfl, _, .inl (.inl e2)⟩), l, ns.map V.int, .int ns[ns.length - 1], rfl, rfl, e2, ?_, _, rfl, a, _, rfl, dpn _ (by rw [upd_ne nal]; exact e1), ?_⟩
              · rw [List.length_map, List.getElem?_map, List.getElem?_eq_getElem hlt]
                rfl
              · refine ⟨ns.length - 1, by omega, rfl, s, _, ns.dropLast, by rw [List.length_dropLast], upd_same, ?_, ⟨bd.1, bd.2.1, Int.le_of_lt (bd.2.2.2.1 _ (List.getElem_mem hlt)), fun x hx => bd.2.2.2.1 x (List.dropLast_subset _ hx), by rw [List.length_dropLast]; omega⟩, fun b h1 h2 => ?_⟩
                · rw [upd_ne (Ne.symm nal), upd_same, List.map_dropLast]
                · rw [upd_ne h1, upd_ne h2]
                  exact oth b h1 h2
            · rw [decide_eq_false hz]
              refine iteF ?_
              exact tail s 0 ns H' e1 e2 bd oth
          · have ne : ¬ V.int n = V.int 0 := fun z => hn (V.int.inj z)
            rw [decide_eq_false ne]
            refine iteF ?_
            exact tail s n ns H' e1 e2 bd oth
  | _ => exact hw.elim
end DL

set_option Elab.async false
set_option linter.all false
set_option maxRecDepth 100000
set_option maxHeartbeats 4000000
namespace DL
open PySem PySem.Spec PyProof.Rows L2
variable [TabsOf]
section
variable {c c0 : Cfg} {H0 H : Hp}
def Cfg.plus (c : Cfg) (a l : Addr) : Cfg := ⟨c.K, fun x y => c.fx x y ∨ (x = a ∧ y = .inl l), c.cs⟩
theorem plus_S {a l b : Addr} : (c.plus a l).S b ↔ c.S b ∨ b = a ∨ b = l := by
  constructor
  · rintro (⟨x, y, f | ⟨rfl, ⟨⟩⟩, e⟩ | h)
    · exact .inl (.inl ⟨x, y, f, e⟩)
    · exact .inr e
    · exact .inl (.inr h)
  · rintro ((⟨x, y, f, e⟩ | h) | e)
    · exact .inl ⟨x, y, .inl f, e⟩
    · exact .inr h
    · exact .inl ⟨a, l, .inr ⟨rfl, rfl⟩, e⟩
theorem plus_step {a l : Addr} (t : Step c0 H0 c H) (na : ¬ c.S a) (nl : ¬ c.S l) (ha : H0 a = none) (hl : H0 l = none) (ok : FeedOk H a l) : Step c0 H0 (c.plus a l) H := by
  refine ⟨t.kk, fun x y f => .inl (t.sub x y f), t.subC, fun b h => ?_, t.keep, t.keepC, ⟨fun x y f => ?_, fun x y x' y' f f' => ?_, fun x y f => ?_, t.fok.cal, fun p hp => t.fok.tab p hp, fun f i hf => by
    rcases hf with hf | ⟨_, z⟩
    · exact t.fok.lam f i hf
    · cases z⟩⟩
  · rcases plus_S.mp h with h | h | h
    · exact t.new b h
    · subst h; exact .inr ha
    · subst h; exact .inr hl
  · rcases f with f | ⟨rfl, ⟨⟩⟩
    · exact t.fok.ok x y f
    · exact ok
  · rcases f with f | ⟨rfl, ⟨⟩⟩ <;> rcases f' with f' | ⟨rfl, ⟨⟩⟩
    · exact t.fok.apart x y x' y' f f'
    · exact .inr ⟨fun z => na (z ▸ Cfg.S1 f), fun z => nl (z ▸ Cfg.S1 f), fun z => na (z ▸ Cfg.S2 f), fun z => nl (z ▸ Cfg.S2 f)⟩
    · exact .inr ⟨fun z => na (z.symm ▸ Cfg.S1 f'), fun z => na (z.symm ▸ Cfg.S2 f'), fun z => nl (z.symm ▸ Cfg.S1 f'), fun z => nl (z.symm ▸ Cfg.S2 f')⟩
    · exact .inl ⟨rfl, rfl⟩
  · rcases f with f | ⟨rfl, ⟨⟩⟩
    · exact t.fok.sep x y f
    · exact ⟨fun z => na (.inr z), fun z => nl (.inr z)⟩
end
def sRetDeal (p1 p3 : TED) : TSD := fun DD ρ => p1 ρ fun x => dInt x fun s => (0 ≤ s ∧ s < 2147483648) ∧ p3 ρ fun z => match z with
  | .lst ds => ∃ ns : List Int, ds = ns.map D.int ∧ (∀ x ∈ ns, 0 < x) ∧ ns.length ≤ 63 ∧ DD.rt .deal
  | _ => False
theorem lift_retDeal (K : PySem.W.Frag) {own : List Nat} {fr : Bool} {p1 p3 : TED} : ∀ D σ H, liftS K xw own fr .strong (sRetDeal p1 p3) D σ H →
    tRet (tDisp [(tC (.str "seed"), lift K own .strong p1), (tC (.str "number"), tC (.int 0)), (tC (.str "left"), lift K own .fresh p3)]) D σ H := by
  intro D σ H ⟨c0, H0, A, c, ρ, DD, hk, t, E, F, h, z⟩
  intro p hp
  have E1 := E.more (o := .dK []) hp
  have t1 : Step c H c (upd H p (.dK [])) := .one E.fok hp
  have nS : ¬ c.S p := E.fok.fresh hp
  refine ⟨c, _, ρ, _, hk, E1, h, fun c2 v2 H2 d2 t2 r2 g2 => ?_⟩
  obtain ⟨s, rfl, hs, g2⟩ := dInt_iff g2
  have r2 : Rep c2 _ H2 v2 (.int s) := r2
  cases r2
  have E2 := E1.step t2
  refine ⟨c2, _, ρ, _, t2.kk.trans hk, E2, g2, fun c3 v3 H3 d3 t3 r3 g3 => ?_⟩
  cases d3 with
  | lst ds =>
    obtain ⟨ns, rfl, h1, h2, g⟩ := g3
    obtain ⟨l, rfl, hl, nl, r3⟩ := r3
    cases r3 with
    | lst hz e3 rl =>
      have ev := rl.ints
      subst ev
      have n2 : ¬ c2.S p := t2.notS upd_same nS
      have hp2 : H2 p = some (.dK []) := t2.keep p _ nS upd_same
      have hp3 : H3 p = some (.dK []) := t3.keep p _ n2 hp2
      have n3 : ¬ c3.S p := t3.notS hp2 n2
      have lp : l ≠ p := fun z => by rw [z, hp2] at hl; cases hl
      refine ⟨hp3, feedKV s 0 l, rfl, (show 3 ≤ 15 by decide), ?_⟩
      rw [fm]
      have t13 : Step c0 H0 c3 H3 := ((t.trans t1).trans t2).trans t3
      have fp : H0 p = none := t.fresh hp
      have fl : H0 l = none := ((t.trans t1).trans t2).fresh hl
      have t4 : Step c0 H0 c3 (upd H3 p (.dK (feedKV s 0 l))) := t13.upd fp n3
      have t5 : Step c0 H0 (c3.plus p l) (upd H3 p (.dK (feedKV s 0 l))) := plus_step t4 n3 nl fp fl (.inl ⟨Ne.symm lp, s, 0, ns, upd_same, by rw [upd_ne lp]; exact e3, hs.1, hs.2, by decide, h1, h2⟩)
      exact z.rt (c3.plus p l) (.ref p) _ .deal (t3.kk.trans (t2.kk.trans hk)) t5 (show Rep _ _ _ _ _ from .deal (Ne.symm lp) (.inr ⟨rfl, rfl⟩)) g
  | _ => exact g3.elim
theorem s_retDeal {X : Cx} {own : List Nat} {fr : Bool} {st : Stmt} {p1 p3 : TED} (h : PS X st (tRet (tDisp [(tC (.str "seed"), lift X.K own .strong p1), (tC (.str "number"), tC (.int 0)), (tC (.str "left"), lift X.K own .fresh p3)]))) : PS X st (liftS X.K xw own fr .strong (sRetDeal p1 p3)) := ps_imp h (lift_retDeal _)
structure DefD (P : Program) (w : World) (K : PySem.W.Frag) (mg : Str → Option Value) (base : Heap) (x : Str) (k n : Nat) (ko : Kd) (g : List D → (D → Prop) → Prop) : Prop where
  ex : ∃ (f : Addr) (fd : FuncData) (ps : List Str), FnOk P w K mg base CX0 k f fd ps (spD K n ko g) ∧ mg x = some (.ref f) ∧ PySem.W.keepIn K (.ref f) = true ∧ Binds K fd ps []
section
variable {X : Cx} {own : List Nat} {pos : Pos} {e : Expr} {es : List Expr} {x : Str} {pn : Pos} {k n : Nat} {ko : Kd} {w : List D → (D → Prop) → Prop} {pa : TAD}
theorem e_callD (F : DefD X.prog X.w X.K X.mg X.base x k n ko w) (hr : Room k X.A) (ha : PA X (e :: es) (liftA X.K own .strong n pa)) (hk : ko ≠ .weak := by intro z; cases z) (hg : Gl X x := by rfl)
    (hs : starEach (e :: es) X.env = (false, eval e X.env) :: starEach es X.env := by rfl) (hpl : (backTo pos (starEach es X.env)).any (·.1) = false := by rfl) (hd : (x == ("__debug__" : Str)) = false := by decide) :
    PE X (.Call (.Name x pn) (e :: es) [] pos) (lift X.K own ko (pCall w pa)) := by
  obtain ⟨f, fd, ps, F, hm, hkp, hb⟩ := F.ex
  exact e_call F hr hm hkp hb ha hk hg hs hpl hd
end
def spLawD (K : PySem.W.Frag) : Sp := fun vs H Q _ => ∃ (a : Addr) (ns : List Int), vs = [.ref a] ∧ SqL K H a (ns.map V.int) ∧ ns.length ≤ 63 ∧ (∀ p ∈ TabsOf.T, H p.1 = some (.tbl #[])) ∧ ∀ H', Q (.bl true) H'
theorem law_sp {K : PySem.W.Frag} {g : List D → (D → Prop) → Prop} (h : ∀ ns : List Int, ns.length ≤ 63 → g [.scr ns] fun d => d = .bl true) (vs : List V) (H : Hp) (Q : VK) (E : XK) (z : spLawD K vs H Q E) : spD K 1 .strong g vs H Q E := by
  obtain ⟨a, ns, e, ha, hl, ht, q⟩ := z
  subst e
  have cs : ∀ b, (∃ p ∈ TabsOf.T, b = p.1) → H b = some (.tbl #[]) := fun b ⟨p, hp, e⟩ => e ▸ ht p hp
  refine ⟨rfl, ⟨K, fun _ _ => False, fun b => ∃ p ∈ TabsOf.T, b = p.1⟩, fun _ => False, [.scr ns], _, rfl, ⟨fun _ _ z => z.elim, fun _ _ _ _ z => z.elim, fun _ _ z => z.elim, fun b hb => .inl ⟨_, cs b hb⟩, fun p hp => ⟨⟨p, hp, rfl⟩, #[], ht p hp, True.intro, fun pos cv hc => ?_⟩, fun _ _ z => z.elim⟩, fun _ z => z.elim,
    .cons (.scr hl (ha.imp (fun z => ⟨fun y => ?_, z⟩) fun z => .inr z)) .nil, h ns hl, fun c' v H' d t r e => ?_⟩
  · have z : codeAmong pos [] = some cv := hc
    simp [codeAmong] at z
  · rcases y with y | ⟨_, _, f, _⟩ | y
    · exact y
    · exact f
    · have e := cs a y
      rcases z with z | ⟨o, z⟩ <;> rw [e] at z <;> cases z
  · subst e
    have r : Rep c' _ H' v (.bl true) := r
    cases r
    exact q H'
end DL

set_option Elab.async false
set_option linter.all false
set_option maxRecDepth 100000
set_option maxHeartbeats 4000000
namespace DL
open PySem PySem.Spec PyProof.Rows L2
variable [TabsOf]
section
variable {X : Cx} {own : List Nat} {fr : Bool} {ko : Kd} {pos : Pos}
def sPar (i j : Nat) (pa : TAD) : TSD := fun DD ρ => pa ρ fun ds => match ds with | [d, e] => DD.nx ((ρ.set i (some d)).set j (some e)) | _ => False
def sPar3 (i j l : Nat) (pa : TAD) : TSD := fun DD ρ => pa ρ fun ds => match ds with | [d, e, f] => DD.nx (((ρ.set i (some d)).set j (some e)).set l (some f)) | _ => False
theorem set_own {σ : L2.St} {ρ : PEnv} {i : Nat} {v : V} {d : D} (hi : i ∉ own) : ∀ j, j ∈ own → (ρ.set i (some d))[j]? = ρ[j]? ∧ (σ.set i (some v))[j]? = σ[j]? := fun j hj => by
  have hne : i ≠ j := fun z => hi (z ▸ hj)
  rw [List.getElem?_set_ne hne, List.getElem?_set_ne hne]
  exact ⟨rfl, rfl⟩
theorem avd_set {c : Cfg} {A : Addr → Prop} {σ : L2.St} {ρ : PEnv} {i : Nat} {v : V} {d : D} (hi : i ∉ own) : Avd c own A (σ.set i (some v)) (ρ.set i (some d)) = Avd c own A σ ρ := avd_congr (set_own hi)
theorem lift_par (K : PySem.W.Frag) {i j n : Nat} {pa : TAD} (hi : i ∉ own) (hj : j ∉ own) : ∀ D σ H, liftS K xw own fr ko (sPar i j pa) D σ H → tPar i j (liftA K own .strong n pa) D σ H := fun D σ H ⟨c0, H0, A, c, ρ, DD, hk, t, E, F, h, z⟩ => ⟨c, A, ρ, _, hk, E, h, fun c1 vs H1 ds t1 r1 hn g1 => by
  match ds, paired_strong r1, g1 with
  | [d, e], .cons r1 (.cons r2 .nil), g1 =>
    refine ⟨_, _, rfl, ?_⟩
    have E1 := (E.step t1).set hi r1
    have E2 := E1.set hj (by rw [avd_set hi]; exact r2)
    exact z.nx.here (t1.kk.trans hk) (t.trans t1) E2 ((F.congr (set_own hi)).congr (set_own hj)) g1⟩
theorem s_par (i j : Nat) {x y : Str} {a b : Expr} {n : Nat} {pa : TAD} {px py pt : Pos} {kt k2 pt2} (hc : X.calm = true) (hN : X.N.Nodup) (ha : PA X [a, b] (liftA X.K own .strong n pa)) (hi : X.N[i]? = some x := by rfl) (hj : X.N[j]? = some y := by rfl) (hij : i ≠ j := by decide)
    (hx : X.env.scope.names.lookup x = some .local := by rfl) (hy : X.env.scope.names.lookup y = some .local := by rfl) (ho : i ∉ own := by decide) (ho2 : j ∉ own := by decide)
    (hw : swappedStores [.Tuple [.Name x px, .Name y py] kt pt] (.Tuple [a, b] k2 pt2) X.env = pure (some [x, y]) := by rfl)
    (hs : swapsWithSole [.Tuple [.Name x px, .Name y py] kt pt] (.Tuple [a, b] k2 pt2) pos.line X.env = pure false := by rfl) :
    PS X (.Assign [.Tuple [.Name x px, .Name y py] kt pt] (.Tuple [a, b] k2 pt2) pos) (liftS X.K xw own fr ko (sPar i j pa)) := ps_imp (ps_par hc hN hi hj hij hx hy ha hw hs) (lift_par _ ho ho2)
end
end DL

set_option Elab.async false
set_option linter.all false
set_option maxRecDepth 100000
set_option maxHeartbeats 4000000
namespace DL
open PySem PySem.Spec PyProof.Rows L2

theorem compM {tg : TGD} {te : TED} {ρ : PEnv} (f : D → D) : ∀ (ds : List D) (acc : List D) (R : List D → Prop), (∀ d ∈ ds, ∀ R : D → Prop, R (f d) → tg d ρ fun ρ1 => te ρ1 R) → R (acc ++ ds.map f) → compR tg tYesD te ρ ds acc R
  | [], acc, R, _, h => by rw [List.map_nil, List.append_nil] at h; exact h
  | d :: ds, acc, R, hs, h => by
    have e : (fun ρ1 => tYesD ρ1 fun b => if b = true then te ρ1 fun y => compR tg tYesD te ρ ds (acc ++ [y]) R else compR tg tYesD te ρ ds acc R) = fun ρ1 => te ρ1 fun y => compR tg tYesD te ρ ds (acc ++ [y]) R := by
      funext ρ1
      simp [tYesD]
    show tg d ρ (fun ρ1 => tYesD ρ1 fun b => if b = true then te ρ1 fun y => compR tg tYesD te ρ ds (acc ++ [y]) R else compR tg tYesD te ρ ds acc R)
    rw [e]
    exact hs d List.mem_cons_self _ (compM f ds _ R (fun d' hd => hs d' (List.mem_cons_of_mem _ hd)) (by
      rw [List.append_assoc]
      exact h))
theorem compF {tg : TGD} {tt : TTD} {te : TED} {ρ : PEnv} (c : D → Bool) (f : D → D) : ∀ (ds : List D) (acc : List D) (R : List D → Prop),
    (∀ d ∈ ds, ∀ (K1 : D → Prop) (K2 : Prop), (c d = true → K1 (f d)) → (c d = false → K2) → tg d ρ fun ρ1 => tt ρ1 fun b => if b = true then te ρ1 K1 else K2) → R (acc ++ (ds.filter c).map f) → compR tg tt te ρ ds acc R
  | [], acc, R, _, h => by rw [List.filter_nil, List.map_nil, List.append_nil] at h; exact h
  | d :: ds, acc, R, hs, h => by
    refine hs d List.mem_cons_self _ _ (fun hc => ?_) fun hc => ?_
    · refine compF c f ds _ R (fun d' hd => hs d' (List.mem_cons_of_mem _ hd)) ?_
      rw [List.filter_cons_of_pos hc] at h
      rw [List.append_assoc]
      exact h
    · refine compF c f ds _ R (fun d' hd => hs d' (List.mem_cons_of_mem _ hd)) ?_
      rw [List.filter_cons_of_neg (by rw [hc]; exact Bool.false_ne_true)] at h
      exact h
theorem forI {tg : TGD} {body : TSD} {DD : DEnds} (I : List D → PEnv → Prop) (step : ∀ d rest ρ (N : PEnv → Prop), I (d :: rest) ρ → (∀ ρ', I rest ρ' → N ρ') → tg d ρ fun ρ1 => body { DD with nx := N, ct := N, bk := DD.nx } ρ1) (hend : ∀ ρ, I [] ρ → DD.nx ρ) : ∀ ds ρ, I ds ρ → forR tg body DD ds ρ
  | [], ρ, h => hend ρ h
  | d :: ds, ρ, h => step d ds ρ _ h fun ρ' h' => forI I step hend ds ρ' h'
def bnd (k : Nat) (i : Int) : Prop := i.natAbs < 2 ^ k
theorem bnd_mono {k l : Nat} {i : Int} (h : bnd k i) (hl : k ≤ l) : bnd l i := Nat.lt_of_lt_of_le h (Nat.pow_le_pow_right (by decide) hl)
theorem bnd_add {k l : Nat} {i j : Int} (h : bnd k i) (g : bnd l j) : bnd (max k l + 1) (i + j) := by
  have h1 := bnd_mono h (Nat.le_max_left k l)
  have h2 := bnd_mono g (Nat.le_max_right k l)
  unfold bnd at *
  rw [Nat.pow_succ]
  omega
theorem bnd_neg {k : Nat} {i : Int} (h : bnd k i) : bnd k (-i) := by unfold bnd at *; omega
theorem bnd_sub {k l : Nat} {i j : Int} (h : bnd k i) (g : bnd l j) : bnd (max k l + 1) (i - j) := by
  rw [Int.sub_eq_add_neg]; exact bnd_add h (bnd_neg g)
theorem bnd_mul {k l : Nat} {i j : Int} (h : bnd k i) (g : bnd l j) : bnd (k + l) (i * j) := wide_lt h g
theorem bnd_mulOk {k l : Nat} {i j : Int} (h : bnd k i) (g : bnd l j) (hk : 0 < k := by decide) (hl : 0 < l := by decide) (hs : k + l ≤ 1000000 := by decide) : mulOk i j := wide_mul h g hk hl hs
theorem bnd_of {k : Nat} {i lo hi : Int} (h : lo ≤ i) (g : i ≤ hi) (h1 : lo.natAbs < 2 ^ k := by decide) (h2 : hi.natAbs < 2 ^ k := by decide) : bnd k i := by unfold bnd; omega
theorem atI_0 {x : D} {xs : List D} : L2.atI (x :: xs) 0 = some x := L2.atI_nat (xs := x :: xs) (j := 0) rfl
theorem atI_1 {x y : D} {xs : List D} : L2.atI (x :: y :: xs) 1 = some y := L2.atI_nat (xs := x :: y :: xs) (j := 1) rfl
theorem atI_2 {x y z : D} {xs : List D} : L2.atI (x :: y :: z :: xs) 2 = some z := L2.atI_nat (xs := x :: y :: z :: xs) (j := 2) rfl
theorem atI_3 {x y z u : D} {xs : List D} : L2.atI (x :: y :: z :: u :: xs) 3 = some u := L2.atI_nat (xs := x :: y :: z :: u :: xs) (j := 3) rfl
theorem isi_eq {d : D} {T : String} {R : D → Prop} {b : Bool} (n : String) (hn : tyOf d = n) (h1 : n ∈ tyNames) (h2 : T ∈ tyNames) (h3 : isTy n T = b) : dIsi [d, .ty T] R = R (.bl b) := by
  subst h3
  subst hn
  exact propext ⟨fun h => h.2, fun h => ⟨⟨h1, h2⟩, h⟩⟩
theorem isi_int_int {i : Int} {R : D → Prop} : dIsi [(.int i), .ty "int"] R = R (.bl true) := isi_eq "int" rfl (by decide) (by decide) (by decide)
theorem isi_int_bool {i : Int} {R : D → Prop} : dIsi [(.int i), .ty "bool"] R = R (.bl false) := isi_eq "int" rfl (by decide) (by decide) (by decide)
theorem isi_int_str {i : Int} {R : D → Prop} : dIsi [(.int i), .ty "str"] R = R (.bl false) := isi_eq "int" rfl (by decide) (by decide) (by decide)
theorem isi_int_tuple {i : Int} {R : D → Prop} : dIsi [(.int i), .ty "tuple"] R = R (.bl false) := isi_eq "int" rfl (by decide) (by decide) (by decide)
theorem isi_int_list {i : Int} {R : D → Prop} : dIsi [(.int i), .ty "list"] R = R (.bl false) := isi_eq "int" rfl (by decide) (by decide) (by decide)
theorem isi_bl_int {b : Bool} {R : D → Prop} : dIsi [(.bl b), .ty "int"] R = R (.bl true) := isi_eq "bool" rfl (by decide) (by decide) (by decide)
theorem isi_bl_bool {b : Bool} {R : D → Prop} : dIsi [(.bl b), .ty "bool"] R = R (.bl true) := isi_eq "bool" rfl (by decide) (by decide) (by decide)
theorem isi_bl_str {b : Bool} {R : D → Prop} : dIsi [(.bl b), .ty "str"] R = R (.bl false) := isi_eq "bool" rfl (by decide) (by decide) (by decide)
theorem isi_bl_tuple {b : Bool} {R : D → Prop} : dIsi [(.bl b), .ty "tuple"] R = R (.bl false) := isi_eq "bool" rfl (by decide) (by decide) (by decide)
theorem isi_bl_list {b : Bool} {R : D → Prop} : dIsi [(.bl b), .ty "list"] R = R (.bl false) := isi_eq "bool" rfl (by decide) (by decide) (by decide)
theorem isi_str_int {x : Str} {R : D → Prop} : dIsi [(.str x), .ty "int"] R = R (.bl false) := isi_eq "str" rfl (by decide) (by decide) (by decide)
theorem isi_str_bool {x : Str} {R : D → Prop} : dIsi [(.str x), .ty "bool"] R = R (.bl false) := isi_eq "str" rfl (by decide) (by decide) (by decide)
theorem isi_str_str {x : Str} {R : D → Prop} : dIsi [(.str x), .ty "str"] R = R (.bl true) := isi_eq "str" rfl (by decide) (by decide) (by decide)
theorem isi_str_tuple {x : Str} {R : D → Prop} : dIsi [(.str x), .ty "tuple"] R = R (.bl false) := isi_eq "str" rfl (by decide) (by decide) (by decide)
theorem isi_str_list {x : Str} {R : D → Prop} : dIsi [(.str x), .ty "list"] R = R (.bl false) := isi_eq "str" rfl (by decide) (by decide) (by decide)
theorem isi_non_int  {R : D → Prop} : dIsi [.non, .ty "int"] R = R (.bl false) := isi_eq "NoneType" rfl (by decide) (by decide) (by decide)
theorem isi_non_bool  {R : D → Prop} : dIsi [.non, .ty "bool"] R = R (.bl false) := isi_eq "NoneType" rfl (by decide) (by decide) (by decide)
theorem isi_non_str  {R : D → Prop} : dIsi [.non, .ty "str"] R = R (.bl false) := isi_eq "NoneType" rfl (by decide) (by decide) (by decide)
theorem isi_non_tuple  {R : D → Prop} : dIsi [.non, .ty "tuple"] R = R (.bl false) := isi_eq "NoneType" rfl (by decide) (by decide) (by decide)
theorem isi_non_list  {R : D → Prop} : dIsi [.non, .ty "list"] R = R (.bl false) := isi_eq "NoneType" rfl (by decide) (by decide) (by decide)
theorem isi_tup_int {ds : List D} {R : D → Prop} : dIsi [(.tup ds), .ty "int"] R = R (.bl false) := isi_eq "tuple" rfl (by decide) (by decide) (by decide)
theorem isi_tup_bool {ds : List D} {R : D → Prop} : dIsi [(.tup ds), .ty "bool"] R = R (.bl false) := isi_eq "tuple" rfl (by decide) (by decide) (by decide)
theorem isi_tup_str {ds : List D} {R : D → Prop} : dIsi [(.tup ds), .ty "str"] R = R (.bl false) := isi_eq "tuple" rfl (by decide) (by decide) (by decide)
theorem isi_tup_tuple {ds : List D} {R : D → Prop} : dIsi [(.tup ds), .ty "tuple"] R = R (.bl true) := isi_eq "tuple" rfl (by decide) (by decide) (by decide)
theorem isi_tup_list {ds : List D} {R : D → Prop} : dIsi [(.tup ds), .ty "list"] R = R (.bl false) := isi_eq "tuple" rfl (by decide) (by decide) (by decide)
theorem isi_lst_int {ds : List D} {R : D → Prop} : dIsi [(.lst ds), .ty "int"] R = R (.bl false) := isi_eq "list" rfl (by decide) (by decide) (by decide)
theorem isi_lst_bool {ds : List D} {R : D → Prop} : dIsi [(.lst ds), .ty "bool"] R = R (.bl false) := isi_eq "list" rfl (by decide) (by decide) (by decide)
theorem isi_lst_str {ds : List D} {R : D → Prop} : dIsi [(.lst ds), .ty "str"] R = R (.bl false) := isi_eq "list" rfl (by decide) (by decide) (by decide)
theorem isi_lst_tuple {ds : List D} {R : D → Prop} : dIsi [(.lst ds), .ty "tuple"] R = R (.bl false) := isi_eq "list" rfl (by decide) (by decide) (by decide)
theorem isi_lst_list {ds : List D} {R : D → Prop} : dIsi [(.lst ds), .ty "list"] R = R (.bl true) := isi_eq "list" rfl (by decide) (by decide) (by decide)
end DL

set_option Elab.async false
set_option linter.all false
set_option maxRecDepth 100000
set_option maxHeartbeats 4000000
namespace DL
open PySem PySem.Spec PyProof.Rows L2
section
variable {DD : DEnds} {ρ : PEnv} {R : D → Prop} {RL : List D → Prop} {RB : Bool → Prop} {p q r : TSD} {a b c : TED} {pa : TAD} {t u : TTD} {i j l : Nat} {g : TGD} {gs : TGsD} {Q : PEnv → Prop} {d e : D} {ds es : List D} {x y : Int} {s z : Str} {k : Bool}
theorem x_fnS {m : Nat} : fnW .strong m p ds R = p ⟨fun _ => R .non, R, fun _ => False, fun _ => False⟩ (startD m ds) := propext Iff.rfl
theorem x_fnF {m : Nat} : fnW .fresh m p ds R = p ⟨fun _ => False, R, fun _ => False, fun _ => False⟩ (startD m ds) := propext Iff.rfl
theorem x_seq : sSeqD p q DD ρ = p ⟨q DD, DD.rt, DD.bk, DD.ct⟩ ρ := propext Iff.rfl
theorem x_next : sNext DD ρ = DD.nx ρ := propext Iff.rfl
theorem x_pass : sPass DD ρ = DD.nx ρ := propext Iff.rfl
theorem x_brk : sBrk DD ρ = DD.bk ρ := propext Iff.rfl
theorem x_cnt : sCnt DD ρ = DD.ct ρ := propext Iff.rfl
theorem x_set : sSet i a DD ρ = a ρ fun d => DD.nx (ρ.set i (some d)) := propext Iff.rfl
theorem x_ret : sRet a DD ρ = a ρ DD.rt := propext Iff.rfl
theorem x_retN : sRetN DD ρ = DD.rt .non := propext Iff.rfl
theorem x_if : sIf t p q DD ρ = t ρ fun b => if b = true then p DD ρ else q DD ρ := propext Iff.rfl
theorem x_asg : sAsg a g DD ρ = a ρ fun d => g d ρ DD.nx := propext Iff.rfl
theorem x_drop : sDrop a DD ρ = a ρ fun _ => DD.nx ρ := propext Iff.rfl
def two (ds : List D) (f : D → D → Prop) : Prop := match ds with | [d, e] => f d e | _ => False
def three (ds : List D) (f : D → D → D → Prop) : Prop := match ds with | [d, e, u] => f d e u | _ => False
theorem x_par : sPar i j pa DD ρ = pa ρ fun ds => two ds fun d e => DD.nx ((ρ.set i (some d)).set j (some e)) := propext Iff.rfl
theorem x_par3 : sPar3 i j l pa DD ρ = pa ρ fun ds => three ds fun d e u => DD.nx (((ρ.set i (some d)).set j (some e)).set l (some u)) := propext Iff.rfl
theorem x_two {f : D → D → Prop} : two [d, e] f = f d e := propext Iff.rfl
theorem x_three {f : D → D → D → Prop} {u : D} : three [d, e, u] f = f d e u := propext Iff.rfl
theorem x_for {src : TAD} : sFor src g p DD ρ = src ρ fun ds => forR g p DD ds ρ := propext Iff.rfl
theorem x_gN : gN i d ρ Q = Q (ρ.set i (some d)) := propext Iff.rfl
theorem x_gsN : gsN [] ρ Q = Q ρ := propext Iff.rfl
theorem x_gsC : gsC g gs (d :: ds) ρ Q = g d ρ fun ρ' => gs ds ρ' Q := propext Iff.rfl
theorem x_gT : gT gs (.tup ds) ρ Q = gs ds ρ Q := propext Iff.rfl
theorem x_gTl : gT gs (.lst ds) ρ Q = gs ds ρ Q := propext Iff.rfl
def optD (o : Option (Option D)) (R : D → Prop) : Prop := match o with | some (some d) => R d | _ => False
theorem x_pV : pV i ρ R = optD ρ[i]? R := propext Iff.rfl
theorem x_opt : optD (some (some d)) R = R d := propext Iff.rfl
theorem x_pC : pC d ρ R = R d := propext Iff.rfl
theorem x_p1 {f : D → (D → Prop) → Prop} : p1 f a ρ R = a ρ fun x => f x R := propext Iff.rfl
theorem x_p2 {f : D → D → (D → Prop) → Prop} : p2 f a b ρ R = a ρ fun x => b ρ fun y => f x y R := propext Iff.rfl
theorem x_pL {f : List D → (D → Prop) → Prop} : pL f pa ρ R = pa ρ fun ds => f ds R := propext Iff.rfl
theorem x_call {f : List D → (D → Prop) → Prop} : pCall f pa ρ R = pa ρ fun ds => f ds R := propext Iff.rfl
theorem x_callW {f : List D → (D → Prop) → Prop} : pCallW f pa ρ R = pa ρ fun ds => f ds fun d => d.flat = true ∧ R d := propext Iff.rfl
theorem x_paN : paN ρ RL = RL [] := propext Iff.rfl
theorem x_paC : paC a pa ρ RL = a ρ fun x => pa ρ fun xs => RL (x :: xs) := propext Iff.rfl
theorem x_tup : pTup pa ρ R = pa ρ fun ds => R (.tup ds) := propext Iff.rfl
theorem x_lst : pLst pa ρ R = pa ρ fun ds => R (.lst ds) := propext Iff.rfl
theorem x_tV : tV a ρ RB = a ρ fun x => dBl x RB := propext Iff.rfl
theorem x_tAnd : tAndD t u ρ RB = t ρ fun b => if b = true then u ρ RB else RB false := propext Iff.rfl
theorem x_tOr : tOrD t u ρ RB = t ρ fun b => if b = true then RB true else u ρ RB := propext Iff.rfl
theorem x_tNot : tNotD t ρ RB = t ρ fun b => RB (!b) := propext Iff.rfl
theorem x_pAnd : pAnd a b ρ R = a ρ fun x => dBl x fun k => if k = true then b ρ R else R (.bl false) := propext Iff.rfl
theorem x_pOr : pOr a b ρ R = a ρ fun x => dBl x fun k => if k = true then R (.bl true) else b ρ R := propext Iff.rfl
theorem x_pNot : pNot a ρ R = a ρ fun x => dBl x fun k => R (.bl (!k)) := propext Iff.rfl
theorem x_pIf : pIf t a b ρ R = t ρ fun k => if k = true then a ρ R else b ρ R := propext Iff.rfl
theorem x_chain {f h : D → D → (D → Prop) → Prop} : pChain f h a b c ρ R = a ρ fun x => b ρ fun y => f x y fun z => dBl z fun k => if k = true then c ρ fun v => h y v R else R (.bl false) := propext Iff.rfl
theorem x_bl {f : Bool → Prop} : dBl (.bl k) f = f k := propext Iff.rfl
theorem x_int {f : Int → Prop} : dInt (.int x) f = f x := propext Iff.rfl
theorem x_addI : dAdd (.int x) (.int y) R = R (.int (x + y)) := propext Iff.rfl
theorem x_addS : dAdd (.str s) (.str z) R = (s.length + z.length ≤ sizeLine ∧ R (.str (s ++ z))) := propext Iff.rfl
theorem x_addL : dAdd (.lst ds) (.lst es) R = (ds.length + es.length ≤ sizeLine ∧ R (.lst (ds ++ es))) := propext Iff.rfl
theorem x_addT : dAdd (.tup ds) (.tup es) R = (ds.length + es.length ≤ sizeLine ∧ R (.tup (ds ++ es))) := propext Iff.rfl
theorem x_cat : dCat (.lst ds) (.lst es) R = (ds.length + es.length ≤ sizeLine ∧ R (.lst (ds ++ es))) := propext Iff.rfl
theorem x_sub : dSub (.int x) (.int y) R = R (.int (x - y)) := propext Iff.rfl
theorem x_mul : dMul (.int x) (.int y) R = (mulOk x y ∧ R (.int (x * y))) := propext Iff.rfl
theorem x_mulL : dMul (.lst ds) (.int y) R = ((-(2 ^ 63) ≤ y ∧ y < 2 ^ 63 ∧ ds.length * y.toNat ≤ sizeLine) ∧ R (.lst (List.replicate y.toNat ds).flatten)) := propext Iff.rfl
theorem x_mulT : dMul (.tup ds) (.int y) R = ((-(2 ^ 63) ≤ y ∧ y < 2 ^ 63 ∧ ds.length * y.toNat ≤ 1000000) ∧ R (.tup (List.replicate y.toNat ds).flatten)) := propext Iff.rfl
theorem x_rep : dRep (.lst ds) (.int y) R = ((-(2 ^ 63) ≤ y ∧ y < 2 ^ 63 ∧ ds.length * y.toNat ≤ sizeLine) ∧ R (.lst (List.replicate y.toNat ds).flatten)) := propext Iff.rfl
theorem x_div : dDiv (.int x) (.int y) R = ((y ≠ 0 ∧ y.natAbs.log2 < 9000) ∧ R (.int (x.fdiv y))) := propext Iff.rfl
theorem x_mod : dMod (.int x) (.int y) R = (y ≠ 0 ∧ R (.int (x.fmod y))) := propext Iff.rfl
theorem x_pow : dPow (.int x) (.int y) R = ((0 ≤ y ∧ y ≤ 1000000 ∧ x.natAbs < 2 ^ 64) ∧ R (.int (x ^ y.toNat))) := propext Iff.rfl
theorem x_neg : dNeg (.int x) R = R (.int (-x)) := propext Iff.rfl
theorem x_eq : dEq d e R = ((okD 60 d = true ∧ okD 60 e = true) ∧ R (.bl (eqD d e))) := propext Iff.rfl
theorem x_ne : dNe d e R = ((okD 60 d = true ∧ okD 60 e = true) ∧ R (.bl (!eqD d e))) := propext Iff.rfl
theorem x_ltI : dLtI (.int x) (.int y) R = R (.bl (decide (x < y))) := propext Iff.rfl
theorem x_leI : dLeI (.int x) (.int y) R = R (.bl (decide (x ≤ y))) := propext Iff.rfl
theorem x_gtI : dGtI (.int x) (.int y) R = R (.bl (decide (y < x))) := propext Iff.rfl
theorem x_geI : dGeI (.int x) (.int y) R = R (.bl (decide (y ≤ x))) := propext Iff.rfl
theorem x_isN : dIsN d .non R = R (.bl d.isN) := propext Iff.rfl
theorem x_notN : dNotN d .non R = R (.bl (!d.isN)) := propext Iff.rfl
theorem x_nN : D.isN .non = true := rfl
theorem x_nI : D.isN (.int x) = false := rfl
theorem x_nB : D.isN (.bl k) = false := rfl
theorem x_nS : D.isN (.str s) = false := rfl
theorem x_nT : D.isN (.tup ds) = false := rfl
theorem x_nL : D.isN (.lst ds) = false := rfl
theorem x_ixT : dIx (.tup ds) (.int x) R = ∃ d, L2.atI ds x = some d ∧ R d := propext Iff.rfl
theorem x_ixP : dIx (.stp ds) (.int x) R = ∃ d, L2.atI ds x = some d ∧ R d := propext Iff.rfl
theorem x_ixL : dIx (.lst ds) (.int x) R = ∃ d, L2.atI ds x = some d ∧ R d := propext Iff.rfl
theorem x_ixS : dIx (.str z) (.int x) R = (z.length ≤ sizeLine ∧ ∃ c, L2.atI z.cps.toList x = some c ∧ R (.str ⟨#[c]⟩)) := propext Iff.rfl
theorem x_len_l : dLen [.lst ds] R = R (.int ds.length) := propext Iff.rfl
theorem x_len_t : dLen [.tup ds] R = R (.int ds.length) := propext Iff.rfl
theorem x_len_c {ns : List Int} : dLen [.scr ns] R = R (.int ns.length) := propext Iff.rfl
theorem x_len_s : dLen [.str z] R = (z.length ≤ sizeLine ∧ R (.int z.length)) := propext Iff.rfl
theorem x_all : dAll [.lst ds] R = ∃ bs : List Bool, ds = bs.map D.bl ∧ R (.bl (bs.all id)) := propext Iff.rfl
theorem x_any : dAny [.lst ds] R = ∃ bs : List Bool, ds = bs.map D.bl ∧ R (.bl (bs.any id)) := propext Iff.rfl
theorem x_abs : dAbs [.int x] R = R (.int (if x < 0 then -x else x)) := propext Iff.rfl
theorem x_max2 : dMax2 [.int x, .int y] R = R (.int (if y > x then y else x)) := propext Iff.rfl
theorem x_min2 : dMin2 [.int x, .int y] R = R (.int (if y < x then y else x)) := propext Iff.rfl
theorem x_toI : dToI [.int x] R = R (.int x) := propext Iff.rfl
theorem x_toB : dToI [.bl k] R = R (.int (if k then 1 else 0)) := propext Iff.rfl
theorem x_tuL : dTuple [.lst ds] R = R (.tup ds) := propext Iff.rfl
theorem x_tuT : dTuple [.tup ds] R = R (.tup ds) := propext Iff.rfl
theorem x_rev : dRev (.lst ds) R = R (.lst ds.reverse) := propext Iff.rfl
theorem x_pSl {f : D → Option Int → Option Int → (D → Prop) → Prop} {lo hi : TOD} : pSl f a lo hi ρ R = a ρ fun x => lo ρ fun l => hi ρ fun u => f x l u R := propext Iff.rfl
theorem x_oN {RO : Option Int → Prop} : oNone ρ RO = RO none := propext Iff.rfl
theorem x_oS {RO : Option Int → Prop} : oSome a ρ RO = a ρ fun x => dInt x fun i => RO (some i) := propext Iff.rfl
theorem x_slL {o v : Option Int} : dSl (.lst ds) o v R = R (.lst (cutD ds o v)) := propext Iff.rfl
theorem x_slT {o v : Option Int} : dSl (.tup ds) o v R = R (.tup (cutD ds o v)) := propext Iff.rfl
theorem x_slC {o v : Option Int} {ns : List Int} : dSl (.scr ns) o v R = R (.lst (cutD (ns.map D.int) o v)) := propext Iff.rfl
theorem x_slS {o v : Option Int} : dSl (.str z) o v R = (z.length ≤ sizeLine ∧ R (.str (cutS z o v))) := propext Iff.rfl
theorem x_slLL {o v : Option Int} : dSlL (.lst ds) o v R = R (.lst (cutD ds o v)) := propext Iff.rfl
theorem x_slLC {o v : Option Int} {ns : List Int} : dSlL (.scr ns) o v R = R (.lst (cutD (ns.map D.int) o v)) := propext Iff.rfl
def dSeq (x : D) (RL : List D → Prop) : Prop := match x with | .lst ds => RL ds | .tup ds => RL ds | .stp ds => RL ds | _ => False
theorem x_sSeq : sSeq a ρ RL = a ρ fun x => dSeq x RL := propext Iff.rfl
theorem x_seqL : dSeq (.lst ds) RL = RL ds := propext Iff.rfl
theorem x_seqP : dSeq (.stp ds) RL = RL ds := propext Iff.rfl
theorem x_seqT : dSeq (.tup ds) RL = RL ds := propext Iff.rfl
def one (ds : List D) (f : D → Prop) : Prop := match ds with | [d] => f d | _ => False
theorem x_one {f : D → Prop} : one [d] f = f d := propext Iff.rfl
theorem x_rng1 : sRng1 pa ρ RL = pa ρ fun ds => one ds fun x => dInt x fun j => small62 j ∧ RL (rangeD 0 j) := propext Iff.rfl
theorem x_rng2 : sRng2 pa ρ RL = pa ρ fun ds => two ds fun x y => dInt x fun i => dInt y fun j => small62 i ∧ small62 j ∧ RL (rangeD i j) := propext Iff.rfl
theorem x_comp {src : TAD} {vs : List Nat} : pComp src g t a vs ρ R = src ρ fun ds => ds.length ≤ sizeLine ∧ compR g t a (wipeD ρ vs) ds [] fun acc => R (.lst acc) := propext Iff.rfl
theorem x_w0 : wipeD ρ [] = ρ := rfl
theorem x_w1 {vs : List Nat} {v : Nat} : wipeD ρ (v :: vs) = (wipeD ρ vs).set v none := rfl
theorem x_start {m : Nat} : startD m ds = ds.map some ++ List.replicate (m - ds.length) none := rfl
theorem x_yes : tYesD ρ RB = RB true := propext Iff.rfl
theorem x_comp0 {acc : List D} : compR g t a ρ [] acc RL = RL acc := propext Iff.rfl
theorem x_comp1 {acc : List D} : compR g t a ρ (d :: ds) acc RL = g d ρ fun ρ1 => t ρ1 fun b => if b = true then a ρ1 fun y => compR g t a ρ ds (acc ++ [y]) RL else compR g t a ρ ds acc RL := propext Iff.rfl
theorem x_for0 : forR g p DD [] ρ = DD.nx ρ := propext Iff.rfl
theorem x_for1 : forR g p DD (d :: ds) ρ = g d ρ fun ρ1 => p ⟨forR g p DD ds, DD.rt, DD.nx, forR g p DD ds⟩ ρ1 := propext Iff.rfl
theorem x_app : sApp i a DD ρ = ownL ρ i fun ds => a ρ fun d => ds.length < sizeLine ∧ DD.nx (ρ.set i (some (.lst (ds ++ [d])))) := propext Iff.rfl
def optL (o : Option (Option D)) (f : List D → Prop) : Prop := match o with | some (some (.lst ds)) => f ds | _ => False
theorem x_own {f : List D → Prop} : ownL ρ i f = optL ρ[i]? f := propext Iff.rfl
theorem x_optL {f : List D → Prop} : optL (some (some (.lst ds))) f = f ds := propext Iff.rfl
theorem x_item : sItem i a b DD ρ = ownL ρ i fun ds => b ρ fun d => a ρ fun k => dInt k fun k => ∃ j, ixN ds.length k = some j ∧ DD.nx (ρ.set i (some (.lst (ds.set j d)))) := propext Iff.rfl
theorem x_draw {m : Int} : wDraw [.deal, .int m] R = ((0 < m ∧ m.natAbs.log2 < 9000) ∧ ∀ r, 0 ≤ r → r < m → R (.int r)) := propext Iff.rfl
theorem x_retDeal : sRetDeal a b DD ρ = a ρ fun x => dInt x fun s => (0 ≤ s ∧ s < 2147483648) ∧ b ρ fun z => match z with
  | .lst ds => ∃ ns : List Int, ds = ns.map D.int ∧ (∀ x ∈ ns, 0 < x) ∧ ns.length ≤ 63 ∧ DD.rt .deal
  | _ => False := propext Iff.rfl
theorem ok_i {n : Nat} : okD n (.int x) = true := by cases n <;> simp [okD]
theorem ok_b {n : Nat} : okD n (.bl k) = true := by cases n <;> simp [okD]
theorem ok_n {n : Nat} : okD n .non = true := by cases n <;> simp [okD]
theorem ok_t {n : Nat} : okD (n + 1) (.tup ds) = okD.okDs n ds := by simp [okD]
theorem ok_l {n : Nat} : okD (n + 1) (.lst ds) = okD.okDs n ds := by simp [okD]
theorem ok_0 {n : Nat} : okD.okDs n [] = true := by cases n <;> simp [okD.okDs]
theorem ok_c {n : Nat} : okD.okDs n (d :: ds) = (okD n d && okD.okDs n ds) := by cases n <;> simp [okD.okDs]
theorem eq_ii : eqD (.int x) (.int y) = decide (x = y) := by simp only [eqD]; exact Bool.beq_eq_decide_eq x y
theorem eq_tt : eqD (.tup ds) (.tup es) = eqD.eqDs ds es := by simp [eqD]
theorem eq_ll : eqD (.lst ds) (.lst es) = eqD.eqDs ds es := by simp [eqD]
theorem eq_0 : eqD.eqDs [] [] = true := by simp [eqD.eqDs]
theorem eq_c : eqD.eqDs (d :: ds) (e :: es) = (eqD d e && eqD.eqDs ds es) := by simp [eqD.eqDs]
theorem eq_ss : eqD (.str s) (.str z) = (s == z) := by simp [eqD]
theorem eq_bb {k' : Bool} : eqD (.bl k) (.bl k') = (k == k') := by simp [eqD]
theorem eq_nn : eqD .non .non = true := by simp [eqD]
mutual
theorem eq_refl : ∀ (d : D) (n : Nat), okD n d = true → eqD d d = true
  | .non, _, _ => by simp [eqD]
  | .bl _, _, _ => by simp [eqD]
  | .int _, _, _ => by simp [eqD]
  | .str _, _, _ => by simp [eqD]
  | .ty _, _, h => by simp [okD] at h
  | .ref _, _, h => by simp [okD] at h
  | .deal, _, h => by simp [okD] at h
  | .feed, _, h => by simp [okD] at h
  | .scr _, _, h => by simp [okD] at h
  | .stp _, _, h => by simp [okD] at h
  | .exc _ _ _ _, _, h => by simp [okD] at h
  | .err _ _, _, h => by simp [okD] at h
  | .dT _ _, _, h => by simp [okD] at h
  | .dK _ _, _, h => by simp [okD] at h
  | .tup ds, n, h => by
    match n, h with
    | 0, h => simp [okD] at h
    | n + 1, h => rw [eq_tt]; exact eqs_refl ds n (by simpa [okD] using h)
  | .lst ds, n, h => by
    match n, h with
    | 0, h => simp [okD] at h
    | n + 1, h => rw [eq_ll]; exact eqs_refl ds n (by simpa [okD] using h)
theorem eqs_refl : ∀ (ds : List D) (n : Nat), okD.okDs n ds = true → eqD.eqDs ds ds = true
  | [], _, _ => eq_0
  | d :: ds, n, h => by
    simp only [okD.okDs, Bool.and_eq_true] at h
    rw [eq_c, eq_refl d n h.1, eqs_refl ds n h.2]
    rfl
end
end
end DL

set_option Elab.async false
set_option linter.all false
set_option maxRecDepth 100000
set_option maxHeartbeats 4000000
namespace DL
open PySem PySem.Spec PyProof.Rows L2
variable [TabsOf]
def zipD (xs ys : List D) : List D := List.zipWith (fun x y => D.tup [x, y]) xs ys
def enumD (xs : List D) : List D := zipD (rangeD 0 xs.length) xs
def dZip (x y : D) (R : List D → Prop) : Prop := match x, y with
  | .lst xs, .lst ys => R (zipD xs ys)
  | .tup xs, .tup ys => R (zipD xs ys)
  | _, _ => False
def twoD (ds : List D) (f : D → D → Prop) : Prop := match ds with | [x, y] => f x y | _ => False
def oneD (ds : List D) (f : D → Prop) : Prop := match ds with | [x] => f x | _ => False
def dEnum (x : D) (R : List D → Prop) : Prop := match x with
  | .lst xs => R (enumD xs)
  | _ => False
def sZip (pa : TAD) : TAD := fun ρ R => pa ρ fun ds => twoD ds fun x y => dZip x y R
def sEnum (pa : TAD) : TAD := fun ρ R => pa ρ fun ds => oneD ds fun x => dEnum x R
theorem oneD_iff {ds : List D} {f : D → Prop} (h : oneD ds f) : ∃ x, ds = [x] ∧ f x := by
  match ds, h with
  | [x], h => exact ⟨x, rfl, h⟩
section
variable {c : Cfg} {own : List Nat} {A : Addr → Prop} {σ : L2.St} {ρ : PEnv} {H : Hp} {v : V} {ds : List D}
theorem RepW.lstK (r : RepW c own A σ ρ H v (.lst ds)) : ∃ a vs, v = .ref a ∧ H a = some (.lst vs) ∧ RepL c (Avd c own A σ ρ) H vs ds ∧ ∀ c2 H2, Step c H c2 H2 → SqL c.K H2 a vs := by
  obtain ⟨a, vs, e, hz, ha, rl⟩ := RepW.lst r
  have hs : ¬ c.S a := by
    rcases r with r | ⟨b, e', o, n1, n2, r⟩
    · rw [e] at r
      cases r with | lst n _ => exact fun z => n.2.1 (.inr (.inl z))
    · rw [e] at e'; cases e'; exact n2
  exact ⟨a, vs, e, ha, rl, fun c2 H2 t => .inl (.inl (t.keep a _ hs ha))⟩
theorem RepW.tupK (r : RepW c own A σ ρ H v (.tup ds)) : ∃ a vs, v = .ref a ∧ SqT c.K H a vs ∧ RepL c (Avd c own A σ ρ) H vs ds ∧ ∀ c2 H2, Step c H c2 H2 → SqT c.K H2 a vs := by
  obtain ⟨a, vs, e, n, rl⟩ := RepW.tup r
  refine ⟨a, vs, e, n.sq, rl, fun c2 H2 t => ?_⟩
  exact .inl (.inl (t.keep a _ (fun z => n.2.1 (avdS a z)) n.2.2))
theorem RepW.stpK (r : RepW c own A σ ρ H v (.stp ds)) : ∃ a vs, v = .ref a ∧ SqT c.K H a vs ∧ RepL c (Avd c own A σ ρ) H vs ds ∧ ∀ c2 H2, Step c H c2 H2 → SqT c.K H2 a vs := by
  obtain ⟨a, vs, e, n, rl⟩ := RepW.stp r
  exact ⟨a, vs, e, n.sq, rl, fun c2 H2 t => n.stay avdS t⟩
theorem Rep.stpK (r : Rep c (Avd c own A σ ρ) H v (.stp ds)) : ∃ a vs, v = .ref a ∧ SqT c.K H a vs ∧ RepL c (Avd c own A σ ρ) (DL.mask own σ ρ H) vs ds ∧ ∀ c2 H2, Step c (DL.mask own σ ρ H) c2 H2 → SqT c.K H2 a vs := by
  cases r with
  | stp n rl => exact ⟨_, _, rfl, n.sq, RepL.mask rl, fun c2 H2 t => (n.mv (c' := c) rfl fun b o n e => ⟨n, mask_of (fun z => n (.inr (.inr z))) e⟩).stay avdS t⟩
theorem Rep.lstK (r : Rep c (Avd c own A σ ρ) H v (.lst ds)) : ∃ a vs, v = .ref a ∧ H a = some (.lst vs) ∧ RepL c (Avd c own A σ ρ) (DL.mask own σ ρ H) vs ds ∧ ∀ c2 H2, Step c (DL.mask own σ ρ H) c2 H2 → SqL c.K H2 a vs := by
  cases r with
  | lst n rl => exact ⟨_, _, rfl, n.2.2, RepL.mask rl, fun c2 H2 t => .inl (.inl (t.keep _ _ (fun z => n.2.1 (.inr (.inl z))) (mask_of (fun z => n.2.1 (.inr (.inr z))) n.2.2)))⟩
theorem Rep.tupK (r : Rep c (Avd c own A σ ρ) H v (.tup ds)) : ∃ a vs, v = .ref a ∧ SqT c.K H a vs ∧ RepL c (Avd c own A σ ρ) (DL.mask own σ ρ H) vs ds ∧ ∀ c2 H2, Step c (DL.mask own σ ρ H) c2 H2 → SqT c.K H2 a vs := by
  cases r with
  | tup n rl =>
    refine ⟨_, _, rfl, n.sq, RepL.mask rl, fun c2 H2 t => ?_⟩
    exact .inl (.inl (t.keep _ _ (fun z => n.2.1 (avdS _ z)) (mask_of (fun z => n.2.1 (.inr (.inr z))) n.2.2)))
end
theorem x_sZip {pa : TAD} {ρ : PEnv} {R : List D → Prop} : sZip pa ρ R = pa ρ fun ds => twoD ds fun x y => dZip x y R := propext Iff.rfl
theorem x_sEnum {pa : TAD} {ρ : PEnv} {R : List D → Prop} : sEnum pa ρ R = pa ρ fun ds => oneD ds fun x => dEnum x R := propext Iff.rfl
theorem x_twoD {x y : D} {f : D → D → Prop} : twoD [x, y] f = f x y := propext Iff.rfl
theorem x_oneD {x : D} {f : D → Prop} : oneD [x] f = f x := propext Iff.rfl
theorem x_zipL {xs ys : List D} {R : List D → Prop} : dZip (.lst xs) (.lst ys) R = R (zipD xs ys) := propext Iff.rfl
theorem x_zipT {xs ys : List D} {R : List D → Prop} : dZip (.tup xs) (.tup ys) R = R (zipD xs ys) := propext Iff.rfl
theorem x_zc {x y : D} {xs ys : List D} : zipD (x :: xs) (y :: ys) = .tup [x, y] :: zipD xs ys := rfl
theorem x_zn : zipD [] [] = [] := rfl
theorem x_enL {xs : List D} {R : List D → Prop} : dEnum (.lst xs) R = R (enumD xs) := propext Iff.rfl
end DL

set_option Elab.async false
set_option linter.all false
set_option maxRecDepth 100000
set_option maxHeartbeats 4000000
namespace DLS
open PySem PySem.Spec PyProof.Rows L2
def pk (l : List Int) : Int × Int := (l.getD 0 0, l.getD 1 0)
section
variable {P : Program} {w : World} {A : Around} {E : Value → Shared → Prop} {s : Shared}
open Classical in
noncomputable def kv (L : List (Addr × List Int)) (v : Value) : Int × Int := if h : ∃ q, q ∈ L ∧ v = Value.ref q.1 then pk h.choose.2 else (0, 0)
end
end DLS
namespace DL
open PySem PySem.Spec PyProof.Rows L2 DLS
variable [TabsOf]
def prD (p : Int × Int) : D := .tup [.int p.1, .int p.2]
def ltI2 (p q : Int × Int) : Prop := p.1 < q.1 ∨ (p.1 = q.1 ∧ p.2 < q.2)
instance (p q : Int × Int) : Decidable (ltI2 p q) := by unfold ltI2; infer_instance
end DL

set_option Elab.async false
set_option linter.all false
set_option maxRecDepth 100000
set_option maxHeartbeats 4000000
namespace DLZ
open PySem PySem.Spec PyProof.Rows L2
def IsB (b : Bool) (h : Heap) (l : Addr) (items : Array Value) : Prop := if b = true then h.IsList l items else h.IsTuple l items
def ItB (b : Bool) (h : Heap) (it l : Addr) (i : Nat) : Prop := if b = true then h.IsListIter it l i else h.IsTupleIter it l i
def SqB (K : PySem.W.Frag) (b : Bool) (H : Hp) (l : Addr) (xs : List V) : Prop := if b = true then SqL K H l xs else SqT K H l xs
theorem IsB.keep {b : Bool} {h h' : Heap} {l : Addr} {items : Array Value} (x : IsB b h l items) (k : ∀ o, h.get? l = some o → h'.get? l = some o) : IsB b h' l items := by
  cases b
  · obtain ⟨o, ho, r⟩ := (show h.IsTuple l items from x)
    exact (show h'.IsTuple l items from ⟨o, k o ho, r⟩)
  · obtain ⟨o, ho, r⟩ := (show h.IsList l items from x)
    exact (show h'.IsList l items from ⟨o, k o ho, r⟩)
theorem ItB.keep {b : Bool} {h h' : Heap} {it l : Addr} {i : Nat} (x : ItB b h it l i) (k : ∀ o, h.get? it = some o → h'.get? it = some o) : ItB b h' it l i := by
  cases b
  · exact (show h'.IsTupleIter it l i from Heap.IsTupleIter.at (show h.IsTupleIter it l i from x) k)
  · exact (show h'.IsListIter it l i from Heap.IsListIter.at (show h.IsListIter it l i from x) k)
theorem ItB.obj {b : Bool} {h : Heap} {it l : Addr} {i : Nat} (x : ItB b h it l i) : ∃ o, h.get? it = some o ∧ ∀ v, o.data ≠ .cell v := by
  cases b
  · obtain ⟨o, ho, _, hd⟩ := (show h.IsTupleIter it l i from x)
    exact ⟨o, ho, fun v q => by rw [hd] at q; cases q⟩
  · obtain ⟨o, ho, _, hd⟩ := (show h.IsListIter it l i from x)
    exact ⟨o, ho, fun v q => by rw [hd] at q; cases q⟩
section
variable {X : Cx} {pins : List (Addr × Obj)} {σ : L2.St} {H : Hp} {s : Shared}
theorem IsB.lt {b : Bool} {h : Heap} {a : Addr} {items : Array Value} (x : IsB b h a items) : a < h.objs.size := by
  cases b
  · obtain ⟨o, ho, _⟩ := (show h.IsTuple a items from x); exact Heap.lt_size ho
  · obtain ⟨o, ho, _⟩ := (show h.IsList a items from x); exact Heap.lt_size ho
end
end DLZ
namespace DL
open PySem PySem.Spec PyProof.Rows L2 DLZ
variable [TabsOf]
def dZipM (x y : D) (R : List D → Prop) : Prop := dSeq x fun xs => dSeq y fun ys => R (zipD xs ys)
def sZipM (pa : TAD) : TAD := fun ρ R => pa ρ fun ds => twoD ds fun x y => dZipM x y R
theorem dSeq_iff {x : D} {R : List D → Prop} (h : dSeq x R) : ∃ xs, (x = .lst xs ∨ x = .tup xs ∨ x = .stp xs) ∧ R xs := by
  unfold dSeq at h
  split at h
  · exact ⟨_, .inl rfl, h⟩
  · exact ⟨_, .inr (.inl rfl), h⟩
  · exact ⟨_, .inr (.inr rfl), h⟩
  · exact h.elim
section
variable {c : Cfg} {own : List Nat} {A : Addr → Prop} {σ : L2.St} {ρ : PEnv} {H : Hp} {v : V} {x : D} {ds : List D}
theorem RepW.seqK (h : x = .lst ds ∨ x = .tup ds ∨ x = .stp ds) (r : RepW c own A σ ρ H v x) : ∃ b a vs, v = .ref a ∧ SqB c.K b H a vs ∧ RepL c (Avd c own A σ ρ) H vs ds ∧ ∀ c2 H2, Step c H c2 H2 → SqB c.K b H2 a vs := by
  rcases h with rfl | rfl | rfl
  · obtain ⟨a, us, e, ha, rl, k⟩ := RepW.lstK r
    exact ⟨true, a, us, e, .inl (.inl ha), rl, k⟩
  · obtain ⟨a, us, e, ha, rl, k⟩ := RepW.tupK r
    exact ⟨false, a, us, e, ha, rl, k⟩
  · obtain ⟨a, us, e, ha, rl, k⟩ := RepW.stpK r
    exact ⟨false, a, us, e, ha, rl, k⟩
theorem Rep.seqK (h : x = .lst ds ∨ x = .tup ds ∨ x = .stp ds) (r : Rep c (Avd c own A σ ρ) H v x) : ∃ b a vs, v = .ref a ∧ SqB c.K b H a vs ∧ RepL c (Avd c own A σ ρ) (DL.mask own σ ρ H) vs ds ∧ ∀ c2 H2, Step c (DL.mask own σ ρ H) c2 H2 → SqB c.K b H2 a vs := by
  rcases h with rfl | rfl | rfl
  · obtain ⟨a, us, e, ha, rl, k⟩ := Rep.lstK r
    exact ⟨true, a, us, e, .inl (.inl ha), rl, k⟩
  · obtain ⟨a, us, e, ha, rl, k⟩ := Rep.tupK r
    exact ⟨false, a, us, e, ha, rl, k⟩
  · obtain ⟨a, us, e, ha, rl, k⟩ := Rep.stpK r
    exact ⟨false, a, us, e, ha, rl, k⟩
end
theorem x_sZipM {pa : TAD} {ρ : PEnv} {R : List D → Prop} : sZipM pa ρ R = pa ρ fun ds => twoD ds fun x y => dZipM x y R := propext Iff.rfl
theorem x_zipM {x y : D} {R : List D → Prop} : dZipM x y R = dSeq x fun xs => dSeq y fun ys => R (zipD xs ys) := propext Iff.rfl
end DL

set_option Elab.async false
set_option linter.all false
set_option maxRecDepth 100000
set_option maxHeartbeats 4000000
namespace DL
open PySem PySem.Spec PyProof.Rows L2 DLS
variable [TabsOf]
def dSum (ds : List D) (R : D → Prop) : Prop := oneD ds fun x => match x with | .lst es => ∃ ns : List Int, es = ns.map D.int ∧ R (.int ns.sum) | _ => False
def dMax (ds : List D) (R : D → Prop) : Prop := oneD ds fun x => match x with | .lst es => ∃ ns : List Int, es = ns.map D.int ∧ 0 < ns.length ∧ ∀ m ∈ ns, (∀ y ∈ ns, y ≤ m) → R (.int m) | _ => False
def dMin (ds : List D) (R : D → Prop) : Prop := oneD ds fun x => match x with | .lst es => ∃ ns : List Int, es = ns.map D.int ∧ 0 < ns.length ∧ ∀ m ∈ ns, (∀ y ∈ ns, m ≤ y) → R (.int m) | _ => False
section
variable {x : D} {es : List D} {R : D → Prop}
theorem x_sum : dSum [.lst es] R = ∃ ns : List Int, es = ns.map D.int ∧ R (.int ns.sum) := propext Iff.rfl
theorem x_max : dMax [.lst es] R = ∃ ns : List Int, es = ns.map D.int ∧ 0 < ns.length ∧ ∀ m ∈ ns, (∀ y ∈ ns, y ≤ m) → R (.int m) := propext Iff.rfl
theorem x_min : dMin [.lst es] R = ∃ ns : List Int, es = ns.map D.int ∧ 0 < ns.length ∧ ∀ m ∈ ns, (∀ y ∈ ns, m ≤ y) → R (.int m) := propext Iff.rfl
end
end DL

set_option Elab.async false
set_option linter.all false
set_option maxRecDepth 100000
set_option maxHeartbeats 4000000
namespace DL
open PySem PySem.Spec PyProof.Rows L2
variable [TabsOf]
section
variable {X : Cx} {own : List Nat} {fr : Bool} {ko : Kd} {pe pk : TED}
def sPop (i : Nat) : TSD := fun DD ρ => ownL ρ i fun ds => ds ≠ [] ∧ DD.nx (ρ.set i (some (.lst ds.dropLast)))
def sRevs (i : Nat) : TSD := fun DD ρ => ownL ρ i fun ds => DD.nx (ρ.set i (some (.lst ds.reverse)))
def dLst (x : D) (f : List D → Prop) : Prop := match x with | .lst es => f es | _ => False
def sExt (i : Nat) (pe : TED) : TSD := fun DD ρ => ownL ρ i fun ds => pe ρ fun d => dLst d fun es => ds.length + es.length ≤ sizeLine ∧ DD.nx (ρ.set i (some (.lst (ds ++ es))))
def sIns (i : Nat) (pk pe : TED) : TSD := fun DD ρ => ownL ρ i fun ds => pk ρ fun k => dInt k fun k => pe ρ fun d => (ds.length < sizeLine ∧ 0 ≤ k ∧ k < 2 ^ 63) ∧ DD.nx (ρ.set i (some (.lst (ds.take k.toNat ++ [d] ++ ds.drop k.toNat))))
end
section
variable {i : Nat} {a b : TED} {DD : DEnds} {ρ : PEnv} {es : List D} {f : List D → Prop}
theorem x_pop : sPop i DD ρ = ownL ρ i fun ds => ds ≠ [] ∧ DD.nx (ρ.set i (some (.lst ds.dropLast))) := propext Iff.rfl
theorem x_revs : sRevs i DD ρ = ownL ρ i fun ds => DD.nx (ρ.set i (some (.lst ds.reverse))) := propext Iff.rfl
theorem x_ext : sExt i a DD ρ = ownL ρ i fun ds => a ρ fun d => dLst d fun es => ds.length + es.length ≤ sizeLine ∧ DD.nx (ρ.set i (some (.lst (ds ++ es)))) := propext Iff.rfl
theorem x_ins : sIns i a b DD ρ = ownL ρ i fun ds => a ρ fun k => dInt k fun k => b ρ fun d => (ds.length < sizeLine ∧ 0 ≤ k ∧ k < 2 ^ 63) ∧ DD.nx (ρ.set i (some (.lst (ds.take k.toNat ++ [d] ++ ds.drop k.toNat)))) := propext Iff.rfl
theorem x_dLst : dLst (.lst es) f = f es := propext Iff.rfl
end
end DL

set_option Elab.async false
set_option linter.all false
set_option maxRecDepth 100000
set_option maxHeartbeats 4000000
namespace DL
open PySem PySem.Spec PyProof.Rows L2 DLZ
variable [TabsOf]
def dEnumM (x : D) (R : List D → Prop) : Prop := dSeq x fun xs => R (enumD xs)
def sEnumM (pa : TAD) : TAD := fun ρ R => pa ρ fun ds => oneD ds fun x => dEnumM x R
theorem x_sEnumM {pa : TAD} {ρ : PEnv} {R : List D → Prop} : sEnumM pa ρ R = pa ρ fun ds => oneD ds fun x => dEnumM x R := propext Iff.rfl
theorem x_enM {x : D} {R : List D → Prop} : dEnumM x R = dSeq x fun xs => R (enumD xs) := propext Iff.rfl
end DL

set_option Elab.async false
set_option linter.all false
set_option maxRecDepth 100000
set_option maxHeartbeats 4000000
namespace DSet
open PySem PySem.Spec PyProof.Rows L2
def five : Nat → Nat
  | 0 => 0
  | n + 1 => five n * 5 + 1
theorem five_pow : ∀ n, 4 * five n + 1 = 5 ^ n
  | 0 => rfl
  | n + 1 => by
    have ih := five_pow n
    rw [Nat.pow_succ, ← ih]
    show 4 * (five n * 5 + 1) + 1 = _
    omega
theorem five_add (a : Nat) : ∀ b, five (a + b) = five a * 5 ^ b + five b
  | 0 => by simp [five]
  | b + 1 => by
    show five (a + b) * 5 + 1 = five a * 5 ^ (b + 1) + (five b * 5 + 1)
    rw [five_add a b, Nat.pow_succ, Nat.add_mul, Nat.mul_assoc]
    omega
theorem five_two : ∀ k, ∃ q, five (2 ^ k) = 2 ^ k * (2 * q + 1)
  | 0 => ⟨0, rfl⟩
  | k + 1 => by
    obtain ⟨q, e⟩ := five_two k
    have e2 : (2 : Nat) ^ (k + 1) = 2 ^ k + 2 ^ k := by rw [Nat.pow_succ]; omega
    have e5 := five_pow (2 ^ k)
    refine ⟨q * (2 * five (2 ^ k) + 1) + five (2 ^ k), ?_⟩
    rw [e2, five_add, ← e5]
    generalize five (2 ^ k) = s at *
    subst e
    generalize 2 ^ k = N
    grind
theorem five_hits : ∀ k j, j < 2 ^ k → ∃ n, n < 2 ^ k ∧ five n % 2 ^ k = j
  | 0, j, h => ⟨0, by decide, by have : j = 0 := by simpa using h
                                 subst this; rfl⟩
  | k + 1, j, h => by
    have hp : 0 < 2 ^ k := Nat.pow_pos (by decide)
    obtain ⟨n, hn, e⟩ := five_hits k (j % 2 ^ k) (Nat.mod_lt _ hp)
    obtain ⟨q, eq⟩ := five_two k
    have e5 := five_pow (2 ^ k)
    have ea := five_add n (2 ^ k)
    rw [Nat.pow_succ] at h ⊢
    generalize 2 ^ k = M at *
    have hj : j = j % M + M * (j / M) := (Nat.mod_add_div j M).symm
    have hj2 : j / M < 2 := Nat.div_lt_of_lt_mul (by omega)
    have split : ∀ x, x % (M * 2) = x % M + M * (x / M % 2) := fun x => Nat.mod_mul
    by_cases c : five n / M % 2 = j / M
    · exact ⟨n, by omega, by rw [split, e, c]; exact hj.symm⟩
    · refine ⟨n + M, by omega, ?_⟩
      have e6 : five (n + M) = five n + M + (M * 2) * (2 * five n * (2 * q + 1) + q) := by
        rw [ea, ← e5, eq]
        grind
      rw [e6, Nat.add_mul_mod_self_left, split, Nat.add_mod_right, e, Nat.add_div_right _ hp]
      have : (five n / M + 1) % 2 = j / M := by
        generalize five n / M = u at c ⊢
        generalize j / M = v at c hj2 ⊢
        omega
      rw [this]
      exact hj.symm
def MaskG (m : Nat) : Prop := ∃ k, 3 ≤ k ∧ k ≤ 15 ∧ m + 1 = 2 ^ k
theorem lcg_five (m : Nat) : ∀ n, lcgN m n = five n % (m + 1)
  | 0 => by simp [lcgN, five]
  | n + 1 => by
    show (lcgN m n * 5 + 1) % (m + 1) = (five n * 5 + 1) % (m + 1)
    rw [lcg_five m n, Nat.add_mod, Nat.mul_mod, Nat.mod_mod, ← Nat.mul_mod, ← Nat.add_mod]
theorem ways_all {m : Nat} (hm : MaskG m) {i j : Nat} (hi : i ≤ m) (hj : j ≤ m) : ∃ k, k ≤ m ∧ lcgI m i k = j := by
  obtain ⟨k, _, _, e⟩ := hm
  obtain ⟨a, ha, ea⟩ := five_hits k i (by omega)
  obtain ⟨b, hb, eb⟩ := five_hits k j (by omega)
  rw [← e, ← lcg_five] at ea eb
  rcases Nat.lt_or_ge b a with c | c
  · refine ⟨b + (m + 1) - a, by omega, ?_⟩
    rw [← ea, lcgN_add, show a + (b + (m + 1) - a) = b + (m + 1) by omega, lcg_five, five_add]
    obtain ⟨q, eq⟩ := five_two k
    have e5 := five_pow (2 ^ k)
    rw [← e] at eq e5
    rw [← e5, eq, ← eb, lcg_five]
    have : five b * (4 * ((m + 1) * (2 * q + 1)) + 1) + (m + 1) * (2 * q + 1) = five b + (m + 1) * (five b * 4 * (2 * q + 1) + (2 * q + 1)) := by grind
    rw [this, Nat.add_mul_mod_self_left]
  · refine ⟨b - a, by omega, ?_⟩
    rw [← ea, lcgN_add, show a + (b - a) = b by omega, eb]
theorem runs_all {m : Nat} (hm : MaskG m) (h : Int) {j : Nat} (hj : j ≤ m) : ∃ n, n ≤ m + 12 ∧ runI m (SetTable.bits h) n = j := by
  obtain ⟨k, hk, e⟩ := ways_all hm (runI_le m (SetTable.bits h) 12) hj
  exact ⟨12 + k, by omega, (runI_tail (bits_lt h) k).trans e⟩
theorem meets_all {m : Nat} (hm : MaskG m) (h : Int) {j : Nat} (hj : j ≤ m) : ∃ k, k < 10 * SetTable.turns m ∧ way m h k = j := by
  obtain ⟨n, hn, e⟩ := runs_all hm h hj
  obtain ⟨k, hk, e2⟩ := run_nth m (SetTable.bits h) n
  exact ⟨k, by unfold SetTable.turns; omega, (congrArg SetTable.Probe.j e2).trans e⟩
structure Tab (t : SetTable) (hs : List Int) : Prop where
  ris : Ris t.place.toList
  dm : t.dummies = #[]
  sz : t.place.size = hs.length
  mg : MaskG t.mask
  inn : ∀ x ∈ t.place.toList, x ≤ t.mask
  way : ∀ (i : Nat) (h : Int) (j : Nat), hs[i]? = some h → t.place.toList[i]? = some j → ∃ k, L2.way t.mask h k = j ∧ ∀ k', k' < k → L2.way t.mask h k' ∈ t.place.toList
theorem Tab.stop {t : SetTable} {hs : List Int} (T : Tab t hs) (hl : hs.length ≤ t.mask) (h : Int) : ∃ K, K < 10 * SetTable.turns t.mask ∧ L2.way t.mask h K ∉ t.place.toList ∧ ∀ k, k < K → L2.way t.mask h k ∈ t.place.toList := by
  obtain ⟨j, hj, hn⟩ := st_missing t.place.toList (t.mask + 1) (by rw [Array.length_toList, T.sz]; omega)
  obtain ⟨k, hk, rfl⟩ := meets_all T.mg h (Nat.le_of_lt_succ hj)
  obtain ⟨K, a, b, c⟩ := st_least (p := fun k => L2.way t.mask h k ∉ t.place.toList) k hn
  exact ⟨K, by omega, b, fun k' hk' => Classical.byContradiction fun z => c k' hk' z⟩
theorem Tab.ahead {t : SetTable} {hs : List Int} (T : Tab t hs) {h : Int} {K i j : Nat} (hK : L2.way t.mask h K ∉ t.place.toList) (hi : hs[i]? = some h) (hj : t.place.toList[i]? = some j) : ∃ k, k < K ∧ L2.way t.mask h k = j := by
  obtain ⟨k, e, hb⟩ := T.way i h j hi hj
  refine ⟨k, Classical.byContradiction fun z => ?_, e⟩
  rcases Nat.lt_or_ge K k with c | c
  · exact hK (hb K c)
  · have : k = K := by omega
    subst this
    exact hK (e ▸ List.mem_of_getElem? hj)
end DSet

set_option Elab.async false
set_option linter.all false
set_option maxRecDepth 100000
set_option maxHeartbeats 4000000
namespace DSet
open PySem PySem.Spec PyProof.Rows L2
mutual
def numK : NestedKey → Bool
  | .num _ => true
  | .tup ks => numKs ks
  | _ => false
def numKs : List NestedKey → Bool
  | [] => true
  | k :: ks => numK k && numKs ks
end
def IsK (h : Heap) (k : NestedKey) (b : Addr) : Prop := NestedIs h k (.ref b) ∧ k.depth ≤ 8 ∧ numK k = true
theorem IsK.inj {h : Heap} {x y : NestedKey} {b : Addr} (hx : IsK h x b) (hy : IsK h y b) : x = y := NestedIs.inj _ _ _ hx.1 hy.1
theorem IsK.keep {h h' : Heap} {k : NestedKey} {b : Addr} (x : IsK h k b) (hk : ∀ c o, h.get? c = some o → h'.get? c = some o) : IsK h' k b := ⟨NestedIs.at (fun a o vs n e _ => hk a o e) _ _ x.1, x.2⟩
theorem IsK.same {h h' : Heap} {k : NestedKey} {a b : Addr} {o : Obj} {es : Array (Int × Value)} {ep : Nat} {t : SetTable} (x : IsK h k b) (ho : h.get? a = some o) (hd : o.data = .set es ep t) (hs : Heap.SameBut a h h') : IsK h' k b :=
  ⟨NestedIs.at (fun c o' vs n e d => by
    rcases Classical.em (c = a) with z | z
    · rw [z, ho] at e
      cases e
      rw [hd] at d
      cases d
    · exact (hs.2 c z).trans e) _ _ x.1, x.2⟩
section
variable {P : Program} {w : World} {A : Around} {E : Value → Shared → Prop} {s : Shared}
def HashAt (P : Program) (w : World) (n : Nat) (s : Shared) (v : Value) : Prop := ∀ (A : Around) (E : Value → Shared → Prop) (Q : Bool → Shared → Prop), Q true s → wpAny (model P w) A (hashByValue n v) Q E s
def NoCls (P : Program) (w : World) (n : Nat) (s : Shared) (v : Value) : Prop := ∀ (A : Around) (E : Value → Shared → Prop) (Q : Bool → Shared → Prop), Q false s → wpAny (model P w) A (ofAClassStatement n v) Q E s
theorem HashAt.tuple {n m : Nat} {a : Addr} {o : Obj} {vs : Array Value} (ho : s.heap.get? a = some o) (hc : o.cls = .type "tuple") (hd : o.data = .seq vs m) (hq : ∀ v ∈ vs.toList, HashAt P w n s v) : HashAt P w (n + 1) s (.ref a) := fun A E Q h => by
  unfold hashByValue
  refine wpAny_bind (wpAny_specialOf (⟨o, ho, hc⟩ : s.TypeIs (.ref a) "tuple") F.slot_tuple_hash.lookup ?_)
  show wpAny _ _ (seqItems? (.ref a) >>= _) _ _ s
  refine wpAny_bind (wpAny_seqItems ho hd (wpAny_bind ?_))
  show wpAny _ _ (forIn vs _ _) _ _ s
  rw [← Array.forIn_toList]
  refine wpAny_forIn_list _ (fun rest r s' => r.1 = none ∧ s' = s ∧ ∀ v ∈ rest, HashAt P w n s v) _ ?_ ?_ _ _ ⟨rfl, rfl, hq⟩
  · rintro v rest r s' ⟨hr, rfl, hall⟩
    refine wpAny_bind (hall v List.mem_cons_self _ _ _ ?_)
    simp only [Bool.not_true, Bool.false_eq_true, if_false]
    exact wpAny_pure ⟨rfl, rfl, fun u hu' => hall u (List.mem_cons_of_mem _ hu')⟩
  · rintro ⟨r1, r2⟩ s' ⟨hr, rfl, _⟩
    obtain rfl : r1 = none := hr
    exact wpAny_pure h
theorem NoCls.tuple {n m : Nat} {a : Addr} {o : Obj} {vs : Array Value} (ho : s.heap.get? a = some o) (hc : o.cls = .type "tuple") (hd : o.data = .seq vs m) (hq : ∀ v ∈ vs.toList, NoCls P w n s v) : NoCls P w (n + 1) s (.ref a) := fun A E Q h => by
  unfold ofAClassStatement
  refine wpAny_bind (wpAny_typeOf (⟨o, ho, hc⟩ : s.TypeIs (.ref a) "tuple") ?_)
  dsimp only
  have e : (("tuple" : String) == "tuple") = true := by decide
  simp only [e, if_true, Bool.not_true, Bool.false_eq_true, if_false]
  try refine wpAny_bind (wpAny_pure ?_)
  try simp only [Bool.not_true, Bool.false_eq_true, if_false]
  show wpAny _ _ (seqItems? (.ref a) >>= _) _ _ s
  refine wpAny_bind (wpAny_seqItems ho hd ?_)
  dsimp only
  refine wpAny_bind ?_
  show wpAny _ _ (forIn vs _ _) _ _ s
  rw [← Array.forIn_toList]
  refine wpAny_forIn_list _ (fun rest r s' => r.1 = none ∧ s' = s ∧ ∀ v ∈ rest, NoCls P w n s v) _ ?_ ?_ _ _ ⟨rfl, rfl, hq⟩
  · rintro v rest r s' ⟨hr, rfl, hall⟩
    refine wpAny_bind (hall v List.mem_cons_self _ _ _ ?_)
    simp only [Bool.false_eq_true, if_false]
    exact wpAny_pure ⟨rfl, rfl, fun u hu' => hall u (List.mem_cons_of_mem _ hu')⟩
  · rintro ⟨r1, r2⟩ s' ⟨hr, rfl, _⟩
    obtain rfl : r1 = none := hr
    exact wpAny_pure h
theorem IsK.quiet {k : NestedKey} {b : Addr} (x : IsK s.heap k b) {Q : Bool → Shared → Prop} (h : Q true s) : wpAny (model P w) A (eqIsQuiet 8 (.ref b)) Q E s := quiet_key k _ 8 s x.1 x.2.1 A E Q h
abbrev KL := List (Addr × NestedKey)
def entsOf (w : World) (L : KL) : List (Int × Value) := L.map fun p => (p.2.hash w, Value.ref p.1)
structure SetN (w : World) (h : Heap) (a : Addr) (L : KL) (es : Array (Int × Value)) (ep : Nat) (t : SetTable) : Prop where
  ob : ∃ o, h.get? a = some o ∧ o.ExactSet ∧ o.data = .set es ep t
  ents : es.toList = entsOf w L
  tab : Tab t (L.map fun p => p.2.hash w)
  nd : (L.map (·.2)).Nodup
  keys : ∀ p ∈ L, IsK h p.2 p.1
  plain : t.plain = true
  led : w.params.followText "set-order" = true ∨ t.led = true
  room : L.length * 5 < t.mask * 3
  few : L.length ≤ 6000
variable {a : Addr} {L : KL} {es : Array (Int × Value)} {ep : Nat} {t : SetTable}
structure GotN (ks : KL) (i : Nat) (L : KL) : Prop where
  sub : ∀ p ∈ L, p ∈ ks.take i
  all : ∀ p ∈ ks.take i, p.2 ∈ L.map (·.2)
  len : L.length ≤ i
theorem GotN.next {ks L L' : KL} {i : Nat} {x : Addr × NestedKey} (g : GotN ks i L) (h : ks[i]? = some x) (c1 : x.2 ∈ L.map (·.2) → L' = L) (c2 : x.2 ∉ L.map (·.2) → L'.Perm (x :: L)) : GotN ks (i + 1) L' := by
  have et := take_next h
  rcases Classical.em (x.2 ∈ L.map (·.2)) with c | c
  · rw [c1 c]
    refine ⟨fun p hp => by rw [et]; exact List.mem_append_left _ (g.sub p hp), fun p hp => ?_, Nat.le_succ_of_le g.len⟩
    rw [et] at hp
    rcases List.mem_append.mp hp with z | z
    · exact g.all p z
    · rw [List.mem_singleton.mp z]; exact c
  · have pm := c2 c
    refine ⟨fun p hp => ?_, fun p hp => ?_, by rw [pm.length_eq]; exact Nat.succ_le_succ g.len⟩
    · rw [et]
      rcases List.mem_cons.mp (pm.mem_iff.mp hp) with e | z
      · rw [e]; simp
      · exact List.mem_append_left _ (g.sub p z)
    · rw [(pm.map (·.2)).mem_iff, List.map_cons]
      rw [et] at hp
      rcases List.mem_append.mp hp with z | z
      · exact List.mem_cons_of_mem _ (g.all p z)
      · rw [List.mem_singleton.mp z]; exact List.mem_cons_self
theorem SetN.keep {h h' : Heap} (R : SetN w h a L es ep t) (ha : ∀ o, h.get? a = some o → h'.get? a = some o) (ht : ∀ p ∈ L, IsK h' p.2 p.1) : SetN w h' a L es ep t := by
  obtain ⟨o, ho, r⟩ := R.ob
  exact ⟨⟨o, ha o ho, r⟩, R.ents, R.tab, R.nd, ht, R.plain, R.led, R.room, R.few⟩
def newS (w : World) : Obj := { cls := .type "set", dict := none, data := .set #[] 0 (.fresh 0 0 (!w.params.followText "set-order")) }
theorem SetN.new {h : Heap} {a : Addr} (ho : h.get? a = some (newS w)) : SetN w h a [] #[] 0 (.fresh 0 0 (!w.params.followText "set-order")) where
  ob := ⟨_, ho, ⟨rfl, rfl, rfl⟩, rfl⟩
  ents := rfl
  tab := ⟨List.Pairwise.nil, rfl, rfl, ⟨3, by decide, by decide, rfl⟩, fun x hx => (by cases hx), fun i h j hi => (by simp at hi)⟩
  nd := List.nodup_nil
  keys := fun p hp => (by cases hp)
  plain := rfl
  led := by
    show _ ∨ (!w.params.followText "set-order") = true
    cases w.params.followText "set-order"
    · exact .inr rfl
    · exact .inl rfl
  room := by show 0 * 5 < 7 * 3; decide
  few := Nat.zero_le _
end
end DSet

set_option Elab.async false
set_option linter.all false
set_option maxRecDepth 100000
set_option maxHeartbeats 4000000
namespace PySem.SeqAt
open PySem PySem.Calls PyProof.Rows
end PySem.SeqAt
namespace PySem.W
open PySem PySem.Calls PyProof.Rows PySem.SeqAt
section
variable {prog : Program} {w : World} {A : Around} {E : Value → Shared → Prop} {s : Shared} {M : Model}
def SortableE (ds : List PyData) : Prop := Sortable ds ∨ ∀ d ∈ ds, ∃ xs, d = .tuple xs
variable {β : Type} {vs : List Value} {bs : List β} {enc : β → PyData} {R : Value → β → Prop}
end
end PySem.W
namespace DL
open PySem PySem.Spec PyProof.Rows L2 DSet
def numD : Nat → D → Bool
  | _, .int _ => true
  | n, .tup ds => match n with | 0 => false | n + 1 => numDs n ds
  | _, _ => false
where numDs : Nat → List D → Bool
  | _, [] => true
  | n, d :: ds => numD n d && numDs n ds
theorem numDs_iff {n : Nat} : ∀ {ds : List D}, numD.numDs n ds = true ↔ ∀ d ∈ ds, numD n d = true
  | [] => by simp [numD.numDs]
  | d :: ds => by simp [numD.numDs, numDs_iff (ds := ds)]
theorem numD_cases {n : Nat} {d : D} (h : numD n d = true) : (∃ i, d = .int i) ∨ ∃ m ds, n = m + 1 ∧ d = .tup ds ∧ ∀ e ∈ ds, numD m e = true := by
  cases d with
  | int i => exact .inl ⟨i, rfl⟩
  | tup ds =>
    match n, h with
    | 0, h => simp [numD] at h
    | m + 1, h => exact .inr ⟨m, ds, rfl, rfl, numDs_iff.mp (by simpa [numD] using h)⟩
  | _ => simp [numD] at h
theorem numD_tup {n : Nat} {ds : List D} : numD (n + 1) (.tup ds) = true ↔ ∀ e ∈ ds, numD n e = true := by
  rw [← numDs_iff]
  simp [numD]
theorem numD_int {n : Nat} {i : Int} : numD n (.int i) = true := by cases n <;> rfl
theorem numD_mono : ∀ {n m : Nat} {d : D}, n ≤ m → numD n d = true → numD m d = true
  | n, m, d, h, g => by
    induction n generalizing m d with
    | zero =>
      rcases numD_cases g with ⟨i, rfl⟩ | ⟨k, ds, e, _⟩
      · exact numD_int
      · cases e
    | succ n ih =>
      rcases numD_cases g with ⟨i, rfl⟩ | ⟨k, ds, e, rfl, h2⟩
      · exact numD_int
      · cases e
        obtain ⟨m', rfl⟩ : ∃ m', m = m' + 1 := ⟨m - 1, by omega⟩
        exact numD_tup.mpr fun x hx => ih _ _ (by omega) (h2 x hx)
theorem okDs_iff {n : Nat} : ∀ {ds : List D}, okD.okDs n ds = true ↔ ∀ d ∈ ds, okD n d = true
  | [] => by simp [okD.okDs]
  | d :: ds => by simp [okD.okDs, okDs_iff (ds := ds)]
theorem okD_tup {n : Nat} {ds : List D} : okD (n + 1) (.tup ds) = true ↔ ∀ e ∈ ds, okD n e = true := by
  rw [← okDs_iff]
  simp [okD]
theorem numD_ok : ∀ {n : Nat} {d : D}, numD n d = true → okD n d = true
  | n, d, g => by
    induction n generalizing d with
    | zero =>
      rcases numD_cases g with ⟨i, rfl⟩ | ⟨k, ds, e, _⟩
      · rfl
      · cases e
    | succ n ih =>
      rcases numD_cases g with ⟨i, rfl⟩ | ⟨k, ds, e, rfl, h2⟩
      · rfl
      · cases e
        exact okD_tup.mpr fun x hx => ih _ (h2 x hx)
theorem eqDs_iff {P : D → D → Prop} : ∀ {xs ys : List D}, (∀ x ∈ xs, ∀ y ∈ ys, (eqD x y = true ↔ x = y)) → (eqD.eqDs xs ys = true ↔ xs = ys)
  | [], [], _ => by simp [eqD.eqDs]
  | [], y :: ys, _ => by simp [eqD.eqDs]
  | x :: xs, [], _ => by simp [eqD.eqDs]
  | x :: xs, y :: ys, h => by
    simp only [eqD.eqDs, Bool.and_eq_true, List.cons.injEq]
    rw [h x (by simp) y (by simp), eqDs_iff (P := P) fun a ha b hb => h a (by simp [ha]) b (by simp [hb])]
theorem eqD_num : ∀ {n m : Nat} {d e : D}, numD n d = true → numD m e = true → (eqD d e = true ↔ d = e)
  | n, m, d, e, g, k => by
    induction n generalizing m d e with
    | zero =>
      rcases numD_cases g with ⟨i, rfl⟩ | ⟨_, ds, z, _⟩
      · rcases numD_cases k with ⟨j, rfl⟩ | ⟨_, es, _, rfl, _⟩ <;> simp [eqD]
      · cases z
    | succ n ih =>
      rcases numD_cases g with ⟨i, rfl⟩ | ⟨_, ds, z, rfl, h2⟩
      · rcases numD_cases k with ⟨j, rfl⟩ | ⟨_, es, _, rfl, _⟩ <;> simp [eqD]
      · cases z
        rcases numD_cases k with ⟨j, rfl⟩ | ⟨_, es, _, rfl, k2⟩
        · simp [eqD]
        · simp only [eqD, D.tup.injEq]
          exact eqDs_iff (P := Eq) fun x hx y hy => ih _ _ _ (h2 x hx) (k2 y hy)
theorem Reads.num {h : Heap} : ∀ {n : Nat} {d : D} {v : Value} {as : List Addr}, numD n d = true → Reads h v (toPy d) as → as = []
  | n, d, v, as, g, r => by
    induction n generalizing d v as with
    | zero =>
      rcases numD_cases g with ⟨i, rfl⟩ | ⟨_, ds, z, _⟩
      · cases r; rfl
      · cases z
    | succ n ih =>
      rcases numD_cases g with ⟨i, rfl⟩ | ⟨_, ds, z, rfl, h2⟩
      · cases r; rfl
      · cases z
        simp only [toPy] at r
        cases r with
        | tuple ho hc hd hr =>
          have all : ∀ (ds : List D) (vs : List Value) (as : List Addr), (∀ d ∈ ds, numD n d = true) → ReadsAll h vs (toPy.toPys ds) as → as = [] := by
            intro ds
            induction ds with
            | nil => intro vs as _ r; cases r; rfl
            | cons d ds ihd =>
              intro vs as hn r
              cases r with
              | cons r1 r2 => rw [ih _ _ _ (hn d (by simp)) r1, ihd _ _ (fun e he => hn e (by simp [he])) r2]; rfl
          exact all ds _ _ h2 hr
class OD (α : Type) where
  enc : α → D
  lt : α → α → Prop
  dec : ∀ a b, Decidable (lt a b)
  irr : ∀ a, ¬ lt a a
  tr : ∀ {a b c}, lt a b → lt b c → lt a c
  tri : ∀ a b, lt a b ∨ a = b ∨ lt b a
  dp : Nat
  num : ∀ a, numD dp (enc a) = true
  inj : ∀ {a b}, enc a = enc b → a = b
  al : ∀ a b, PySem.W.alike (toPy (enc a)) (toPy (enc b)) = true
  plt : ∀ a b, PySem.W.dataLt (toPy (enc a)) (toPy (enc b)) = @decide (lt a b) (dec a b)
  ok : α → Prop
  srt : ∀ xs : List α, (∀ a ∈ xs, ok a) → PySem.W.SortableE (xs.map fun a => toPy (enc a))
instance {α : Type} [OD α] (a b : α) : Decidable (OD.lt a b) := OD.dec a b
section
variable {α β : Type} [OD α] [OD β]
theorem OD.asym {a b : α} (h : OD.lt a b) : ¬ OD.lt b a := fun z => OD.irr _ (OD.tr h z)
theorem OD.eq_iff {a b : α} : a = b ↔ ¬ OD.lt a b ∧ ¬ OD.lt b a := ⟨fun e => by subst e; exact ⟨OD.irr _, OD.irr _⟩, fun h => by
  rcases OD.tri a b with z | z | z
  · exact absurd z h.1
  · exact z
  · exact absurd z h.2⟩
def OD.eqDec (a b : α) : Decidable (a = b) := decidable_of_iff _ OD.eq_iff.symm
theorem OD.eqv (a b : α) : PyData.eqv (toPy (enc a)) (toPy (enc b)) = @decide (a = b) (OD.eqDec a b) := by
  have n1 := OD.num a
  have n2 := OD.num b
  rw [eqv_eqD _ _ _ _ (numD_ok n1) (numD_ok n2)]
  have h := eqD_num n1 n2
  by_cases e : a = b
  · rw [@decide_eq_true _ (OD.eqDec a b) e]
    exact h.mpr (congrArg _ e)
  · rw [@decide_eq_false _ (OD.eqDec a b) e]
    exact Bool.eq_false_iff.mpr fun z => e (OD.inj (h.mp z))
end
instance : OD Int where
  enc := .int
  lt a b := a < b
  dec := inferInstance
  irr a := by omega
  tr h g := by omega
  tri a b := by omega
  dp := 0
  num _ := rfl
  inj h := by cases h; rfl
  al a b := by simp [toPy, PySem.W.alike]
  plt a b := by simp only [toPy]; exact PySem.W.dataLt_int a b
  ok _ := True
  srt xs _ := .inl <| .inr fun d hd => by
    obtain ⟨a, _, rfl⟩ := List.mem_map.mp hd
    simp [toPy]
def ltP {α β : Type} [OD α] [OD β] (p q : α × β) : Prop := OD.lt p.1 q.1 ∨ (p.1 = q.1 ∧ OD.lt p.2 q.2)
def ltP_dec {α β : Type} [OD α] [OD β] (p q : α × β) : Decidable (ltP p q) := by
  have : Decidable (p.1 = q.1) := OD.eqDec _ _
  have : Decidable (OD.lt p.1 q.1) := OD.dec _ _
  have : Decidable (OD.lt p.2 q.2) := OD.dec _ _
  unfold ltP
  exact inferInstance
instance {α β : Type} [OD α] [OD β] : OD (α × β) where
  enc p := .tup [OD.enc p.1, OD.enc p.2]
  lt := ltP
  dec := ltP_dec
  irr p h := by
    rcases h with h | h
    · exact OD.irr _ h
    · exact OD.irr _ h.2
  tr := by
    rintro ⟨a, b⟩ ⟨c, d⟩ ⟨e, f⟩ h g
    unfold ltP at *
    dsimp only at *
    rcases h with h | ⟨rfl, h⟩
    · rcases g with g | ⟨rfl, g⟩
      · exact .inl (OD.tr h g)
      · exact .inl h
    · rcases g with g | ⟨rfl, g⟩
      · exact .inl g
      · exact .inr ⟨rfl, OD.tr h g⟩
  tri := by
    rintro ⟨a, b⟩ ⟨c, d⟩
    unfold ltP
    dsimp only
    rcases OD.tri a c with h | rfl | h
    · exact .inl (.inl h)
    · rcases OD.tri b d with g | rfl | g
      · exact .inl (.inr ⟨rfl, g⟩)
      · exact .inr (.inl rfl)
      · exact .inr (.inr (.inr ⟨rfl, g⟩))
    · exact .inr (.inr (.inl h))
  dp := max (OD.dp α) (OD.dp β) + 1
  num p := by
    rw [numD_tup]
    intro e he
    rcases List.mem_cons.mp he with z | z
    · rw [z]; exact numD_mono (by omega) (OD.num p.1)
    · rw [List.mem_singleton.mp z]; exact numD_mono (by omega) (OD.num p.2)
  inj h := by
    simp only [D.tup.injEq, List.cons.injEq, and_true] at h
    exact Prod.ext (OD.inj h.1) (OD.inj h.2)
  al p q := by
    simp only [toPy, toPy.toPys, PySem.W.alike, PySem.W.alikeAll, OD.al]
    rfl
  plt p q := by
    simp only [toPy, toPy.toPys]
    rw [PySem.W.dataLt_pair (OD.al _ _) (OD.al _ _), OD.eqv, OD.eqv, OD.plt, OD.plt]
    by_cases h : p.1 = q.1
    · rw [@decide_eq_true _ (OD.eqDec _ _) h, if_pos rfl]
      by_cases g : p.2 = q.2
      · rw [@decide_eq_true _ (OD.eqDec _ _) g, if_pos rfl]
        refine Eq.symm (@decide_eq_false _ (ltP_dec _ _) ?_)
        unfold ltP
        rw [h, g]
        rintro (z | z)
        · exact OD.irr _ z
        · exact OD.irr _ z.2
      · rw [@decide_eq_false _ (OD.eqDec _ _) g, if_neg (by decide)]
        refine (@decide_eq_decide _ _ _ _).mpr ⟨fun z => .inr ⟨h, z⟩, fun z => ?_⟩
        rcases z with z | z
        · rw [h] at z; exact absurd z (OD.irr _)
        · exact z.2
    · rw [@decide_eq_false _ (OD.eqDec _ _) h, if_neg (by decide)]
      exact (@decide_eq_decide _ _ _ _).mpr ⟨.inl, fun z => z.resolve_right fun y => h y.1⟩
  ok _ := True
  srt xs _ := .inl <| .inl fun d hd => by
    obtain ⟨a, _, rfl⟩ := List.mem_map.mp hd
    exact ⟨_, _, rfl⟩
section
variable {α : Type} [OD α]
def ltL : List α → List α → Prop
  | [], [] => False
  | [], _ :: _ => True
  | _ :: _, [] => False
  | x :: xs, y :: ys => OD.lt x y ∨ (x = y ∧ ltL xs ys)
def ltL_dec : ∀ xs ys : List α, Decidable (ltL xs ys)
  | [], [] => isFalse id
  | [], _ :: _ => isTrue trivial
  | _ :: _, [] => isFalse id
  | x :: xs, y :: ys => by
    have := OD.eqDec x y
    have := ltL_dec xs ys
    unfold ltL
    infer_instance
theorem ltL_irr : ∀ xs : List α, ¬ ltL xs xs
  | [] => id
  | x :: xs => by
    rintro (h | h)
    · exact OD.irr _ h
    · exact ltL_irr xs h.2
theorem ltL_tr : ∀ {xs ys zs : List α}, ltL xs ys → ltL ys zs → ltL xs zs
  | [], [], _, h, _ => h.elim
  | [], _ :: _, [], _, g => g.elim
  | [], _ :: _, _ :: _, _, _ => trivial
  | _ :: _, [], _, h, _ => h.elim
  | _ :: _, _ :: _, [], _, g => g.elim
  | x :: xs, y :: ys, z :: zs, h, g => by
    rcases h with h | ⟨rfl, h⟩
    · rcases g with g | ⟨rfl, g⟩
      · exact .inl (OD.tr h g)
      · exact .inl h
    · rcases g with g | ⟨rfl, g⟩
      · exact .inl g
      · exact .inr ⟨rfl, ltL_tr h g⟩
theorem ltL_tri : ∀ xs ys : List α, ltL xs ys ∨ xs = ys ∨ ltL ys xs
  | [], [] => .inr (.inl rfl)
  | [], _ :: _ => .inl trivial
  | _ :: _, [] => .inr (.inr trivial)
  | x :: xs, y :: ys => by
    rcases OD.tri x y with h | rfl | h
    · exact .inl (.inl h)
    · rcases ltL_tri xs ys with g | rfl | g
      · exact .inl (.inr ⟨rfl, g⟩)
      · exact .inr (.inl rfl)
      · exact .inr (.inr (.inr ⟨rfl, g⟩))
    · exact .inr (.inr (.inl h))
theorem ltL_toks : ∀ xs ys : List α, PyProof.Rows.lexLt itemOrd (PySem.W.keyToksAll (toPy.toPys (xs.map OD.enc))) (PySem.W.keyToksAll (toPy.toPys (ys.map OD.enc))) = @decide (ltL xs ys) (ltL_dec xs ys)
  | [], [] => lex_irrefl _
  | [], y :: ys => by
    rw [@decide_eq_true _ (ltL_dec _ _) (show ltL [] (y :: ys) from trivial)]
    simp only [List.map_nil, List.map_cons, toPy.toPys]
    rw [PySem.W.toks_all_cons]
    simp only [PySem.W.keyToksAll]
    rw [lex_diff (O := itemOrd) (by simp)]
    rfl
  | x :: xs, [] => by
    rw [@decide_eq_false _ (ltL_dec _ _) (show ¬ ltL (x :: xs) [] from id)]
    simp only [List.map_nil, List.map_cons, toPy.toPys]
    rw [PySem.W.toks_all_cons]
    simp only [PySem.W.keyToksAll]
    rw [lex_diff (O := itemOrd) (by simp)]
    rfl
  | x :: xs, y :: ys => by
    simp only [List.map_cons, toPy.toPys]
    rw [PySem.W.dataLt_cons (OD.al x y), OD.eqv, OD.plt, ltL_toks xs ys]
    by_cases h : x = y
    · rw [@decide_eq_true _ (OD.eqDec _ _) h, if_pos rfl]
      refine (@decide_eq_decide _ _ _ _).mpr ⟨fun z => .inr ⟨h, z⟩, fun z => ?_⟩
      rcases z with z | z
      · rw [h] at z; exact absurd z (OD.irr _)
      · exact z.2
    · rw [@decide_eq_false _ (OD.eqDec _ _) h, if_neg (by decide)]
      exact (@decide_eq_decide _ _ _ _).mpr ⟨.inl, fun z => z.resolve_right fun y => h y.1⟩
theorem alikeAll_enc : ∀ xs ys : List α, PySem.W.alikeAll (toPy.toPys (xs.map OD.enc)) (toPy.toPys (ys.map OD.enc)) = true
  | [], _ => by simp [toPy.toPys, PySem.W.alikeAll]
  | _ :: _, [] => by simp [toPy.toPys, PySem.W.alikeAll]
  | x :: xs, y :: ys => by
    simp only [List.map_cons, toPy.toPys, PySem.W.alikeAll, OD.al x y, alikeAll_enc xs ys]
    rfl
end
instance {α : Type} [OD α] : OD (List α) where
  enc xs := .tup (xs.map OD.enc)
  lt := ltL
  dec := ltL_dec
  irr := ltL_irr
  tr := ltL_tr
  tri := ltL_tri
  dp := OD.dp α + 1
  num xs := by
    rw [numD_tup]
    intro e he
    obtain ⟨a, _, rfl⟩ := List.mem_map.mp he
    exact OD.num a
  inj {a b} h := by
    simp only [D.tup.injEq] at h
    exact (List.map_inj_right fun x y z => OD.inj z).mp h
  al xs ys := by
    simp only [toPy, PySem.W.alike]
    exact alikeAll_enc xs ys
  plt xs ys := by
    simp only [toPy]
    rw [PySem.W.dataLt_tuple]
    exact ltL_toks xs ys
  ok xs := xs ≠ []
  srt xss h := .inl <| .inl fun d hd => by
    obtain ⟨a, ha, rfl⟩ := List.mem_map.mp hd
    have := h a ha
    cases a with
    | nil => exact absurd rfl this
    | cons x xs => exact ⟨_, _, rfl⟩
structure Rw (α : Type) where
  row : List α
instance {α : Type} [OD α] : OD (Rw α) where
  enc r := OD.enc r.row
  lt a b := ltL a.row b.row
  dec a b := ltL_dec a.row b.row
  irr a := ltL_irr a.row
  tr h g := ltL_tr h g
  tri a b := by
    rcases ltL_tri a.row b.row with h | h | h
    · exact .inl h
    · exact .inr (.inl (by cases a; cases b; exact congrArg _ h))
    · exact .inr (.inr h)
  dp := OD.dp (List α)
  num r := OD.num r.row
  inj {a b} h := by
    have : a.row = b.row := OD.inj (α := List α) h
    cases a; cases b; exact congrArg _ this
  al a b := OD.al a.row b.row
  plt a b := OD.plt a.row b.row
  ok _ := True
  srt xss _ := .inr fun d hd => by
    obtain ⟨a, _, rfl⟩ := List.mem_map.mp hd
    exact ⟨_, rfl⟩
section
variable {α : Type} [OD α]
def oins (p : α) : List α → List α
  | [] => [p]
  | q :: r => if OD.lt q p then q :: oins p r else p :: q :: r
def osrt (l : List α) : List α := l.foldr oins []
def oinsU (p : α) : List α → List α
  | [] => [p]
  | q :: r => if OD.lt p q then p :: q :: r else if OD.lt q p then q :: oinsU p r else q :: r
def osrtU (l : List α) : List α := l.foldr oinsU []
def LeO (a b : α) : Prop := ¬ OD.lt b a
theorem oins_perm (p : α) : ∀ l, (oins p l).Perm (p :: l)
  | [] => .refl _
  | q :: r => by
    unfold oins
    split
    · exact ((oins_perm p r).cons q).trans (.swap _ _ _)
    · exact .refl _
theorem osrt_perm : ∀ l : List α, (osrt l).Perm l
  | [] => .refl _
  | p :: l => (oins_perm p (osrt l)).trans ((osrt_perm l).cons p)
theorem oins_srt {p : α} : ∀ {l : List α}, l.Pairwise LeO → (oins p l).Pairwise LeO
  | [], _ => by simp [oins]
  | q :: r, h => by
    obtain ⟨h1, h2⟩ := List.pairwise_cons.mp h
    unfold oins
    split
    · rename_i c
      refine List.pairwise_cons.mpr ⟨fun x hx => ?_, oins_srt h2⟩
      rcases List.mem_cons.mp ((oins_perm p r).mem_iff.mp hx) with z | z
      · rw [z]; exact OD.asym c
      · exact h1 x z
    · rename_i c
      refine List.pairwise_cons.mpr ⟨fun x hx => ?_, h⟩
      rcases List.mem_cons.mp hx with z | z
      · rw [z]; exact c
      · intro y
        rcases OD.tri p q with a | a | a
        · exact h1 x z (OD.tr y a)
        · exact h1 x z (a ▸ y)
        · exact c a
theorem osrt_srt : ∀ l : List α, (osrt l).Pairwise LeO
  | [] => .nil
  | p :: l => oins_srt (osrt_srt l)
theorem mem_osrt {x : α} {l : List α} : x ∈ osrt l ↔ x ∈ l := (osrt_perm l).mem_iff
theorem osrt_len (l : List α) : (osrt l).length = l.length := (osrt_perm l).length_eq
theorem lt_nodup {l : List α} (h : l.Pairwise OD.lt) : l.Nodup := List.Pairwise.imp (fun {a b} (z : OD.lt a b) (e : a = b) => OD.irr b (by rw [e] at z; exact z)) h
theorem osrt_lt {l : List α} (h : l.Nodup) : (osrt l).Pairwise OD.lt := by
  have h1 : (osrt l).Pairwise (fun a b => LeO a b ∧ a ≠ b) := (osrt_srt l).and ((osrt_perm l).nodup_iff.mpr h)
  refine h1.imp fun {a b} z => ?_
  rcases OD.tri a b with y | y | y
  · exact y
  · exact absurd y z.2
  · exact absurd y z.1
theorem mem_oinsU {p x : α} : ∀ {l : List α}, x ∈ oinsU p l ↔ x = p ∨ x ∈ l
  | [] => by simp [oinsU]
  | q :: r => by
    unfold oinsU
    split
    · simp
    · split
      · rw [List.mem_cons, mem_oinsU, List.mem_cons]
        exact ⟨fun h => by rcases h with h | h | h <;> simp [h], fun h => by rcases h with h | h | h <;> simp [h]⟩
      · rename_i c d
        rw [OD.eq_iff.mpr ⟨c, d⟩]
        simp
theorem oinsU_srt {p : α} : ∀ {l : List α}, l.Pairwise OD.lt → (oinsU p l).Pairwise OD.lt
  | [], _ => by simp [oinsU]
  | q :: r, h => by
    obtain ⟨h1, h2⟩ := List.pairwise_cons.mp h
    unfold oinsU
    split
    · rename_i c
      refine List.pairwise_cons.mpr ⟨fun x hx => ?_, h⟩
      rcases List.mem_cons.mp hx with z | z
      · rw [z]; exact c
      · exact OD.tr c (h1 x z)
    · split
      · rename_i c
        refine List.pairwise_cons.mpr ⟨fun x hx => ?_, oinsU_srt h2⟩
        rcases mem_oinsU.mp hx with z | z
        · rw [z]; exact c
        · exact h1 x z
      · exact h
theorem mem_osrtU {x : α} : ∀ {l : List α}, x ∈ osrtU l ↔ x ∈ l
  | [] => by simp [osrtU]
  | p :: l => by
    show x ∈ oinsU p (osrtU l) ↔ _
    rw [mem_oinsU, mem_osrtU, List.mem_cons]
theorem osrtU_srt : ∀ l : List α, (osrtU l).Pairwise OD.lt
  | [] => .nil
  | p :: l => oinsU_srt (osrtU_srt l)
theorem lt_uniq : ∀ {l m : List α}, l.Pairwise OD.lt → m.Pairwise OD.lt → (∀ x, x ∈ l ↔ x ∈ m) → l = m
  | [], [], _, _, _ => rfl
  | [], y :: m, _, _, h => absurd ((h y).mpr List.mem_cons_self) (by simp)
  | x :: l, [], _, _, h => absurd ((h x).mp List.mem_cons_self) (by simp)
  | x :: l, y :: m, hl, hm, h => by
    obtain ⟨l1, l2⟩ := List.pairwise_cons.mp hl
    obtain ⟨m1, m2⟩ := List.pairwise_cons.mp hm
    have e : x = y := by
      rcases List.mem_cons.mp ((h x).mp List.mem_cons_self) with z | z
      · exact z
      · rcases List.mem_cons.mp ((h y).mpr List.mem_cons_self) with w | w
        · exact w.symm
        · exact absurd (OD.tr (m1 x z) (l1 y w)) (OD.irr y)
    subst e
    refine congrArg _ (lt_uniq l2 m2 fun z => ⟨fun hz => ?_, fun hz => ?_⟩)
    · rcases List.mem_cons.mp ((h z).mp (List.mem_cons_of_mem _ hz)) with w | w
      · subst w; exact absurd (l1 z hz) (OD.irr z)
      · exact w
    · rcases List.mem_cons.mp ((h z).mpr (List.mem_cons_of_mem _ hz)) with w | w
      · subst w; exact absurd (m1 z hz) (OD.irr z)
      · exact w
end
end DL

set_option Elab.async false
set_option linter.all false
set_option maxRecDepth 100000
set_option maxHeartbeats 4000000

set_option Elab.async false
set_option linter.all false
set_option maxRecDepth 100000
set_option maxHeartbeats 4000000
namespace DL
open PySem PySem.Spec PyProof.Rows L2 DSet
variable [TabsOf]
def keyD : Key → D
  | .inl i => .int i
  | .inr x => .str x
section
variable {c : Cfg} {Av : Addr → Prop} {H : Hp}
theorem RepL.keys : ∀ (k : List Key), RepL c Av H (k.map kV) (k.map keyD)
  | [] => .nil
  | .inl i :: k => .cons (.int i) (RepL.keys k)
  | .inr x :: k => .cons (.str x) (RepL.keys k)
end
end DL

set_option Elab.async false
set_option linter.all false
set_option maxRecDepth 100000
set_option maxHeartbeats 4000000
namespace DL
open PySem PySem.Spec PyProof.Rows L2
variable [TabsOf]
section
variable {κ : Type} [DecidableEq κ]
def putKs (ks : List κ) (k : κ) : List κ := if k ∈ ks then ks else ks ++ [k]
def putVs {α : Type} (ks : List κ) (vs : List α) (k : κ) (v : α) : List α := if k ∈ ks then (ks.zip vs).map fun p => if p.1 = k then v else p.2 else vs ++ [v]
def lookK {α : Type} (ks : List κ) (vs : List α) (k : κ) : Option α := ((ks.zip vs).find? fun p => decide (p.1 = k)).map (·.2)
def memK (ks : List κ) (k : κ) : Bool := decide (k ∈ ks)
theorem memK_iff {ks : List κ} {k : κ} : memK ks k = true ↔ k ∈ ks := decide_eq_true_iff
theorem any_mem {ks : List κ} {vs : List V} {k : κ} (h : ks.length = vs.length) : ((ks.zip vs).any fun kv => decide (kv.1 = k)) = decide (k ∈ ks) := by
  induction ks generalizing vs with
  | nil => rfl
  | cons a ks ih =>
    cases vs with
    | nil => cases h
    | cons v vs =>
      rw [List.zip_cons_cons, List.any_cons, ih (Nat.succ.inj h)]
      by_cases e : a = k
      · subst e; simp
      · have : k ≠ a := fun z => e z.symm
        simp [e, this]
end
def kT (ks : List Key) : D := .tup (ks.map keyD)
section
variable {c : Cfg} {Av : Addr → Prop} {H : Hp}
theorem RepL.keysOf : ∀ {k : List Key} {vs : List V}, RepL c Av H vs (k.map keyD) → vs = k.map kV
  | [], _, .nil => rfl
  | .inl i :: k, _, .cons r t => by cases r; rw [RepL.keysOf t]; rfl
  | .inr x :: k, _, .cons r t => by cases r; rw [RepL.keysOf t]; rfl
theorem RepL.look {κ : Type} [DecidableEq κ] {k : κ} : ∀ {ks : List κ} {vs : List V} {ds : List D} {d : D}, RepL c Av H vs ds → lookK ks ds k = some d → ∃ v, valV (ks.zip vs) k = some v ∧ Rep c Av H v d
  | [], _, _, _, _, h => by simp [lookK] at h
  | a :: ks, _, _, _, .nil, h => by simp [lookK] at h
  | a :: ks, _, _, d, .cons (v := v) r t, h => by
    by_cases e : a = k
    · have h' := (by simpa [lookK, e] using h : _ = d)
      subst h'
      exact ⟨v, by rw [List.zip_cons_cons]; exact valV_pos e, r⟩
    · obtain ⟨u, h1, h2⟩ := RepL.look (k := k) (ks := ks) t (by simpa [lookK, e] using h)
      exact ⟨u, by rw [List.zip_cons_cons, valV_neg e]; exact h1, h2⟩
theorem valV_some {κ : Type} [DecidableEq κ] {ks : List κ} {vs : List V} {k : κ} (h : ks.length = vs.length) : (valV (ks.zip vs) k).isSome = memK ks k := by rw [← valV_any, any_mem h]; rfl
theorem RepL.put {κ : Type} [DecidableEq κ] {k : κ} {v : V} {d : D} (r : Rep c Av H v d) : ∀ {ks : List κ} {vs : List V} {ds : List D}, RepL c Av H vs ds → RepL c Av H (putVs ks vs k v) (putVs ks ds k d) := by
  intro ks vs ds t
  unfold putVs
  split
  · rename_i hk
    clear hk
    induction vs generalizing ks ds with
    | nil => cases t; rw [List.zip_nil_right, List.zip_nil_right]; exact .nil
    | cons u us ih =>
      cases t with
      | cons r1 t =>
        cases ks with
        | nil => exact .nil
        | cons a ks =>
          simp only [List.zip_cons_cons, List.map_cons]
          refine .cons ?_ (ih t)
          split
          · exact r
          · exact r1
  · exact t.append (.cons r .nil)
end
def rDIx : R2 := fun x y H Q => ∃ a v, x = .ref a ∧ DGet H a y (some v) ∧ Q v H
section
variable {X : Cx}
theorem ix_dict (hu : X.A.units + 1 < cLine) : IxR X rDIx := by
  rintro value slice pins s σ H x y v u Q I rx ry ⟨a, w, rfl, g, q⟩ hs
  cases rx
  have ht : s.TypeIs (.ref a) "dict" := by
    rcases g with ⟨kvs, k, e, _⟩ | ⟨kvs, k, b, e, _⟩
    · obtain ⟨z, hd, vs, rel, dd⟩ := dk_rd I.hok e
      exact dd.mapOf.typeIs
    · obtain ⟨z, hd, xs, rel, dd⟩ := dt_rd I.hok e
      exact dd.typeIs
  exact tail_any ht slot_dict_getitem.lookup (d_getItem hu I g ry fun w' s' I' r' => ⟨w, H, I', r', q⟩) hs
end
def dHas (x y : D) (f : Bool → Prop) : Prop := match y with
  | .dT ks _ => ∃ k : List Key, x = kT k ∧ f (memK ks k)
  | .dK ks _ => ∃ k : Key, x = keyD k ∧ f (memK ks k)
  | _ => False
def dGetD (x y : D) (R : D → Prop) : Prop := match x with
  | .dT ks ds => ∃ (k : List Key) (d : D), y = kT k ∧ lookK ks ds k = some d ∧ R d
  | .dK ks ds => ∃ (k : Key) (d : D), y = keyD k ∧ lookK ks ds k = some d ∧ R d
  | _ => False
section
variable {c : Cfg} {own : List Nat} {A : Addr → Prop} {σ : L2.St} {ρ : PEnv} {H : Hp} {v w : V} {d e : D}
theorem RepW.key {k : Key} (r : RepW c own A σ ρ H v (keyD k)) : v = kV k := by
  cases k with
  | inl i => exact RepW.int r
  | inr x => exact RepW.str r
theorem RepW.kT {k : List Key} (r : RepW c own A σ ρ H v (kT k)) : ∃ b, v = .ref b ∧ H b = some (.tup (k.map kV)) := by
  obtain ⟨a, vs, rfl, n, rl⟩ := RepW.tup r
  have := RepL.keysOf rl
  subst this
  exact ⟨a, rfl, n.2.2⟩
theorem RepW.has {f : Bool → Prop} (r1 : RepW c own A σ ρ H v d) (r2 : RepW c own A σ ρ H w e) (g : dHas d e f) : ∃ a o, w = .ref a ∧ DGet H a v o ∧ f o.isSome := by
  cases e with
  | dT ks es =>
    obtain ⟨k, ed, g'⟩ := (show ∃ k : List Key, d = DL.kT k ∧ f (memK ks k) from g)
    subst ed
    obtain ⟨a, us, rfl, hl, h, rl⟩ := RepW.dT r2
    obtain ⟨b, rfl, hb⟩ := RepW.kT r1
    exact ⟨a, _, rfl, DGet.t h hb, by rw [valV_some hl]; exact g'⟩
  | dK ks es =>
    obtain ⟨k, ed, g'⟩ := (show ∃ k : Key, d = keyD k ∧ f (memK ks k) from g)
    subst ed
    obtain ⟨a, us, rfl, hl, h, rl⟩ := RepW.dK r2
    have e := RepW.key r1
    subst e
    exact ⟨a, _, rfl, DGet.k h, by rw [valV_some hl]; exact g'⟩
  | _ => exact g.elim
theorem RepW.getD {R : D → Prop} (r1 : RepW c own A σ ρ H v d) (r2 : RepW c own A σ ρ H w e) (g : dGetD d e R) : ∃ a u d', v = .ref a ∧ DGet H a w (some u) ∧ Rep c (Avd c own A σ ρ) H u d' ∧ R d' := by
  cases d with
  | dT ks ds =>
    obtain ⟨k, d', rfl, hl, g⟩ := (show ∃ (k : List Key) (d' : D), e = DL.kT k ∧ lookK ks ds k = some d' ∧ R d' from g)
    obtain ⟨a, us, rfl, _, h, rl⟩ := RepW.dT r1
    obtain ⟨b, rfl, hb⟩ := RepW.kT r2
    obtain ⟨u, h1, h2⟩ := RepL.look rl hl
    exact ⟨a, u, d', rfl, by rw [← h1]; exact DGet.t h hb, h2, g⟩
  | dK ks ds =>
    obtain ⟨k, d', rfl, hl, g⟩ := (show ∃ (k : Key) (d' : D), e = keyD k ∧ lookK ks ds k = some d' ∧ R d' from g)
    obtain ⟨a, us, rfl, _, h, rl⟩ := RepW.dK r1
    have e := RepW.key r2
    subst e
    obtain ⟨u, h1, h2⟩ := RepL.look rl hl
    exact ⟨a, u, d', rfl, by rw [← h1]; exact DGet.k h, h2, g⟩
  | _ => exact g.elim
end
def dInA (x y : D) (R : D → Prop) : Prop := match y with
  | .lst ds => (okD 60 x = true ∧ okD 60 (.lst ds) = true) ∧ R (.bl (ds.any fun z => eqD z x))
  | .tup ds => (okD 60 x = true ∧ okD 60 (.tup ds) = true) ∧ R (.bl (ds.any fun z => eqD z x))
  | .str j => ∃ i, x = .str i ∧ R (.bl (!(Builtin.Str.occurrences j i 0 j.length 1).isEmpty))
  | y => dHas x y fun b => R (.bl b)
def dNotInA (x y : D) (R : D → Prop) : Prop := match y with
  | .lst ds => (okD 60 x = true ∧ okD 60 (.lst ds) = true) ∧ R (.bl (!ds.any fun z => eqD z x))
  | .tup ds => (okD 60 x = true ∧ okD 60 (.tup ds) = true) ∧ R (.bl (!ds.any fun z => eqD z x))
  | .str j => ∃ i, x = .str i ∧ R (.bl (!(!(Builtin.Str.occurrences j i 0 j.length 1).isEmpty)))
  | y => dHas x y fun b => R (.bl (!b))
def dIxA (x y : D) (R : D → Prop) : Prop := match x with
  | .dT ks ds => dGetD (.dT ks ds) y R
  | .dK ks ds => dGetD (.dK ks ds) y R
  | x => dIx x y R
def rIxA (K : PySem.W.Frag) : R2 := fun x y H Q => rIx K x y H Q ∨ rDIx x y H Q
theorem IxR.or {X : Cx} {r r' : R2} (h : IxR X r) (h' : IxR X r') : IxR X (fun x y H Q => r x y H Q ∨ r' x y H Q) := fun value slice pins s σ H x y v u Q I rx ry q hs => q.elim (fun q => h value slice pins s σ H x y v u Q I rx ry q hs) (fun q => h' value slice pins s σ H x y v u Q I rx ry q hs)
theorem ix_all {X : Cx} {k : Nat} (hr : Room k X.A) : IxR X (rIxA X.K) := ix_seq.or (ix_dict (by have := hr.units; omega))
theorem c_ixA {K : PySem.W.Frag} : C2 K (rIxA K) .strong dIxA := fun c own A σ ρ H v w d e R Q hk E r1 r2 g q => by
  cases d with
  | dT ks ds =>
    obtain ⟨a, u, d', rfl, h, h2, g⟩ := RepW.getD r1 r2 (show dGetD (.dT ks ds) e R from g)
    exact .inr ⟨a, u, rfl, h, q c u H d' (Step.refl E.fok) h2 g⟩
  | dK ks ds =>
    obtain ⟨a, u, d', rfl, h, h2, g⟩ := RepW.getD r1 r2 (show dGetD (.dK ks ds) e R from g)
    exact .inr ⟨a, u, rfl, h, q c u H d' (Step.refl E.fok) h2 g⟩
  | _ => exact .inl (c_ix c own A σ ρ H v w _ e R Q hk E r1 r2 g q)
end DL

set_option Elab.async false
set_option linter.all false
set_option maxRecDepth 100000
set_option maxHeartbeats 4000000
namespace DL
open PySem PySem.Spec PyProof.Rows L2
variable [TabsOf]
theorem PSet.or {X : Cx} {r r' : TSet} (h : PSet X r) (h' : PSet X r') : PSet X (fun o i v H Q => r o i v H Q ∨ r' o i v H Q) := fun pins s σ H o i v ov iv u Q I ro ri rv q => q.elim (h pins s σ H o i v ov iv u Q I ro ri rv) (h' pins s σ H o i v ov iv u Q I ro ri rv)
def pNewD : TED := fun _ R => R (.dT [] []) ∨ R (.dK [] [])
def sStore (i : Nat) (pk pe : TED) : TSD := fun DD ρ => match ρ[i]? with
  | some (some (.lst ds)) => pe ρ fun d => pk ρ fun k => dInt k fun k => ∃ j, ixN ds.length k = some j ∧ DD.nx (ρ.set i (some (.lst (ds.set j d))))
  | some (some (.dT ks ds)) => pe ρ fun d => pk ρ fun k => ∃ q : List Key, k = kT q ∧ ks.length < sizeLine ∧ DD.nx (ρ.set i (some (.dT (putKs ks q) (putVs ks ds q d))))
  | some (some (.dK ks ds)) => pe ρ fun d => pk ρ fun k => ∃ q : Key, k = keyD q ∧ ks.length < sizeLine ∧ DD.nx (ρ.set i (some (.dK (putKs ks q) (putVs ks ds q d))))
  | _ => False
end DL

set_option Elab.async false
set_option linter.all false
set_option maxRecDepth 100000
set_option maxHeartbeats 4000000
namespace DL
open PySem PySem.Spec PyProof.Rows L2
variable [TabsOf]
def foldD {κ : Type} [DecidableEq κ] {α : Type} (ps : List (κ × α)) : List κ × List α := ps.foldl (fun acc p => (putKs acc.1 p.1, putVs acc.1 acc.2 p.1 p.2)) ([], [])
def dListA (xs : List D) (R : D → Prop) : Prop := oneD xs fun x => match x with
  | .lst ds => R (.lst ds)
  | .tup ds => R (.lst ds)
  | .dT ks _ => (ks.length ≤ sizeLine ∧ ∀ k ∈ ks, k.length ≤ sizeLine) ∧ R (.lst (ks.map kT))
  | _ => False
theorem OD.depth {α : Type} [OD α] (a : α) (h : OD.dp α ≤ 8) : (toPy (OD.enc a)).depth ≤ 8 := (okD_lay _ _ (numD_ok (numD_mono h (OD.num a)))).2
def dAnd : D → D → (D → Prop) → Prop := dI2 fun i j R => R (.int (Builtin.bitAnd i j))
def dOr : D → D → (D → Prop) → Prop := dI2 fun i j R => R (.int (Builtin.bitOr i j))
def dXor : D → D → (D → Prop) → Prop := dI2 fun i j R => R (.int (Builtin.bitXor i j))
def dShl : D → D → (D → Prop) → Prop := dI2 fun i j R => (0 ≤ j ∧ j ≤ 1000000 ∧ i.natAbs < 2 ^ 64) ∧ R (.int (i * 2 ^ j.toNat))
def dShr : D → D → (D → Prop) → Prop := dI2 fun i j R => 0 ≤ j ∧ R (.int (i / 2 ^ j.toNat))
end DL

set_option Elab.async false
set_option linter.all false
set_option maxRecDepth 100000
set_option maxHeartbeats 4000000
namespace DL
open PySem PySem.Spec PyProof.Rows L2
def ck (p : Int × Int) : List Key := [.inl p.1, .inl p.2]
theorem ck_inj {p q : Int × Int} (h : ck p = ck q) : p = q := by
  simp only [ck, List.cons.injEq, Sum.inl.injEq, and_true] at h
  exact Prod.ext h.1 h.2
theorem kT_inj {k l : List Key} (h : kT k = kT l) : k = l := by
  have hk : ∀ a b : Key, keyD a = keyD b → a = b := fun a b e => by
    cases a <;> cases b <;> simp [keyD] at e
    · rw [e]
    · rw [e]
  simp only [kT, D.tup.injEq] at h
  exact (List.map_inj_right (fun x y e => hk x y e)).mp h
theorem kT_ck {x y : Int} {k : List Key} : D.tup [.int x, .int y] = kT k ↔ k = ck (x, y) := ⟨fun h => (kT_inj (l := k) (k := ck (x, y)) h).symm, fun h => by rw [h]; rfl⟩
theorem mem_ck {p : Int × Int} {cs : List (Int × Int)} : ck p ∈ cs.map ck ↔ p ∈ cs := ⟨fun h => by
  obtain ⟨q, hq, e⟩ := List.mem_map.mp h
  rw [← ck_inj e]
  exact hq, fun h => List.mem_map.mpr ⟨p, h, rfl⟩⟩
theorem memK_ck {p : Int × Int} {cs : List (Int × Int)} : memK (cs.map ck) (ck p) = decide (p ∈ cs) := by
  by_cases h : p ∈ cs
  · rw [memK_iff.mpr (mem_ck.mpr h)]; simp [h]
  · rw [decide_eq_false h]
    exact Bool.eq_false_iff.mpr fun z => h (mem_ck.mp (memK_iff.mp z))
def addC (cs : List (Int × Int)) (p : Int × Int) : List (Int × Int) := if p ∈ cs then cs else cs ++ [p]
def tD (cs : List (Int × Int)) : D := .dT (cs.map ck) (List.replicate cs.length (.bl true))
theorem put_ck {cs : List (Int × Int)} {p : Int × Int} : putKs (cs.map ck) (ck p) = (addC cs p).map ck ∧ putVs (cs.map ck) (List.replicate cs.length (D.bl true)) (ck p) (.bl true) = List.replicate (addC cs p).length (.bl true) := by
  unfold putKs putVs addC
  by_cases h : p ∈ cs
  · rw [if_pos (mem_ck.mpr h), if_pos (mem_ck.mpr h), if_pos h]
    refine ⟨rfl, ?_⟩
    refine List.eq_replicate_iff.mpr ⟨by simp, fun b hb => ?_⟩
    obtain ⟨q, hq, rfl⟩ := List.mem_map.mp hb
    split
    · rfl
    · exact (List.mem_replicate.mp (List.of_mem_zip hq).2).2
  · rw [if_neg (fun z => h (mem_ck.mp z)), if_neg (fun z => h (mem_ck.mp z)), if_neg h]
    exact ⟨by simp, by simp [List.replicate_succ']⟩
def putT (ks : List (List Key)) (ds : List D) (k d : D) (f : List (List Key) → List D → Prop) : Prop := ∃ q : List Key, k = kT q ∧ ks.length < sizeLine ∧ f (putKs ks q) (putVs ks ds q d)
def putKD (ks : List Key) (ds : List D) (k d : D) (f : List Key → List D → Prop) : Prop := ∃ q : Key, k = keyD q ∧ ks.length < sizeLine ∧ f (putKs ks q) (putVs ks ds q d)
def stoR (o : Option (Option D)) (i : Nat) (pk pe : TED) (DD : DEnds) (ρ : PEnv) : Prop := match o with
  | some (some (.lst ds)) => pe ρ fun d => pk ρ fun k => dInt k fun k => ∃ j, ixN ds.length k = some j ∧ DD.nx (ρ.set i (some (.lst (ds.set j d))))
  | some (some (.dT ks ds)) => pe ρ fun d => pk ρ fun k => putT ks ds k d fun ks' ds' => DD.nx (ρ.set i (some (.dT ks' ds')))
  | some (some (.dK ks ds)) => pe ρ fun d => pk ρ fun k => putKD ks ds k d fun ks' ds' => DD.nx (ρ.set i (some (.dK ks' ds')))
  | _ => False
section
variable {x y i j : Int} {d e : D} {ds es : List D} {ks : List (List Key)} {kk : List Key} {cs : List (Int × Int)} {R : D → Prop} {n : Nat} {pk pe : TED} {DD : DEnds} {ρ : PEnv} {a b : TED}
theorem x_newD : pNewD ρ R = (R (.dT [] []) ∨ R (.dK [] [])) := propext Iff.rfl
theorem x_store : sStore n pk pe DD ρ = stoR ρ[n]? n pk pe DD ρ := by
  unfold sStore stoR
  rcases ρ[n]? with _ | _ | d
  · rfl
  · rfl
  · cases d <;> rfl
theorem x_stoL : stoR (some (some (.lst ds))) n pk pe DD ρ = pe ρ fun d => pk ρ fun k => dInt k fun k => ∃ j, ixN ds.length k = some j ∧ DD.nx (ρ.set n (some (.lst (ds.set j d)))) := propext Iff.rfl
theorem x_stoT : stoR (some (some (.dT ks ds))) n pk pe DD ρ = pe ρ fun d => pk ρ fun k => putT ks ds k d fun ks' ds' => DD.nx (ρ.set n (some (.dT ks' ds'))) := propext Iff.rfl
theorem x_stoK : stoR (some (some (.dK kk ds))) n pk pe DD ρ = pe ρ fun d => pk ρ fun k => putKD kk ds k d fun ks' ds' => DD.nx (ρ.set n (some (.dK ks' ds'))) := propext Iff.rfl
theorem x_sto2 : stoR (some (some (tD cs))) n pk pe DD ρ = pe ρ fun d => pk ρ fun k => putT (cs.map ck) (List.replicate cs.length (.bl true)) k d fun ks' ds' => DD.nx (ρ.set n (some (.dT ks' ds'))) := propext Iff.rfl
theorem x_putT {f : List (List Key) → List D → Prop} : putT (cs.map ck) (List.replicate cs.length (.bl true)) (.tup [.int x, .int y]) (.bl true) f = (cs.length < sizeLine ∧ f ((addC cs (x, y)).map ck) (List.replicate (addC cs (x, y)).length (.bl true))) := by
  refine propext ⟨fun ⟨q, e, h1, h2⟩ => ?_, fun ⟨h1, h2⟩ => ⟨ck (x, y), rfl, by rwa [List.length_map], by rw [put_ck.1, put_ck.2]; exact h2⟩⟩
  rw [kT_ck.mp e, put_ck.1, put_ck.2] at h2
  rw [List.length_map] at h1
  exact ⟨h1, h2⟩
theorem x_inAL : dInA d (.lst es) R = ((okD 60 d = true ∧ okD 60 (.lst es) = true) ∧ R (.bl (es.any fun z => eqD z d))) := propext Iff.rfl
theorem x_inAT : dInA d (.tup es) R = ((okD 60 d = true ∧ okD 60 (.tup es) = true) ∧ R (.bl (es.any fun z => eqD z d))) := propext Iff.rfl
theorem x_niAL : dNotInA d (.lst es) R = ((okD 60 d = true ∧ okD 60 (.lst es) = true) ∧ R (.bl (!es.any fun z => eqD z d))) := propext Iff.rfl
theorem x_niAT : dNotInA d (.tup es) R = ((okD 60 d = true ∧ okD 60 (.tup es) = true) ∧ R (.bl (!es.any fun z => eqD z d))) := propext Iff.rfl
theorem x_inA2 : dInA (.tup [.int x, .int y]) (tD cs) R = R (.bl (decide ((x, y) ∈ cs))) := by
  refine propext ⟨fun h => ?_, fun h => ⟨ck (x, y), rfl, by rw [memK_ck]; exact h⟩⟩
  obtain ⟨k, e, h⟩ := (show ∃ k : List Key, D.tup [.int x, .int y] = kT k ∧ R (.bl (memK (cs.map ck) k)) from h)
  rw [kT_ck.mp e, memK_ck] at h
  exact h
theorem x_niA2 : dNotInA (.tup [.int x, .int y]) (tD cs) R = R (.bl (!decide ((x, y) ∈ cs))) := by
  refine propext ⟨fun h => ?_, fun h => ⟨ck (x, y), rfl, by rw [memK_ck]; exact h⟩⟩
  obtain ⟨k, e, h⟩ := (show ∃ k : List Key, D.tup [.int x, .int y] = kT k ∧ R (.bl (!memK (cs.map ck) k)) from h)
  rw [kT_ck.mp e, memK_ck] at h
  exact h
theorem x_ixAT : dIxA (.tup ds) (.int i) R = dIx (.tup ds) (.int i) R := propext Iff.rfl
theorem x_ixAP : dIxA (.stp ds) (.int i) R = dIx (.stp ds) (.int i) R := propext Iff.rfl
theorem x_ixAL : dIxA (.lst ds) (.int i) R = dIx (.lst ds) (.int i) R := propext Iff.rfl
theorem x_ixAS {z : Str} : dIxA (.str z) (.int i) R = dIx (.str z) (.int i) R := propext Iff.rfl
theorem x_liAL : dListA [.lst ds] R = R (.lst ds) := propext Iff.rfl
theorem x_liAT : dListA [.tup ds] R = R (.lst ds) := propext Iff.rfl
theorem x_liA2 : dListA [tD cs] R = (cs.length ≤ sizeLine ∧ R (.lst (cs.map prD))) := by
  have e : (cs.map ck).map kT = cs.map prD := by rw [List.map_map]; rfl
  refine propext ⟨fun h => ?_, fun h => ⟨⟨by rw [List.length_map]; exact h.1, fun k hk => ?_⟩, by rw [e]; exact h.2⟩⟩
  · obtain ⟨⟨h1, _⟩, h2⟩ := (show (((cs.map ck).length ≤ sizeLine ∧ ∀ k ∈ cs.map ck, k.length ≤ sizeLine) ∧ R (.lst ((cs.map ck).map kT))) from h)
    rw [e] at h2
    rw [List.length_map] at h1
    exact ⟨h1, h2⟩
  · obtain ⟨p, _, rfl⟩ := List.mem_map.mp hk
    exact sz_small (by show 2 ≤ 1000; decide)
theorem x_band : dAnd (.int i) (.int j) R = R (.int (Builtin.bitAnd i j)) := propext Iff.rfl
theorem x_bor : dOr (.int i) (.int j) R = R (.int (Builtin.bitOr i j)) := propext Iff.rfl
theorem x_bxor : dXor (.int i) (.int j) R = R (.int (Builtin.bitXor i j)) := propext Iff.rfl
theorem x_shl : dShl (.int i) (.int j) R = ((0 ≤ j ∧ j ≤ 1000000 ∧ i.natAbs < 2 ^ 64) ∧ R (.int (i * 2 ^ j.toNat))) := propext Iff.rfl
theorem x_shr : dShr (.int i) (.int j) R = (0 ≤ j ∧ R (.int (i / 2 ^ j.toNat))) := propext Iff.rfl
end
end DL

set_option Elab.async false
set_option linter.all false
set_option maxRecDepth 100000
set_option maxHeartbeats 4000000
namespace DL
open PySem PySem.Spec PyProof.Rows L2
theorem bnd_lit (n : Nat) : bnd (n.log2 + 1) (OfNat.ofNat n : Int) := by
  show (Int.natAbs (n : Int)) < _
  rw [Int.natAbs_natCast]
  exact Nat.lt_log2_self
theorem cut_ints (ns : List Int) (lo hi : Option Int) : ∃ ms : List Int, cutD (ns.map D.int) lo hi = ms.map D.int ∧ ms.length ≤ ns.length := by
  unfold cutD
  refine ⟨_, by rw [← List.map_drop, ← List.map_take], ?_⟩
  rw [List.length_take, List.length_drop]
  omega
def absI (i : Int) : Int := if 0 - i > i then 0 - i else i
theorem compG {α : Type} (g f : α → D) {tg : TGD} {te : TED} {ρ : PEnv} : ∀ (l : List α) (acc : List D) (R : List D → Prop), (∀ p ∈ l, ∀ R : D → Prop, R (f p) → tg (g p) ρ fun ρ1 => te ρ1 R) → R (acc ++ l.map f) → compR tg tYesD te ρ (l.map g) acc R
  | [], acc, R, _, h => by rw [List.map_nil, List.append_nil] at h; exact h
  | p :: l, acc, R, hs, h => by
    have e : ∀ (R' : D → Prop) (K2 : Prop), (fun ρ1 => tYesD ρ1 fun b => if b = true then te ρ1 R' else K2) = fun ρ1 => te ρ1 R' := fun _ _ => by funext ρ1; simp [tYesD]
    show tg (g p) ρ (fun ρ1 => tYesD ρ1 fun b => if b = true then te ρ1 (fun y => compR tg tYesD te ρ (l.map g) (acc ++ [y]) R) else compR tg tYesD te ρ (l.map g) acc R)
    rw [e]
    refine hs p List.mem_cons_self _ (compG g f l _ R (fun q hq => hs q (List.mem_cons_of_mem _ hq)) ?_)
    rw [List.map_cons] at h
    rw [List.append_assoc]
    exact h
theorem eq_tnil (l : List (Int × Int)) : eqD (.tup (l.map prD)) (.tup []) = decide (l = []) := by
  cases l with
  | nil => simp [eqD, eqD.eqDs]
  | cons p l => simp [eqD, eqD.eqDs]
theorem eq_pnil (l : List (Int × Int)) : eqD.eqDs (l.map prD) [] = decide (l = []) := by
  cases l with
  | nil => simp [eqD.eqDs]
  | cons p l => simp [eqD.eqDs]

section
variable {α : Type} [OD α]
theorem eq_enc (a b : α) : eqD (OD.enc a) (OD.enc b) = true ↔ a = b := by
  rw [eqD_num (OD.num a) (OD.num b)]
  exact ⟨OD.inj, fun h => by rw [h]⟩
theorem eqs_enc : ∀ (l m : List α), eqD.eqDs (l.map OD.enc) (m.map OD.enc) = true ↔ l = m
  | [], [] => by simp [eqD.eqDs]
  | [], _ :: _ => by simp [eqD.eqDs]
  | _ :: _, [] => by simp [eqD.eqDs]
  | a :: l, b :: m => by
    simp only [List.map_cons, eqD.eqDs, Bool.and_eq_true, List.cons.injEq]
    rw [eq_enc, eqs_enc l m]
theorem any_enc (l : List α) (a : α) : ((l.map OD.enc).any fun z => eqD z (OD.enc a)) = true ↔ a ∈ l := by
  rw [List.any_map, List.any_eq_true]
  constructor
  · rintro ⟨x, hx, h⟩
    rw [← (eq_enc x a).mp h]
    exact hx
  · exact fun h => ⟨a, h, (eq_enc a a).mpr rfl⟩
theorem okE (a : α) {n : Nat} (h : OD.dp α ≤ n) : okD n (OD.enc a) = true := numD_ok (numD_mono h (OD.num a))
theorem okEs (l : List α) {n : Nat} (h : OD.dp α ≤ n) : okD.okDs n (l.map OD.enc) = true := okDs_iff.mpr fun d hd => by
  obtain ⟨a, _, rfl⟩ := List.mem_map.mp hd
  exact okE a h
end
theorem eqp (p q : Int × Int) : eqD (prD p) (prD q) = decide (p = q) := by
  rw [Bool.eq_iff_iff, decide_eq_true_iff]
  exact eq_enc p q
theorem eqps (l m : List (Int × Int)) : eqD.eqDs (l.map prD) (m.map prD) = decide (l = m) := by
  rw [Bool.eq_iff_iff, decide_eq_true_iff]
  exact eqs_enc l m
theorem anyp (l : List (Int × Int)) (p : Int × Int) : ((l.map prD).any fun z => eqD z (prD p)) = decide (p ∈ l) := by
  rw [Bool.eq_iff_iff, decide_eq_true_iff]
  exact any_enc l p
theorem okp (p : Int × Int) : okD 60 (prD p) = true := rfl
theorem okps (l : List (Int × Int)) : okD.okDs 59 (l.map prD) = true := okEs l (by decide)
theorem okpt (l : List (Int × Int)) : okD 60 (.tup (l.map prD)) = true := okps l
theorem okpl (l : List (Int × Int)) : okD 60 (.lst (l.map prD)) = true := okps l
def rwD (r : List (Int × Int)) : D := .tup (r.map prD)
theorem eqr (p q : List (Int × Int)) : eqD (rwD p) (rwD q) = decide (p = q) := by
  rw [Bool.eq_iff_iff, decide_eq_true_iff]
  exact eq_enc p q
theorem eqrs (l m : List (List (Int × Int))) : eqD.eqDs (l.map rwD) (m.map rwD) = decide (l = m) := by
  rw [Bool.eq_iff_iff, decide_eq_true_iff]
  exact eqs_enc l m
theorem anyr (l : List (List (Int × Int))) (p : List (Int × Int)) : ((l.map rwD).any fun z => eqD z (rwD p)) = decide (p ∈ l) := by
  rw [Bool.eq_iff_iff, decide_eq_true_iff]
  exact any_enc l p
theorem okr (p : List (Int × Int)) : okD 60 (rwD p) = true := okps p
theorem okrs (l : List (List (Int × Int))) : okD.okDs 59 (l.map rwD) = true := okEs l (by decide)
theorem okrt (l : List (List (Int × Int))) : okD 60 (.tup (l.map rwD)) = true := okrs l
theorem okrl (l : List (List (Int × Int))) : okD 60 (.lst (l.map rwD)) = true := okrs l
theorem lt_iff {p q : Int × Int} : OD.lt p q ↔ ltI2 p q := Iff.rfl
theorem any_map {α : Type} (l : List α) (f : α → Bool) : (l.map f).any id = l.any f := by rw [List.any_map]; rfl
end DL

set_option Elab.async false
set_option linter.all false
set_option maxRecDepth 100000
set_option maxHeartbeats 4000000
namespace DL
open PySem PySem.Spec PyProof.Rows L2
variable [TabsOf]
def rgOk (a b : Int) : Prop := 0 ≤ a ∧ b ≤ 16777216 ∧ a ≤ 16777216 ∧ 0 ≤ b
def pLRg1 (p : TED) : TED := fun ρ R => p ρ fun x => dInt x fun n => rgOk 0 n ∧ R (.lst (rangeD 0 n))
def pLRg2 (p q : TED) : TED := fun ρ R => p ρ fun x => q ρ fun y => dInt x fun a => dInt y fun b => rgOk a b ∧ R (.lst (rangeD a b))
section
variable {X : Cx} {own : List Nat} {p q : TED} {a b : Expr} {pn p2 pos pos2 : Pos}
def dIndex (x y : D) (R : D → Prop) : Prop := match x with
  | .lst ds => (okD 60 y = true ∧ okD 60 (.lst ds) = true) ∧ ∃ (j : Nat) (d : D), ds[j]? = some d ∧ eqD d y = true ∧ (∀ m d', m < j → ds[m]? = some d' → eqD d' y = false) ∧ R (.int j)
  | _ => False
def lstOf (x : D) (f : List D → Prop) : Prop := match x with | .lst ds => f ds | _ => False
def pIndex (p q : TED) : TED := fun ρ R => p ρ fun x => lstOf x fun ds => q ρ fun y => dIndex (.lst ds) y R
end
def sAug (i : Nat) (f : Int → Int → Int) (pe : TED) : TSD := fun DD ρ => pV i ρ fun x => dInt x fun a => pe ρ fun y => dInt y fun b => DD.nx (ρ.set i (some (.int (f a b))))
section
variable {R : D → Prop} {ρ : PEnv} {p q : TED} {i : Nat} {DD : DEnds} {ds : List D} {d : D} {f : Int → Int → Int}
theorem x_lrg1 : pLRg1 p ρ R = p ρ fun x => dInt x fun n => rgOk 0 n ∧ R (.lst (rangeD 0 n)) := propext Iff.rfl
theorem x_lrg2 : pLRg2 p q ρ R = p ρ fun x => q ρ fun y => dInt x fun a => dInt y fun b => rgOk a b ∧ R (.lst (rangeD a b)) := propext Iff.rfl
theorem x_index : pIndex p q ρ R = p ρ fun x => lstOf x fun ds => q ρ fun y => dIndex (.lst ds) y R := propext Iff.rfl
theorem x_lstOf {f : List D → Prop} : lstOf (.lst ds) f = f ds := propext Iff.rfl
theorem x_aug : sAug i f p DD ρ = pV i ρ fun x => dInt x fun a => p ρ fun y => dInt y fun b => DD.nx (ρ.set i (some (.int (f a b)))) := propext Iff.rfl
end
end DL

set_option Elab.async false
set_option linter.all false
set_option maxRecDepth 100000
set_option maxHeartbeats 4000000
namespace DL
open PySem PySem.Spec PyProof.Rows L2
variable [TabsOf]
section
variable {c c' : Cfg} {own : List Nat} {A : Addr → Prop} {σ : L2.St} {ρ : PEnv} {H H1 H' : Hp} {v : V} {d : D} {p : Addr}
theorem EnvR.stepA (E : EnvR c own A σ ρ H) (t : Step c H c' H') (hp : H p = none) (ns : ¬ c'.S p) (av : AvOk H' p) : EnvR c' own (fun b => A b ∨ b = p) σ ρ H' := by
  have m : ∀ b o, ¬ Avd c own A σ ρ b → H b = some o → ¬ Avd c' own (fun b => A b ∨ b = p) σ ρ b ∧ H' b = some o := fun b o n e => by
    obtain ⟨n', e'⟩ := E.mv t b o n e
    refine ⟨fun z => ?_, e'⟩
    rcases z with (z | z) | z | z
    · exact n' (.inl z)
    · rw [z, hp] at e; cases e
    · exact n' (.inr (.inl z))
    · exact n' (.inr (.inr z))
  refine ⟨t.fok, E.len, fun a h => h.elim (fun h => t.avOk (E.avA a h)) fun h => h ▸ av, fun i d h hi => ?_, fun i d h hi => ?_, E.dist⟩
  · obtain ⟨v, h1, h2⟩ := E.slot i d h hi
    exact ⟨v, h1, Rep.mv t.kk t.sub m d v h2⟩
  · obtain ⟨a, h1, h2, h3, h4⟩ := E.ownS i d h hi
    have ha : a ≠ p := fun z => h4.some (z ▸ hp)
    refine ⟨a, h1, fun z => z.elim h2 ha, fun z => ?_, h4.mv t.kk t.sub m fun o e => t.keep a o h3 e⟩
    rcases t.new a z with z | z
    · exact h3 z
    · exact h4.some z
theorem Fr.avOk (r : Fr c own A σ ρ H H' v d) : ∃ p, v = .ref p ∧ H p = none ∧ ¬ c.S p ∧ AvOk H' p := by
  obtain ⟨p, e, h, ns, r⟩ := r
  refine ⟨p, e, h, ns, r.some, fun vs z => ?_⟩
  cases r with
  | lst _ h _ => rw [h] at z; cases z
  | dT _ h _ => rw [h] at z; cases z
  | dK _ h _ => rw [h] at z; cases z
end
end DL

set_option Elab.async false
set_option linter.all false
set_option maxRecDepth 100000
set_option maxHeartbeats 4000000
namespace DL
open PySem PySem.Spec PyProof.Rows L2
section
variable {α : Type}
def rowM : List α → Nat → List α
  | [], _ => []
  | c :: cs, m => if m % 2 = 1 then c :: rowM cs (m / 2) else rowM cs (m / 2)
theorem rowM_sub : ∀ (cs : List α) (m : Nat), (rowM cs m).Sublist cs
  | [], _ => .slnil
  | c :: cs, m => by
    unfold rowM
    split
    · exact (rowM_sub cs _).cons₂ c
    · exact (rowM_sub cs _).cons c
theorem mem_rowM {cs : List α} {m : Nat} {x : α} (h : x ∈ rowM cs m) : x ∈ cs := (rowM_sub cs m).subset h
theorem rowM_nd {cs : List α} (h : cs.Nodup) (m : Nat) : (rowM cs m).Nodup := (rowM_sub cs m).nodup h
theorem rowM_inj : ∀ {cs : List α}, cs.Nodup → ∀ m m', m < 2 ^ cs.length → m' < 2 ^ cs.length → rowM cs m = rowM cs m' → m = m'
  | [], _, m, m', h, h', _ => by simp at h h'; omega
  | c :: cs, nd, m, m', h, h', e => by
    obtain ⟨n1, n2⟩ := List.nodup_cons.mp nd
    rw [List.length_cons, Nat.pow_succ] at h h'
    unfold rowM at e
    have ih := rowM_inj n2 (m / 2) (m' / 2) (by omega) (by omega)
    split at e <;> split at e
    · have := ih (List.cons.inj e).2
      omega
    · exact absurd (mem_rowM (by rw [← e]; exact List.mem_cons_self)) n1
    · exact absurd (mem_rowM (by rw [e]; exact List.mem_cons_self)) n1
    · have := ih e
      omega
theorem rowM_of (p : α → Bool) : ∀ cs : List α, ∃ m, m < 2 ^ cs.length ∧ rowM cs m = cs.filter p
  | [] => ⟨0, by simp, rfl⟩
  | c :: cs => by
    obtain ⟨m, h, e⟩ := rowM_of p cs
    rw [List.length_cons, Nat.pow_succ]
    by_cases hp : p c = true
    · refine ⟨2 * m + 1, by omega, ?_⟩
      unfold rowM
      rw [if_pos (by omega), show (2 * m + 1) / 2 = m by omega, e, List.filter_cons_of_pos hp]
    · refine ⟨2 * m, by omega, ?_⟩
      unfold rowM
      rw [if_neg (by omega), show (2 * m) / 2 = m by omega, e, List.filter_cons_of_neg hp]
end
abbrev Cell := Int × Int
theorem row_eq {r s : List Cell} (hr : r.Pairwise OD.lt) (hs : s.Pairwise OD.lt) (h1 : ∀ c ∈ r, c ∈ s) (h2 : ∀ c ∈ s, c ∈ r) : r = s := lt_uniq hr hs fun x => ⟨h1 x, h2 x⟩
theorem sub_len {α : Type} {r s : List α} (hr : r.Nodup) (h : ∀ c ∈ r, c ∈ s) : r.length ≤ s.length := by
  induction r generalizing s with
  | nil => exact Nat.zero_le _
  | cons a r ih =>
    classical
    obtain ⟨n1, n2⟩ := List.nodup_cons.mp hr
    have ha : a ∈ s := h a (by simp)
    have := ih (s := s.erase a) n2 fun c hc => (List.mem_erase_of_ne (fun e => n1 (by rw [← e]; exact hc))).2 (h c (by simp [hc]))
    rw [List.length_erase_of_mem ha] at this
    have := List.length_pos_of_mem ha
    rw [List.length_cons]
    omega
structure Rows (rows : List (List Cell)) : Prop where
  srt : rows.Pairwise OD.lt
  row : ∀ r ∈ rows, r ≠ [] ∧ r.Pairwise OD.lt
  anti : ∀ r ∈ rows, ∀ s ∈ rows, (∀ c ∈ r, c ∈ s) → r = s
structure Pln (most : Nat) (P : Cell → Prop) (rows : List (List Cell)) : Prop extends Rows rows where
  ne : rows ≠ []
  cells : ∃ cs : List Cell, cs.length ≤ most ∧ cs.Nodup ∧ (∀ c ∈ cs, P c) ∧ ∀ r ∈ rows, ∀ c ∈ r, c ∈ cs
theorem Pln.len {most : Nat} {P : Cell → Prop} {rows : List (List Cell)} (h : Pln most P rows) : rows.length ≤ 2 ^ most := by
  obtain ⟨cs, h1, h2, h3, h4⟩ := h.cells
  have hf : ∀ r ∈ rows, ∃ m, m < 2 ^ most ∧ ∀ c, c ∈ rowM cs m ↔ c ∈ r := fun r hr => by
    obtain ⟨m, e1, e2⟩ := rowM_of (fun c => decide (c ∈ r)) cs
    refine ⟨m, Nat.lt_of_lt_of_le e1 (Nat.pow_le_pow_right (by decide) h1), fun c => ?_⟩
    rw [e2, List.mem_filter, decide_eq_true_iff]
    exact ⟨fun h => h.2, fun h => ⟨h4 r hr c h, h⟩⟩
  classical
  let f : List Cell → Nat := fun r => if h : r ∈ rows then (hf r h).choose else 0
  have fs : ∀ r (h : r ∈ rows), f r < 2 ^ most ∧ ∀ c, c ∈ rowM cs (f r) ↔ c ∈ r := fun r h => by
    show (if h : r ∈ rows then (hf r h).choose else 0) < _ ∧ _
    have e : f r = (hf r h).choose := dif_pos h
    rw [e]
    rw [dif_pos h]
    exact (hf r h).choose_spec
  have nd : (rows.map f).Nodup := by
    refine List.Pairwise.map f (R := fun r s => r ∈ rows ∧ s ∈ rows ∧ OD.lt r s) (fun r s hrs e => ?_) ?_
    · obtain ⟨h1, h2, h3⟩ := hrs
      have e' : r = s := row_eq (h.row r h1).2 (h.row s h2).2 (fun c hc => ((fs s h2).2 c).mp (by rw [← e]; exact ((fs r h1).2 c).mpr hc)) fun c hc => ((fs r h1).2 c).mp (by rw [e]; exact ((fs s h2).2 c).mpr hc)
      rw [e'] at h3
      exact OD.irr _ h3
    · exact List.Pairwise.imp_of_mem (fun {a b} ha hb hl => ⟨ha, hb, hl⟩) h.srt
  have := sub_len (s := List.range (2 ^ most)) nd fun x hx => by
    obtain ⟨r, hr, rfl⟩ := List.mem_map.mp hx
    exact List.mem_range.mpr (fs r hr).1
  rwa [List.length_map, List.length_range] at this
end DL

set_option Elab.async false
set_option linter.all false
set_option maxRecDepth 100000
set_option maxHeartbeats 4000000
namespace DL
open PySem PySem.Spec PyProof.Rows L2
def cp (c p : Cell) : Cell := (c.1 + p.1, c.2 + p.2)
def Br (is r : List Cell) (p : Cell) : Prop := ∀ c ∈ r, cp c p ∈ is
instance (is r : List Cell) (p : Cell) : Decidable (Br is r p) := inferInstanceAs (Decidable (∀ c ∈ r, cp c p ∈ is))
structure Beat (rows : List (List Cell)) (is bs : List Cell) : Prop where
  srt : bs.Pairwise OD.lt
  mem : ∀ p, p ∈ bs ↔ ∃ r ∈ rows, Br is r p
theorem Beat.uniq {rows : List (List Cell)} {is bs bs' : List Cell} (h : Beat rows is bs) (h' : Beat rows is bs') : bs = bs' := lt_uniq h.srt h'.srt fun p => by rw [h.mem, h'.mem]
theorem sz16 {n : Nat} (h : n ≤ 10000000) : n < sizeLine ∧ n ≤ sizeLine := by
  rw [sizeLine_eq]
  omega
theorem cp_back (c d p : Cell) : p = cp c (0 - d.1, 0 - d.2) ↔ cp d p = c := by
  unfold cp
  constructor
  · rintro rfl; exact Prod.ext (by show d.1 + (c.1 + (0 - d.1)) = c.1; omega) (by show d.2 + (c.2 + (0 - d.2)) = c.2; omega)
  · rintro rfl; exact Prod.ext (by show p.1 = d.1 + p.1 + (0 - d.1); omega) (by show p.2 = d.2 + p.2 + (0 - d.2); omega)
def bkR (r : List Cell) : Cell := match r with | [] => (0, 0) | d :: _ => (0 - d.1, 0 - d.2)
def Ne (rows : List (List Cell)) : Prop := ∀ r ∈ rows, r ≠ []
def bt (rows : List (List Cell)) (is : List Cell) : List Cell := osrtU ((rows.flatMap fun r => is.map fun c => cp c (bkR r)).filter fun p => decide (∃ r ∈ rows, Br is r p))
theorem bt_beat {rows : List (List Cell)} (hne : Ne rows) (is : List Cell) : Beat rows is (bt rows is) := ⟨osrtU_srt _, fun p => by
  unfold bt
  rw [mem_osrtU, List.mem_filter, decide_eq_true_iff]
  refine ⟨fun h => h.2, fun h => ⟨?_, h⟩⟩
  obtain ⟨r, hr, z⟩ := h
  refine List.mem_flatMap.mpr ⟨r, hr, ?_⟩
  cases r with
  | nil => exact absurd rfl (hne _ hr)
  | cons d r => exact List.mem_map.mpr ⟨cp d p, z d (by simp), ((cp_back _ _ _).mpr rfl).symm⟩⟩
theorem Beat.bt {rows : List (List Cell)} (hne : Ne rows) {is bs : List Cell} (h : Beat rows is bs) : bs = bt rows is := h.uniq (bt_beat hne is)
def itB (rows : List (List Cell)) (is : List Cell) : Nat → List Cell
  | 0 => is
  | n + 1 => bt rows (itB rows is n)
def InB (x y W : Int) (is : List Cell) : Prop := ∀ c ∈ is, (x ≤ c.1 ∧ c.1 < x + W) ∧ (y ≤ c.2 ∧ c.2 < y + W)
theorem InB.len {x y W : Int} {is : List Cell} (h : InB x y W is) (nd : is.Nodup) (hW : 0 ≤ W) : is.length ≤ W.toNat * W.toNat := by
  have key : ∀ (l : List Nat) (f : Nat → List Cell) (k : Nat), (∀ a ∈ l, (f a).length = k) → (l.flatMap f).length = l.length * k := by
    intro l f k
    induction l with
    | nil => intro _; simp
    | cons a l ih =>
      intro hf
      rw [List.flatMap_cons, List.length_append, hf a (by simp), ih fun b hb => hf b (by simp [hb]), List.length_cons, Nat.succ_mul]
      omega
  have : is.length ≤ _ := sub_len (s := (List.range W.toNat).flatMap fun a : Nat => (List.range W.toNat).map fun b : Nat => ((x + (a : Int), y + (b : Int)) : Cell)) nd fun c hc => by
    obtain ⟨⟨h1, h2⟩, h3, h4⟩ := h c hc
    refine List.mem_flatMap.mpr ⟨(c.1 - x).toNat, List.mem_range.mpr (by omega), List.mem_map.mpr ⟨(c.2 - y).toNat, List.mem_range.mpr (by omega), ?_⟩⟩
    exact Prod.ext (by show x + ((c.1 - x).toNat : Int) = c.1; omega) (by show y + ((c.2 - y).toNat : Int) = c.2; omega)
  rw [key _ _ W.toNat (fun a _ => by rw [List.length_map, List.length_range]), List.length_range] at this
  exact this
def Fit (rows : List (List Cell)) (is : List Cell) (N : Nat) : Prop := ∀ n, n ≤ N → (itB rows is n).length ≤ 1000
theorem Fit.mono {rows : List (List Cell)} {is : List Cell} {N M : Nat} (h : Fit rows is N) (hm : M ≤ N) : Fit rows is M := fun n hn => h n (by omega)
def fw : List (List Cell) → Nat → Option Nat
  | [], _ => none
  | x :: l, k => if x = [] then some k else fw l (k + 1)
end DL

set_option Elab.async false
set_option linter.all false
set_option maxRecDepth 100000
set_option maxHeartbeats 4000000
namespace DL
open PySem PySem.Spec PyProof.Rows L2
def mv (b : Cell) (is : List Cell) : List Cell := is.map fun c => cp c b
end DL

set_option Elab.async false
set_option linter.all false
set_option maxRecDepth 100000
set_option maxHeartbeats 4000000
namespace DL
open PySem PySem.Spec PyProof.Rows L2
variable [TabsOf]
section
variable {X : Cx} {own : List Nat} {p : TED}
def dRevA (x : D) (R : D → Prop) : Prop := match x with | .lst ds => R (.lst ds.reverse) | .tup ds => R (.tup ds.reverse) | _ => False
variable {ds : List D} {R : D → Prop}
theorem x_revAL : dRevA (.lst ds) R = R (.lst ds.reverse) := propext Iff.rfl
theorem x_revAT : dRevA (.tup ds) R = R (.tup ds.reverse) := propext Iff.rfl
end
end DL

set_option Elab.async false
set_option linter.all false
set_option maxRecDepth 100000
set_option maxHeartbeats 4000000
namespace DL
open PySem PySem.Spec PyProof.Rows L2
variable [TabsOf]
def dSumA (ds : List D) (R : D → Prop) : Prop := oneD ds fun x => match x with
  | .lst es => ∃ ns : List Int, es = ns.map D.int ∧ R (.int ns.sum)
  | .tup es => ∃ ns : List Int, es = ns.map D.int ∧ R (.int ns.sum)
  | _ => False
section
variable {R : D → Prop} {es : List D}
theorem x_sumAL : dSumA [.lst es] R = ∃ ns : List Int, es = ns.map D.int ∧ R (.int ns.sum) := propext Iff.rfl
theorem x_sumAT : dSumA [.tup es] R = ∃ ns : List Int, es = ns.map D.int ∧ R (.int ns.sum) := propext Iff.rfl
end
end DL

set_option Elab.async false
set_option linter.all false
set_option maxRecDepth 100000
set_option maxHeartbeats 4000000

set_option Elab.async false
set_option linter.all false
set_option maxRecDepth 100000
set_option maxHeartbeats 4000000

set_option Elab.async false
set_option linter.all false
set_option maxRecDepth 100000
set_option maxHeartbeats 4000000
namespace DL
open PySem PySem.Spec PyProof.Rows L2
def cr (u v : Cell) : Int := u.1 * v.2 - u.2 * v.1
def lf (s c : Cell) : Int := s.1 * c.1 + s.2 * c.2
def df (a b : Cell) : Cell := (b.1 - a.1, b.2 - a.2)
def tn (a b c : Cell) : Int := (b.1 - a.1) * (c.2 - a.2) - (b.2 - a.2) * (c.1 - a.1)
theorem cr_id (s u v w : Cell) : cr u w * lf s v = cr u v * lf s w + cr v w * lf s u := by
  simp only [cr, lf]
  grind
theorem pos_of_mul {x y : Int} (h : 0 ≤ x * y) (hy : 0 < y) : 0 ≤ x := by
  refine Classical.byContradiction fun n => ?_
  have := Int.mul_le_mul_of_nonneg_right (show x ≤ -1 by omega) (show 0 ≤ y by omega)
  omega
theorem cr_df (a b c : Cell) : tn a b c = cr (df a b) (df a c) := rfl
theorem tn_1 (a b c : Cell) : tn a b c = cr (df a b) (df b c) := by simp only [tn, cr, df]; grind
theorem tn_cyc (a b c : Cell) : tn a b c = tn b c a := by simp only [tn]; grind
theorem tn_swap (a b c : Cell) : tn a b c = - tn b a c := by simp only [tn]; grind
theorem tn_same (a b : Cell) : tn a b b = 0 := by simp only [tn]; grind
theorem tn_same0 (a b : Cell) : tn a b a = 0 := by simp only [tn]; grind
theorem lf_df (s a b : Cell) : lf s (df a b) = lf s b - lf s a := by simp only [lf, df]; grind
def Edg (S : List Cell) : List Cell → Prop
  | b :: a :: l => (∀ c ∈ S, 0 ≤ tn a b c) ∧ Edg S (a :: l)
  | _ => True
def TriS : List Cell → Prop
  | c :: b :: a :: l => 0 < tn a b c ∧ TriS (b :: a :: l)
  | _ => True
def Bot (s : Cell) (S : List Cell) : List Cell → Prop
  | [a] => ∀ c ∈ S, lf s a ≤ lf s c
  | _ :: b :: l => Bot s S (b :: l)
  | [] => True
structure Stk (s : Cell) (S st : List Cell) : Prop where
  sub : ∀ c ∈ st, c ∈ S
  dec : st.Pairwise fun a b => lf s b < lf s a
  edge : Edg S st
  str : TriS st
  bot : Bot s S st
theorem Stk.tail {s : Cell} {S : List Cell} {b a : Cell} {l : List Cell} (h : Stk s S (b :: a :: l)) : Stk s S (a :: l) := by
  refine ⟨fun c hc => h.sub c (List.mem_cons_of_mem _ hc), (List.pairwise_cons.mp h.dec).2, h.edge.2, ?_, h.bot⟩
  cases l with
  | nil => trivial
  | cons z l => exact h.str.2
theorem Bot.app {s : Cell} {S : List Cell} {p : Cell} (hp : ∀ c ∈ S, lf s c < lf s p) : ∀ {st : List Cell}, (∀ c ∈ st, c ∈ S) → Bot s S st → Bot s (S ++ [p]) st
  | [], _, _ => trivial
  | [a], hs, h => fun c hc => by
    rcases List.mem_append.mp hc with z | z
    · exact h c z
    · rw [List.mem_singleton.mp z]
      have := hp a (hs a (by simp))
      omega
  | _ :: b :: l, hs, h => Bot.app (st := b :: l) hp (fun c hc => hs c (List.mem_cons_of_mem _ hc)) h
def EdgF (S : List Cell) : List Cell → Prop
  | a :: b :: l => (∀ c ∈ S, 0 ≤ tn a b c) ∧ EdgF S (b :: l)
  | _ => True
def TriF : List Cell → Prop
  | a :: b :: c :: l => 0 < tn a b c ∧ TriF (b :: c :: l)
  | _ => True
theorem EdgF.app {S : List Cell} : ∀ {x : List Cell} {b : Cell} {y : List Cell}, EdgF S (x ++ [b]) → EdgF S (b :: y) → EdgF S (x ++ b :: y)
  | [], _, _, _, h => h
  | [a], b, y, h1, h2 => ⟨h1.1, h2⟩
  | a :: a' :: x, b, y, h1, h2 => ⟨h1.1, EdgF.app (x := a' :: x) h1.2 h2⟩
theorem TriF.app : ∀ {x : List Cell} {a b : Cell} {y : List Cell}, TriF (x ++ [a, b]) → TriF (a :: b :: y) → TriF (x ++ a :: b :: y)
  | [], _, _, _, _, h => h
  | [z], a, b, y, h1, h2 => ⟨h1.1, h2⟩
  | [z, z'], a, b, y, h1, h2 => ⟨h1.1, h1.2.1, h2⟩
  | z :: z' :: z'' :: x, a, b, y, h1, h2 => ⟨h1.1, TriF.app (x := z' :: z'' :: x) h1.2 h2⟩
theorem Edg.rev {S : List Cell} : ∀ {st : List Cell}, Edg S st → EdgF S st.reverse
  | [], _ => trivial
  | [_], _ => trivial
  | b :: a :: l, h => by
    have ih := Edg.rev (st := a :: l) h.2
    rw [List.reverse_cons] at ih
    rw [List.reverse_cons, List.reverse_cons, List.append_assoc]
    exact EdgF.app ih ⟨h.1, trivial⟩
theorem TriS.rev : ∀ {st : List Cell}, TriS st → TriF st.reverse
  | [], _ => trivial
  | [_], _ => trivial
  | [_, _], _ => trivial
  | c :: b :: a :: l, h => by
    have ih := TriS.rev (st := b :: a :: l) h.2
    rw [List.reverse_cons, List.reverse_cons, List.append_assoc] at ih
    rw [List.reverse_cons, List.reverse_cons, List.reverse_cons, List.append_assoc, List.append_assoc]
    exact TriF.app ih ⟨h.1, trivial⟩
theorem EdgF.get {S : List Cell} : ∀ {l : List Cell} {i : Nat} {a b : Cell}, EdgF S l → l[i]? = some a → l[i + 1]? = some b → ∀ c ∈ S, 0 ≤ tn a b c
  | a' :: b' :: l, 0, a, b, h, h1, h2 => by
    cases h1; cases h2
    exact h.1
  | a' :: b' :: l, i + 1, a, b, h, h1, h2 => EdgF.get (l := b' :: l) (i := i) h.2 (by simpa using h1) (by simpa using h2)
  | [_], 0, _, _, _, _, h2 => by simp at h2
  | [_], i + 1, _, _, _, h1, _ => by simp at h1
  | [], _, _, _, _, h1, _ => by simp at h1
theorem TriF.get : ∀ {l : List Cell} {i : Nat} {a b c : Cell}, TriF l → l[i]? = some a → l[i + 1]? = some b → l[i + 2]? = some c → 0 < tn a b c
  | a' :: b' :: c' :: l, 0, a, b, c, h, h1, h2, h3 => by
    cases h1; cases h2; cases h3
    exact h.1
  | a' :: b' :: c' :: l, i + 1, a, b, c, h, h1, h2, h3 => TriF.get (l := b' :: c' :: l) (i := i) h.2 (by simpa using h1) (by simpa using h2) (by simpa using h3)
  | [_, _], 0, _, _, _, _, _, _, h3 => by simp at h3
  | [_, _], 1, _, _, _, _, _, _, h3 => by simp at h3
  | [_, _], i + 2, _, _, _, _, h1, _, _ => by simp at h1
  | [_], 0, _, _, _, _, _, h2, _ => by simp at h2
  | [_], i + 1, _, _, _, _, h1, _, _ => by simp at h1
  | [], _, _, _, _, _, h1, _, _ => by simp at h1
theorem col_all {s : Cell} {S : List Cell} {a m : Cell} (hf : lf s a < lf s m) (h : ∀ c ∈ S, tn a m c = 0) : ∀ x ∈ S, ∀ y ∈ S, ∀ z ∈ S, tn x y z = 0 := by
  intro x hx y hy z hz
  have v : 0 < lf s (df a m) := by rw [lf_df]; omega
  have e : ∀ p ∈ S, ∀ q ∈ S, cr (df a m) (df p q) = 0 := fun p hp q hq => by
    have h1 := h p hp
    have h2 := h q hq
    have : cr (df a m) (df p q) = tn a m q - tn a m p := by simp only [tn, cr, df]; grind
    omega
  have h1 := e x hx y hy
  have h2 := e x hx z hz
  have := cr_id s (df x y) (df a m) (df x z)
  have h3 : cr (df x y) (df a m) = 0 := by have : cr (df x y) (df a m) = - cr (df a m) (df x y) := by simp only [cr]; grind
                                           omega
  rw [h3, h2, Int.zero_mul, Int.zero_mul] at this
  have : cr (df x y) (df x z) = 0 := by
    rcases Int.mul_eq_zero.mp this with z | z
    · exact z
    · omega
  rw [cr_df]
  exact this
end DL

set_option Elab.async false
set_option linter.all false
set_option maxRecDepth 100000
set_option maxHeartbeats 4000000
namespace DL
open PySem PySem.Spec PyProof.Rows L2
theorem lex_lf (S : List Cell) : ∃ s : Cell, ∀ a ∈ S, ∀ b ∈ S, OD.lt a b → lf s a < lf s b := by
  have hN : ∃ N : Int, 0 ≤ N ∧ ∀ c ∈ S, -N ≤ c.2 ∧ c.2 ≤ N := by
    induction S with
    | nil => exact ⟨0, by decide, fun _ h => nomatch h⟩
    | cons d S ih =>
      obtain ⟨N, h0, h⟩ := ih
      refine ⟨N + d.2.natAbs, by omega, fun c hc => ?_⟩
      rcases List.mem_cons.mp hc with z | z
      · rw [z]; omega
      · have := h c z; omega
  obtain ⟨N, h0, h⟩ := hN
  refine ⟨(2 * N + 1, 1), fun a ha b hb hl => ?_⟩
  rw [lt_iff] at hl
  unfold ltI2 at hl
  have h1 := h a ha
  have h2 := h b hb
  simp only [lf]
  rcases hl with z | ⟨z, y⟩
  · have : (2 * N + 1) * (a.1 + 1) ≤ (2 * N + 1) * b.1 := Int.mul_le_mul_of_nonneg_left (by omega) (by omega)
    rw [Int.mul_add] at this
    omega
  · rw [z]; omega
theorem Bot.head {s : Cell} {S : List Cell} : ∀ {st : List Cell} {a : Cell} {l : List Cell}, Bot s S st → st.reverse = a :: l → ∀ c ∈ S, lf s a ≤ lf s c
  | [], _, _, _, e => by simp at e
  | [x], a, l, h, e => by
    simp at e
    rw [← e.1]
    exact h
  | x :: b :: t, a, l, h, e => by
    rw [List.reverse_cons] at e
    obtain ⟨a', l', e'⟩ := List.exists_cons_of_ne_nil (show (b :: t).reverse ≠ [] by simp)
    rw [e'] at e
    injection e with e1 _
    rw [← e1]
    exact Bot.head (st := b :: t) h e'
structure Half (s : Cell) (S L : List Cell) (f m : Cell) : Prop where
  sub : ∀ c ∈ L, c ∈ S
  inc : L.Pairwise fun a b => lf s a < lf s b
  edge : EdgF S L
  tri : TriF L
  fst : ∃ Y, L = f :: Y ∧ Y ≠ []
  lst : ∃ X, L = X ++ [m] ∧ X ≠ []
  low : ∀ c ∈ S, lf s c ≤ lf s f → c = f
  top : ∀ c ∈ S, lf s m ≤ lf s c → c = m
  fS : f ∈ S
  mS : m ∈ S
theorem EdgF.mem {S S' : List Cell} (h : ∀ c ∈ S', c ∈ S) : ∀ {l : List Cell}, EdgF S l → EdgF S' l
  | [], _ => trivial
  | [_], _ => trivial
  | a :: b :: l, e => ⟨fun c hc => e.1 c (h c hc), EdgF.mem (l := b :: l) h e.2⟩
theorem corner {s : Cell} {S : List Cell} {a m b : Cell} (ha : lf s a < lf s m) (hb : lf s b < lf s m) (haS : a ∈ S) (hbS : b ∈ S) (top : ∀ c ∈ S, lf s c ≤ lf s m) (e1 : ∀ c ∈ S, 0 ≤ tn a m c) (e2 : ∀ c ∈ S, 0 ≤ tn m b c) : 0 < tn a m b ∨ ∀ x ∈ S, ∀ y ∈ S, ∀ z ∈ S, tn x y z = 0 := by
  by_cases c : 0 < tn a m b
  · exact .inl c
  · refine .inr (col_all ha fun x hx => ?_)
    have z0 := e1 b hbS
    have v : 0 < lf s (df a m) := by rw [lf_df]; omega
    have w : 0 < lf s (df b m) := by rw [lf_df]; omega
    have p1 := e1 x hx
    have p2 := e2 x hx
    have i := cr_id s (df a m) (df b m) (df x m)
    have t1 : cr (df a m) (df b m) = - tn a m b := by simp only [tn, cr, df]; grind
    have t2 : cr (df b m) (df x m) = tn m b x := by simp only [tn, cr, df]; grind
    have t3 : cr (df a m) (df x m) = - tn a m x := by simp only [tn, cr, df]; grind
    rw [t1, t2, t3] at i
    have z : tn a m b = 0 := by omega
    rw [z] at i
    have q := Int.mul_nonneg p2 (Int.le_of_lt v)
    have : 0 ≤ - tn a m x := pos_of_mul (y := lf s (df b m)) (by rw [i]; omega) w
    omega
theorem split_last {α : Type} {l : List α} (h : l ≠ []) : ∃ x a, l = x ++ [a] := ⟨l.dropLast, l.getLast h, (List.dropLast_concat_getLast h).symm⟩
structure Hul (S H : List Cell) : Prop where
  len : 2 ≤ H.length
  sub : ∀ c ∈ H, c ∈ S
  head : H.head? = S.head?
  nd : H.Nodup
  edge : EdgF S (H ++ H.take 1)
  tri : 3 ≤ H.length → TriF (H ++ H.take 2)
  two : H.length = 2 → H[1]? = S.getLast?
end DL

set_option Elab.async false
set_option linter.all false
set_option maxRecDepth 100000
set_option maxHeartbeats 4000000
namespace DL
open PySem PySem.Spec PyProof.Rows L2
def Tn (a b : Cell) (X Y L : Int) : Int := (b.1 - a.1) * (Y - a.2 * L) - (b.2 - a.2) * (X - a.1 * L)
theorem Tn_swap (a b : Cell) (X Y L : Int) : Tn b a X Y L = - Tn a b X Y L := by simp only [Tn]; grind
abbrev Side := Cell × Int
def Held (d : Side) (X Y L : Int) : Prop := d.2 * L ≤ d.1.1 * X + d.1.2 * Y
instance (d : Side) (X Y L : Int) : Decidable (Held d X Y L) := inferInstanceAs (Decidable (_ ≤ _))
def nxt (H : List Cell) : List Cell := H.tail ++ H.take 1
def sideAt (s c : Cell) : Side := (s, lf s c)
def EdgZ (S : List Cell) (H : List Cell) : Prop := ∀ p ∈ H.zip (nxt H), ∀ c ∈ S, 0 ≤ tn p.1 p.2 c
theorem EdgF.zip {S : List Cell} : ∀ {l : List Cell} {x : Cell}, EdgF S (x :: l) → ∀ p ∈ (x :: l).zip l, ∀ c ∈ S, 0 ≤ tn p.1 p.2 c
  | [], _, _, _, h => nomatch h
  | y :: l, x, h, p, hp => by
    rw [List.zip_cons_cons] at hp
    rcases List.mem_cons.mp hp with z | z
    · rw [z]; exact h.1
    · exact EdgF.zip (l := l) (x := y) h.2 p z
theorem zip_app_left {α β : Type} : ∀ (l m : List α) (k : List β), k.length ≤ l.length → (l ++ m).zip k = l.zip k
  | [], m, [], _ => by simp
  | [], _, _ :: _, h => by simp at h
  | a :: l, m, [], _ => by simp
  | a :: l, m, b :: k, h => by
    rw [List.cons_append, List.zip_cons_cons, List.zip_cons_cons, zip_app_left l m k (by simpa using h)]
theorem Hul.edgZ {S H : List Cell} (h : Hul S H) : EdgZ S H := by
  have h2 := h.len
  match H, h, h2 with
  | x :: H', h, _ =>
    have e := h.edge
    have : (x :: H') ++ (x :: H').take 1 = x :: nxt (x :: H') := rfl
    rw [this] at e
    intro p hp
    refine e.zip p ?_
    have e2 : (x :: nxt (x :: H')).zip (nxt (x :: H')) = (x :: H').zip (nxt (x :: H')) := by
      rw [← this]
      exact zip_app_left _ _ _ (by unfold nxt; simp)
    rw [e2]
    exact hp
def dt (u v : Cell) : Int := u.1 * v.1 + u.2 * v.2
theorem dt_pos {u : Cell} (h : u ≠ (0, 0)) : 0 < dt u u := by
  have s0 : ∀ a : Int, 0 ≤ a * a := fun a => by rw [← Int.natAbs_mul_self]; exact Int.natCast_nonneg _
  have s1 : ∀ a : Int, a ≠ 0 → 0 < a * a := fun a ha => by
    have := Int.natAbs_pos.mpr ha
    rw [← Int.natAbs_mul_self]
    have := Nat.mul_pos this this
    omega
  obtain ⟨x, y⟩ := u
  unfold dt
  simp only
  have := s0 x
  have := s0 y
  by_cases hx : x = 0
  · by_cases hy : y = 0
    · rw [hx, hy] at h; exact absurd rfl h
    · have := s1 y hy; omega
  · have := s1 x hx; omega
theorem df_ne {a b : Cell} (h : a ≠ b) : df a b ≠ (0, 0) := fun z => h (by
  unfold df at z
  injection z with z1 z2
  exact Prod.ext (by omega) (by omega))
structure Two (cs : List Cell) (a b : Cell) : Prop where
  am : a ∈ cs
  bm : b ∈ cs
  ne : a ≠ b
  col : ∀ c ∈ cs, tn a b c = 0
  d0 : ∀ c ∈ cs, 0 ≤ dt (df a b) (df a c)
  d1 : ∀ c ∈ cs, dt (df a b) (df a c) ≤ dt (df a b) (df a b)
theorem par_dt {s v w : Cell} (hv : 0 < lf s v) (hw : 0 ≤ lf s w) (hc : cr v w = 0) : 0 ≤ dt v w := by
  refine pos_of_mul (y := lf s v) ?_ hv
  have e1 : w.1 * lf s v = v.1 * lf s w - cr v w * s.2 := by simp only [lf, cr]; grind
  have e2 : w.2 * lf s v = v.2 * lf s w + cr v w * s.1 := by simp only [lf, cr]; grind
  rw [hc] at e1 e2
  have : dt v w * lf s v = v.1 * (w.1 * lf s v) + v.2 * (w.2 * lf s v) := by simp only [dt]; grind
  rw [this, e1, e2]
  have q : v.1 * (v.1 * lf s w - 0 * s.2) + v.2 * (v.2 * lf s w + 0 * s.1) = dt v v * lf s w := by simp only [dt]; grind
  rw [q]
  have vne : v ≠ (0, 0) := fun z => by rw [z] at hv; simp [lf] at hv
  exact Int.mul_nonneg (Int.le_of_lt (dt_pos vne)) hw
theorem Hul.two_ok {S H : List Cell} (hS : S.Pairwise OD.lt) (h : Hul S H) (h2 : H.length = 2) : ∃ a b, H = [a, b] ∧ Two S a b := by
  match H, h, h2 with
  | [a, b], h, _ =>
    refine ⟨a, b, rfl, ?_⟩
    have am := h.sub a (by simp)
    have bm := h.sub b (by simp)
    have ne : a ≠ b := (List.nodup_cons.mp h.nd).1 |> fun z e => z (by rw [e]; simp)
    have ez := h.edgZ
    have e1 : ∀ c ∈ S, 0 ≤ tn a b c := ez (a, b) (by simp [nxt])
    have e2 : ∀ c ∈ S, 0 ≤ tn b a c := ez (b, a) (by simp [nxt])
    have col : ∀ c ∈ S, tn a b c = 0 := fun c hc => by
      have p := e1 c hc
      have q := e2 c hc
      have := tn_swap a b c
      omega
    obtain ⟨s, hs⟩ := lex_lf S
    have hd := h.head
    have lst := h.two rfl
    have lo : ∀ c ∈ S, lf s a ≤ lf s c := fun c hc => by
      match S, hS, hs, hd, hc with
      | x :: S', hS, hs, hd, hc =>
        simp at hd
        subst hd
        rcases List.mem_cons.mp hc with z | z
        · rw [z]; exact Int.le_refl _
        · exact Int.le_of_lt (hs a (by simp) c (by simp [z]) ((List.pairwise_cons.mp hS).1 c z))
    have hi : ∀ c ∈ S, lf s c ≤ lf s b := fun c hc => by
      obtain ⟨Z, l, ez'⟩ := split_last (List.ne_nil_of_mem hc)
      have el : b = l := by
        rw [ez', List.getLast?_concat] at lst
        simpa using lst
      subst el
      have hc' := hc
      rw [ez'] at hc'
      rcases List.mem_append.mp hc' with q | q
      · exact Int.le_of_lt (hs c hc b bm (by rw [ez'] at hS; exact (List.pairwise_append.mp hS).2.2 c q b (by simp)))
      · rw [List.mem_singleton.mp q]; exact Int.le_refl _
    have lab : lf s a < lf s b := by
      rcases OD.tri a b with z | z | z
      · exact hs a am b bm z
      · exact absurd z ne
      · have := hs b bm a am z
        have := lo b bm
        omega
    refine ⟨am, bm, ne, col, fun c hc => ?_, fun c hc => ?_⟩
    · exact par_dt (s := s) (by rw [lf_df]; omega) (by rw [lf_df]; have := lo c hc; omega) (col c hc)
    · have q := par_dt (s := s) (v := df a b) (w := df c b) (by rw [lf_df]; omega) (by rw [lf_df]; have := hi c hc; omega) (by
        have := col c hc
        have e : cr (df a b) (df c b) = - tn a b c := by simp only [tn, cr, df]; grind
        omega)
      have e : dt (df a b) (df c b) = dt (df a b) (df a b) - dt (df a b) (df a c) := by simp only [dt, df]; grind
      omega
def BoxC (a b c : Cell) (X Y L : Int) : Prop := ((a.1 * L ≤ X ∨ b.1 * L ≤ X ∨ c.1 * L ≤ X) ∧ (X ≤ a.1 * L ∨ X ≤ b.1 * L ∨ X ≤ c.1 * L)) ∧ (a.2 * L ≤ Y ∨ b.2 * L ≤ Y ∨ c.2 * L ≤ Y) ∧ (Y ≤ a.2 * L ∨ Y ≤ b.2 * L ∨ Y ≤ c.2 * L)
def InTri (a b c : Cell) (X Y L : Int) : Prop := ((0 ≤ Tn a b X Y L ∧ 0 ≤ Tn b c X Y L ∧ 0 ≤ Tn c a X Y L) ∨ (Tn a b X Y L ≤ 0 ∧ Tn b c X Y L ≤ 0 ∧ Tn c a X Y L ≤ 0)) ∧ (Tn a b X Y L = 0 → Tn b c X Y L = 0 → Tn c a X Y L = 0 → BoxC a b c X Y L)
theorem InTri.rot {a b c : Cell} {X Y L : Int} (h : InTri a b c X Y L) : InTri b c a X Y L := by
  unfold InTri BoxC at *
  omega
end DL

set_option Elab.async false
set_option linter.all false
set_option maxRecDepth 100000
set_option maxHeartbeats 4000000
namespace DL
open PySem PySem.Spec PyProof.Rows L2
theorem cyc_at {n j : Nat} {H : List Cell} (hn : H.length = n) (h2 : 2 ≤ n) (hj : j ≤ n + 1) : (H ++ H.take 2)[j]? = H[j % n]? := by
  by_cases c : j < n
  · rw [List.getElem?_append_left (by omega), Nat.mod_eq_of_lt c]
  · rw [List.getElem?_append_right (by omega)]
    have : j % n = j - n := by
      rw [Nat.mod_eq_sub_mod (by omega), Nat.mod_eq_of_lt (by omega)]
    rw [this, hn, List.getElem?_take, if_pos (by omega)]
theorem cyc1_at {n j : Nat} {H : List Cell} (hn : H.length = n) (h2 : 1 ≤ n) (hj : j ≤ n) : (H ++ H.take 1)[j]? = H[j % n]? := by
  by_cases c : j < n
  · rw [List.getElem?_append_left (by omega), Nat.mod_eq_of_lt c]
  · rw [List.getElem?_append_right (by omega)]
    have : j % n = j - n := by
      rw [Nat.mod_eq_sub_mod (by omega), Nat.mod_eq_of_lt (by omega)]
    rw [this, hn, List.getElem?_take, if_pos (by omega)]
theorem Hul.at {S H : List Cell} (h : Hul S H) {k : Nat} (hk : k < H.length) : ∃ a b, H[k]? = some a ∧ H[(k + 1) % H.length]? = some b ∧ ∀ c ∈ S, 0 ≤ tn a b c := by
  have h2 := h.len
  have m1 : (k + 1) % H.length < H.length := Nat.mod_lt _ (by omega)
  refine ⟨H[k], H[(k + 1) % H.length], List.getElem?_eq_getElem hk, List.getElem?_eq_getElem m1, ?_⟩
  refine EdgF.get h.edge (i := k) ?_ ?_
  · rw [cyc1_at rfl (by omega) (by omega), Nat.mod_eq_of_lt hk, List.getElem?_eq_getElem hk]
  · rw [cyc1_at rfl (by omega) (by omega), List.getElem?_eq_getElem m1]
theorem Hul.at3 {S H : List Cell} (h : Hul S H) (h3 : 3 ≤ H.length) {k : Nat} (hk : k < H.length) {a b c : Cell} (ha : H[k]? = some a) (hb : H[(k + 1) % H.length]? = some b) (hc : H[(k + 2) % H.length]? = some c) : 0 < tn a b c := by
  refine TriF.get (h.tri h3) (i := k) ?_ ?_ ?_
  · rw [cyc_at rfl (by omega) (by omega), Nat.mod_eq_of_lt hk, ha]
  · rw [cyc_at rfl (by omega) (by omega), hb]
  · rw [cyc_at rfl (by omega) (by omega), hc]
theorem mod_next {k n : Nat} (hn : 0 < n) : ((k + 1) % n + 1) % n = (k + 2) % n := by rw [Nat.mod_add_mod]
theorem mod_prev {k n : Nat} (hk : k < n) : ((k + n - 1) % n + 1) % n = k ∧ ((k + n - 1) % n + 2) % n = (k + 1) % n := by
  rw [Nat.mod_add_mod, Nat.mod_add_mod]
  refine ⟨?_, ?_⟩
  · rw [show k + n - 1 + 1 = k + n by omega, Nat.add_mod_right, Nat.mod_eq_of_lt hk]
  · rw [show k + n - 1 + 2 = (k + 1) + n by omega, Nat.add_mod_right]
theorem Hul.noncol {S H : List Cell} (h : Hul S H) (h3 : 3 ≤ H.length) {k j : Nat} (hk : k < H.length) (hj : j < H.length) {a b x : Cell} (ea : H[k]? = some a) (eb : H[(k + 1) % H.length]? = some b) (ex : H[j]? = some x) (hz : tn a b x = 0) : x = a ∨ x = b := by
  have n0 : 0 < H.length := by omega
  have get : ∀ i, ∃ z, H[i % H.length]? = some z := fun i => ⟨_, List.getElem?_eq_getElem (Nat.mod_lt _ n0)⟩
  have memS : ∀ {i : Nat} {z : Cell}, H[i]? = some z → z ∈ S := fun e => h.sub _ (List.mem_of_getElem? e)
  -- behind and ahead of the side
  obtain ⟨c, ec⟩ := get (k + 2)
  obtain ⟨z, ez⟩ := get (k + H.length - 1)
  obtain ⟨p1, p2⟩ := mod_prev hk
  have lz : (k + H.length - 1) % H.length < H.length := Nat.mod_lt _ n0
  have l1 : (k + 1) % H.length < H.length := Nat.mod_lt _ n0
  have t1 := h.at3 h3 hk ea eb ec
  have t2 := h.at3 h3 lz ez (by rw [p1]; exact ea) (by rw [p2]; exact eb)
  obtain ⟨b', c', e1, e2, edge_bc⟩ := h.at l1
  rw [eb] at e1; cases e1
  rw [mod_next n0, ec] at e2; cases e2
  obtain ⟨z', a', e1, e2, edge_za⟩ := h.at lz
  rw [ez] at e1; cases e1
  rw [p1, ea] at e2; cases e2
  -- beside the corner
  obtain ⟨y, ey⟩ := get (j + 1)
  obtain ⟨g, eg⟩ := get (j + H.length - 1)
  obtain ⟨q1, q2⟩ := mod_prev hj
  have lg : (j + H.length - 1) % H.length < H.length := Nat.mod_lt _ n0
  have t3 := h.at3 h3 lg eg (by rw [q1]; exact ex) (by rw [q2]; exact ey)
  obtain ⟨g', x', e1, e2, edge_gx⟩ := h.at lg
  rw [eg] at e1; cases e1
  rw [q1, ex] at e2; cases e2
  obtain ⟨x', y', e1, e2, edge_xy⟩ := h.at hj
  rw [ex] at e1; cases e1
  rw [ey] at e2; cases e2
  have xS := memS ex
  have aS := memS ea
  have bS := memS eb
  have nab : a ≠ b := fun z => by
    rw [z, tn_cyc, tn_same0] at t1
    omega
  have vv := dt_pos (df_ne nab)
  generalize hd : dt (df a b) (df a x) = d
  generalize hV : dt (df a b) (df a b) = V at vv
  have hx := edge_bc x xS
  have hx2 := edge_za x xS
  have i1 : tn b c x * V = (V - d) * tn a b c + tn a b x * (dt (df a b) (df b c)) := by rw [← hd, ← hV]; simp only [tn, dt, df]; grind
  have i2 : tn z a x * V = d * tn z a b + tn a b x * (dt (df a b) (df z a)) := by rw [← hd, ← hV]; simp only [tn, dt, df]; grind
  rw [hz] at i1 i2
  have d1 : 0 ≤ V - d := pos_of_mul (y := tn a b c) (by
    have := Int.mul_nonneg hx (Int.le_of_lt vv)
    omega) t1
  have d0 : 0 ≤ d := pos_of_mul (y := tn z a b) (by
    have := Int.mul_nonneg hx2 (Int.le_of_lt vv)
    omega) t2
  have c1 : V * x.1 = V * a.1 + d * (b.1 - a.1) := by
    have : V * (x.1 - a.1) = d * (b.1 - a.1) - tn a b x * (b.2 - a.2) := by rw [← hd, ← hV]; simp only [tn, dt, df]; grind
    rw [hz] at this
    grind
  have c2 : V * x.2 = V * a.2 + d * (b.2 - a.2) := by
    have : V * (x.2 - a.2) = d * (b.2 - a.2) + tn a b x * (b.1 - a.1) := by rw [← hd, ← hV]; simp only [tn, dt, df]; grind
    rw [hz] at this
    grind
  by_cases z0 : d = 0
  · refine .inl (Prod.ext ?_ ?_)
    · rw [z0] at c1
      exact Int.eq_of_mul_eq_mul_left (show V ≠ 0 by omega) (by omega)
    · rw [z0] at c2
      exact Int.eq_of_mul_eq_mul_left (show V ≠ 0 by omega) (by omega)
  · by_cases z1 : d = V
    · refine .inr (Prod.ext ?_ ?_)
      · rw [z1] at c1
        exact Int.eq_of_mul_eq_mul_left (show V ≠ 0 by omega) (by grind)
      · rw [z1] at c2
        exact Int.eq_of_mul_eq_mul_left (show V ≠ 0 by omega) (by grind)
    · exfalso
      have g1 := edge_gx a aS
      have g2 := edge_gx b bS
      have y1 := edge_xy a aS
      have y2 := edge_xy b bS
      have i3 : (V - d) * tn g x a + d * tn g x b = V * tn g x x + 0 := by
        have e : (V - d) * tn g x a + d * tn g x b - V * tn g x x = (x.1 - g.1) * (V * a.2 + d * (b.2 - a.2) - V * x.2) - (x.2 - g.2) * (V * a.1 + d * (b.1 - a.1) - V * x.1) := by simp only [tn]; grind
        rw [c1, c2] at e
        simp only [Int.sub_self, Int.mul_zero] at e
        omega
      have i4 : (V - d) * tn x y a + d * tn x y b = V * tn x y x + 0 := by
        have e : (V - d) * tn x y a + d * tn x y b - V * tn x y x = (y.1 - x.1) * (V * a.2 + d * (b.2 - a.2) - V * x.2) - (y.2 - x.2) * (V * a.1 + d * (b.1 - a.1) - V * x.1) := by simp only [tn]; grind
        rw [c1, c2] at e
        simp only [Int.sub_self, Int.mul_zero] at e
        omega
      rw [tn_same] at i3
      rw [tn_same0] at i4
      have zero : ∀ {p q u v : Int}, 0 < p → 0 < q → 0 ≤ u → 0 ≤ v → p * u + q * v = 0 → u = 0 ∧ v = 0 := by
        intro p q u v hp hq hu hv e
        have a1 := Int.mul_nonneg (Int.le_of_lt hp) hu
        have a2 := Int.mul_nonneg (Int.le_of_lt hq) hv
        refine ⟨?_, ?_⟩
        · rcases Int.mul_eq_zero.mp (show p * u = 0 by omega) with z | z <;> omega
        · rcases Int.mul_eq_zero.mp (show q * v = 0 by omega) with z | z <;> omega
      obtain ⟨g3, g4⟩ := zero (show 0 < V - d by omega) (show 0 < d by omega) g1 g2 (by omega)
      obtain ⟨y3, y4⟩ := zero (show 0 < V - d by omega) (show 0 < d by omega) y1 y2 (by omega)
      have r1 : cr (df g x) (df a b) = 0 := by
        have : cr (df g x) (df a b) = tn g x b - tn g x a := by simp only [cr, df, tn]; grind
        omega
      have r2 : cr (df a b) (df x y) = 0 := by
        have : cr (df a b) (df x y) = tn x y a - tn x y b := by simp only [cr, df, tn]; grind
        omega
      have i5 := cr_id (df a b) (df g x) (df a b) (df x y)
      rw [r1, r2, Int.zero_mul, Int.zero_mul, ← tn_1] at i5
      have : lf (df a b) (df a b) = V := by rw [← hV]; rfl
      rw [this] at i5
      have := Int.mul_pos t3 vv
      omega
def HldF (X Y L : Int) : List Cell → Prop
  | a :: b :: l => 0 ≤ Tn a b X Y L ∧ HldF X Y L (b :: l)
  | _ => True
theorem HldF.get {X Y L : Int} : ∀ {l : List Cell} {i : Nat} {a b : Cell}, HldF X Y L l → l[i]? = some a → l[i + 1]? = some b → 0 ≤ Tn a b X Y L
  | a' :: b' :: l, 0, a, b, h, h1, h2 => by
    cases h1; cases h2
    exact h.1
  | a' :: b' :: l, i + 1, a, b, h, h1, h2 => HldF.get (l := b' :: l) (i := i) h.2 (by simpa using h1) (by simpa using h2)
  | [_], 0, _, _, _, _, h2 => by simp at h2
  | [_], i + 1, _, _, _, h1, _ => by simp at h1
  | [], _, _, _, _, h1, _ => by simp at h1
theorem Two.tri {cs : List Cell} {a b : Cell} (t : Two cs a b) {X Y L : Int} (hL : 0 < L) (h1 : 0 ≤ Tn a b X Y L) (h2 : 0 ≤ Tn b a X Y L) (h3 : Held (sideAt (df a b) a) X Y L) (h4 : Held (sideAt (df b a) b) X Y L) : ∀ c ∈ cs, InTri a b c X Y L := by
  intro c hc
  have z : Tn a b X Y L = 0 := by
    have := Tn_swap a b X Y L
    omega
  have vv := dt_pos (df_ne t.ne)
  have hcol := t.col c hc
  -- all turns are nought
  have q1 : Tn b c X Y L = 0 := by
    have i : Tn b c X Y L * dt (df a b) (df a b) = Tn a b X Y L * dt (df a b) (df b c) - tn a b c * ((b.1 - a.1) * (X - b.1 * L) + (b.2 - a.2) * (Y - b.2 * L)) := by simp only [Tn, tn, dt, df]; grind
    rw [z, hcol] at i
    rcases Int.mul_eq_zero.mp (show Tn b c X Y L * dt (df a b) (df a b) = 0 by omega) with y | y <;> omega
  have q2 : Tn c a X Y L = 0 := by
    have i : Tn c a X Y L * dt (df a b) (df a b) = Tn a b X Y L * dt (df a b) (df c a) + tn a b c * ((b.1 - a.1) * (X - a.1 * L) + (b.2 - a.2) * (Y - a.2 * L)) := by simp only [Tn, tn, dt, df]; grind
    rw [z, hcol] at i
    rcases Int.mul_eq_zero.mp (show Tn c a X Y L * dt (df a b) (df a b) = 0 by omega) with y | y <;> omega
  refine ⟨.inl ⟨by omega, by omega, by omega⟩, fun _ _ _ => ?_⟩
  generalize hV : dt (df a b) (df a b) = V at vv
  have e3 : 0 ≤ (b.1 - a.1) * (X - a.1 * L) + (b.2 - a.2) * (Y - a.2 * L) := by
    unfold Held sideAt lf df at h3
    simp only at h3
    grind
  have e4 : (b.1 - a.1) * (X - a.1 * L) + (b.2 - a.2) * (Y - a.2 * L) ≤ V * L := by
    unfold Held sideAt lf df at h4
    simp only at h4
    rw [← hV]
    simp only [dt, df]
    grind
  generalize hD : (b.1 - a.1) * (X - a.1 * L) + (b.2 - a.2) * (Y - a.2 * L) = D at e3 e4
  have x1 : V * (X - a.1 * L) = D * (b.1 - a.1) := by
    have : V * (X - a.1 * L) = D * (b.1 - a.1) - Tn a b X Y L * (b.2 - a.2) := by rw [← hD, ← hV]; simp only [Tn, dt, df]; grind
    rw [z] at this
    omega
  have y1 : V * (Y - a.2 * L) = D * (b.2 - a.2) := by
    have : V * (Y - a.2 * L) = D * (b.2 - a.2) + Tn a b X Y L * (b.1 - a.1) := by rw [← hD, ← hV]; simp only [Tn, dt, df]; grind
    rw [z] at this
    omega
  have x2 : V * (b.1 * L - X) = (V * L - D) * (b.1 - a.1) := by grind
  have y2 : V * (b.2 * L - Y) = (V * L - D) * (b.2 - a.2) := by grind
  -- between, by the sign of a way
  have btw : ∀ {p q r w : Int}, V * p = D * w → V * q = (V * L - D) * w → r = w → (0 ≤ p ∧ 0 ≤ q) ∨ (p ≤ 0 ∧ q ≤ 0) := by
    intro p q r w hp hq _
    by_cases hw : 0 ≤ w
    · refine .inl ⟨pos_of_mul (y := V) ?_ vv, pos_of_mul (y := V) ?_ vv⟩
      · rw [Int.mul_comm, hp]; exact Int.mul_nonneg e3 hw
      · rw [Int.mul_comm, hq]; exact Int.mul_nonneg (by omega) hw
    · refine .inr ⟨?_, ?_⟩
      · have : 0 ≤ -p := pos_of_mul (y := V) (by
          have e : -p * V = D * (-w) := by rw [Int.neg_mul, Int.mul_comm, hp]; grind
          rw [e]; exact Int.mul_nonneg e3 (by omega)) vv
        omega
      · have : 0 ≤ -q := pos_of_mul (y := V) (by
          have e : -q * V = (V * L - D) * (-w) := by rw [Int.neg_mul, Int.mul_comm, hq]; grind
          rw [e]; exact Int.mul_nonneg (by omega) (by omega)) vv
        omega
  have bx := btw x1 x2 rfl
  have byy := btw y1 y2 rfl
  unfold BoxC
  omega
end DL

set_option Elab.async false
set_option linter.all false
set_option maxRecDepth 100000
set_option maxHeartbeats 4000000
namespace DL
open PySem PySem.Spec PyProof.Rows L2
theorem zero_of_cr {u v w : Cell} (h : 0 < cr u v) (h1 : cr u w = 0) (h2 : cr v w = 0) : w = (0, 0) := by
  have e1 : w.1 * cr u v = v.1 * cr u w - u.1 * cr v w := by simp only [cr]; grind
  have e2 : w.2 * cr u v = v.2 * cr u w - u.2 * cr v w := by simp only [cr]; grind
  rw [h1, h2] at e1 e2
  have z1 : w.1 = 0 := by
    rcases Int.mul_eq_zero.mp (show w.1 * cr u v = 0 by omega) with z | z <;> omega
  have z2 : w.2 = 0 := by
    rcases Int.mul_eq_zero.mp (show w.2 * cr u v = 0 by omega) with z | z <;> omega
  exact Prod.ext z1 z2
theorem zero_of_dt {u w : Cell} (h : u ≠ (0, 0)) (h1 : cr u w = 0) (h2 : dt u w = 0) : w = (0, 0) := by
  have p := dt_pos h
  have e1 : w.1 * dt u u = u.1 * dt u w - u.2 * cr u w := by simp only [cr, dt]; grind
  have e2 : w.2 * dt u u = u.2 * dt u w + u.1 * cr u w := by simp only [cr, dt]; grind
  rw [h1, h2] at e1 e2
  have z1 : w.1 = 0 := by
    rcases Int.mul_eq_zero.mp (show w.1 * dt u u = 0 by omega) with z | z <;> omega
  have z2 : w.2 = 0 := by
    rcases Int.mul_eq_zero.mp (show w.2 * dt u u = 0 by omega) with z | z <;> omega
  exact Prod.ext z1 z2
theorem df_zero {a c : Cell} (h : df a c = (0, 0)) : c = a := by
  unfold df at h
  injection h with h1 h2
  exact Prod.ext (by omega) (by omega)
theorem Hul.sep {S H : List Cell} (hS : S.Pairwise OD.lt) (h : Hul S H) {x : Cell} (hx : x ∈ H) : ∃ p q r : Int, p * x.1 + q * x.2 + r = 0 ∧ ∀ c ∈ S, c ≠ x → 1 ≤ p * c.1 + q * c.2 + r := by
  by_cases h2 : H.length = 2
  · obtain ⟨a, b, rfl, t⟩ := h.two_ok hS h2
    simp only [List.mem_cons, List.not_mem_nil, or_false] at hx
    have un := df_ne t.ne
    rcases hx with rfl | rfl
    · refine ⟨(df x b).1, (df x b).2, - dt (df x b) x, by unfold dt; omega, fun c hc hne => ?_⟩
      have e : (df x b).1 * c.1 + (df x b).2 * c.2 + - dt (df x b) x = dt (df x b) (df x c) := by simp only [dt, df]; grind
      rw [e]
      have d0 := t.d0 c hc
      have : dt (df x b) (df x c) ≠ 0 := fun z => hne (df_zero (zero_of_dt un (t.col c hc) z))
      omega
    · refine ⟨-(df a x).1, -(df a x).2, dt (df a x) x, by unfold dt; grind, fun c hc hne => ?_⟩
      have e : -(df a x).1 * c.1 + -(df a x).2 * c.2 + dt (df a x) x = dt (df a x) (df a x) - dt (df a x) (df a c) := by simp only [dt, df]; grind
      rw [e]
      have d1 := t.d1 c hc
      have e2 : dt (df a x) (df x c) = dt (df a x) (df a c) - dt (df a x) (df a x) := by simp only [dt, df]; grind
      have : dt (df a x) (df x c) ≠ 0 := fun z => hne (df_zero (zero_of_dt un (by rw [← tn_1]; exact t.col c hc) z))
      omega
  · have h3 := h.len
    obtain ⟨k, hk⟩ := List.getElem?_of_mem hx
    have kl := (List.getElem?_eq_some_iff.mp hk).1
    obtain ⟨m1, m2⟩ := mod_prev kl
    have pl : (k + H.length - 1) % H.length < H.length := Nat.mod_lt _ (by omega)
    obtain ⟨a, x', ea, ex, e1⟩ := h.at pl
    rw [m1, hk] at ex
    injection ex with ex
    subst ex
    obtain ⟨x', b, ex, eb, e2⟩ := h.at kl
    rw [hk] at ex
    injection ex with ex
    subst ex
    have tp := h.at3 (by omega) pl ea (by rw [m1]; exact hk) (by rw [m2]; exact eb)
    refine ⟨a.2 - b.2, b.1 - a.1, -(x.1 - a.1) * a.2 + (x.2 - a.2) * a.1 - (b.1 - x.1) * x.2 + (b.2 - x.2) * x.1, by grind, fun c hc hne => ?_⟩
    have e : (a.2 - b.2) * c.1 + (b.1 - a.1) * c.2 + (-(x.1 - a.1) * a.2 + (x.2 - a.2) * a.1 - (b.1 - x.1) * x.2 + (b.2 - x.2) * x.1) = tn a x c + tn x b c := by simp only [tn]; grind
    rw [e]
    have p1 := e1 c hc
    have p2 := e2 c hc
    have : ¬ (tn a x c = 0 ∧ tn x b c = 0) := fun ⟨z1, z2⟩ => hne (df_zero (zero_of_cr (u := df a x) (v := df x b) (by rw [← tn_1]; exact tp) (by rw [← tn_1]; exact z1) z2))
    omega
end DL

set_option Elab.async false
set_option linter.all false
set_option maxRecDepth 100000
set_option maxHeartbeats 4000000
namespace DL
open PySem PySem.Spec PyProof.Rows L2
variable [TabsOf]
def isTL (d : D) : Bool := match d with | .tup _ => true | .lst _ => true | _ => false
def reprD (d : D) : Str := (toPy d).shown
def dRepr (xs : List D) (R : D → Prop) : Prop := oneD xs fun x => (numD 8 x = true ∧ isTL x = true ∧ (toPy x).showable = true ∧ (reprD x).length ≤ sizeLine) ∧ R (.str (reprD x))
theorem x_repr {d : D} {R : D → Prop} : dRepr [d] R = ((numD 8 d = true ∧ isTL d = true ∧ (toPy d).showable = true ∧ (reprD d).length ≤ sizeLine) ∧ R (.str (reprD d))) := propext Iff.rfl
structure GOk (P : Program) (w : World) (K : PySem.W.Frag) (mg : Str → Option Value) (base : Heap) (k : Nat) (f : Addr) (fd : FuncData) (ps : List Str) (sp : Sp) : Prop where
  count : ∀ vs H Q E, sp vs H Q E → vs.length = ps.length
  go : ∀ (A : Around) (out : List Env) (s : Shared) (H : Hp) (args : Args) (us : List Value) (vs : List V) (Q : VK) (E : XK), Room k A ∧ A.guards = some [] → Env0 P w K mg base A out s H → BindsTo s fd args (ps.zip us) → Vals vs us → sp vs H Q E →
    codeAny (model P w) A (.call (.ref f) args) (CR CX0 out P w H s Q E) s
theorem g_fn {P : Program} {w : World} {K : PySem.W.Frag} {mg : Str → Option Value} {base : Heap} {x q : Str} {st : Stmt} {f : Addr} {fd : FuncData} {N ps : List Str} {k : Nat} {sp : Sp} (F : Fun K x q st f fd) (S : FnScope N ps (defScope st)) (hl : ∀ vs H Q E, sp vs H Q E → vs.length = ps.length)
    (hb : ∀ (cdv : Value) (A : Around) (out : List Env) (s : Shared) (H : Hp) (vs : List V) (Q : VK) (E : XK), Room k (A.deeper (envOfC q (defScope st) s.heap.objs.size f cdv)) → A.guards = some [] → sp vs H Q E →
      ∃ t, PSs (cxOf CX0 P w K mg base N q (defScope st) f cdv A out s H E).nox (defBody st) t ∧ t { nx := fun _ H' => Q .non H', rt := Q } (L2.start N vs) H) : GOk P w K mg base (k + 1) f fd ps sp := by
  obtain ⟨oc, od, kV, doc, pm, an, cdv, ct, osl, rfl, lk, hcd⟩ := F.ex
  constructor
  · exact hl
  intro A out s H args us vs Q E hrg e0 hbd rv hsp
  have same : ∀ b o, base.get? b = some o → s.heap.get? b = some o := fun b o e => (e0.bs b o e).1
  have kin : K.In s.heap := e0.mod.kin.keeps same
  have nl : s.heap.NoLimit := e0.mod.nolimit.keeps same
  have kinds : ∀ y ∈ ps.zip us, (defScope st).names.lookup y.1 = some .local ∨ ((defScope st).names.lookup y.1 = some .cell ∧ ((cellsFrom (s.heap.objs.size + 1) (defScope st).names []).lookup y.1).isSome = true) := by
    intro y hy
    cases S.par y.1 (List.of_mem_zip (a := y.1) (b := y.2) hy).1 with
    | inl z => exact .inl z
    | inr z => exact .inr ⟨z, PySem.W.cellsFrom_some _ _ _ (.inl z)⟩
  apply codeAny_call_function hrg.1.depth (kin _ _ lk) rfl S.co S.gen rfl (PySem.W.codeRec_of kin hcd)
  apply hbd
  apply wpAny_newFunctionEnv_cells S.kind kinds
  intro env he s1 ic
  subst he
  obtain ⟨t, ht, hq⟩ := hb cdv A out s H vs Q E (hrg.1.deeper _) hrg.2 hsp
  have J := inv_start (E := E) (CX := CX0) (cd := cdv) (f := f) (qual := q) S hrg.1.hd e0 (hl _ _ _ _ hsp) rv ic
  refine ⟨nl.keeps ic.toInCall.keep, codeAny_func (wpAny_mono (ht.nox.run [] s1 (L2.start N vs) H _ J hq) (fun fl s' hs => ?_) fun e s' hs => hs)⟩
  match fl, hs with
  | .ret u, ⟨v, σ', H', L, rr, g⟩ => exact ⟨v, H', L.os, L.bare, L.base, L.hok, rr, g⟩
  | .next, ⟨σ', H', L, g⟩ => exact ⟨V.non, H', L.os, L.bare, L.base, L.hok, rfl, g⟩
  | .brk, ⟨_, _, _, g⟩ => exact g.elim
  | .cont, ⟨_, _, _, g⟩ => exact g.elim
theorem g_fnD {P : Program} {w : World} {K : PySem.W.Frag} {mg : Str → Option Value} {base : Heap} {x qual : Str} {st : Stmt} {f : Addr} {fd : FuncData} {N ps : List Str} {k n : Nat} {own : List Nat} {fr : Bool} {ko : Kd} {p : TSD} (F : Fun K x qual st f fd) (S : FnScope N ps (defScope st)) (hn : ps.length = n) (ho : ∀ i ∈ own, n ≤ i) (hN : n ≤ N.length)
    (hbody : ∀ (cdv : Value) (A : Around) (outer : List Env) (s : Shared) (H : Hp) (E : XK), Room k (A.deeper (envOfC qual (defScope st) s.heap.objs.size f cdv)) → A.guards = some [] →
      PSs (cxOf CX0 P w K mg base N qual (defScope st) f cdv A outer s H E).nox (defBody st) (liftS K xw0 own fr ko p)) : GOk P w K mg base (k + 1) f fd ps (spD K n ko (fnW ko N.length p)) := by
  refine g_fn F S (fun vs H Q E h => h.1.trans hn.symm) fun cdv A outer s H vs Q E hr hg h => ⟨_, hbody cdv A outer s H E hr hg, ?_⟩
  obtain ⟨hl, c, A', ds, R, hk, fo, hA, r, hw, q⟩ := h
  obtain ⟨E0, no⟩ := start_env (own := own) (N := N) fo hA r (fun i hi => by rw [hl]; exact ho i hi) (by rw [hl]; exact hN)
  refine ⟨c, H, A', c, _, _, hk, Step.refl fo, E0, fun a h => (no a h).elim, hw, ⟨?_, fun c' v H' d k' t' r' g => q c' v H' d t' r' g, fun _ _ _ _ _ _ _ _ _ _ _ h => h.elim, fun _ _ _ _ _ _ _ _ _ _ _ h => h.elim, xNxt0⟩⟩
  intro c' o' σ' ρ' H' k' s1 s2 t' E' F' h'
  cases ko with
  | fresh => exact h'.elim
  | weak => exact q c' .non H' .non t' .non h'
  | strong => exact q c' .non H' .non t' .non h'
end DL

set_option Elab.async false
set_option linter.all false
set_option maxRecDepth 100000
set_option maxHeartbeats 4000000
namespace DL
open PySem PySem.Spec PyProof.Rows L2
variable [TabsOf]
def scrO (vs : List Value) : Obj := { cls := .type "list", data := .seq vs.toArray }
theorem g_heap {P : Program} {w : World} {K : PySem.W.Frag} {a : Addr} {s : Shared} {vs : List Value} {ns : List Int} (kin : K.In s.heap) (ob : s.heap.get? a = some (scrO vs)) (hi : IntsAre vs ns) (len : ns.length ≤ sizeLine) :
    ∃ H : Hp, SqL K H a (ns.map V.int) ∧ HOk P w H s.heap ∧ (∀ b u, H b = some u → b = a ∧ K.lookup b = none ∧ ∃ xs, u = .frz (scrO vs) (.lst xs)) := by
  have rv := vals_ints hi
  have lv := hi.length
  cases hk : K.lookup a with
  | some o =>
    have e := kin a o hk
    rw [ob] at e
    cases e
    exact ⟨fun _ => none, .inr ⟨_, vs.toArray, _, hk, rfl, rfl, rfl, by rw [List.size_toArray, lv]; exact len, by simpa using rv⟩, fun b u z => (by cases (show (none : Option HO) = some u from z)), fun b u z => (by cases (show (none : Option HO) = some u from z))⟩
  | none =>
    have at_ : ∀ b u, (if b = a then some (HO.frz (scrO vs) (.lst (ns.map V.int))) else none) = some u → b = a ∧ u = .frz (scrO vs) (.lst (ns.map V.int)) := fun b u z => by
      by_cases c : b = a
      · rw [if_pos c] at z
        exact ⟨c, (Option.some.inj z).symm⟩
      · rw [if_neg c] at z
        cases z
    refine ⟨fun b => if b = a then some (.frz (scrO vs) (.lst (ns.map V.int))) else none, .inl (.inr ⟨scrO vs, if_pos rfl⟩), fun b u z => ?_, fun b u z => ?_⟩
    · obtain ⟨rfl, rfl⟩ := at_ b u z
      exact ⟨ob, by rw [List.length_map]; exact len, vs, _, rv, ob⟩
    · obtain ⟨rfl, rfl⟩ := at_ b u z
      exact ⟨rfl, hk, _, rfl⟩
theorem g_law {P : Program} {w : World} {K : PySem.W.Frag} {mg mb : Str → Option Value} {k : Nat} {fa a : Addr} {fd : FuncData} {x : Str} {sp : Sp} {s : Shared} {vs : List Value} {ns : List Int}
    (kin : K.In s.heap) (mm : s.heap.Ns mainGlobals mg) (nb : s.heap.Ns builtinsNs mb) (boot : ∀ x : Str, x ≠ "__name__" → mb x = bootBuiltins x) (lim : s.heap.NoLimit) (ge : s.gens = #[])
    (ob : s.heap.get? a = some (scrO vs)) (hi : IntsAre vs ns) (len : ns.length ≤ sizeLine) (room : Room k callerA)
    (F : ∀ base : Heap, K.In base → base.Ns mainGlobals mg → GOk P w K mg base k fa fd [x] sp) (bt : ∀ (s : Shared) (u : Value), BindsTo s fd ⟨[u], []⟩ [(x, u)])
    (hsp : ∀ H : Hp, SqL K H a (ns.map V.int) → sp [.ref a] H (fun v _ => v = .bl true) E0) :
    codeAny (model P w) callerA (.call (.ref fa) ⟨[.ref a], []⟩) (fun r s' => r = .ok (.ret (.bool true)) ∧ OldK s.heap s'.heap ∧ s'.os = s.os ∧ AllBare s'.gens) s := by
  obtain ⟨H, sq, ok, own⟩ := g_heap (P := P) (w := w) kin ob hi len
  have free : ∀ {b : Addr} {o : Obj}, K.lookup b = some o → H b = none := fun {b o} e => by
    cases z : H b with
    | none => rfl
    | some u => rw [(own b u z).2.1] at e; cases e
  have dict : ∀ {b : Addr} {o : Obj} {es : Array DictEntry} {ep : Nat}, s.heap.get? b = some o → o.data = .dict es ep → H b = none := fun {b o es ep} e1 e2 => by
    cases z : H b with
    | none => rfl
    | some u =>
      obtain ⟨rfl, _⟩ := own b u z
      rw [ob] at e1
      cases e1
      cases (show Data.seq vs.toArray _ = Data.dict es ep from e2)
  have ns0 : ∀ {b : Addr} {m : Str → Option Value}, s.heap.Ns b m → (hidT s.heap H).Ns b m := fun {b m} z => by
    obtain ⟨o, es, ep, e1, e2, r⟩ := z
    exact ⟨o, es, ep, hidT_get e1 (dict e1 e2), e2, r⟩
  have kb : K.In (hidT s.heap H) := fun b o e => hidT_get (kin b o e) (free e)
  have md : Mod K mg (hidT s.heap H) := ⟨kb, ns0 mm, ⟨mb, ns0 nb, boot⟩, let ⟨mc, y1, y2⟩ := lim; ⟨mc, ns0 y1, y2⟩⟩
  have e0 : Env0 P w K mg (hidT s.heap H) callerA [] s H := ⟨rfl, md, fun b o e => of_hidT e, Nat.le_of_eq (hidT_size _ _), trivial, fun b z => (by cases (show b ∈ ([] : List Addr) from z)), ok, .of_eq ge⟩
  refine codeAny_mono ((F _ kb (ns0 mm)).go callerA [] s H ⟨[.ref a], []⟩ [.ref a] [.ref a] _ E0 ⟨room, rfl⟩ e0 (bt s (.ref a)) (.cons rfl .nil) (hsp H sq)) fun res s' h => ?_
  match res, h with
  | .ok (.ret u), ⟨v, H', os, bare, un, hok, rr, (g : v = .bl true)⟩ =>
    subst g
    obtain rfl : u = Value.bool true := rr
    refine ⟨rfl, OldK.of_keep fun b o e => ?_, os, bare⟩
    cases z : H b with
    | none => exact un.keep b o e z (fun y => by cases (show b ∈ ([] : List Addr) from y)) (by simp)
    | some t =>
      obtain ⟨rfl, _, xs, rfl⟩ := own b t z
      obtain ⟨e1, _⟩ := ok _ _ z
      obtain ⟨e2, _⟩ := hok _ _ (un.frzs _ _ _ z)
      rw [e] at e1
      cases e1
      exact e2
  | .ok .next, h => exact False.elim h
  | .ok .brk, h => exact False.elim h
  | .ok .cont, h => exact False.elim h
  | .error e, h => exact False.elim h
theorem g_walk {l : PySem.W.OpenLaw} {k : Nat} {q : Program} {loose : List Str} {XP : (Str → Option Value) → Heap → Prop} {YP : World → Heap → Prop} {d : DefRec} {K : Params → PySem.W.Frag} {x : Str}
    (hn : l.most = some 63) (hdf : d.params.defaults = []) (room : Room k callerA) (hT : (TabsOf.T : List (Addr × Str)) = [])
    (hY : ∀ (w : World) (h : Heap), YP w h → (K w.params).In h)
    (F : ∀ (w : World) (mg : Str → Option Value) (fa : Addr) (h : Heap), (K w.params).In h → h.Ns mainGlobals mg → mg d.name = some (.ref fa) →
      ∃ fd : FuncData, (∀ (s : Shared) (u : Value), BindsTo s fd ⟨[u], []⟩ [(x, u)]) ∧
        ∀ base : Heap, (K w.params).In base → base.Ns mainGlobals mg → GOk l.prog w (K w.params) mg base k fa fd [x] (spLawD (K w.params))) :
    PySem.W.WalkO q loose XP YP l.row.toRowW d [] (fun f vs => PySem.call f vs) := by
  apply Att.attach_call hn hdf
  intro w s₀ s mg mb fa o pm cd doc a vs ns G Y ho hd hcd hmg hobj hints hlen hg
  obtain ⟨fd, bt, hF⟩ := F w mg fa _ (hY w _ Y) G.T.g hmg
  exact g_law (hY w _ Y) G.T.g G.T.b G.T.builtins G.T.nolimit hg hobj hints (Nat.le_trans hlen (by decide)) room hF bt fun H sq => ⟨a, ns, rfl, sq, hlen, fun p z => (by rw [hT] at z; exact nomatch z), fun _ => rfl⟩
structure DefG (P : Program) (w : World) (K : PySem.W.Frag) (mg : Str → Option Value) (base : Heap) (x : Str) (k n : Nat) (ko : Kd) (g : List D → (D → Prop) → Prop) : Prop where
  ex : ∃ (f : Addr) (fd : FuncData) (ps : List Str), GOk P w K mg base k f fd ps (spD K n ko g) ∧ mg x = some (.ref f) ∧ PySem.W.keepIn K (.ref f) = true ∧ Binds K fd ps []
theorem g_lawD {P : Program} {w : World} {K : PySem.W.Frag} {mg : Str → Option Value} {base : Heap} {k : Nat} {f : Addr} {fd : FuncData} {ps : List Str} {g : List D → (D → Prop) → Prop} (F : GOk P w K mg base k f fd ps (spD K 1 .strong g)) (h : ∀ ns : List Int, ns.length ≤ 63 → g [.scr ns] fun d => d = .bl true) :
    GOk P w K mg base k f fd ps (spLawD K) := by
  have imp := law_sp (K := K) h
  exact ⟨fun vs H Q E z => F.count vs H Q E (imp vs H Q E z), fun A out s H args us vs Q E hr e0 hb rv hs => F.go A out s H args us vs Q E hr e0 hb rv (imp _ _ _ _ hs)⟩
end DL

set_option Elab.async false
set_option linter.all false
set_option maxRecDepth 100000
set_option maxHeartbeats 4000000
namespace DL
open PySem PySem.Spec PyProof.Rows L2
variable [TabsOf]
def wTake (ds : List D) (R : D → Prop) : Prop := dTwo ds fun x y => match x with
  | .feed => dInt y fun m => (0 < m ∧ m.natAbs.log2 < 9000) ∧ ∀ r, 0 ≤ r → r < m → R (.int r)
  | _ => False
def sRetFeed (p1 p2 : TED) : TSD := fun DD ρ => p1 ρ fun x => dInt x fun n => p2 ρ fun y => dInt y fun s => (0 ≤ n ∧ 0 ≤ s ∧ s < 2147483648) ∧ DD.rt .feed
def sFail : TSD := fun _ _ => False
def sPopA (i : Nat) (g : TGD) : TSD := fun DD ρ => ownL ρ i fun ds => ∃ es d, ds = es ++ [d] ∧ g d (ρ.set i (some (.lst es))) DD.nx
end DL

set_option Elab.async false
set_option linter.all false
set_option maxRecDepth 100000
set_option maxHeartbeats 4000000
namespace DL
open PySem PySem.Spec PyProof.Rows L2
section
variable {DD : DEnds} {ρ : PEnv} {R : D → Prop} {a b : TED} {g : TGD} {i : Nat}
theorem x_take {m : Int} : wTake [.feed, .int m] R = ((0 < m ∧ m.natAbs.log2 < 9000) ∧ ∀ r, 0 ≤ r → r < m → R (.int r)) := propext Iff.rfl
theorem x_retFeed : sRetFeed a b DD ρ = a ρ fun x => dInt x fun n => b ρ fun y => dInt y fun s => (0 ≤ n ∧ 0 ≤ s ∧ s < 2147483648) ∧ DD.rt .feed := propext Iff.rfl
theorem x_fail : sFail DD ρ = False := propext Iff.rfl
theorem x_popA : sPopA i g DD ρ = ownL ρ i fun ds => ∃ es d, ds = es ++ [d] ∧ g d (ρ.set i (some (.lst es))) DD.nx := propext Iff.rfl
end
end DL

set_option Elab.async false
set_option linter.all false
set_option maxRecDepth 100000
set_option maxHeartbeats 4000000

set_option Elab.async false
set_option linter.all false
set_option maxRecDepth 100000
set_option maxHeartbeats 4000000
namespace DL
open PySem PySem.Spec PyProof.Rows L2
variable [TabsOf]
def dIxC (x y : D) (R : D → Prop) : Prop := match x, y with
  | .scr ns, .int i => ∃ n, L2.atI ns i = some n ∧ R (.int n)
  | _, _ => False
theorem x_ixC {ns : List Int} {i : Int} {R : D → Prop} : dIxC (.scr ns) (.int i) R = ∃ n, L2.atI ns i = some n ∧ R (.int n) := propext Iff.rfl
theorem atIn {α : Type} {xs : List α} {i : Int} (h : 0 ≤ i) (hl : i < xs.length) : L2.atI xs i = some (xs[i.toNat]'(by omega)) := by
  have e : i = ((i.toNat : Nat) : Int) := (Int.toNat_of_nonneg h).symm
  have := L2.atI_nat (xs := xs) (j := i.toNat) (v := xs[i.toNat]'(by omega)) (List.getElem?_eq_getElem (by omega))
  rw [← e] at this
  exact this
theorem shown_int {i : Int} (h : i.natAbs < 10 ^ 30) : (PyData.int i).showable = true ∧ (PyData.int i).shown.length ≤ 31 := by
  constructor
  · simp only [PyData.showable, decide_eq_true_eq]
    by_cases c : i.natAbs = 0
    · rw [c]; decide
    · exact Nat.lt_of_lt_of_le ((Nat.log2_lt c).mpr (show i.natAbs < 2 ^ 100 by omega)) (by decide)
  · simp only [PyData.shown]
    rw [PySem.ofString_length]
    exact int_text_length_le10 (k := 30) (by decide) h
theorem piled_le {ts : List Str} {b : Nat} (h : ∀ t ∈ ts, t.length ≤ b) : piled ts ≤ ts.length * (b + 2) := by
  induction ts with
  | nil => simp [piled]
  | cons t ts ih =>
    rw [piled_cons, List.length_cons, Nat.succ_mul]
    have := h t (by simp)
    have := ih fun x hx => h x (by simp [hx])
    omega
theorem shownAll_map (xs : List PyData) : PyData.shownAll xs = xs.map PyData.shown := by
  induction xs with
  | nil => rfl
  | cons x xs ih => simp only [PyData.shownAll, ih, List.map_cons]
theorem showableAll_iff {xs : List PyData} : PyData.showableAll xs = true ↔ ∀ x ∈ xs, x.showable = true := by
  induction xs with
  | nil => simp [PyData.showableAll]
  | cons x xs ih => simp [PyData.showableAll, ih]
theorem toPys_mapf {α : Type} (g : α → D) (xs : List α) : toPy.toPys (xs.map g) = xs.map fun a => toPy (g a) := by
  induction xs with
  | nil => rfl
  | cons x xs ih => rw [List.map_cons, List.map_cons, toPy.toPys, ih]
theorem shown_tup {α : Type} {g : α → D} {xs : List α} {b : Nat} (h : ∀ a ∈ xs, (toPy (g a)).showable = true ∧ (toPy (g a)).shown.length ≤ b) : (toPy (.tup (xs.map g))).showable = true ∧ (toPy (.tup (xs.map g))).shown.length ≤ xs.length * (b + 2) + 2 := by
  have e : toPy (.tup (xs.map g)) = .tuple (xs.map fun a => toPy (g a)) := by simp only [toPy, toPys_mapf]
  rw [e]
  constructor
  · simp only [PyData.showable]
    rw [showableAll_iff]
    intro x hx
    obtain ⟨a, ha, rfl⟩ := List.mem_map.mp hx
    exact (h a ha).1
  · simp only [PyData.shown]
    have h1 := fmt_text (PyData.shownAll (xs.map fun a => toPy (g a)))
    have h2 := piled_le (ts := PyData.shownAll (xs.map fun a => toPy (g a))) (b := b) fun t ht => by
      rw [shownAll_map, List.map_map] at ht
      obtain ⟨a, ha, rfl⟩ := List.mem_map.mp ht
      exact (h a ha).2
    rw [shownAll_map, List.length_map, List.length_map] at h2
    rw [← shownAll_map] at h2
    omega
end DL

set_option Elab.async false
set_option linter.all false
set_option maxRecDepth 100000
set_option maxHeartbeats 4000000
namespace DL
open PySem PySem.Spec PyProof.Rows L2
section
variable {α : Type} [DecidableEq α]
def mkM : List α → List α → Nat
  | [], _ => 0
  | c :: cs, r => (if c ∈ r then 1 else 0) + 2 * mkM cs r
theorem rowM_mk : ∀ cs r : List α, rowM cs (mkM cs r) = cs.filter fun c => decide (c ∈ r)
  | [], _ => rfl
  | c :: cs, r => by
    have ih := rowM_mk cs r
    unfold mkM rowM
    by_cases h : c ∈ r
    · rw [if_pos h, if_pos (by omega), show (1 + 2 * mkM cs r) / 2 = mkM cs r by omega, ih, List.filter_cons_of_pos (by simpa using h)]
    · rw [if_neg h, if_neg (by omega), show (0 + 2 * mkM cs r) / 2 = mkM cs r by omega, ih, List.filter_cons_of_neg (by simpa using h)]
theorem mkM_lt : ∀ cs r : List α, mkM cs r < 2 ^ cs.length
  | [], _ => by simp [mkM]
  | c :: cs, r => by
    have ih := mkM_lt cs r
    unfold mkM
    rw [List.length_cons, Nat.pow_succ]
    split <;> omega
theorem mkM_bit : ∀ (cs r : List α) (i : Nat), (mkM cs r).testBit i = true ↔ ∃ c, cs[i]? = some c ∧ c ∈ r
  | [], _, i => by simp [mkM]
  | c :: cs, r, 0 => by
    unfold mkM
    rw [Nat.testBit_zero]
    by_cases h : c ∈ r
    · rw [if_pos h]
      simp only [decide_eq_true_eq]
      exact ⟨fun _ => ⟨c, rfl, h⟩, fun _ => by omega⟩
    · rw [if_neg h]
      simp only [decide_eq_true_eq]
      exact ⟨fun z => by omega, fun ⟨d, e, z⟩ => absurd (by simp at e; rw [e]; exact z) h⟩
  | c :: cs, r, i + 1 => by
    unfold mkM
    rw [Nat.testBit_succ, show ((if c ∈ r then 1 else 0) + 2 * mkM cs r) / 2 = mkM cs r by split <;> omega, mkM_bit cs r i]
    simp
theorem filter_mem {cs r : List α} (hs : r.Sublist cs) (nd : cs.Nodup) : cs.filter (fun c => decide (c ∈ r)) = r := by
  induction hs with
  | slnil => rfl
  | cons c hs ih =>
    obtain ⟨n1, n2⟩ := List.nodup_cons.mp nd
    rw [List.filter_cons_of_neg (by simpa using fun z => n1 (hs.subset z)), ih n2]
  | cons_cons c hs ih =>
    rename_i l1 l2
    obtain ⟨n1, n2⟩ := List.nodup_cons.mp nd
    rw [List.filter_cons_of_pos (by simp)]
    congr 1
    rw [← ih n2]
    refine List.filter_congr fun d hd => ?_
    rw [ih n2]
    have : d ≠ c := fun e => n1 (e ▸ hd)
    simp [this]
theorem mkM_row {cs : List α} (nd : cs.Nodup) {m : Nat} (hm : m < 2 ^ cs.length) : mkM cs (rowM cs m) = m := by
  refine rowM_inj nd _ _ (mkM_lt _ _) hm ?_
  rw [rowM_mk, filter_mem (rowM_sub cs m) nd]
theorem mkM_and0 {cs a b : List α} : mkM cs a &&& mkM cs b = 0 ↔ ∀ c ∈ cs, c ∈ a → c ∉ b := by
  constructor
  · intro h c hc ha hb
    obtain ⟨i, hi⟩ := List.getElem?_of_mem hc
    have h1 : (mkM cs a &&& mkM cs b).testBit i = true := by
      rw [Nat.testBit_and, Bool.and_eq_true]
      exact ⟨(mkM_bit cs a i).mpr ⟨c, hi, ha⟩, (mkM_bit cs b i).mpr ⟨c, hi, hb⟩⟩
    rw [h, Nat.zero_testBit] at h1
    cases h1
  · intro h
    refine Nat.eq_of_testBit_eq fun i => ?_
    rw [Nat.zero_testBit, Nat.testBit_and, Bool.eq_false_iff]
    intro z
    rw [Bool.and_eq_true, mkM_bit, mkM_bit] at z
    obtain ⟨⟨c, h1, h2⟩, d, h3, h4⟩ := z
    rw [h1] at h3
    cases h3
    exact h c (List.mem_of_getElem? h1) h2 h4
theorem nd_at {cs : List α} (nd : cs.Nodup) {i j : Nat} {c : α} (h : cs[i]? = some c) (g : cs[j]? = some c) : i = j := by
  have hi := (List.getElem?_eq_some_iff.mp h).1
  exact (List.getElem?_inj hi nd).mp (h.trans g.symm)
theorem mkM_xor {cs r : List α} (nd : cs.Nodup) {i : Nat} {c : α} (h : cs[i]? = some c) (hr : c ∈ r) : mkM cs r ^^^ 2 ^ i = mkM cs (r.filter fun d => decide (d ≠ c)) := by
  refine Nat.eq_of_testBit_eq fun j => ?_
  rw [Nat.testBit_xor, Nat.testBit_two_pow]
  by_cases e : i = j
  · subst e
    rw [(mkM_bit cs r i).mpr ⟨c, h, hr⟩, decide_eq_true rfl]
    symm
    rw [show (true ^^ true) = false from rfl, Bool.eq_false_iff]
    intro z
    obtain ⟨d, h1, h2⟩ := (mkM_bit _ _ _).mp z
    rw [h] at h1
    cases h1
    simp at h2
  · rw [decide_eq_false e, Bool.xor_false, Bool.eq_iff_iff, mkM_bit, mkM_bit]
    constructor
    · rintro ⟨d, h1, h2⟩
      refine ⟨d, h1, List.mem_filter.mpr ⟨h2, ?_⟩⟩
      rw [decide_eq_true_iff]
      intro ed
      subst ed
      exact e (nd_at nd h h1)
    · rintro ⟨d, h1, h2⟩
      exact ⟨d, h1, (List.mem_filter.mp h2).1⟩
end
def cellsR (rows : List (List Cell)) : List Cell := osrtU rows.flatten
theorem mem_cellsR {rows : List (List Cell)} {c : Cell} : c ∈ cellsR rows ↔ ∃ r ∈ rows, c ∈ r := by
  unfold cellsR
  rw [mem_osrtU, List.mem_flatten]
end DL

set_option Elab.async false
set_option linter.all false
set_option maxRecDepth 100000
set_option maxHeartbeats 4000000
namespace DL
open PySem PySem.Spec PyProof.Rows L2
variable [TabsOf]
def dNeS (x y : D) (R : D → Prop) : Prop := match x, y with
  | .str s, .str z => R (.bl (!decide (s = z)))
  | _, _ => False
def dEqS (x y : D) (R : D → Prop) : Prop := match x, y with
  | .str s, .str z => R (.bl (decide (s = z)))
  | _, _ => False
theorem strV_inj {s z : Str} : decide (V.str s = V.str z) = decide (s = z) := decide_eq_decide.mpr ⟨fun h => V.str.inj h, fun h => by rw [h]⟩
theorem c_neS {K : PySem.W.Frag} : C2 K rNe .strong dNeS := fun c own A σ ρ H v w d e R Q hk E r1 r2 g q => by
  cases d with
  | str s =>
    cases e with
    | str z =>
      have e1 := RepW.str r1
      have e2 := RepW.str r2
      subst e1; subst e2
      exact ⟨rfl, by rw [strV_inj]; exact q c _ H _ (Step.refl E.fok) (.bl _) g⟩
    | _ => exact g.elim
  | _ => cases e <;> exact g.elim
theorem x_neS {s z : Str} {R : D → Prop} : dNeS (.str s) (.str z) R = R (.bl (!decide (s = z))) := propext Iff.rfl
theorem x_eqS {s z : Str} {R : D → Prop} : dEqS (.str s) (.str z) R = R (.bl (decide (s = z))) := propext Iff.rfl
end DL

set_option Elab.async false
set_option linter.all false
set_option maxRecDepth 100000
set_option maxHeartbeats 4000000
namespace DL
open PySem PySem.Spec PyProof.Rows L2
def nb (b : Cell) : Cell := (0 - b.1, 0 - b.2)
abbrev Tab := Int × Int × Int × Int
def tbD (t : Tab) : D := .tup [.int t.1, .int t.2.1, .int t.2.2.1, .int t.2.2.2]
def detT (t : Tab) : Int := t.1 * t.2.2.2 - t.2.1 * t.2.2.1
end DL

set_option Elab.async false
set_option linter.all false
set_option maxRecDepth 100000
set_option maxHeartbeats 4000000
namespace DL
open PySem PySem.Spec PyProof.Rows L2
variable [TabsOf]
def FF (P : List (List Cell)) (S : Cell → Prop) : Prop := ∃ r ∈ P, ∀ c ∈ r, S c
def leastB (T : Nat → Bool) (n m : Nat) : Bool := T m && !((List.range n).any fun k => decide (m / 2 ^ k % 2 = 1) && T (m ^^^ 2 ^ k))
def whereR (T : Nat → Bool) (cs : List Cell) : List (List Cell) := osrt (((List.range (2 ^ cs.length)).filter (leastB T cs.length)).map (rowM cs))
theorem bit_at (m k : Nat) : m / 2 ^ k % 2 = 1 ↔ m.testBit k = true := by
  rw [Nat.testBit_eq_decide_div_mod_eq, decide_eq_true_iff]
theorem rowM_at {cs : List Cell} (nd : cs.Nodup) {m k : Nat} (hm : m < 2 ^ cs.length) {c : Cell} (h : cs[k]? = some c) : m / 2 ^ k % 2 = 1 ↔ c ∈ rowM cs m := by
  rw [bit_at]
  conv => lhs; rw [← mkM_row nd hm]
  rw [mkM_bit]
  exact ⟨fun ⟨d, h1, h2⟩ => by rw [h] at h1; cases h1; exact h2, fun z => ⟨c, h, z⟩⟩
theorem rowM_xor {cs : List Cell} (nd : cs.Nodup) {m k : Nat} (hm : m < 2 ^ cs.length) {c : Cell} (h : cs[k]? = some c) (hc : c ∈ rowM cs m) : m ^^^ 2 ^ k < 2 ^ cs.length ∧ ∀ d, d ∈ rowM cs (m ^^^ 2 ^ k) ↔ d ∈ rowM cs m ∧ d ≠ c := by
  have e : m ^^^ 2 ^ k = mkM cs ((rowM cs m).filter fun d => decide (d ≠ c)) := by
    conv => lhs; rw [← mkM_row nd hm]
    exact mkM_xor nd h hc
  rw [e]
  refine ⟨mkM_lt _ _, fun d => ?_⟩
  rw [rowM_mk]
  simp only [List.mem_filter, decide_eq_true_eq]
  exact ⟨fun z => z.2, fun z => ⟨mem_rowM z.1, z⟩⟩
structure Law (T : Nat → Bool) (cs : List Cell) (tS : (Cell → Prop) → Prop) : Prop where
  srt : cs.Pairwise OD.lt
  hT : ∀ m, m < 2 ^ cs.length → (T m = true ↔ tS (· ∈ rowM cs m))
  mono : ∀ S S' : Cell → Prop, (∀ c, S c → S' c) → tS S → tS S'
  loc : ∀ S, tS S → tS fun c => S c ∧ c ∈ cs
  none_ : ¬ tS fun _ => False
section
variable {T : Nat → Bool} {cs : List Cell} {tS : (Cell → Prop) → Prop}
theorem Law.least (h : Law T cs tS) {m : Nat} (hm : m < 2 ^ cs.length) : leastB T cs.length m = true ↔ tS (· ∈ rowM cs m) ∧ ∀ c ∈ rowM cs m, ¬ tS fun d => d ∈ rowM cs m ∧ d ≠ c := by
  have nd := lt_nodup h.srt
  unfold leastB
  rw [Bool.and_eq_true, Bool.not_eq_true', List.any_eq_false, h.hT m hm]
  refine and_congr_right fun _ => ⟨fun z c hc t => ?_, fun z k hk => ?_⟩
  · obtain ⟨k, hk⟩ := List.getElem?_of_mem (mem_rowM hc)
    have kl := (List.getElem?_eq_some_iff.mp hk).1
    obtain ⟨x1, x2⟩ := rowM_xor nd hm hk hc
    refine z k (List.mem_range.mpr kl) ?_
    rw [Bool.and_eq_true, decide_eq_true_iff, h.hT _ x1]
    exact ⟨(rowM_at nd hm hk).mpr hc, h.mono _ _ (fun d hd => (x2 d).mpr hd) t⟩
  · have kl := List.mem_range.mp hk
    have ek : cs[k]? = some cs[k] := List.getElem?_eq_getElem kl
    intro y
    rw [Bool.and_eq_true, decide_eq_true_iff] at y
    have hc := (rowM_at nd hm ek).mp y.1
    obtain ⟨x1, x2⟩ := rowM_xor nd hm ek hc
    exact z _ hc (h.mono _ _ (fun d hd => (x2 d).mp hd) ((h.hT _ x1).mp y.2))
theorem Law.mem (h : Law T cs tS) {r : List Cell} : r ∈ whereR T cs ↔ ∃ m, m < 2 ^ cs.length ∧ rowM cs m = r ∧ tS (· ∈ r) ∧ ∀ c ∈ r, ¬ tS fun d => d ∈ r ∧ d ≠ c := by
  unfold whereR
  rw [mem_osrt, List.mem_map]
  constructor
  · rintro ⟨m, hm, rfl⟩
    obtain ⟨h1, h2⟩ := List.mem_filter.mp hm
    have ml := List.mem_range.mp h1
    exact ⟨m, ml, rfl, (h.least ml).mp h2⟩
  · rintro ⟨m, ml, rfl, h2⟩
    exact ⟨m, List.mem_filter.mpr ⟨List.mem_range.mpr ml, (h.least ml).mpr h2⟩, rfl⟩
theorem Law.within (h : Law T cs tS) : ∀ (n m : Nat), m < 2 ^ cs.length → (rowM cs m).length ≤ n → tS (· ∈ rowM cs m) → ∃ r ∈ whereR T cs, ∀ c ∈ r, c ∈ rowM cs m
  | 0, m, hm, hl, t => by
    have e : rowM cs m = [] := List.eq_nil_of_length_eq_zero (by omega)
    rw [e] at t
    exact absurd (h.mono _ _ (fun c hc => nomatch hc) t) h.none_
  | n + 1, m, hm, hl, t => by
    by_cases z : ∃ c ∈ rowM cs m, tS fun d => d ∈ rowM cs m ∧ d ≠ c
    · obtain ⟨c, hc, tc⟩ := z
      obtain ⟨k, hk⟩ := List.getElem?_of_mem (mem_rowM hc)
      obtain ⟨x1, x2⟩ := rowM_xor (lt_nodup h.srt) hm hk hc
      have nd1 := rowM_nd (lt_nodup h.srt) (m ^^^ 2 ^ k)
      have lt : (rowM cs (m ^^^ 2 ^ k)).length < (rowM cs m).length := by
        have := sub_len (r := c :: rowM cs (m ^^^ 2 ^ k)) (s := rowM cs m) (List.nodup_cons.mpr ⟨fun z => ((x2 c).mp z).2 rfl, nd1⟩) fun d hd => by
          rcases List.mem_cons.mp hd with y | y
          · rw [y]; exact hc
          · exact ((x2 d).mp y).1
        rw [List.length_cons] at this
        omega
      obtain ⟨r, h1, h2⟩ := Law.within h n _ x1 (by omega) (h.mono _ _ (fun d hd => (x2 d).mpr hd) tc)
      exact ⟨r, h1, fun d hd => ((x2 d).mp (h2 d hd)).1⟩
    · exact ⟨_, h.mem.mpr ⟨m, hm, rfl, t, fun c hc tc => z ⟨c, hc, tc⟩⟩, fun c hc => hc⟩
theorem Law.ff (h : Law T cs tS) (S : Cell → Prop) : FF (whereR T cs) S ↔ tS S := by
  constructor
  · rintro ⟨r, hr, hc⟩
    obtain ⟨m, hm, rfl, t, _⟩ := h.mem.mp hr
    exact h.mono _ _ hc t
  · intro t
    classical
    have t2 := h.loc S t
    obtain ⟨m, hm, e⟩ := rowM_of (fun c => decide (S c)) cs
    have t3 : tS (· ∈ rowM cs m) := h.mono _ _ (fun c hc => by rw [e]; exact List.mem_filter.mpr ⟨hc.2, decide_eq_true hc.1⟩) t2
    obtain ⟨r, h1, h2⟩ := h.within _ m hm (Nat.le_refl _) t3
    refine ⟨r, h1, fun c hc => ?_⟩
    have := h2 c hc
    rw [e] at this
    exact of_decide_eq_true (List.mem_filter.mp this).2
theorem Law.rows (h : Law T cs tS) : Rows (whereR T cs) := by
  have nd := lt_nodup h.srt
  refine ⟨osrt_lt ?_, fun r hr => ?_, fun r hr s hs hh => ?_⟩
  · refine List.Pairwise.map _ (R := fun a b => (a < 2 ^ cs.length ∧ b < 2 ^ cs.length) ∧ a ≠ b) (fun a b hab e => hab.2 (rowM_inj nd _ _ hab.1.1 hab.1.2 e)) (List.Pairwise.imp_of_mem (fun {a b} ha hb hn => ⟨⟨List.mem_range.mp (List.mem_filter.mp ha).1, List.mem_range.mp (List.mem_filter.mp hb).1⟩, hn⟩) (List.nodup_range.filter _))
  · obtain ⟨m, hm, rfl, t, _⟩ := h.mem.mp hr
    refine ⟨fun e => ?_, h.srt.sublist (rowM_sub cs m)⟩
    rw [e] at t
    exact h.none_ (h.mono _ _ (fun c hc => nomatch hc) t)
  · obtain ⟨m, hm, rfl, t, _⟩ := h.mem.mp hr
    obtain ⟨m', hm', rfl, t', l⟩ := h.mem.mp hs
    refine row_eq (h.srt.sublist (rowM_sub cs m)) (h.srt.sublist (rowM_sub cs m')) hh fun c hc => Classical.byContradiction fun n => ?_
    exact l c hc (h.mono _ _ (fun d hd => ⟨hh d hd, fun e => n (e ▸ hd)⟩) t)
theorem Law.sub (h : Law T cs tS) : ∀ r ∈ whereR T cs, ∀ c ∈ r, c ∈ cs := fun r hr c hc => by
  obtain ⟨m, hm, rfl, _⟩ := h.mem.mp hr
  exact mem_rowM hc
theorem where_len (T : Nat → Bool) (cs : List Cell) : (whereR T cs).length ≤ 2 ^ cs.length := by
  unfold whereR
  rw [osrt_len, List.length_map]
  refine Nat.le_trans (List.length_filter_le _ _) ?_
  rw [List.length_range]
  exact Nat.le_refl _
end
def exT (P : List (List Cell)) (m : Nat) : Bool := P.all fun r => decide (m &&& mkM (cellsR P) r ≠ 0)
def exC (P : List (List Cell)) : List (List Cell) := whereR (exT P) (cellsR P)
def exS (P : List (List Cell)) (S : Cell → Prop) : Prop := ∀ r ∈ P, ∃ c ∈ r, S c
theorem ex_law {P : List (List Cell)} (hne : P ≠ []) : Law (exT P) (cellsR P) (exS P) := by
  have srt : (cellsR P).Pairwise OD.lt := osrtU_srt _
  have nd := lt_nodup srt
  have sub : ∀ r ∈ P, ∀ c ∈ r, c ∈ cellsR P := fun r hr c hc => mem_cellsR.mpr ⟨r, hr, hc⟩
  refine ⟨srt, fun m hm => ?_, fun S S' hS h r hr => ?_, fun S h r hr => ?_, fun h => ?_⟩
  · unfold exT exS
    rw [List.all_eq_true]
    refine forall_congr' fun r => forall_congr' fun hr => ?_
    rw [decide_eq_true_iff]
    conv => lhs; rw [← mkM_row nd hm]
    rw [ne_eq, mkM_and0]
    constructor
    · intro z
      refine Classical.byContradiction fun n => z fun c hc h1 h2 => n ⟨c, h2, h1⟩
    · rintro ⟨c, h1, h2⟩ z
      exact z c (sub r hr c h1) h2 h1
  · obtain ⟨c, h1, h2⟩ := h r hr
    exact ⟨c, h1, hS c h2⟩
  · obtain ⟨c, h1, h2⟩ := h r hr
    exact ⟨c, h1, h2, sub r hr c h1⟩
  · obtain ⟨r, P', e⟩ := List.exists_cons_of_ne_nil hne
    obtain ⟨c, _, z⟩ := h r (by rw [e]; simp)
    exact z
theorem exC_rows {P : List (List Cell)} (hne : P ≠ []) : Rows (exC P) := (ex_law hne).rows
theorem exC_ff {P : List (List Cell)} (hne : P ≠ []) (S : Cell → Prop) : FF (exC P) S ↔ exS P S := (ex_law hne).ff S
theorem exC_ne {P : List (List Cell)} (hne : P ≠ []) (hr : ∀ r ∈ P, r ≠ []) : exC P ≠ [] := fun e => by
  have : FF (exC P) fun _ => True := (exC_ff hne _).mpr fun r h => by
    obtain ⟨c, r', er⟩ := List.exists_cons_of_ne_nil (hr r h)
    exact ⟨c, by rw [er]; simp, trivial⟩
  rw [e] at this
  obtain ⟨r, hr, _⟩ := this
  exact nomatch hr
theorem Rows.ne {P : List (List Cell)} (h : Rows P) : Ne P := fun r hr => (h.row r hr).1
def dIsB (x y : D) (R : D → Prop) : Prop := match x, y with
  | .bl a, .bl b => R (.bl (decide (a = b)))
  | _, _ => False
def dNotB (x y : D) (R : D → Prop) : Prop := match x, y with
  | .bl a, .bl b => R (.bl (!decide (a = b)))
  | _, _ => False
theorem x_isB {a b : Bool} {R : D → Prop} : dIsB (.bl a) (.bl b) R = R (.bl (decide (a = b))) := propext Iff.rfl
theorem x_notB {a b : Bool} {R : D → Prop} : dNotB (.bl a) (.bl b) R = R (.bl (!decide (a = b))) := propext Iff.rfl
end DL

set_option Elab.async false
set_option linter.all false
set_option maxRecDepth 100000
set_option maxHeartbeats 4000000
namespace DL
open PySem PySem.Spec PyProof.Rows L2
variable [TabsOf]
section
variable {X : Cx} {own : List Nat} {fr : Bool} {ko : Kd} {pe : TED}
def sExtA (i : Nat) (pe : TED) : TSD := fun DD ρ => ownL ρ i fun ds => pe ρ fun d => dSeq d fun es => ds.length + es.length ≤ sizeLine ∧ DD.nx (ρ.set i (some (.lst (ds ++ es))))
end
section
variable {i : Nat} {a : TED} {DD : DEnds} {ρ : PEnv}
theorem x_extA : sExtA i a DD ρ = ownL ρ i fun ds => a ρ fun d => dSeq d fun es => ds.length + es.length ≤ sizeLine ∧ DD.nx (ρ.set i (some (.lst (ds ++ es)))) := propext Iff.rfl
end
end DL

set_option Elab.async false
set_option linter.all false
set_option maxRecDepth 100000
set_option maxHeartbeats 4000000
namespace DL
open PySem PySem.Spec PyProof.Rows L2
theorem cells_ex {P : List (List Cell)} (h0 : P ≠ []) {c : Cell} (h : c ∈ cellsR (exC P)) : c ∈ cellsR P := by
  obtain ⟨r, hr, hc⟩ := mem_cellsR.mp h
  exact (ex_law h0).sub r hr c hc
theorem cells_nd (P : List (List Cell)) : (cellsR P).Nodup := lt_nodup (osrtU_srt _)
structure Sm (P : List (List Cell)) : Prop extends Rows P where
  ne : P ≠ []
  len : P.length ≤ 300
  cel : (cellsR P).length ≤ 8
theorem Sm.ex {a : List (List Cell)} (ha : Sm a) : Sm (exC a) := by
  refine ⟨exC_rows ha.ne, exC_ne ha.ne ha.toRows.ne, ?_, Nat.le_trans (sub_len (cells_nd _) fun c hc => cells_ex ha.ne hc) ha.cel⟩
  have := where_len (exT a) (cellsR a)
  have : 2 ^ (cellsR a).length ≤ 2 ^ 8 := Nat.pow_le_pow_right (by decide) ha.cel
  unfold exC
  omega
end DL

set_option Elab.async false
set_option linter.all false
set_option maxRecDepth 100000
set_option maxHeartbeats 4000000
namespace DL
open PySem PySem.Spec PyProof.Rows L2
variable [TabsOf]
structure DefDN (P : Program) (w : World) (K : PySem.W.Frag) (mg : Str → Option Value) (base : Heap) (x : Str) (k n : Nat) (ko : Kd) (g : List D → (D → Prop) → Prop) : Prop where
  ex : ∃ (f : Addr) (fd : FuncData) (ps : List Str) (ds : List Value), FnOk P w K mg base CX0 k f fd ps (spD K (n + 1) ko g) ∧ mg x = some (.ref f) ∧ PySem.W.keepIn K (.ref f) = true ∧ Binds K fd ps ds ∧ Vals [.non] ds
def pCallN (w : List D → (D → Prop) → Prop) (pa : TAD) : TED := fun ρ R => pa ρ fun ds => w (ds ++ [.non]) R
theorem x_callN {w : List D → (D → Prop) → Prop} {a : TAD} {ρ : PEnv} {R : D → Prop} : pCallN w a ρ R = a ρ fun ds => w (ds ++ [.non]) R := propext Iff.rfl
end DL

set_option Elab.async false
set_option linter.all false
set_option maxRecDepth 100000
set_option maxHeartbeats 4000000
namespace DL
open PySem PySem.Spec PyProof.Rows L2
variable [TabsOf]
def sPairs (k i j : Nat) : TSD := fun DD ρ => (ρ[k]? = some (some .non) ∧ i < ρ.length) ∧ DD.nx ((ρ.set i (some (.tup []))).set j (some (.dT [] [])))
section
variable {X : Cx} {own own' : List Nat} {fr : Bool} {ko : Kd} {q : TSD} {rest : List Stmt}
theorem x_pairs {k i j : Nat} {DD : DEnds} {ρ : PEnv} : sPairs k i j DD ρ = ((ρ[k]? = some (some .non) ∧ i < ρ.length) ∧ DD.nx ((ρ.set i (some (.tup []))).set j (some (.dT [] [])))) := propext Iff.rfl
end
end DL

set_option Elab.async false
set_option linter.all false
set_option maxRecDepth 100000
set_option maxHeartbeats 4000000
namespace DL
open PySem PySem.Spec PyProof.Rows L2
variable [TabsOf]
def strOf (x : D) (f : Str → Prop) : Prop := match x with | .str a => f a | _ => False
theorem strOf_iff {x : D} {f : Str → Prop} (h : strOf x f) : ∃ a, x = .str a ∧ f a := by
  cases x with
  | str a => exact ⟨a, rfl, h⟩
  | _ => exact h.elim
theorem x_strOf {a : Str} {f : Str → Prop} : strOf (.str a) f = f a := propext Iff.rfl
def pM1 (r' : Str → D → (D → Prop) → Prop) (p q : TED) : TED := fun ρ R => p ρ fun x => strOf x fun a => q ρ fun y => r' a y R
theorem x_pM1 {r' : Str → D → (D → Prop) → Prop} {p q : TED} {ρ : PEnv} {R : D → Prop} : pM1 r' p q ρ R = p ρ fun x => strOf x fun a => q ρ fun y => r' a y R := propext Iff.rfl
def CM (K : PySem.W.Frag) (r : V → List V → Hp → VK → Prop) (ko : Kd) (r' : Str → D → (D → Prop) → Prop) : Prop :=
  ∀ (c : Cfg) (own : List Nat) (A : Addr → Prop) (σ : L2.St) (ρ : PEnv) (H : Hp) (a : Str) (w : V) (e : D) (R : D → Prop) (Q : VK), c.K = K → EnvR c own A σ ρ H → RepW c own A σ ρ H w e → r' a e R →
    (∀ c' v' H' d', Step c H c' H' → Res c' own A σ ρ ko H H' v' d' → R d' → Q v' H') → r (.str a) [w] H Q
theorem lift_m1 {K : PySem.W.Frag} {own : List Nat} {r : V → List V → Hp → VK → Prop} {ko : Kd} {r' : Str → D → (D → Prop) → Prop} {p q : TED} (hr : CM K r ko r') : ∀ σ H Q, lift K own ko (pM1 r' p q) σ H Q → tM1 r (lift K own .weak p) (lift K own .weak q) σ H Q :=
  fun σ H Q ⟨c, A, ρ, R, hk, E, hp, f⟩ => ⟨c, A, ρ, _, hk, E, hp, fun c1 v1 H1 d1 t1 r1 g1 => by
    obtain ⟨a, rfl, g1⟩ := strOf_iff g1
    have ev := RepW.str r1
    subst ev
    exact ⟨⟨a, rfl⟩, c1, A, ρ, _, t1.kk.trans hk, E.step t1, g1, fun c2 v2 H2 d2 t2 r2 g2 =>
      hr c2 own A σ ρ H2 a v2 d2 R Q (t2.kk.trans (t1.kk.trans hk)) ((E.step t1).step t2) r2 g2 fun c3 v3 H3 d3 t3 r3 g3 => f c3 v3 H3 d3 ((t1.trans t2).trans t3) (Res.back (t1.trans t2) r3) g3⟩⟩
theorem strs_rep {c : Cfg} {Av : Addr → Prop} {H : Hp} : ∀ {ys : List Str} {vs : List V}, RepL c Av H vs (ys.map D.str) → vs = ys.map V.str
  | [], _, .nil => rfl
  | y :: ys, _, .cons r t => by
    cases r
    rw [strs_rep t]
    rfl
def mSplit (a : Str) (y : D) (R : D → Prop) : Prop := strOf y fun b => ((b.length == 0) = false ∧ a.length + 2 ≤ sizeLine) ∧ R (.lst ((Txt.split a b).map D.str))
def mJoin (a : Str) (y : D) (R : D → Prop) : Prop := dSeq y fun ds => ∃ ys : List Str, ds = ys.map D.str ∧ (ys.map (·.length)).sum + ys.length * a.length ≤ 16777216 ∧ R (.str (Txt.join a ys))
theorem c_join {K : PySem.W.Frag} : CM K (fun x xs H Q => ∃ a p, ∃ ys : List Str, x = .str a ∧ xs = [.ref p] ∧ (SqL K H p (ys.map V.str) ∨ SqT K H p (ys.map V.str)) ∧ (ys.map (·.length)).sum + ys.length * a.length ≤ 16777216 ∧ Q (.str (Txt.join a ys)) H) .strong mJoin := fun c own A σ ρ H a w e R Q hk E r g q => by
  obtain ⟨ds, he, ys, rfl, hz, g⟩ := dSeq_iff g
  obtain ⟨bb, p, vs, rfl, hs, rl, _⟩ := RepW.seqK he r
  have ev := strs_rep rl
  subst ev
  rw [hk] at hs
  refine ⟨a, p, ys, rfl, rfl, ?_, hz, q c (.str _) H (.str _) (Step.refl E.fok) (.str _) g⟩
  cases bb
  · exact .inr hs
  · exact .inl hs
def mStarts (a : Str) (y : D) (R : D → Prop) : Prop := strOf y fun b => R (.bl (Txt.startswith a b))
def mPart (a : Str) (y : D) (R : D → Prop) : Prop := strOf y fun b => ((b.length == 0) = false ∧ a.length ≤ sizeLine) ∧ R (.tup [.str (Txt.partition a b).1, .str (Txt.partition a b).2.1, .str (Txt.partition a b).2.2])
def dInSg (x y : D) (R : D → Prop) : Prop := strOf x fun s => strOf y fun z => ∃ c : Nat, s = ⟨#[c]⟩ ∧ R (.bl (decide (c ∈ z.cps.toList)))
def sgns (a : Str) : List D := a.cps.toList.map fun c => D.str ⟨#[c]⟩
def sSgn (p : TED) : TAD := fun ρ R => p ρ fun x => strOf x fun a => R (sgns a)
section
variable {X : Cx} {own : List Nat} {ko : Kd} {o e tg : Expr} {p q : TED} {apos pos : Pos}
theorem e_join (ho : PE X o (lift X.K own .weak p)) (he : PE X e (lift X.K own .weak q)) (hs : starEach [e] X.env = [(false, eval e X.env)] := by rfl) (hbase : attributeBase o "join" X.env (eval o X.env) = eval o X.env := by rfl) (hline : (apos.endLine == pos.line) = true := by rfl) :
    PE X (.Call (.Attribute o "join" apos) [e] [] pos) (lift X.K own .strong (pM1 mJoin p q)) := pe_imp (pe_join ho he hs hbase hline) (lift_m1 c_join)
end
def dFmt (x : D) (R : D → Prop) : Prop := match x with
  | .str y => y.length ≤ sizeLine ∧ R (.str y)
  | .int i => i.natAbs.log2 < 1920 ∧ R (.str (toString i))
  | _ => False
def pJs : List TED → Str → PEnv → (Str → Prop) → Prop
  | [], acc, _, R => R acc
  | p :: ps, acc, ρ, R => p ρ fun x => strOf x fun y => (acc ++ y).length ≤ sizeLine ∧ pJs ps (acc ++ y) ρ R
def pJoined (ps : List TED) : TED := fun ρ R => pJs ps Str.empty ρ fun s => R (.str s)
theorem x_joined {ps : List TED} {ρ : PEnv} {R : D → Prop} : pJoined ps ρ R = pJs ps Str.empty ρ fun s => R (.str s) := propext Iff.rfl
theorem x_js0 {acc : Str} {ρ : PEnv} {R : Str → Prop} : pJs [] acc ρ R = R acc := propext Iff.rfl
theorem x_js1 {p : TED} {ps : List TED} {acc : Str} {ρ : PEnv} {R : Str → Prop} : pJs (p :: ps) acc ρ R = p ρ fun x => strOf x fun y => (acc ++ y).length ≤ sizeLine ∧ pJs ps (acc ++ y) ρ R := propext Iff.rfl
def dToIS (xs : List D) (R : D → Prop) : Prop := dOne xs fun x => match x with
  | .int i => R (.int i)
  | .bl b => R (.int (if b then 1 else 0))
  | .str a => ∃ n : Int, (PySem.intText? a = some n ∧ a.length ≤ 640) ∧ R (.int n)
  | _ => False
section
variable {a b : Str} {R : D → Prop} {i : Int} {k : Bool}
theorem x_split : mSplit a (.str b) R = (((b.length == 0) = false ∧ a.length + 2 ≤ sizeLine) ∧ R (.lst ((Txt.split a b).map D.str))) := propext Iff.rfl
theorem x_starts : mStarts a (.str b) R = R (.bl (Txt.startswith a b)) := propext Iff.rfl
theorem x_part : mPart a (.str b) R = (((b.length == 0) = false ∧ a.length ≤ sizeLine) ∧ R (.tup [.str (Txt.partition a b).1, .str (Txt.partition a b).2.1, .str (Txt.partition a b).2.2])) := propext Iff.rfl
theorem x_joinL {ds : List D} : mJoin a (.lst ds) R = ∃ ys : List Str, ds = ys.map D.str ∧ (ys.map (·.length)).sum + ys.length * a.length ≤ 16777216 ∧ R (.str (Txt.join a ys)) := propext Iff.rfl
theorem x_joinT {ds : List D} : mJoin a (.tup ds) R = ∃ ys : List Str, ds = ys.map D.str ∧ (ys.map (·.length)).sum + ys.length * a.length ≤ 16777216 ∧ R (.str (Txt.join a ys)) := propext Iff.rfl
theorem x_inSg {z : Str} : dInSg (.str a) (.str z) R = ∃ c : Nat, a = ⟨#[c]⟩ ∧ R (.bl (decide (c ∈ z.cps.toList))) := propext Iff.rfl
theorem x_fmtS : dFmt (.str a) R = (a.length ≤ sizeLine ∧ R (.str a)) := propext Iff.rfl
theorem x_fmtI : dFmt (.int i) R = (i.natAbs.log2 < 1920 ∧ R (.str (toString i))) := propext Iff.rfl
theorem x_toISi : dToIS [.int i] R = R (.int i) := propext Iff.rfl
theorem x_toISb : dToIS [.bl k] R = R (.int (if k then 1 else 0)) := propext Iff.rfl
theorem x_toISs : dToIS [.str a] R = ∃ n : Int, (PySem.intText? a = some n ∧ a.length ≤ 640) ∧ R (.int n) := propext Iff.rfl
theorem x_sgn {p : TED} {ρ : PEnv} {F : List D → Prop} : sSgn p ρ F = p ρ fun x => strOf x fun a => F (sgns a) := propext Iff.rfl
end
end DL

set_option Elab.async false
set_option linter.all false
set_option maxRecDepth 100000
set_option maxHeartbeats 4000000
namespace DL
open PySem PySem.Spec PyProof.Rows L2 TL
variable [TabsOf]
def dStrI (xs : List D) (R : D → Prop) : Prop := dOne xs fun x => match x with
  | .int i => i.natAbs.log2 < 1920 ∧ R (.str (toString i))
  | _ => False
theorem x_strI {i : Int} {R : D → Prop} : dStrI [.int i] R = (i.natAbs.log2 < 1920 ∧ R (.str (toString i))) := propext Iff.rfl
end DL

set_option Elab.async false
set_option linter.all false
set_option maxRecDepth 100000
set_option maxHeartbeats 4000000
namespace DLZ
open PySem PySem.Spec PyProof.Rows L2

end DLZ
namespace DL
open PySem PySem.Spec PyProof.Rows L2 DLZ
variable [TabsOf]
def pLstZip (pa : TAD) : TED := fun ρ R => pa ρ fun ds => twoD ds fun x y => dZipM x y fun zs => R (.lst zs)
theorem x_pLstZip {pa : TAD} {ρ : PEnv} {R : D → Prop} : pLstZip pa ρ R = pa ρ fun ds => twoD ds fun x y => dZipM x y fun zs => R (.lst zs) := propext Iff.rfl
end DL

set_option Elab.async false
set_option linter.all false
set_option maxRecDepth 100000
set_option maxHeartbeats 4000000
namespace DL
open PySem PySem.Spec PyProof.Rows L2
variable [TabsOf]
def dMulS (x y : D) (R : D → Prop) : Prop := strOf x fun z => dInt y fun n => (z.length ≤ 1000 ∧ -1000 ≤ n ∧ n ≤ 2000) ∧ R (.str (Txt.mul z n))
theorem x_mulS {z : Str} {n : Int} {R : D → Prop} : dMulS (.str z) (.int n) R = ((z.length ≤ 1000 ∧ -1000 ≤ n ∧ n ≤ 2000) ∧ R (.str (Txt.mul z n))) := propext Iff.rfl
end DL

set_option Elab.async false
set_option linter.all false
set_option maxRecDepth 100000
set_option maxHeartbeats 4000000
namespace DLX
open PySem PySem.Spec PyProof.Rows L2
structure FeC (K : PySem.W.Frag) (C0 : Addr) : Prop where
  sg : PySem.W.specialIn K (.ref C0) "__getattribute__" = some (some (.builtin "type.__getattribute__"))
  ty : PySem.W.typeIn K (.ref C0) = some (.type "type")
  rd : PySem.W.readsIn K C0 (.type "type") = true
  fi : PySem.W.findCls K (.ref C0) (.type "type") "__init__" = some (.val (.builtin "ValueError.__init__"))
section
variable {X : Cx} {e : Expr} {es : List Expr} {ta : TA} {p p1 p2 pos : Pos}
theorem pe_feinit {C0 : Addr} {pl : Sem Bool} (T : FeC X.K C0) (hg : Gl X "FloorError") (hm : X.mg "FloorError" = some (.ref C0)) (ha : PA X (e :: es) ta)
    (hc : eval (.Call (.Attribute (.Name "FloorError" p1) "__init__" p2) (e :: es) [] pos) X.env = (do
      let ov ← eval (.Name "FloorError" p1) X.env
      standAt p2.atName
      let (f, first) ← holding [ov] (getMethod ov "__init__" pl)
      callWith pos f first (backTo pos (starEach (e :: es) X.env)) (backToKw pos (keywordEach [] X.env))) := by rfl)
    (he : starEach (e :: es) X.env = (false, eval e X.env) :: starEach es X.env := by rfl) (hpl : (backTo pos (starEach es X.env)).any (·.1) = false := by rfl) :
    PE X (.Call (.Attribute (.Name "FloorError" p1) "__init__" p2) (e :: es) [] pos) (tVeI X.K ta) := by
  refine ⟨fun pins s σ H Q I h => ?_⟩
  refine PySem.W.methodCall_KW (ld_glob I hg hm ?_ (by decide)) hc
  obtain ⟨m, fr⟩ := I.fr
  refine PySem.W.method_of_cls fr I.ok.mod.kin T.sg (PySem.W.cls_val fr I.ok.mod.kin T.ty T.rd T.fi (by decide +kernel) ?_)
  show wpAny _ _ (callWith pos (Value.builtin "ValueError.__init__") [] (backTo pos (starEach (e :: es) X.env)) []) _ _ _
  refine PyProof.Rows.callWith_method1 (thn (ha.run pos pins _ σ H _ (I.tok _) h) fun us s1 ⟨vs, H1, I1, r1, a, C, ws, ev, hl, T, ea, q⟩ => ?_) he hpl
  subst ev
  cases r1 with
  | @cons _ u0 _ ur ra rw' =>
    obtain rfl : u0 = Value.ref a := ra
    have hlen : ur.length ≤ sizeLine := by
      rw [← Paired.length rw', sizeLine_eq]
      omega
    exact oinit_ok T I1 ea hlen fun s' J => ⟨.non, H1, J, rfl, q⟩
theorem pmk_oexN {CX : CXT} {x : Str} {C fI : Addr} {k : Nat} {fd : FuncData} {ps : List Str} {sp : Sp} (T : OexC X.K C) (iC : PySem.W.findIn X.K (.ref C) "__init__" = some (some (.ref fI))) (tI : PySem.W.typeIn X.K (.ref fI) = some (.type "function"))
    (F1 : FnOk X.prog X.w X.K X.mg X.base CX k fI fd ps sp) (hr : Room (k + 1) X.A) (hb : Binds X.K fd ps []) (hx : Passes CX X (fun _ _ _ => False)) (hg : Gl X x) (hm : X.mg x = some (.ref C)) (ha : PA X (e :: es) ta)
    (hdb : (x == ("__debug__" : Str)) = false := by decide) (he : starEach (e :: es) X.env = (false, eval e X.env) :: starEach es X.env := by rfl) (hpl : (backTo pos (starEach es X.env)).any (·.1) = false := by rfl) :
    L2N.PMk X (.Call (.Name x p) (e :: es) [] pos) (tMkO C sp [] ta) := by
  intro pins s σ H Q I h
  obtain ⟨nm, q, N, bs, bm, sn, sub, ab, col, dd, k0, k1, k2, k3, k5, hC, hbm⟩ := T.cls
  refine wpAny_Call_Name_kw (ld_glob I hg hm ?_ hdb)
  refine PySem.W.callWith_K (h₀ := X.base) I.ok.mod.kin T.kC (thn (ha.run pos pins s σ H _ I h) fun us s1 ⟨vs, H1, I1, r1, hz, q1⟩ => ⟨I1.kIn, ?_⟩) he hpl
  show wpAny _ _ (call (.ref C) us) _ _ _
  obtain ⟨hp, g, dr, tk, os⟩ := s1
  have hsz : hp.objs.size ≤ hp.objs.size + 1 := Nat.le_succ _
  have hn : H1 (hp.objs.size + 1) = none := I1.hok.fresh hsz
  have hq := q1 (hp.objs.size + 1) hn
  rw [List.append_nil] at hq
  have kk : ∀ b o, hp.get? b = some o → ((hp.push (PySem.W.kdv_tup us)).push (PySem.HandSPX.excO C hp.objs.size)).get? b = some o := fun b o e => Heap.get?_push_of_some _ (Heap.get?_push_of_some _ e)
  have hget : ((hp.push (PySem.W.kdv_tup us)).push (PySem.HandSPX.excO C hp.objs.size)).get? (hp.objs.size + 1) = some (PySem.HandSPX.excO C hp.objs.size) := by heap_get
  have I2 : Inv X pins σ (upd H1 (hp.objs.size + 1) (exo (hp.objs.size + 1) C none)) ⟨(hp.push (PySem.W.kdv_tup us)).push (PySem.HandSPX.excO C hp.objs.size), g, dr, tk, os⟩ :=
    I1.laid (t' := tk) (a := hp.objs.size + 1) (o := exo (hp.objs.size + 1) C none) (h' := (hp.push (PySem.W.kdv_tup us)).push (PySem.HandSPX.excO C hp.objs.size)) kk hsz (exo_ok hget)
  have r2 : Vals (V.ref (hp.objs.size + 1) :: vs) (Value.ref (hp.objs.size + 1) :: us) := .cons rfl r1
  have hl : (Value.ref (hp.objs.size + 1) :: us ++ []).length = ps.length := by
    have e := r2.length
    rw [F1.len _ _ _ _ hq] at e
    rw [List.append_nil]
    exact e.symm
  have hus : us.length ≤ sizeLine := by
    rw [← Paired.length r1, sizeLine_eq]
    omega
  have b2 := hb _ (Value.ref (hp.objs.size + 1) :: us) I2.kIn hl
  rw [List.append_nil] at b2
  refine wpAny_call (PySem.HandSPX.call_own F.excBase_ValueError (fun Y => PySem.HandSPX.refsVE_contains Y bm hbm) (I1.kIn _ _ hC) (PySem.W.looks_findIn I1.kIn iC) (fun self => PySem.W.bind_fn I1.kIn self tI) hus
    (codeAny_mono (F1.run _ X.stack _ _ ⟨Value.ref (hp.objs.size + 1) :: us, []⟩ (Value.ref (hp.objs.size + 1) :: us) _ _ (fun _ _ _ => False) (hr.make C us []) (I2.env0.make C us []) b2 r2 hq) fun r s' hq' => ?_))
  cases r with
  | error er => exact hx pins σ _ _ er s' I2 hq'
  | ok fl =>
    cases fl with
    | ret u =>
      obtain ⟨v, H2, os2, bare2, un2, hok2, rv, ev, d, fs, ea, ed, hd1, q2⟩ := hq'
      subst ev
      obtain ⟨h2, g2, d2, t2, os'⟩ := s'
      obtain ⟨t0, G, J, kG, ge, hoe, na⟩ := mk_end0 (d2 := d2) (t2 := t2) I1 hsz kk un2 hok2 os2 bare2 ea ed hd1
      refine ⟨rv, ⟨hp.objs.size + 1, _, _, ⟨G, g2, d2, t2, os'⟩, _, .ref C, some d, rfl, J, kG, ge, hoe, ⟨rfl, rfl, fun vs hv => ?_⟩, rfl, rfl, na, rfl, bare2, raises_own T.exC T.tyC, q2⟩⟩
      cases hv
      rfl
    | next => exact False.elim hq'
    | brk => exact False.elim hq'
    | cont => exact False.elim hq'
end
def spInit (K : PySem.W.Frag) (C : Addr) (f : Str) : Sp := fun vs H Q _ => ∃ a v, vs = [.ref a, v] ∧ H a = some (exo a C none) ∧ ∀ dx, H dx = none → dx ≠ a → Q .non (upd (upd H dx (exd dx [(f, v)])) a (exo a C (some dx)))
theorem init_read {K : PySem.W.Frag} {C : Addr} {f m prm : Str} {vs : List V} {H : Hp} {Q : VK} {E : XK} (T : OexC K C) (hno : PySem.W.findIn K (.ref C) f = some none) (h : spInit K C f vs H Q E) :
    (tSeq (tDrop (tVeI K (tCons (tVar 0) (tCons (tC (.str m)) tNil)))) (tOst K f (tVar 0) (tVar 1))) { nx := fun _ H' => Q .non H', rt := Q } (L2.start ["self", prm] vs) H := by
  obtain ⟨a, v, rfl, ha, q⟩ := h
  refine ⟨_, rfl, ⟨a, C, _, rfl, Nat.le_of_ble_eq_true rfl, T, ha, ?_⟩⟩
  refine ⟨_, rfl, ⟨_, rfl, ⟨a, C, rfl, T, hno, .inl ⟨ha, fun dx n ne => q dx n ne⟩⟩⟩⟩
end DLX

set_option Elab.async false
set_option linter.all false
set_option maxRecDepth 100000
set_option maxHeartbeats 4000000
namespace DL
open PySem PySem.Spec PyProof.Rows L2 DLX
variable [TabsOf]
abbrev XT := XC → D → PEnv → Prop
structure XCls (P : Program) (w : World) (K : PySem.W.Frag) (mg : Str → Option Value) (base : Heap) (n : XC) : Prop where
  ex : ∃ (C fI : Addr) (fd : FuncData) (ps : List Str) (f : Str), n.fld = some f ∧ PySem.W.nsIn K mainGlobals n.nm = some (some (.ref C)) ∧ mg n.nm = some (.ref C) ∧ OexC K C ∧ PySem.W.findIn K (.ref C) "__init__" = some (some (.ref fI)) ∧
    PySem.W.typeIn K (.ref fI) = some (.type "function") ∧ FnOk P w K mg base CX0 1 fI fd ps (spInit K C f) ∧ Binds K fd ps []
theorem XRep.mv {c c' : Cfg} {Av Av' : Addr → Prop} {H H' : Hp} {n : XC} {x : D} {cls : Value} {dx : Option Addr} (k : c'.K = c.K) (f : ∀ a l, c.fx a l → c'.fx a l) (m : ∀ b o, ¬ Av b → H b = some o → ¬ Av' b ∧ H' b = some o) (r : XRep c Av H n x cls dx) : XRep c' Av' H' n x cls dx := by
  obtain ⟨h1, h2⟩ := r
  refine ⟨by rw [k]; exact h1, ?_⟩
  cases e : n.fld with
  | none => rw [e] at h2; exact h2
  | some g =>
    rw [e] at h2
    obtain ⟨dd, fs, v, e1, e2, e3, e4, e5⟩ := h2
    exact ⟨dd, fs, v, e1, (m _ _ e2 e3).1, (m _ _ e2 e3).2, e4, Rep.mv k f m _ _ e5⟩
section
variable {X : Cx} {own : List Nat} {fr : Bool} {ko : Kd} {xw : XWish} {pos pos2 p : Pos} {e : Expr} {pe : TED}
def sRaise (XX : XT) (n : XC) (pe : TED) : TSD := fun _ ρ => pe ρ fun d => XX n d ρ
theorem made_heap {H1 : Hp} {a dx C : Addr} {fs : List (Str × V)} (ha : H1 a = none) (hd : dx ≠ a) : upd (del (upd (upd (upd H1 a (exo a C none)) dx (exd dx fs)) a (exo a C (some dx))) a) dx (.xd fs) = upd H1 dx (.xd fs) := by
  funext b
  by_cases h1 : b = dx
  · subst h1; rw [upd_same, upd_same]
  · rw [upd_ne h1, upd_ne h1]
    by_cases h2 : b = a
    · subst h2; rw [del_same, ha]
    · rw [del_ne h2, upd_ne h2, upd_ne h1, upd_ne h2]
theorem s_raise {n : XC} (T : XCls X.prog X.w X.K X.mg X.base n) (hr : Room 2 X.A) (hc : X.calm = true) (tk : L2N.Takes X xw.W) (he : PE X e (lift X.K own .strong pe)) (hg : Gl X n.nm := by rfl) (hdb : (n.nm == ("__debug__" : Str)) = false := by decide)
    (hs : starEach [e] X.env = (false, eval e X.env) :: starEach [] X.env := by rfl) (hpl : (backTo pos (starEach [] X.env)).any (·.1) = false := by rfl) :
    PS X (.Raise (some (.Call (.Name n.nm p) [e] [] pos)) none pos2) (liftS X.K xw own fr ko (sRaise xw.XX n pe)) := by
  obtain ⟨C, fI, fd, ps, f, hf, hns, hm, O, iC, tI, F1, hb⟩ := T.ex
  refine ps_imp (L2N.ps_raise hc tk (pmk_oexN O iC tI F1 hr hb pass0 hg hm (L2.pa_cons he L2.pa_nil hs) hdb hs hpl)) fun D σ H ⟨c0, H0, A, c, ρ, DD, hk, t, E, F, h, z⟩ => ?_
  refine ⟨c, A, ρ, fun d => xw.XX n d ρ, hk, E, h, fun c1 v H1 d1 t1 r1 g1 => ⟨Nat.le_of_ble_eq_true rfl, fun a ha => ?_⟩⟩
  have E1 := E.step t1
  refine ⟨a, v, rfl, upd_same, fun dx hdx hne => ⟨rfl, dx, [(f, v)], upd_same, ?_, ?_, ?_⟩⟩
  · rw [upd_ne hne, upd_same]
  · rw [upd_ne hne] at hdx; exact hdx
  · have hd1 : H1 dx = none := by rw [upd_ne hne] at hdx; exact hdx
    rw [made_heap ha hne]
    have t2 : Step c1 H1 c1 (upd H1 dx (.xd [(f, v)])) := .one E1.fok hd1
    have nA : ¬ Avd c1 own A σ ρ dx := fun z => E1.al z hd1
    refine z.xe c1 own σ ρ _ n d1 (.ref C) (some dx) (t1.kk.trans hk) (fun _ h => h) (fun _ => rfl) ((t.trans t1).trans t2) (E1.step t2) F ⟨by rw [t1.kk.trans hk]; exact hns, ?_⟩ g1
    rw [hf]
    exact ⟨dx, [(f, v)], v, rfl, nA, upd_same, by simp [List.lookup], Rep.step E1 t2 r1⟩
end
def spX (K : PySem.W.Frag) (n : Nat) (ko : Kd) (w : List D → (D → Prop) → (XC → D → Prop) → Prop) : Sp := fun vs H Q E => vs.length = n ∧ ∃ c A ds R RX, c.K = K ∧ FeedsOk c H ∧ (∀ a, A a → AvOk H a) ∧ RepL c (fun a => A a ∨ c.S a) H vs ds ∧ w ds R RX ∧
  (∀ c' v H' d, Step c H c' H' → ResF ko c' A H H' v d → R d → Q v H') ∧ ∀ c' H' m x cls dx, Step c H c' H' → XRep c' (fun a => A a ∨ c'.S a) H' m x cls dx → RX m x → E cls dx H'
structure DefX (P : Program) (w : World) (K : PySem.W.Frag) (mg : Str → Option Value) (base : Heap) (x : Str) (k n : Nat) (ko : Kd) (g : List D → (D → Prop) → (XC → D → Prop) → Prop) : Prop where
  ex : ∃ (f : Addr) (fd : FuncData) (ps : List Str), FnOk P w K mg base (L2N.CX P w) k f fd ps (spX K n ko g) ∧ mg x = some (.ref f) ∧ PySem.W.keepIn K (.ref f) = true ∧ Binds K fd ps []
def noX (g : List D → (D → Prop) → (XC → D → Prop) → Prop) : List D → (D → Prop) → Prop := fun ds R => g ds R fun _ _ => False
abbrev TRD := PEnv → (D → Prop) → (XC → D → Prop) → Prop
def pCallX (w : List D → (D → Prop) → (XC → D → Prop) → Prop) (pa : TAD) : TRD := fun ρ R RX => pa ρ fun ds => w ds R RX
section
variable {X : Cx} {own : List Nat} {W : L2.WX} {pos : Pos} {e : Expr} {es : List Expr} {x : Str} {pn : Pos} {k n : Nat} {ko : Kd} {w : List D → (D → Prop) → (XC → D → Prop) → Prop} {pa : TAD} {pr qr : TRD} {pt : TTD} {p : TED}
def pNoX (p : TED) : TRD := fun ρ R _ => p ρ R
def pTold (s : Str) (pr : TRD) : TRD := fun ρ R RX => pr ρ (fun d => R (.tup [.str s, d])) RX
def pIfX (t : TTD) (pr qr : TRD) : TRD := fun ρ R RX => t ρ fun b => if b = true then pr ρ R RX else qr ρ R RX
def pCall1X (w : List D → (D → Prop) → (XC → D → Prop) → Prop) (pr : TRD) : TRD := fun ρ R RX => pr ρ (fun d => w [d] R RX) RX
end
section
variable {X : Cx} {own : List Nat} {fr : Bool} {ko k : Kd} {xw : XWish} {pr : TRD} {pos : Pos} {e : Expr} {x : Str} {pn : Pos}
def sSetX (XX : XT) (i : Nat) (pr : TRD) : TSD := fun DD ρ => pr ρ (fun d => DD.nx (ρ.set i (some d))) fun m y => XX m y ρ
def sRetX (XX : XT) (pr : TRD) : TSD := fun DD ρ => pr ρ DD.rt fun m y => XX m y ρ
def sDropX (XX : XT) (pr : TRD) : TSD := fun DD ρ => pr ρ (fun _ => DD.nx ρ) fun m y => XX m y ρ
def sAsgX (XX : XT) (pr : TRD) (g : TGD) : TSD := fun DD ρ => pr ρ (fun d => g d ρ DD.nx) fun m y => XX m y ρ
def sAppX (XX : XT) (i : Nat) (pr : TRD) : TSD := fun DD ρ => ownL ρ i fun ds => pr ρ (fun d => ds.length < sizeLine ∧ DD.nx (ρ.set i (some (.lst (ds ++ [d]))))) fun m y => XX m y ρ
end
def fnX (ko : Kd) (m : Nat) (p : XT → TSD) : List D → (D → Prop) → (XC → D → Prop) → Prop := fun ds R RX => p (fun n x _ => RX n x) ⟨fun _ => (match ko with | .fresh => False | _ => R .non), R, fun _ => False, fun _ => False⟩ (startD m ds)
end DL

set_option Elab.async false
set_option linter.all false
set_option maxRecDepth 100000
set_option maxHeartbeats 4000000
namespace DLX
open PySem PySem.Spec PySem.W PyProof.Rows
section
variable {prog : Program} {w : World} {A : Around} {E : Value → Shared → Prop} {s : Shared} {K : Frag} {x D : Addr} {ox : Obj} {od : Option Obj}
theorem find_dataO {C : Addr} {name : Str} {a g : Value} (hc : (clsIn K C).isSome = true) (ha : findIn K (.ref C) name = some (some a)) (hg : specialIn K a "__get__" = some (some g)) (ht : takesIn K a = some true) : findObj K C od name = some (.bind g a) := by
  cases od with
  | none => exact findObj_dataN hc ha hg ht
  | some o => exact findObj_data hc ha hg ht
theorem classEO {Q : Option Value → Shared → Prop} (F : L2.ExcC K D) (X : K.In s.heap) (I : InstAt s.heap x ox D od) (h : Q (some (.ref D)) { s with toks := s.toks + 1 }) : wpAny (model prog w) A (getAttr? (.ref x) "__class__") Q E s := by
  have hf : findObj K D od "__class__" = some (.bind (.builtin "getset_descriptor.__get__") (.builtin "object.__class__")) := find_dataO (by obtain ⟨cd, hc, _⟩ := any_some F.hd; rw [hc]; rfl) F.ha F.hn F.ht
  obtain ⟨hp, g, d, t, os⟩ := s
  have L0 := I.type (M := model prog w)
  have L1 := looks_findIn (M := model prog w) X F.hg
  have L2 := looks_findIn (M := model prog w) X F.hk
  have L3 := looks_find (M := model prog w) X I hf
  have sub : Looks (model prog w) hp (isInstance (.ref x) (.type "BaseException")) true := L0.andThen (looks_subIn X F.hs)
  have e2 : (Value.builtin "BaseException.__getattribute__" == Value.builtin "object.__getattribute__") = false := by decide +kernel
  have e1 : (onTheHeap (Value.ref D) && Value.builtin "BaseException.__getattribute__" == Value.builtin "object.__getattribute__") = false := by rw [e2]; rfl
  unfold getAttr? getAttrBy? getAttrBy
  refine wpAny_bind (wpAny_mkText (wpAny_bind (wpAny_attempt (wpAny_holding (wpAny_bind (L0.at (wpAny_bind (L1.at ?_))))))))
  show wpAny _ _ (if (onTheHeap (Value.ref D) && Value.builtin "BaseException.__getattribute__" == Value.builtin "object.__getattribute__") = true then _ else _) _ _ _
  rw [e1, if_neg Bool.false_ne_true]
  unfold getAttrByItsOwn hookBefore
  refine wpAny_bind ?_
  rw [if_pos (show onTheHeap (Value.ref D) = true from rfl)]
  refine L2.at (wpAny_bind (wpAny_attempt (wpAny_holding ?_)))
  unfold callGetattribute
  rw [show (false && onTheHeap (Value.builtin "BaseException.__getattribute__")) = false from rfl, if_neg Bool.false_ne_true]
  unfold boundAndCalled
  rw [PySem.F.excAttr_ValueError.ga.bind (.ref x)]
  refine wpAny_bind (wpAny_pure ?_)
  show wpAny _ _ (call (.builtin "BaseException.__getattribute__") [.ref x, .str "__class__" t]) _ _ _
  refine wpAny_call (codeAny_call_builtin PySem.F.excAttr_ValueError.ga.plain PySem.F.entry_bexc_ga ?_)
  refine @check_slot (model prog w) _ _ ⟨hp, g, d, t + 1, os⟩ "BaseException.__getattribute__" "BaseException" "__getattribute__" (.ref x) [.str "__class__" t] [] _ (by decide +kernel) (by decide +kernel) sub (PySem.F.args_bexc_ga (.ref x) (.str "__class__" t)) ?_
  unfold Builtin.«object.__getattribute__»
  refine wpAny_bind (wpAny_of_eq (a := ((Value.ref x : Value), [Value.str "__class__" t])) (by first | rfl | (simp only [slotArgs]; rfl)) ?_)
  refine wpAny_bind (wpAny_pure (wpAny_bind (L0.at (wpAny_bind (L3.at ?_)))))
  show wpAny _ _ (holding [Value.builtin "object.__class__"] (call (.builtin "getset_descriptor.__get__") [.builtin "object.__class__", .ref x, .ref D]) >>= ret) _ _ _
  refine wpAny_bind (wpAny_holding (wpAny_call (class_get (s := ⟨hp, g, d, t + 1, os⟩) (ox := ox) (od := od) X I F.hm ?_)))
  refine wpAny_pure ?_
  show wpAny _ _ (handedOut (.ref D)) _ _ _
  rw [handedOut_of (v := .ref D) rfl]
  first
    | exact wpAny_pure (wpAny_pure h)
    | exact wpAny_pure h
    | exact wpAny_pure (wpAny_bind (wpAny_pure (wpAny_pure h)))
theorem kitxEO (F : L2.ExcC K D) : KitX K (.ref x) (.ref D) (fun h => InstAt h x ox D od) where
  ty := fun _ _ _ I => I.type
  it := fun _ _ X _ => by
    obtain ⟨cdD, hcD, _⟩ := any_some F.hd
    unfold clsIn at hcD
    split at hcD
    · rename_i c' d' cd' sl' ho
      intro A' Q' E' s' k q
      unfold isType loadHead
      exact wpAny_bind (wpAny_loadPart (k _ _ (X _ _ ho)) (wpAny_pure q))
    · cases hcD
  ne := fun h tp dd its n sl X htp => by
    obtain ⟨cdD, hcD, _⟩ := any_some F.hd
    refine Bool.eq_false_iff.mpr fun q => ?_
    have e : D = tp := Value.ref.inj (beq_iff_eq.mp q)
    subst e
    unfold clsIn at hcD
    split at hcD
    · rename_i c' d' cd' sl' ho
      have z := (X _ _ ho).symm.trans htp
      cases z
    · cases hcD
  ca := fun X I k => classEO F X I k
end
end DLX
namespace DL
open PySem PySem.Spec PyProof.Rows L2 DLX
variable [TabsOf]
def XC.tn : Option XC → Str
  | none => "FloorError"
  | some n => n.nm
def XC.sub (n : XC) : Option XC → Bool
  | none => true
  | some m => decide (n = m)
structure XTgt (K : PySem.W.Frag) (mg : Str → Option Value) (C : Addr) (n : XC) (t : Option XC) : Prop where
  ex : ∃ D, mg (XC.tn t) = some (.ref D) ∧ PySem.W.kitOne K (.ref C) (.ref D) = some (n.sub t) ∧ PySem.W.exmOne K (.ref C) (.ref D) = some (n.sub t)
structure XFact (K : PySem.W.Frag) (mg : Str → Option Value) (ts : List (Option XC)) (n : XC) : Prop where
  ex : ∃ C, PySem.W.nsIn K mainGlobals n.nm = some (some (.ref C)) ∧ XfC K C ∧ ExcC K C ∧ (∀ f, n.fld = some f → PySem.W.findIn K (.ref C) f = some none) ∧ PySem.W.kitOne K (.ref C) (.type "ValueError") = some true ∧ ∀ t ∈ ts, XTgt K mg C n t
theorem kit_sub {K : PySem.W.Frag} {C D : Addr} {b : Bool} (h2 : PySem.W.isClsIn K D = true) (h3 : PySem.W.typeIn K (.ref D) = some (.type "type")) (h4 : PySem.W.subIn K (.ref C) (.ref D) = some b) (hb : C = D → b = true) : PySem.W.kitOne K (.ref C) (.ref D) = some b := by
  have e2 : ((PySem.W.clsIn K D).isSome && PySem.W.typeIn K (.ref D) == some (.type "type")) = true := by
    have h2' : (PySem.W.clsIn K D).isSome = true := h2
    rw [h2', h3] <;> rfl
  unfold PySem.W.kitOne
  by_cases c : C = D
  · rw [if_pos (by rw [c]; exact beq_self_eq_true _), hb c]
  · rw [if_neg (fun z => c (Value.ref.inj (beq_iff_eq.mp z)))]
    show (if ((PySem.W.clsIn K D).isSome && PySem.W.typeIn K (.ref D) == some (.type "type")) = true then PySem.W.subIn K (.ref C) (.ref D) else none) = some b
    rw [if_pos e2]
    exact h4
theorem exm_sub {K : PySem.W.Frag} {C D : Addr} {b : Bool} (h1 : PySem.W.subIn K (.ref D) (.type "BaseException") = some true) (h2 : PySem.W.isClsIn K D = true) (h3 : PySem.W.typeIn K (.ref D) = some (.type "type")) (h4 : PySem.W.subIn K (.ref C) (.ref D) = some b) : PySem.W.exmOne K (.ref C) (.ref D) = some b := by
  have e1 : (PySem.W.subIn K (.ref D) (.type "BaseException") == some true) = true := by rw [h1] <;> rfl
  have e2 : ((PySem.W.clsIn K D).isSome && PySem.W.typeIn K (.ref D) == some (.type "type")) = true := by
    have h2' : (PySem.W.clsIn K D).isSome = true := h2
    rw [h2', h3] <;> rfl
  show (if (PySem.W.subIn K (.ref D) (.type "BaseException") == some true) = true then (if ((PySem.W.clsIn K D).isSome && PySem.W.typeIn K (.ref D) == some (.type "type")) = true then PySem.W.subIn K (.ref C) (.ref D) else none) else none) = some b
  rw [if_pos e1, if_pos e2]
  exact h4
section
variable {c c' c0 : Cfg} {own own' : List Nat} {A : Addr → Prop} {σ σ' : L2.St} {ρ ρ' : PEnv} {H H' H0 : Hp} {K : PySem.W.Frag} {fr : Bool} {ko : Kd}
theorem EnvR.setN (E : EnvR c own A σ ρ H) {i : Nat} (hi : i ∉ own) : EnvR c own A (σ.set i none) (ρ.set i none) H := by
  refine E.re (by rw [List.length_set, List.length_set]; exact E.len) (fun j hj => ?_) fun j e h1 hj => ?_
  · have hne : i ≠ j := fun z => hi (z ▸ hj)
    rw [List.getElem?_set_ne hne, List.getElem?_set_ne hne]
    exact ⟨rfl, rfl⟩
  · by_cases hne : i = j
    · subst hne
      by_cases hz : i < ρ.length
      · rw [List.getElem?_set_self hz] at h1
        cases h1
      · rw [List.getElem?_eq_none (by rw [List.length_set]; omega)] at h1
        cases h1
    · rw [List.getElem?_set_ne hne] at h1
      rw [List.getElem?_set_ne hne]
      exact E.slot j e h1 hj
theorem setN_same {i : Nat} (hi : i ∉ own) : ∀ j, j ∈ own → (ρ.set i none)[j]? = ρ[j]? ∧ (σ.set i none)[j]? = σ[j]? := fun j hj => by
  have hne : i ≠ j := fun z => hi (z ▸ hj)
  rw [List.getElem?_set_ne hne, List.getElem?_set_ne hne]
  exact ⟨rfl, rfl⟩
theorem Nxt.setN {P : PEnv → Prop} {Q : L2.St → Hp → Prop} {i : Nat} (n : Nxt K own fr c0 H0 A P Q) (hi : i ∉ own) : Nxt K own fr c0 H0 A (fun ρ => P (ρ.set i none)) (fun σ H => Q (σ.set i none) H) :=
  fun c' o' σ' ρ' H' k' s1 s2 t' E' F' h' => n c' o' _ _ H' k' s1 s2 t' (E'.setN fun z => hi (s1 _ z)) (F'.congr (setN_same fun z => hi (s1 _ z))) h'
end
def excD (n : XC) (a : Addr) (dx : Option Addr) (x : D) : D := match n.fld, dx with
  | some f, some dd => .exc a dd f x
  | _, _ => .ref a
def sTryAs (XX : XT) (rs : List XC) (t : Option XC) (i : Nat) (pb : XT → TSD) (ps : XC → Addr → Option Addr → TSD) : TSD := fun DD ρ =>
  pb (fun n x ρ' => n ∈ rs ∧ if n.sub t = true then ∀ a dx, (n.fld ≠ none ↔ dx ≠ none) → ps n a dx { nx := fun ρ'' => DD.nx (ρ''.set i none), rt := DD.rt, bk := fun ρ'' => DD.bk (ρ''.set i none), ct := fun ρ'' => DD.ct (ρ''.set i none) } (ρ'.set i (some (excD n a dx x))) else XX n x ρ') DD ρ
def sTryOnly (XX : XT) (rs : List XC) (t : Option XC) (pb : XT → TSD) (ps : TSD) : TSD := fun DD ρ =>
  pb (fun n x ρ' => n ∈ rs ∧ if n.sub t = true then ps DD ρ' else XX n x ρ') DD ρ
section
variable {X : Cx} {own : List Nat} {fr : Bool} {ko : Kd} {xw : XWish} {pos pos' np : Pos} {body suite : List Stmt} {b₀ : Stmt} {y : Str} {pb : XT → TSD}
theorem XRep.excR {c : Cfg} {A : Addr → Prop} {σ : L2.St} {ρ : PEnv} {H : Hp} {n : XC} {x : D} {cls : Value} {dx : Option Addr} {a : Addr} (r : XRep c (Avd c own A σ ρ) H n x cls dx) : Rep c (Avd c own A σ ρ) H (.ref a) (excD n a dx x) ∧ (n.fld ≠ none ↔ dx ≠ none) := by
  obtain ⟨_, h⟩ := r
  unfold excD
  cases e : n.fld with
  | none =>
    rw [e] at h
    have h : dx = none := h
    exact ⟨.ref a, fun z => absurd rfl z, fun z => absurd h z⟩
  | some f =>
    rw [e] at h
    obtain ⟨dd, fs, v, e1, e2, e3, e4, e5⟩ := h
    subst e1
    exact ⟨.exc e2 e3 e4 e5, ⟨fun _ z => (nomatch z), fun _ z => (nomatch z)⟩⟩
theorem s_tryAs (rs : List XC) (t : Option XC) (ts : List (Option XC)) (i : Nat) {ps : XC → Addr → Option Addr → TSD} (ht : t ∈ ts) (FX : ∀ n ∈ rs, XFact X.K X.mg ts n) (hm : ∃ D, X.mg (XC.tn t) = some (.ref D)) (tk : L2N.Takes X xw.W) (hN : X.N.Nodup)
    (hb : ∀ (xw : XWish) (pn : List (Addr × Obj)) (xe : Value → Shared → Prop), L2N.Takes (X.tr pn xe) xw.W → PassesOwn (model X.prog X.w) X.A X.env xe → PSs (X.tr pn xe) body (liftS X.K xw own false ko (pb xw.XX)))
    (hsu : ∀ n ∈ rs, ∀ (a C : Addr) (oe : Obj) (d : Option Addr) (pn : List (Addr × Obj)), L2N.Zn (.ref C) d oe → (∃ vs, oe.data = .fields vs) → PySem.W.nsIn X.K mainGlobals n.nm = some (some (.ref C)) → PSs (X.suite a ((a, oe) :: pn)) (b₀ :: suite) (liftS X.K xw0 own false ko (ps n a d)))
    (hs : X.stack = X.env :: X.outer := by rfl) (hf : X.env.frame = some X.env.locals := by rfl) (hi : X.N[i]? = some y := by rfl) (hln : X.env.kindOf y = some .local := by rfl) (hg : Gl X (XC.tn t) := by rfl) (hdb : (XC.tn t == ("__debug__" : Str)) = false := by decide) (ho : i ∉ own := by decide) :
    PS X (.Try body [.ExceptHandler (some (.Name (XC.tn t) np)) (some y) (b₀ :: suite) pos'] [] [] pos) (liftS X.K xw own fr ko (sTryAs xw.XX rs t i pb ps)) := by
  obtain ⟨D, hm⟩ := hm
  let ts' : Addr → Value → Option Addr → TS := fun a cls d Dn σ H => ∃ n, n ∈ rs ∧ (∃ C, cls = .ref C ∧ PySem.W.nsIn X.K mainGlobals n.nm = some (some (.ref C))) ∧ liftS X.K xw0 own false ko (ps n a d) Dn σ H
  refine ps_imp (L2N.ps_try_as (i := i) (n := y) (c := .ref D) (tb := fun W Dn σ H => ∃ XXb, liftS X.K ⟨XXb, W⟩ own false ko (pb XXb) Dn σ H) (ts := ts') hs hf hN hi hln ⟨hg, hdb, .inl hm⟩ tk (fun W pn xe tk' hp => ?_) (fun a oe cls d pn hz hf' => ?_)) fun Dn σ H ⟨c0, H0, A, c, ρ, DD, hk, t1, E, F, h, z⟩ => ?_
  · exact ⟨fun pins s σ H Dn I ⟨XXb, h⟩ => (hb ⟨XXb, W⟩ pn xe tk' hp).run pins s σ H Dn I h⟩
  · exact ⟨fun pins s σ H Dn I ⟨n, hn, ⟨C, e, hns⟩, h⟩ => by
      subst e
      exact (hsu n hn a C oe d pn hz hf' hns).run pins s σ H Dn I h⟩
  · refine ⟨_, c0, H0, A, c, ρ, DD, hk, t1, E, F, h, ⟨z.nx.exact, z.rt, z.bk.exact, z.ct.exact, ?_⟩⟩
    rintro c' o' σ' ρ' H' n x cls dx k' s1 s2 t' E' F' r ⟨hn, g⟩
    have eo := s2 rfl
    subst eo
    obtain ⟨C, hns, _, _, _, _, tg⟩ := (FX n hn).ex
    obtain ⟨D', hm', _, ex⟩ := (tg t ht).ex
    have hD : D' = D := by
      rw [hm] at hm'
      exact (Value.ref.inj (Option.some.inj hm')).symm
    subst hD
    have ec : cls = .ref C := by
      have := r.1
      rw [k', hns] at this
      exact (Option.some.inj (Option.some.inj this)).symm
    subst ec
    refine ⟨n.sub t, ex, fun e a na => ?_, fun e => ?_⟩
    · rw [if_pos e] at g
      have re := r.excR (a := a)
      have nO : ∀ j, j ∈ o' → (ρ'.set i (some (excD n a dx x)))[j]? = ρ'[j]? ∧ (σ'.set i (some (.ref a)))[j]? = σ'[j]? := fun j hj => by
        have hne : i ≠ j := fun z => ho (z ▸ hj)
        rw [List.getElem?_set_ne hne, List.getElem?_set_ne hne]
        exact ⟨rfl, rfl⟩
      exact ⟨n, hn, ⟨C, rfl, hns⟩, c0, H0, A, c', _, _, k', t', E'.set ho re.1, F'.congr nO, g a dx re.2, ⟨z.nx.exact.setN ho, z.rt, z.bk.exact.setN ho, z.ct.exact.setN ho, xNxt0⟩⟩
    · rw [if_neg (by rw [e]; exact Bool.false_ne_true)] at g
      exact z.xe c' o' σ' ρ' H' n x _ dx k' s1 (fun _ => rfl) t' E' F' r g
end
def isExc (a : Addr) (d : Option Addr) (ρ : PEnv) (i : Nat) : Prop := (d = none ∧ ρ[i]? = some (some (.ref a))) ∨ ∃ dd f x, d = some dd ∧ ρ[i]? = some (some (.exc a dd f x))
def pIs (n : XC) (t : Option XC) (a : Addr) (d : Option Addr) (i : Nat) : TED := fun ρ R => isExc a d ρ i ∧ R (.bl (n.sub t))
def pIsVE (a : Addr) (d : Option Addr) (i : Nat) : TED := fun ρ R => isExc a d ρ i ∧ R (.bl true)
section
variable {X : Cx} {own : List Nat} {pos p1 p2 p3 : Pos} {y : Str} {a C : Addr} {oe : Obj} {d : Option Addr} {n : XC} {ts : List (Option XC)}
theorem inst_at {pins : List (Addr × Obj)} {σ : L2.St} {H : Hp} {s : Shared} (I : Inv X pins σ H s) (hp : (a, oe) ∈ X.pn) (hz : Zc (.ref C) d oe) (hf : ∃ vs, oe.data = .fields vs) (hd : ∀ dd, d = some dd → ∃ fs, H dd = some (.xd fs)) : ∃ od, PySem.W.InstAt s.heap a oe C od := by
  obtain ⟨hget, _⟩ := I.pin (a, oe) (List.mem_append_left _ hp)
  obtain ⟨vs, hv⟩ := hf
  cases d with
  | none =>
    refine ⟨none, ?_⟩
    obtain ⟨oc, od, oda, osl⟩ := oe
    obtain ⟨h1, h2⟩ := hz
    dsimp only at h1 h2 hv
    subst h1 h2 hv
    exact ⟨hget, rfl, rfl, trivial⟩
  | some dd =>
    obtain ⟨fs, hx⟩ := hd dd rfl
    obtain ⟨mA, hns, hr⟩ := (show ObjOk X.prog X.w H s.heap dd (.xd fs) from I.hok dd _ hx)
    obtain ⟨od, ho, hl⟩ := lookIn_ns hns
    exact ⟨some od, hget, hz.1, by unfold PySem.W.notCls; rw [hv] <;> rfl, by rw [hz.2]; exact ho⟩
def rIsO (K : PySem.W.Frag) (C a : Addr) (d : Option Addr) : List V → Hp → VK → Prop := fun xs H Q => ∃ (c : V) (cv : Value) (b : Bool), xs = [.ref a, c] ∧ (∀ u, RelV c u → u = cv) ∧ PySem.W.kitOne K (.ref C) cv = some b ∧ (∀ dd, d = some dd → ∃ fs, H dd = some (.xd fs)) ∧ Q (.bl b) H
theorem call_isO (F : ExcC X.K C) (hp : (a, oe) ∈ X.pn) (hz : Zc (.ref C) d oe) (hf : ∃ vs, oe.data = .fields vs) : CallR X (.builtin "isinstance") (rIsO X.K C a d) := by
  intro pins s σ H xs us Q I r h
  obtain ⟨c, cv, b, rfl, hcv, e, hd, q⟩ := h
  cases r with
  | cons rx rr =>
    cases rr with
    | cons rt rr =>
      cases rr
      cases rx
      have ec := hcv _ rt
      subst ec
      obtain ⟨od, J⟩ := inst_at I hp hz hf hd
      exact PySem.W.kia_one (kitxEO F) I.kIn J e (fun z => nomatch z) fun tk => ⟨.bl b, H, I.kept (t' := tk) fun _ _ z => z, rfl, q⟩
theorem isExc_val {c : Cfg} {A : Addr → Prop} {σ : L2.St} {ρ : PEnv} {H : Hp} {i : Nat} (E : EnvR c own A σ ρ H) (hi : i ∉ own) (h : isExc a d ρ i) : σ[i]? = some (some (.ref a)) ∧ ∀ dd, d = some dd → ∃ fs, H dd = some (.xd fs) := by
  rcases h with ⟨hd, h⟩ | ⟨dd, f, x, hd, h⟩
  · obtain ⟨v, h1, h2⟩ := E.slot i _ h hi
    cases h2
    exact ⟨h1, fun dd z => by rw [hd] at z; cases z⟩
  · obtain ⟨v, h1, h2⟩ := E.slot i _ h hi
    cases h2 with
    | exc n g l r => exact ⟨h1, fun dd' z => by rw [hd] at z; cases z; exact ⟨_, g⟩⟩
theorem e_is (i : Nat) (t : Option XC) (F : XFact X.K X.mg ts n) (ht : t ∈ ts) (hns : PySem.W.nsIn X.K mainGlobals n.nm = some (some (.ref C))) (hp : (a, oe) ∈ X.pn) (hz : Zc (.ref C) d oe) (hf : ∃ vs, oe.data = .fields vs) (hm : X.mg "isinstance" = none) (hi : i ∉ own := by decide) (hN : X.N[i]? = some y := by rfl)
    (hv : Vis X.env.scope y := by first | exact Or.inl rfl | exact Or.inr (Or.inl rfl) | exact Or.inr (Or.inr rfl)) (hd : (y == ("__debug__" : Str)) = false := by decide) (hcd : (y == ("__classdict__" : Str)) = false := by decide) (hg : Gl X "isinstance" := by rfl) (hgt : Gl X (XC.tn t) := by rfl) (hdt : (XC.tn t == ("__debug__" : Str)) = false := by decide)
    (hs : starEach [.Name y p1, .Name (XC.tn t) p2] X.env = (false, eval (.Name y p1) X.env) :: starEach [.Name (XC.tn t) p2] X.env := by rfl) (hs2 : starEach [.Name (XC.tn t) p2] X.env = (false, eval (.Name (XC.tn t) p2) X.env) :: starEach [] X.env := by rfl) (hpl : (backTo pos (starEach [.Name (XC.tn t) p2] X.env)).any (·.1) = false := by rfl) :
    PE X (.Call (.Name "isinstance" p3) [.Name y p1, .Name (XC.tn t) p2] [] pos) (lift X.K own .strong (pIs n t a d i)) := by
  obtain ⟨C', hns', fX, fE, _, _, tg⟩ := F.ex
  obtain ⟨D, hmD, kit, _⟩ := (tg t ht).ex
  have eC : C' = C := by rw [hns] at hns'; exact (Value.ref.inj (Option.some.inj (Option.some.inj hns'))).symm
  subst eC
  refine pe_imp (pe_callB (call_isO fE hp hz hf) hg hm (by decide +kernel) (L2.pa_cons (pe_var hN hv hd hcd) (L2.pa_cons (pe_glob (v := .ref D) hgt hmD rfl hdt) L2.pa_nil hs2) hs) (by decide) (by decide) hs hpl) fun σ H Q ⟨c, A, ρ, R, hk, E, hp', f⟩ => ?_
  obtain ⟨h1, h2⟩ := isExc_val E hi hp'.1
  exact ⟨.ref a, h1, .ref D, .ref D, n.sub t, rfl, fun u r => r, kit, h2, f c _ H (.bl _) (Step.refl E.fok) (.bl _) hp'.2⟩
end
end DL

set_option Elab.async false
set_option linter.all false
set_option maxRecDepth 100000
set_option maxHeartbeats 4000000

set_option Elab.async false
set_option linter.all false
set_option maxRecDepth 100000
set_option maxHeartbeats 4000000
namespace DLX
open PySem PySem.Spec PyProof.Rows L2 L2H
structure FnHp (P : Program) (w : World) (K : PySem.W.Frag) (mg : Str → Option Value) (base : Heap) (PP : Addr × Obj → Prop) (k : Nat) (f : Addr) (fd : FuncData) (ps : List Str) (sp : Sp) : Prop where
  len : ∀ vs H Q E, sp vs H Q E → vs.length = ps.length
  run : ∀ (A : Around) (outer : List Env) (s : Shared) (H : Hp) (args : Args) (us : List Value) (vs : List V) (Q : VK) (E : XK) (p : Addr × Obj), RoomH k A → Hot1 A p → PP p → PinOk outer H s p → Env0 P w K mg base A outer s H → BindsTo s fd args (ps.zip us) → Vals vs us → sp vs H Q E →
    codeAny (model P w) A (.call (.ref f) args) (CR CX0 outer P w H s Q E) s
end DLX
namespace DL
open PySem PySem.Spec PyProof.Rows L2 DLX L2H
variable [TabsOf]
def PinX (K : PySem.W.Frag) (n : XC) (a : Addr) (d : Option Addr) (p : Addr × Obj) : Prop := p.1 = a ∧ ∃ C, PySem.W.nsIn K mainGlobals n.nm = some (some (.ref C)) ∧ L2N.Zn (.ref C) d p.2 ∧ ∃ vs, p.2.data = .fields vs
structure DefH (P : Program) (w : World) (K : PySem.W.Frag) (mg : Str → Option Value) (base : Heap) (x : Str) (k n : Nat) (g : XC → Addr → Option Addr → List D → (D → Prop) → Prop) (rs : List XC) : Prop where
  ex : ∃ (f : Addr) (fd : FuncData) (ps : List Str), (∀ m ∈ rs, ∀ a d, FnHp P w K mg base (PinX K m a d) k f fd ps (spD K n .strong (g m a d))) ∧ mg x = some (.ref f) ∧ PySem.W.keepIn K (.ref f) = true ∧ Binds K fd ps []
end DL

set_option Elab.async false
set_option linter.all false
set_option maxRecDepth 100000
set_option maxHeartbeats 4000000
namespace DL
open PySem PySem.Spec PyProof.Rows L2 DLX L2H
variable [TabsOf]
theorem tk0 {X : Cx} : L2N.Takes X xw0.W := fun _ _ ⟨_, _, _, _, _, _, _, _, _, _, _, _, _, _, _, _, w⟩ => w.elim
theorem tgt_mk {K : PySem.W.Frag} {mg : Str → Option Value} {C D : Addr} {n : XC} (t : Option XC) (hm : mg (XC.tn t) = some (.ref D)) (h1 : PySem.W.subIn K (.ref D) (.type "BaseException") = some true) (h2 : PySem.W.isClsIn K D = true) (h3 : PySem.W.typeIn K (.ref D) = some (.type "type"))
    (h4 : PySem.W.subIn K (.ref C) (.ref D) = some (n.sub t)) (h5 : PySem.W.subIn K (.ref C) (.ref C) = some true) : XTgt K mg C n t :=
  ⟨D, hm, kit_sub h2 h3 h4 (fun e => by subst e; exact Option.some.inj (h4.symm.trans h5)), exm_sub h1 h2 h3 h4⟩
structure XOne (K : PySem.W.Frag) (n : XC) (C : Addr) : Prop where
  ns : PySem.W.nsIn K mainGlobals n.nm = some (some (.ref C))
  cls : ∃ nm q N bs bm sn sub ab col dd k0 k1 k2 k3 k5, K.lookup C = some (excClassObj nm q C N bs bm true sn sub ab col dd k0 k1 k2 k3 k5 "ValueError.__new__") ∧ PySem.HandSPX.refsVE bm = true
  sa : PySem.W.findIn K (.ref C) "__setattr__" = some (some (.builtin "object.__setattr__"))
  ga : PySem.W.findIn K (.ref C) "__getattribute__" = some (some (.builtin "BaseException.__getattribute__"))
  gg : PySem.W.findIn K (.ref C) "__getattr__" = some none
  gc : PySem.W.findIn K (.ref C) "__class__" = some (some (.builtin "object.__class__"))
  ex : PySem.W.subIn K (.ref C) (.type "BaseException") = some true
  ty : PySem.W.typeIn K (.ref C) = some (.type "type")
  kp : PySem.W.keepIn K (.ref C) = true
  hd : PySem.W.hasDictIn K C = true
  mo : PySem.W.mroIn K C (.type "object") = some true
  ve : PySem.W.kitOne K (.ref C) (.type "ValueError") = some true
  se : PySem.W.subIn K (.ref C) (.ref C) = some true
  fl : ∀ f, n.fld = some f → PySem.W.findIn K (.ref C) f = some none
theorem XOne.oex {K : PySem.W.Frag} {n : XC} {C : Addr} (O : XOne K n C) : OexC K C := ⟨O.cls, O.sa, O.ex, O.ty, O.kp⟩
theorem XOne.fact {K : PySem.W.Frag} {mg : Str → Option Value} {n : XC} {C : Addr} {ts : List (Option XC)} (O : XOne K n C) (hn : PySem.W.specialIn K (.builtin "object.__class__") "__get__" = some (some (.builtin "getset_descriptor.__get__"))) (ht : PySem.W.takesIn K (.builtin "object.__class__") = some true) (hts : ∀ t ∈ ts, XTgt K mg C n t) : XFact K mg ts n :=
  ⟨C, O.ns, ⟨O.ga, O.gg, O.ex, O.hd⟩, ⟨O.ga, O.gg, O.ex, O.hd, O.gc, hn, ht, O.mo⟩, O.fl, O.ve, hts⟩
theorem kit_ve {K : PySem.W.Frag} {C : Addr} (h : PySem.W.subIn K (.ref C) (.type "ValueError") = some true) : PySem.W.kitOne K (.ref C) (.type "ValueError") = some true := by
  have m : PySem.W.kitMeta "ValueError" = true := by decide +kernel
  unfold PySem.W.kitOne
  split
  · rfl
  · show (if PySem.W.kitMeta "ValueError" = true then PySem.W.subIn K (.ref C) (.type "ValueError") else none) = some true
    rw [if_pos m, h]
theorem refs_ve {CF : Addr} : PySem.HandSPX.refsVE [.ref CF, .type "ValueError", .type "Exception", .type "BaseException", .type "object"] = true := by
  show PySem.HandSPX.refsVE [.type "ValueError", .type "Exception", .type "BaseException", .type "object"] = true
  decide +kernel
def clsBody : Stmt → List Stmt
  | .ClassDef _ _ _ b .. => b
  | _ => []
def mth (s : Stmt) (i : Nat) : Stmt := (clsBody s).getD i (.Pass ⟨0, 0, 0, 0⟩)
section
variable {ρ : PEnv} {R : D → Prop} {RX : XC → D → Prop} {DD : DEnds} {XX : XT} {n : XC} {pe : TED} {pr qr : TRD} {pa : TAD} {pt : TTD} {gd : TGD} {i : Nat} {s : Str} {w : List D → (D → Prop) → (XC → D → Prop) → Prop} {rs : List XC} {t : Option XC} {pb : XT → TSD} {ps : XC → Addr → Option Addr → TSD} {p : TSD} {a : Addr} {d : Option Addr} {f : Str}
theorem x_raise : sRaise XX n pe DD ρ = pe ρ fun d => XX n d ρ := propext Iff.rfl
theorem x_callX : pCallX w pa ρ R RX = pa ρ fun ds => w ds R RX := propext Iff.rfl
theorem x_noXr : pNoX pe ρ R RX = pe ρ R := propext Iff.rfl
theorem x_told : pTold s pr ρ R RX = pr ρ (fun d => R (.tup [.str s, d])) RX := propext Iff.rfl
theorem x_ifX : pIfX pt pr qr ρ R RX = pt ρ fun b => if b = true then pr ρ R RX else qr ρ R RX := propext Iff.rfl
theorem x_call1X : pCall1X w pr ρ R RX = pr ρ (fun d => w [d] R RX) RX := propext Iff.rfl
theorem x_setX : sSetX XX i pr DD ρ = pr ρ (fun d => DD.nx (ρ.set i (some d))) fun m y => XX m y ρ := propext Iff.rfl
theorem x_retX : sRetX XX pr DD ρ = pr ρ DD.rt fun m y => XX m y ρ := propext Iff.rfl
theorem x_dropX : sDropX XX pr DD ρ = pr ρ (fun _ => DD.nx ρ) fun m y => XX m y ρ := propext Iff.rfl
theorem x_asgX : sAsgX XX pr gd DD ρ = pr ρ (fun d => gd d ρ DD.nx) fun m y => XX m y ρ := propext Iff.rfl
theorem x_appX : sAppX XX i pr DD ρ = ownL ρ i fun ds => pr ρ (fun d => ds.length < sizeLine ∧ DD.nx (ρ.set i (some (.lst (ds ++ [d]))))) fun m y => XX m y ρ := propext Iff.rfl
theorem x_tryAs : sTryAs XX rs t i pb ps DD ρ = pb (fun n x ρ' => n ∈ rs ∧ if n.sub t = true then ∀ a dx, (n.fld ≠ none ↔ dx ≠ none) → ps n a dx { nx := fun ρ'' => DD.nx (ρ''.set i none), rt := DD.rt, bk := fun ρ'' => DD.bk (ρ''.set i none), ct := fun ρ'' => DD.ct (ρ''.set i none) } (ρ'.set i (some (excD n a dx x))) else XX n x ρ') DD ρ := propext Iff.rfl
theorem x_tryOnly : sTryOnly XX rs t pb p DD ρ = pb (fun n x ρ' => n ∈ rs ∧ if n.sub t = true then p DD ρ' else XX n x ρ') DD ρ := propext Iff.rfl
theorem x_isE : pIs n t a d i ρ R = (isExc a d ρ i ∧ R (.bl (n.sub t))) := propext Iff.rfl
theorem x_isVE : pIsVE a d i ρ R = (isExc a d ρ i ∧ R (.bl true)) := propext Iff.rfl
end
end DL

set_option Elab.async false
set_option linter.all false
set_option maxRecDepth 100000
set_option maxHeartbeats 4000000
namespace DL
open PySem PySem.Spec PyProof.Rows L2
variable [TabsOf]
def rReprA (K : PySem.W.Frag) : List V → Hp → VK → Prop := fun vs H Q => ∃ (v : V) (d : D), vs = [v] ∧ Dp K H v (toPy d) ∧ (okD 8 d = true ∧ isTL d = true ∧ (toPy d).showable = true ∧ (reprD d).length ≤ sizeLine) ∧ Q (.str (reprD d)) H
theorem call_reprA {X : Cx} {k : Nat} (hr : Room k X.A) (hg : X.A.guards = some []) : CallR X (.builtin "repr") (rReprA X.K) := by
  intro pins s σ H vs us Q I r h
  obtain ⟨v, d, rfl, hd, ⟨hn, ht, hs, hz⟩, q⟩ := h
  match r with
  | .cons rv .nil =>
    obtain ⟨as, r1⟩ := Dp.reads I _ _ _ hd rv
    have hlay := okD_lay d 8 hn
    obtain ⟨a, rfl⟩ := isRef_of_reads r1 (by cases d <;> simp [isTL] at ht <;> simp [toPy, isDisplay])
    refine repr_of_reads' r1 hs (PyData.noDict_hsm (PyData.hasDict_of_canLay _ hlay.1)) hg (by have := hr.un; have := hlay.2; omega) (fun _ _ e => e) (fun h' u tk hk => ?_) hz
    exact ⟨.str (reprD d), H, I.kept hk, ⟨u, rfl⟩, q⟩
def dReprA (xs : List D) (R : D → Prop) : Prop := oneD xs fun x => (okD 8 x = true ∧ isTL x = true ∧ (toPy x).showable = true ∧ (reprD x).length ≤ sizeLine) ∧ R (.str (reprD x))
theorem c_reprA {K : PySem.W.Frag} : CL K (rReprA K) .strong dReprA := fun c own A σ ρ H vs ds R Q hk E r g q => by
  obtain ⟨x, rfl, g, g2⟩ := oneD_iff g
  match r with
  | .cons r1 .nil =>
    exact ⟨_, x, rfl, hk ▸ RepW.dp g.1 r1, g, q c _ H _ (Step.refl E.fok) (.str _) g2⟩
def ShD (d : D) : Prop := okD 8 d = true ∧ isTL d = true ∧ (toPy d).showable = true ∧ (reprD d).length ≤ sizeLine
theorem x_reprA {d : D} {R : D → Prop} : dReprA [d] R = (ShD d ∧ R (.str (reprD d))) := propext Iff.rfl
section
variable {ds : List D} {R : D → Prop} {RX : XC → D → Prop} {p : XT → TSD} {m : Nat} {g : List D → (D → Prop) → (XC → D → Prop) → Prop}
theorem x_fnX : fnX .strong m p ds R RX = p (fun n x _ => RX n x) ⟨fun _ => R .non, R, fun _ => False, fun _ => False⟩ (startD m ds) := propext Iff.rfl
theorem x_fnXF : fnX .fresh m p ds R RX = p (fun n x _ => RX n x) ⟨fun _ => False, R, fun _ => False, fun _ => False⟩ (startD m ds) := propext Iff.rfl
theorem x_noX : noX g ds R = g ds R fun _ _ => False := propext Iff.rfl
end
end DL

set_option Elab.async false
set_option linter.all false
set_option maxRecDepth 100000
set_option maxHeartbeats 4000000
namespace DLK
open PySem PySem.Spec PyProof.Rows L2 LamX NdefX
abbrev LF (qual : Str) (params : Arguments) (scope : Scope) (cl : List (Str × Addr)) (c' : Addr) : NF := ⟨"<lambda>", qual, params, [], scope, cl, c'⟩
end DLK

set_option Elab.async false
set_option linter.all false
set_option maxRecDepth 100000
set_option maxHeartbeats 4000000
namespace DL
open PySem PySem.Spec PyProof.Rows L2 LamX NdefX DLK
variable [TabsOf]
def lamW (m : Nat) (pb : TED) : List D → (D → Prop) → Prop := fun ds R => pb (startD m ds) R
end DL

set_option Elab.async false
set_option linter.all false
set_option maxRecDepth 100000
set_option maxHeartbeats 4000000
namespace DL
open PySem PySem.Spec PyProof.Rows L2
variable [TabsOf]
def dLenB (xs : List D) (R : D → Prop) : Prop := dOne xs fun x => match x with
  | .dT ks _ => R (.int ks.length)
  | .dK ks _ => R (.int ks.length)
  | x => dLen [x] R
theorem x_lenBT {cs : List (Int × Int)} {R : D → Prop} : dLenB [tD cs] R = R (.int cs.length) := propext (by
  show R (.int (cs.map ck).length) ↔ _
  rw [List.length_map])
end DL

set_option Elab.async false
set_option linter.all false
set_option maxRecDepth 100000
namespace DL
abbrev Pt := Int × Int × Int
def ov (f : Side) (p : Pt) : Int := f.1.1 * p.1 + f.1.2 * p.2.1 - f.2 * p.2.2
def d3 (p q r : Pt) : Int := p.1 * (q.2.1 * r.2.2 - r.2.1 * q.2.2) - p.2.1 * (q.1 * r.2.2 - r.1 * q.2.2) + p.2.2 * (q.1 * r.2.1 - r.1 * q.2.1)
theorem d3_cyc (p q r : Pt) : d3 p q r = d3 q r p := by unfold d3; grind
theorem d3_cyc2 (p q r : Pt) : d3 p q r = d3 r p q := by unfold d3; grind
theorem d3_neg (p q r : Pt) : d3 q p r = - d3 p q r := by unfold d3; grind
theorem d3_aab (a b : Pt) : d3 a a b = 0 := by unfold d3; grind
theorem d3_aba (a b : Pt) : d3 a b a = 0 := by unfold d3; grind
theorem d3_baa (a b : Pt) : d3 b a a = 0 := by unfold d3; grind
theorem plk (f : Side) (a b c d : Pt) : d3 b c d * ov f a + d3 a b d * ov f c = d3 a c d * ov f b + d3 a b c * ov f d := by unfold d3 ov; grind
def T3 : List Pt → Prop
  | [] => True
  | x :: xs => xs.Pairwise (fun y z => 0 < d3 x y z) ∧ T3 xs
theorem T3.sub : ∀ {L M : List Pt}, M.Sublist L → T3 L → T3 M
  | _, _, .slnil, h => h
  | _, _, .cons _ s, h => T3.sub s h.2
  | _, _, .cons₂ _ s, h => ⟨h.1.sublist s, T3.sub s h.2⟩
theorem T3.app : ∀ {A B : List Pt}, T3 (A ++ B) ↔ T3 A ∧ T3 B ∧ A.Pairwise (fun a a' => ∀ b ∈ B, 0 < d3 a a' b) ∧ ∀ a ∈ A, B.Pairwise fun b b' => 0 < d3 a b b'
  | [], B => by simp [T3]
  | a :: A, B => by
    simp only [List.cons_append, T3, List.pairwise_append, List.pairwise_cons, T3.app (A := A) (B := B), List.mem_cons, forall_eq_or_imp]
    constructor
    · rintro ⟨⟨h1, h2, h3⟩, h4, h5, h6, h7⟩
      exact ⟨⟨h1, h4⟩, h5, ⟨h3, h6⟩, h2, h7⟩
    · rintro ⟨⟨h1, h4⟩, h5, ⟨h3, h6⟩, h2, h7⟩
      exact ⟨⟨h1, h2, h3⟩, h4, h5, h6, h7⟩
theorem pwI {α : Type} {R S : α → α → Prop} {l : List α} (h : l.Pairwise R) (i : ∀ a ∈ l, ∀ b ∈ l, R a b → S a b) : l.Pairwise S := by
  induction h with
  | nil => exact .nil
  | cons h1 h2 ih =>
    exact .cons (fun b hb => i _ (by simp) b (by simp [hb]) (h1 b hb)) (ih fun a ha b hb => i a (by simp [ha]) b (by simp [hb]))
theorem T3.rot {A B : List Pt} (h : T3 (A ++ B)) : T3 (B ++ A) := by
  obtain ⟨h1, h2, h3, h4⟩ := T3.app.mp h
  refine T3.app.mpr ⟨h2, h1, ?_, fun b hb => pwI h3 fun a _ a' _ h => by rw [d3_cyc]; exact h b hb⟩
  induction B with
  | nil => exact .nil
  | cons b B ih =>
    refine .cons (fun b' hb' a ha => ?_) (ih ?_ ?_ ?_ ?_)
    · rw [d3_cyc2]
      exact List.rel_of_pairwise_cons (h4 a ha) hb'
    · exact T3.sub (List.Sublist.append_left (List.sublist_cons_self _ _) _) h
    · exact h2.2
    · exact pwI h3 fun a _ a' _ h x hx => h x (by simp [hx])
    · exact fun a ha => (List.pairwise_cons.mp (h4 a ha)).2
theorem T3.tri {x y z : Pt} {L : List Pt} (h : T3 L) (s : [x, y, z].Sublist L) : 0 < d3 x y z := by
  have := T3.sub s h
  simp only [T3, List.pairwise_cons, List.mem_cons, List.not_mem_nil, or_false, forall_eq, List.Pairwise.nil, and_true, forall_eq_or_imp] at this
  exact this.1.1
structure Nrm (p : Pt) : Prop where
  pos : 0 < p.2.2
  gcd : Nat.gcd (Int.gcd p.1 p.2.1) p.2.2.natAbs = 1
def Mix (x a b : Pt) : Prop := ∃ k α β : Int, 0 < k ∧ 0 < α ∧ 0 < β ∧ k * x.1 = α * a.1 + β * b.1 ∧ k * x.2.1 = α * a.2.1 + β * b.2.1 ∧ k * x.2.2 = α * a.2.2 + β * b.2.2
theorem mix_ov {f : Side} {x a b : Pt} {k α β : Int} (h1 : k * x.1 = α * a.1 + β * b.1) (h2 : k * x.2.1 = α * a.2.1 + β * b.2.1) (h3 : k * x.2.2 = α * a.2.2 + β * b.2.2) : k * ov f x = α * ov f a + β * ov f b := by
  unfold ov; grind
theorem mix_d3 {x a b : Pt} {k α β : Int} (h1 : k * x.1 = α * a.1 + β * b.1) (h2 : k * x.2.1 = α * a.2.1 + β * b.2.1) (h3 : k * x.2.2 = α * a.2.2 + β * b.2.2) (y z : Pt) : k * d3 x y z = α * d3 a y z + β * d3 b y z := by
  unfold d3; grind
theorem pos_mul {k x : Int} (hk : 0 < k) (h : 0 < k * x) : 0 < x := by
  refine Classical.byContradiction fun z => ?_
  have := Int.mul_nonpos_of_nonneg_of_nonpos (Int.le_of_lt hk) (show x ≤ 0 by omega)
  omega
theorem nn_mul {k x : Int} (hk : 0 < k) (h : 0 ≤ k * x) : 0 ≤ x := by
  refine Classical.byContradiction fun z => ?_
  have := Int.mul_neg_of_pos_of_neg hk (show x < 0 by omega)
  omega
theorem zero_mul' {k x : Int} (hk : 0 < k) (h : k * x = 0) : x = 0 := by
  rcases Int.mul_eq_zero.mp h with z | z
  · omega
  · exact z
theorem Mix.nn {f : Side} {x a b : Pt} (h : Mix x a b) (ha : 0 ≤ ov f a) (hb : 0 ≤ ov f b) : 0 ≤ ov f x := by
  obtain ⟨k, α, β, k0, a0, b0, h1, h2, h3⟩ := h
  have e := mix_ov (f := f) h1 h2 h3
  have m1 := Int.mul_nonneg (Int.le_of_lt a0) ha
  have m2 := Int.mul_nonneg (Int.le_of_lt b0) hb
  exact nn_mul k0 (by omega)
theorem Mix.tight {f : Side} {x a b : Pt} (h : Mix x a b) (ha : ov f a = 0) (hb : ov f b = 0) : ov f x = 0 := by
  obtain ⟨k, α, β, k0, a0, b0, h1, h2, h3⟩ := h
  have e := mix_ov (f := f) h1 h2 h3
  rw [ha, hb, Int.mul_zero, Int.mul_zero, Int.add_zero] at e
  exact zero_mul' k0 e
theorem Mix.symm {x a b : Pt} (h : Mix x a b) : Mix x b a := by
  obtain ⟨k, α, β, k0, a0, b0, h1, h2, h3⟩ := h
  exact ⟨k, β, α, k0, b0, a0, by omega, by omega, by omega⟩
theorem Mix.d3nn {x a b y z : Pt} (h : Mix x a b) (ha : 0 ≤ d3 a y z) (hb : 0 ≤ d3 b y z) : 0 ≤ d3 x y z := by
  obtain ⟨k, α, β, k0, a0, b0, h1, h2, h3⟩ := h
  have e := mix_d3 h1 h2 h3 y z
  have m1 := Int.mul_nonneg (Int.le_of_lt a0) ha
  have m2 := Int.mul_nonneg (Int.le_of_lt b0) hb
  exact nn_mul k0 (by omega)
theorem Mix.d3p1 {x a b y z : Pt} (h : Mix x a b) (ha : 0 < d3 a y z) (hb : 0 ≤ d3 b y z) : 0 < d3 x y z := by
  obtain ⟨k, α, β, k0, a0, b0, h1, h2, h3⟩ := h
  have e := mix_d3 h1 h2 h3 y z
  have m1 := Int.mul_pos a0 ha
  have m2 := Int.mul_nonneg (Int.le_of_lt b0) hb
  exact pos_mul k0 (by omega)
theorem Mix.d3p2 {x a b y z : Pt} (h : Mix x a b) (ha : 0 ≤ d3 a y z) (hb : 0 < d3 b y z) : 0 < d3 x y z := h.symm.d3p1 hb ha
theorem T3.cut {K N : List Pt} {k0 kl n0 nl : Pt} {K1 K2 N1 N2 : List Pt} (h : T3 (K ++ N)) (ek0 : K = k0 :: K1) (ekl : K = K2 ++ [kl]) (en0 : N = n0 :: N1) (enl : N = N2 ++ [nl]) (h3 : 3 ≤ (K ++ N).length) {c1 c2 : Bool} {x1 x2 : Pt}
    (m1 : c1 = true → Mix x1 kl n0) (m2 : c2 = true → Mix x2 nl k0) : T3 (K ++ ((if c1 then [x1] else []) ++ (if c2 then [x2] else []))) := by
  obtain ⟨t1, t2, t3, t4⟩ := T3.app.mp h
  have hn0 : n0 ∈ N := by rw [en0]; simp
  have hnl : nl ∈ N := by rw [enl]; simp
  have klast : ∀ k ∈ K, ∀ n ∈ N, k ≠ kl → 0 < d3 k kl n := fun k hk n hn ne => by
    rw [ekl] at hk t3
    rcases List.mem_append.mp hk with z | z
    · exact (List.pairwise_append.mp t3).2.2 k z kl (by simp) n hn
    · exact absurd (List.mem_singleton.mp z) ne
  have khead : ∀ k ∈ K, ∀ n ∈ N, k ≠ k0 → 0 < d3 k0 k n := fun k hk n hn ne => by
    rw [ek0] at hk t3
    rcases List.mem_cons.mp hk with z | z
    · exact absurd z ne
    · exact List.rel_of_pairwise_cons t3 z n hn
  have klast0 : ∀ k ∈ K, ∀ n ∈ N, 0 ≤ d3 k kl n := fun k hk n hn => by
    by_cases e : k = kl
    · rw [e, d3_aab]; exact Int.le_refl _
    · exact Int.le_of_lt (klast k hk n hn e)
  have khead0 : ∀ k ∈ K, ∀ n ∈ N, 0 ≤ d3 k0 k n := fun k hk n hn => by
    by_cases e : k = k0
    · rw [e, d3_aab]; exact Int.le_refl _
    · exact Int.le_of_lt (khead k hk n hn e)
  -- a pair of K with the kept ends
  have kk_last : K.Pairwise fun a b => 0 ≤ d3 a b kl := by
    rw [ekl] at t1 ⊢
    obtain ⟨u1, u2, u3, u4⟩ := T3.app.mp t1
    refine List.pairwise_append.mpr ⟨pwI u3 fun a _ b _ h => Int.le_of_lt (h kl (by simp)), by simp, fun a ha b hb => ?_⟩
    rw [List.mem_singleton.mp hb, d3_baa]
    exact Int.le_refl _
  have kk_head : K.Pairwise fun a b => 0 ≤ d3 a b k0 := by
    rw [ek0] at t1 ⊢
    refine .cons (fun b hb => by rw [d3_aba]; exact Int.le_refl _) (pwI t1.1 fun a _ b _ h => by rw [d3_cyc2]; exact Int.le_of_lt h)
  have px1 : c1 = true → K.Pairwise fun a b => 0 < d3 a b x1 := fun e => pwI (kk_last.and t3) fun a _ b _ ⟨h1, h2⟩ => by
    rw [d3_cyc2]
    exact (m1 e).d3p2 (by rw [d3_cyc]; exact h1) (by rw [d3_cyc]; exact h2 n0 hn0)
  have px2 : c2 = true → K.Pairwise fun a b => 0 < d3 a b x2 := fun e => pwI (kk_head.and t3) fun a _ b _ ⟨h1, h2⟩ => by
    rw [d3_cyc2]
    exact (m2 e).d3p1 (by rw [d3_cyc]; exact h2 nl hnl) (by rw [d3_cyc]; exact h1)
  have nn : ∀ k ∈ K, 0 ≤ d3 k n0 nl := fun k hk => by
    have := t4 k hk
    rw [en0] at this enl
    cases N1 with
    | nil =>
      rw [show nl = n0 by
        cases N2 with
        | nil => injection enl with e _; exact e.symm
        | cons _ N2 => injection enl with _ e; cases N2 <;> injection e]
      rw [d3_baa]; exact Int.le_refl _
    | cons n1 N1 =>
      have hl : nl ∈ n1 :: N1 := by
        cases N2 with
        | nil => injection enl with _ e; exact (nomatch e)
        | cons m N2 => injection enl with _ e; rw [e]; simp
      exact Int.le_of_lt (List.rel_of_pairwise_cons this hl)
  have pxx : c1 = true → c2 = true → ∀ k ∈ K, 0 < d3 k x1 x2 := fun e1 e2 k hk => by
    have s1 : 0 ≤ d3 k kl nl := klast0 k hk nl hnl
    have s2 : 0 ≤ d3 k kl k0 := by
      rw [d3_cyc2]
      by_cases e : k0 = k
      · rw [e, d3_aab]; exact Int.le_refl _
      · by_cases e' : k = kl
        · rw [e', d3_baa]; exact Int.le_refl _
        · rw [ekl] at hk kk_head
          rcases List.mem_append.mp hk with z | z
          · have := (List.pairwise_append.mp kk_head).2.2 k z kl (by simp)
            rw [d3_cyc2] at this
            exact this
          · exact absurd (List.mem_singleton.mp z) e'
    have s3 : 0 ≤ d3 k n0 nl := nn k hk
    have s4 : 0 ≤ d3 k n0 k0 := by rw [d3_cyc2]; exact khead0 k hk n0 hn0
    -- x1 with nl, x1 with k0
    have r1 : 0 ≤ d3 x1 nl k := (m1 e1).d3nn (by rw [d3_cyc2]; exact s1) (by rw [d3_cyc2]; exact s3)
    have r2 : 0 ≤ d3 x1 k0 k := (m1 e1).d3nn (by rw [d3_cyc2]; exact s2) (by rw [d3_cyc2]; exact s4)
    have q1 : d3 x2 k x1 = d3 k x1 x2 := d3_cyc _ _ _
    rw [← q1]
    by_cases e : k = kl
    · by_cases e' : k = k0
      · -- K is one point: N has two at least
        have s5 : 0 < d3 k n0 nl := by
          have kl1 : K.length = 1 := by
            have e0 : kl = k0 := e.symm.trans e'
            have nd : ∀ a ∈ K, a = k0 := fun a ha => Classical.byContradiction fun z => by
              have g := khead a ha n0 hn0 z
              have g2 := klast a ha n0 hn0 (by rw [e0]; exact z)
              rw [e0, d3_neg] at g2
              omega
            rw [ek0]
            cases K1 with
            | nil => rfl
            | cons b K1 =>
              exfalso
              have hb := nd b (by rw [ek0]; simp)
              rw [ek0] at t3
              have := List.rel_of_pairwise_cons t3 (a' := b) (by simp) n0 hn0
              rw [hb, d3_aab] at this
              omega
          rw [List.length_append, kl1] at h3
          have := t4 k hk
          rw [en0] at this enl h3
          cases N1 with
          | nil => rw [List.length_singleton] at h3; omega
          | cons n1 N1 =>
            have hl : nl ∈ n1 :: N1 := by
              cases N2 with
              | nil => injection enl with _ e; exact (nomatch e)
              | cons m N2 => injection enl with _ e; rw [e]; simp
            exact List.rel_of_pairwise_cons this hl
        have r3 : 0 < d3 x1 nl k := (m1 e1).d3p2 (by rw [d3_cyc2]; exact s1) (by rw [d3_cyc2]; exact s5)
        exact (m2 e2).d3p1 (by rw [d3_cyc2]; exact r3) (by rw [d3_cyc2]; exact r2)
      · have s5 : 0 < d3 k n0 k0 := by rw [d3_cyc2]; exact khead k hk n0 hn0 e'
        have r3 : 0 < d3 x1 k0 k := (m1 e1).d3p2 (by rw [d3_cyc2]; exact s2) (by rw [d3_cyc2]; exact s5)
        exact (m2 e2).d3p2 (by rw [d3_cyc2]; exact r1) (by rw [d3_cyc2]; exact r3)
    · have s5 : 0 < d3 k kl nl := klast k hk nl hnl e
      have r3 : 0 < d3 x1 nl k := (m1 e1).d3p1 (by rw [d3_cyc2]; exact s5) (by rw [d3_cyc2]; exact s3)
      exact (m2 e2).d3p1 (by rw [d3_cyc2]; exact r3) (by rw [d3_cyc2]; exact r2)
  refine T3.app.mpr ⟨t1, ?_, ?_, ?_⟩
  · cases c1 <;> cases c2 <;> simp [T3]
  · cases c1 <;> cases c2
    · simp only [Bool.false_eq_true, if_false, List.append_nil, List.not_mem_nil, false_imp_iff, implies_true]
      exact pwI t3 fun _ _ _ _ _ => trivial
    · simp only [Bool.false_eq_true, if_false, if_true, List.nil_append, List.mem_singleton, forall_eq]
      exact px2 rfl
    · simp only [Bool.false_eq_true, if_false, if_true, List.append_nil, List.mem_singleton, forall_eq]
      exact px1 rfl
    · simp only [if_true, List.cons_append, List.nil_append, List.mem_cons, List.not_mem_nil, or_false, forall_eq_or_imp, forall_eq]
      exact (px1 rfl).and (px2 rfl)
  · intro k hk
    cases c1 <;> cases c2
    · simp
    · simp
    · simp
    · simp only [if_true, List.cons_append, List.nil_append, List.pairwise_cons, List.mem_singleton, forall_eq, List.not_mem_nil, false_imp_iff, implies_true, List.Pairwise.nil, and_true]
      exact pxx rfl rfl k hk
def lastOr {α : Type} (p : α) (A : List α) : α := A.getLast?.getD p
theorem lastOr_nil {α : Type} (p : α) : lastOr p [] = p := rfl
theorem lastOr_snoc {α : Type} (p a : α) (A : List α) : lastOr p (A ++ [a]) = a := by simp [lastOr]
theorem lastOr_one {α : Type} (p a : α) : lastOr p [a] = a := rfl
theorem lastOr_cons {α : Type} (p a : α) (A : List α) : lastOr p (a :: A) = lastOr a A := by
  cases A with
  | nil => rfl
  | cons b A => simp [lastOr, List.getLast?_cons]
theorem lastOr_app {α : Type} (p : α) (A B : List α) : lastOr p (A ++ B) = lastOr (lastOr p A) B := by
  induction A generalizing p with
  | nil => rfl
  | cons a A ih => rw [List.cons_append, lastOr_cons, lastOr_cons, ih]
def Ch (Q : Pt → Pt → Prop) : Pt → List Pt → Prop
  | _, [] => True
  | p, x :: xs => Q p x ∧ Ch Q x xs
theorem Ch.app {Q : Pt → Pt → Prop} : ∀ {p : Pt} {A B : List Pt}, Ch Q p (A ++ B) ↔ Ch Q p A ∧ Ch Q (lastOr p A) B
  | p, [], B => by simp [Ch, lastOr]
  | p, a :: A, B => by
    rw [List.cons_append, lastOr_cons]
    simp only [Ch]
    rw [Ch.app (p := a) (A := A) (B := B), and_assoc]
theorem Ch.mono {Q Q' : Pt → Pt → Prop} (h : ∀ a b, Q a b → Q' a b) : ∀ {p : Pt} {A : List Pt}, Ch Q p A → Ch Q' p A
  | _, [], _ => trivial
  | _, _ :: _, g => ⟨h _ _ g.1, Ch.mono h g.2⟩
def Cy (Q : Pt → Pt → Prop) (L : List Pt) : Prop := Ch Q (lastOr (0, 0, 0) L) L
theorem Cy.rot {Q : Pt → Pt → Prop} {A B : List Pt} (h : Cy Q (A ++ B)) : Cy Q (B ++ A) := by
  unfold Cy at *
  cases A with
  | nil => simpa using h
  | cons a A =>
    cases B with
    | nil => simpa using h
    | cons b B =>
      have e1 : lastOr ((0, 0, 0) : Pt) (a :: A ++ b :: B) = lastOr b B := by rw [lastOr_app, lastOr_cons]
      have e2 : lastOr ((0, 0, 0) : Pt) (b :: B ++ a :: A) = lastOr a A := by rw [lastOr_app, lastOr_cons]
      rw [e1, Ch.app, lastOr_cons] at h
      rw [e2, Ch.app, lastOr_cons]
      exact ⟨h.2, h.1⟩
theorem Cy.mono {Q Q' : Pt → Pt → Prop} (h : ∀ a b, Q a b → Q' a b) {L : List Pt} (g : Cy Q L) : Cy Q' L := Ch.mono h g
theorem last_of {α : Type} {l : List α} (h : l ≠ []) : ∃ x a, l = x ++ [a] := ⟨l.dropLast, l.getLast h, (List.dropLast_concat_getLast h).symm⟩
theorem ring_at {v : Pt} {L : List Pt} (hv : v ∈ L) (h3 : 3 ≤ L.length) : ∃ w M u A B, L = A ++ B ∧ B ++ A = v :: (w :: (M ++ [u])) := by
  obtain ⟨A, B, e⟩ := List.append_of_mem hv
  have hl : 2 ≤ (B ++ A).length := by rw [e] at h3; simp at h3 ⊢; omega
  generalize hC : B ++ A = C at hl
  match C, hl with
  | w :: C, hl =>
    rw [List.length_cons] at hl
    obtain ⟨M, u, e'⟩ := last_of (l := C) (fun z => by rw [z] at hl; simp at hl)
    exact ⟨w, M, u, A, v :: B, e, by rw [List.cons_append, hC, e']⟩
theorem cram (f : Side) (u v w q : Pt) : d3 u v w * ov f q = d3 q v w * ov f u + d3 u q w * ov f v + d3 u v q * ov f w := by unfold d3 ov; grind
theorem van3 {f : Side} {u v w : Pt} (h1 : ov f u = 0) (h2 : ov f v = 0) (h3 : ov f w = 0) (hd : d3 u v w ≠ 0) : f.1 = (0, 0) := by
  have e1 := cram f u v w (1, 0, 0)
  have e2 := cram f u v w (0, 1, 0)
  rw [h1, h2, h3] at e1 e2
  simp only [Int.mul_zero, Int.add_zero] at e1 e2
  have f1 : ov f (1, 0, 0) = f.1.1 := by unfold ov; grind
  have f2 : ov f (0, 1, 0) = f.1.2 := by unfold ov; grind
  rw [f1] at e1
  rw [f2] at e2
  rcases Int.mul_eq_zero.mp e1 with z | z
  · exact absurd z hd
  · rcases Int.mul_eq_zero.mp e2 with z' | z'
    · exact absurd z' hd
    · exact Prod.ext z z'
theorem nrm_uniq {p q : Pt} (hp : Nrm p) (hq : Nrm q) (h1 : p.1 * q.2.2 = q.1 * p.2.2) (h2 : p.2.1 * q.2.2 = q.2.1 * p.2.2) : p = q := by
  have dv : ∀ {p q : Pt}, Nrm p → p.1 * q.2.2 = q.1 * p.2.2 → p.2.1 * q.2.2 = q.2.1 * p.2.2 → p.2.2.natAbs ∣ q.2.2.natAbs := fun {p q} hp h1 h2 => by
    have d1 : p.2.2.natAbs ∣ p.1.natAbs * q.2.2.natAbs := ⟨q.1.natAbs, by rw [← Int.natAbs_mul, h1, Int.natAbs_mul, Nat.mul_comm]⟩
    have d2 : p.2.2.natAbs ∣ p.2.1.natAbs * q.2.2.natAbs := ⟨q.2.1.natAbs, by rw [← Int.natAbs_mul, h2, Int.natAbs_mul, Nat.mul_comm]⟩
    have d3 : p.2.2.natAbs ∣ p.2.2.natAbs * q.2.2.natAbs := ⟨_, rfl⟩
    have g := Nat.dvd_gcd (Nat.dvd_gcd d1 d2) d3
    rw [Nat.gcd_mul_right, Nat.gcd_mul_right] at g
    have := hp.gcd
    unfold Int.gcd at this
    rw [this, Nat.one_mul] at g
    exact g
  have e := Nat.dvd_antisymm (dv hp h1 h2) (dv hq h1.symm h2.symm)
  have p0 := hp.pos
  have q0 := hq.pos
  have e' : p.2.2 = q.2.2 := by omega
  rw [e'] at h1 h2
  have z : q.2.2 ≠ 0 := by omega
  exact Prod.ext (Int.eq_of_mul_eq_mul_right z h1) (Prod.ext (Int.eq_of_mul_eq_mul_right z h2) e')
def Dual (F : List Side) (v : Pt) (s : Cell) : Prop := ∃ a ∈ F, ∃ b ∈ F, ov a v = 0 ∧ ov b v = 0 ∧ cr a.1 b.1 ≠ 0 ∧ ∃ m α β : Int, 0 < m ∧ 0 ≤ α ∧ 0 ≤ β ∧ m * s.1 + α * a.1.1 + β * b.1.1 = 0 ∧ m * s.2 + α * a.1.2 + β * b.1.2 = 0
def fall (s : Cell) (v : Pt) : Side := ((-(v.2.2 * s.1), -(v.2.2 * s.2)), -(s.1 * v.1 + s.2 * v.2.1))
theorem fall_self (s : Cell) (v : Pt) : ov (fall s v) v = 0 := by unfold ov fall; grind
structure Sat (F : List Side) (q : Pt) : Prop where
  pos : 0 < q.2.2
  sat : ∀ f ∈ F, 0 ≤ ov f q
def EdF (F : List Side) (p q : Pt) : Prop := ∃ f ∈ F, f.1 ≠ (0, 0) ∧ ov f p = 0 ∧ ov f q = 0
def InE (q a b : Pt) : Prop := 0 ≤ d3 a b q
theorem no_par {f g : Side} {u v w : Pt} (hf : f.1 ≠ (0, 0)) (hv : 0 < v.2.2) (f0 : ov f v = 0) (g0 : ov g v = 0) (fw : ov f w ≠ 0) (gw : ov g w = 0) (gu : ov g u ≠ 0) (fu : ov f u = 0) : cr f.1 g.1 ≠ 0 := fun z => by
  -- dt f f * g - dt f g * f has slope nought
  have e : ∀ q : Pt, v.2.2 * (dt f.1 f.1 * ov g q - dt f.1 g.1 * ov f q) = q.2.2 * (dt f.1 f.1 * ov g v - dt f.1 g.1 * ov f v) + cr f.1 g.1 * (v.2.2 * (f.1.1 * q.2.1 - f.1.2 * q.1) - q.2.2 * (f.1.1 * v.2.1 - f.1.2 * v.1)) := fun q => by
    unfold dt cr ov; grind
  have ew := e w
  have eu := e u
  rw [f0, g0, z, gw] at ew
  rw [f0, g0, z, fu] at eu
  simp only [Int.mul_zero, Int.zero_mul, Int.add_zero, Int.sub_zero, Int.zero_sub] at ew eu
  have d0 := dt_pos hf
  have h1 : dt f.1 f.1 * ov g u = 0 := zero_mul' hv eu
  rcases Int.mul_eq_zero.mp h1 with y | y
  · omega
  · exact gu y
theorem dual3 {F : List Side} {u v w : Pt} {s : Cell} (hd : 0 < d3 u v w) (hv : 0 < v.2.2) (A : ∀ f ∈ F, 0 ≤ ov f u ∧ 0 ≤ ov f w) (e1 : EdF F u v) (e2 : EdF F v w) (su : 0 ≤ ov (fall s v) u) (sw : 0 ≤ ov (fall s v) w) : Dual F v s := by
  obtain ⟨f, hf, f1, fu, fv⟩ := e1
  obtain ⟨g, hg, g1, gv, gw⟩ := e2
  have fw : 0 < ov f w := by
    have := (A f hf).2
    have : ov f w ≠ 0 := fun z => f1 (van3 fu fv z (by omega))
    omega
  have gu : 0 < ov g u := by
    have := (A g hg).1
    have : ov g u ≠ 0 := fun z => g1 (van3 z gv gw (by omega))
    omega
  refine ⟨f, hf, g, hg, fv, gv, no_par (u := u) (w := w) f1 hv fv gv (by omega) gw (by omega) fu, ov f w * ov g u * v.2.2, ov (fall s v) w * ov g u, ov (fall s v) u * ov f w, Int.mul_pos (Int.mul_pos fw gu) hv, Int.mul_nonneg sw (Int.le_of_lt gu), Int.mul_nonneg su (Int.le_of_lt fw), ?_⟩
  have key : ∀ (Su Sw fw gu : Int) (S : Side), ov S u = Su → ov S w = Sw → ov S v = 0 → ov f w = fw → ov g u = gu → fw * gu * S.1.1 - Sw * gu * f.1.1 - Su * fw * g.1.1 = 0 ∧ fw * gu * S.1.2 - Sw * gu * f.1.2 - Su * fw * g.1.2 = 0 := by
    intro Su Sw fw gu S h1 h2 h3 h4 h5
    have e : ∀ q, ov (((fw * gu * S.1.1 - Sw * gu * f.1.1 - Su * fw * g.1.1, fw * gu * S.1.2 - Sw * gu * f.1.2 - Su * fw * g.1.2), fw * gu * S.2 - Sw * gu * f.2 - Su * fw * g.2) : Side) q = fw * gu * ov S q - Sw * gu * ov f q - Su * fw * ov g q := fun q => by unfold ov; grind
    have := van3 (f := ((fw * gu * S.1.1 - Sw * gu * f.1.1 - Su * fw * g.1.1, fw * gu * S.1.2 - Sw * gu * f.1.2 - Su * fw * g.1.2), fw * gu * S.2 - Sw * gu * f.2 - Su * fw * g.2)) (u := u) (v := v) (w := w) (by rw [e, h1, fu, h5]; grind) (by rw [e, h3, fv, gv]; grind) (by rw [e, h2, h4, gw]; grind) (by omega)
    injection this with x y
    exact ⟨x, y⟩
  obtain ⟨k1, k2⟩ := key _ _ _ _ (fall s v) rfl rfl (fall_self s v) rfl rfl
  generalize ov (fall s v) u = Su at *
  generalize ov (fall s v) w = Sw at *
  generalize ov f w = fw at *
  generalize ov g u = gu at *
  unfold fall at k1 k2
  simp only at k1 k2
  constructor
  · grind
  · grind
end DL

set_option Elab.async false
set_option linter.all false
set_option maxRecDepth 100000
namespace DL
theorem last_split {α : Type} : ∀ (a : α) (A : List α), ∃ B, a :: A = B ++ [lastOr a A]
  | a, [] => ⟨[], rfl⟩
  | a, b :: A => by
    obtain ⟨B, e⟩ := last_split b A
    exact ⟨a :: B, by rw [lastOr_cons, e]; rfl⟩
section
variable {h : Side} {X : Pt → Pt → Pt}
theorem neg_iff {a b : Int} (hb : b < 0) (ha : 0 ≤ a) : a * b < 0 ↔ 0 < a := by
  constructor
  · intro h
    refine Classical.byContradiction fun z => ?_
    have : a = 0 := by omega
    rw [this, Int.zero_mul] at h
    omega
  · exact fun h => Int.mul_neg_of_pos_of_neg h hb
end
structure XOk (h : Side) (X : Pt → Pt → Pt) : Prop where
  ok : ∀ a b, Nrm a → Nrm b → ov h a * ov h b < 0 → Nrm (X a b) ∧ Mix (X a b) a b ∧ ov h (X a b) = 0
structure R3 (F : List Side) (L : List Pt) : Prop where
  len : 3 ≤ L.length
  nrm : ∀ v ∈ L, Nrm v
  sat : ∀ v ∈ L, ∀ f ∈ F, 0 ≤ ov f v
  t3 : T3 L
  ed : Cy (EdF F) L
  inn : ∀ q, Sat F q → Cy (InE q) L
theorem mem_rot {α : Type} {A B : List α} {x : α} (h : x ∈ B ++ A) : x ∈ A ++ B := by
  rcases List.mem_append.mp h with z | z <;> simp [z]
theorem R3.rot {F : List Side} {A B : List Pt} (h : R3 F (A ++ B)) : R3 F (B ++ A) := ⟨by have := h.len; simp at this ⊢; omega, fun v hv => h.nrm v (mem_rot hv), fun v hv => h.sat v (mem_rot hv), h.t3.rot, h.ed.rot, fun q hq => (h.inn q hq).rot⟩
theorem cyKN {Q : Pt → Pt → Prop} {k0 : Pt} {K1 C : List Pt} : Cy Q (k0 :: (K1 ++ C)) ↔ Q (lastOr (lastOr k0 K1) C) k0 ∧ Ch Q k0 K1 ∧ Ch Q (lastOr k0 K1) C := by
  unfold Cy
  rw [lastOr_cons, lastOr_app]
  show Q _ _ ∧ Ch Q k0 (K1 ++ C) ↔ _
  rw [Ch.app]
theorem T3.nd {L : List Pt} (h : T3 L) (h3 : 3 ≤ L.length) : L.Nodup := by
  match L, h, h3 with
  | x :: y :: z :: L, h, _ =>
    refine List.nodup_cons.mpr ⟨fun hx => ?_, h.1.imp fun {a b} hab e => ?_⟩
    · rcases List.mem_cons.mp hx with e | e
      · have := List.rel_of_pairwise_cons h.1 (a' := z) (by simp)
        rw [e, d3_aab] at this
        omega
      · have := List.rel_of_pairwise_cons h.1 e
        rw [d3_aba] at this
        omega
    · rw [e, d3_baa] at hab
      omega
theorem on_line {h : Side} {a b c q : Pt} (ha : ov h a = 0) (hb : ov h b = 0) : d3 a b q * ov h c = d3 a b c * ov h q := by
  have := plk h a b c q
  rw [ha, hb] at this
  simp only [Int.mul_zero, Int.zero_add] at this
  exact this
theorem line_nn {h : Side} {a b c q : Pt} (ha : ov h a = 0) (hb : ov h b = 0) (hc : 0 < ov h c) (hd : 0 < d3 a b c) (hq : 0 ≤ ov h q) : 0 ≤ d3 a b q := by
  have e := on_line (c := c) (q := q) ha hb
  have m := Int.mul_nonneg (Int.le_of_lt hd) hq
  rw [← e, Int.mul_comm] at m
  exact nn_mul hc m
theorem line_nn' {h : Side} {a b c q : Pt} (ha : ov h a = 0) (hb : ov h b = 0) (hc : ov h c < 0) (hd : d3 a b c < 0) (hq : 0 ≤ ov h q) : 0 ≤ d3 a b q := by
  have e := on_line (c := c) (q := q) ha hb
  have m := Int.mul_nonpos_of_nonpos_of_nonneg (Int.le_of_lt hd) hq
  rw [← e] at m
  refine Classical.byContradiction fun z => ?_
  have := Int.mul_pos_of_neg_of_neg (show d3 a b q < 0 by omega) hc
  omega
theorem R3.cut {F : List Side} {h : Side} {X : Pt → Pt → Pt} (hx : XOk h X) (h0 : h.1 ≠ (0, 0)) {k0 n0 : Pt} {K1 N1 : List Pt} (r : R3 F ((k0 :: K1) ++ (n0 :: N1))) (hK : ∀ k ∈ k0 :: K1, 0 ≤ ov h k) (hN : ∀ n ∈ n0 :: N1, ov h n < 0)
    (h3 : 3 ≤ ((k0 :: K1) ++ ((if decide (0 < ov h (lastOr k0 K1)) then [X (lastOr k0 K1) n0] else []) ++ (if decide (0 < ov h k0) then [X (lastOr n0 N1) k0] else []))).length) :
    R3 (F ++ [h]) ((k0 :: K1) ++ ((if decide (0 < ov h (lastOr k0 K1)) then [X (lastOr k0 K1) n0] else []) ++ (if decide (0 < ov h k0) then [X (lastOr n0 N1) k0] else []))) := by
  obtain ⟨K2, eK⟩ := last_split k0 K1
  obtain ⟨N2, eN⟩ := last_split n0 N1
  generalize hkl : lastOr k0 K1 = kl at *
  generalize hnl : lastOr n0 N1 = nl at *
  have mkl : kl ∈ k0 :: K1 := by rw [eK]; simp
  have mnl : nl ∈ n0 :: N1 := by rw [eN]; simp
  have hk0 := hK k0 (by simp)
  have hkl0 := hK kl mkl
  have hn0 := hN n0 (by simp)
  have hnl0 := hN nl mnl
  have inL : ∀ {v}, v ∈ k0 :: K1 → v ∈ (k0 :: K1) ++ (n0 :: N1) := fun hv => List.mem_append.mpr (.inl hv)
  have inR : ∀ {v}, v ∈ n0 :: N1 → v ∈ (k0 :: K1) ++ (n0 :: N1) := fun hv => List.mem_append.mpr (.inr hv)
  have x1 : 0 < ov h kl → Nrm (X kl n0) ∧ Mix (X kl n0) kl n0 ∧ ov h (X kl n0) = 0 := fun c => hx.ok _ _ (r.nrm _ (inL mkl)) (r.nrm _ (inR (by simp))) ((neg_iff hn0 hkl0).mpr c)
  have x2 : 0 < ov h k0 → Nrm (X nl k0) ∧ Mix (X nl k0) nl k0 ∧ ov h (X nl k0) = 0 := fun c => hx.ok _ _ (r.nrm _ (inR mnl)) (r.nrm _ (inL (by simp))) (by rw [Int.mul_comm]; exact (neg_iff hnl0 hk0).mpr c)
  have t := T3.cut (c1 := decide (0 < ov h kl)) (c2 := decide (0 < ov h k0)) (x1 := X kl n0) (x2 := X nl k0) r.t3 rfl eK rfl eN r.len (fun c => (x1 (by simpa using c)).2.1) (fun c => (x2 (by simpa using c)).2.1)
  have mem : ∀ v ∈ (k0 :: K1) ++ ((if decide (0 < ov h kl) then [X kl n0] else []) ++ (if decide (0 < ov h k0) then [X nl k0] else [])), v ∈ k0 :: K1 ∨ (0 < ov h kl ∧ v = X kl n0) ∨ (0 < ov h k0 ∧ v = X nl k0) := fun v hv => by
    rcases List.mem_append.mp hv with z | z
    · exact .inl z
    · rcases List.mem_append.mp z with y | y
      · split at y
        · rename_i c
          exact .inr (.inl ⟨by simpa using c, by simpa using y⟩)
        · exact (nomatch y)
      · split at y
        · rename_i c
          exact .inr (.inr ⟨by simpa using c, by simpa using y⟩)
        · exact (nomatch y)
  have e := r.ed
  rw [List.cons_append, cyKN, hkl] at e
  obtain ⟨e1, e2, e3⟩ := e
  rw [lastOr_cons, hnl] at e1
  have up : ∀ {a b}, EdF F a b → EdF (F ++ [h]) a b := fun ⟨f, hf, g⟩ => ⟨f, by simp [hf], g⟩
  have eh : ∀ {a b}, ov h a = 0 → ov h b = 0 → EdF (F ++ [h]) a b := fun ha hb => ⟨h, by simp, h0, ha, hb⟩
  -- the corners of T3 that are used
  have tp : ∀ {a b c}, [a, b, c].Sublist ((k0 :: K1) ++ ((if decide (0 < ov h kl) then [X kl n0] else []) ++ (if decide (0 < ov h k0) then [X nl k0] else []))) → 0 < d3 a b c := fun s => t.tri s
  refine ⟨h3, fun v hv => ?_, fun v hv f hf => ?_, t, ?_, fun q hq => ?_⟩
  · rcases mem v hv with z | ⟨c, rfl⟩ | ⟨c, rfl⟩
    · exact r.nrm v (inL z)
    · exact (x1 c).1
    · exact (x2 c).1
  · rcases List.mem_append.mp hf with hf | hf
    · rcases mem v hv with z | ⟨c, rfl⟩ | ⟨c, rfl⟩
      · exact r.sat v (inL z) f hf
      · exact (x1 c).2.1.nn (r.sat _ (inL mkl) f hf) (r.sat _ (inR (by simp)) f hf)
      · exact (x2 c).2.1.nn (r.sat _ (inR mnl) f hf) (r.sat _ (inL (by simp)) f hf)
    · rw [List.mem_singleton.mp hf]
      rcases mem v hv with z | ⟨c, rfl⟩ | ⟨c, rfl⟩
      · exact hK v z
      · rw [(x1 c).2.2]; exact Int.le_refl _
      · rw [(x2 c).2.2]; exact Int.le_refl _
  · rw [List.cons_append, cyKN, hkl]
    refine ⟨?_, Ch.mono (fun a b => up) e2, ?_⟩
    · by_cases c2 : 0 < ov h k0
      · rw [if_pos (show decide (0 < ov h k0) = true by simpa using c2), lastOr_snoc]
        obtain ⟨f, hf, f1, f2, f3⟩ := e1
        exact ⟨f, by simp [hf], f1, (x2 c2).2.1.tight f2 f3, f3⟩
      · rw [if_neg (show ¬ decide (0 < ov h k0) = true by simpa using c2), List.append_nil]
        have z0 : ov h k0 = 0 := by omega
        by_cases c1 : 0 < ov h kl
        · rw [if_pos (show decide (0 < ov h kl) = true by simpa using c1), lastOr_one]
          exact eh (x1 c1).2.2 z0
        · rw [if_neg (show ¬ decide (0 < ov h kl) = true by simpa using c1), lastOr_nil]
          exact eh (by omega) z0
    · have ex1 : 0 < ov h kl → EdF (F ++ [h]) kl (X kl n0) := fun c1 => by
        obtain ⟨f, hf, f1, f2, f3⟩ := e3.1
        exact ⟨f, by simp [hf], f1, f2, (x1 c1).2.1.tight f2 f3⟩
      by_cases c1 : 0 < ov h kl <;> by_cases c2 : 0 < ov h k0 <;> simp only [c1, c2, decide_true, decide_false, if_true, if_false, Bool.false_eq_true, List.nil_append, List.append_nil, List.cons_append, Ch, and_true]
      · exact ⟨ex1 c1, eh (x1 c1).2.2 (x2 c2).2.2⟩
      · exact ex1 c1
      · exact eh (by omega) (x2 c2).2.2
  · have qF : Sat F q := ⟨hq.pos, fun f hf => hq.sat f (by simp [hf])⟩
    have qh : 0 ≤ ov h q := hq.sat h (by simp)
    have g := r.inn q qF
    rw [List.cons_append, cyKN, hkl] at g
    obtain ⟨g1, g2, g3⟩ := g
    rw [lastOr_cons, hnl] at g1
    have g4 : 0 ≤ d3 kl n0 q := g3.1
    have g1' : 0 ≤ d3 nl k0 q := g1
    rw [List.cons_append, cyKN, hkl]
    have kk : kl ≠ k0 → [k0, kl].Sublist (k0 :: K1) := fun ne => by
      refine .cons₂ _ (List.singleton_sublist.mpr ?_)
      rcases List.mem_cons.mp mkl with z | z
      · exact absurd z ne
      · exact z
    refine ⟨?_, g2, ?_⟩
    · show 0 ≤ d3 _ _ q
      by_cases c2 : 0 < ov h k0
      · rw [if_pos (show decide (0 < ov h k0) = true by simpa using c2), lastOr_snoc]
        exact (x2 c2).2.1.d3nn g1' (by rw [d3_aab]; exact Int.le_refl _)
      · have z0 : ov h k0 = 0 := by omega
        rw [if_neg (show ¬ decide (0 < ov h k0) = true by simpa using c2), List.append_nil]
        by_cases c1 : 0 < ov h kl
        · rw [if_pos (show decide (0 < ov h kl) = true by simpa using c1), lastOr_one]
          have ne : kl ≠ k0 := fun z => by rw [z] at c1; omega
          have d : 0 < d3 k0 kl (X kl n0) := tp (by
            rw [if_pos (show decide (0 < ov h kl) = true by simpa using c1)]
            exact List.Sublist.append (l₁ := [k0, kl]) (r₁ := [X kl n0]) (kk ne) (by simp))
          exact line_nn (x1 c1).2.2 z0 c1 (by rw [d3_cyc]; exact d) qh
        · have z1 : ov h kl = 0 := by omega
          rw [if_neg (show ¬ decide (0 < ov h kl) = true by simpa using c1), lastOr_nil]
          by_cases ne : kl = k0
          · rw [ne, d3_aab]; exact Int.le_refl _
          · have d : 0 < d3 k0 kl n0 := r.t3.tri (List.Sublist.append (l₁ := [k0, kl]) (r₁ := [n0]) (kk ne) (List.singleton_sublist.mpr (by simp)))
            exact line_nn' z1 z0 hn0 (by rw [d3_neg]; omega) qh
    · by_cases c1 : 0 < ov h kl <;> by_cases c2 : 0 < ov h k0 <;> simp only [c1, c2, decide_true, decide_false, if_true, if_false, Bool.false_eq_true, List.nil_append, List.append_nil, List.cons_append, Ch, and_true]
      · refine ⟨?_, ?_⟩
        · show 0 ≤ d3 kl (X kl n0) q
          rw [d3_cyc]
          exact (x1 c1).2.1.d3nn (by rw [d3_cyc2, d3_aab]; exact Int.le_refl _) (by rw [d3_cyc2]; exact g4)
        · show 0 ≤ d3 (X kl n0) (X nl k0) q
          have d : 0 < d3 k0 (X kl n0) (X nl k0) := tp (by
            simp only [c1, c2, decide_true, if_true]
            exact List.Sublist.append (l₁ := [k0]) (List.singleton_sublist.mpr (by simp)) (by simp))
          exact line_nn (x1 c1).2.2 (x2 c2).2.2 c2 (by rw [← d3_cyc]; exact d) qh
      · show 0 ≤ d3 kl (X kl n0) q
        rw [d3_cyc]
        exact (x1 c1).2.1.d3nn (by rw [d3_cyc2, d3_aab]; exact Int.le_refl _) (by rw [d3_cyc2]; exact g4)
      · show 0 ≤ d3 kl (X nl k0) q
        have z1 : ov h kl = 0 := by omega
        have ne : kl ≠ k0 := fun z => by rw [z] at c1; omega
        have d : 0 < d3 k0 kl (X nl k0) := tp (by
          simp only [c1, c2, decide_true, decide_false, if_true, if_false, Bool.false_eq_true, List.nil_append]
          exact List.Sublist.append (l₁ := [k0, kl]) (r₁ := [X nl k0]) (kk ne) (by simp))
        exact line_nn z1 (x2 c2).2.2 c2 (by rw [← d3_cyc]; exact d) qh
structure Cmb (L : List Pt) (q : Pt) : Prop where
  ex : ∃ a ∈ L, ∃ b ∈ L, ∃ c ∈ L, ∃ k α β γ : Int, 0 < k ∧ 0 ≤ α ∧ 0 ≤ β ∧ 0 ≤ γ ∧ k * q.1 = α * a.1 + β * b.1 + γ * c.1 ∧ k * q.2.1 = α * a.2.1 + β * b.2.1 + γ * c.2.1 ∧ k * q.2.2 = α * a.2.2 + β * b.2.2 + γ * c.2.2
theorem Cmb.nn {L : List Pt} {q : Pt} {f : Side} (h : Cmb L q) (hf : ∀ v ∈ L, 0 ≤ ov f v) : 0 ≤ ov f q := by
  obtain ⟨a, ha, b, hb, c, hc, k, α, β, γ, k0, a0, b0, c0, e1, e2, e3⟩ := h.ex
  have e : k * ov f q = α * ov f a + β * ov f b + γ * ov f c := by unfold ov; grind
  have m1 := Int.mul_nonneg a0 (hf a ha)
  have m2 := Int.mul_nonneg b0 (hf b hb)
  have m3 := Int.mul_nonneg c0 (hf c hc)
  exact nn_mul k0 (by omega)
theorem Cmb.mono {L M : List Pt} {q : Pt} (h : Cmb L q) (s : ∀ v ∈ L, v ∈ M) : Cmb M q := by
  obtain ⟨a, ha, b, hb, c, hc, z⟩ := h.ex
  exact ⟨a, s a ha, b, s b hb, c, s c hc, z⟩
theorem fan {q x : Pt} : ∀ (rest : List Pt) (b : Pt), rest ≠ [] → (b :: rest).Pairwise (fun y z => 0 < d3 x y z) → 0 ≤ d3 x b q → Ch (InE q) b rest → 0 ≤ d3 (lastOr b rest) x q → ∃ b' ∈ b :: rest, ∃ c' ∈ b :: rest, 0 < d3 x b' c' ∧ 0 ≤ d3 x b' q ∧ 0 ≤ d3 c' x q ∧ 0 ≤ d3 b' c' q
  | [], _, h, _, _, _, _ => absurd rfl h
  | c :: rest, b, _, hp, hb, hc, hl => by
    rw [lastOr_cons] at hl
    by_cases z : 0 ≤ d3 c x q
    · exact ⟨b, by simp, c, by simp, List.rel_of_pairwise_cons hp (by simp), hb, z, hc.1⟩
    · cases rest with
      | nil => exact absurd hl z
      | cons d rest =>
        obtain ⟨b', h1, c', h2, h3⟩ := fan (d :: rest) c (by simp) (List.pairwise_cons.mp hp).2 (by rw [d3_neg] at z; omega) hc.2 hl
        exact ⟨b', List.mem_cons_of_mem _ h1, c', List.mem_cons_of_mem _ h2, h3⟩
theorem ring_cmb {L : List Pt} {q : Pt} (t : T3 L) (h3 : 3 ≤ L.length) (h : Cy (InE q) L) : Cmb L q := by
  match L, t, h3, h with
  | x :: b :: c :: L, t, _, h =>
    unfold Cy at h
    rw [lastOr_cons] at h
    obtain ⟨h1, h2, h4⟩ := (show 0 ≤ d3 _ x q ∧ 0 ≤ d3 x b q ∧ Ch (InE q) b (c :: L) from h)
    rw [lastOr_cons] at h1
    obtain ⟨b', m1, c', m2, d0, g1, g2, g3⟩ := fan (q := q) (x := x) (c :: L) b (by simp) t.1 h2 h4 h1
    refine ⟨x, by simp, b', List.mem_cons_of_mem _ m1, c', List.mem_cons_of_mem _ m2, d3 x b' c', d3 b' c' q, d3 c' x q, d3 x b' q, d0, g3, g2, g1, ?_, ?_, ?_⟩
    · unfold d3; grind
    · unfold d3; grind
    · unfold d3; grind
structure R2 (F : List Side) (p r : Pt) : Prop where
  np : Nrm p
  nr : Nrm r
  ne : p ≠ r
  sp : ∀ f ∈ F, 0 ≤ ov f p
  sr : ∀ f ∈ F, 0 ≤ ov f r
  inn : ∀ q, Sat F q → ∃ k α β : Int, 0 < k ∧ 0 ≤ α ∧ 0 ≤ β ∧ k * q.1 = α * p.1 + β * r.1 ∧ k * q.2.1 = α * p.2.1 + β * r.2.1 ∧ k * q.2.2 = α * p.2.2 + β * r.2.2
  line : ∃ f ∈ F, ∃ g ∈ F, f.1 ≠ (0, 0) ∧ (ov f p = 0 ∧ ov f r = 0) ∧ (ov g p = 0 ∧ ov g r = 0) ∧ ∃ m n : Int, 0 < m ∧ 0 < n ∧ m * f.1.1 + n * g.1.1 = 0 ∧ m * f.1.2 + n * g.1.2 = 0
  capp : ∃ g ∈ F, ov g p = 0 ∧ 0 < ov g r
  capr : ∃ g ∈ F, ov g r = 0 ∧ 0 < ov g p
structure R1 (F : List Side) (p : Pt) : Prop where
  np : Nrm p
  sp : ∀ f ∈ F, 0 ≤ ov f p
  inn : ∀ q, Sat F q → q.1 * p.2.2 = p.1 * q.2.2 ∧ q.2.1 * p.2.2 = p.2.1 * q.2.2
  dual : ∀ s, Dual F p s
theorem Dual.mono {F G : List Side} {v : Pt} {s : Cell} (h : Dual F v s) (i : ∀ f ∈ F, f ∈ G) : Dual G v s := by
  obtain ⟨a, ha, b, hb, z⟩ := h
  exact ⟨a, i a ha, b, i b hb, z⟩
theorem Sat.mono {F G : List Side} {q : Pt} (h : Sat G q) (i : ∀ f ∈ F, f ∈ G) : Sat F q := ⟨h.pos, fun f hf => h.sat f (i f hf)⟩
theorem R2.symm {F : List Side} {p r : Pt} (h : R2 F p r) : R2 F r p := by
  obtain ⟨f, hf, g, hg, f0, ⟨a1, a2⟩, ⟨b1, b2⟩, z⟩ := h.line
  refine ⟨h.nr, h.np, fun e => h.ne e.symm, h.sr, h.sp, fun q hq => ?_, ⟨f, hf, g, hg, f0, ⟨a2, a1⟩, ⟨b2, b1⟩, z⟩, h.capr, h.capp⟩
  obtain ⟨k, α, β, k0, a0, b0, e1, e2, e3⟩ := h.inn q hq
  exact ⟨k, β, α, k0, b0, a0, by omega, by omega, by omega⟩
theorem par2 {f g : Side} {p r : Pt} (np : Nrm p) (nr : Nrm r) (ne : p ≠ r) (f1 : ov f p = 0) (f2 : ov f r = 0) (g1 : ov g p = 0) (g2 : ov g r = 0) : cr f.1 g.1 = 0 := by
  refine Classical.byContradiction fun z => ne ?_
  have a1 : f.1.1 * (p.1 * r.2.2 - r.1 * p.2.2) + f.1.2 * (p.2.1 * r.2.2 - r.2.1 * p.2.2) = 0 := by unfold ov at f1 f2; grind
  have a2 : g.1.1 * (p.1 * r.2.2 - r.1 * p.2.2) + g.1.2 * (p.2.1 * r.2.2 - r.2.1 * p.2.2) = 0 := by unfold ov at g1 g2; grind
  have b1 : cr f.1 g.1 * (p.1 * r.2.2 - r.1 * p.2.2) = 0 := by unfold cr; grind
  have b2 : cr f.1 g.1 * (p.2.1 * r.2.2 - r.2.1 * p.2.2) = 0 := by unfold cr; grind
  have c1 := (Int.mul_eq_zero.mp b1).resolve_left z
  have c2 := (Int.mul_eq_zero.mp b2).resolve_left z
  exact nrm_uniq np nr (by omega) (by omega)
theorem par_dt' {u v : Cell} (h : cr u v = 0) : dt u u * v.1 = dt u v * u.1 ∧ dt u u * v.2 = dt u v * u.2 := by
  unfold cr at h
  unfold dt
  constructor <;> grind
theorem dualLine {F : List Side} {p r : Pt} {s : Cell} {f f' g : Side} (np : Nrm p) (nr : Nrm r) (ne : p ≠ r) (hf : f ∈ F) (hf' : f' ∈ F) (hg : g ∈ F) (f0 : f.1 ≠ (0, 0)) (fp : ov f p = 0) (fr : ov f r = 0) (fp' : ov f' p = 0) (fr' : ov f' r = 0)
    (opp : ∃ m n : Int, 0 < m ∧ 0 < n ∧ m * f.1.1 + n * f'.1.1 = 0 ∧ m * f.1.2 + n * f'.1.2 = 0) (gp : ov g p = 0) (gs : 0 < ov g r ∧ 0 ≤ ov (fall s p) r ∨ ov g r < 0 ∧ ov (fall s p) r ≤ 0) : Dual F p s := by
  -- T = g(r) S - S(r) g is along f
  have pp := np.pos
  have S0 := fall_self s p
  have eT : ∀ q, ov (((ov g r * (fall s p).1.1 - ov (fall s p) r * g.1.1, ov g r * (fall s p).1.2 - ov (fall s p) r * g.1.2), ov g r * (fall s p).2 - ov (fall s p) r * g.2) : Side) q = ov g r * ov (fall s p) q - ov (fall s p) r * ov g q := fun q => by
    generalize ov g r = A
    generalize ov (fall s p) r = B
    unfold ov; grind
  have par := par2 (f := f) (g := ((ov g r * (fall s p).1.1 - ov (fall s p) r * g.1.1, ov g r * (fall s p).1.2 - ov (fall s p) r * g.1.2), ov g r * (fall s p).2 - ov (fall s p) r * g.2)) np nr ne fp fr (by rw [eT, S0, gp]; grind) (by rw [eT]; grind)
  obtain ⟨y1, y2⟩ := par_dt' par
  simp only at y1 y2
  have d0 := dt_pos f0
  obtain ⟨m, n, m0, n0, o1, o2⟩ := opp
  have crfg : cr f.1 g.1 ≠ 0 := fun z => by
    -- g would be along f, and so tight at r
    obtain ⟨u1, u2⟩ := par_dt' z
    have : p.2.2 * (dt f.1 f.1 * ov g r - dt f.1 g.1 * ov f r) = r.2.2 * (dt f.1 f.1 * ov g p - dt f.1 g.1 * ov f p) := by
      generalize dt f.1 f.1 = A at *
      generalize dt f.1 g.1 = B at *
      unfold ov; grind
    rw [fr, gp, fp] at this
    simp only [Int.mul_zero, Int.sub_zero] at this
    have e := zero_mul' pp this
    rcases Int.mul_eq_zero.mp e with w | w <;> omega
  have crfg' : cr f'.1 g.1 ≠ 0 := fun z => crfg (by
    have : n * cr f'.1 g.1 = - (m * cr f.1 g.1) := by unfold cr; grind
    rw [z, Int.mul_zero] at this
    exact zero_mul' m0 (Int.neg_eq_zero.mp this.symm))
  generalize hT : dt f.1 (ov g r * (fall s p).1.1 - ov (fall s p) r * g.1.1, ov g r * (fall s p).1.2 - ov (fall s p) r * g.1.2) = T at y1 y2
  -- dt f f * (g(r) S - S(r) g) = T f
  have z1 : dt f.1 f.1 * ov g r * (p.2.2 * s.1) + dt f.1 f.1 * ov (fall s p) r * g.1.1 + T * f.1.1 = 0 := by
    unfold fall at y1 ⊢
    simp only at y1 ⊢
    grind
  have z2 : dt f.1 f.1 * ov g r * (p.2.2 * s.2) + dt f.1 f.1 * ov (fall s p) r * g.1.2 + T * f.1.2 = 0 := by
    unfold fall at y2 ⊢
    simp only at y2 ⊢
    grind
  generalize dt f.1 f.1 = A at *
  generalize ov (fall s p) r = B at *
  generalize ov g r = G at *
  -- the sign
  have fin : ∀ (G B T : Int), 0 < G → 0 ≤ B → A * G * (p.2.2 * s.1) + A * B * g.1.1 + T * f.1.1 = 0 → A * G * (p.2.2 * s.2) + A * B * g.1.2 + T * f.1.2 = 0 → Dual F p s := by
    intro G B T G0 B0 z1 z2
    rcases Int.le_total 0 T with t0 | t0
    · exact ⟨f, hf, g, hg, fp, gp, crfg, A * G * p.2.2, T, A * B, Int.mul_pos (Int.mul_pos d0 G0) pp, t0, Int.mul_nonneg (Int.le_of_lt d0) B0, by grind, by grind⟩
    · exact ⟨f', hf', g, hg, fp', gp, crfg', m * (A * G * p.2.2), n * (-T), m * (A * B), Int.mul_pos m0 (Int.mul_pos (Int.mul_pos d0 G0) pp), Int.mul_nonneg (Int.le_of_lt n0) (by omega), Int.mul_nonneg (Int.le_of_lt m0) (Int.mul_nonneg (Int.le_of_lt d0) B0), by grind, by grind⟩
  rcases gs with ⟨g1, g2⟩ | ⟨g1, g2⟩
  · exact fin G B T g1 g2 z1 z2
  · exact fin (-G) (-B) (-T) (by omega) (by omega) (by grind) (by grind)
theorem R2.dual {F : List Side} {p r : Pt} (h : R2 F p r) {s : Cell} (hs : 0 ≤ ov (fall s p) r) : Dual F p s := by
  obtain ⟨f, hf, g, hg, f0, ⟨a1, a2⟩, ⟨b1, b2⟩, z⟩ := h.line
  obtain ⟨c, hc, c1, c2⟩ := h.capp
  exact dualLine h.np h.nr h.ne hf hg hc f0 a1 a2 b1 b2 z c1 (.inl ⟨c2, hs⟩)
theorem R3.dual {F : List Side} {L : List Pt} (h : R3 F L) {v : Pt} (hv : v ∈ L) {s : Cell} (hs : ∀ c ∈ L, 0 ≤ ov (fall s v) c) : Dual F v s := by
  obtain ⟨w, M, u, A, B, e1, e2⟩ := ring_at hv h.len
  subst e1
  have hr := h.rot
  rw [e2] at hr
  have mm : ∀ x ∈ v :: w :: (M ++ [u]), x ∈ A ++ B := fun x hx => mem_rot (by rw [e2]; exact hx)
  have ed := hr.ed
  unfold Cy at ed
  rw [show lastOr ((0, 0, 0) : Pt) (v :: w :: (M ++ [u])) = u by rw [lastOr_cons, lastOr_cons, lastOr_snoc]] at ed
  have d : 0 < d3 v w u := List.rel_of_pairwise_cons hr.t3.1 (by simp)
  exact dual3 (by rw [d3_cyc]; exact d) (h.nrm v hv).pos (fun f hf => ⟨h.sat u (mm u (by simp)) f hf, h.sat w (mm w (by simp)) f hf⟩) ed.1 ed.2.1 (hs u (mm u (by simp))) (hs w (mm w (by simp)))
end DL

set_option Elab.async false
set_option linter.all false
set_option maxRecDepth 100000
namespace DL
theorem cr_ne2 {f g : Side} {v u w : Pt} (hv : 0 < v.2.2) (f0 : ov f v = 0) (g0 : ov g v = 0) (hd : ov f u * ov g w ≠ ov f w * ov g u) : cr f.1 g.1 ≠ 0 := fun z => hd (by
  have e : v.2.2 * v.2.2 * (ov f u * ov g w - ov f w * ov g u) = cr f.1 g.1 * ((u.1 * v.2.2 - v.1 * u.2.2) * (w.2.1 * v.2.2 - v.2.1 * w.2.2) - (u.2.1 * v.2.2 - v.2.1 * u.2.2) * (w.1 * v.2.2 - v.1 * w.2.2)) := by
    have a1 : ∀ q, v.2.2 * ov f q = f.1.1 * (q.1 * v.2.2 - v.1 * q.2.2) + f.1.2 * (q.2.1 * v.2.2 - v.2.1 * q.2.2) := fun q => by unfold ov at f0 ⊢; grind
    have a2 : ∀ q, v.2.2 * ov g q = g.1.1 * (q.1 * v.2.2 - v.1 * q.2.2) + g.1.2 * (q.2.1 * v.2.2 - v.2.1 * q.2.2) := fun q => by unfold ov at g0 ⊢; grind
    have b1 := a1 u
    have b2 := a1 w
    have b3 := a2 u
    have b4 := a2 w
    have r0 : ∀ V a b c d : Int, V * V * (a * d - b * c) = (V * a) * (V * d) - (V * b) * (V * c) := fun V a b c d => by grind
    rw [r0, b1, b2, b3, b4]
    clear a1 a2 b1 b2 b3 b4 r0
    generalize u.1 * v.2.2 - v.1 * u.2.2 = U1
    generalize u.2.1 * v.2.2 - v.2.1 * u.2.2 = U2
    generalize w.1 * v.2.2 - v.1 * w.2.2 = W1
    generalize w.2.1 * v.2.2 - v.2.1 * w.2.2 = W2
    unfold cr
    grind
  rw [z, Int.zero_mul] at e
  have := zero_mul' (Int.mul_pos hv hv) e
  omega)
theorem dualPair {F : List Side} {v u w : Pt} {s : Cell} {f g : Side} (hv : 0 < v.2.2) (hd : d3 u v w ≠ 0) (hf : f ∈ F) (hg : g ∈ F) (f0 : ov f v = 0) (g0 : ov g v = 0) (hc : ov f u * ov g w ≠ ov f w * ov g u) {m α β : Int} (m0 : 0 < m) (a0 : 0 ≤ α) (b0 : 0 ≤ β)
    (e1 : m * ov (fall s v) u = α * ov f u + β * ov g u) (e2 : m * ov (fall s v) w = α * ov f w + β * ov g w) : Dual F v s := by
  have eT : ∀ q, ov (((m * (fall s v).1.1 - α * f.1.1 - β * g.1.1, m * (fall s v).1.2 - α * f.1.2 - β * g.1.2), m * (fall s v).2 - α * f.2 - β * g.2) : Side) q = m * ov (fall s v) q - α * ov f q - β * ov g q := fun q => by unfold ov; grind
  have z := van3 (f := ((m * (fall s v).1.1 - α * f.1.1 - β * g.1.1, m * (fall s v).1.2 - α * f.1.2 - β * g.1.2), m * (fall s v).2 - α * f.2 - β * g.2)) (u := u) (v := v) (w := w) (by rw [eT, e1]; grind) (by rw [eT, fall_self, f0, g0]; grind) (by rw [eT, e2]; grind) hd
  injection z with z1 z2
  unfold fall at z1 z2
  simp only at z1 z2
  exact ⟨f, hf, g, hg, f0, g0, cr_ne2 hv f0 g0 hc, m * v.2.2, α, β, Int.mul_pos m0 hv, a0, b0, by grind, by grind⟩
theorem R3.two {F : List Side} {h : Side} (h0 : h.1 ≠ (0, 0)) {k l n0 : Pt} {N1 : List Pt} (r : R3 F ([k, l] ++ (n0 :: N1))) (hk : ov h k = 0) (hl : ov h l = 0) (hN : ∀ n ∈ n0 :: N1, ov h n < 0) : R2 (F ++ [h]) k l := by
  obtain ⟨N2, eN⟩ := last_split n0 N1
  have ed := r.ed
  rw [show [k, l] ++ (n0 :: N1) = k :: ([l] ++ (n0 :: N1)) from rfl, cyKN] at ed
  rw [lastOr_cons] at ed
  obtain ⟨ed1, ⟨ed2, _⟩, ed3, _⟩ := ed
  have inn := r.inn
  have hn0 := hN n0 (by simp)
  generalize hnl : lastOr n0 N1 = nl at *
  have mnl : nl ∈ n0 :: N1 := by rw [eN]; simp
  have mm : ∀ v, v ∈ n0 :: N1 → v ∈ [k, l] ++ (n0 :: N1) := fun v hv => List.mem_append.mpr (.inr hv)
  have mk : k ∈ [k, l] ++ (n0 :: N1) := by simp
  have ml : l ∈ [k, l] ++ (n0 :: N1) := by simp
  have tri : ∀ n ∈ n0 :: N1, 0 < d3 k l n := fun n hn => r.t3.tri (List.Sublist.append (l₁ := [k, l]) (r₁ := [n]) (List.Sublist.refl _) (List.singleton_sublist.mpr hn))
  have d0 := tri n0 (by simp)
  have dl := tri nl mnl
  obtain ⟨f, hf, f1, fk, fl⟩ := ed2
  obtain ⟨g, hg, g1, gnl, gk⟩ := ed1
  obtain ⟨c, hc, c1, cl, cn0⟩ := ed3
  have cl : ov c l = 0 := cl
  have fn : 0 < ov f n0 := by
    have := r.sat n0 (mm _ (by simp)) f hf
    have : ov f n0 ≠ 0 := fun z => f1 (van3 fk fl z (by omega))
    omega
  have gl : 0 < ov g l := by
    have := r.sat l ml g hg
    have : ov g l ≠ 0 := fun z => g1 (van3 gk z gnl (by omega))
    omega
  have ck : 0 < ov c k := by
    have := r.sat k mk c hc
    have : ov c k ≠ 0 := fun z => c1 (van3 z cl cn0 (by omega))
    omega
  have nd := r.t3.nd r.len
  have ne : k ≠ l := fun e => by rw [e, d3_aab] at d0; omega
  refine ⟨r.nrm k mk, r.nrm l ml, ne, fun f hf => ?_, fun f hf => ?_, fun q hq => ?_, ⟨f, by simp [hf], h, by simp, f1, ⟨fk, fl⟩, ⟨hk, hl⟩, ?_⟩, ⟨g, by simp [hg], gk, gl⟩, ⟨c, by simp [hc], cl, ck⟩⟩
  · rcases List.mem_append.mp hf with z | z
    · exact r.sat k mk f z
    · rw [List.mem_singleton.mp z]; omega
  · rcases List.mem_append.mp hf with z | z
    · exact r.sat l ml f z
    · rw [List.mem_singleton.mp z]; omega
  · have qh : 0 ≤ ov h q := hq.sat h (by simp)
    have i := inn q (hq.mono fun f hf => by simp [hf])
    rw [show [k, l] ++ (n0 :: N1) = k :: ([l] ++ (n0 :: N1)) from rfl, cyKN, lastOr_cons, hnl] at i
    obtain ⟨i1, ⟨i2, _⟩, i3, _⟩ := i
    have i1' : 0 ≤ d3 nl k q := i1
    have i2' : 0 ≤ d3 k l q := i2
    have i3' : 0 ≤ d3 l n0 q := i3
    have back : 0 ≤ d3 l k q := line_nn' hl hk hn0 (by rw [d3_neg]; omega) qh
    have z : d3 k l q = 0 := by rw [d3_neg] at back; omega
    have e : d3 k l n0 * d3 nl k q = d3 k q n0 * d3 k l nl + d3 k l q * d3 nl k n0 := by unfold d3; grind
    rw [z, Int.zero_mul, Int.add_zero] at e
    have b0 : 0 ≤ d3 k q n0 := by
      have m := Int.mul_nonneg (Int.le_of_lt d0) i1'
      rw [e, Int.mul_comm] at m
      exact nn_mul dl m
    refine ⟨d3 k l n0, d3 l n0 q, d3 k q n0, d0, i3', b0, ?_, ?_, ?_⟩
    · have : d3 k l n0 * q.1 = d3 l n0 q * k.1 + d3 k q n0 * l.1 + d3 k l q * n0.1 := by unfold d3; grind
      rw [this, z, Int.zero_mul, Int.add_zero]
    · have : d3 k l n0 * q.2.1 = d3 l n0 q * k.2.1 + d3 k q n0 * l.2.1 + d3 k l q * n0.2.1 := by unfold d3; grind
      rw [this, z, Int.zero_mul, Int.add_zero]
    · have : d3 k l n0 * q.2.2 = d3 l n0 q * k.2.2 + d3 k q n0 * l.2.2 + d3 k l q * n0.2.2 := by unfold d3; grind
      rw [this, z, Int.zero_mul, Int.add_zero]
  · have par := par2 (r.nrm k mk) (r.nrm l ml) ne fk fl hk hl
    obtain ⟨u1, u2⟩ := par_dt' par
    have A0 := dt_pos f1
    have kp := (r.nrm k mk).pos
    have e : k.2.2 * (dt f.1 f.1 * ov h n0 - dt f.1 h.1 * ov f n0) = n0.2.2 * (dt f.1 f.1 * ov h k - dt f.1 h.1 * ov f k) := by
      generalize dt f.1 f.1 = A at *
      generalize dt f.1 h.1 = B at *
      unfold ov; grind
    rw [hk, fk] at e
    simp only [Int.mul_zero, Int.sub_zero] at e
    have e' := zero_mul' kp e
    have B0 : dt f.1 h.1 < 0 := by
      refine Classical.byContradiction fun z => ?_
      have m1 := Int.mul_nonneg (show 0 ≤ dt f.1 h.1 by omega) (Int.le_of_lt fn)
      have m2 := Int.mul_neg_of_pos_of_neg A0 hn0
      omega
    exact ⟨- dt f.1 h.1, dt f.1 f.1, by omega, A0, by rw [u1, Int.neg_mul]; omega, by rw [u2, Int.neg_mul]; omega⟩
theorem R3.one {F : List Side} {h : Side} {k n0 n1 : Pt} {N1 : List Pt} (r : R3 F ([k] ++ (n0 :: n1 :: N1))) (hk : ov h k = 0) (hN : ∀ n ∈ n0 :: n1 :: N1, ov h n < 0) : R1 (F ++ [h]) k := by
  obtain ⟨N2, eN⟩ := last_split n1 N1
  have ed := r.ed
  rw [show [k] ++ (n0 :: n1 :: N1) = k :: ([] ++ (n0 :: n1 :: N1)) from rfl, cyKN] at ed
  rw [lastOr_cons, lastOr_cons] at ed
  obtain ⟨ed1, _, ed3, _⟩ := ed
  generalize hnl : lastOr n1 N1 = nl at *
  have mnl : nl ∈ n1 :: N1 := by rw [eN]; simp
  have mm : ∀ v, v ∈ n0 :: n1 :: N1 → v ∈ [k] ++ (n0 :: n1 :: N1) := fun v hv => List.mem_append.mpr (.inr hv)
  have mk : k ∈ [k] ++ (n0 :: n1 :: N1) := by simp
  have hn0 := hN n0 (by simp)
  have hnl0 := hN nl (List.mem_cons_of_mem _ mnl)
  have d0 : 0 < d3 k n0 nl := r.t3.tri (.cons₂ _ (.cons₂ _ (List.singleton_sublist.mpr mnl)))
  obtain ⟨f, hf, f1, fnl, fk⟩ := ed1
  obtain ⟨g, hg, g1, gk, gn0⟩ := ed3
  have fk : ov f k = 0 := fk
  have gk : ov g k = 0 := gk
  have fn : 0 < ov f n0 := by
    have := r.sat n0 (mm _ (by simp)) f hf
    have : ov f n0 ≠ 0 := fun z => f1 (van3 fk z fnl (by omega))
    omega
  have gn : 0 < ov g nl := by
    have := r.sat nl (mm _ (by simp [mnl])) g hg
    have : ov g nl ≠ 0 := fun z => g1 (van3 gk gn0 z (by omega))
    omega
  have kp := (r.nrm k mk).pos
  refine ⟨r.nrm k mk, fun f hf => ?_, fun q hq => ?_, fun s => ?_⟩
  · rcases List.mem_append.mp hf with z | z
    · exact r.sat k mk f z
    · rw [List.mem_singleton.mp z]; omega
  · have qh : 0 ≤ ov h q := hq.sat h (by simp)
    have i := r.inn q (hq.mono fun f hf => by simp [hf])
    rw [show [k] ++ (n0 :: n1 :: N1) = k :: ([] ++ (n0 :: n1 :: N1)) from rfl, cyKN, lastOr_cons, lastOr_cons, hnl] at i
    obtain ⟨i1, _, i3, _⟩ := i
    have i1' : 0 ≤ d3 nl k q := i1
    have i3' : 0 ≤ d3 k n0 q := i3
    have e : d3 k n0 nl * ov h q = d3 q n0 nl * ov h k + d3 nl k q * ov h n0 + d3 k n0 q * ov h nl := by unfold d3 ov; grind
    rw [hk, Int.mul_zero, Int.zero_add] at e
    have m0 := Int.mul_nonneg (Int.le_of_lt d0) qh
    have m1 := Int.mul_nonpos_of_nonneg_of_nonpos i1' (Int.le_of_lt hn0)
    have m2 := Int.mul_nonpos_of_nonneg_of_nonpos i3' (Int.le_of_lt hnl0)
    have z1 : d3 nl k q = 0 := (Int.mul_eq_zero.mp (show d3 nl k q * ov h n0 = 0 by omega)).elim id fun y => by omega
    have z2 : d3 k n0 q = 0 := (Int.mul_eq_zero.mp (show d3 k n0 q * ov h nl = 0 by omega)).elim id fun y => by omega
    have c1 : d3 k n0 nl * q.1 = d3 q n0 nl * k.1 + d3 nl k q * n0.1 + d3 k n0 q * nl.1 := by unfold d3; grind
    have c2 : d3 k n0 nl * q.2.1 = d3 q n0 nl * k.2.1 + d3 nl k q * n0.2.1 + d3 k n0 q * nl.2.1 := by unfold d3; grind
    have c3 : d3 k n0 nl * q.2.2 = d3 q n0 nl * k.2.2 + d3 nl k q * n0.2.2 + d3 k n0 q * nl.2.2 := by unfold d3; grind
    rw [z1, z2, Int.zero_mul, Int.zero_mul, Int.add_zero, Int.add_zero] at c1 c2 c3
    generalize d3 q n0 nl = t at c1 c2 c3
    generalize d3 k n0 nl = D at *
    have a1 : D * (q.1 * k.2.2 - k.1 * q.2.2) = 0 := by grind
    have a2 : D * (q.2.1 * k.2.2 - k.2.1 * q.2.2) = 0 := by grind
    have b1 := zero_mul' d0 a1
    have b2 := zero_mul' d0 a2
    omega
  · have hF : ∀ {x}, x ∈ F → x ∈ F ++ [h] := fun hx => by simp [hx]
    by_cases ca : 0 ≤ ov (fall s k) nl ∧ 0 ≤ ov (fall s k) n0
    · exact (dual3 (F := F) (u := nl) (v := k) (w := n0) (by rw [d3_cyc]; exact d0) kp (fun f hf => ⟨r.sat nl (mm _ (by simp [mnl])) f hf, r.sat n0 (mm _ (by simp)) f hf⟩) ⟨f, hf, f1, fnl, fk⟩ ⟨g, hg, g1, gk, gn0⟩ ca.1 ca.2).mono fun _ => hF
    · have dd : d3 nl k n0 ≠ 0 := by rw [d3_cyc]; omega
      generalize ha : ov (fall s k) n0 = a at ca
      generalize hb : ov (fall s k) nl = b at ca
      -- by h and f
      have byf : b ≤ 0 → 0 ≤ - (a * ov h nl - b * ov h n0) → Dual (F ++ [h]) k s := fun b0 t0 => by
        refine dualPair (f := h) (g := f) (m := (- ov h nl) * ov f n0) (α := (-b) * ov f n0) (β := - (a * ov h nl - b * ov h n0)) kp dd (by simp) (hF hf) hk fk (by rw [fnl]; have := Int.mul_neg_of_neg_of_pos hnl0 fn; omega) (Int.mul_pos (by omega) fn) (Int.mul_nonneg (by omega) (Int.le_of_lt fn)) t0 ?_ ?_
        · rw [hb, fnl]; grind
        · rw [ha]; grind
      have byg : a ≤ 0 → 0 ≤ a * ov h nl - b * ov h n0 → Dual (F ++ [h]) k s := fun a0 t0 => by
        refine dualPair (f := h) (g := g) (m := (- ov h n0) * ov g nl) (α := (-a) * ov g nl) (β := a * ov h nl - b * ov h n0) kp dd (by simp) (hF hg) hk gk (by rw [gn0]; have := Int.mul_neg_of_neg_of_pos hn0 gn; omega) (Int.mul_pos (by omega) gn) (Int.mul_nonneg (by omega) (Int.le_of_lt gn)) t0 ?_ ?_
        · rw [hb]; grind
        · rw [ha, gn0]; grind
      by_cases t : 0 ≤ a * ov h nl - b * ov h n0
      · by_cases a0 : a ≤ 0
        · exact byg a0 t
        · have m1 := Int.mul_neg_of_pos_of_neg (show 0 < a by omega) hnl0
          have b0 : b < 0 := by omega
          have m2 := Int.mul_pos_of_neg_of_neg b0 hn0
          omega
      · by_cases b0 : b ≤ 0
        · exact byf b0 (by omega)
        · have m1 := Int.mul_neg_of_pos_of_neg (show 0 < b by omega) hn0
          have a0 : a < 0 := by omega
          have m2 := Int.mul_pos_of_neg_of_neg a0 hnl0
          omega
theorem R2.x_eq {F : List Side} {p r : Pt} (h : R2 F p r) {e : Side} {x y : Pt} (nx : Nrm x) (ny : Nrm y) (mx : Mix x p r) (my : Mix y p r) (ex : ov e x = 0) (ey : ov e y = 0) (hp : ov e p ≠ 0) : x = y := by
  refine Classical.byContradiction fun ne => ?_
  obtain ⟨f, hf, g, hg, f0, ⟨a1, a2⟩, _⟩ := h.line
  have fx := mx.tight a1 a2
  have fy := my.tight a1 a2
  obtain ⟨u1, u2⟩ := par_dt' (par2 nx ny ne fx fy ex ey)
  have A0 := dt_pos f0
  have xp := nx.pos
  have e1 : x.2.2 * (dt f.1 f.1 * ov e p - dt f.1 e.1 * ov f p) = p.2.2 * (dt f.1 f.1 * ov e x - dt f.1 e.1 * ov f x) := by
    generalize dt f.1 f.1 = A at *
    generalize dt f.1 e.1 = B at *
    unfold ov; grind
  rw [ex, fx, a1] at e1
  simp only [Int.mul_zero, Int.sub_zero] at e1
  have e2 := zero_mul' xp e1
  rcases Int.mul_eq_zero.mp e2 with z | z
  · omega
  · exact hp z
inductive RI (F : List Side) : List Pt → Prop
  | nil (h : ∀ q, ¬ Sat F q) : RI F []
  | one {p : Pt} (h : R1 F p) : RI F [p]
  | two {p r : Pt} (h : R2 F p r) : RI F [p, r]
  | many {L : List Pt} (h : R3 F L) : RI F L
theorem RI.pair {F : List Side} {p r : Pt} (h : R2 F p r) : RI F [p, r] ∧ RI F [r, p] := ⟨.two h, .two h.symm⟩
end DL

set_option Elab.async false
set_option linter.all false
set_option maxRecDepth 100000
namespace DL
def pt1 (c : Cell) : Pt := (c.1, c.2, 1)
theorem pt1_inj {a b : Cell} (h : pt1 a = pt1 b) : a = b := by
  unfold pt1 at h
  injection h with h1 h2
  injection h2 with h2 h3
  exact Prod.ext h1 h2
theorem d3_tn (a b c : Cell) : d3 (pt1 a) (pt1 b) (pt1 c) = tn a b c := by unfold d3 pt1 tn; grind
theorem pw_chain {R : Pt → Pt → Prop} (tr : ∀ a b c, R a b → R b c → R a c) : ∀ (zs : List Pt) (z : Pt), Ch R z zs → (z :: zs).Pairwise R
  | [], z, _ => by simp
  | b :: zs, z, h => by
    have ih := pw_chain tr zs b h.2
    refine .cons (fun c hc => ?_) ih
    rcases List.mem_cons.mp hc with e | e
    · rw [e]; exact h.1
    · exact tr _ _ _ h.1 (List.rel_of_pairwise_cons ih e)
theorem t3_of {L0 : List Pt} (nd : L0.Nodup) (hy : ∀ pre a b post, L0 = pre ++ a :: b :: post → ∀ x ∈ L0, x ≠ a → x ≠ b → 0 < d3 a b x) : ∀ (L pre : List Pt), L0 = pre ++ L → T3 L
  | [], _, _ => trivial
  | [x], _, _ => ⟨.nil, trivial⟩
  | [x, y], _, _ => ⟨by simp, .nil, trivial⟩
  | x :: y :: z :: zs, pre, e => by
    refine ⟨?_, t3_of nd hy (y :: z :: zs) (pre ++ [x]) (by rw [e, List.append_assoc]; rfl)⟩
    have nd' := nd
    rw [e] at nd'
    obtain ⟨_, nd2, _⟩ := List.nodup_append.mp nd'
    obtain ⟨nx, nd3⟩ := List.nodup_cons.mp nd2
    obtain ⟨ny, nd4⟩ := List.nodup_cons.mp nd3
    have mem : ∀ {c}, c ∈ x :: y :: z :: zs → c ∈ L0 := fun hc => by rw [e]; exact List.mem_append.mpr (.inr hc)
    have side : ∀ c ∈ z :: zs, 0 < d3 x y c := fun c hc => hy pre x y (z :: zs) e c (mem (by simp [List.mem_cons.mp hc])) (fun z' => nx (by rw [← z']; simp [List.mem_cons.mp hc])) (fun z' => ny (by rw [← z']; exact hc))
    have chain : ∀ (rest : List Pt) (w : Pt) (pre' : List Pt), L0 = pre' ++ w :: rest → (∀ c ∈ w :: rest, c ∈ z :: zs) → (w :: rest).Nodup → Ch (fun a b => 0 < d3 x a b ∧ 0 < d3 x y a ∧ 0 < d3 x y b) w rest := by
      intro rest
      induction rest with
      | nil => intros; trivial
      | cons v rest ih =>
        intro w pre' e' hs hn
        have hw := hs w (by simp)
        have hv := hs v (by simp)
        refine ⟨⟨?_, side w hw, side v hv⟩, ih v (pre' ++ [w]) (by rw [e', List.append_assoc]; rfl) (fun c hc => hs c (List.mem_cons_of_mem _ hc)) (List.nodup_cons.mp hn).2⟩
        rw [d3_cyc]
        exact hy pre' w v rest e' x (mem (by simp)) (fun z' => nx (by rw [z']; exact List.mem_cons_of_mem _ hw)) (fun z' => nx (by rw [z']; exact List.mem_cons_of_mem _ hv))
    have c := chain zs z (pre ++ [x, y]) (by rw [e, List.append_assoc]; rfl) (fun c hc => hc) nd4
    have pw := pw_chain (R := fun a b => 0 < d3 x a b ∧ 0 < d3 x y a ∧ 0 < d3 x y b) (fun a b c h1 h2 => ⟨by
      have e : d3 x a c * d3 x y b = d3 x a b * d3 x y c + d3 x b c * d3 x y a := by unfold d3; grind
      have m1 := Int.mul_pos h1.1 h2.2.2
      have m2 := Int.mul_pos h2.1 h1.2.1
      refine pos_mul h1.2.2 (k := d3 x y b) ?_
      rw [Int.mul_comm]
      omega, h1.2.1, h2.2.2⟩) zs z c
    exact .cons (fun c hc => side c hc) (pw.imp fun h => h.1)
theorem Hul.t3 {S H : List Cell} (h : Hul S H) (h3 : 3 ≤ H.length) : T3 (H.map pt1) := by
  refine t3_of (L0 := H.map pt1) (List.Pairwise.map (R := fun a b => a ≠ b) _ (fun a b hab e => hab (pt1_inj e)) h.nd) (fun pre a b post e x hx na nb => ?_) (H.map pt1) [] rfl
  obtain ⟨pre', r1, e1, e2, e3⟩ := List.map_eq_append_iff.mp e
  obtain ⟨a', r2, e4, ea, e5⟩ := List.map_eq_cons_iff.mp e3
  obtain ⟨b', r3, e6, eb, e7⟩ := List.map_eq_cons_iff.mp e5
  obtain ⟨x', hx', ex⟩ := List.mem_map.mp hx
  subst ea eb ex
  have k1 : pre'.length + 1 < H.length := by rw [e1, e4, e6]; simp
  have ga : H[pre'.length]? = some a' := by rw [e1, e4]; simp
  have gb : H[pre'.length + 1]? = some b' := by rw [e1, e4, e6]; simp
  obtain ⟨j, hj, gx⟩ := List.getElem_of_mem hx'
  obtain ⟨a2, b2, g1, g2, g3⟩ := h.at (k := pre'.length) (by omega)
  rw [Nat.mod_eq_of_lt k1] at g2
  rw [ga] at g1
  rw [gb] at g2
  injection g1 with g1
  injection g2 with g2
  subst g1 g2
  rw [d3_tn]
  have nn := g3 x' (h.sub x' hx')
  have nz : tn a' b' x' ≠ 0 := fun z => by
    rcases h.noncol h3 (k := pre'.length) (j := j) (by omega) hj ga (by rw [Nat.mod_eq_of_lt k1]; exact gb) (by rw [List.getElem?_eq_getElem hj, gx]) z with w | w
    · exact na (by rw [w])
    · exact nb (by rw [w])
  omega
end DL

set_option Elab.async false
set_option linter.all false
set_option maxRecDepth 100000
namespace DL
def gc3 (x y l : Int) : Nat := Nat.gcd (Int.gcd x y) l.natAbs
def sg3 (x y l : Int) : Int := if l < 0 then -(gc3 x y l : Int) else (gc3 x y l : Int)
def lowP (x y l : Int) : Pt := (x.fdiv (sg3 x y l), y.fdiv (sg3 x y l), l.fdiv (sg3 x y l))
theorem fdiv_dvd {a b : Int} (h : b ∣ a) : a.fdiv b * b = a := by
  obtain ⟨c, rfl⟩ := h
  by_cases z : b = 0
  · subst z; simp
  · rw [Int.mul_fdiv_cancel_left _ z, Int.mul_comm]
theorem low_spec {x y l : Int} (hl : l ≠ 0) : Nrm (lowP x y l) ∧ 0 < sg3 x y l * l ∧ (lowP x y l).1 * sg3 x y l = x ∧ (lowP x y l).2.1 * sg3 x y l = y ∧ (lowP x y l).2.2 * sg3 x y l = l := by
  have g0 : 0 < gc3 x y l := Nat.gcd_pos_of_pos_right _ (by omega)
  have sn : (sg3 x y l).natAbs = gc3 x y l := by unfold sg3; split <;> omega
  have dv : ∀ {z : Int}, gc3 x y l ∣ z.natAbs → sg3 x y l ∣ z := fun h => Int.natAbs_dvd_natAbs.mp (by rw [sn]; exact h)
  have d1 : gc3 x y l ∣ x.natAbs := Nat.dvd_trans (Nat.gcd_dvd_left _ _) (Nat.gcd_dvd_left _ _)
  have d2 : gc3 x y l ∣ y.natAbs := Nat.dvd_trans (Nat.gcd_dvd_left _ _) (Nat.gcd_dvd_right _ _)
  have d3 : gc3 x y l ∣ l.natAbs := Nat.gcd_dvd_right _ _
  have e1 := fdiv_dvd (dv d1)
  have e2 := fdiv_dvd (dv d2)
  have e3 := fdiv_dvd (dv d3)
  have sl : 0 < sg3 x y l * l := by
    unfold sg3
    split
    · exact Int.mul_pos_of_neg_of_neg (by omega) (by omega)
    · exact Int.mul_pos (by omega) (by omega)
  refine ⟨⟨?_, ?_⟩, sl, e1, e2, e3⟩
  · show 0 < l.fdiv (sg3 x y l)
    have : 0 < sg3 x y l * sg3 x y l * l.fdiv (sg3 x y l) := by
      rw [Int.mul_assoc, Int.mul_comm (sg3 x y l) (l.fdiv _), e3]
      exact sl
    have s0 : sg3 x y l ≠ 0 := by omega
    have ss : 0 < sg3 x y l * sg3 x y l := by
      rcases Int.lt_or_gt_of_ne s0 with z | z
      · exact Int.mul_pos_of_neg_of_neg z z
      · exact Int.mul_pos z z
    exact pos_mul ss this
  · show Nat.gcd (Int.gcd (x.fdiv _) (y.fdiv _)) (l.fdiv _).natAbs = 1
    have n1 : (x.fdiv (sg3 x y l)).natAbs * gc3 x y l = x.natAbs := by rw [← sn, ← Int.natAbs_mul, e1]
    have n2 : (y.fdiv (sg3 x y l)).natAbs * gc3 x y l = y.natAbs := by rw [← sn, ← Int.natAbs_mul, e2]
    have n3 : (l.fdiv (sg3 x y l)).natAbs * gc3 x y l = l.natAbs := by rw [← sn, ← Int.natAbs_mul, e3]
    have e : Nat.gcd (Int.gcd (x.fdiv (sg3 x y l)) (y.fdiv (sg3 x y l))) (l.fdiv (sg3 x y l)).natAbs * gc3 x y l = gc3 x y l := by
      unfold Int.gcd
      rw [← Nat.gcd_mul_right, ← Nat.gcd_mul_right, n1, n2, n3]
      rfl
    exact Nat.eq_of_mul_eq_mul_right g0 (by rw [e, Nat.one_mul])
theorem RI.nrm {F : List Side} {L : List Pt} (R : RI F L) : ∀ v ∈ L, Nrm v := by
  cases R with
  | nil h => simp
  | one h => simpa using h.np
  | two h => simpa using ⟨h.np, h.nr⟩
  | many h => exact h.nrm
theorem RI.sat {F : List Side} {L : List Pt} (R : RI F L) : ∀ v ∈ L, Sat F v := fun v hv => ⟨(R.nrm v hv).pos, by
  cases R with
  | nil h => exact (nomatch hv)
  | one h => rw [List.mem_singleton.mp hv]; exact h.sp
  | two h =>
    simp only [List.mem_cons, List.not_mem_nil, or_false] at hv
    rcases hv with rfl | rfl
    · exact h.sp
    · exact h.sr
  | many h => exact h.sat v hv⟩
theorem RI.nd {F : List Side} {L : List Pt} (R : RI F L) : L.Nodup := by
  cases R with
  | nil h => simp
  | one h => simp
  | two h => simpa using h.ne
  | many h => exact h.t3.nd h.len
theorem RI.cmb {F : List Side} {L : List Pt} (R : RI F L) {q : Pt} (hq : Sat F q) : Cmb L q := by
  cases R with
  | nil h => exact absurd hq (h q)
  | @one p h =>
    obtain ⟨e1, e2⟩ := h.inn q hq
    exact ⟨p, by simp, p, by simp, p, by simp, p.2.2, q.2.2, 0, 0, h.np.pos, Int.le_of_lt hq.pos, by decide, by decide, by grind, by grind, by grind⟩
  | @two p r h =>
    obtain ⟨k, α, β, k0, a0, b0, e1, e2, e3⟩ := h.inn q hq
    exact ⟨p, by simp, r, by simp, r, by simp, k, α, β, 0, k0, a0, b0, by decide, by omega, by omega, by omega⟩
  | many h => exact ring_cmb h.t3 h.len (h.inn q hq)
theorem RI.ne {F : List Side} {L : List Pt} (R : RI F L) {q : Pt} (hq : Sat F q) : L ≠ [] := fun e => by
  obtain ⟨a, ha, _⟩ := (R.cmb hq).ex
  rw [e] at ha
  exact (nomatch ha)
theorem RI.dual {F : List Side} {L : List Pt} (R : RI F L) {v : Pt} (hv : v ∈ L) {s : Cell} (hs : ∀ c ∈ L, 0 ≤ ov (fall s v) c) : Dual F v s := by
  cases R with
  | nil h => exact (nomatch hv)
  | one h => rw [List.mem_singleton.mp hv]; exact h.dual s
  | two h =>
    simp only [List.mem_cons, List.not_mem_nil, or_false] at hv
    rcases hv with rfl | rfl
    · exact h.dual (hs _ (by simp))
    · exact h.symm.dual (hs _ (by simp))
  | many h => exact h.dual hv hs
theorem RI.tight {F : List Side} {L : List Pt} (R : RI F L) {v : Pt} (hv : v ∈ L) : ∃ a ∈ F, ∃ b ∈ F, ov a v = 0 ∧ ov b v = 0 ∧ cr a.1 b.1 ≠ 0 := by
  obtain ⟨a, ha, b, hb, h1, h2, h3, _⟩ := R.dual hv (s := (0, 0)) fun c _ => by unfold ov fall; grind
  exact ⟨a, ha, b, hb, h1, h2, h3⟩
theorem meet_at {a b : Side} {v : Pt} (h1 : ov a v = 0) (h2 : ov b v = 0) : v.1 * cr a.1 b.1 = (a.2 * b.1.2 - b.2 * a.1.2) * v.2.2 ∧ v.2.1 * cr a.1 b.1 = (a.1.1 * b.2 - b.1.1 * a.2) * v.2.2 := by
  unfold ov at h1 h2
  unfold cr
  constructor <;> grind
theorem RI.bnd {F : List Side} {L : List Pt} (R : RI F L) {j k : Nat} (hF : ∀ f ∈ F, (bnd j f.1.1 ∧ bnd j f.1.2) ∧ bnd k f.2) : ∀ v ∈ L, bnd (j + k + 1) v.1 ∧ bnd (j + k + 1) v.2.1 ∧ bnd (j + j + 1) v.2.2 := fun v hv => by
  obtain ⟨a, ha, b, hb, h1, h2, hc⟩ := R.tight hv
  obtain ⟨⟨a1, a2⟩, a3⟩ := hF a ha
  obtain ⟨⟨b1, b2⟩, b3⟩ := hF b hb
  obtain ⟨e1, e2⟩ := meet_at h1 h2
  have nv := R.nrm v hv
  obtain ⟨nx, sl, f1, f2, f3⟩ := low_spec (x := a.2 * b.1.2 - b.2 * a.1.2) (y := a.1.1 * b.2 - b.1.1 * a.2) hc
  have s0 : sg3 (a.2 * b.1.2 - b.2 * a.1.2) (a.1.1 * b.2 - b.1.1 * a.2) (cr a.1 b.1) ≠ 0 := fun z => by rw [z, Int.zero_mul] at sl; omega
  have ev : v = lowP (a.2 * b.1.2 - b.2 * a.1.2) (a.1.1 * b.2 - b.1.1 * a.2) (cr a.1 b.1) := by
    generalize lowP (a.2 * b.1.2 - b.2 * a.1.2) (a.1.1 * b.2 - b.1.1 * a.2) (cr a.1 b.1) = w at *
    generalize sg3 (a.2 * b.1.2 - b.2 * a.1.2) (a.1.1 * b.2 - b.1.1 * a.2) (cr a.1 b.1) = s at *
    have g1 : s * (v.1 * w.2.2) = s * (w.1 * v.2.2) := by
      rw [show s * (v.1 * w.2.2) = v.1 * (w.2.2 * s) by grind, f3, e1, ← f1]; grind
    have g2 : s * (v.2.1 * w.2.2) = s * (w.2.1 * v.2.2) := by
      rw [show s * (v.2.1 * w.2.2) = v.2.1 * (w.2.2 * s) by grind, f3, e2, ← f2]; grind
    exact nrm_uniq nv nx (Int.eq_of_mul_eq_mul_left s0 g1) (Int.eq_of_mul_eq_mul_left s0 g2)
  have sm : ∀ {x y s : Int}, s ≠ 0 → x * s = y → x.natAbs ≤ y.natAbs := fun {x y s} hs e => by
    rw [← e, Int.natAbs_mul]
    exact Nat.le_mul_of_pos_right _ (by omega)
  have m1 : DL.bnd (j + k + 1) (a.2 * b.1.2 - b.2 * a.1.2) := bnd_mono (bnd_sub (bnd_mul a3 b2) (bnd_mul b3 a2)) (by omega)
  have m2 : DL.bnd (j + k + 1) (a.1.1 * b.2 - b.1.1 * a.2) := bnd_mono (bnd_sub (bnd_mul a1 b3) (bnd_mul b1 a3)) (by omega)
  have m3 : DL.bnd (j + j + 1) (cr a.1 b.1) := bnd_mono (bnd_sub (bnd_mul a1 b2) (bnd_mul a2 b1)) (by omega)
  rw [ev]
  exact ⟨Nat.lt_of_le_of_lt (sm s0 f1) m1, Nat.lt_of_le_of_lt (sm s0 f2) m2, Nat.lt_of_le_of_lt (sm s0 f3) m3⟩
end DL

set_option Elab.async false
set_option linter.all false
set_option maxRecDepth 100000
set_option maxHeartbeats 4000000

set_option Elab.async false
set_option linter.all false
set_option maxRecDepth 100000
namespace DL
def ngC (w : Cell) : Cell := (-w.1, -w.2)
structure Ways (W : List Cell) : Prop where
  two : 2 ≤ W.length
  turn : W.Pairwise fun a b => 0 < cr a b
  ex : ((1, 0) : Cell) ∈ W
  ey : ((0, 1) : Cell) ∈ W
def wy (W : List Cell) (j : Nat) : Cell := if j < W.length then W.getD j (0, 0) else ngC (W.getD (j - W.length) (0, 0))
def wu (W : List Cell) (u : Nat) : Cell := W.getD u (0, 0)
def eps (n j u : Nat) : Int := if j ≤ n then (if u < j then 1 else -1) else (if u < j - n then -1 else 1)
def md (n j : Nat) : Nat := if j < n then j else j - n
def sm (f : Nat → Int) : Nat → Int
  | 0 => 0
  | n + 1 => sm f n + f n
def smC (W : List Cell) (e : Nat → Int) : Cell := (sm (fun u => e u * (wu W u).1) W.length, sm (fun u => e u * (wu W u).2) W.length)
def scC (k : Int) (c : Cell) : Cell := (k * c.1, k * c.2)
def cnr (W : List Cell) (s : Int) (j : Nat) : Cell := scC s (smC W (eps W.length j))
end DL

set_option Elab.async false
set_option linter.all false
set_option maxRecDepth 100000

set_option Elab.async false
set_option linter.all false
set_option maxRecDepth 100000
namespace DL
def bydP (p : Pt) (w c : Cell) : Int := w.2 * (c.1 * p.2.2 - p.1) - w.1 * (c.2 * p.2.2 - p.2.1)
def inwP (p : Pt) (one other c : Cell) : Prop := bydP p one c ≤ 0 ∧ bydP p other c ≤ 0
instance (p : Pt) (one other c : Cell) : Decidable (inwP p one other c) := by unfold inwP; infer_instance
def inL (W : List Cell) (s x y lo : Int) : Prop := ∀ j, j < 2 * W.length → 0 ≤ cr (wy W j) (x - lo * (cnr W s j).1, y - lo * (cnr W s j).2)
end DL

set_option Elab.async false
set_option linter.all false
set_option maxRecDepth 100000
set_option maxHeartbeats 2000000
namespace DL
open PySem PySem.Spec PyProof.Rows L2
variable [TabsOf]
def StV (K : PySem.W.Frag) (u : Value) (d : D) : Prop := ∃ w : V, RelV w u ∧ ∀ (c : Cfg) (Av : Addr → Prop) (H : Hp), c.K = K → Rep c Av H w d
inductive StVs (K : PySem.W.Frag) : List Value → List D → Prop
  | nil : StVs K [] []
  | cons {u : Value} {us : List Value} {d : D} {ds : List D} : StV K u d → StVs K us ds → StVs K (u :: us) (d :: ds)
theorem StV.int {K : PySem.W.Frag} {i : Int} {t : Tok} : StV K (.int i t) (.int i) := ⟨.int i, ⟨_, rfl⟩, fun _ _ _ _ => .int i⟩
theorem StV.str {K : PySem.W.Frag} {x : Str} {t : Tok} : StV K (.str x t) (.str x) := ⟨.str x, ⟨_, rfl⟩, fun _ _ _ _ => .str x⟩
theorem StVs.ex {K : PySem.W.Frag} : ∀ {us : List Value} {ds : List D}, StVs K us ds → ∃ ws : List V, Vals ws us ∧ ∀ (c : Cfg) (Av : Addr → Prop) (H : Hp), c.K = K → RepL c Av H ws ds
  | _, _, .nil => ⟨[], .nil, fun _ _ _ _ => .nil⟩
  | _, _, .cons ⟨w, r, f⟩ t => by
    obtain ⟨ws, v, g⟩ := t.ex
    exact ⟨w :: ws, .cons r v, fun c Av H h => .cons (f c Av H h) (g c Av H h)⟩
theorem StV.tup {K : PySem.W.Frag} {a : Addr} {its : Array Value} {n : Nat} {s : Array (Option Value)} {ds : List D} (h : K.lookup a = some ⟨.type "tuple", none, .seq its n, s⟩) (r : StVs K its.toList ds) (hs : its.size ≤ sizeLine := by decide) : StV K (.ref a) (.stp ds) := by
  obtain ⟨ws, v, g⟩ := r.ex
  exact ⟨.ref a, rfl, fun c Av H hk => .stp (.inl ⟨_, its, n, by rw [hk]; exact h, rfl, rfl, rfl, hs, v⟩) (g c Av H hk)⟩
end DL

set_option Elab.async false
set_option linter.all false
set_option maxRecDepth 100000
set_option maxHeartbeats 4000000

set_option Elab.async false
set_option linter.all false
set_option maxRecDepth 100000
set_option maxHeartbeats 4000000
namespace DLL
open PySem PySem.Spec PyProof.Rows L2 LamX NdefX DLK
def Holds (b : Heap) (cl : List (Str × Addr)) (fr : List Str) (ws : List (Option V)) : Prop := ∀ (X : Cx), X.base = b → ∀ (pins : List (Addr × Obj)) (σ : L2.St) (H : Hp) (s : Shared), Inv X pins σ H s → CellsAt cl fr ws s.heap H
structure FnL (P : Program) (w : World) (K : PySem.W.Frag) (mg : Str → Option Value) (base : Heap) (cl : List (Str × Addr)) (fr : List Str) (ws : List (Option V)) (k : Nat) (f : Addr) (fd : FuncData) (ps : List Str) (sp : Sp) : Prop where
  len : ∀ vs H Q E, sp vs H Q E → vs.length = ps.length
  run : ∀ (A : Around) (outer : List Env) (s : Shared) (H : Hp) (args : Args) (us : List Value) (vs : List V) (Q : VK) (E : XK), Room k A → Env0 P w K mg base A outer s H → CellsAt cl fr ws s.heap H → (∀ y c, cl.lookup y = some c → c ∉ frs outer) → BindsTo s fd args (ps.zip us) → Vals vs us → sp vs H Q E →
    codeAny (model P w) A (.call (.ref f) args) (CR L2.CX0 outer P w H s Q E) s
end DLL

set_option Elab.async false
set_option linter.all false
set_option maxRecDepth 100000
set_option maxHeartbeats 4000000

set_option Elab.async false
set_option linter.all false
set_option maxRecDepth 100000
set_option maxHeartbeats 4000000

set_option Elab.async false
set_option linter.all false
set_option maxRecDepth 100000
set_option maxHeartbeats 4000000
namespace DL
open PySem PySem.Spec PyProof.Rows L2 LamX NdefX DLK DLL
variable [TabsOf]
structure SiteOk (P : Program) (w : World) (K : PySem.W.Frag) (mg : Str → Option Value) (k : Nat) (q : Str) (ps : Arguments) (b : Expr) (sc : Scope) (fr : List Str) (prm : Str) (N : List Str) (pb : TED) : Prop where
  S : NScope N [prm] fr sc
  bd : ∀ (cl : List (Str × Addr)) (c' : Addr) (pm ctv u : Value), bindArgs (PySem.W.kla_fn "<lambda>" q ps b sc cl pm (.ref c') ctv) ⟨[u], []⟩ = pure [(prm, u)]
  len : 1 + fr.length ≤ N.length
  body : ∀ (base : Heap) (cl : List (Str × Addr)) (c' f : Addr) (A : Around) (outer : List Env) (s : Shared) (H : Hp), Room k (A.deeper (envF (LF q ps sc cl c') f s.heap.objs.size)) → PE (ncx L2.CX0 P w K mg base N (LF q ps sc cl c') f A outer s H (fun _ _ _ => False)) b (lift K [] .strong pb)
structure IsAt (i : Site) (q : Str) (ps : Arguments) (b : Expr) (sc : Scope) (fr : List Str) : Prop where
  q : i.q = q
  ps : i.ps = ps
  b : i.b = b
  sc : i.sc = sc
  len : i.vs.length = fr.length
structure DefL (P : Program) (w : World) (K : PySem.W.Frag) (mg : Str → Option Value) (base : Heap) (x : Str) (k n : Nat) (ko : Kd) (q : Str) (ps : Arguments) (b : Expr) (sc : Scope) (fr : List Str) (g : Site → List D → (D → Prop) → Prop) : Prop where
  ex : ∃ (f : Addr) (fd : FuncData) (pl : List Str), (∀ i : Site, IsAt i q ps b sc fr → FnL P w K mg base i.cl fr (i.vs.map some) k f fd pl (spD K n ko (g i))) ∧ mg x = some (.ref f) ∧ PySem.W.keepIn K (.ref f) = true ∧ Binds K fd pl []
def pDeed (i : Site) (j : Nat) (w : List D → (D → Prop) → Prop) (px : TED) : TED := fun ρ R => ∃ es, ρ[j]? = some (some (.lam i es)) ∧ px ρ fun d => w (d :: es) R
def pCallL (g : Site → List D → (D → Prop) → Prop) (js : List Nat) (px : TED) : TED := fun ρ R => px ρ fun d => ∃ es : List D, js.map (fun j => ρ[j]?) = es.map (fun e => some (some e)) ∧ ∀ i, g i [d, .lam i es] R
end DL

set_option Elab.async false
set_option linter.all false
set_option maxRecDepth 100000
set_option maxHeartbeats 4000000
namespace DLZ
open PySem PySem.Spec PyProof.Rows L2
structure Apart3 (z TI TO i1 i2 i3 a b d : Addr) : Prop where
  S : ZipSep3 z TI TO i1 i2 i3 [i1, a] [i2, b] [i3, d]
  a1 : a ≠ i1
  b2 : b ≠ i2
  d3 : d ≠ i3
end DLZ
namespace DL
open PySem PySem.Spec PyProof.Rows L2 DLZ
variable [TabsOf]
def zip3D : List D → List D → List D → List D
  | x :: xs, y :: ys, z :: zs => D.tup [x, y, z] :: zip3D xs ys zs
  | _, _, _ => []
def threeD (ds : List D) (f : D → D → D → Prop) : Prop := match ds with | [x, y, z] => f x y z | _ => False
def dTupIs (x : D) (f : List D → Prop) : Prop := match x with | .tup xs => f xs | _ => False
def sZip3 (pa : TAD) : TAD := fun ρ R => pa ρ fun ds => threeD ds fun x y z => dTupIs x fun xs => dTupIs y fun ys => dTupIs z fun zs => R (zip3D xs ys zs)
theorem x_sZip3 {pa : TAD} {ρ : PEnv} {R : List D → Prop} : sZip3 pa ρ R = pa ρ fun ds => threeD ds fun x y z => dTupIs x fun xs => dTupIs y fun ys => dTupIs z fun zs => R (zip3D xs ys zs) := propext Iff.rfl
theorem x_threeD {x y z : D} {f : D → D → D → Prop} : threeD [x, y, z] f = f x y z := propext Iff.rfl
theorem x_dTupIs {xs : List D} {f : List D → Prop} : dTupIs (.tup xs) f = f xs := propext Iff.rfl
end DL

set_option Elab.async false
set_option linter.all false
set_option maxRecDepth 100000
set_option maxHeartbeats 4000000
namespace DL
open PySem PySem.Spec PyProof.Rows L2
variable [TabsOf]
def sMove (i j : Nat) : TSD := fun DD ρ => pV j ρ fun d => DD.nx ((ρ.set j none).set i (some d))
theorem x_sMove {i j : Nat} {DD : DEnds} {ρ : PEnv} : sMove i j DD ρ = pV j ρ fun d => DD.nx ((ρ.set j none).set i (some d)) := propext Iff.rfl
end DL

set_option Elab.async false
set_option linter.all false
set_option maxRecDepth 100000
set_option maxHeartbeats 4000000
namespace DL
open PySem PySem.Spec PyProof.Rows L2
theorem x_pDeed {i : DLK.Site} {j : Nat} {w : List D → (D → Prop) → Prop} {px : TED} {ρ : PEnv} {R : D → Prop} : pDeed i j w px ρ R = ∃ es, ρ[j]? = some (some (.lam i es)) ∧ px ρ fun d => w (d :: es) R := propext Iff.rfl
theorem x_pCallL {g : DLK.Site → List D → (D → Prop) → Prop} {js : List Nat} {px : TED} {ρ : PEnv} {R : D → Prop} : pCallL g js px ρ R = px ρ fun d => ∃ es : List D, js.map (fun j => ρ[j]?) = es.map (fun e => some (some e)) ∧ ∀ i, g i [d, .lam i es] R := propext Iff.rfl
end DL

set_option Elab.async false
set_option linter.all false
set_option maxRecDepth 100000
set_option maxHeartbeats 4000000

set_option Elab.async false
set_option linter.all false
set_option maxRecDepth 100000
set_option maxHeartbeats 4000000
namespace DL
open PySem PySem.Spec PyProof.Rows L2
inductive Ru where
  | cell (c : Cell) | name (s : Str) | all (ps : List Ru) | any (ps : List Ru) | least (k : Int) (ps : List Ru) | att (c : Cell) (e : Ru) | led (t : Tab) (e : Ru) | thn (e f : Ru)
section
variable {P : Ru → Prop} (h1 : ∀ c, P (.cell c)) (h2 : ∀ s, P (.name s)) (h3 : ∀ ps, (∀ p ∈ ps, P p) → P (.all ps)) (h4 : ∀ ps, (∀ p ∈ ps, P p) → P (.any ps)) (h5 : ∀ k ps, (∀ p ∈ ps, P p) → P (.least k ps)) (h6 : ∀ c e, P e → P (.att c e)) (h7 : ∀ t e, P e → P (.led t e)) (h8 : ∀ e f, P e → P f → P (.thn e f))
include h1 h2 h3 h4 h5 h6 h7 h8
mutual
theorem Ru.ind : ∀ r : Ru, P r
  | .cell c => h1 c
  | .name s => h2 s
  | .all ps => h3 ps (Ru.inds ps)
  | .any ps => h4 ps (Ru.inds ps)
  | .least k ps => h5 k ps (Ru.inds ps)
  | .att c e => h6 c e (Ru.ind e)
  | .led t e => h7 t e (Ru.ind e)
  | .thn e f => h8 e f (Ru.ind e) (Ru.ind f)
theorem Ru.inds : ∀ ps : List Ru, ∀ p ∈ ps, P p
  | [], _, h => nomatch h
  | q :: ps, p, h => by
    rcases List.mem_cons.mp h with z | z
    · rw [z]; exact Ru.ind q
    · exact Ru.inds ps p z
end
end
mutual
def Ru.d : Ru → D
  | .cell c => .tup [.str "cell", .int c.1, .int c.2]
  | .name s => .tup [.str "name", .str s]
  | .all ps => .tup [.str "all", .tup (Ru.ds ps)]
  | .any ps => .tup [.str "any", .tup (Ru.ds ps)]
  | .least k ps => .tup [.str "least", .int k, .tup (Ru.ds ps)]
  | .att c e => .tup [.str "at", .int c.1, .int c.2, Ru.d e]
  | .led t e => .tup [.str "by", tbD t, Ru.d e]
  | .thn e f => .tup [.str "then", Ru.d e, Ru.d f]
def Ru.ds : List Ru → List D
  | [] => []
  | p :: ps => Ru.d p :: Ru.ds ps
end
theorem Ru.ds_map : ∀ ps : List Ru, Ru.ds ps = ps.map Ru.d
  | [] => by simp [Ru.ds]
  | p :: ps => by simp [Ru.ds, Ru.ds_map ps]
mutual
def Ru.sz : Ru → Nat
  | .cell _ => 1
  | .name s => 1
  | .all ps => 1 + Ru.szs ps
  | .any ps => 1 + Ru.szs ps
  | .least _ ps => 1 + Ru.szs ps
  | .att _ e => 1 + Ru.sz e
  | .led _ e => 1 + Ru.sz e
  | .thn e f => 1 + Ru.sz e + Ru.sz f
def Ru.szs : List Ru → Nat
  | [] => 0
  | p :: ps => Ru.sz p + Ru.szs ps
end
mutual
def Ru.dep : Ru → Nat
  | .cell _ => 1
  | .name s => 1
  | .all ps => 1 + Ru.deps ps
  | .any ps => 1 + Ru.deps ps
  | .least _ ps => 1 + Ru.deps ps
  | .att _ e => 1 + Ru.dep e
  | .led _ e => 1 + Ru.dep e
  | .thn e f => 1 + max (Ru.dep e) (Ru.dep f)
def Ru.deps : List Ru → Nat
  | [] => 0
  | p :: ps => max (Ru.dep p) (Ru.deps ps)
end
mutual
def Ru.tn : Ru → Nat
  | .cell _ => 0
  | .name s => 0
  | .all ps => Ru.tns ps
  | .any ps => Ru.tns ps
  | .least _ ps => Ru.tns ps
  | .att _ e => Ru.tn e
  | .led _ e => Ru.tn e
  | .thn e f => 1 + max (Ru.tn e) (Ru.tn f)
def Ru.tns : List Ru → Nat
  | [] => 0
  | p :: ps => max (Ru.tn p) (Ru.tns ps)
end
mutual
def Ru.nm : Ru → List Str
  | .cell _ => []
  | .name s => [s]
  | .all ps => Ru.nms ps
  | .any ps => Ru.nms ps
  | .least _ ps => Ru.nms ps
  | .att _ e => Ru.nm e
  | .led _ e => Ru.nm e
  | .thn e f => Ru.nm e ++ Ru.nm f
def Ru.nms : List Ru → List Str
  | [] => []
  | p :: ps => Ru.nm p ++ Ru.nms ps
end
theorem Ru.deps_mem : ∀ {ps : List Ru} {p : Ru}, p ∈ ps → p.dep ≤ Ru.deps ps
  | q :: ps, p, h => by
    rw [Ru.deps]
    rcases List.mem_cons.mp h with z | z
    · rw [z]; omega
    · have := Ru.deps_mem z; omega
inductive Gd (B : Int) (T : Str → Prop) : Ru → Prop
  | cell {c} : ((-B ≤ c.1 ∧ c.1 ≤ B) ∧ (-B ≤ c.2 ∧ c.2 ≤ B)) → Gd B T (.cell c)
  | name {s} : T s → Gd B T (.name s)
  | all {ps} : ps ≠ [] → ps.length ≤ 9 → (∀ p ∈ ps, Gd B T p) → Gd B T (.all ps)
  | any {ps} : ps ≠ [] → ps.length ≤ 9 → (∀ p ∈ ps, Gd B T p) → Gd B T (.any ps)
  | least {k ps} : 1 ≤ k → k ≤ ps.length → ps.length ≤ 9 → (∀ p ∈ ps, Gd B T p) → Gd B T (.least k ps)
  | att {c e} : ((-B ≤ c.1 ∧ c.1 ≤ B) ∧ (-B ≤ c.2 ∧ c.2 ≤ B)) → Gd B T e → Gd B T (.att c e)
  | led {t : Tab} {e} : detT t ≠ 0 → (((-9 ≤ t.1 ∧ t.1 ≤ 9) ∧ (-9 ≤ t.2.1 ∧ t.2.1 ≤ 9)) ∧ (-9 ≤ t.2.2.1 ∧ t.2.2.1 ≤ 9) ∧ (-9 ≤ t.2.2.2 ∧ t.2.2.2 ≤ 9)) → Gd B T e → Gd B T (.led t e)
  | thn {e f} : Gd B T e → Gd B T f → Gd B T (.thn e f)
theorem Gd.imp {B : Int} {T T' : Str → Prop} {r : Ru} (h : Gd B T r) (f : ∀ s, T s → T' s) : Gd B T' r := by
  induction h with
  | cell h => exact .cell h
  | name h => exact .name (f _ h)
  | all a b _ ih => exact .all a b ih
  | any a b _ ih => exact .any a b ih
  | least a b c _ ih => exact .least a b c ih
  | att a _ ih => exact .att a ih
  | led a b _ ih => exact .led a b ih
  | thn _ _ a b => exact .thn a b
theorem eqW (a b : Str) : eqD (.str a) (.str b) = (a == b) := rfl
theorem okD_mono : ∀ {n : Nat} {d : D}, okD n d = true → okD (n + 1) d = true
  | 0, d, h => by
    cases d <;> first | (simp [okD] at h; done) | (simp only [okD] at h ⊢; try exact h) | (simp [okD])
  | n + 1, d, h => by
    cases d with
    | tup ds => rw [ok_t] at h ⊢; exact okDs_iff.mpr fun e he => okD_mono (okDs_iff.mp h e he)
    | lst ds => rw [ok_l] at h ⊢; exact okDs_iff.mpr fun e he => okD_mono (okDs_iff.mp h e he)
    | _ => first | (simp [okD] at h; done) | (simp only [okD] at h ⊢; try exact h) | (simp [okD])
theorem okD_le {n m : Nat} {d : D} (h : okD n d = true) (hm : n ≤ m) : okD m d = true := by
  obtain ⟨k, rfl⟩ := Nat.exists_eq_add_of_le hm
  induction k with
  | zero => exact h
  | succ k ih => exact okD_mono (ih (by omega))
theorem wd_ok_cell {n : Nat} : okD n (.str ("cell" : Str)) = true := okD_le (n := 0) (by decide +kernel) (Nat.zero_le n)
theorem wd_ok_name {n : Nat} : okD n (.str ("name" : Str)) = true := okD_le (n := 0) (by decide +kernel) (Nat.zero_le n)
theorem wd_ok_all {n : Nat} : okD n (.str ("all" : Str)) = true := okD_le (n := 0) (by decide +kernel) (Nat.zero_le n)
theorem wd_ok_any {n : Nat} : okD n (.str ("any" : Str)) = true := okD_le (n := 0) (by decide +kernel) (Nat.zero_le n)
theorem wd_ok_least {n : Nat} : okD n (.str ("least" : Str)) = true := okD_le (n := 0) (by decide +kernel) (Nat.zero_le n)
theorem wd_ok_at {n : Nat} : okD n (.str ("at" : Str)) = true := okD_le (n := 0) (by decide +kernel) (Nat.zero_le n)
theorem wd_ok_by {n : Nat} : okD n (.str ("by" : Str)) = true := okD_le (n := 0) (by decide +kernel) (Nat.zero_le n)
theorem wd_ok_then {n : Nat} : okD n (.str ("then" : Str)) = true := okD_le (n := 0) (by decide +kernel) (Nat.zero_le n)
theorem wd_cell_cell : (("cell" : Str) == "cell") = true := by decide +kernel
theorem wd_cell_name : (("cell" : Str) == "name") = false := by decide +kernel
theorem wd_cell_all : (("cell" : Str) == "all") = false := by decide +kernel
theorem wd_cell_any : (("cell" : Str) == "any") = false := by decide +kernel
theorem wd_cell_least : (("cell" : Str) == "least") = false := by decide +kernel
theorem wd_cell_at : (("cell" : Str) == "at") = false := by decide +kernel
theorem wd_cell_by : (("cell" : Str) == "by") = false := by decide +kernel
theorem wd_cell_then : (("cell" : Str) == "then") = false := by decide +kernel
theorem wd_name_cell : (("name" : Str) == "cell") = false := by decide +kernel
theorem wd_name_name : (("name" : Str) == "name") = true := by decide +kernel
theorem wd_name_all : (("name" : Str) == "all") = false := by decide +kernel
theorem wd_name_any : (("name" : Str) == "any") = false := by decide +kernel
theorem wd_name_least : (("name" : Str) == "least") = false := by decide +kernel
theorem wd_name_at : (("name" : Str) == "at") = false := by decide +kernel
theorem wd_name_by : (("name" : Str) == "by") = false := by decide +kernel
theorem wd_name_then : (("name" : Str) == "then") = false := by decide +kernel
theorem wd_all_cell : (("all" : Str) == "cell") = false := by decide +kernel
theorem wd_all_name : (("all" : Str) == "name") = false := by decide +kernel
theorem wd_all_all : (("all" : Str) == "all") = true := by decide +kernel
theorem wd_all_any : (("all" : Str) == "any") = false := by decide +kernel
theorem wd_all_least : (("all" : Str) == "least") = false := by decide +kernel
theorem wd_all_at : (("all" : Str) == "at") = false := by decide +kernel
theorem wd_all_by : (("all" : Str) == "by") = false := by decide +kernel
theorem wd_all_then : (("all" : Str) == "then") = false := by decide +kernel
theorem wd_any_cell : (("any" : Str) == "cell") = false := by decide +kernel
theorem wd_any_name : (("any" : Str) == "name") = false := by decide +kernel
theorem wd_any_all : (("any" : Str) == "all") = false := by decide +kernel
theorem wd_any_any : (("any" : Str) == "any") = true := by decide +kernel
theorem wd_any_least : (("any" : Str) == "least") = false := by decide +kernel
theorem wd_any_at : (("any" : Str) == "at") = false := by decide +kernel
theorem wd_any_by : (("any" : Str) == "by") = false := by decide +kernel
theorem wd_any_then : (("any" : Str) == "then") = false := by decide +kernel
theorem wd_least_cell : (("least" : Str) == "cell") = false := by decide +kernel
theorem wd_least_name : (("least" : Str) == "name") = false := by decide +kernel
theorem wd_least_all : (("least" : Str) == "all") = false := by decide +kernel
theorem wd_least_any : (("least" : Str) == "any") = false := by decide +kernel
theorem wd_least_least : (("least" : Str) == "least") = true := by decide +kernel
theorem wd_least_at : (("least" : Str) == "at") = false := by decide +kernel
theorem wd_least_by : (("least" : Str) == "by") = false := by decide +kernel
theorem wd_least_then : (("least" : Str) == "then") = false := by decide +kernel
theorem wd_at_cell : (("at" : Str) == "cell") = false := by decide +kernel
theorem wd_at_name : (("at" : Str) == "name") = false := by decide +kernel
theorem wd_at_all : (("at" : Str) == "all") = false := by decide +kernel
theorem wd_at_any : (("at" : Str) == "any") = false := by decide +kernel
theorem wd_at_least : (("at" : Str) == "least") = false := by decide +kernel
theorem wd_at_at : (("at" : Str) == "at") = true := by decide +kernel
theorem wd_at_by : (("at" : Str) == "by") = false := by decide +kernel
theorem wd_at_then : (("at" : Str) == "then") = false := by decide +kernel
theorem wd_by_cell : (("by" : Str) == "cell") = false := by decide +kernel
theorem wd_by_name : (("by" : Str) == "name") = false := by decide +kernel
theorem wd_by_all : (("by" : Str) == "all") = false := by decide +kernel
theorem wd_by_any : (("by" : Str) == "any") = false := by decide +kernel
theorem wd_by_least : (("by" : Str) == "least") = false := by decide +kernel
theorem wd_by_at : (("by" : Str) == "at") = false := by decide +kernel
theorem wd_by_by : (("by" : Str) == "by") = true := by decide +kernel
theorem wd_by_then : (("by" : Str) == "then") = false := by decide +kernel
theorem wd_then_cell : (("then" : Str) == "cell") = false := by decide +kernel
theorem wd_then_name : (("then" : Str) == "name") = false := by decide +kernel
theorem wd_then_all : (("then" : Str) == "all") = false := by decide +kernel
theorem wd_then_any : (("then" : Str) == "any") = false := by decide +kernel
theorem wd_then_least : (("then" : Str) == "least") = false := by decide +kernel
theorem wd_then_at : (("then" : Str) == "at") = false := by decide +kernel
theorem wd_then_by : (("then" : Str) == "by") = false := by decide +kernel
theorem wd_then_then : (("then" : Str) == "then") = true := by decide +kernel
theorem okD_str {n : Nat} {s : Str} (h : ∀ c ∈ s.cps.toList, c < 128) : okD n (.str s) = true := by
  refine okD_le (n := 0) ?_ (Nat.zero_le n)
  show PyData.canLay0 (.str s) = true
  rw [PyData.canLay0]
  show (s.cps.all (· < 0x110000)) = true
  rw [← Array.all_toList]
  refine List.all_eq_true.mpr fun c hc => ?_
  have := h c hc
  simp only [decide_eq_true_eq]
  omega
theorem Ru.ok {B : Int} {T : Str → Prop} (hT : ∀ s, T s → ∀ c ∈ s.cps.toList, c < 128) : ∀ r : Ru, Gd B T r → ∀ n, 2 * r.dep + 1 ≤ n → okD n r.d = true := by
  have lst : ∀ ps : List Ru, (∀ p ∈ ps, Gd B T p → ∀ n, 2 * p.dep + 1 ≤ n → okD n p.d = true) → (∀ p ∈ ps, Gd B T p) → ∀ n, 2 * Ru.deps ps + 1 ≤ n → okD.okDs n (Ru.ds ps) = true := fun ps ih hg n hn => by
    rw [Ru.ds_map]
    refine okDs_iff.mpr fun d hd => ?_
    obtain ⟨p, hp, rfl⟩ := List.mem_map.mp hd
    have := Ru.deps_mem hp
    exact ih p hp (hg p hp) n (by omega)
  refine Ru.ind ?_ ?_ ?_ ?_ ?_ ?_ ?_ ?_
  · rintro c h n hn
    rw [Ru.dep] at hn
    obtain ⟨m, rfl⟩ := Nat.exists_eq_add_of_le hn
    rw [Ru.d, show 2 * 1 + 1 + m = (m + 2) + 1 by omega]
    simp only [ok_t, ok_c, ok_0, ok_i, wd_ok_cell, Bool.and_true]
  · rintro s h n hn
    cases h with | name hs =>
    rw [Ru.dep] at hn
    obtain ⟨m, rfl⟩ := Nat.exists_eq_add_of_le hn
    rw [Ru.d, show 2 * 1 + 1 + m = (m + 2) + 1 by omega]
    simp only [ok_t, ok_c, ok_0, wd_ok_name, Bool.and_true, okD_str (hT s hs)]
  · rintro ps ih h n hn
    cases h with | all _ _ hg =>
    rw [Ru.dep] at hn
    obtain ⟨m, rfl⟩ := Nat.exists_eq_add_of_le hn
    rw [Ru.d, show 2 * (1 + Ru.deps ps) + 1 + m = (2 * Ru.deps ps + 1 + m + 1) + 1 by omega]
    simp only [ok_t, ok_c, ok_0, wd_ok_all, Bool.and_true, lst ps ih hg (2 * Ru.deps ps + 1 + m) (by omega)]
  · rintro ps ih h n hn
    cases h with | any _ _ hg =>
    rw [Ru.dep] at hn
    obtain ⟨m, rfl⟩ := Nat.exists_eq_add_of_le hn
    rw [Ru.d, show 2 * (1 + Ru.deps ps) + 1 + m = (2 * Ru.deps ps + 1 + m + 1) + 1 by omega]
    simp only [ok_t, ok_c, ok_0, wd_ok_any, Bool.and_true, lst ps ih hg (2 * Ru.deps ps + 1 + m) (by omega)]
  · rintro k ps ih h n hn
    cases h with | least _ _ _ hg =>
    rw [Ru.dep] at hn
    obtain ⟨m, rfl⟩ := Nat.exists_eq_add_of_le hn
    rw [Ru.d, show 2 * (1 + Ru.deps ps) + 1 + m = (2 * Ru.deps ps + 1 + m + 1) + 1 by omega]
    simp only [ok_t, ok_c, ok_0, ok_i, wd_ok_least, Bool.and_true, lst ps ih hg (2 * Ru.deps ps + 1 + m) (by omega)]
  · rintro c e ih h n hn
    cases h with | att _ hg =>
    rw [Ru.dep] at hn
    obtain ⟨m, rfl⟩ := Nat.exists_eq_add_of_le hn
    rw [Ru.d, show 2 * (1 + e.dep) + 1 + m = (2 * e.dep + 1 + m + 1) + 1 by omega]
    simp only [ok_t, ok_c, ok_0, ok_i, wd_ok_at, Bool.and_true, ih hg (2 * e.dep + 1 + m + 1) (by omega)]
  · rintro t e ih h n hn
    cases h with | led _ _ hg =>
    rw [Ru.dep] at hn
    obtain ⟨m, rfl⟩ := Nat.exists_eq_add_of_le hn
    rw [Ru.d, show 2 * (1 + e.dep) + 1 + m = (2 * e.dep + 1 + m + 1) + 1 by omega, tbD]
    simp only [ok_t, ok_c, ok_0, ok_i, wd_ok_by, Bool.and_true, Bool.true_and, ih hg (2 * e.dep + 1 + m + 1) (by omega)]
  · rintro e f ihe ihf h n hn
    cases h with | thn he hf =>
    rw [Ru.dep] at hn
    obtain ⟨m, rfl⟩ := Nat.exists_eq_add_of_le hn
    rw [Ru.d, show 2 * (1 + max e.dep f.dep) + 1 + m = (2 * max e.dep f.dep + 1 + m + 1) + 1 by omega]
    simp only [ok_t, ok_c, ok_0, wd_ok_then, Bool.and_true, ihe he (2 * max e.dep f.dep + 1 + m + 1) (by omega), ihf hf (2 * max e.dep f.dep + 1 + m + 1) (by omega)]
end DL

set_option Elab.async false
set_option linter.all false
set_option maxRecDepth 100000
set_option maxHeartbeats 4000000
namespace DLR
open PySem PySem.Spec PyProof.Rows L2
section
variable {X : Cx}
def rvS (z : Str) : Str := Txt.sliceBy z none none (-1, 0)
end
end DLR
namespace DL
open PySem PySem.Spec PyProof.Rows L2 DLR
variable [TabsOf]
section
variable {X : Cx} {own : List Nat} {p : TED}
def dRevS (x : D) (R : D → Prop) : Prop := match x with | .str z => z.length ≤ sizeLine ∧ R (.str (rvS z)) | _ => False
theorem x_revS {z : Str} {R : D → Prop} : dRevS (.str z) R = (z.length ≤ sizeLine ∧ R (.str (rvS z))) := propext Iff.rfl
def dOrdS (xs : List D) (R : D → Prop) : Prop := dOne xs fun x => match x with
  | .str z => z.length = 1 ∧ R (.int (z.cps.getD 0 0 : Nat))
  | _ => False
theorem x_ordS {z : Str} {R : D → Prop} : dOrdS [.str z] R = (z.length = 1 ∧ R (.int (z.cps.getD 0 0 : Nat))) := propext Iff.rfl
def dNiSg (x y : D) (R : D → Prop) : Prop := strOf x fun s => strOf y fun z => ∃ c : Nat, s = ⟨#[c]⟩ ∧ R (.bl (!decide (c ∈ z.cps.toList)))
theorem x_niSg {a z : Str} {R : D → Prop} : dNiSg (.str a) (.str z) R = ∃ c : Nat, a = ⟨#[c]⟩ ∧ R (.bl (!decide (c ∈ z.cps.toList))) := propext Iff.rfl
def tRefs : List Addr → TA
  | [] => tNil
  | D :: r => tCons (tC (.ref D)) (tRefs r)
structure IsL (X : Cx) (C : Addr) (es : List Expr) (k : Nat) (b : Bool) : Prop where
  ex : ∃ Ds : List Addr, Ds.length = k ∧ PA X es (tRefs Ds) ∧ PySem.W.kitAny X.K (.ref C) (Ds.map Value.ref) = some b
variable {pos p1 p2 p3 : Pos} {y : Str} {a C : Addr} {oe : Obj} {d : Option Addr} {n : XC} {ts : List (Option XC)} {es : List Expr} {b : Bool} {k : Nat}
theorem SqT.newT {K : PySem.W.Frag} {H : Hp} {p : Addr} {xs : List V} : SqT K (upd H p (.tup xs)) p xs := .inl (show Rd _ _ _ from by unfold Rd upd; exact .inl (if_pos rfl))
def pIsT (b : Bool) (a : Addr) (d : Option Addr) (i : Nat) : TED := fun ρ R => isExc a d ρ i ∧ R (.bl b)
theorem x_pIsT {ρ : PEnv} {R : D → Prop} {i : Nat} : pIsT b a d i ρ R = (isExc a d ρ i ∧ R (.bl b)) := propext Iff.rfl
end
end DL

set_option Elab.async false
set_option linter.all false
set_option maxRecDepth 100000
set_option maxHeartbeats 4000000
namespace DL
open PySem PySem.Spec PyProof.Rows L2
variable [TabsOf]
section
variable {X : Cx} {own : List Nat} {fr : Bool} {ko : Kd} {pos : Pos} {pk1 pk2 : TED} {pa : TAD}
def sSwap (i : Nat) (pk1 pk2 : TED) (pa : TAD) : TSD := fun DD ρ => ownL ρ i fun ds => pa ρ fun vs => match vs with
  | [d, e] => pk1 ρ fun x => dInt x fun x => ∃ j, ixN ds.length x = some j ∧ pk2 (ρ.set i (some (.lst (ds.set j d)))) fun y => dInt y fun y => ∃ l, ixN ds.length y = some l ∧ DD.nx (ρ.set i (some (.lst ((ds.set j d).set l e))))
  | _ => False
variable {DD : DEnds} {ρ : PEnv} {i : Nat}
theorem x_swap : sSwap i pk1 pk2 pa DD ρ = ownL ρ i fun ds => pa ρ fun vs => two vs fun d e => pk1 ρ fun x => dInt x fun x => ∃ j, ixN ds.length x = some j ∧ pk2 (ρ.set i (some (.lst (ds.set j d)))) fun y => dInt y fun y => ∃ l, ixN ds.length y = some l ∧ DD.nx (ρ.set i (some (.lst ((ds.set j d).set l e)))) := propext Iff.rfl
end
end DL

set_option Elab.async false
set_option linter.all false
set_option maxRecDepth 100000
set_option maxHeartbeats 4000000
namespace DL
open PySem PySem.Spec PyProof.Rows L2
variable [TabsOf]
abbrev Mem := Addr → Option (List D)
def Mem.put (μ : Mem) (a : Addr) (ds : List D) : Mem := fun b => if b = a then some ds else μ b
def Mem.del (μ : Mem) (a : Addr) : Mem := fun b => if b = a then none else μ b
theorem Mem.put_at (μ : Mem) (a : Addr) (ds : List D) : μ.put a ds a = some ds := if_pos rfl
theorem Mem.put_ne (μ : Mem) {a b : Addr} (ds : List D) (h : b ≠ a) : μ.put a ds b = μ b := if_neg h
theorem Mem.del_at (μ : Mem) (a : Addr) : μ.del a a = none := if_pos rfl
theorem Mem.del_ne (μ : Mem) {a b : Addr} (h : b ≠ a) : μ.del a b = μ b := if_neg h
def AM (A : Addr → Prop) (μ : Mem) : Addr → Prop := fun a => A a ∨ μ a ≠ none
structure MemR (c : Cfg) (A : Addr → Prop) (μ : Mem) (H H0 : Hp) : Prop where
  at_ : ∀ a ds, μ a = some ds → ∃ vs, vs.length ≤ sizeLine ∧ H a = some (.lst vs) ∧ RepL c (Avd c [] (AM A μ) [] []) H vs ds
  ns : ∀ a, μ a ≠ none → ¬ c.S a ∧ ¬ A a ∧ H0 a = none
theorem avd0 {c : Cfg} {A : Addr → Prop} {σ σ' : L2.St} {ρ ρ' : PEnv} : Avd c [] A σ ρ = Avd c [] A σ' ρ' := by
  funext a
  unfold Avd
  refine propext ⟨fun z => ?_, fun z => ?_⟩
  · rcases z with z | z | ⟨_, _, h, _⟩
    · exact .inl z
    · exact .inr (.inl z)
    · cases h
  · rcases z with z | z | ⟨_, _, h, _⟩
    · exact .inl z
    · exact .inr (.inl z)
    · cases h
structure StM (K : PySem.W.Frag) (A : Addr → Prop) (c0 : Cfg) (H0 : Hp) (c : Cfg) (σ : L2.St) (ρ : PEnv) (μ : Mem) (H : Hp) : Prop where
  k : c.K = K
  t : Step c0 H0 c H
  E : EnvR c [] (AM A μ) σ ρ H
  M : MemR c A μ H H0
section
variable {K : PySem.W.Frag} {A : Addr → Prop} {c0 c c' : Cfg} {H0 H H' : Hp} {σ : L2.St} {ρ : PEnv} {μ : Mem}
theorem av_lst {H : Hp} {p : Addr} {vs : List V} : AvOk (upd H p (.lst vs)) p := by
  unfold AvOk
  rw [upd_same]
  exact ⟨fun z => (nomatch z), fun ws z => (nomatch z)⟩
theorem StM.step (s : StM K A c0 H0 c σ ρ μ H) (u : Step c H c' H') : StM K A c0 H0 c' σ ρ μ H' := by
  refine ⟨u.kk.trans s.k, s.t.trans u, s.E.step u, fun a ds e => ?_, fun a e => ?_⟩
  · obtain ⟨vs, h1, h2, h3⟩ := s.M.at_ a ds e
    refine ⟨vs, h1, u.keep a _ (s.M.ns a (by rw [e]; exact fun z => nomatch z)).1 h2, ?_⟩
    rw [avd0 (σ' := σ) (ρ' := ρ)] at h3 ⊢
    exact RepL.step s.E u h3
  · obtain ⟨n1, n2, n3⟩ := s.M.ns a e
    refine ⟨fun z => ?_, n2, n3⟩
    rcases u.new a z with z | z
    · exact n1 z
    · cases q : μ a with
      | none => exact e q
      | some ds =>
        obtain ⟨vs, _, h2, _⟩ := s.M.at_ a ds q
        rw [z] at h2; cases h2
theorem StM.set (s : StM K A c0 H0 c σ ρ μ H) {i : Nat} {v : V} {d : D} (r : Rep c (Avd c [] (AM A μ) σ ρ) H v d) : StM K A c0 H0 c (σ.set i (some v)) (ρ.set i (some d)) μ H :=
  ⟨s.k, s.t, s.E.set (by simp) r, s.M⟩
theorem StM.new (s : StM K A c0 H0 c σ ρ μ H) {p : Addr} {vs : List V} {ds : List D} (hp : H p = none) (hz : vs.length ≤ sizeLine) (r : RepL c (Avd c [] (AM A μ) σ ρ) H vs ds) : StM K A c0 H0 c σ ρ (μ.put p ds) (upd H p (.lst vs)) := by
  have u : Step c H c (upd H p (.lst vs)) := .one s.E.fok hp
  have nS : ¬ c.S p := s.E.fok.fresh hp
  have nm : μ p = none := by
    cases q : μ p with
    | none => rfl
    | some es =>
      obtain ⟨_, _, h2, _⟩ := s.M.at_ p es q
      rw [hp] at h2; cases h2
  have nA : ¬ A p := fun z => (s.E.avA p (.inl z)).1 hp
  have eA : AM A (μ.put p ds) = fun b => AM A μ b ∨ b = p := by
    funext b
    unfold AM
    by_cases e : b = p
    · rw [e, Mem.put_at]
      exact propext ⟨fun _ => .inr rfl, fun _ => .inr fun z => nomatch z⟩
    · rw [Mem.put_ne μ ds e]
      exact propext ⟨fun z => .inl z, fun z => z.elim id fun z => absurd z e⟩
  have E' := EnvR.stepA s.E u hp nS av_lst
  have m : ∀ b o, ¬ Avd c [] (AM A μ) [] [] b → H b = some o → ¬ Avd c [] (AM A (μ.put p ds)) [] [] b ∧ upd H p (.lst vs) b = some o := fun b o n e => by
    have ne : b ≠ p := fun z => by rw [z, hp] at e; cases e
    refine ⟨fun z => n ?_, by rw [upd_ne ne]; exact e⟩
    rw [eA] at z
    rcases z with z | z | ⟨_, _, h, _⟩
    · rcases z with z | z
      · exact .inl z
      · exact absurd z ne
    · exact .inr (.inl z)
    · cases h
  refine ⟨s.k, s.t.trans u, by rw [eA]; exact E', fun a es e => ?_, fun a e => ?_⟩
  · by_cases q : a = p
    · subst q
      rw [Mem.put_at] at e
      cases e
      refine ⟨vs, hz, upd_same, ?_⟩
      rw [avd0 (σ' := ([] : L2.St)) (ρ' := ([] : PEnv))] at r
      exact RepL.mv rfl (fun _ _ z => z) m _ _ r
    · rw [Mem.put_ne μ ds q] at e
      obtain ⟨ws, h1, h2, h3⟩ := s.M.at_ a es e
      exact ⟨ws, h1, by rw [upd_ne q]; exact h2, RepL.mv rfl (fun _ _ z => z) m _ _ h3⟩
  · by_cases q : a = p
    · subst q
      exact ⟨nS, nA, s.t.fresh hp⟩
    · rw [Mem.put_ne μ ds q] at e
      exact s.M.ns a e
theorem StM.frz (s : StM K A c0 H0 c σ ρ μ H) {i : Nat} {l : Addr} {ds : List D} (hi : ρ[i]? = some (some (.ref l))) (hl : μ l = some ds) : StM K A c0 H0 c σ (ρ.set i (some (.lst ds))) (μ.del l) H := by
  obtain ⟨vs, z1, z2, z3⟩ := s.M.at_ l ds hl
  obtain ⟨nS, nA, h0⟩ := s.M.ns l (by rw [hl]; exact fun z => nomatch z)
  have sub : ∀ b, AM A (μ.del l) b → AM A μ b := fun b z => by
    rcases z with z | z
    · exact .inl z
    · refine .inr fun q => z ?_
      by_cases e : b = l
      · rw [e, Mem.del_at]
      · rw [Mem.del_ne μ e]; exact q
  have nl : ¬ AM A (μ.del l) l := fun z => by
    rcases z with z | z
    · exact nA z
    · exact z (Mem.del_at μ l)
  have m : ∀ b o, ¬ Avd c [] (AM A μ) [] [] b → H b = some o → ¬ Avd c [] (AM A (μ.del l)) [] [] b ∧ H b = some o := fun b o n e => ⟨fun z => n (by
    rcases z with z | z | ⟨_, _, h, _⟩
    · exact .inl (sub b z)
    · exact .inr (.inl z)
    · cases h), e⟩
  have rl : Rep c (Avd c [] (AM A (μ.del l)) [] []) H (.ref l) (.lst ds) := OwnR.rep (Av := Avd c [] (AM A (μ.del l)) [] []) (fun z => by
    rcases z with z | z | ⟨_, _, h, _⟩
    · exact nl z
    · exact nS z
    · cases h) (fun _ z => z) (.lst z1 z2 (RepL.mv rfl (fun _ _ z => z) m _ _ z3))
  refine ⟨s.k, s.t, ⟨s.E.fok, by rw [List.length_set]; exact s.E.len, fun a h => s.E.avA a (sub a h), fun j d h hj => ?_, fun j d h hj => (by cases hj), fun j k a d e hj => (by cases hj)⟩, fun a es e => ?_, fun a e => ?_⟩
  · by_cases q : i = j
    · subst q
      obtain ⟨v, h1, h2⟩ := s.E.slot i _ hi (by simp)
      rw [List.getElem?_set_self (List.getElem?_eq_some_iff.mp hi).1] at h
      cases h
      cases h2
      refine ⟨_, h1, ?_⟩
      rw [avd0 (σ' := ([] : L2.St)) (ρ' := ([] : PEnv))]
      exact rl
    · rw [List.getElem?_set_ne q] at h
      obtain ⟨v, h1, h2⟩ := s.E.slot j d h hj
      refine ⟨v, h1, ?_⟩
      rw [avd0 (σ' := ([] : L2.St)) (ρ' := ([] : PEnv))] at h2 ⊢
      exact Rep.mv rfl (fun _ _ z => z) m _ _ h2
  · have ne : a ≠ l := fun z => by rw [z, Mem.del_at] at e; cases e
    rw [Mem.del_ne μ ne] at e
    obtain ⟨ws, h1, h2, h3⟩ := s.M.at_ a es e
    exact ⟨ws, h1, h2, RepL.mv rfl (fun _ _ z => z) m _ _ h3⟩
  · have ne : a ≠ l := fun z => e (by rw [z, Mem.del_at])
    rw [Mem.del_ne μ ne] at e
    exact s.M.ns a e
end
end DL

set_option Elab.async false
set_option linter.all false
set_option maxRecDepth 100000
set_option maxHeartbeats 4000000
namespace DL
open PySem PySem.Spec PyProof.Rows L2
variable [TabsOf]
structure MEnds where
  nx : PEnv → Mem → Prop
  rt : D → Prop
  bk : PEnv → Mem → Prop
  ct : PEnv → Mem → Prop
abbrev TMS := MEnds → PEnv → Mem → Prop
abbrev TME := PEnv → Mem → (D → Mem → Prop) → Prop
def NxtM (K : PySem.W.Frag) (A : Addr → Prop) (c0 : Cfg) (H0 : Hp) (P : PEnv → Mem → Prop) (Q : L2.St → Hp → Prop) : Prop := ∀ c' σ' ρ' μ' H', StM K A c0 H0 c' σ' ρ' μ' H' → P ρ' μ' → Q σ' H'
structure MEndsOk (K : PySem.W.Frag) (A : Addr → Prop) (c0 : Cfg) (H0 : Hp) (DD : MEnds) (Dn : Ends) : Prop where
  nx : NxtM K A c0 H0 DD.nx Dn.nx
  rt : Rtn K .strong c0 H0 A DD.rt Dn.rt
  bk : NxtM K A c0 H0 DD.bk Dn.bk
  ct : NxtM K A c0 H0 DD.ct Dn.ct
section
variable {X : Cx} {st : Stmt} {b : List Stmt} {p q : TMS} {pe : TED} {pm : TME} {pt : TTD} {e : Expr} {pos : Pos}
def mOf (p : TSD) : TMS := fun DD ρ μ => p ⟨fun ρ' => DD.nx ρ' μ, DD.rt, fun ρ' => DD.bk ρ' μ, fun ρ' => DD.ct ρ' μ⟩ ρ
def sOfM (p : TMS) : TSD := fun DD ρ => p ⟨fun ρ' _ => DD.nx ρ', DD.rt, fun ρ' _ => DD.bk ρ', fun ρ' _ => DD.ct ρ'⟩ ρ fun _ => none
theorem am_none {A : Addr → Prop} : AM A (fun _ => none) = A := by
  funext a
  exact propext ⟨fun z => z.elim id fun z => absurd rfl z, fun z => .inl z⟩
def mSeq (p q : TMS) : TMS := fun DD ρ μ => p { DD with nx := q DD } ρ μ
def mNext : TMS := fun DD ρ μ => DD.nx ρ μ
def mCnt : TMS := fun DD ρ μ => DD.ct ρ μ
def mIf (pt : TTD) (p q : TMS) : TMS := fun DD ρ μ => pt ρ fun b => if b = true then p DD ρ μ else q DD ρ μ
def TMT := PEnv → Mem → (Bool → Prop) → Prop
def mIfM (pt : TMT) (p q : TMS) : TMS := fun DD ρ μ => pt ρ μ fun b => if b = true then p DD ρ μ else q DD ρ μ
def mFrz (i : Nat) (p : TMS) : TMS := fun DD ρ μ => ∃ l ds, ρ[i]? = some (some (.ref l)) ∧ μ l = some ds ∧ p DD (ρ.set i (some (.lst ds))) (μ.del l)
def meOf (pe : TED) : TME := fun ρ μ R => pe ρ fun d => R d μ
def mNew1 (pm : TME) : TME := fun ρ μ R => pm ρ μ fun d μ' => ∀ w, μ' w = none → R (.ref w) (μ'.put w [d])
theorem StM.fresh {K : PySem.W.Frag} {A : Addr → Prop} {c0 c : Cfg} {H0 H : Hp} {σ : L2.St} {ρ : PEnv} {μ : Mem} (s : StM K A c0 H0 c σ ρ μ H) {p : Addr} (hp : H p = none) : μ p = none := by
  cases q : μ p with
  | none => rfl
  | some es =>
    obtain ⟨_, _, h2, _⟩ := s.M.at_ p es q
    rw [hp] at h2; cases h2
def mPair0 (pe : TED) : TME := fun ρ μ R => pe ρ fun d => ∀ l, μ l = none → R (.tup [d, .ref l]) (μ.put l [])
def mSet (i : Nat) (pm : TME) : TMS := fun DD ρ μ => pm ρ μ fun d μ' => DD.nx (ρ.set i (some d)) μ'
def mAsg (pm : TME) (gd : TGD) : TMS := fun DD ρ μ => pm ρ μ fun d μ' => gd d ρ fun ρ' => DD.nx ρ' μ'
def mApp (i : Nat) (pm : TME) : TMS := fun DD ρ μ => ∃ w, ρ[i]? = some (some (.ref w)) ∧ μ w ≠ none ∧ pm ρ μ fun d μ' => ∃ ds, μ' w = some ds ∧ ds.length < sizeLine ∧ DD.nx ρ (μ'.put w (ds ++ [d]))
def mPop (i : Nat) : TMS := fun DD ρ μ => ∃ w ds, ρ[i]? = some (some (.ref w)) ∧ μ w = some ds ∧ ds ≠ [] ∧ DD.nx ρ (μ.put w ds.dropLast)
end
end DL

set_option Elab.async false
set_option linter.all false
set_option maxRecDepth 100000
set_option maxHeartbeats 4000000
namespace DL
open PySem PySem.Spec PyProof.Rows L2
variable [TabsOf]
mutual
inductive ResD (μ : Mem) : D → D → Prop
  | self (d : D) : ResD μ d d
  | ref {l : Addr} {ds es : List D} : μ l = some ds → ResL μ ds es → ResD μ (.ref l) (.lst es)
  | tup {ds es : List D} : ResL μ ds es → ResD μ (.tup ds) (.tup es)
inductive ResL (μ : Mem) : List D → List D → Prop
  | nil : ResL μ [] []
  | cons {d e : D} {ds es : List D} : ResD μ d e → ResL μ ds es → ResL μ (d :: ds) (e :: es)
end
section
variable {c : Cfg} {A : Addr → Prop} {μ : Mem} {H H0 : Hp}
theorem avd_less {b : Addr} (z : Avd c [] A [] [] b) : Avd c [] (AM A μ) [] [] b := by
  rcases z with z | z | ⟨_, _, h, _⟩
  · exact .inl (.inl z)
  · exact .inr (.inl z)
  · cases h
mutual
theorem res_rep (M : MemR c A μ H H0) : ∀ {d d' : D} {v : V}, ResD μ d d' → Rep c (Avd c [] (AM A μ) [] []) H v d → Rep c (Avd c [] A [] []) H v d'
  | _, _, _, .self d, r => Rep.mv rfl (fun _ _ z => z) (fun b o n e => ⟨fun z => n (avd_less z), e⟩) _ _ r
  | _, _, _, .ref (l := l) h hl, r => by
    cases r
    obtain ⟨vs, z1, z2, z3⟩ := M.at_ l _ h
    obtain ⟨nS, nA, _⟩ := M.ns l (by rw [h]; exact fun z => nomatch z)
    exact OwnR.rep (Av := Avd c [] A [] []) (fun z => by
      rcases z with z | z | ⟨_, _, h, _⟩
      · exact nA z
      · exact nS z
      · cases h) (fun _ z => z) (.lst z1 z2 (resL_rep M hl z3))
  | _, _, _, .tup hl, r => by
    cases r with
    | tup n rl => exact .tup ⟨n.1, fun z => n.2.1 (avd_less z), n.2.2⟩ (resL_rep M hl rl)
theorem resL_rep (M : MemR c A μ H H0) : ∀ {ds es : List D} {vs : List V}, ResL μ ds es → RepL c (Avd c [] (AM A μ) [] []) H vs ds → RepL c (Avd c [] A [] []) H vs es
  | _, _, _, .nil, r => by cases r; exact .nil
  | _, _, _, .cons h hl, r => by
    cases r with
    | cons r1 r2 => exact .cons (res_rep M h r1) (resL_rep M hl r2)
end
end
def ResE (μ : Mem) (ρ ρ' : PEnv) : Prop := ρ'.length = ρ.length ∧ ∀ (i : Nat) (d' : D), ρ'[i]? = some (some d') → ∃ d : D, ρ[i]? = some (some d) ∧ ResD μ d d'
theorem StM.all {K : PySem.W.Frag} {A : Addr → Prop} {c0 c : Cfg} {H0 H : Hp} {σ : L2.St} {ρ ρ' : PEnv} {μ : Mem} (s : StM K A c0 H0 c σ ρ μ H) (h : ResE μ ρ ρ') : EnvR c [] A σ ρ' H := by
  refine ⟨s.E.fok, by rw [h.1]; exact s.E.len, fun a z => s.E.avA a (.inl z), fun i d e hi => ?_, fun i d h hi => (by cases hi), fun i j a d e hi => (by cases hi)⟩
  obtain ⟨d0, h1, h2⟩ := h.2 i d e
  obtain ⟨v, h3, h4⟩ := s.E.slot i d0 h1 hi
  rw [avd0 (σ' := ([] : L2.St)) (ρ' := ([] : PEnv))] at h4 ⊢
  exact ⟨v, h3, res_rep s.M h2 h4⟩
section
variable {X : Cx} {st : Stmt} {b : List Stmt} {p q : TMS} {pe : TED} {pm : TME} {pt : TTD} {e : Expr} {pos : Pos}
def mAll (p : TMS) : TMS := fun DD ρ μ => ∃ ρ', ResE μ ρ ρ' ∧ p DD ρ' fun _ => none
theorem StM.none {K : PySem.W.Frag} {A : Addr → Prop} {c0 c : Cfg} {H0 H : Hp} {σ : L2.St} {ρ ρ' : PEnv} {μ : Mem} (s : StM K A c0 H0 c σ ρ μ H) (h : ResE μ ρ ρ') : StM K A c0 H0 c σ ρ' (fun _ => .none) H :=
  ⟨s.k, s.t, by rw [am_none]; exact s.all h, ⟨fun a ds e => (nomatch e), fun a e => absurd rfl e⟩⟩
def tSee (pt : TTD) : TMT := fun ρ μ R => ∃ ρ', ResE μ ρ ρ' ∧ pt ρ' R
def mAt (i : Nat) (pk : TED) : TME := fun ρ μ R => ∃ w ds, ρ[i]? = some (some (.ref w)) ∧ μ w = some ds ∧ pk ρ fun k => dInt k fun k => ∃ d, L2.atI ds k = some d ∧ R d μ
end
end DL

set_option Elab.async false
set_option linter.all false
set_option maxRecDepth 100000
set_option maxHeartbeats 4000000
namespace DL
open PySem PySem.Spec PyProof.Rows L2
variable [TabsOf]
open Classical in
def forRM (tg : TGD) (body : TMS) (DD : MEnds) : List D → PEnv → Mem → Prop
  | [], ρ, μ => DD.nx ρ μ
  | d :: ds, ρ, μ => tg d ρ fun ρ1 => body { DD with nx := forRM tg body DD ds, ct := forRM tg body DD ds, bk := DD.nx } ρ1 μ
def mFor (src : TAD) (tg : TGD) (body : TMS) : TMS := fun DD ρ μ => src ρ fun ds => forRM tg body DD ds ρ μ
end DL

set_option Elab.async false
set_option linter.all false
set_option maxRecDepth 100000
set_option maxHeartbeats 4000000
namespace DL
open PySem PySem.Spec PyProof.Rows L2
variable {DD : MEnds} {ρ : PEnv} {μ : Mem} {p q : TMS} {pe pk : TED} {pm : TME} {pt : TTD} {i : Nat} {R : D → Mem → Prop} {S : Bool → Prop}
theorem x_sOfM {DD : DEnds} : sOfM p DD ρ = p ⟨fun ρ' _ => DD.nx ρ', DD.rt, fun ρ' _ => DD.bk ρ', fun ρ' _ => DD.ct ρ'⟩ ρ (fun _ => none) := rfl
theorem x_mSeq : mSeq p q DD ρ μ = p { DD with nx := q DD } ρ μ := rfl
theorem x_mNext : mNext DD ρ μ = DD.nx ρ μ := rfl
theorem x_mCnt : mCnt DD ρ μ = DD.ct ρ μ := rfl
theorem x_mIf : mIf pt p q DD ρ μ = pt ρ fun b => if b = true then p DD ρ μ else q DD ρ μ := rfl
theorem x_mIfM {pt : TMT} : mIfM pt p q DD ρ μ = pt ρ μ fun b => if b = true then p DD ρ μ else q DD ρ μ := rfl
theorem x_tSee : tSee pt ρ μ S = ∃ ρ', ResE μ ρ ρ' ∧ pt ρ' S := rfl
theorem x_mFrz : mFrz i p DD ρ μ = ∃ l ds, ρ[i]? = some (some (.ref l)) ∧ μ l = some ds ∧ p DD (ρ.set i (some (.lst ds))) (μ.del l) := rfl
theorem x_meOf : meOf pe ρ μ R = pe ρ fun d => R d μ := rfl
theorem x_mNew1 : mNew1 pm ρ μ R = pm ρ μ fun d μ' => ∀ w, μ' w = none → R (.ref w) (μ'.put w [d]) := rfl
theorem x_mPair0 : mPair0 pe ρ μ R = pe ρ fun d => ∀ l, μ l = none → R (.tup [d, .ref l]) (μ.put l []) := rfl
theorem x_mSet : mSet i pm DD ρ μ = pm ρ μ fun d μ' => DD.nx (ρ.set i (some d)) μ' := rfl
theorem x_mAsg {gd : TGD} : mAsg pm gd DD ρ μ = pm ρ μ fun d μ' => gd d ρ fun ρ' => DD.nx ρ' μ' := rfl
theorem x_mApp : mApp i pm DD ρ μ = ∃ w, ρ[i]? = some (some (.ref w)) ∧ μ w ≠ none ∧ pm ρ μ fun d μ' => ∃ ds, μ' w = some ds ∧ ds.length < sizeLine ∧ DD.nx ρ (μ'.put w (ds ++ [d])) := rfl
theorem x_mPop : mPop i DD ρ μ = ∃ w ds, ρ[i]? = some (some (.ref w)) ∧ μ w = some ds ∧ ds ≠ [] ∧ DD.nx ρ (μ.put w ds.dropLast) := rfl
theorem x_mAt : mAt i pk ρ μ R = ∃ w ds, ρ[i]? = some (some (.ref w)) ∧ μ w = some ds ∧ pk ρ fun k => dInt k fun k => ∃ d, L2.atI ds k = some d ∧ R d μ := rfl
theorem x_mAll : mAll p DD ρ μ = ∃ ρ', ResE μ ρ ρ' ∧ p DD ρ' fun _ => none := rfl
theorem x_mFor {src : TAD} {tg : TGD} {body : TMS} : mFor src tg body DD ρ μ = src ρ fun ds => forRM tg body DD ds ρ μ := rfl
theorem x_mOf {p : TSD} : mOf p DD ρ μ = p ⟨fun ρ' => DD.nx ρ' μ, DD.rt, fun ρ' => DD.bk ρ' μ, fun ρ' => DD.ct ρ' μ⟩ ρ := rfl
end DL

set_option Elab.async false
set_option linter.all false
set_option maxRecDepth 100000
set_option maxHeartbeats 4000000
namespace DL
open PySem PySem.Spec PyProof.Rows L2
variable [TabsOf]
def dInP (x y : D) (R : D → Prop) : Prop := match y with
  | .stp ds => (okD 60 x = true ∧ okD.okDs 59 ds = true) ∧ R (.bl (ds.any fun z => eqD z x))
  | _ => False
theorem x_inP {x : D} {ds : List D} {R : D → Prop} : dInP x (.stp ds) R = ((okD 60 x = true ∧ okD.okDs 59 ds = true) ∧ R (.bl (ds.any fun z => eqD z x))) := propext Iff.rfl
end DL

set_option Elab.async false
set_option linter.all false
set_option maxRecDepth 100000
set_option maxHeartbeats 4000000
namespace DL
open PySem PySem.Spec PyProof.Rows L2 DLZ
variable [TabsOf]
def dEnumS (x : D) (R : List D → Prop) : Prop := strOf x fun a => R (enumD (sgns a))
def sEnumS (pa : TAD) : TAD := fun ρ R => pa ρ fun ds => oneD ds fun x => dEnumS x R
theorem x_sEnumS {pa : TAD} {ρ : PEnv} {R : List D → Prop} : sEnumS pa ρ R = pa ρ fun ds => oneD ds fun x => dEnumS x R := propext Iff.rfl
theorem x_enS {a : Str} {R : List D → Prop} : dEnumS (.str a) R = R (enumD (sgns a)) := propext Iff.rfl
end DL

set_option Elab.async false
set_option linter.all false
set_option maxRecDepth 100000
set_option maxHeartbeats 4000000

set_option Elab.async false
set_option linter.all false
set_option maxRecDepth 100000
set_option maxHeartbeats 4000000

set_option Elab.async false
set_option linter.all false
set_option maxRecDepth 100000
set_option maxHeartbeats 4000000

set_option Elab.async false
set_option linter.all false
set_option maxRecDepth 100000
set_option maxHeartbeats 4000000
namespace DL
open PySem PySem.Spec PyProof.Rows L2
variable [TabsOf]
section
variable {X : Cx}
def PlA (K : PySem.W.Frag) (H : Hp) (a : Addr) (zs : List V) : Prop := (∃ (o : Obj) (its : Array Value) (n : Nat), K.lookup a = some o ∧ o.cls = .type "tuple" ∧ o.dict = none ∧ o.data = .seq its n ∧ its.size ≤ sizeLine ∧ Vals zs its.toList) ∨ (∃ o, PlO o ∧ H a = some (.frz o (.tup zs)))
end
section
variable {c : Cfg} {own : List Nat} {A : Addr → Prop} {σ : L2.St} {ρ : PEnv} {H : Hp} {v : V} {ds : List D}
theorem PlT.a {Av : Addr → Prop} {a : Addr} {zs : List V} (h : PlT c Av H a zs) : PlA c.K H a zs := by
  rcases h with h | ⟨_, _, o, po, h⟩
  · exact .inl h
  · exact .inr ⟨o, po, h⟩
theorem PlT.len {Av : Addr → Prop} {a : Addr} {zs : List V} (h : PlT c Av H a zs) : zs.length ≤ sizeLine := by
  rcases h with ⟨o, its, n, _, _, _, _, h5, h6⟩ | ⟨_, h, _⟩
  · rw [h6.length]; simpa using h5
  · exact h
end
def dTupleP (xs : List D) (R : D → Prop) : Prop := dOne xs fun x => match x with | .lst es => R (.stp es) | _ => False
def dSlP (x : D) (lo hi : Option Int) (R : D → Prop) : Prop := match x with | .stp ds => R (.stp (cutD ds lo hi)) | _ => False
section
variable {X : Cx} {own : List Nat}
def pNilP : TED := fun _ R => R (.stp [])
end
def dSumP (x y : D) (R : D → Prop) : Prop := match x, y with | .stp a, .tup b => a ≠ [] ∧ b ≠ [] ∧ a.length + b.length ≤ sizeLine ∧ R (.stp (a ++ b)) | _, _ => False
def dDictP (xs : List D) (R : D → Prop) : Prop := oneD xs fun x => ∃ ps : List (Key × D), x = .stp (ps.map fun p => .tup [keyD p.1, p.2]) ∧ R (.dK (foldD ps).1 (foldD ps).2)
theorem x_tupP {es : List D} {R : D → Prop} : dTupleP [.lst es] R = R (.stp es) := propext Iff.rfl
theorem x_slP {ds : List D} {lo hi : Option Int} {R : D → Prop} : dSlP (.stp ds) lo hi R = R (.stp (cutD ds lo hi)) := propext Iff.rfl
theorem x_nilP {ρ : PEnv} {R : D → Prop} : pNilP ρ R = R (.stp []) := propext Iff.rfl
theorem x_sumP {a b : List D} {R : D → Prop} : dSumP (.stp a) (.tup b) R = (a ≠ [] ∧ b ≠ [] ∧ a.length + b.length ≤ sizeLine ∧ R (.stp (a ++ b))) := propext Iff.rfl
theorem x_dictP {x : D} {R : D → Prop} : dDictP [x] R = ∃ ps : List (Key × D), x = .stp (ps.map fun p => .tup [keyD p.1, p.2]) ∧ R (.dK (foldD ps).1 (foldD ps).2) := propext Iff.rfl
end DL

set_option Elab.async false
set_option linter.all false
set_option maxRecDepth 100000
set_option maxHeartbeats 4000000
namespace DL
open PySem PySem.Spec PyProof.Rows L2
variable [TabsOf]
structure DefXN (P : Program) (w : World) (K : PySem.W.Frag) (mg : Str → Option Value) (base : Heap) (x : Str) (k n : Nat) (ko : Kd) (g : List D → (D → Prop) → (XC → D → Prop) → Prop) : Prop where
  ex : ∃ (f : Addr) (fd : FuncData) (ps : List Str) (ds : List Value), FnOk P w K mg base (L2N.CX P w) k f fd ps (spX K (n + 1) ko g) ∧ mg x = some (.ref f) ∧ PySem.W.keepIn K (.ref f) = true ∧ Binds K fd ps [] ∧ Binds K fd ps ds ∧ Vals [.non] ds
end DL

set_option Elab.async false
set_option linter.all false
set_option maxRecDepth 100000
set_option maxHeartbeats 4000000
namespace DL
open PySem PySem.Spec PyProof.Rows L2
variable [TabsOf]
def pCallXN (w : List D → (D → Prop) → (XC → D → Prop) → Prop) (pa : TAD) : TRD := fun ρ R RX => pa ρ fun ds => w (ds ++ [.non]) R RX
theorem x_callXN {w : List D → (D → Prop) → (XC → D → Prop) → Prop} {a : TAD} {ρ : PEnv} {R : D → Prop} {RX : XC → D → Prop} : pCallXN w a ρ R RX = a ρ fun ds => w (ds ++ [.non]) R RX := propext Iff.rfl
end DL

set_option Elab.async false
set_option linter.all false
set_option maxRecDepth 100000
set_option maxHeartbeats 4000000
namespace DL
open PySem PySem.Spec PyProof.Rows L2
variable [TabsOf]
def dTxt (x : D) (f : Str → Prop) : Prop := match x with | .str s => f s | _ => False
def pGet2 (s1 s2 : Str) (p1 p2 pw pd : TED) : TED := fun ρ R => p1 ρ fun a => dInt a fun i => p2 ρ fun b => dInt b fun j => pw ρ fun w => dTxt w fun s => pd ρ fun d => R (if s = s1 then .int i else if s = s2 then .int j else d)
theorem x_get2 {s1 s2 : Str} {p1 p2 pw pd : TED} {ρ : PEnv} {R : D → Prop} : pGet2 s1 s2 p1 p2 pw pd ρ R = p1 ρ fun a => dInt a fun i => p2 ρ fun b => dInt b fun j => pw ρ fun w => dTxt w fun s => pd ρ fun d => R (if s = s1 then .int i else if s = s2 then .int j else d) := propext Iff.rfl
theorem x_dTxt {s : Str} {f : Str → Prop} : dTxt (.str s) f = f s := propext Iff.rfl
end DL

set_option Elab.async false
set_option linter.all false
set_option maxRecDepth 100000
set_option maxHeartbeats 4000000
namespace DL
open PySem PySem.Spec PyProof.Rows L2
variable [TabsOf]
def dListP (xs : List D) (R : D → Prop) : Prop := oneD xs fun x => match x with
  | .stp ds => ds.length ≤ sizeLine ∧ R (.lst ds)
  | _ => False
def dLenP (xs : List D) (R : D → Prop) : Prop := dOne xs fun x => match x with
  | .stp ds => R (.int ds.length)
  | _ => False
theorem x_lenP {ds : List D} {R : D → Prop} : dLenP [.stp ds] R = R (.int ds.length) := propext Iff.rfl
theorem x_liP {ds : List D} {R : D → Prop} : dListP [.stp ds] R = (ds.length ≤ sizeLine ∧ R (.lst ds)) := propext Iff.rfl
end DL

set_option Elab.async false
set_option linter.all false
set_option maxRecDepth 100000
set_option maxHeartbeats 4000000
namespace DL
open PySem PySem.Spec PyProof.Rows L2 LamX NdefX DLK DLL
variable [TabsOf]
structure LKind where
  q : Str
  ps : Arguments
  b : Expr
  sc : Scope
  fr : List Str
  prm : Str
  N : List Str
def LKind.at_ (κ : LKind) (i : Site) : Prop := IsAt i κ.q κ.ps κ.b κ.sc κ.fr
def HoldsA (κs : List LKind) (b : Heap) (ss : List Site) : Prop := ∀ i ∈ ss, ∀ κ ∈ κs, i.q = κ.q → κ.at_ i ∧ CellsAt i.cl κ.fr (i.vs.map some) b (fun _ => none)
theorem HoldsA.nil {κs : List LKind} {b : Heap} : HoldsA κs b [] := fun _ h => nomatch h
section
variable {cl : List (Str × Addr)} {fr : List Str} {ws : List (Option V)} {b b' : Heap}
theorem isCell_up {c : Addr} {v : Option Value} (h : ∀ c o, b.get? c = some o → b'.get? c = some o) (z : b.IsCell c v) : b'.IsCell c v := by
  obtain ⟨o, e, d⟩ := z
  exact ⟨o, h c o e, d⟩
theorem cells_up (C : CellsAt cl fr ws b (fun _ => none)) (h : ∀ c o, b.get? c = some o → b'.get? c = some o) : CellsAt cl fr ws b' (fun _ => none) :=
  ⟨C.len, fun y c e => ⟨rfl, (C.all y c e).2.imp fun v z => isCell_up h z⟩, C.inj, fun i y hi => by
    obtain ⟨c, e, hv⟩ := C.has i y hi
    exact ⟨c, e, fun v hw => by
      obtain ⟨u, ru, z⟩ := hv v hw
      exact ⟨u, ru, isCell_up h z⟩⟩⟩
end
theorem HoldsA.up {κs : List LKind} {b b' : Heap} {ss : List Site} (hB : HoldsA κs b ss) (h : ∀ c o, b.get? c = some o → b'.get? c = some o) : HoldsA κs b' ss := fun i hi κ hκ e => ⟨(hB i hi κ hκ e).1, cells_up (hB i hi κ hκ e).2 h⟩
structure SiteAt (P : Program) (w : World) (K : PySem.W.Frag) (mg : Str → Option Value) (base : Heap) (k : Nat) (κ : LKind) (pb : TED) : Prop where
  S : NScope κ.N [κ.prm] κ.fr κ.sc
  bd : ∀ (cl : List (Str × Addr)) (c' : Addr) (pm ctv u : Value), bindArgs (PySem.W.kla_fn "<lambda>" κ.q κ.ps κ.b κ.sc cl pm (.ref c') ctv) ⟨[u], []⟩ = pure [(κ.prm, u)]
  len : 1 + κ.fr.length ≤ κ.N.length
  body : ∀ (cl : List (Str × Addr)) (c' f : Addr) (A : Around) (outer : List Env) (s : Shared) (H : Hp), Room k (A.deeper (envF (LF κ.q κ.ps κ.sc cl c') f s.heap.objs.size)) → PE (ncx L2.CX0 P w K mg base κ.N (LF κ.q κ.ps κ.sc cl c') f A outer s H (fun _ _ _ => False)) κ.b (lift K [] .strong pb)
def pAsk (ss : List Site) (j : Nat) (q0 q1 : Str) (n0 n1 : Nat) (pb0 pb1 px : TED) : TED := fun ρ R => ∃ i es, i ∈ ss ∧ ρ[j]? = some (some (.lam i es)) ∧ ((i.q = q0 ∧ px ρ fun d => lamW n0 pb0 (d :: es) R) ∨ (i.q = q1 ∧ px ρ fun d => lamW n1 pb1 (d :: es) R))
def pCallL3 (g : Site → List D → (D → Prop) → Prop) (q : Str) (js : List Nat) (p1 p2 p3 : TED) : TED := fun ρ R => p1 ρ fun d1 => p2 ρ fun d2 => p3 ρ fun d3 => ∃ es : List D, js.map (fun j => ρ[j]?) = es.map (fun e => some (some e)) ∧ ∀ i : Site, i.q = q → g i [d1, d2, d3, .lam i es] R
theorem x_pAsk {ss : List Site} {j : Nat} {q0 q1 : Str} {n0 n1 : Nat} {pb0 pb1 px : TED} {ρ : PEnv} {R : D → Prop} : pAsk ss j q0 q1 n0 n1 pb0 pb1 px ρ R = ∃ i es, i ∈ ss ∧ ρ[j]? = some (some (.lam i es)) ∧ ((i.q = q0 ∧ px ρ fun d => lamW n0 pb0 (d :: es) R) ∨ (i.q = q1 ∧ px ρ fun d => lamW n1 pb1 (d :: es) R)) := propext Iff.rfl
theorem x_pCallL3 {g : Site → List D → (D → Prop) → Prop} {q : Str} {js : List Nat} {p1 p2 p3 : TED} {ρ : PEnv} {R : D → Prop} : pCallL3 g q js p1 p2 p3 ρ R = p1 ρ fun d1 => p2 ρ fun d2 => p3 ρ fun d3 => ∃ es : List D, js.map (fun j => ρ[j]?) = es.map (fun e => some (some e)) ∧ ∀ i : Site, i.q = q → g i [d1, d2, d3, .lam i es] R := propext Iff.rfl
end DL

set_option Elab.async false
set_option linter.all false
set_option maxRecDepth 100000
set_option maxHeartbeats 4000000
namespace DL
open PySem PySem.Spec PyProof.Rows L2
variable [TabsOf]
def pGetI (s1 s2 : Str) (p1 p2 pw pd : TED) : TED := fun ρ R => p1 ρ fun a => dInt a fun i => p2 ρ fun b => dInt b fun j => i ≠ j ∧ pw ρ fun w => dInt w fun k => pd ρ fun d => R (if k = i then .str s1 else if k = j then .str s2 else d)
theorem x_getI {s1 s2 : Str} {p1 p2 pw pd : TED} {ρ : PEnv} {R : D → Prop} : pGetI s1 s2 p1 p2 pw pd ρ R = p1 ρ fun a => dInt a fun i => p2 ρ fun b => dInt b fun j => i ≠ j ∧ pw ρ fun w => dInt w fun k => pd ρ fun d => R (if k = i then .str s1 else if k = j then .str s2 else d) := propext Iff.rfl
end DL

set_option Elab.async false
set_option linter.all false
set_option maxRecDepth 100000
set_option maxHeartbeats 4000000
namespace DL
open PySem PySem.Spec PyProof.Rows L2
variable [TabsOf]
section
variable {X : Cx} {own : List Nat} {fr : Bool} {ko : Kd} {pk : TED}
def sPopAt (i : Nat) (pk : TED) : TSD := fun DD ρ => ownL ρ i fun ds => pk ρ fun k => dInt k fun k => (0 ≤ k ∧ k < ds.length ∧ k < 2 ^ 63) ∧ DD.nx (ρ.set i (some (.lst (ds.eraseIdx k.toNat))))
end
theorem x_popAt {i : Nat} {pk : TED} {DD : DEnds} {ρ : PEnv} : sPopAt i pk DD ρ = ownL ρ i fun ds => pk ρ fun k => dInt k fun k => (0 ≤ k ∧ k < ds.length ∧ k < 2 ^ 63) ∧ DD.nx (ρ.set i (some (.lst (ds.eraseIdx k.toNat)))) := propext Iff.rfl
end DL

set_option Elab.async false
set_option linter.all false
set_option maxRecDepth 100000
set_option maxHeartbeats 4000000
namespace DL
open PySem PySem.Spec PyProof.Rows L2
variable [TabsOf]
section
variable {X : Cx} {own : List Nat}
def pTupP (pa : TAD) : TED := fun ρ R => pa ρ fun ds => R (.stp ds)
end
theorem x_tupDP {pa : TAD} {ρ : PEnv} {R : D → Prop} : pTupP pa ρ R = pa ρ fun ds => R (.stp ds) := propext Iff.rfl
end DL

set_option Elab.async false
set_option linter.all false
set_option maxRecDepth 100000
set_option maxHeartbeats 4000000
namespace DLX
open PySem PySem.Spec PyProof.Rows L2
def tMkO0 (C : Addr) (sp : Sp) : L2.St → Hp → XK → Prop := fun σ H Q => ∀ a, H a = none → sp [.ref a] (upd H a (exo a C none))
  (fun v H2 => v = .non ∧ H2 a = some (exo a C none) ∧ Q (.ref C) none (del H2 a)) (fun _ _ _ => False)
theorem mk_end00 {X : Cx} {pins : List (Addr × Obj)} {σ : L2.St} {H1 H2 : Hp} {hp hp2 h2 : Heap} {g1 g2 : Array GenState} {d1 d2 : Drawn} {t1 t2 : Nat} {os1 os2 : OsState} {a C : Addr} (I1 : Inv X pins σ H1 ⟨hp, g1, d1, t1, os1⟩)
    (ha : hp.objs.size ≤ a) (k : ∀ b o, hp.get? b = some o → hp2.get? b = some o) (un : Un (frs X.stack) [] (upd H1 a (exo a C none)) H2 hp2 h2) (hok : HOk X.prog X.w H2 h2) (ho : os2 = os1) (hb : AllBare g2)
    (ea : H2 a = some (exo a C none)) :
    ∃ (t0 : Addr) (G : Heap), Inv X pins σ (del H2 a) ⟨G, g2, d2, t2, os2⟩ ∧ (∀ b o, G.get? b = some o → h2.get? b = some o) ∧ G.get? a = none ∧
      h2.get? a = some ({ cls := .ref C, dict := none, data := .fields #[.ref t0, .none, .none, .none, .bool false, .none] } : Obj) ∧ (del H2 a) a = none := by
  obtain ⟨t0, hoe⟩ := exo_at hok ea
  have hn : H1 a = none := I1.hok.fresh ha
  obtain ⟨G, g1', g2'⟩ := restrict h2 fun b => decide (b ≠ a)
  have gk : ∀ b, b ≠ a → G.get? b = h2.get? b := fun b hb => g1' b (decide_eq_true hb)
  have ge : G.get? a = none := g2' a (by simp)
  have nha : ∀ {b : Addr} {o : Obj}, hp.get? b = some o → b ≠ a := fun {b o} z => Nat.ne_of_lt (Nat.lt_of_lt_of_le (Heap.lt_size z) ha)
  have up : ∀ {b : Addr}, b ≠ a → H1 b = none → upd H1 a (exo a C none) b = none := fun {b} hb n => by rw [upd_ne hb]; exact n
  have U : Un (frs X.stack) [] H1 (del H2 a) hp G := {
    keep := fun b o z n hf hx => by
      rw [gk b (nha z)]
      exact un.keep b o (k b o z) (up (nha z) n) hf hx
    slot := fun b o z n hf hx => by
      rw [gk b (nha z)]
      exact un.slot b o (k b o z) (up (nha z) n) hf hx
    free := fun b o z n hx => by
      rw [del_ne (nha z)]
      exact un.free b o (k b o z) (up (nha z) n) hx
    there := fun b o z hx => by
      rw [gk b (nha z)]
      exact un.there b o (k b o z) hx
    tups := fun b xs z => by
      rw [del_ne (ne_of_none z hn)]
      exact un.tups b xs (by rw [upd_ne (ne_of_none z hn)]; exact z)
    frzs := fun b o v z => by
      rw [del_ne (ne_of_none z hn)]
      exact un.frzs b o v (by rw [upd_ne (ne_of_none z hn)]; exact z)
    tbls := fun b ps z => by
      rw [del_ne (ne_of_none z hn)]
      exact un.tbls b ps (by rw [upd_ne (ne_of_none z hn)]; exact z) }
  have hok3 : HOk X.prog X.w (del H2 a) G := fun b o z => by
    have hba : b ≠ a := fun e => by
      rw [e, del_same] at z
      cases z
    rw [del_ne hba] at z
    have noa : ∀ {c : Addr}, H2 c = some (.own b) → c ≠ a := fun {c} hc => at_ne ea hc exo_own
    exact (hok b o z).stay (fun c v hc y => by
        have hca : c ≠ a := by
          rcases hc with hc | hc
          · rw [hc]
            exact hba
          · exact noa hc
        rw [gk c hca]
        exact y)
      (fun c hc => by rw [del_ne (noa hc)]; exact hc) (fun c xs hc => by rw [del_ne (at_ne ea hc exo_tup)]; exact hc)
  have J : Inv X pins σ (del H2 a) ⟨G, g2, d2, t2, os2⟩ := I1.call' (ch := []) ho U hok3 hb (fun b z => absurd z (by simp))
  refine ⟨t0, G, J, fun b o z => ?_, ge, hoe, del_same⟩
  by_cases hba : b = a
  · rw [hba, ge] at z
    cases z
  · exact (gk b hba).symm.trans z
section
variable {X : Cx} {p pos : Pos}
theorem pmk_oexN0 {CX : CXT} {x : Str} {C fI : Addr} {k : Nat} {fd : FuncData} {ps : List Str} {sp : Sp} (T : OexC X.K C) (iC : PySem.W.findIn X.K (.ref C) "__init__" = some (some (.ref fI))) (tI : PySem.W.typeIn X.K (.ref fI) = some (.type "function"))
    (F1 : FnOk X.prog X.w X.K X.mg X.base CX k fI fd ps sp) (hr : Room (k + 1) X.A) (hb : Binds X.K fd ps []) (hx : Passes CX X (fun _ _ _ => False)) (hg : Gl X x) (hm : X.mg x = some (.ref C))
    (hdb : (x == ("__debug__" : Str)) = false := by decide) :
    L2N.PMk X (.Call (.Name x p) [] [] pos) (tMkO0 C sp) := by
  intro pins s σ H Q I h
  obtain ⟨nm, q, N, bs, bm, sn, sub, ab, col, dd, k0, k1, k2, k3, k5, hC, hbm⟩ := T.cls
  refine wpAny_Call_Name_kw (ld_glob I hg hm ?_ hdb)
  refine PySem.W.callWith_K0 I.kIn T.kC ?_
  obtain ⟨hp, g, dr, tk, os⟩ := s
  have hsz : hp.objs.size ≤ hp.objs.size + 1 := Nat.le_succ _
  have hn : H (hp.objs.size + 1) = none := I.hok.fresh hsz
  have hq := h (hp.objs.size + 1) hn
  have kk : ∀ b o, hp.get? b = some o → ((hp.push (PySem.W.kdv_tup [])).push (PySem.HandSPX.excO C hp.objs.size)).get? b = some o := fun b o e => Heap.get?_push_of_some _ (Heap.get?_push_of_some _ e)
  have hget : ((hp.push (PySem.W.kdv_tup [])).push (PySem.HandSPX.excO C hp.objs.size)).get? (hp.objs.size + 1) = some (PySem.HandSPX.excO C hp.objs.size) := by heap_get
  have I2 : Inv X pins σ (upd H (hp.objs.size + 1) (exo (hp.objs.size + 1) C none)) ⟨(hp.push (PySem.W.kdv_tup [])).push (PySem.HandSPX.excO C hp.objs.size), g, dr, tk, os⟩ :=
    I.laid (t' := tk) (a := hp.objs.size + 1) (o := exo (hp.objs.size + 1) C none) (h' := (hp.push (PySem.W.kdv_tup [])).push (PySem.HandSPX.excO C hp.objs.size)) kk hsz (exo_ok hget)
  have r2 : Vals [V.ref (hp.objs.size + 1)] [Value.ref (hp.objs.size + 1)] := .cons rfl .nil
  have hl : ([Value.ref (hp.objs.size + 1)] ++ []).length = ps.length := (F1.len _ _ _ _ hq)
  have b2 := hb _ [Value.ref (hp.objs.size + 1)] I2.kIn hl
  rw [List.append_nil] at b2
  refine wpAny_call (PySem.HandSPX.call_own F.excBase_ValueError (fun Y => PySem.HandSPX.refsVE_contains Y bm hbm) (I.kIn _ _ hC) (PySem.W.looks_findIn I.kIn iC) (fun self => PySem.W.bind_fn I.kIn self tI) (Nat.zero_le _)
    (codeAny_mono (F1.run _ X.stack _ _ ⟨[Value.ref (hp.objs.size + 1)], []⟩ [Value.ref (hp.objs.size + 1)] _ _ (fun _ _ _ => False) (hr.make C [] []) (I2.env0.make C [] []) b2 r2 hq) fun r s' hq' => ?_))
  cases r with
  | error er => exact hx pins σ _ _ er s' I2 hq'
  | ok fl =>
    cases fl with
    | ret u =>
      obtain ⟨v, H2, os2, bare2, un2, hok2, rv, ev, ea, q2⟩ := hq'
      subst ev
      obtain ⟨h2, g2, d2, t2, os'⟩ := s'
      obtain ⟨t0, G, J, kG, ge, hoe, na⟩ := mk_end00 (d2 := d2) (t2 := t2) I hsz kk un2 hok2 os2 bare2 ea
      refine ⟨rv, ⟨hp.objs.size + 1, _, _, ⟨G, g2, d2, t2, os'⟩, _, .ref C, none, rfl, J, kG, ge, hoe, ⟨rfl, rfl, fun vs hv => ?_⟩, rfl, rfl, na, rfl, bare2, raises_own T.exC T.tyC, q2⟩⟩
      cases hv
      rfl
    | next => exact False.elim hq'
    | brk => exact False.elim hq'
    | cont => exact False.elim hq'
end
def spInit0 (C : Addr) : Sp := fun vs H Q _ => ∃ a, vs = [.ref a] ∧ H a = some (exo a C none) ∧ Q .non H
theorem init0_read {K : PySem.W.Frag} {C : Addr} {m : Str} {vs : List V} {H : Hp} {Q : VK} {E : XK} (T : OexC K C) (h : spInit0 C vs H Q E) :
    (tDrop (tVeI K (tCons (tVar 0) (tCons (tC (.str m)) tNil)))) { nx := fun _ H' => Q .non H', rt := Q } (L2.start ["self"] vs) H := by
  obtain ⟨a, rfl, ha, q⟩ := h
  exact ⟨_, rfl, ⟨a, C, _, rfl, Nat.le_of_ble_eq_true rfl, T, ha, q⟩⟩
end DLX
namespace DL
open PySem PySem.Spec PyProof.Rows L2 DLX
variable [TabsOf]
structure XCls0 (P : Program) (w : World) (K : PySem.W.Frag) (mg : Str → Option Value) (base : Heap) (n : XC) : Prop where
  ex : ∃ (C fI : Addr) (fd : FuncData) (ps : List Str), n.fld = none ∧ PySem.W.nsIn K mainGlobals n.nm = some (some (.ref C)) ∧ mg n.nm = some (.ref C) ∧ OexC K C ∧ PySem.W.findIn K (.ref C) "__init__" = some (some (.ref fI)) ∧
    PySem.W.typeIn K (.ref fI) = some (.type "function") ∧ FnOk P w K mg base CX0 1 fI fd ps (spInit0 C) ∧ Binds K fd ps []
section
variable {X : Cx} {own : List Nat} {fr : Bool} {ko : Kd} {xw : XWish} {pos pos2 p : Pos}
def sRaise0 (XX : XT) (n : XC) : TSD := fun _ ρ => XX n .non ρ
theorem made_heap0 {H1 : Hp} {a C : Addr} (ha : H1 a = none) : del (upd H1 a (exo a C none)) a = H1 := by
  funext b
  by_cases h2 : b = a
  · subst h2; rw [del_same, ha]
  · rw [del_ne h2, upd_ne h2]
theorem s_raise0 {n : XC} (T : XCls0 X.prog X.w X.K X.mg X.base n) (hr : Room 2 X.A) (hc : X.calm = true) (tk : L2N.Takes X xw.W) (hg : Gl X n.nm := by rfl) (hdb : (n.nm == ("__debug__" : Str)) = false := by decide) :
    PS X (.Raise (some (.Call (.Name n.nm p) [] [] pos)) none pos2) (liftS X.K xw own fr ko (sRaise0 xw.XX n)) := by
  obtain ⟨C, fI, fd, ps, hf, hns, hm, O, iC, tI, F1, hb⟩ := T.ex
  refine ps_imp (L2N.ps_raise hc tk (pmk_oexN0 O iC tI F1 hr hb pass0 hg hm hdb)) fun D σ H ⟨c0, H0, A, c, ρ, DD, hk, t, E, F, h, z⟩ => ?_
  refine fun a ha => ⟨a, rfl, upd_same, rfl, upd_same, ?_⟩
  rw [made_heap0 ha]
  refine z.xe c own σ ρ _ n .non (.ref C) none hk (fun _ h => h) (fun _ => rfl) t E F ⟨by rw [hk]; exact hns, ?_⟩ h
  first
    | (rw [hf]; done)
    | (rw [hf]; trivial)
    | (rw [hf]; rfl)
end
theorem x_raise0 {XX : XT} {n : XC} {DD : DEnds} {ρ : PEnv} : sRaise0 XX n DD ρ = XX n .non ρ := propext Iff.rfl
end DL

set_option Elab.async false
set_option linter.all false
set_option maxRecDepth 100000
set_option maxHeartbeats 4000000
namespace DLX
open PySem PySem.Spec PyProof.Rows L2
def tMkV (C : Addr) (sp : Sp) (ta : TA) : TE := fun σ H Q => ta σ H fun vs H1 => vs.length ≤ 1000 ∧ ∀ a, H1 a = none → sp (.ref a :: vs) (upd H1 a (exo a C none)) (fun v H2 => v = .non ∧ Q (.ref a) H2) (fun _ _ _ => False)
section
variable {X : Cx} {e : Expr} {es : List Expr} {ta : TA} {p pos : Pos}
theorem run_oex {pins : List (Addr × Obj)} {σ : L2.St} {H1 : Hp} {s : Shared} {Q : VK} {us : List Value} {vs : List V} {CX : CXT} {C fI : Addr} {k : Nat} {fd : FuncData} {ps : List Str} {sp : Sp} (T : OexC X.K C) (iC : PySem.W.findIn X.K (.ref C) "__init__" = some (some (.ref fI))) (tI : PySem.W.typeIn X.K (.ref fI) = some (.type "function"))
    (F1 : FnOk X.prog X.w X.K X.mg X.base CX k fI fd ps sp) (hr : Room (k + 1) X.A) (hb : Binds X.K fd ps []) (hx : Passes CX X (fun _ _ _ => False)) (I1 : Inv X pins σ H1 s) (r1 : Vals vs us) (hz : vs.length ≤ 1000)
    (q1 : ∀ a, H1 a = none → sp (.ref a :: vs) (upd H1 a (exo a C none)) (fun v H2 => v = .non ∧ Q (.ref a) H2) (fun _ _ _ => False)) : wpAny (model X.prog X.w) X.A (call (.ref C) us) (EP X pins σ Q) X.xe s := by
  obtain ⟨nm, q, N, bs, bm, sn, sub, ab, col, dd, k0, k1, k2, k3, k5, hC, hbm⟩ := T.cls
  obtain ⟨hp, g, dr, tk, os⟩ := s
  have hsz : hp.objs.size ≤ hp.objs.size + 1 := Nat.le_succ _
  have hn : H1 (hp.objs.size + 1) = none := I1.hok.fresh hsz
  have hq := q1 (hp.objs.size + 1) hn
  have kk : ∀ b o, hp.get? b = some o → ((hp.push (PySem.W.kdv_tup us)).push (PySem.HandSPX.excO C hp.objs.size)).get? b = some o := fun b o e => Heap.get?_push_of_some _ (Heap.get?_push_of_some _ e)
  have hget : ((hp.push (PySem.W.kdv_tup us)).push (PySem.HandSPX.excO C hp.objs.size)).get? (hp.objs.size + 1) = some (PySem.HandSPX.excO C hp.objs.size) := by heap_get
  have I2 : Inv X pins σ (upd H1 (hp.objs.size + 1) (exo (hp.objs.size + 1) C none)) ⟨(hp.push (PySem.W.kdv_tup us)).push (PySem.HandSPX.excO C hp.objs.size), g, dr, tk, os⟩ :=
    I1.laid (t' := tk) (a := hp.objs.size + 1) (o := exo (hp.objs.size + 1) C none) (h' := (hp.push (PySem.W.kdv_tup us)).push (PySem.HandSPX.excO C hp.objs.size)) kk hsz (exo_ok hget)
  have r2 : Vals (V.ref (hp.objs.size + 1) :: vs) (Value.ref (hp.objs.size + 1) :: us) := .cons rfl r1
  have hl : (Value.ref (hp.objs.size + 1) :: us ++ []).length = ps.length := by
    have e := r2.length
    rw [F1.len _ _ _ _ hq] at e
    rw [List.append_nil]
    exact e.symm
  have hus : us.length ≤ sizeLine := by
    rw [← Paired.length r1, sizeLine_eq]
    omega
  have b2 := hb _ (Value.ref (hp.objs.size + 1) :: us) I2.kIn hl
  rw [List.append_nil] at b2
  refine wpAny_call (PySem.HandSPX.call_own F.excBase_ValueError (fun Y => PySem.HandSPX.refsVE_contains Y bm hbm) (I1.kIn _ _ hC) (PySem.W.looks_findIn I1.kIn iC) (fun self => PySem.W.bind_fn I1.kIn self tI) hus
    (codeAny_mono (F1.run _ X.stack _ _ ⟨Value.ref (hp.objs.size + 1) :: us, []⟩ (Value.ref (hp.objs.size + 1) :: us) _ _ (fun _ _ _ => False) (hr.make C us []) (I2.env0.make C us []) b2 r2 hq) fun r s' hq' => ?_))
  cases r with
  | error er => exact hx pins σ _ _ er s' I2 hq'
  | ok fl =>
    cases fl with
    | ret u =>
      obtain ⟨v, H', I3, rv, ev, q3⟩ := I2.after hq'
      subst ev
      exact ⟨rv, ⟨V.ref (hp.objs.size + 1), H', I3, rfl, q3⟩⟩
    | next => exact False.elim hq'
    | brk => exact False.elim hq'
    | cont => exact False.elim hq'
variable {CX : CXT} {x : Str} {C fI : Addr} {k : Nat} {fd : FuncData} {ps : List Str} {sp : Sp}
theorem pe_oex (T : OexC X.K C) (iC : PySem.W.findIn X.K (.ref C) "__init__" = some (some (.ref fI))) (tI : PySem.W.typeIn X.K (.ref fI) = some (.type "function"))
    (F1 : FnOk X.prog X.w X.K X.mg X.base CX k fI fd ps sp) (hr : Room (k + 1) X.A) (hb : Binds X.K fd ps []) (hx : Passes CX X (fun _ _ _ => False)) (hg : Gl X x) (hm : X.mg x = some (.ref C)) (ha : PA X (e :: es) ta)
    (hdb : (x == ("__debug__" : Str)) = false := by decide) (he : starEach (e :: es) X.env = (false, eval e X.env) :: starEach es X.env := by rfl) (hpl : (backTo pos (starEach es X.env)).any (·.1) = false := by rfl) :
    PE X (.Call (.Name x p) (e :: es) [] pos) (tMkV C sp ta) := by
  refine ⟨fun pins s σ H Q I h => ?_⟩
  refine wpAny_Call_Name_kw (ld_glob I hg hm ?_ hdb)
  refine PySem.W.callWith_K (h₀ := X.base) I.ok.mod.kin T.kC (thn (ha.run pos pins s σ H _ I h) fun us s1 ⟨vs, H1, I1, r1, hz, q1⟩ => ⟨I1.kIn, ?_⟩) he hpl
  exact run_oex T iC tI F1 hr hb hx I1 r1 hz q1
theorem pe_oex0 (T : OexC X.K C) (iC : PySem.W.findIn X.K (.ref C) "__init__" = some (some (.ref fI))) (tI : PySem.W.typeIn X.K (.ref fI) = some (.type "function"))
    (F1 : FnOk X.prog X.w X.K X.mg X.base CX k fI fd ps sp) (hr : Room (k + 1) X.A) (hb : Binds X.K fd ps []) (hx : Passes CX X (fun _ _ _ => False)) (hg : Gl X x) (hm : X.mg x = some (.ref C))
    (hdb : (x == ("__debug__" : Str)) = false := by decide) : PE X (.Call (.Name x p) [] [] pos) (tMkV C sp tNil) := by
  refine ⟨fun pins s σ H Q I h => ?_⟩
  refine wpAny_Call_Name_kw (ld_glob I hg hm ?_ hdb)
  exact PySem.W.callWith_K0 I.kIn T.kC (run_oex (us := []) T iC tI F1 hr hb hx I .nil (Nat.zero_le _) h.2)
end
theorem exo_inst {X : Cx} {pins : List (Addr × Obj)} {σ : L2.St} {H : Hp} {s : Shared} {a C : Addr} {od : Option Addr} (I : Inv X pins σ H s) (ha : H a = some (exo a C od)) (hd : ∀ dx, od = some dx → ∃ fs, H dx = some (exd dx fs)) : ∃ ox od', PySem.W.InstAt s.heap a ox C od' := by
  obtain ⟨t1, ho⟩ := exo_at I.hok ha
  cases od with
  | none => exact ⟨_, none, ho, rfl, rfl, trivial⟩
  | some dx =>
    obtain ⟨fs, hx⟩ := hd dx rfl
    obtain ⟨mA, hns, hr⟩ := exd_at I.hok hx
    obtain ⟨od, ho2, hl⟩ := lookIn_ns hns
    exact ⟨_, some od, ho, rfl, rfl, ho2⟩
def tXat (K : PySem.W.Frag) (f : Str) (te : TE) : TE := fun σ H Q => te σ H fun x H1 => ∃ (a C dx : Addr) (v : V), x = .ref a ∧ XfC K C ∧ PySem.W.findIn K (.ref C) f = some none ∧ H1 a = some (exo a C (some dx)) ∧ H1 dx = some (exd dx [(f, v)]) ∧ Q v H1
theorem pe_xat {X : Cx} {e : Expr} {te : TE} {pos : Pos} {f : Str} (he : PE X e te) (hb : attributeBase e f X.env (eval e X.env) = eval e X.env := by rfl) : PE X (.Attribute e f pos) (tXat X.K f te) := by
  refine ⟨fun pins s σ H Q I h => ?_⟩
  refine attr_of hb (thn (he.run pins s σ H _ I h) fun u s1 ⟨x, H1, I1, rx, a, C, dx, v, ex, T, hno, ea, ed, q⟩ => ?_)
  subst ex
  obtain rfl : u = Value.ref a := rx
  obtain ⟨t1, ho⟩ := exo_at I1.hok ea
  obtain ⟨mA, hns, hr⟩ := exd_at I1.hok ed
  obtain ⟨od, ho2, hl⟩ := lookIn_ns hns
  obtain ⟨u, hu, ru⟩ := RelO.some_of (v := v) (o := mA f) (by have := hr f; simpa [List.lookup] using this)
  have J : PySem.W.InstAt s1.heap a _ C (some od) := ⟨ho, rfl, rfl, ho2⟩
  exact HandSPX.exc_get I1.kIn J T.ga T.gg T.exC (PySem.W.findObj_own T.hdC hno rfl (by rw [hl, hu])) (handed_of ru) ⟨v, H1, I1.tok _, ru, q⟩
def rIsErr (K : PySem.W.Frag) : List V → Hp → VK → Prop := fun xs H Q => ∃ (a C : Addr) (od : Option Addr) (c : V) (cv : Value) (b : Bool), xs = [.ref a, c] ∧ H a = some (exo a C od) ∧ (∀ dx, od = some dx → ∃ fs, H dx = some (exd dx fs)) ∧ ExcC K C ∧ (∀ u, RelV c u → u = cv) ∧ PySem.W.kitOne K (.ref C) cv = some b ∧ Q (.bl b) H
theorem call_isErr {X : Cx} : CallR X (.builtin "isinstance") (rIsErr X.K) := by
  intro pins s σ H xs us Q I r h
  obtain ⟨a, C, od, c, cv, b, rfl, ha, hd, F, hcv, e, q⟩ := h
  cases r with
  | cons rx rr =>
    cases rr with
    | cons rt rr =>
      cases rr
      cases rx
      have ec := hcv _ rt
      subst ec
      obtain ⟨ox, od', J⟩ := exo_inst I ha hd
      exact PySem.W.kia_one (kitxEO F) I.kIn J e (fun z => nomatch z) fun tk => ⟨.bl b, H, I.kept (t' := tk) fun _ _ z => z, rfl, q⟩
end DLX
namespace DL
open PySem PySem.Spec PyProof.Rows L2 DLX
variable [TabsOf]
section
variable {X : Cx} {own : List Nat} {pos p p2 p3 : Pos} {e : Expr} {pe : TED} {n : XC} {ts : List (Option XC)} {rs : List XC}
def pMkE (n : XC) (pe : TED) : TED := fun ρ R => pe ρ fun d => R (.err n d)
def pMkE0 (n : XC) : TED := fun _ R => R (.err n .non)
theorem e_mkE (T : XCls X.prog X.w X.K X.mg X.base n) (hr : Room 2 X.A) (he : PE X e (lift X.K own .strong pe)) (hg : Gl X n.nm := by rfl) (hdb : (n.nm == ("__debug__" : Str)) = false := by decide)
    (hs : starEach [e] X.env = (false, eval e X.env) :: starEach [] X.env := by rfl) (hpl : (backTo pos (starEach [] X.env)).any (·.1) = false := by rfl) : PE X (.Call (.Name n.nm p) [e] [] pos) (lift X.K own .strong (pMkE n pe)) := by
  obtain ⟨C, fI, fd, ps, f, hf, hns, hm, O, iC, tI, F1, hb⟩ := T.ex
  refine pe_imp (pe_oex O iC tI F1 hr hb pass0 hg hm (L2.pa_cons he L2.pa_nil hs) hdb hs hpl) fun σ H Q ⟨c, A, ρ, R, hk, E, h, q⟩ => ?_
  refine ⟨c, A, ρ, fun d => R (.err n d), hk, E, h, fun c1 v H1 d1 t1 r1 g1 => ⟨Nat.le_of_ble_eq_true rfl, fun a ha => ?_⟩⟩
  have E1 := E.step t1
  refine ⟨a, v, rfl, upd_same, fun dx hdx hne => ⟨rfl, ?_⟩⟩
  have hd1 : H1 dx = none := by rw [upd_ne hne] at hdx; exact hdx
  have eh : upd (upd (upd H1 a (exo a C none)) dx (exd dx [(f, v)])) a (exo a C (some dx)) = upd (upd H1 dx (exd dx [(f, v)])) a (exo a C (some dx)) := by
    funext b
    by_cases h1 : b = a
    · subst h1; rw [upd_same, upd_same]
    · rw [upd_ne h1, upd_ne h1]
      by_cases h2 : b = dx
      · subst h2; rw [upd_same, upd_same]
      · rw [upd_ne h2, upd_ne h2, upd_ne h1]
  rw [eh]
  have t2 : Step c1 H1 c1 (upd H1 dx (exd dx [(f, v)])) := .one E1.fok hd1
  have ha2 : upd H1 dx (exd dx [(f, v)]) a = none := by rw [upd_ne (Ne.symm hne)]; exact ha
  have t3 : Step c1 H1 c1 (upd (upd H1 dx (exd dx [(f, v)])) a (exo a C (some dx))) := t2.more ha2
  have nD : ¬ Avd c1 own A σ ρ dx := fun z => E1.al z hd1
  have nA : ¬ Avd c1 own A σ ρ a := fun z => E1.al z ha
  refine q c1 (.ref a) _ (.err n d1) (t1.trans t3) ?_ g1
  exact .err1 hf nA nD (by rw [t1.kk.trans hk]; exact hns) upd_same (by rw [upd_ne hne, upd_same]) (Rep.step E1 t3 r1)
theorem e_mkE0 (T : XCls0 X.prog X.w X.K X.mg X.base n) (hr : Room 2 X.A) (hg : Gl X n.nm := by rfl) (hdb : (n.nm == ("__debug__" : Str)) = false := by decide) : PE X (.Call (.Name n.nm p) [] [] pos) (lift X.K own .strong (pMkE0 n)) := by
  obtain ⟨C, fI, fd, ps, hf, hns, hm, O, iC, tI, F1, hb⟩ := T.ex
  refine pe_imp (pe_oex0 O iC tI F1 hr hb pass0 hg hm hdb) fun σ H Q ⟨c, A, ρ, R, hk, E, h, q⟩ => ?_
  refine ⟨Nat.zero_le _, fun a ha => ⟨a, rfl, upd_same, rfl, ?_⟩⟩
  have t3 : Step c H c (upd H a (exo a C none)) := .one E.fok ha
  have nA : ¬ Avd c own A σ ρ a := fun z => E.al z ha
  refine q c (.ref a) _ (.err n .non) t3 ?_ h
  exact .err0 hf nA (by rw [hk]; exact hns) upd_same
def dXat (f : Str) (d : D) (R : D → Prop) : Prop := match d with
  | .err n x => n.fld = some f ∧ R x
  | _ => False
def pXat (f : Str) (pe : TED) : TED := fun ρ R => pe ρ fun d => dXat f d R
theorem e_xat (f : Str) (FX : ∀ n ∈ rs, XFact X.K X.mg ts n) (hall : ∀ n : XC, n ∈ rs) (he : PE X e (lift X.K own .strong pe)) (hb : attributeBase e f X.env (eval e X.env) = eval e X.env := by rfl) : PE X (.Attribute e f pos) (lift X.K own .strong (pXat f pe)) := by
  refine pe_imp (pe_xat he hb) fun σ H Q ⟨c, A, ρ, R, hk, E, h, q⟩ => ⟨c, A, ρ, _, hk, E, h, fun c1 v H1 d t1 r1 g1 => ?_⟩
  unfold dXat at g1
  split at g1
  · rename_i n x
    obtain ⟨hf, hR⟩ := g1
    obtain ⟨C', hns', fX, fE, hno, kit, tg⟩ := (FX n (hall n)).ex
    cases (show Rep c1 (Avd c1 own A σ ρ) H1 v (.err n x) from r1) with
    | @err1 a dx C _ f' w _ e1 n1 n2 ns o1 o2 r =>
      have ef : f' = f := by rw [hf] at e1; exact (Option.some.inj e1).symm
      subst ef
      have eC : C' = C := by rw [t1.kk.trans hk, hns'] at ns; exact (Value.ref.inj (Option.some.inj (Option.some.inj ns)))
      subst eC
      exact ⟨a, C', dx, w, rfl, fX, hno _ hf, o1, o2, q c1 w H1 x t1 r hR⟩
    | err0 e1 n1 ns o1 =>
      rw [hf] at e1
      cases e1
  · exact g1.elim
def dIsErr (t : Option XC) (d : D) (R : D → Prop) : Prop := match d with
  | .err n _ => R (.bl (n.sub t))
  | _ => False
def dIsErrV (d : D) (R : D → Prop) : Prop := match d with
  | .err _ _ => R (.bl true)
  | _ => False
def pIsErr (t : Option XC) (pe : TED) : TED := fun ρ R => pe ρ fun d => dIsErr t d R
def pIsErrV (pe : TED) : TED := fun ρ R => pe ρ fun d => dIsErrV d R
theorem err_at {c : Cfg} {Av : Addr → Prop} {H : Hp} {v : V} {n : XC} {x : D} (r : Rep c Av H v (.err n x)) : ∃ (a C : Addr) (od : Option Addr), v = .ref a ∧ PySem.W.nsIn c.K mainGlobals n.nm = some (some (.ref C)) ∧ H a = some (exo a C od) ∧ ∀ dx, od = some dx → ∃ fs, H dx = some (exd dx fs) := by
  cases r with
  | @err1 a dx C _ f' w _ e1 n1 n2 ns o1 o2 r => exact ⟨a, C, _, rfl, ns, o1, fun d z => by cases z; exact ⟨_, o2⟩⟩
  | @err0 a C _ e1 n1 ns o1 => exact ⟨a, C, _, rfl, ns, o1, fun d z => nomatch z⟩
theorem e_isErr (t : Option XC) (FX : ∀ n ∈ rs, XFact X.K X.mg ts n) (hall : ∀ n : XC, n ∈ rs) (ht : t ∈ ts) (hmT : ∃ D, X.mg (XC.tn t) = some (.ref D)) (hm : X.mg "isinstance" = none) (he : PE X e (lift X.K own .strong pe)) (hg : Gl X "isinstance" := by rfl) (hgt : Gl X (XC.tn t) := by rfl) (hdt : (XC.tn t == ("__debug__" : Str)) = false := by decide)
    (hs : starEach [e, .Name (XC.tn t) p2] X.env = (false, eval e X.env) :: starEach [.Name (XC.tn t) p2] X.env := by rfl) (hs2 : starEach [.Name (XC.tn t) p2] X.env = (false, eval (.Name (XC.tn t) p2) X.env) :: starEach [] X.env := by rfl) (hpl : (backTo pos (starEach [.Name (XC.tn t) p2] X.env)).any (·.1) = false := by rfl) :
    PE X (.Call (.Name "isinstance" p3) [e, .Name (XC.tn t) p2] [] pos) (lift X.K own .strong (pIsErr t pe)) := by
  obtain ⟨D, hmD⟩ := hmT
  refine pe_imp (pe_callB call_isErr hg hm (by decide +kernel) (L2.pa_cons he (L2.pa_cons (pe_glob (v := .ref D) hgt hmD rfl hdt) L2.pa_nil hs2) hs) (by decide) (by decide) hs hpl) fun σ H Q ⟨c, A, ρ, R, hk, E, h, q⟩ => ⟨c, A, ρ, _, hk, E, h, fun c1 v H1 d t1 r1 g1 => ?_⟩
  unfold dIsErr at g1
  split at g1
  · rename_i n x
    obtain ⟨C', hns', fX, fE, hno, kit, tg⟩ := (FX n (hall n)).ex
    obtain ⟨D', hmD', kt, _⟩ := (tg t ht).ex
    have eD : D' = D := by rw [hmD] at hmD'; exact (Value.ref.inj (Option.some.inj hmD')).symm
    subst eD
    obtain ⟨a, C, od, rfl, ns, o1, o2⟩ := err_at r1
    have eC : C' = C := by rw [t1.kk.trans hk, hns'] at ns; exact (Value.ref.inj (Option.some.inj (Option.some.inj ns)))
    subst eC
    exact ⟨a, C', od, .ref D', .ref D', n.sub t, rfl, o1, o2, fE, fun u r => r, kt, q c1 _ H1 (.bl _) t1 (.bl _) g1⟩
  · exact g1.elim
theorem e_isErrV (FX : ∀ n ∈ rs, XFact X.K X.mg ts n) (hall : ∀ n : XC, n ∈ rs) (hm : X.mg "isinstance" = none) (hmV : X.mg "ValueError" = none) (he : PE X e (lift X.K own .strong pe)) (hg : Gl X "isinstance" := by rfl) (hgt : Gl X "ValueError" := by rfl)
    (hs : starEach [e, .Name "ValueError" p2] X.env = (false, eval e X.env) :: starEach [.Name "ValueError" p2] X.env := by rfl) (hs2 : starEach [.Name "ValueError" p2] X.env = (false, eval (.Name "ValueError" p2) X.env) :: starEach [] X.env := by rfl) (hpl : (backTo pos (starEach [.Name "ValueError" p2] X.env)).any (·.1) = false := by rfl) :
    PE X (.Call (.Name "isinstance" p3) [e, .Name "ValueError" p2] [] pos) (lift X.K own .strong (pIsErrV pe)) := by
  refine pe_imp (pe_callB call_isErr hg hm (by decide +kernel) (L2.pa_cons he (L2.pa_cons (pe_bltn (v := .ty "ValueError") hgt hmV PyProof.Rows.Boot.«ValueError» rfl) L2.pa_nil hs2) hs) (by decide) (by decide) hs hpl) fun σ H Q ⟨c, A, ρ, R, hk, E, h, q⟩ => ⟨c, A, ρ, _, hk, E, h, fun c1 v H1 d t1 r1 g1 => ?_⟩
  unfold dIsErrV at g1
  split at g1
  · rename_i n x
    obtain ⟨C', hns', fX, fE, hno, kit, tg⟩ := (FX n (hall n)).ex
    obtain ⟨a, C, od, rfl, ns, o1, o2⟩ := err_at r1
    have eC : C' = C := by rw [t1.kk.trans hk, hns'] at ns; exact (Value.ref.inj (Option.some.inj (Option.some.inj ns)))
    subst eC
    exact ⟨a, C', od, .ty "ValueError", .type "ValueError", true, rfl, o1, o2, fE, fun u r => r, kit, q c1 _ H1 (.bl _) t1 (.bl _) g1⟩
  · exact g1.elim
end
section
variable {ρ : PEnv} {R : D → Prop} {n : XC} {pe : TED} {f : Str} {x : D} {t : Option XC}
theorem x_mkE : pMkE n pe ρ R = pe ρ fun d => R (.err n d) := propext Iff.rfl
theorem x_mkE0 : pMkE0 n ρ R = R (.err n .non) := propext Iff.rfl
theorem x_xat : pXat f pe ρ R = pe ρ fun d => dXat f d R := propext Iff.rfl
theorem x_dXat : dXat f (.err n x) R = (n.fld = some f ∧ R x) := propext Iff.rfl
theorem x_isErr : pIsErr t pe ρ R = pe ρ fun d => dIsErr t d R := propext Iff.rfl
theorem x_dIsErr : dIsErr t (.err n x) R = R (.bl (n.sub t)) := propext Iff.rfl
theorem x_isErrV : pIsErrV pe ρ R = pe ρ fun d => dIsErrV d R := propext Iff.rfl
theorem x_dIsErrV : dIsErrV (.err n x) R = R (.bl true) := propext Iff.rfl
end
end DL

set_option Elab.async false
set_option linter.all false
set_option maxRecDepth 100000
set_option maxHeartbeats 4000000
namespace DL
open PySem PySem.Spec PyProof.Rows L2

abbrev rsL : List XC := [.noDeed, .noName, .noText, .notPaper, .tooMany]
abbrev tsL : List (Option XC) := [none, (some .tooMany), (some .noName), (some .noText), (some .notPaper), (some .noDeed)]
theorem xall : ∀ n : XC, n ∈ rsL := fun n => by cases n <;> decide
def b_l_deal_1 : TSD := (sSet 3 (p2 dMod (p2 dAdd (p2 dMul (pV 3) (pC (.int 48271))) (p2 dMod (pV 4) (pC (.int 2147483629)))) (pC (.int 2147483647))))
def p_l_deal_3 : TSD := (sRetDeal (pV 3) (p1 dRev (pComp (sSeq (pV 2)) (gN 4) (tV (p2 dGeI (pV 4) (p2 dPow (pC (.int 10)) (pC (.int 18))))) (pV 4) [4])))
def p_l_deal_2 : TSD := (sSeqD (sFor (sSeq (pV 2)) (gN 4) b_l_deal_1) p_l_deal_3)
def p_l_deal_1 : TSD := (sSeqD (sSet 3 (p2 dAdd (pC (.int 7919)) (pV 1))) p_l_deal_2)
def p_l_deal : TSD := (sSeqD (sSet 2 (pComp (sSeq (pSl dSl (pV 0) (oSome (pV 1)) (oSome (pC (.int 63))))) (gN 4) tYesD (pL dMax2 (paC (pV 4) (paC (p2 dSub (pC (.int 0)) (pV 4)) paN))) [4])) p_l_deal_1)
def w_l_deal : List D → (D → Prop) → Prop := fnW .strong 5 p_l_deal
abbrev w_l_draw : List D → (D → Prop) → Prop := wDraw
def p_l_thing_4 : TSD := (sRet (p2 dIxA (pV 2) (pCall w_l_draw (paC (pV 0) (paC (pC (.int 5)) paN)))))
def p_l_thing_3 : TSD := (sSeqD (sApp 2 (pTup (paC (pCall w_l_draw (paC (pV 0) (paC (pC (.int 9)) paN))) (paC (pCall w_l_draw (paC (pV 0) (paC (pC (.int 9)) paN))) paN)))) p_l_thing_4)
def p_l_thing_2 : TSD := (sSeqD (sApp 2 (pM1 mJoin (pC (.str "")) (pComp (sRng1 (paC (pCall w_l_draw (paC (pV 0) (paC (pC (.int 10)) paN))) paN)) (gN 3) tYesD (p2 dIxA (pV 1) (pCall w_l_draw (paC (pV 0) (paC (pC (.int 40)) paN)))) [3]))) p_l_thing_3)
def p_l_thing_1 : TSD := (sSeqD (sSet 2 (pLst (paC (p2 dSub (pCall w_l_draw (paC (pV 0) (paC (p2 dPow (pC (.int 10)) (pC (.int 30))) paN))) (p2 dPow (pC (.int 10)) (pC (.int 29)))) (paC (pC .non) (paC (p2 dEq (pCall w_l_draw (paC (pV 0) (paC (pC (.int 2)) paN))) (pC (.int 0))) paN))))) p_l_thing_2)
def p_l_thing : TSD := (sSeqD (sSet 1 (pC (.str "abcdefghijklmnopqrstuvwxyz ,.0123456789-"))) p_l_thing_1)
def w_l_thing : List D → (D → Prop) → Prop := fnW .strong 4 p_l_thing
def p_l_sorts_3 : TSD := (sRet (p2 dAdd (pV 1) (pLst (paC (pIsErr (some .notPaper) (pV 0)) (paC (pIsErr (some .noDeed) (pV 0)) paN)))))
def p_l_sorts_2 : TSD := (sSeqD (sApp 1 (pIsErr (some .tooMany) (pV 0))) p_l_sorts_3)
def p_l_sorts_1 : TSD := (sSeqD (sSet 1 (p2 dCat (pV 1) (pLst (paC (pIsErr (some .noName) (pV 0)) (paC (pIsErr (some .noText) (pV 0)) paN))))) p_l_sorts_2)
def p_l_sorts : TSD := (sSeqD (sSet 1 (pLst (paC (pIsErr none (pV 0)) (paC (pIsErrV (pV 0)) paN)))) p_l_sorts_1)
def w_l_sorts : List D → (D → Prop) → Prop := fnW .strong 2 p_l_sorts
def p_l_due : TSD := (sRet (p2 dAdd (pLst (paC (pC (.bl true)) (paC (pC (.bl true)) paN))) (pComp (sRng1 (paC (pC (.int 5)) paN)) (gN 1) tYesD (p2 dEq (pV 1) (pV 0)) [1])))
def w_l_due : List D → (D → Prop) → Prop := fnW .strong 2 p_l_due
def p_l_raised_1 : TSD := (sSeqD (sTryAs xw0.XX rsL none 3 (fun XX => (sSeqD (sIf (tV (p2 dEq (pV 0) (pC (.int 0)))) (sRaise XX .noName (pV 1)) sNext) (sSeqD (sIf (tV (p2 dEq (pV 0) (pC (.int 1)))) (sRaise XX .noText (pV 1)) sNext) (sSeqD (sIf (tV (p2 dEq (pV 0) (pC (.int 2)))) (sRaise XX .tooMany (pV 1)) sNext) (sSeqD (sIf (tV (p2 dEq (pV 0) (pC (.int 3)))) (sRaise0 XX .notPaper) sNext) (sRaise0 XX .noDeed)))))) (fun n a d => (sSeqD (sSet 2 (pLst (paC (pIs n (some .noName) a d 3) (paC (pIs n (some .noText) a d 3) (paC (pIs n (some .tooMany) a d 3) paN))))) (sSet 2 (p2 dAdd (pV 2) (pLst (paC (pIs n (some .notPaper) a d 3) (paC (pIs n (some .noDeed) a d 3) paN)))))))) (sRet (pV 2)))
def p_l_raised : TSD := (sSeqD (sSet 2 (pC .non)) p_l_raised_1)
def w_l_raised : List D → (D → Prop) → Prop := fnW .strong 4 p_l_raised
def b_law_1 : TSD := (sIf (tV (p2 dNeS (pL dReprA (paC (pLst (paC (pXat "name" (p2 dIxA (pV 6) (pC (.int 0)))) (paC (pXat "row" (p2 dIxA (pV 6) (pC (.int 1)))) (paC (pXat "many" (p2 dIxA (pV 6) (pC (.int 2)))) paN)))) paN)) (pL dReprA (paC (p2 dMul (pLst (paC (pV 7) paN)) (pC (.int 3))) paN)))) (sRet (pC (.bl false))) sNext)
def b_law_2 : TSD := (sIf (tOrD (tV (p2 dNe (pCall w_l_sorts (paC (p2 dIxA (pV 4) (pV 8)) paN)) (pCall w_l_due (paC (pV 8) paN)))) (tV (p2 dNe (pCall w_l_raised (paC (pV 8) (paC (pV 2) paN))) (pSl dSl (pCall w_l_due (paC (pV 8) paN)) (oSome (pC (.int 2))) oNone)))) (sRet (pC (.bl false))) sNext)
def p_law_6 : TSD := (sRet (pL dAll (paC (pComp (sRng1 (paC (pC (.int 3)) paN)) (gN 8) tYesD (p2 dEq (pCall w_l_sorts (paC (p2 dIxA (pV 5) (pV 8)) paN)) (pCall w_l_due (paC (pV 8) paN))) [8]) paN)))
def p_law_5 : TSD := (sSeqD (sFor (sRng1 (paC (pC (.int 5)) paN)) (gN 8) b_law_2) p_law_6)
def p_law_4 : TSD := (sSeqD (sFor (sSeq (pTup (paC (pTup (paC (pV 4) (paC (pV 2) paN))) (paC (pTup (paC (pV 5) (paC (pV 3) paN))) (paC (pTup (paC (pV 4) (paC (pV 2) paN))) paN))))) (gT (gsC (gN 6) (gsC (gN 7) gsN))) b_law_1) p_law_5)
def p_law_3 : TSD := (sSeqD (sSet 5 (pLst (paC (pMkE .noName (pV 3)) (paC (pMkE .noText (pV 3)) (paC (pMkE .tooMany (pV 3)) paN))))) p_law_4)
def p_law_2 : TSD := (sSeqD (sSet 4 (pLst (paC (pMkE .noName (pV 2)) (paC (pMkE .noText (pV 2)) (paC (pMkE .tooMany (pV 2)) (paC (pMkE0 .notPaper) (paC (pMkE0 .noDeed) paN))))))) p_law_3)
def p_law_1 : TSD := (sSeqD (sPar 2 3 (paC (pCall w_l_thing (paC (pV 1) paN)) (paC (pCall w_l_thing (paC (pV 1) paN)) paN))) p_law_2)
def p_law : TSD := (sSeqD (sSet 1 (pCall w_l_deal (paC (pV 0) (paC (pC (.int 0)) paN)))) p_law_1)
def w_law : List D → (D → Prop) → Prop := fnW .strong 9 p_law

end DL

set_option Elab.async false
set_option linter.all false
set_option maxRecDepth 100000
set_option maxHeartbeats 4000000
namespace DL
open PySem PySem.Spec PyProof.Rows L2
local macro_rules | `(tactic| walk_at "dl") => `(tactic| try simp only [x_tupP, x_slP, x_nilP, x_sumP, x_dictP, x_callXN, x_get2, x_dTxt, x_lenP, x_liP, x_pAsk, x_pCallL3, x_getI, x_popAt, x_tupDP, x_raise0, x_mkE, x_mkE0, x_xat, x_dXat, x_isErr, x_dIsErr, x_isErrV, x_dIsErrV, x_fnS, x_fnF, x_seq, x_next, x_pass, x_brk, x_cnt, x_set, x_ret, x_retN, x_if, x_asg, x_drop, x_par, x_par3, x_two, x_three, x_for, x_gN, x_gsN, x_gsC, x_gT, x_gTl, x_pV, x_opt, x_pC, x_p1, x_p2, x_pL, x_call, x_callW, x_paN, x_paC, x_tup, x_lst, x_tV, x_tAnd, x_tOr, x_tNot, x_pAnd, x_pOr, x_pNot, x_pIf, x_chain, x_bl, x_int, x_addI, x_addS, x_addL, x_addT, x_cat, x_sub, x_mul, x_mulL, x_mulT, x_rep, x_div, x_mod, x_pow, x_neg, x_eq, x_ne, x_ltI, x_leI, x_gtI, x_geI, x_isN, x_notN, x_nN, x_nI, x_nB, x_nS, x_nT, x_nL, x_ixT, x_ixP, x_ixL, x_ixS, x_len_l, x_len_t, x_len_c, x_len_s, x_all, x_any, x_abs, x_max2, x_min2, x_toI, x_toB, x_tuL, x_tuT, x_rev, x_pSl, x_oN, x_oS, x_slL, x_slT, x_slC, x_slS, x_slLL, x_slLC, x_sSeq, x_seqL, x_seqP, x_seqT, x_one, x_rng1, x_rng2, x_comp, x_w0, x_w1, x_start, x_yes, x_comp0, x_for0, x_app, x_own, x_optL, x_item, x_draw, x_retDeal, ok_i, ok_b, ok_n, ok_t, ok_l, ok_0, ok_c, eq_ii, eq_tt, eq_ll, eq_0, eq_c, eq_ss, eq_bb, eq_nn, x_sZip, x_sEnum, x_twoD, x_oneD, x_zipL, x_zipT, x_zc, x_zn, x_enL, x_sZipM, x_zipM, x_sum, x_max, x_min, x_pop, x_revs, x_ext, x_ins, x_dLst, x_sEnumM, x_enM, x_newD, x_store, x_stoL, x_stoT, x_stoK, x_sto2, x_putT, x_inAL, x_inAT, x_niAL, x_niAT, x_inA2, x_niA2, x_ixAT, x_ixAP, x_ixAL, x_ixAS, x_liAL, x_liAT, x_liA2, x_band, x_bor, x_bxor, x_shl, x_shr, x_lrg1, x_lrg2, x_index, x_lstOf, x_aug, x_revAL, x_revAT, x_sumAL, x_sumAT, x_repr, x_take, x_retFeed, x_fail, x_popA, x_ixC, x_neS, x_eqS, x_isB, x_notB, x_extA, x_callN, x_pairs, x_strOf, x_pM1, x_joined, x_js0, x_js1, x_split, x_starts, x_part, x_joinL, x_joinT, x_inSg, x_fmtS, x_fmtI, x_toISi, x_toISb, x_toISs, x_sgn, x_strI, x_pLstZip, x_mulS, x_raise, x_callX, x_noXr, x_told, x_ifX, x_call1X, x_setX, x_retX, x_dropX, x_asgX, x_appX, x_tryAs, x_tryOnly, x_isE, x_isVE, x_reprA, x_fnX, x_fnXF, x_noX, x_lenBT, x_sZip3, x_threeD, x_dTupIs, x_sMove, x_pDeed, x_pCallL, x_revS, x_ordS, x_niSg, x_pIsT, x_swap, x_sOfM, x_mSeq, x_mNext, x_mCnt, x_mIf, x_mIfM, x_tSee, x_mFrz, x_meOf, x_mNew1, x_mPair0, x_mSet, x_mAsg, x_mApp, x_mPop, x_mAt, x_mAll, x_mFor, x_mOf, x_inP, x_sEnumS, x_enS, isi_int_int, isi_int_bool, isi_int_str, isi_int_tuple, isi_int_list, isi_bl_int, isi_bl_bool, isi_bl_str, isi_bl_tuple, isi_bl_list, isi_str_int, isi_str_bool, isi_str_str, isi_str_tuple, isi_str_list, isi_non_int, isi_non_bool, isi_non_str, isi_non_tuple, isi_non_list, isi_tup_int, isi_tup_bool, isi_tup_str, isi_tup_tuple, isi_tup_list, isi_lst_int, isi_lst_bool, isi_lst_str, isi_lst_tuple, isi_lst_list, List.map_cons, List.map_nil, List.length_cons, List.length_nil, List.cons_append, List.nil_append, List.reduceReplicate, Nat.reduceSub, Nat.reduceAdd, Int.cast_ofNat_Int, List.getElem?_cons_zero, List.getElem?_cons_succ, List.set_cons_zero, List.set_cons_succ, atI_0, atI_1, atI_2, atI_3, Option.some.injEq, exists_eq_left', exists_eq_left, Bool.and_self, Bool.and_true, Bool.true_and, Bool.and_false, Bool.false_and, Bool.not_false, Bool.not_true, if_true, if_false, ite_true, ite_false, true_and, and_true, Bool.false_eq_true, beq_self_eq_true, decide_true, decide_false, Bool.not_not, reduceIte, decide_eq_true_eq, D.lam.injEq])
local macro_rules | `(tactic| walk_at "un") => `(tactic| try simp only [x_comp1, x_for1, x_tupP, x_slP, x_nilP, x_sumP, x_dictP, x_callXN, x_get2, x_dTxt, x_lenP, x_liP, x_pAsk, x_pCallL3, x_getI, x_popAt, x_tupDP, x_raise0, x_mkE, x_mkE0, x_xat, x_dXat, x_isErr, x_dIsErr, x_isErrV, x_dIsErrV, x_fnS, x_fnF, x_seq, x_next, x_pass, x_brk, x_cnt, x_set, x_ret, x_retN, x_if, x_asg, x_drop, x_par, x_par3, x_two, x_three, x_for, x_gN, x_gsN, x_gsC, x_gT, x_gTl, x_pV, x_opt, x_pC, x_p1, x_p2, x_pL, x_call, x_callW, x_paN, x_paC, x_tup, x_lst, x_tV, x_tAnd, x_tOr, x_tNot, x_pAnd, x_pOr, x_pNot, x_pIf, x_chain, x_bl, x_int, x_addI, x_addS, x_addL, x_addT, x_cat, x_sub, x_mul, x_mulL, x_mulT, x_rep, x_div, x_mod, x_pow, x_neg, x_eq, x_ne, x_ltI, x_leI, x_gtI, x_geI, x_isN, x_notN, x_nN, x_nI, x_nB, x_nS, x_nT, x_nL, x_ixT, x_ixP, x_ixL, x_ixS, x_len_l, x_len_t, x_len_c, x_len_s, x_all, x_any, x_abs, x_max2, x_min2, x_toI, x_toB, x_tuL, x_tuT, x_rev, x_pSl, x_oN, x_oS, x_slL, x_slT, x_slC, x_slS, x_slLL, x_slLC, x_sSeq, x_seqL, x_seqP, x_seqT, x_one, x_rng1, x_rng2, x_comp, x_w0, x_w1, x_start, x_yes, x_comp0, x_for0, x_app, x_own, x_optL, x_item, x_draw, x_retDeal, ok_i, ok_b, ok_n, ok_t, ok_l, ok_0, ok_c, eq_ii, eq_tt, eq_ll, eq_0, eq_c, eq_ss, eq_bb, eq_nn, x_sZip, x_sEnum, x_twoD, x_oneD, x_zipL, x_zipT, x_zc, x_zn, x_enL, x_sZipM, x_zipM, x_sum, x_max, x_min, x_pop, x_revs, x_ext, x_ins, x_dLst, x_sEnumM, x_enM, x_newD, x_store, x_stoL, x_stoT, x_stoK, x_sto2, x_putT, x_inAL, x_inAT, x_niAL, x_niAT, x_inA2, x_niA2, x_ixAT, x_ixAP, x_ixAL, x_ixAS, x_liAL, x_liAT, x_liA2, x_band, x_bor, x_bxor, x_shl, x_shr, x_lrg1, x_lrg2, x_index, x_lstOf, x_aug, x_revAL, x_revAT, x_sumAL, x_sumAT, x_repr, x_take, x_retFeed, x_fail, x_popA, x_ixC, x_neS, x_eqS, x_isB, x_notB, x_extA, x_callN, x_pairs, x_strOf, x_pM1, x_joined, x_js0, x_js1, x_split, x_starts, x_part, x_joinL, x_joinT, x_inSg, x_fmtS, x_fmtI, x_toISi, x_toISb, x_toISs, x_sgn, x_strI, x_pLstZip, x_mulS, x_raise, x_callX, x_noXr, x_told, x_ifX, x_call1X, x_setX, x_retX, x_dropX, x_asgX, x_appX, x_tryAs, x_tryOnly, x_isE, x_isVE, x_reprA, x_fnX, x_fnXF, x_noX, x_lenBT, x_sZip3, x_threeD, x_dTupIs, x_sMove, x_pDeed, x_pCallL, x_revS, x_ordS, x_niSg, x_pIsT, x_swap, x_sOfM, x_mSeq, x_mNext, x_mCnt, x_mIf, x_mIfM, x_tSee, x_mFrz, x_meOf, x_mNew1, x_mPair0, x_mSet, x_mAsg, x_mApp, x_mPop, x_mAt, x_mAll, x_mFor, x_mOf, x_inP, x_sEnumS, x_enS, isi_int_int, isi_int_bool, isi_int_str, isi_int_tuple, isi_int_list, isi_bl_int, isi_bl_bool, isi_bl_str, isi_bl_tuple, isi_bl_list, isi_str_int, isi_str_bool, isi_str_str, isi_str_tuple, isi_str_list, isi_non_int, isi_non_bool, isi_non_str, isi_non_tuple, isi_non_list, isi_tup_int, isi_tup_bool, isi_tup_str, isi_tup_tuple, isi_tup_list, isi_lst_int, isi_lst_bool, isi_lst_str, isi_lst_tuple, isi_lst_list, List.map_cons, List.map_nil, List.length_cons, List.length_nil, List.cons_append, List.nil_append, List.reduceReplicate, Nat.reduceSub, Nat.reduceAdd, Int.cast_ofNat_Int, List.getElem?_cons_zero, List.getElem?_cons_succ, List.set_cons_zero, List.set_cons_succ, atI_0, atI_1, atI_2, atI_3, Option.some.injEq, exists_eq_left', exists_eq_left, Bool.and_self, Bool.and_true, Bool.true_and, Bool.and_false, Bool.false_and, Bool.not_false, Bool.not_true, if_true, if_false, ite_true, ite_false, true_and, and_true, Bool.false_eq_true, beq_self_eq_true, decide_true, decide_false, Bool.not_not, reduceIte, decide_eq_true_eq, D.lam.injEq])
local macro_rules | `(tactic| walk_at "wd") => `(tactic| try simp only [eqW, wd_ok_cell, wd_ok_name, wd_ok_all, wd_ok_any, wd_ok_least, wd_ok_at, wd_ok_by, wd_ok_then, wd_cell_cell, wd_cell_name, wd_cell_all, wd_cell_any, wd_cell_least, wd_cell_at, wd_cell_by, wd_cell_then, wd_name_cell, wd_name_name, wd_name_all, wd_name_any, wd_name_least, wd_name_at, wd_name_by, wd_name_then, wd_all_cell, wd_all_name, wd_all_all, wd_all_any, wd_all_least, wd_all_at, wd_all_by, wd_all_then, wd_any_cell, wd_any_name, wd_any_all, wd_any_any, wd_any_least, wd_any_at, wd_any_by, wd_any_then, wd_least_cell, wd_least_name, wd_least_all, wd_least_any, wd_least_least, wd_least_at, wd_least_by, wd_least_then, wd_at_cell, wd_at_name, wd_at_all, wd_at_any, wd_at_least, wd_at_at, wd_at_by, wd_at_then, wd_by_cell, wd_by_name, wd_by_all, wd_by_any, wd_by_least, wd_by_at, wd_by_by, wd_by_then, wd_then_cell, wd_then_name, wd_then_all, wd_then_any, wd_then_least, wd_then_at, wd_then_by, wd_then_then, true_and, and_true, and_self, if_true, if_false, Bool.false_eq_true, Bool.not_true, Bool.not_false, Bool.or_true, Bool.or_false, Bool.false_or, Bool.true_or, reduceIte])
local macro_rules | `(tactic| walk_at "bb") => `(tactic| first | assumption | with_reducible exact bnd_lit _ | (with_reducible apply bnd_sub <;> walk_at "bb") | (with_reducible apply bnd_add <;> walk_at "bb") | (with_reducible apply bnd_mul <;> walk_at "bb") | (with_reducible apply bnd_neg <;> walk_at "bb"))
local macro_rules | `(tactic| walk_at "mo") => `(tactic| exact bnd_mulOk (by walk_at "bb") (by walk_at "bb"))
local macro_rules | `(tactic| walk_at "bm") => `(tactic| exact bnd_mono (by walk_at "bb") (by decide))
local macro_rules | `(tactic| walk_at "cl") => `(tactic| simp only [okp, okps, okpt, okpl, anyp, eqp, eqps, okr, okrs, okrt, okrl, anyr, eqr, eqrs, eq_pnil, eq_tnil, true_and, and_true, List.length_map])
theorem q_deal (ns : List Int) (hn : ns.length ≤ 63) (R : D → Prop) (h : R .deal) : w_l_deal [.scr ns, .int 0] R := by
  unfold w_l_deal p_l_deal p_l_deal_1 p_l_deal_2 p_l_deal_3
  walk_at "dl"
  obtain ⟨cs, ec, hc⟩ := cut_ints ns (some 0) (some 63)
  rw [ec]
  have z1 : (cs.map D.int).length ≤ sizeLine := by rw [List.length_map]; exact sz_small (by omega)
  refine ⟨z1, ?_⟩
  let fa : D → D := fun d => match d with | .int i => .int (absI i) | d => d
  refine compM fa _ _ _ (fun d hd R hR => ?_) ?_
  · obtain ⟨i, _, rfl⟩ := List.mem_map.mp hd
    walk_at "dl"
    exact hR
  · have ea : (cs.map D.int).map fa = (cs.map absI).map D.int := by rw [List.map_map, List.map_map]; rfl
    rw [List.nil_append, ea]
    generalize hm : cs.map absI = ms
    have hml : ms.length ≤ 63 := by rw [← hm, List.length_map]; omega
    refine forI (fun rest ρ => (∃ js : List Int, rest = js.map D.int) ∧ ∃ (s : Int) (o : Option D), 0 ≤ s ∧ s < 2147483647 ∧ ρ = [some (.scr ns), some (.int 0), some (.lst (ms.map D.int)), some (.int s), o]) ?_ ?_ _ _ ⟨⟨ms, rfl⟩, 7919, none, by decide, by decide, rfl⟩
    · rintro d rest ρ N ⟨⟨js, hj⟩, s, o, s0, s1, rfl⟩ hN
      match js, hj with
      | j :: js, hj =>
        injection hj with e1 e2
        subst e1; subst e2
        have bs : bnd 31 s := bnd_of (lo := 0) (hi := 2147483647) (by omega) (by omega)
        have bq : bnd 17 48271 := bnd_of (lo := 48271) (hi := 48271) (by decide) (by decide)
        unfold b_l_deal_1
        walk_at "dl"
        refine ⟨bnd_mulOk bs bq, by decide, by decide, ?_⟩
        obtain ⟨r0, r1⟩ := fmod_rng (s * 48271 + j.fmod 2147483629) (j := 2147483647) (by decide)
        exact hN _ ⟨⟨js, rfl⟩, _, _, r0, r1, rfl⟩
    · rintro ρ ⟨_, s, o, s0, s1, rfl⟩
      walk_at "dl"
      refine ⟨⟨s0, by omega⟩, by rw [List.length_map]; exact sz_small (by omega), ?_⟩
      refine compF (fun d => match d with | .int i => decide ((10 : Int) ^ Int.toNat 18 ≤ i) | _ => false) id _ _ _ (fun d hd K1 K2 h1 h2 => ?_) ?_
      · obtain ⟨i, _, rfl⟩ := List.mem_map.mp hd
        walk_at "dl"
        refine ⟨by decide, ?_⟩
        by_cases hi : (10 : Int) ^ Int.toNat 18 ≤ i
        · rw [if_pos hi]; exact h1 (decide_eq_true hi)
        · rw [if_neg hi]; exact h2 (decide_eq_false hi)
      · walk_at "dl"
        refine ⟨(ms.filter fun i => decide ((10 : Int) ^ Int.toNat 18 ≤ i)).reverse, ?_, fun x hx => ?_, ?_, h⟩
        · rw [List.map_id, List.map_reverse, List.filter_map]
          rfl
        · have := (List.mem_filter.mp (List.mem_reverse.mp hx)).2
          have h18 : (0 : Int) < 10 ^ Int.toNat 18 := by decide
          have h := of_decide_eq_true this
          omega
        · rw [List.length_reverse]
          exact Nat.le_trans (List.length_filter_le _ _) hml
theorem compE {β : Type} (g : β → D) (P : β → Prop) {tg : TGD} {te : TED} {ρ : PEnv} : ∀ (ds : List D) (acc : List D) (R : List D → Prop), (∀ d ∈ ds, ∀ R : D → Prop, (∀ b, P b → R (g b)) → tg d ρ fun ρ1 => te ρ1 R) → (∀ bs : List β, bs.length = ds.length → (∀ b ∈ bs, P b) → R (acc ++ bs.map g)) → compR tg tYesD te ρ ds acc R
  | [], acc, R, _, h => by
    have := h [] rfl fun _ h => (nomatch h)
    rw [List.map_nil, List.append_nil] at this
    exact this
  | d :: ds, acc, R, hs, h => by
    have e : ∀ (R' : D → Prop) (K2 : Prop), (fun ρ1 => tYesD ρ1 fun b => if b = true then te ρ1 R' else K2) = fun ρ1 => te ρ1 R' := fun _ _ => by funext ρ1; simp [tYesD]
    show tg d ρ (fun ρ1 => tYesD ρ1 fun b => if b = true then te ρ1 (fun y => compR tg tYesD te ρ ds (acc ++ [y]) R) else compR tg tYesD te ρ ds acc R)
    rw [e]
    refine hs d List.mem_cons_self _ fun b hb => compE g P ds _ R (fun q hq => hs q (List.mem_cons_of_mem _ hq)) fun bs hl hp => ?_
    have := h (b :: bs) (by rw [List.length_cons, List.length_cons, hl]) fun x hx => by
      rcases List.mem_cons.mp hx with z | z
      · rw [z]; exact hb
      · exact hp x z
    rw [List.map_cons] at this
    rw [List.append_assoc]
    exact this
inductive ThD : D → Prop
  | int {i : Int} (h : i.natAbs < 10 ^ 30) : ThD (.int i)
  | non : ThD .non
  | bl (b : Bool) : ThD (.bl b)
  | str {s : Str} (h : s.length ≤ 9) (ha : ∀ c ∈ s.cps.toList, c < 128) : ThD (.str s)
  | tup {i j : Int} (hi : 0 ≤ i ∧ i < 9) (hj : 0 ≤ j ∧ j < 9) : ThD (.tup [.int i, .int j])
theorem len_app' (a b : Str) : (a ++ b).length = a.length + b.length := by rw [TL.len_tl, TL.tl_append, List.length_append, ← TL.len_tl, ← TL.len_tl]
theorem ThD.shown {d : D} (h : ThD d) : okD 7 d = true ∧ (toPy d).showable = true ∧ (toPy d).shown.length ≤ 100 := by
  cases h with
  | @int i h =>
    have := shown_int h
    exact ⟨rfl, this.1, by have := this.2; show (PyData.int i).shown.length ≤ 100; omega⟩
  | non => exact ⟨rfl, rfl, by decide +kernel⟩
  | bl b => exact ⟨rfl, rfl, by cases b <;> decide +kernel⟩
  | @str s h ha =>
    refine ⟨?_, rfl, ?_⟩
    · exact okD_str ha
    · have := PySem.StrLaws.reprText_len s fun c hc => by have := ha c hc; omega
      show (reprText s).length ≤ 100
      omega
  | @tup i j hi hj =>
    have h1 : i.natAbs < 10 ^ 30 := by omega
    have h2 : j.natAbs < 10 ^ 30 := by omega
    have := shown_tup (g := fun i : Int => D.int i) (xs := [i, j]) (b := 31) fun a ha => by
      simp only [List.mem_cons, List.not_mem_nil, or_false] at ha
      rcases ha with rfl | rfl
      · exact shown_int h1
      · exact shown_int h2
    refine ⟨rfl, this.1, Nat.le_trans this.2 (by show 2 * (31 + 2) + 2 ≤ 100; decide)⟩
theorem sh3 {d : D} (h : ThD d) : ShD (.lst [d, d, d]) := by
  obtain ⟨h1, h2, h3⟩ := h.shown
  refine ⟨?_, rfl, ?_, ?_⟩
  · show (okD 7 d && (okD 7 d && (okD 7 d && true))) = true
    rw [h1]; rfl
  · show ((toPy d).showable && ((toPy d).showable && ((toPy d).showable && true))) = true
    rw [h2]; rfl
  · show (PySem.listText [(toPy d).shown, (toPy d).shown, (toPy d).shown]).length ≤ sizeLine
    generalize (toPy d).shown = t at h3
    simp only [PySem.listText, PySem.textFrom, len_app']
    have e1 : (Str.ofString "[").length = 1 := by decide +kernel
    have e2 : (Str.ofString "]").length = 1 := by decide +kernel
    have e3 : (Str.ofString (if 0 > 0 then ", " else "")).length = 0 := by decide +kernel
    have e4 : (Str.ofString (if 0 + 1 > 0 then ", " else "")).length = 2 := by decide +kernel
    have e5 : (Str.ofString (if 0 + 1 + 1 > 0 then ", " else "")).length = 2 := by decide +kernel
    rw [e1, e2, e3, e4, e5, sizeLine_eq]
    omega
def LS : Str := "abcdefghijklmnopqrstuvwxyz ,.0123456789-"
theorem ls_get {i : Int} (h0 : 0 ≤ i) (h1 : i < 40) : ∃ c, L2.atI LS.cps.toList i = some c ∧ c < 128 := by
  have hl : (LS.cps.toList.length : Int) = 40 := by decide +kernel
  have ha : ∀ c ∈ LS.cps.toList, c < 128 := by decide +kernel
  exact ⟨_, atIn h0 (by omega), ha _ (List.getElem_mem _)⟩
theorem joinL_nil : ∀ l : List (List Nat), TL.joinL [] l = l.flatten
  | [] => rfl
  | [a] => by simp [TL.joinL]
  | a :: b :: l => by
    have := joinL_nil (b :: l)
    simp only [TL.joinL, List.flatten_cons, List.nil_append] at this ⊢
    rw [this]
theorem tl_joinE (ys : List Str) : TL.tl (Txt.join "" ys) = (ys.map TL.tl).flatten := by
  rw [TL.join_eq, TL.tl_join, show TL.tl ("" : Str) = [] from rfl, joinL_nil]
theorem flat_ones : ∀ l : List Nat, (l.map (TL.tl ∘ fun c => (⟨#[c]⟩ : Str))).flatten = l
  | [] => rfl
  | a :: l => by rw [List.map_cons, List.flatten_cons, flat_ones l]; rfl
theorem range_len (n : Int) : (rangeD 0 n).length = n.toNat := by unfold rangeD; rw [List.length_map, List.length_range]; omega
theorem q_thing (R : D → Prop) (h : ∀ d, ThD d → R d) : w_l_thing [.deal] R := by
  unfold w_l_thing p_l_thing
  walk_at "dl"
  unfold p_l_thing_1
  walk_at "dl"
  refine ⟨⟨by decide, by decide, by decide +kernel⟩, ⟨by decide, by decide +kernel⟩, fun i i0 i1 => ⟨⟨by decide, by decide, by decide +kernel⟩, ⟨by decide, by decide +kernel⟩, fun z z0 z1 => ?_⟩⟩
  have hi : ThD (.int (i - 10 ^ Int.toNat 29)) := .int (by
    have : (10 : Int) ^ Int.toNat 30 = 1000000000000000000000000000000 := by decide
    have : (10 : Int) ^ Int.toNat 29 = 100000000000000000000000000000 := by decide
    omega)
  generalize i - 10 ^ Int.toNat 29 = i' at hi
  unfold p_l_thing_2
  walk_at "dl"
  refine ⟨⟨by decide, by decide +kernel⟩, fun m m0 m1 => ⟨by unfold small62; omega, by rw [range_len]; exact sz_small (by omega), compE (fun c : Nat => D.str ⟨#[c]⟩) (· < 128) (rangeD 0 m) [] _ (fun d hd R' hR => ?_) fun bs bl hb => ?_⟩⟩
  · walk_at "dl"
    refine ⟨⟨by decide, by decide +kernel⟩, fun r r0 r1 => ?_⟩
    obtain ⟨c, hc, ec⟩ := ls_get r0 r1
    exact ⟨by decide +kernel, c, hc, hR c ec⟩
  · rw [range_len] at bl
    rw [List.nil_append]
    walk_at "dl"
    refine ⟨bs.map fun c => (⟨#[c]⟩ : Str), by rw [List.map_map]; rfl, ?_, ?_⟩
    · rw [List.length_map, List.map_map]
      have : ∀ l : List Nat, (l.map ((fun s : Str => s.length) ∘ fun c => (⟨#[c]⟩ : Str))).sum = l.length := fun l => by
        induction l with
        | nil => rfl
        | cons a l ih => rw [List.map_cons, List.sum_cons, ih, List.length_cons]; show 1 + l.length = _; omega
      rw [this, show (Str.ofString "").length = 0 by decide +kernel]
      omega
    obtain ⟨core, ec⟩ : ∃ core : Str, Txt.join "" (bs.map fun c => (⟨#[c]⟩ : Str)) = core := ⟨_, rfl⟩
    have tc : TL.tl core = bs := by
      rw [← ec, tl_joinE, List.map_map]
      exact flat_ones bs
    have lc : core.length = bs.length := by rw [TL.len_tl, tc]
    have ht : ThD (.str core) := .str (by omega) fun c hc => hb c (by rw [← tc]; exact hc)
    rw [ec]
    unfold p_l_thing_3
    walk_at "dl"
    refine ⟨(sz16 (by decide)).1, ⟨by decide, by decide +kernel⟩, fun u u0 u1 => ⟨⟨by decide, by decide +kernel⟩, fun v v0 v1 => ⟨(sz16 (by decide)).1, ?_⟩⟩⟩
    unfold p_l_thing_4
    walk_at "dl"
    refine ⟨⟨by decide, by decide +kernel⟩, fun w w0 w1 => ?_⟩
    have hw : w = 0 ∨ w = 1 ∨ w = 2 ∨ w = 3 ∨ w = 4 := by omega
    rcases hw with rfl | rfl | rfl | rfl | rfl
    · exact ⟨_, rfl, h _ hi⟩
    · exact ⟨_, rfl, h _ .non⟩
    · exact ⟨_, rfl, h _ (.bl _)⟩
    · exact ⟨_, rfl, h _ ht⟩
    · exact ⟨_, rfl, h _ (.tup ⟨u0, u1⟩ ⟨v0, v1⟩)⟩
theorem q_sorts (n : XC) (x : D) (R : D → Prop) (h : R (.lst [.bl true, .bl true, .bl (n.sub (some .noName)), .bl (n.sub (some .noText)), .bl (n.sub (some .tooMany)), .bl (n.sub (some .notPaper)), .bl (n.sub (some .noDeed))])) : w_l_sorts [.err n x] R := by
  unfold w_l_sorts p_l_sorts p_l_sorts_1 p_l_sorts_2 p_l_sorts_3
  walk_at "dl"
  have e : n.sub none = true := rfl
  rw [e]
  exact ⟨sz_small (by decide), (sz16 (by decide)).1, sz_small (by decide), h⟩
theorem q_due (k : Int) (R : D → Prop) (h : R (.lst [.bl true, .bl true, .bl (decide (0 = k)), .bl (decide (1 = k)), .bl (decide (2 = k)), .bl (decide (3 = k)), .bl (decide (4 = k))])) : w_l_due [.int k] R := by
  unfold w_l_due p_l_due
  walk_at "dl"
  refine ⟨by unfold small62; omega, by rw [range_len]; exact sz_small (by decide), ?_⟩
  show compR _ _ _ _ ((List.range 5).map fun i : Nat => D.int (i : Int)) _ _
  refine compG (fun i : Nat => D.int (i : Int)) (fun i : Nat => .bl (decide ((i : Int) = k))) (List.range 5) [] _ (fun i hi R' hR => ?_) ?_
  · walk_at "dl"
    exact hR
  · exact ⟨sz_small (by rw [List.nil_append, List.length_map, List.length_range]; decide), h⟩
theorem isE_some {n : XC} {a : Addr} {dx : Option Addr} {x : D} {ρ : PEnv} {i : Nat} (h : ρ[i]? = some (some (excD n a dx x))) (hd : n.fld ≠ none ↔ dx ≠ none) : isExc a dx ρ i := by
  unfold excD at h
  cases hf : n.fld with
  | none =>
    have : dx = none := Classical.byContradiction fun z => hd.mpr z hf
    subst this
    rw [hf] at h
    exact .inl ⟨rfl, h⟩
  | some f =>
    cases dx with
    | none => exact absurd rfl (hd.mp (by rw [hf]; exact fun z => nomatch z))
    | some dd =>
      rw [hf] at h
      exact .inr ⟨dd, f, x, rfl, h⟩
theorem q_rz {n : XC} {B : Prop} {P : Addr → Option Addr → Prop} (h : ∀ a dx, (n.fld ≠ none ↔ dx ≠ none) → P a dx) : n ∈ rsL ∧ if n.sub none = true then ∀ a dx, (n.fld ≠ none ↔ dx ≠ none) → P a dx else B := ⟨xall n, by rw [if_pos (show n.sub none = true from rfl)]; exact h⟩
theorem q_raised (k : Int) (k0 : 0 ≤ k) (k1 : k < 5) (x : D) (R : D → Prop) (h : R (.lst [.bl (decide (0 = k)), .bl (decide (1 = k)), .bl (decide (2 = k)), .bl (decide (3 = k)), .bl (decide (4 = k))])) : w_l_raised [.int k, x] R := by
  unfold w_l_raised p_l_raised p_l_raised_1
  walk_at "dl"
  have hk : k = 0 ∨ k = 1 ∨ k = 2 ∨ k = 3 ∨ k = 4 := by omega
  rcases hk with rfl | rfl | rfl | rfl | rfl
  · rw [if_pos rfl]
    refine q_rz fun a dx hd => ?_
    exact ⟨isE_some rfl hd, isE_some rfl hd, isE_some rfl hd, isE_some rfl hd, isE_some rfl hd, sz_small (by decide), h⟩
  · rw [if_neg (by decide), if_pos rfl]
    refine q_rz fun a dx hd => ?_
    exact ⟨isE_some rfl hd, isE_some rfl hd, isE_some rfl hd, isE_some rfl hd, isE_some rfl hd, sz_small (by decide), h⟩
  · rw [if_neg (by decide), if_neg (by decide), if_pos rfl]
    refine q_rz fun a dx hd => ?_
    exact ⟨isE_some rfl hd, isE_some rfl hd, isE_some rfl hd, isE_some rfl hd, isE_some rfl hd, sz_small (by decide), h⟩
  · rw [if_neg (by decide), if_neg (by decide), if_neg (by decide), if_pos rfl]
    refine q_rz fun a dx hd => ?_
    exact ⟨isE_some rfl hd, isE_some rfl hd, isE_some rfl hd, isE_some rfl hd, isE_some rfl hd, sz_small (by decide), h⟩
  · rw [if_neg (by decide), if_neg (by decide), if_neg (by decide), if_neg (by decide)]
    refine q_rz fun a dx hd => ?_
    exact ⟨isE_some rfl hd, isE_some rfl hd, isE_some rfl hd, isE_some rfl hd, isE_some rfl hd, sz_small (by decide), h⟩
theorem q_sh (t : D) (ht : ThD t) (ex : List D) (x0 x1 x2 x3 x4 x5 x8 : Option D) (N : PEnv → Prop) (DD : DEnds) (hN : N [x0, x1, x2, x3, x4, x5, some (.lst (.err .noName t :: .err .noText t :: .err .tooMany t :: ex)), some t, x8]) : b_law_1 { DD with nx := N } [x0, x1, x2, x3, x4, x5, some (.lst (.err .noName t :: .err .noText t :: .err .tooMany t :: ex)), some t, x8] := by
  unfold b_law_1
  walk_at "dl"
  have sh := sh3 ht
  refine ⟨rfl, rfl, rfl, sh, ⟨by decide, by decide, by show 1 * 3 ≤ sizeLine; exact sz_small (by decide)⟩, sh, ?_⟩
  rw [if_neg (by rw [show (List.replicate (Int.toNat 3) [t]).flatten = [t, t, t] from rfl]; simp)]
  exact hN
def made3 (x : D) : List D := [.err .noName x, .err .noText x, .err .tooMany x]
def made (x : D) : List D := [.err .noName x, .err .noText x, .err .tooMany x, .err .notPaper .non, .err .noDeed .non]
theorem q_law (ns : List Int) (hn : ns.length ≤ 63) : w_law [.scr ns] fun d => d = .bl true := by
  unfold w_law p_law
  walk_at "dl"
  refine q_deal ns hn _ ?_
  unfold p_law_1
  walk_at "dl"
  refine q_thing _ fun x hx => ?_
  walk_at "dl"
  refine q_thing _ fun y hy => ?_
  unfold p_law_2
  walk_at "dl"
  unfold p_law_3
  walk_at "dl"
  unfold p_law_4
  walk_at "dl"
  refine forI (fun rest ρ => (∀ d ∈ rest, ∃ (t : D) (ex : List D), ThD t ∧ d = .tup [.lst (.err .noName t :: .err .noText t :: .err .tooMany t :: ex), t]) ∧ ∃ o6 o7 o8 : Option D, ρ = [some (.scr ns), some .deal, some x, some y, some (.lst (made x)), some (.lst (made3 y)), o6, o7, o8]) ?_ ?_ _ _ ⟨fun d hd => ?_, none, none, none, rfl⟩
  · rintro d rest ρ N ⟨hd, o6, o7, o8, rfl⟩ hN
    obtain ⟨t, ex, ht, rfl⟩ := hd d (by simp)
    exact q_sh t ht ex _ _ _ _ _ _ _ _ _ (hN _ ⟨fun d hd' => hd d (by simp [hd']), _, _, _, rfl⟩)
  · rintro ρ ⟨_, o6, o7, o8, rfl⟩
    unfold p_law_5
    walk_at "dl"
    refine ⟨by unfold small62; omega, ?_⟩
    refine forI (fun rest ρ => (∀ d ∈ rest, ∃ k : Int, d = .int k ∧ 0 ≤ k ∧ k < 5) ∧ ∃ o8 : Option D, ρ = [some (.scr ns), some .deal, some x, some y, some (.lst (made x)), some (.lst (made3 y)), o6, o7, o8]) ?_ ?_ _ _ ⟨fun d hd => ?_, o8, rfl⟩
    · rintro d rest ρ N ⟨hd, o8, rfl⟩ hN
      obtain ⟨k, rfl, k0, k1⟩ := hd d (by simp)
      unfold b_law_2
      walk_at "dl"
      have go : ∀ (n : XC) (t : D), (L2.atI (made x) k = some (.err n t)) → (eqD (.lst [.bl true, .bl true, .bl (n.sub (some .noName)), .bl (n.sub (some .noText)), .bl (n.sub (some .tooMany)), .bl (n.sub (some .notPaper)), .bl (n.sub (some .noDeed))]) (.lst [.bl true, .bl true, .bl (decide (0 = k)), .bl (decide (1 = k)), .bl (decide (2 = k)), .bl (decide (3 = k)), .bl (decide (4 = k))]) = true) → ∃ d, L2.atI (made x) k = some d ∧ w_l_sorts [d] fun x_1 => w_l_due [D.int k] fun y_1 => (okD 60 x_1 = true ∧ okD 60 y_1 = true) ∧ if (!eqD x_1 y_1) = true then D.bl false = D.bl true else w_l_raised [D.int k, x] fun x_2 => w_l_due [D.int k] fun x_3 => dSl x_3 (some 2) none fun y_2 => (okD 60 x_2 = true ∧ okD 60 y_2 = true) ∧ if (!eqD x_2 y_2) = true then D.bl false = D.bl true else N [some (D.scr ns), some D.deal, some x, some y, some (D.lst (made x)), some (D.lst (made3 y)), o6, o7, some (D.int k)] := fun n t hat heq => by
        refine ⟨_, hat, q_sorts n t _ (q_due k _ ⟨⟨rfl, rfl⟩, ?_⟩)⟩
        rw [heq, if_neg (by decide)]
        refine q_raised k k0 k1 x _ (q_due k _ ?_)
        show (okD 60 _ = true ∧ okD 60 _ = true) ∧ _
        refine ⟨⟨rfl, rfl⟩, ?_⟩
        rw [if_neg]
        · exact hN _ ⟨fun d hd' => hd d (by simp [hd']), _, rfl⟩
        · have ec : cutD [D.bl true, D.bl true, D.bl (decide (0 = k)), D.bl (decide (1 = k)), D.bl (decide (2 = k)), D.bl (decide (3 = k)), D.bl (decide (4 = k))] (some 2) none = [D.bl (decide (0 = k)), D.bl (decide (1 = k)), D.bl (decide (2 = k)), D.bl (decide (3 = k)), D.bl (decide (4 = k))] := rfl
          rw [ec, eq_refl (.lst [D.bl (decide (0 = k)), D.bl (decide (1 = k)), D.bl (decide (2 = k)), D.bl (decide (3 = k)), D.bl (decide (4 = k))]) 60 rfl]
          decide
      have hk : k = 0 ∨ k = 1 ∨ k = 2 ∨ k = 3 ∨ k = 4 := by omega
      rcases hk with rfl | rfl | rfl | rfl | rfl
      · exact go .noName x rfl (by decide +kernel)
      · exact go .noText x rfl (by decide +kernel)
      · exact go .tooMany x rfl (by decide +kernel)
      · exact go .notPaper .non rfl (by decide +kernel)
      · exact go .noDeed .non rfl (by decide +kernel)
    · rintro ρ ⟨_, o8, rfl⟩
      unfold p_law_6
      walk_at "dl"
      refine ⟨by unfold small62; omega, by rw [range_len]; exact sz_small (by decide), ?_⟩
      show compR _ _ _ _ ((List.range 3).map fun i : Nat => D.int (i : Int)) _ _
      refine compG (fun i : Nat => D.int (i : Int)) (fun i : Nat => .bl true) (List.range 3) [] _ (fun i hi R' hR => ?_) ?_
      · walk_at "dl"
        have go : ∀ (n : XC), (L2.atI (made3 y) (i : Int) = some (.err n y)) → (eqD (.lst [.bl true, .bl true, .bl (n.sub (some .noName)), .bl (n.sub (some .noText)), .bl (n.sub (some .tooMany)), .bl (n.sub (some .notPaper)), .bl (n.sub (some .noDeed))]) (.lst [.bl true, .bl true, .bl (decide (0 = (i : Int))), .bl (decide (1 = (i : Int))), .bl (decide (2 = (i : Int))), .bl (decide (3 = (i : Int))), .bl (decide (4 = (i : Int)))]) = true) → ∃ d, L2.atI (made3 y) (i : Int) = some d ∧ w_l_sorts [d] fun x_1 => w_l_due [D.int (i : Int)] fun y_1 => (okD 60 x_1 = true ∧ okD 60 y_1 = true) ∧ R' (.bl (eqD x_1 y_1)) := fun n hat heq => by
          refine ⟨_, hat, q_sorts n y _ (q_due _ _ ⟨⟨rfl, rfl⟩, ?_⟩)⟩
          rw [heq]
          exact hR
        have hi := List.mem_range.mp hi
        have hk : i = 0 ∨ i = 1 ∨ i = 2 := by omega
        rcases hk with rfl | rfl | rfl
        · exact go .noName rfl (by decide +kernel)
        · exact go .noText rfl (by decide +kernel)
        · exact go .tooMany rfl (by decide +kernel)
      · exact ⟨[true, true, true], rfl, rfl⟩
    · unfold rangeD at hd
      obtain ⟨i, hi, rfl⟩ := List.mem_map.mp hd
      exact ⟨_, rfl, by omega, by have := List.mem_range.mp hi; omega⟩
  · simp only [List.mem_cons, List.not_mem_nil, or_false] at hd
    rcases hd with rfl | rfl | rfl
    · exact ⟨x, _, hx, rfl⟩
    · exact ⟨y, _, hy, rfl⟩
    · exact ⟨x, _, hx, rfl⟩
end DL

set_option Elab.async false
set_option linter.all false
set_option maxRecDepth 100000
set_option maxHeartbeats 4000000
namespace DL
open PySem PySem.Spec PyProof.Rows L2

def topS (i : Nat) : Stmt := PySem.Challenge.pw_healfloor_k14_refusals_made.main.body.getD i (.Pass ⟨0, 0, 0, 0⟩)
abbrev s_l_deal : Stmt := topS 8
abbrev N_l_deal : List Str := ["_law_script", "_law_base", "_law_cells", "_law_number", "_law_cell"]
theorem sc_l_deal : FnScope N_l_deal ["_law_script", "_law_base"] (defScope s_l_deal) := ⟨rfl, rfl, rfl, by decide +kernel, rfl, by decide +kernel, by decide +kernel⟩
abbrev s_l_draw : Stmt := topS 9
abbrev N_l_draw : List Str := ["_law_deal_here", "_law_many", "_law_number", "_law_one", "_law_other"]
theorem sc_l_draw : FnScope N_l_draw ["_law_deal_here", "_law_many"] (defScope s_l_draw) := ⟨rfl, rfl, rfl, by decide +kernel, rfl, by decide +kernel, by decide +kernel⟩
abbrev s_l_thing : Stmt := topS 10
abbrev N_l_thing : List Str := ["_law_deal_here", "_law_letters", "_law_some", "_law_k"]
theorem sc_l_thing : FnScope N_l_thing ["_law_deal_here"] (defScope s_l_thing) := ⟨rfl, rfl, rfl, by decide +kernel, rfl, by decide +kernel, by decide +kernel⟩
abbrev s_l_sorts : Stmt := topS 11
abbrev N_l_sorts : List Str := ["_law_error", "_law_found"]
theorem sc_l_sorts : FnScope N_l_sorts ["_law_error"] (defScope s_l_sorts) := ⟨rfl, rfl, rfl, by decide +kernel, rfl, by decide +kernel, by decide +kernel⟩
abbrev s_l_due : Stmt := topS 12
abbrev N_l_due : List Str := ["_law_at", "_law_k"]
theorem sc_l_due : FnScope N_l_due ["_law_at"] (defScope s_l_due) := ⟨rfl, rfl, rfl, by decide +kernel, rfl, by decide +kernel, by decide +kernel⟩
abbrev s_l_raised : Stmt := topS 13
abbrev N_l_raised : List Str := ["_law_at", "_law_thing_here", "_law_found", "e"]
theorem sc_l_raised : FnScope N_l_raised ["_law_at", "_law_thing_here"] (defScope s_l_raised) := ⟨rfl, rfl, rfl, by decide +kernel, rfl, by decide +kernel, by decide +kernel⟩
abbrev s_law : Stmt := topS 14
abbrev N_law : List Str := ["_law_script", "_law_deal_here", "_law_one", "_law_other", "_law_made", "_law_beside", "_law_some", "_law_thing_here", "_law_at"]
theorem sc_law : FnScope N_law ["_law_script"] (defScope s_law) := ⟨rfl, rfl, rfl, by decide +kernel, rfl, by decide +kernel, by decide +kernel⟩
abbrev i_NoDeed : Stmt := mth (topS 6) 0
theorem sci_NoDeed : FnScope ["self"] ["self"] (defScope i_NoDeed) := ⟨rfl, rfl, rfl, by decide +kernel, rfl, by decide +kernel, by decide +kernel⟩
abbrev i_NoName : Stmt := mth (topS 2) 0
theorem sci_NoName : FnScope ["self", "name"] ["self", "name"] (defScope i_NoName) := ⟨rfl, rfl, rfl, by decide +kernel, rfl, by decide +kernel, by decide +kernel⟩
abbrev i_NoText : Stmt := mth (topS 3) 0
theorem sci_NoText : FnScope ["self", "row"] ["self", "row"] (defScope i_NoText) := ⟨rfl, rfl, rfl, by decide +kernel, rfl, by decide +kernel, by decide +kernel⟩
abbrev i_NotPaper : Stmt := mth (topS 5) 0
theorem sci_NotPaper : FnScope ["self"] ["self"] (defScope i_NotPaper) := ⟨rfl, rfl, rfl, by decide +kernel, rfl, by decide +kernel, by decide +kernel⟩
abbrev i_TooMany : Stmt := mth (topS 4) 0
theorem sci_TooMany : FnScope ["self", "many"] ["self", "many"] (defScope i_TooMany) := ⟨rfl, rfl, rfl, by decide +kernel, rfl, by decide +kernel, by decide +kernel⟩
structure Txt (K : PySem.W.Frag) (mg : Str → Option Value) : Prop where
  xf : ∀ n ∈ rsL, XFact K mg tsL n
  xm : ∀ t ∈ tsL, ∃ D, mg (XC.tn t) = some (.ref D)
  g_ValueError : mg "ValueError" = none
  g_all : mg "all" = none
  g_isinstance : mg "isinstance" = none
  g_len : mg "len" = none
  g_list : mg "list" = none
  g_max : mg "max" = none
  g_range : mg "range" = none
  g_repr : mg "repr" = none
  g_reversed : mg "reversed" = none
section
open DLX L2H
variable {P : Program} {w : World} {K : PySem.W.Frag} {mg : Str → Option Value} {base : Heap}
theorem ini_NoDeed {C CF f : Addr} {fd : FuncData} (F : L2.Fun K "__init__" "NoDeed.__init__" i_NoDeed f fd) (O : XOne K .noDeed C) (B : FeC K CF) (hm : mg "FloorError" = some (.ref CF)) : FnOk P w K mg base CX0 1 f fd ["self"] (spInit0 C) :=
  F.ok sci_NoDeed (fun vs H Q E ⟨_, h, _⟩ => by subst h; rfl) (fun cdv A outer s H vs Q E hr h => ⟨_, pss_one (ps_expr (pe_feinit B rfl hm (L2.pa_cons (pv 0) (L2.pa_cons pe_str L2.pa_nil)))), init0_read O.oex h⟩)
theorem ini_NoName {C CF f : Addr} {fd : FuncData} (F : L2.Fun K "__init__" "NoName.__init__" i_NoName f fd) (O : XOne K .noName C) (B : FeC K CF) (hm : mg "FloorError" = some (.ref CF)) : FnOk P w K mg base CX0 1 f fd ["self", "name"] (spInit K C "name") :=
  F.ok sci_NoName (fun vs H Q E ⟨_, _, h, _⟩ => by subst h; rfl) (fun cdv A outer s H vs Q E hr h => ⟨_, pss_cons (ps_expr (pe_feinit B rfl hm (L2.pa_cons (pv 0) (L2.pa_cons pe_str L2.pa_nil)))) (pss_one (ps_ost (pv 0) (pv 1))), init_read O.oex (O.fl _ rfl) h⟩)
theorem ini_NoText {C CF f : Addr} {fd : FuncData} (F : L2.Fun K "__init__" "NoText.__init__" i_NoText f fd) (O : XOne K .noText C) (B : FeC K CF) (hm : mg "FloorError" = some (.ref CF)) : FnOk P w K mg base CX0 1 f fd ["self", "row"] (spInit K C "row") :=
  F.ok sci_NoText (fun vs H Q E ⟨_, _, h, _⟩ => by subst h; rfl) (fun cdv A outer s H vs Q E hr h => ⟨_, pss_cons (ps_expr (pe_feinit B rfl hm (L2.pa_cons (pv 0) (L2.pa_cons pe_str L2.pa_nil)))) (pss_one (ps_ost (pv 0) (pv 1))), init_read O.oex (O.fl _ rfl) h⟩)
theorem ini_NotPaper {C CF f : Addr} {fd : FuncData} (F : L2.Fun K "__init__" "NotPaper.__init__" i_NotPaper f fd) (O : XOne K .notPaper C) (B : FeC K CF) (hm : mg "FloorError" = some (.ref CF)) : FnOk P w K mg base CX0 1 f fd ["self"] (spInit0 C) :=
  F.ok sci_NotPaper (fun vs H Q E ⟨_, h, _⟩ => by subst h; rfl) (fun cdv A outer s H vs Q E hr h => ⟨_, pss_one (ps_expr (pe_feinit B rfl hm (L2.pa_cons (pv 0) (L2.pa_cons pe_str L2.pa_nil)))), init0_read O.oex h⟩)
theorem ini_TooMany {C CF f : Addr} {fd : FuncData} (F : L2.Fun K "__init__" "TooMany.__init__" i_TooMany f fd) (O : XOne K .tooMany C) (B : FeC K CF) (hm : mg "FloorError" = some (.ref CF)) : FnOk P w K mg base CX0 1 f fd ["self", "many"] (spInit K C "many") :=
  F.ok sci_TooMany (fun vs H Q E ⟨_, _, h, _⟩ => by subst h; rfl) (fun cdv A outer s H vs Q E hr h => ⟨_, pss_cons (ps_expr (pe_feinit B rfl hm (L2.pa_cons (pv 0) (L2.pa_cons pe_str L2.pa_nil)))) (pss_one (ps_ost (pv 0) (pv 1))), init_read O.oex (O.fl _ rfl) h⟩)
theorem ok_l_deal {f : Addr} {fd : FuncData} (F : Fun K "_law_deal" "_law_deal" s_l_deal f fd) (hm : mg "_law_deal" = some (.ref f)) (hb : Binds K fd ["_law_script", "_law_base"] []) (T : Txt K mg) : DefD P w K mg base "_law_deal" 2 2 .strong w_l_deal := by
  refine ⟨f, fd, ["_law_script", "_law_base"], ?_, hm, F.kp, hb⟩
  refine fn_d (k := 1) (N := N_l_deal) (own := []) (fr := true) (ko := .strong) (p := p_l_deal) F sc_l_deal rfl (by decide) (by decide) (fun cdv A outer s H E hr => ?_)
  exact (s_cons (own' := []) (s_setLc 2 rfl sc_l_deal.nd (i_seqW (e_weak (e_sl (e_weak (e_var 0)) (o_some (e_weak (e_var 1))) (o_some (e_weak e_int))))) (blkOk_by (own := [("_law_cell", 4)]) (N := N_l_deal) (sc := (defScope s_l_deal)) (by decide +kernel)) (fun _ _ _ _ _ => (pg_name (i := 4) sc_l_deal.nd rfl (by first | exact Or.inl rfl | exact Or.inr rfl))) (tg_name (by decide)) (fun _ _ _ _ _ => ts_nil) (fun _ _ _ _ _ => (e_callB (call_max2 rfl) c_max2 (a_cons (e_weak (e_var 4)) (a_cons (e_weak (e_op op_sub c_sub (e_weak e_int) (e_weak (e_var 4)))) a_nil)) T.g_max))) (s_cons (own' := []) (s_set 3 sc_l_deal.nd (e_op o_add c_add (e_weak e_int) (e_weak (e_var 1)))) (s_cons (own' := []) (s_for PassesOwn.never rfl (i_seqS (e_var 2)) (pg_name (i := 4) sc_l_deal.nd rfl (by first | exact Or.inl rfl | exact Or.inr rfl)) (tg_name (by decide)) (s_one (s_set 3 sc_l_deal.nd (e_op op_modN c_mod (e_weak (e_op o_add c_add (e_weak (e_op o_mul c_mul (e_weak (e_var 3)) (e_weak e_int))) (e_weak (e_op op_modN c_mod (e_weak (e_var 4)) (e_weak e_int))))) (e_weak e_int))))) (s_one (s_retDeal (ps_ret (pe_disp (pps_cons pe_str (e_var 3) (pps_cons pe_str pe_int (pps_cons pe_str (e_lstRev rfl T.g_list T.g_reversed (e_weak (e_comp rfl sc_l_deal.nd (i_seqW (e_weak (e_var 2))) (blkOk_by (own := [("_law_cell", 4)]) (N := N_l_deal) (sc := (defScope s_l_deal)) (by decide +kernel)) (fun _ _ _ _ _ => (pg_name (i := 4) sc_l_deal.nd rfl (by first | exact Or.inl rfl | exact Or.inr rfl))) (tg_name (by decide)) (fun _ _ _ _ _ => (ts_one (t_cmp (ko := .strong) op_ge c_geI (e_weak (e_var 4)) (e_weak (e_op op_pow c_pow (e_weak e_int) (e_weak e_int)))))) (fun _ _ _ _ _ => (e_var 4))))) pps_nil))) (by rfl) (by rfl) (fun z => by cases z) (by decide))))))))
theorem ok_l_draw {f : Addr} {fd : FuncData} (F : Fun K "_law_draw" "_law_draw" s_l_draw f fd) (hm : mg "_law_draw" = some (.ref f)) (hb : Binds K fd ["_law_deal_here", "_law_many"] []) (T : Txt K mg) : DefD P w K mg base "_law_draw" 1 2 .strong w_l_draw := by
  refine ⟨f, fd, ["_law_deal_here", "_law_many"], ?_, hm, F.kp, hb⟩
  refine F.ok sc_l_draw (fun vs H Q E h => h.1) (fun cdv A outer s H vs Q E hr h => ⟨tDrawA K, ?_, draw_read rfl h⟩)
  have hu := hu_of hr
  exact pss_cons (ps_while PassesOwn.never (PW.pt (pw_and (pt_cmpR op_eq (pe_dget hu (pv 0) pe_str (fun _ _ => rfl)) pe_int (nomark _)) (pw_and1 (pt_cmpR op_gt (pe_callB b_len (by rfl) T.g_len (by decide +kernel) (L2.pa_cons (pe_dget hu (pv 0) pe_str (fun _ _ => rfl)) L2.pa_nil)) pe_int (nomark _)))))
      (pss_one (ps_dput hu (pv 0) pe_str (pe_bm0 PySem.F.plainAttrs_list PySem.F.slot_list_pop PySem.F.type_list_pop mt_pop (pe_dget hu (pv 0) pe_str (fun _ _ => rfl))) rfl)))
    (pss_cons (ps_set (i := 2) sc_l_draw.nd rfl (Or.inl rfl) (pe_dget hu (pv 0) pe_str (fun _ _ => rfl)))
    (pss_cons (ps_if (pt_cmpR op_gt (pv 2) pe_int (nomark _)) (pss_cons (ps_dput hu (pv 0) pe_str (pe_op o_fdiv (pv 2) (pv 1)) rfl) (pss_one (ps_ret (pe_op op_modN (pv 2) (pv 1))))) pss_nil)
    (pss_cons (ps_set (i := 3) sc_l_draw.nd rfl (Or.inl rfl) (pe_op op_modN (pe_op op_add (pe_op op_mulW (pe_dget hu (pv 0) pe_str (fun _ _ => rfl)) pe_int) pe_int) pe_int))
    (pss_cons (ps_dput hu (pv 0) pe_str (pe_op op_modN (pe_op op_add (pe_op op_mulW (pv 3) pe_int) pe_int) pe_int) rfl)
    (pss_cons (ps_set (i := 4) sc_l_draw.nd rfl (Or.inl rfl) (pe_op op_modN (pe_op op_mulW (pe_dget hu (pv 0) pe_str (fun _ _ => rfl)) (pe_dget hu (pv 0) pe_str (fun _ _ => rfl))) pe_int))
    (pss_one (ps_ret (pe_op op_modN (pe_op op_add (pe_op op_mulW (pe_op op_modN (pe_op op_mulW (pv 3) (pv 3)) pe_int) pe_int) (pv 4)) (pv 1)))))))))
theorem ok_l_thing {f : Addr} {fd : FuncData} (F : Fun K "_law_thing" "_law_thing" s_l_thing f fd) (hm : mg "_law_thing" = some (.ref f)) (hb : Binds K fd ["_law_deal_here"] []) (T : Txt K mg) (D_l_draw : DefD P w K mg base "_law_draw" 1 2 .strong w_l_draw) : DefD P w K mg base "_law_thing" 2 1 .strong w_l_thing := by
  refine ⟨f, fd, ["_law_deal_here"], ?_, hm, F.kp, hb⟩
  refine fn_d (k := 1) (N := N_l_thing) (own := [2]) (fr := true) (ko := .strong) (p := p_l_thing) F sc_l_thing rfl (by decide) (by decide) (fun cdv A outer s H E hr => ?_)
  exact (s_cons (own' := [2]) (s_set 1 sc_l_thing.nd e_str) (s_cons (own' := [2]) (s_setO 2 sc_l_thing.nd (e_lst (a_consS (e_op op_sub c_sub (e_weak (e_callD D_l_draw (hr.mono (by decide)) (a_consS (e_var 0) (a_consS (e_op op_pow c_pow (e_weak e_int) (e_weak e_int)) a_nil)))) (e_weak (e_op op_pow c_pow (e_weak e_int) (e_weak e_int)))) (a_consS e_non (a_consS (e_cmp (op_eqD hr.units) c_eq (e_weak (e_callD D_l_draw (hr.mono (by decide)) (a_consS (e_var 0) (a_consS e_int a_nil)))) (e_weak e_int)) a_nil))))) (s_cons (own' := [2]) (s_app 2 (ps_expr (pe_bm PySem.F.plainAttrs_list PySem.F.slot_list_append PySem.F.type_list_append mt_append (pv 2) (L2.pa_cons (e_join (e_weak e_str) (e_weak (e_comp rfl sc_l_thing.nd (i_rng1 T.g_range (a_cons (e_weak (e_callD D_l_draw (hr.mono (by decide)) (a_consS (e_var 0) (a_consS e_int a_nil)))) a_nil)) (blkOk_by (own := [("_law_k", 3)]) (N := N_l_thing) (sc := (defScope s_l_thing)) (by decide +kernel)) (fun _ _ _ _ _ => (pg_name (i := 3) sc_l_thing.nd rfl (by first | exact Or.inl rfl | exact Or.inr rfl))) (tg_name (by decide)) (fun _ _ _ _ _ => ts_nil) (fun _ _ _ _ _ => (e_ix (ix_all hr) c_ixA (e_weak (e_var 1)) (e_weak (e_callD D_l_draw (hr.mono (by decide)) (a_consS (e_var 0) (a_consS e_int a_nil))))))))) L2.pa_nil)))) (s_cons (own' := []) (s_app 2 (ps_expr (pe_bm PySem.F.plainAttrs_list PySem.F.slot_list_append PySem.F.type_list_append mt_append (pv 2) (L2.pa_cons (e_tup (a_consS (e_callD D_l_draw (hr.mono (by decide)) (a_consS (e_var 0) (a_consS e_int a_nil))) (a_consS (e_callD D_l_draw (hr.mono (by decide)) (a_consS (e_var 0) (a_consS e_int a_nil))) a_nil))) L2.pa_nil)))) (s_one (s_ret (e_ix (ix_all hr) c_ixA (e_weak (e_var 2)) (e_weak (e_callD D_l_draw (hr.mono (by decide)) (a_consS (e_var 0) (a_consS e_int a_nil)))))))))))
theorem ok_l_sorts {f : Addr} {fd : FuncData} (F : Fun K "_law_sorts" "_law_sorts" s_l_sorts f fd) (hm : mg "_law_sorts" = some (.ref f)) (hb : Binds K fd ["_law_error"] []) (T : Txt K mg) : DefD P w K mg base "_law_sorts" 2 1 .strong w_l_sorts := by
  refine ⟨f, fd, ["_law_error"], ?_, hm, F.kp, hb⟩
  refine fn_d (k := 1) (N := N_l_sorts) (own := [1]) (fr := true) (ko := .strong) (p := p_l_sorts) F sc_l_sorts rfl (by decide) (by decide) (fun cdv A outer s H E hr => ?_)
  exact (s_cons (own' := [1]) (s_setO 1 sc_l_sorts.nd (e_lst (a_consS (e_isErr none T.xf xall (by decide) (T.xm none (by decide)) T.g_isinstance (e_var 0)) (a_consS (e_isErrV T.xf xall T.g_isinstance T.g_ValueError (e_var 0)) a_nil)))) (s_cons (own' := [1]) (s_setO 1 sc_l_sorts.nd (e_op op_cat c_cat (e_varO 1) (e_weak (e_lst (a_consS (e_isErr (some .noName) T.xf xall (by decide) (T.xm (some .noName) (by decide)) T.g_isinstance (e_var 0)) (a_consS (e_isErr (some .noText) T.xf xall (by decide) (T.xm (some .noText) (by decide)) T.g_isinstance (e_var 0)) a_nil)))))) (s_cons (own' := []) (s_app 1 (ps_expr (pe_bm PySem.F.plainAttrs_list PySem.F.slot_list_append PySem.F.type_list_append mt_append (pv 1) (L2.pa_cons (e_isErr (some .tooMany) T.xf xall (by decide) (T.xm (some .tooMany) (by decide)) T.g_isinstance (e_var 0)) L2.pa_nil)))) (s_one (s_ret (e_op o_add c_add (e_weak (e_var 1)) (e_weak (e_lst (a_consS (e_isErr (some .notPaper) T.xf xall (by decide) (T.xm (some .notPaper) (by decide)) T.g_isinstance (e_var 0)) (a_consS (e_isErr (some .noDeed) T.xf xall (by decide) (T.xm (some .noDeed) (by decide)) T.g_isinstance (e_var 0)) a_nil))))))))))
theorem ok_l_due {f : Addr} {fd : FuncData} (F : Fun K "_law_due" "_law_due" s_l_due f fd) (hm : mg "_law_due" = some (.ref f)) (hb : Binds K fd ["_law_at"] []) (T : Txt K mg) : DefD P w K mg base "_law_due" 2 1 .strong w_l_due := by
  refine ⟨f, fd, ["_law_at"], ?_, hm, F.kp, hb⟩
  refine fn_d (k := 1) (N := N_l_due) (own := []) (fr := true) (ko := .strong) (p := p_l_due) F sc_l_due rfl (by decide) (by decide) (fun cdv A outer s H E hr => ?_)
  exact (s_one (s_ret (e_op o_add c_add (e_weak (e_lst (a_consS e_bl (a_consS e_bl a_nil)))) (e_weak (e_comp rfl sc_l_due.nd (i_rng1 T.g_range (a_cons (e_weak e_int) a_nil)) (blkOk_by (own := [("_law_k", 1)]) (N := N_l_due) (sc := (defScope s_l_due)) (by decide +kernel)) (fun _ _ _ _ _ => (pg_name (i := 1) sc_l_due.nd rfl (by first | exact Or.inl rfl | exact Or.inr rfl))) (tg_name (by decide)) (fun _ _ _ _ _ => ts_nil) (fun _ _ _ _ _ => (e_cmp (op_eqD hr.units) c_eq (e_weak (e_var 1)) (e_weak (e_var 0)))))))))
theorem ok_l_raised {f : Addr} {fd : FuncData} (F : Fun K "_law_raised" "_law_raised" s_l_raised f fd) (hm : mg "_law_raised" = some (.ref f)) (hb : Binds K fd ["_law_at", "_law_thing_here"] []) (T : Txt K mg) (X_NoDeed : XCls0 P w K mg base .noDeed) (X_NoName : XCls P w K mg base .noName) (X_NoText : XCls P w K mg base .noText) (X_NotPaper : XCls0 P w K mg base .notPaper) (X_TooMany : XCls P w K mg base .tooMany) : DefD P w K mg base "_law_raised" 3 2 .strong w_l_raised := by
  refine ⟨f, fd, ["_law_at", "_law_thing_here"], ?_, hm, F.kp, hb⟩
  refine fn_d (k := 2) (N := N_l_raised) (own := []) (fr := true) (ko := .strong) (p := p_l_raised) F sc_l_raised rfl (by decide) (by decide) (fun cdv A outer s H E hr => ?_)
  exact (s_cons (own' := []) (s_set 2 sc_l_raised.nd e_non) (s_cons (own' := []) (s_tryAs rsL none tsL 3 (by decide) T.xf (T.xm none (by decide)) tk0 sc_l_raised.nd (fun xw pn xe tk hp => (s_cons (own' := []) (s_if (t_cmp (ko := .strong) (op_eqD hr.units) c_eq (e_weak (e_var 0)) (e_weak e_int)) (s_one (s_raise (n := .noName) X_NoName (hr.mono (by decide)) rfl tk (e_var 1))) s_nil) (s_cons (own' := []) (s_if (t_cmp (ko := .strong) (op_eqD hr.units) c_eq (e_weak (e_var 0)) (e_weak e_int)) (s_one (s_raise (n := .noText) X_NoText (hr.mono (by decide)) rfl tk (e_var 1))) s_nil) (s_cons (own' := []) (s_if (t_cmp (ko := .strong) (op_eqD hr.units) c_eq (e_weak (e_var 0)) (e_weak e_int)) (s_one (s_raise (n := .tooMany) X_TooMany (hr.mono (by decide)) rfl tk (e_var 1))) s_nil) (s_cons (own' := []) (s_if (t_cmp (ko := .strong) (op_eqD hr.units) c_eq (e_weak (e_var 0)) (e_weak e_int)) (s_one (s_raise0 (n := .notPaper) X_NotPaper (hr.mono (by decide)) rfl tk)) s_nil) (s_one (s_raise0 (n := .noDeed) X_NoDeed (hr.mono (by decide)) rfl tk))))))) (fun n hn a C oe d pn hz hf hns => (s_cons (own' := []) (s_set 2 sc_l_raised.nd (e_strong (e_lst (a_consS (e_is 3 (some .noName) (T.xf n hn) (by decide) hns List.mem_cons_self hz.zc hf T.g_isinstance) (a_consS (e_is 3 (some .noText) (T.xf n hn) (by decide) hns List.mem_cons_self hz.zc hf T.g_isinstance) (a_consS (e_is 3 (some .tooMany) (T.xf n hn) (by decide) hns List.mem_cons_self hz.zc hf T.g_isinstance) a_nil)))))) (s_one (s_set 2 sc_l_raised.nd (e_op o_add c_add (e_weak (e_var 2)) (e_weak (e_lst (a_consS (e_is 3 (some .notPaper) (T.xf n hn) (by decide) hns List.mem_cons_self hz.zc hf T.g_isinstance) (a_consS (e_is 3 (some .noDeed) (T.xf n hn) (by decide) hns List.mem_cons_self hz.zc hf T.g_isinstance) a_nil)))))))))) (s_one (s_ret (e_var 2)))))
theorem ok_law {f : Addr} {fd : FuncData} (F : Fun K "law" "law" s_law f fd) (T : Txt K mg) (D_l_deal : DefD P w K mg base "_law_deal" 2 2 .strong w_l_deal) (D_l_thing : DefD P w K mg base "_law_thing" 2 1 .strong w_l_thing) (D_l_raised : DefD P w K mg base "_law_raised" 3 2 .strong w_l_raised) (D_l_due : DefD P w K mg base "_law_due" 2 1 .strong w_l_due) (D_l_sorts : DefD P w K mg base "_law_sorts" 2 1 .strong w_l_sorts) (X_NoDeed : XCls0 P w K mg base .noDeed) (X_NoName : XCls P w K mg base .noName) (X_NoText : XCls P w K mg base .noText) (X_NotPaper : XCls0 P w K mg base .notPaper) (X_TooMany : XCls P w K mg base .tooMany) : GOk P w K mg base 4 f fd ["_law_script"] (spD K 1 .strong w_law) := by
  refine g_fnD (k := 3) (N := N_law) (own := []) (fr := true) (ko := .strong) (p := p_law) F sc_law rfl (by decide) (by decide) (fun cdv A outer s H E hr hgd => ?_)
  exact (s_cons (own' := []) (s_set 1 sc_law.nd (e_callD D_l_deal (hr.mono (by decide)) (a_consS (e_var 0) (a_consS e_int a_nil)))) (s_cons (own' := []) (s_par 2 3 rfl sc_law.nd (a_consS (e_callD D_l_thing (hr.mono (by decide)) (a_consS (e_var 1) a_nil)) (a_consS (e_callD D_l_thing (hr.mono (by decide)) (a_consS (e_var 1) a_nil)) a_nil))) (s_cons (own' := []) (s_set 4 sc_law.nd (e_strong (e_lst (a_consS (e_mkE (n := .noName) X_NoName (hr.mono (by decide)) (e_var 2)) (a_consS (e_mkE (n := .noText) X_NoText (hr.mono (by decide)) (e_var 2)) (a_consS (e_mkE (n := .tooMany) X_TooMany (hr.mono (by decide)) (e_var 2)) (a_consS (e_mkE0 (n := .notPaper) X_NotPaper (hr.mono (by decide))) (a_consS (e_mkE0 (n := .noDeed) X_NoDeed (hr.mono (by decide))) a_nil)))))))) (s_cons (own' := []) (s_set 5 sc_law.nd (e_strong (e_lst (a_consS (e_mkE (n := .noName) X_NoName (hr.mono (by decide)) (e_var 3)) (a_consS (e_mkE (n := .noText) X_NoText (hr.mono (by decide)) (e_var 3)) (a_consS (e_mkE (n := .tooMany) X_TooMany (hr.mono (by decide)) (e_var 3)) a_nil)))))) (s_cons (own' := []) (s_for PassesOwn.never rfl (i_seqS (e_tup (a_consS (e_tup (a_consS (e_var 4) (a_consS (e_var 2) a_nil))) (a_consS (e_tup (a_consS (e_var 5) (a_consS (e_var 3) a_nil))) (a_consS (e_tup (a_consS (e_var 4) (a_consS (e_var 2) a_nil))) a_nil))))) (pg_tupA rfl (pgs_cons (pg_name (i := 6) sc_law.nd rfl (by first | exact Or.inl rfl | exact Or.inr rfl)) (pgs_cons (pg_name (i := 7) sc_law.nd rfl (by first | exact Or.inl rfl | exact Or.inr rfl)) pgs_nil))) (tg_tup (tgs_cons (tg_name (by decide)) (tgs_cons (tg_name (by decide)) tgs_nil)) (gs_len1 (gs_len1 gs_len0 (gN_some 7)) (gN_some 6))) (s_one (s_if (t_cmp (ko := .strong) op_ne c_neS (e_weak (e_callB (call_reprA hr hgd) c_reprA (a_cons (e_weak (e_lst (a_consS (e_xat "name" T.xf xall (e_ix (ix_all hr) c_ixA (e_weak (e_var 6)) (e_weak e_int))) (a_consS (e_xat "row" T.xf xall (e_ix (ix_all hr) c_ixA (e_weak (e_var 6)) (e_weak e_int))) (a_consS (e_xat "many" T.xf xall (e_ix (ix_all hr) c_ixA (e_weak (e_var 6)) (e_weak e_int))) a_nil))))) a_nil) T.g_repr)) (e_weak (e_callB (call_reprA hr hgd) c_reprA (a_cons (e_weak (e_op o_mul c_mul (e_weak (e_lst (a_consS (e_var 7) a_nil))) (e_weak e_int))) a_nil) T.g_repr))) (s_one (s_ret e_bl)) s_nil))) (s_cons (own' := []) (s_for PassesOwn.never rfl (i_rng1 T.g_range (a_cons (e_weak e_int) a_nil)) (pg_name (i := 8) sc_law.nd rfl (by first | exact Or.inl rfl | exact Or.inr rfl)) (tg_name (by decide)) (s_one (s_if (PW.pt (t_or (t_cmp (ko := .strong) (op_neD hr.units) c_ne (e_weak (e_callD D_l_sorts (hr.mono (by decide)) (a_consS (e_ix (ix_all hr) c_ixA (e_weak (e_var 4)) (e_weak (e_var 8))) a_nil))) (e_weak (e_callD D_l_due (hr.mono (by decide)) (a_consS (e_var 8) a_nil)))) (t_or1 (t_cmp (ko := .strong) (op_neD hr.units) c_ne (e_weak (e_callD D_l_raised (hr.mono (by decide)) (a_consS (e_var 8) (a_consS (e_var 2) a_nil)))) (e_weak (e_sl (e_weak (e_callD D_l_due (hr.mono (by decide)) (a_consS (e_var 8) a_nil))) (o_some (e_weak e_int)) o_none)))))) (s_one (s_ret e_bl)) s_nil))) (s_one (s_ret (e_callB (cr_all rfl) c_all (a_cons (e_weak (e_comp rfl sc_law.nd (i_rng1 T.g_range (a_cons (e_weak e_int) a_nil)) (blkOk_by (own := [("_law_at", 8)]) (N := N_law) (sc := (defScope s_law)) (by decide +kernel)) (fun _ _ _ _ _ => (pg_name (i := 8) sc_law.nd rfl (by first | exact Or.inl rfl | exact Or.inr rfl))) (tg_name (by decide)) (fun _ _ _ _ _ => ts_nil) (fun _ _ _ _ _ => (e_cmp (op_eqD hr.units) c_eq (e_weak (e_callD D_l_sorts (hr.mono (by decide)) (a_consS (e_ix (ix_all hr) c_ixA (e_weak (e_var 5)) (e_weak (e_var 8))) a_nil))) (e_weak (e_callD D_l_due (hr.mono (by decide)) (a_consS (e_var 8) a_nil))))))) a_nil) T.g_all)))))))))
end
end DL

set_option Elab.async false
set_option linter.all false
set_option maxRecDepth 100000
set_option maxHeartbeats 4000000
namespace DL
open PySem PySem.Spec PyProof.Rows L2

theorem all_mk {l : PySem.W.OpenLaw} {w : World} {K : PySem.W.Frag} {h : Heap} {mg : Str → Option Value} {fa : Addr} (X : K.In h) (G : h.Ns mainGlobals mg) (hfa : mg "law" = some (.ref fa))
    {f0 : Addr} {od0 an0 : Option Addr} {sl0 : Array (Option Value)} {oc0 kV0 dc0 pm0 cd0 ct0 : Value}
    {f1 : Addr} {od1 an1 : Option Addr} {sl1 : Array (Option Value)} {oc1 kV1 dc1 pm1 cd1 ct1 : Value}
    {f2 : Addr} {od2 an2 : Option Addr} {sl2 : Array (Option Value)} {oc2 kV2 dc2 pm2 cd2 ct2 : Value}
    {f3 : Addr} {od3 an3 : Option Addr} {sl3 : Array (Option Value)} {oc3 kV3 dc3 pm3 cd3 ct3 : Value}
    {f4 : Addr} {od4 an4 : Option Addr} {sl4 : Array (Option Value)} {oc4 kV4 dc4 pm4 cd4 ct4 : Value}
    {f5 : Addr} {od5 an5 : Option Addr} {sl5 : Array (Option Value)} {oc5 kV5 dc5 pm5 cd5 ct5 : Value}
    {f6 : Addr} {od6 an6 : Option Addr} {sl6 : Array (Option Value)} {oc6 kV6 dc6 pm6 cd6 ct6 : Value}
    {C_FloorError : Addr}
    {C_NoDeed : Addr}
    {C_NoName : Addr}
    {C_NoText : Addr}
    {C_NotPaper : Addr}
    {C_TooMany : Addr}
    {nm_NoDeed q_NoDeed : Str} {N_NoDeed : Addr} {bs_NoDeed : List Value} {sn_NoDeed : List Str} {sub_NoDeed : List Value} {ab_NoDeed : Bool} {col_NoDeed : Option Bool} {dd_NoDeed : Option Addr} {m0_NoDeed m1_NoDeed m2_NoDeed m3_NoDeed m5_NoDeed : Option Value}
    {nm_NoName q_NoName : Str} {N_NoName : Addr} {bs_NoName : List Value} {sn_NoName : List Str} {sub_NoName : List Value} {ab_NoName : Bool} {col_NoName : Option Bool} {dd_NoName : Option Addr} {m0_NoName m1_NoName m2_NoName m3_NoName m5_NoName : Option Value}
    {nm_NoText q_NoText : Str} {N_NoText : Addr} {bs_NoText : List Value} {sn_NoText : List Str} {sub_NoText : List Value} {ab_NoText : Bool} {col_NoText : Option Bool} {dd_NoText : Option Addr} {m0_NoText m1_NoText m2_NoText m3_NoText m5_NoText : Option Value}
    {nm_NotPaper q_NotPaper : Str} {N_NotPaper : Addr} {bs_NotPaper : List Value} {sn_NotPaper : List Str} {sub_NotPaper : List Value} {ab_NotPaper : Bool} {col_NotPaper : Option Bool} {dd_NotPaper : Option Addr} {m0_NotPaper m1_NotPaper m2_NotPaper m3_NotPaper m5_NotPaper : Option Value}
    {nm_TooMany q_TooMany : Str} {N_TooMany : Addr} {bs_TooMany : List Value} {sn_TooMany : List Str} {sub_TooMany : List Value} {ab_TooMany : Bool} {col_TooMany : Option Bool} {dd_TooMany : Option Addr} {m0_TooMany m1_TooMany m2_TooMany m3_TooMany m5_TooMany : Option Value}
    {fI_NoDeed : Addr} {dI_NoDeed aI_NoDeed : Option Addr} {sI_NoDeed : Array (Option Value)} {oI_NoDeed kI_NoDeed cI_NoDeed pI_NoDeed eI_NoDeed tI_NoDeed : Value}
    {fI_NoName : Addr} {dI_NoName aI_NoName : Option Addr} {sI_NoName : Array (Option Value)} {oI_NoName kI_NoName cI_NoName pI_NoName eI_NoName tI_NoName : Value}
    {fI_NoText : Addr} {dI_NoText aI_NoText : Option Addr} {sI_NoText : Array (Option Value)} {oI_NoText kI_NoText cI_NoText pI_NoText eI_NoText tI_NoText : Value}
    {fI_NotPaper : Addr} {dI_NotPaper aI_NotPaper : Option Addr} {sI_NotPaper : Array (Option Value)} {oI_NotPaper kI_NotPaper cI_NotPaper pI_NotPaper eI_NotPaper tI_NotPaper : Value}
    {fI_TooMany : Addr} {dI_TooMany aI_TooMany : Option Addr} {sI_TooMany : Array (Option Value)} {oI_TooMany kI_TooMany cI_TooMany pI_TooMany eI_TooMany tI_TooMany : Value}
    (a0 : PySem.W.nsIn K mainGlobals "_law_deal" = some (some (.ref f0))) (l0 : K.lookup f0 = some ⟨oc0, od0, .func (PySem.W.fnOf "_law_deal" "_law_deal" (defArgs s_l_deal) (defBody s_l_deal) (defScope s_l_deal) .none kV0 dc0 pm0 an0 cd0 ct0), sl0⟩) (c0 : PySem.W.codeIn K cd0 "_law_deal" = true) (k0 : PySem.W.keepIn K (.ref f0) = true)
    (a1 : PySem.W.nsIn K mainGlobals "_law_draw" = some (some (.ref f1))) (l1 : K.lookup f1 = some ⟨oc1, od1, .func (PySem.W.fnOf "_law_draw" "_law_draw" (defArgs s_l_draw) (defBody s_l_draw) (defScope s_l_draw) .none kV1 dc1 pm1 an1 cd1 ct1), sl1⟩) (c1 : PySem.W.codeIn K cd1 "_law_draw" = true) (k1 : PySem.W.keepIn K (.ref f1) = true)
    (a2 : PySem.W.nsIn K mainGlobals "_law_thing" = some (some (.ref f2))) (l2 : K.lookup f2 = some ⟨oc2, od2, .func (PySem.W.fnOf "_law_thing" "_law_thing" (defArgs s_l_thing) (defBody s_l_thing) (defScope s_l_thing) .none kV2 dc2 pm2 an2 cd2 ct2), sl2⟩) (c2 : PySem.W.codeIn K cd2 "_law_thing" = true) (k2 : PySem.W.keepIn K (.ref f2) = true)
    (a3 : PySem.W.nsIn K mainGlobals "_law_sorts" = some (some (.ref f3))) (l3 : K.lookup f3 = some ⟨oc3, od3, .func (PySem.W.fnOf "_law_sorts" "_law_sorts" (defArgs s_l_sorts) (defBody s_l_sorts) (defScope s_l_sorts) .none kV3 dc3 pm3 an3 cd3 ct3), sl3⟩) (c3 : PySem.W.codeIn K cd3 "_law_sorts" = true) (k3 : PySem.W.keepIn K (.ref f3) = true)
    (a4 : PySem.W.nsIn K mainGlobals "_law_due" = some (some (.ref f4))) (l4 : K.lookup f4 = some ⟨oc4, od4, .func (PySem.W.fnOf "_law_due" "_law_due" (defArgs s_l_due) (defBody s_l_due) (defScope s_l_due) .none kV4 dc4 pm4 an4 cd4 ct4), sl4⟩) (c4 : PySem.W.codeIn K cd4 "_law_due" = true) (k4 : PySem.W.keepIn K (.ref f4) = true)
    (a5 : PySem.W.nsIn K mainGlobals "_law_raised" = some (some (.ref f5))) (l5 : K.lookup f5 = some ⟨oc5, od5, .func (PySem.W.fnOf "_law_raised" "_law_raised" (defArgs s_l_raised) (defBody s_l_raised) (defScope s_l_raised) .none kV5 dc5 pm5 an5 cd5 ct5), sl5⟩) (c5 : PySem.W.codeIn K cd5 "_law_raised" = true) (k5 : PySem.W.keepIn K (.ref f5) = true)
    (a6 : PySem.W.nsIn K mainGlobals "law" = some (some (.ref f6))) (l6 : K.lookup f6 = some ⟨oc6, od6, .func (PySem.W.fnOf "law" "law" (defArgs s_law) (defBody s_law) (defScope s_law) .none kV6 dc6 pm6 an6 cd6 ct6), sl6⟩) (c6 : PySem.W.codeIn K cd6 "law" = true) (k6 : PySem.W.keepIn K (.ref f6) = true)
    (z_ValueError : PySem.W.nsIn K mainGlobals "ValueError" = some none)
    (z_all : PySem.W.nsIn K mainGlobals "all" = some none)
    (z_isinstance : PySem.W.nsIn K mainGlobals "isinstance" = some none)
    (z_len : PySem.W.nsIn K mainGlobals "len" = some none)
    (z_list : PySem.W.nsIn K mainGlobals "list" = some none)
    (z_max : PySem.W.nsIn K mainGlobals "max" = some none)
    (z_range : PySem.W.nsIn K mainGlobals "range" = some none)
    (z_repr : PySem.W.nsIn K mainGlobals "repr" = some none)
    (z_reversed : PySem.W.nsIn K mainGlobals "reversed" = some none)
    (xa_FloorError : PySem.W.nsIn K mainGlobals "FloorError" = some (some (.ref C_FloorError)))
    (xa_NoDeed : PySem.W.nsIn K mainGlobals "NoDeed" = some (some (.ref C_NoDeed)))
    (xa_NoName : PySem.W.nsIn K mainGlobals "NoName" = some (some (.ref C_NoName)))
    (xa_NoText : PySem.W.nsIn K mainGlobals "NoText" = some (some (.ref C_NoText)))
    (xa_NotPaper : PySem.W.nsIn K mainGlobals "NotPaper" = some (some (.ref C_NotPaper)))
    (xa_TooMany : PySem.W.nsIn K mainGlobals "TooMany" = some (some (.ref C_TooMany)))
    (xl_NoDeed : K.lookup C_NoDeed = some (excClassObj nm_NoDeed q_NoDeed C_NoDeed N_NoDeed bs_NoDeed [.ref C_FloorError, .type "ValueError", .type "Exception", .type "BaseException", .type "object"] true sn_NoDeed sub_NoDeed ab_NoDeed col_NoDeed dd_NoDeed m0_NoDeed m1_NoDeed m2_NoDeed m3_NoDeed m5_NoDeed "ValueError.__new__"))
    (xs_NoDeed : PySem.W.findIn K (.ref C_NoDeed) "__setattr__" = some (some (.builtin "object.__setattr__")))
    (xg_NoDeed : PySem.W.findIn K (.ref C_NoDeed) "__getattribute__" = some (some (.builtin "BaseException.__getattribute__")))
    (xh_NoDeed : PySem.W.findIn K (.ref C_NoDeed) "__getattr__" = some none)
    (xc_NoDeed : PySem.W.findIn K (.ref C_NoDeed) "__class__" = some (some (.builtin "object.__class__")))
    (xk_NoDeed : PySem.W.keepIn K (.ref C_NoDeed) = true)
    (xd_NoDeed : PySem.W.hasDictIn K C_NoDeed = true)
    (xo_NoDeed : PySem.W.mroIn K C_NoDeed (.type "object") = some true)
    (xv_NoDeed : PySem.W.subIn K (.ref C_NoDeed) (.type "ValueError") = some true)
    (xe_NoDeed : PySem.W.subIn K (.ref C_NoDeed) (.ref C_NoDeed) = some true)
    (xt_NoDeed_FloorError : PySem.W.subIn K (.ref C_NoDeed) (.ref C_FloorError) = some true)
    (xt_NoDeed_TooMany : PySem.W.subIn K (.ref C_NoDeed) (.ref C_TooMany) = some false)
    (xt_NoDeed_NoName : PySem.W.subIn K (.ref C_NoDeed) (.ref C_NoName) = some false)
    (xt_NoDeed_NoText : PySem.W.subIn K (.ref C_NoDeed) (.ref C_NoText) = some false)
    (xt_NoDeed_NotPaper : PySem.W.subIn K (.ref C_NoDeed) (.ref C_NotPaper) = some false)
    (xl_NoName : K.lookup C_NoName = some (excClassObj nm_NoName q_NoName C_NoName N_NoName bs_NoName [.ref C_FloorError, .type "ValueError", .type "Exception", .type "BaseException", .type "object"] true sn_NoName sub_NoName ab_NoName col_NoName dd_NoName m0_NoName m1_NoName m2_NoName m3_NoName m5_NoName "ValueError.__new__"))
    (xs_NoName : PySem.W.findIn K (.ref C_NoName) "__setattr__" = some (some (.builtin "object.__setattr__")))
    (xg_NoName : PySem.W.findIn K (.ref C_NoName) "__getattribute__" = some (some (.builtin "BaseException.__getattribute__")))
    (xh_NoName : PySem.W.findIn K (.ref C_NoName) "__getattr__" = some none)
    (xc_NoName : PySem.W.findIn K (.ref C_NoName) "__class__" = some (some (.builtin "object.__class__")))
    (xk_NoName : PySem.W.keepIn K (.ref C_NoName) = true)
    (xd_NoName : PySem.W.hasDictIn K C_NoName = true)
    (xo_NoName : PySem.W.mroIn K C_NoName (.type "object") = some true)
    (xv_NoName : PySem.W.subIn K (.ref C_NoName) (.type "ValueError") = some true)
    (xe_NoName : PySem.W.subIn K (.ref C_NoName) (.ref C_NoName) = some true)
    (xn_NoName : PySem.W.findIn K (.ref C_NoName) "name" = some none)
    (xt_NoName_FloorError : PySem.W.subIn K (.ref C_NoName) (.ref C_FloorError) = some true)
    (xt_NoName_TooMany : PySem.W.subIn K (.ref C_NoName) (.ref C_TooMany) = some false)
    (xt_NoName_NoText : PySem.W.subIn K (.ref C_NoName) (.ref C_NoText) = some false)
    (xt_NoName_NotPaper : PySem.W.subIn K (.ref C_NoName) (.ref C_NotPaper) = some false)
    (xt_NoName_NoDeed : PySem.W.subIn K (.ref C_NoName) (.ref C_NoDeed) = some false)
    (xl_NoText : K.lookup C_NoText = some (excClassObj nm_NoText q_NoText C_NoText N_NoText bs_NoText [.ref C_FloorError, .type "ValueError", .type "Exception", .type "BaseException", .type "object"] true sn_NoText sub_NoText ab_NoText col_NoText dd_NoText m0_NoText m1_NoText m2_NoText m3_NoText m5_NoText "ValueError.__new__"))
    (xs_NoText : PySem.W.findIn K (.ref C_NoText) "__setattr__" = some (some (.builtin "object.__setattr__")))
    (xg_NoText : PySem.W.findIn K (.ref C_NoText) "__getattribute__" = some (some (.builtin "BaseException.__getattribute__")))
    (xh_NoText : PySem.W.findIn K (.ref C_NoText) "__getattr__" = some none)
    (xc_NoText : PySem.W.findIn K (.ref C_NoText) "__class__" = some (some (.builtin "object.__class__")))
    (xk_NoText : PySem.W.keepIn K (.ref C_NoText) = true)
    (xd_NoText : PySem.W.hasDictIn K C_NoText = true)
    (xo_NoText : PySem.W.mroIn K C_NoText (.type "object") = some true)
    (xv_NoText : PySem.W.subIn K (.ref C_NoText) (.type "ValueError") = some true)
    (xe_NoText : PySem.W.subIn K (.ref C_NoText) (.ref C_NoText) = some true)
    (xn_NoText : PySem.W.findIn K (.ref C_NoText) "row" = some none)
    (xt_NoText_FloorError : PySem.W.subIn K (.ref C_NoText) (.ref C_FloorError) = some true)
    (xt_NoText_TooMany : PySem.W.subIn K (.ref C_NoText) (.ref C_TooMany) = some false)
    (xt_NoText_NoName : PySem.W.subIn K (.ref C_NoText) (.ref C_NoName) = some false)
    (xt_NoText_NotPaper : PySem.W.subIn K (.ref C_NoText) (.ref C_NotPaper) = some false)
    (xt_NoText_NoDeed : PySem.W.subIn K (.ref C_NoText) (.ref C_NoDeed) = some false)
    (xl_NotPaper : K.lookup C_NotPaper = some (excClassObj nm_NotPaper q_NotPaper C_NotPaper N_NotPaper bs_NotPaper [.ref C_FloorError, .type "ValueError", .type "Exception", .type "BaseException", .type "object"] true sn_NotPaper sub_NotPaper ab_NotPaper col_NotPaper dd_NotPaper m0_NotPaper m1_NotPaper m2_NotPaper m3_NotPaper m5_NotPaper "ValueError.__new__"))
    (xs_NotPaper : PySem.W.findIn K (.ref C_NotPaper) "__setattr__" = some (some (.builtin "object.__setattr__")))
    (xg_NotPaper : PySem.W.findIn K (.ref C_NotPaper) "__getattribute__" = some (some (.builtin "BaseException.__getattribute__")))
    (xh_NotPaper : PySem.W.findIn K (.ref C_NotPaper) "__getattr__" = some none)
    (xc_NotPaper : PySem.W.findIn K (.ref C_NotPaper) "__class__" = some (some (.builtin "object.__class__")))
    (xk_NotPaper : PySem.W.keepIn K (.ref C_NotPaper) = true)
    (xd_NotPaper : PySem.W.hasDictIn K C_NotPaper = true)
    (xo_NotPaper : PySem.W.mroIn K C_NotPaper (.type "object") = some true)
    (xv_NotPaper : PySem.W.subIn K (.ref C_NotPaper) (.type "ValueError") = some true)
    (xe_NotPaper : PySem.W.subIn K (.ref C_NotPaper) (.ref C_NotPaper) = some true)
    (xt_NotPaper_FloorError : PySem.W.subIn K (.ref C_NotPaper) (.ref C_FloorError) = some true)
    (xt_NotPaper_TooMany : PySem.W.subIn K (.ref C_NotPaper) (.ref C_TooMany) = some false)
    (xt_NotPaper_NoName : PySem.W.subIn K (.ref C_NotPaper) (.ref C_NoName) = some false)
    (xt_NotPaper_NoText : PySem.W.subIn K (.ref C_NotPaper) (.ref C_NoText) = some false)
    (xt_NotPaper_NoDeed : PySem.W.subIn K (.ref C_NotPaper) (.ref C_NoDeed) = some false)
    (xl_TooMany : K.lookup C_TooMany = some (excClassObj nm_TooMany q_TooMany C_TooMany N_TooMany bs_TooMany [.ref C_FloorError, .type "ValueError", .type "Exception", .type "BaseException", .type "object"] true sn_TooMany sub_TooMany ab_TooMany col_TooMany dd_TooMany m0_TooMany m1_TooMany m2_TooMany m3_TooMany m5_TooMany "ValueError.__new__"))
    (xs_TooMany : PySem.W.findIn K (.ref C_TooMany) "__setattr__" = some (some (.builtin "object.__setattr__")))
    (xg_TooMany : PySem.W.findIn K (.ref C_TooMany) "__getattribute__" = some (some (.builtin "BaseException.__getattribute__")))
    (xh_TooMany : PySem.W.findIn K (.ref C_TooMany) "__getattr__" = some none)
    (xc_TooMany : PySem.W.findIn K (.ref C_TooMany) "__class__" = some (some (.builtin "object.__class__")))
    (xk_TooMany : PySem.W.keepIn K (.ref C_TooMany) = true)
    (xd_TooMany : PySem.W.hasDictIn K C_TooMany = true)
    (xo_TooMany : PySem.W.mroIn K C_TooMany (.type "object") = some true)
    (xv_TooMany : PySem.W.subIn K (.ref C_TooMany) (.type "ValueError") = some true)
    (xe_TooMany : PySem.W.subIn K (.ref C_TooMany) (.ref C_TooMany) = some true)
    (xn_TooMany : PySem.W.findIn K (.ref C_TooMany) "many" = some none)
    (xt_TooMany_FloorError : PySem.W.subIn K (.ref C_TooMany) (.ref C_FloorError) = some true)
    (xt_TooMany_NoName : PySem.W.subIn K (.ref C_TooMany) (.ref C_NoName) = some false)
    (xt_TooMany_NoText : PySem.W.subIn K (.ref C_TooMany) (.ref C_NoText) = some false)
    (xt_TooMany_NotPaper : PySem.W.subIn K (.ref C_TooMany) (.ref C_NotPaper) = some false)
    (xt_TooMany_NoDeed : PySem.W.subIn K (.ref C_TooMany) (.ref C_NoDeed) = some false)
    (xb_FloorError : PySem.W.subIn K (.ref C_FloorError) (.type "BaseException") = some true)
    (xi_FloorError : PySem.W.isClsIn K C_FloorError = true)
    (xy_FloorError : PySem.W.typeIn K (.ref C_FloorError) = some (.type "type"))
    (xb_NoDeed : PySem.W.subIn K (.ref C_NoDeed) (.type "BaseException") = some true)
    (xi_NoDeed : PySem.W.isClsIn K C_NoDeed = true)
    (xy_NoDeed : PySem.W.typeIn K (.ref C_NoDeed) = some (.type "type"))
    (xb_NoName : PySem.W.subIn K (.ref C_NoName) (.type "BaseException") = some true)
    (xi_NoName : PySem.W.isClsIn K C_NoName = true)
    (xy_NoName : PySem.W.typeIn K (.ref C_NoName) = some (.type "type"))
    (xb_NoText : PySem.W.subIn K (.ref C_NoText) (.type "BaseException") = some true)
    (xi_NoText : PySem.W.isClsIn K C_NoText = true)
    (xy_NoText : PySem.W.typeIn K (.ref C_NoText) = some (.type "type"))
    (xb_NotPaper : PySem.W.subIn K (.ref C_NotPaper) (.type "BaseException") = some true)
    (xi_NotPaper : PySem.W.isClsIn K C_NotPaper = true)
    (xy_NotPaper : PySem.W.typeIn K (.ref C_NotPaper) = some (.type "type"))
    (xb_TooMany : PySem.W.subIn K (.ref C_TooMany) (.type "BaseException") = some true)
    (xi_TooMany : PySem.W.isClsIn K C_TooMany = true)
    (xy_TooMany : PySem.W.typeIn K (.ref C_TooMany) = some (.type "type"))
    (xq_1 : PySem.W.specialIn K (.builtin "object.__class__") "__get__" = some (some (.builtin "getset_descriptor.__get__")))
    (xq_2 : PySem.W.takesIn K (.builtin "object.__class__") = some true)
    (xq_3 : PySem.W.specialIn K (.ref C_FloorError) "__getattribute__" = some (some (.builtin "type.__getattribute__")))
    (xq_4 : PySem.W.readsIn K C_FloorError (.type "type") = true)
    (xq_5 : PySem.W.findCls K (.ref C_FloorError) (.type "type") "__init__" = some (.val (.builtin "ValueError.__init__")))
    (xI_NoDeed : PySem.W.findIn K (.ref C_NoDeed) "__init__" = some (some (.ref fI_NoDeed)))
    (xT_NoDeed : PySem.W.typeIn K (.ref fI_NoDeed) = some (.type "function"))
    (xL_NoDeed : K.lookup fI_NoDeed = some ⟨oI_NoDeed, dI_NoDeed, .func (PySem.W.fnOf "__init__" "NoDeed.__init__" (defArgs (i_NoDeed)) (defBody (i_NoDeed)) (defScope (i_NoDeed)) .none kI_NoDeed cI_NoDeed pI_NoDeed aI_NoDeed eI_NoDeed tI_NoDeed), sI_NoDeed⟩)
    (xC_NoDeed : PySem.W.codeIn K eI_NoDeed "NoDeed.__init__" = true)
    (xK_NoDeed : PySem.W.keepIn K (.ref fI_NoDeed) = true)
    (xI_NoName : PySem.W.findIn K (.ref C_NoName) "__init__" = some (some (.ref fI_NoName)))
    (xT_NoName : PySem.W.typeIn K (.ref fI_NoName) = some (.type "function"))
    (xL_NoName : K.lookup fI_NoName = some ⟨oI_NoName, dI_NoName, .func (PySem.W.fnOf "__init__" "NoName.__init__" (defArgs (i_NoName)) (defBody (i_NoName)) (defScope (i_NoName)) .none kI_NoName cI_NoName pI_NoName aI_NoName eI_NoName tI_NoName), sI_NoName⟩)
    (xC_NoName : PySem.W.codeIn K eI_NoName "NoName.__init__" = true)
    (xK_NoName : PySem.W.keepIn K (.ref fI_NoName) = true)
    (xI_NoText : PySem.W.findIn K (.ref C_NoText) "__init__" = some (some (.ref fI_NoText)))
    (xT_NoText : PySem.W.typeIn K (.ref fI_NoText) = some (.type "function"))
    (xL_NoText : K.lookup fI_NoText = some ⟨oI_NoText, dI_NoText, .func (PySem.W.fnOf "__init__" "NoText.__init__" (defArgs (i_NoText)) (defBody (i_NoText)) (defScope (i_NoText)) .none kI_NoText cI_NoText pI_NoText aI_NoText eI_NoText tI_NoText), sI_NoText⟩)
    (xC_NoText : PySem.W.codeIn K eI_NoText "NoText.__init__" = true)
    (xK_NoText : PySem.W.keepIn K (.ref fI_NoText) = true)
    (xI_NotPaper : PySem.W.findIn K (.ref C_NotPaper) "__init__" = some (some (.ref fI_NotPaper)))
    (xT_NotPaper : PySem.W.typeIn K (.ref fI_NotPaper) = some (.type "function"))
    (xL_NotPaper : K.lookup fI_NotPaper = some ⟨oI_NotPaper, dI_NotPaper, .func (PySem.W.fnOf "__init__" "NotPaper.__init__" (defArgs (i_NotPaper)) (defBody (i_NotPaper)) (defScope (i_NotPaper)) .none kI_NotPaper cI_NotPaper pI_NotPaper aI_NotPaper eI_NotPaper tI_NotPaper), sI_NotPaper⟩)
    (xC_NotPaper : PySem.W.codeIn K eI_NotPaper "NotPaper.__init__" = true)
    (xK_NotPaper : PySem.W.keepIn K (.ref fI_NotPaper) = true)
    (xI_TooMany : PySem.W.findIn K (.ref C_TooMany) "__init__" = some (some (.ref fI_TooMany)))
    (xT_TooMany : PySem.W.typeIn K (.ref fI_TooMany) = some (.type "function"))
    (xL_TooMany : K.lookup fI_TooMany = some ⟨oI_TooMany, dI_TooMany, .func (PySem.W.fnOf "__init__" "TooMany.__init__" (defArgs (i_TooMany)) (defBody (i_TooMany)) (defScope (i_TooMany)) .none kI_TooMany cI_TooMany pI_TooMany aI_TooMany eI_TooMany tI_TooMany), sI_TooMany⟩)
    (xC_TooMany : PySem.W.codeIn K eI_TooMany "TooMany.__init__" = true)
    (xK_TooMany : PySem.W.keepIn K (.ref fI_TooMany) = true) :
    ∃ fd : FuncData, (∀ (s : Shared) (v : Value), BindsTo s fd ⟨[v], []⟩ [("_law_script", v)]) ∧ ∀ base : Heap, K.In base → base.Ns mainGlobals mg → GOk l.prog w K mg base 4 fa fd ["_law_script"] (spLawD K) := by
  have e := hfa.symm.trans (PySem.W.mg_of X G a6)
  cases e
  have G_FloorError : mg "FloorError" = some (.ref C_FloorError) := PySem.W.mg_of X G xa_FloorError
  have G_NoDeed : mg "NoDeed" = some (.ref C_NoDeed) := PySem.W.mg_of X G xa_NoDeed
  have G_NoName : mg "NoName" = some (.ref C_NoName) := PySem.W.mg_of X G xa_NoName
  have G_NoText : mg "NoText" = some (.ref C_NoText) := PySem.W.mg_of X G xa_NoText
  have G_NotPaper : mg "NotPaper" = some (.ref C_NotPaper) := PySem.W.mg_of X G xa_NotPaper
  have G_TooMany : mg "TooMany" = some (.ref C_TooMany) := PySem.W.mg_of X G xa_TooMany
  have O_NoDeed : XOne K .noDeed C_NoDeed := ⟨xa_NoDeed, ⟨nm_NoDeed, q_NoDeed, N_NoDeed, bs_NoDeed, _, sn_NoDeed, sub_NoDeed, ab_NoDeed, col_NoDeed, dd_NoDeed, m0_NoDeed, m1_NoDeed, m2_NoDeed, m3_NoDeed, m5_NoDeed, xl_NoDeed, refs_ve⟩, xs_NoDeed, xg_NoDeed, xh_NoDeed, xc_NoDeed, xb_NoDeed, xy_NoDeed, xk_NoDeed, xd_NoDeed, xo_NoDeed, kit_ve xv_NoDeed, xe_NoDeed, fun f e => by cases e⟩
  have A_NoDeed : XFact K mg tsL .noDeed := O_NoDeed.fact xq_1 xq_2 (List.forall_mem_cons.mpr ⟨tgt_mk none G_FloorError xb_FloorError xi_FloorError xy_FloorError xt_NoDeed_FloorError xe_NoDeed, List.forall_mem_cons.mpr ⟨tgt_mk (some .tooMany) G_TooMany xb_TooMany xi_TooMany xy_TooMany xt_NoDeed_TooMany xe_NoDeed, List.forall_mem_cons.mpr ⟨tgt_mk (some .noName) G_NoName xb_NoName xi_NoName xy_NoName xt_NoDeed_NoName xe_NoDeed, List.forall_mem_cons.mpr ⟨tgt_mk (some .noText) G_NoText xb_NoText xi_NoText xy_NoText xt_NoDeed_NoText xe_NoDeed, List.forall_mem_cons.mpr ⟨tgt_mk (some .notPaper) G_NotPaper xb_NotPaper xi_NotPaper xy_NotPaper xt_NoDeed_NotPaper xe_NoDeed, List.forall_mem_cons.mpr ⟨tgt_mk (some .noDeed) G_NoDeed xb_NoDeed xi_NoDeed xy_NoDeed xe_NoDeed xe_NoDeed, fun t z => nomatch z⟩⟩⟩⟩⟩⟩)
  have O_NoName : XOne K .noName C_NoName := ⟨xa_NoName, ⟨nm_NoName, q_NoName, N_NoName, bs_NoName, _, sn_NoName, sub_NoName, ab_NoName, col_NoName, dd_NoName, m0_NoName, m1_NoName, m2_NoName, m3_NoName, m5_NoName, xl_NoName, refs_ve⟩, xs_NoName, xg_NoName, xh_NoName, xc_NoName, xb_NoName, xy_NoName, xk_NoName, xd_NoName, xo_NoName, kit_ve xv_NoName, xe_NoName, fun f e => by cases e; exact xn_NoName⟩
  have A_NoName : XFact K mg tsL .noName := O_NoName.fact xq_1 xq_2 (List.forall_mem_cons.mpr ⟨tgt_mk none G_FloorError xb_FloorError xi_FloorError xy_FloorError xt_NoName_FloorError xe_NoName, List.forall_mem_cons.mpr ⟨tgt_mk (some .tooMany) G_TooMany xb_TooMany xi_TooMany xy_TooMany xt_NoName_TooMany xe_NoName, List.forall_mem_cons.mpr ⟨tgt_mk (some .noName) G_NoName xb_NoName xi_NoName xy_NoName xe_NoName xe_NoName, List.forall_mem_cons.mpr ⟨tgt_mk (some .noText) G_NoText xb_NoText xi_NoText xy_NoText xt_NoName_NoText xe_NoName, List.forall_mem_cons.mpr ⟨tgt_mk (some .notPaper) G_NotPaper xb_NotPaper xi_NotPaper xy_NotPaper xt_NoName_NotPaper xe_NoName, List.forall_mem_cons.mpr ⟨tgt_mk (some .noDeed) G_NoDeed xb_NoDeed xi_NoDeed xy_NoDeed xt_NoName_NoDeed xe_NoName, fun t z => nomatch z⟩⟩⟩⟩⟩⟩)
  have O_NoText : XOne K .noText C_NoText := ⟨xa_NoText, ⟨nm_NoText, q_NoText, N_NoText, bs_NoText, _, sn_NoText, sub_NoText, ab_NoText, col_NoText, dd_NoText, m0_NoText, m1_NoText, m2_NoText, m3_NoText, m5_NoText, xl_NoText, refs_ve⟩, xs_NoText, xg_NoText, xh_NoText, xc_NoText, xb_NoText, xy_NoText, xk_NoText, xd_NoText, xo_NoText, kit_ve xv_NoText, xe_NoText, fun f e => by cases e; exact xn_NoText⟩
  have A_NoText : XFact K mg tsL .noText := O_NoText.fact xq_1 xq_2 (List.forall_mem_cons.mpr ⟨tgt_mk none G_FloorError xb_FloorError xi_FloorError xy_FloorError xt_NoText_FloorError xe_NoText, List.forall_mem_cons.mpr ⟨tgt_mk (some .tooMany) G_TooMany xb_TooMany xi_TooMany xy_TooMany xt_NoText_TooMany xe_NoText, List.forall_mem_cons.mpr ⟨tgt_mk (some .noName) G_NoName xb_NoName xi_NoName xy_NoName xt_NoText_NoName xe_NoText, List.forall_mem_cons.mpr ⟨tgt_mk (some .noText) G_NoText xb_NoText xi_NoText xy_NoText xe_NoText xe_NoText, List.forall_mem_cons.mpr ⟨tgt_mk (some .notPaper) G_NotPaper xb_NotPaper xi_NotPaper xy_NotPaper xt_NoText_NotPaper xe_NoText, List.forall_mem_cons.mpr ⟨tgt_mk (some .noDeed) G_NoDeed xb_NoDeed xi_NoDeed xy_NoDeed xt_NoText_NoDeed xe_NoText, fun t z => nomatch z⟩⟩⟩⟩⟩⟩)
  have O_NotPaper : XOne K .notPaper C_NotPaper := ⟨xa_NotPaper, ⟨nm_NotPaper, q_NotPaper, N_NotPaper, bs_NotPaper, _, sn_NotPaper, sub_NotPaper, ab_NotPaper, col_NotPaper, dd_NotPaper, m0_NotPaper, m1_NotPaper, m2_NotPaper, m3_NotPaper, m5_NotPaper, xl_NotPaper, refs_ve⟩, xs_NotPaper, xg_NotPaper, xh_NotPaper, xc_NotPaper, xb_NotPaper, xy_NotPaper, xk_NotPaper, xd_NotPaper, xo_NotPaper, kit_ve xv_NotPaper, xe_NotPaper, fun f e => by cases e⟩
  have A_NotPaper : XFact K mg tsL .notPaper := O_NotPaper.fact xq_1 xq_2 (List.forall_mem_cons.mpr ⟨tgt_mk none G_FloorError xb_FloorError xi_FloorError xy_FloorError xt_NotPaper_FloorError xe_NotPaper, List.forall_mem_cons.mpr ⟨tgt_mk (some .tooMany) G_TooMany xb_TooMany xi_TooMany xy_TooMany xt_NotPaper_TooMany xe_NotPaper, List.forall_mem_cons.mpr ⟨tgt_mk (some .noName) G_NoName xb_NoName xi_NoName xy_NoName xt_NotPaper_NoName xe_NotPaper, List.forall_mem_cons.mpr ⟨tgt_mk (some .noText) G_NoText xb_NoText xi_NoText xy_NoText xt_NotPaper_NoText xe_NotPaper, List.forall_mem_cons.mpr ⟨tgt_mk (some .notPaper) G_NotPaper xb_NotPaper xi_NotPaper xy_NotPaper xe_NotPaper xe_NotPaper, List.forall_mem_cons.mpr ⟨tgt_mk (some .noDeed) G_NoDeed xb_NoDeed xi_NoDeed xy_NoDeed xt_NotPaper_NoDeed xe_NotPaper, fun t z => nomatch z⟩⟩⟩⟩⟩⟩)
  have O_TooMany : XOne K .tooMany C_TooMany := ⟨xa_TooMany, ⟨nm_TooMany, q_TooMany, N_TooMany, bs_TooMany, _, sn_TooMany, sub_TooMany, ab_TooMany, col_TooMany, dd_TooMany, m0_TooMany, m1_TooMany, m2_TooMany, m3_TooMany, m5_TooMany, xl_TooMany, refs_ve⟩, xs_TooMany, xg_TooMany, xh_TooMany, xc_TooMany, xb_TooMany, xy_TooMany, xk_TooMany, xd_TooMany, xo_TooMany, kit_ve xv_TooMany, xe_TooMany, fun f e => by cases e; exact xn_TooMany⟩
  have A_TooMany : XFact K mg tsL .tooMany := O_TooMany.fact xq_1 xq_2 (List.forall_mem_cons.mpr ⟨tgt_mk none G_FloorError xb_FloorError xi_FloorError xy_FloorError xt_TooMany_FloorError xe_TooMany, List.forall_mem_cons.mpr ⟨tgt_mk (some .tooMany) G_TooMany xb_TooMany xi_TooMany xy_TooMany xe_TooMany xe_TooMany, List.forall_mem_cons.mpr ⟨tgt_mk (some .noName) G_NoName xb_NoName xi_NoName xy_NoName xt_TooMany_NoName xe_TooMany, List.forall_mem_cons.mpr ⟨tgt_mk (some .noText) G_NoText xb_NoText xi_NoText xy_NoText xt_TooMany_NoText xe_TooMany, List.forall_mem_cons.mpr ⟨tgt_mk (some .notPaper) G_NotPaper xb_NotPaper xi_NotPaper xy_NotPaper xt_TooMany_NotPaper xe_TooMany, List.forall_mem_cons.mpr ⟨tgt_mk (some .noDeed) G_NoDeed xb_NoDeed xi_NoDeed xy_NoDeed xt_TooMany_NoDeed xe_TooMany, fun t z => nomatch z⟩⟩⟩⟩⟩⟩)
  have XF : ∀ n ∈ rsL, XFact K mg tsL n := List.forall_mem_cons.mpr ⟨A_NoDeed, List.forall_mem_cons.mpr ⟨A_NoName, List.forall_mem_cons.mpr ⟨A_NoText, List.forall_mem_cons.mpr ⟨A_NotPaper, List.forall_mem_cons.mpr ⟨A_TooMany, fun t z => nomatch z⟩⟩⟩⟩⟩
  have XM : ∀ t ∈ tsL, ∃ D, mg (XC.tn t) = some (.ref D) := List.forall_mem_cons.mpr ⟨⟨_, G_FloorError⟩, List.forall_mem_cons.mpr ⟨⟨_, G_TooMany⟩, List.forall_mem_cons.mpr ⟨⟨_, G_NoName⟩, List.forall_mem_cons.mpr ⟨⟨_, G_NoText⟩, List.forall_mem_cons.mpr ⟨⟨_, G_NotPaper⟩, List.forall_mem_cons.mpr ⟨⟨_, G_NoDeed⟩, fun t z => nomatch z⟩⟩⟩⟩⟩⟩
  have T : Txt K mg := ⟨XF, XM, PySem.W.mg_none_of X G z_ValueError, PySem.W.mg_none_of X G z_all, PySem.W.mg_none_of X G z_isinstance, PySem.W.mg_none_of X G z_len, PySem.W.mg_none_of X G z_list, PySem.W.mg_none_of X G z_max, PySem.W.mg_none_of X G z_range, PySem.W.mg_none_of X G z_repr, PySem.W.mg_none_of X G z_reversed⟩
  have F0 := fun_mk (st := s_l_deal) l0 c0 k0
  have b0 := F0.binds (ps := ["_law_script", "_law_base"]) fun _ _ _ _ _ _ us hl => match us, hl with | [_, _], _ => rfl
  have F1 := fun_mk (st := s_l_draw) l1 c1 k1
  have b1 := F1.binds (ps := ["_law_deal_here", "_law_many"]) fun _ _ _ _ _ _ us hl => match us, hl with | [_, _], _ => rfl
  have F2 := fun_mk (st := s_l_thing) l2 c2 k2
  have b2 := F2.binds (ps := ["_law_deal_here"]) fun _ _ _ _ _ _ us hl => match us, hl with | [_], _ => rfl
  have F3 := fun_mk (st := s_l_sorts) l3 c3 k3
  have b3 := F3.binds (ps := ["_law_error"]) fun _ _ _ _ _ _ us hl => match us, hl with | [_], _ => rfl
  have F4 := fun_mk (st := s_l_due) l4 c4 k4
  have b4 := F4.binds (ps := ["_law_at"]) fun _ _ _ _ _ _ us hl => match us, hl with | [_], _ => rfl
  have F5 := fun_mk (st := s_l_raised) l5 c5 k5
  have b5 := F5.binds (ps := ["_law_at", "_law_thing_here"]) fun _ _ _ _ _ _ us hl => match us, hl with | [_, _], _ => rfl
  have F6 := fun_mk (st := s_law) l6 c6 k6
  refine ⟨PySem.W.fnOf "law" "law" (defArgs s_law) (defBody s_law) (defScope s_law) .none kV6 dc6 pm6 an6 cd6 ct6, fun s v => .of_eq rfl, fun base _ _ => ?_⟩
  have BF : DLX.FeC K C_FloorError := ⟨xq_3, xy_FloorError, xq_4, xq_5⟩
  have FI_NoDeed := fun_mk (st := i_NoDeed) xL_NoDeed xC_NoDeed xK_NoDeed
  have BI_NoDeed := FI_NoDeed.binds (ps := ["self"]) fun _ _ _ _ _ _ us hl => match us, hl with | [_], _ => rfl
  have X_NoDeed : XCls0 l.prog w K mg base .noDeed := ⟨C_NoDeed, fI_NoDeed, _, _, rfl, xa_NoDeed, G_NoDeed, O_NoDeed.oex, xI_NoDeed, xT_NoDeed, ini_NoDeed (P := l.prog) (w := w) (base := base) FI_NoDeed O_NoDeed BF G_FloorError, BI_NoDeed⟩
  have FI_NoName := fun_mk (st := i_NoName) xL_NoName xC_NoName xK_NoName
  have BI_NoName := FI_NoName.binds (ps := ["self", "name"]) fun _ _ _ _ _ _ us hl => match us, hl with | [_, _], _ => rfl
  have X_NoName : XCls l.prog w K mg base .noName := ⟨C_NoName, fI_NoName, _, _, "name", rfl, xa_NoName, G_NoName, O_NoName.oex, xI_NoName, xT_NoName, ini_NoName (P := l.prog) (w := w) (base := base) FI_NoName O_NoName BF G_FloorError, BI_NoName⟩
  have FI_NoText := fun_mk (st := i_NoText) xL_NoText xC_NoText xK_NoText
  have BI_NoText := FI_NoText.binds (ps := ["self", "row"]) fun _ _ _ _ _ _ us hl => match us, hl with | [_, _], _ => rfl
  have X_NoText : XCls l.prog w K mg base .noText := ⟨C_NoText, fI_NoText, _, _, "row", rfl, xa_NoText, G_NoText, O_NoText.oex, xI_NoText, xT_NoText, ini_NoText (P := l.prog) (w := w) (base := base) FI_NoText O_NoText BF G_FloorError, BI_NoText⟩
  have FI_NotPaper := fun_mk (st := i_NotPaper) xL_NotPaper xC_NotPaper xK_NotPaper
  have BI_NotPaper := FI_NotPaper.binds (ps := ["self"]) fun _ _ _ _ _ _ us hl => match us, hl with | [_], _ => rfl
  have X_NotPaper : XCls0 l.prog w K mg base .notPaper := ⟨C_NotPaper, fI_NotPaper, _, _, rfl, xa_NotPaper, G_NotPaper, O_NotPaper.oex, xI_NotPaper, xT_NotPaper, ini_NotPaper (P := l.prog) (w := w) (base := base) FI_NotPaper O_NotPaper BF G_FloorError, BI_NotPaper⟩
  have FI_TooMany := fun_mk (st := i_TooMany) xL_TooMany xC_TooMany xK_TooMany
  have BI_TooMany := FI_TooMany.binds (ps := ["self", "many"]) fun _ _ _ _ _ _ us hl => match us, hl with | [_, _], _ => rfl
  have X_TooMany : XCls l.prog w K mg base .tooMany := ⟨C_TooMany, fI_TooMany, _, _, "many", rfl, xa_TooMany, G_TooMany, O_TooMany.oex, xI_TooMany, xT_TooMany, ini_TooMany (P := l.prog) (w := w) (base := base) FI_TooMany O_TooMany BF G_FloorError, BI_TooMany⟩
  have D_l_deal := ok_l_deal (P := l.prog) (w := w) (base := base) F0 (PySem.W.mg_of X G a0) b0 T
  have D_l_draw := ok_l_draw (P := l.prog) (w := w) (base := base) F1 (PySem.W.mg_of X G a1) b1 T
  have D_l_thing := ok_l_thing (P := l.prog) (w := w) (base := base) F2 (PySem.W.mg_of X G a2) b2 T D_l_draw
  have D_l_sorts := ok_l_sorts (P := l.prog) (w := w) (base := base) F3 (PySem.W.mg_of X G a3) b3 T
  have D_l_due := ok_l_due (P := l.prog) (w := w) (base := base) F4 (PySem.W.mg_of X G a4) b4 T
  have D_l_raised := ok_l_raised (P := l.prog) (w := w) (base := base) F5 (PySem.W.mg_of X G a5) b5 T X_NoDeed X_NoName X_NoText X_NotPaper X_TooMany
  exact g_lawD (ok_law (P := l.prog) (w := w) (base := base) F6 T D_l_deal D_l_thing D_l_raised D_l_due D_l_sorts X_NoDeed X_NoName X_NoText X_NotPaper X_TooMany) q_law
end DL
open PySem PySem.W PyProof.Rows
set_option maxRecDepth 100000 in
set_option maxHeartbeats 0 in
theorem PySem.Challenge.cw_healfloor_k14_refusals_made_holds : PySem.Challenge.rw_healfloor_k14_refusals_made.Holds := by
  w_on; o_law; k_head; (case hw => w_witness2)
  k_fill
  refine DL.g_walk (l := PySem.Challenge.rw_healfloor_k14_refusals_made) (k := 4) (x := "_law_script") rfl rfl ⟨rfl, by decide, by decide⟩ rfl (fun w h Y => PySem.W.kIn_of Y) ?F
  case F =>
    intro w mg fa h KX G hmg
    refine' DL.all_mk KX G hmg ?a0 ?l0 ?c0 ?k0 ?a1 ?l1 ?c1 ?k1 ?a2 ?l2 ?c2 ?k2 ?a3 ?l3 ?c3 ?k3 ?a4 ?l4 ?c4 ?k4 ?a5 ?l5 ?c5 ?k5 ?a6 ?l6 ?c6 ?k6 ?xa_FloorError ?xa_NoDeed ?xa_NoName ?xa_NoText ?xa_NotPaper ?xa_TooMany ?xl_NoDeed ?xs_NoDeed ?xg_NoDeed ?xh_NoDeed ?xc_NoDeed ?xk_NoDeed ?xd_NoDeed ?xo_NoDeed ?xv_NoDeed ?xe_NoDeed ?xt_NoDeed_FloorError ?xt_NoDeed_TooMany ?xt_NoDeed_NoName ?xt_NoDeed_NoText ?xt_NoDeed_NotPaper ?xl_NoName ?xs_NoName ?xg_NoName ?xh_NoName ?xc_NoName ?xk_NoName ?xd_NoName ?xo_NoName ?xv_NoName ?xe_NoName ?xn_NoName ?xt_NoName_FloorError ?xt_NoName_TooMany ?xt_NoName_NoText ?xt_NoName_NotPaper ?xt_NoName_NoDeed ?xl_NoText ?xs_NoText ?xg_NoText ?xh_NoText ?xc_NoText ?xk_NoText ?xd_NoText ?xo_NoText ?xv_NoText ?xe_NoText ?xn_NoText ?xt_NoText_FloorError ?xt_NoText_TooMany ?xt_NoText_NoName ?xt_NoText_NotPaper ?xt_NoText_NoDeed ?xl_NotPaper ?xs_NotPaper ?xg_NotPaper ?xh_NotPaper ?xc_NotPaper ?xk_NotPaper ?xd_NotPaper ?xo_NotPaper ?xv_NotPaper ?xe_NotPaper ?xt_NotPaper_FloorError ?xt_NotPaper_TooMany ?xt_NotPaper_NoName ?xt_NotPaper_NoText ?xt_NotPaper_NoDeed ?xl_TooMany ?xs_TooMany ?xg_TooMany ?xh_TooMany ?xc_TooMany ?xk_TooMany ?xd_TooMany ?xo_TooMany ?xv_TooMany ?xe_TooMany ?xn_TooMany ?xt_TooMany_FloorError ?xt_TooMany_NoName ?xt_TooMany_NoText ?xt_TooMany_NotPaper ?xt_TooMany_NoDeed ?xb_FloorError ?xi_FloorError ?xy_FloorError ?xb_NoDeed ?xi_NoDeed ?xy_NoDeed ?xb_NoName ?xi_NoName ?xy_NoName ?xb_NoText ?xi_NoText ?xy_NoText ?xb_NotPaper ?xi_NotPaper ?xy_NotPaper ?xb_TooMany ?xi_TooMany ?xy_TooMany ?xq_1 ?xq_2 ?xq_3 ?xq_4 ?xq_5 ?xI_NoDeed ?xT_NoDeed ?xL_NoDeed ?xC_NoDeed ?xK_NoDeed ?xI_NoName ?xT_NoName ?xL_NoName ?xC_NoName ?xK_NoName ?xI_NoText ?xT_NoText ?xL_NoText ?xC_NoText ?xK_NoText ?xI_NotPaper ?xT_NotPaper ?xL_NotPaper ?xC_NotPaper ?xK_NotPaper ?xI_TooMany ?xT_TooMany ?xL_TooMany ?xC_TooMany ?xK_TooMany ?z_ValueError ?z_all ?z_isinstance ?z_len ?z_list ?z_max ?z_range ?z_repr ?z_reversed
    (case a0 => k_is)
    (case l0 => k_is)
    (case c0 => k_is)
    (case k0 => k_is)
    (case a1 => k_is)
    (case l1 => k_is)
    (case c1 => k_is)
    (case k1 => k_is)
    (case a2 => k_is)
    (case l2 => k_is)
    (case c2 => k_is)
    (case k2 => k_is)
    (case a3 => k_is)
    (case l3 => k_is)
    (case c3 => k_is)
    (case k3 => k_is)
    (case a4 => k_is)
    (case l4 => k_is)
    (case c4 => k_is)
    (case k4 => k_is)
    (case a5 => k_is)
    (case l5 => k_is)
    (case c5 => k_is)
    (case k5 => k_is)
    (case a6 => k_is)
    (case l6 => k_is)
    (case c6 => k_is)
    (case k6 => k_is)
    (case xa_FloorError => k_is)
    (case xa_NoDeed => k_is)
    (case xa_NoName => k_is)
    (case xa_NoText => k_is)
    (case xa_NotPaper => k_is)
    (case xa_TooMany => k_is)
    (case xl_NoDeed => k_is)
    (case xs_NoDeed => k_is)
    (case xg_NoDeed => k_is)
    (case xh_NoDeed => k_is)
    (case xc_NoDeed => k_is)
    (case xk_NoDeed => k_is)
    (case xd_NoDeed => k_is)
    (case xo_NoDeed => k_is)
    (case xv_NoDeed => k_is)
    (case xe_NoDeed => k_is)
    (case xt_NoDeed_FloorError => k_is)
    (case xt_NoDeed_TooMany => k_is)
    (case xt_NoDeed_NoName => k_is)
    (case xt_NoDeed_NoText => k_is)
    (case xt_NoDeed_NotPaper => k_is)
    (case xl_NoName => k_is)
    (case xs_NoName => k_is)
    (case xg_NoName => k_is)
    (case xh_NoName => k_is)
    (case xc_NoName => k_is)
    (case xk_NoName => k_is)
    (case xd_NoName => k_is)
    (case xo_NoName => k_is)
    (case xv_NoName => k_is)
    (case xe_NoName => k_is)
    (case xn_NoName => k_is)
    (case xt_NoName_FloorError => k_is)
    (case xt_NoName_TooMany => k_is)
    (case xt_NoName_NoText => k_is)
    (case xt_NoName_NotPaper => k_is)
    (case xt_NoName_NoDeed => k_is)
    (case xl_NoText => k_is)
    (case xs_NoText => k_is)
    (case xg_NoText => k_is)
    (case xh_NoText => k_is)
    (case xc_NoText => k_is)
    (case xk_NoText => k_is)
    (case xd_NoText => k_is)
    (case xo_NoText => k_is)
    (case xv_NoText => k_is)
    (case xe_NoText => k_is)
    (case xn_NoText => k_is)
    (case xt_NoText_FloorError => k_is)
    (case xt_NoText_TooMany => k_is)
    (case xt_NoText_NoName => k_is)
    (case xt_NoText_NotPaper => k_is)
    (case xt_NoText_NoDeed => k_is)
    (case xl_NotPaper => k_is)
    (case xs_NotPaper => k_is)
    (case xg_NotPaper => k_is)
    (case xh_NotPaper => k_is)
    (case xc_NotPaper => k_is)
    (case xk_NotPaper => k_is)
    (case xd_NotPaper => k_is)
    (case xo_NotPaper => k_is)
    (case xv_NotPaper => k_is)
    (case xe_NotPaper => k_is)
    (case xt_NotPaper_FloorError => k_is)
    (case xt_NotPaper_TooMany => k_is)
    (case xt_NotPaper_NoName => k_is)
    (case xt_NotPaper_NoText => k_is)
    (case xt_NotPaper_NoDeed => k_is)
    (case xl_TooMany => k_is)
    (case xs_TooMany => k_is)
    (case xg_TooMany => k_is)
    (case xh_TooMany => k_is)
    (case xc_TooMany => k_is)
    (case xk_TooMany => k_is)
    (case xd_TooMany => k_is)
    (case xo_TooMany => k_is)
    (case xv_TooMany => k_is)
    (case xe_TooMany => k_is)
    (case xn_TooMany => k_is)
    (case xt_TooMany_FloorError => k_is)
    (case xt_TooMany_NoName => k_is)
    (case xt_TooMany_NoText => k_is)
    (case xt_TooMany_NotPaper => k_is)
    (case xt_TooMany_NoDeed => k_is)
    (case xb_FloorError => k_is)
    (case xi_FloorError => k_is)
    (case xy_FloorError => k_is)
    (case xb_NoDeed => k_is)
    (case xi_NoDeed => k_is)
    (case xy_NoDeed => k_is)
    (case xb_NoName => k_is)
    (case xi_NoName => k_is)
    (case xy_NoName => k_is)
    (case xb_NoText => k_is)
    (case xi_NoText => k_is)
    (case xy_NoText => k_is)
    (case xb_NotPaper => k_is)
    (case xi_NotPaper => k_is)
    (case xy_NotPaper => k_is)
    (case xb_TooMany => k_is)
    (case xi_TooMany => k_is)
    (case xy_TooMany => k_is)
    (case xq_1 => k_is)
    (case xq_2 => k_is)
    (case xq_3 => k_is)
    (case xq_4 => k_is)
    (case xq_5 => k_is)
    (case xI_NoDeed => k_is)
    (case xT_NoDeed => k_is)
    (case xL_NoDeed => k_is)
    (case xC_NoDeed => k_is)
    (case xK_NoDeed => k_is)
    (case xI_NoName => k_is)
    (case xT_NoName => k_is)
    (case xL_NoName => k_is)
    (case xC_NoName => k_is)
    (case xK_NoName => k_is)
    (case xI_NoText => k_is)
    (case xT_NoText => k_is)
    (case xL_NoText => k_is)
    (case xC_NoText => k_is)
    (case xK_NoText => k_is)
    (case xI_NotPaper => k_is)
    (case xT_NotPaper => k_is)
    (case xL_NotPaper => k_is)
    (case xC_NotPaper => k_is)
    (case xK_NotPaper => k_is)
    (case xI_TooMany => k_is)
    (case xT_TooMany => k_is)
    (case xL_TooMany => k_is)
    (case xC_TooMany => k_is)
    (case xK_TooMany => k_is)
    (case z_ValueError => k_is)
    (case z_all => k_is)
    (case z_isinstance => k_is)
    (case z_len => k_is)
    (case z_list => k_is)
    (case z_max => k_is)
    (case z_range => k_is)
    (case z_repr => k_is)
    (case z_reversed => k_is)
