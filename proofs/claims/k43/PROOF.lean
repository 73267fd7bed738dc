import PyProof.Rows.All
import Wide.All
import OpenK.AllK
import Wide.FinOn
import HandS.ForMost
import HandS.Wide
import HandS.Exc
import HandS.Deep
import HandS.Iter
import HandS.Zip
import HandS.NoneIn
import HandS.TupMul
import HandS.TupAny
import HandS.IsInst
import HandS.TupLe
import HandS.Rev
import PyProof.ListRange
import HandS.Style
import HandS.TupSets
import HandS.SortOrd
import KE.GoesZip
import PyProof.Draws
import HandS.More
import PyProof.EnumMake
import PyProof.EnumFor
import KE.KeyNested
import KE.SortData
import HandS.ExcValue
import HandS.Conv
import HandS.Small
import KE.KDictPairs
import KE.KDictKeyed
import KE.DataCmp
import KE.BitLaws
import KE.KTupSum
import KE.DataMinMax
import PyProof.Claim2Refuses
import PyProof.ReprRoads
import PyProof.Rows.NestShow
import HandS.SetFor
import HandS.Strs
import PyProof.FitsInt
import HandS.FStrTup
import HandS.Defaults
import HandS.Text
import HandS.FStr
import KE.IntTextLaws
import PySem.Challenge.RW_healfloor_k43_islands_written_and_read
set_option Elab.async false
set_option linter.all false
set_option maxRecDepth 100000
set_option maxHeartbeats 2000000
namespace DL
open PySem PySem.Spec PyProof.Rows L2

inductive D where
  | non | bl (b : Bool) | int (i : Int) | str (x : Str) | ty (n : String)
  | tup (ds : List D) | lst (ds : List D)
  | dT (ks : List (List Key)) (ds : List D) | dK (ks : List Key) (ds : List D)
  | deal | feed | ref (a : Addr) | scr (ns : List Int)
  deriving Inhabited

structure Cfg where
  K : PySem.W.Frag
  fd : Addr → Addr → Prop
def Cfg.S (c : Cfg) (b : Addr) : Prop := ∃ a l, c.fd a l ∧ (b = a ∨ b = l)

def FeedA (H : Hp) (a l : Addr) : Prop := a ≠ l ∧ ∃ (s n : Int) (ns : List Int), H a = some (.dK [(Sum.inr "seed", .int s), (Sum.inr "number", .int n), (Sum.inr "left", .ref l)]) ∧ H l = some (.lst (ns.map V.int)) ∧
  0 ≤ s ∧ s < 2147483648 ∧ 0 ≤ n ∧ (∀ x ∈ ns, 0 < x) ∧ ns.length ≤ 63
def FeedC (H : Hp) (a l : Addr) : Prop := a = l ∧ ∃ (n s : Int), H a = some (.lst [.int n, .int s]) ∧ 0 ≤ n ∧ 0 ≤ s ∧ s < 2147483648
def FeedOk (H : Hp) (a l : Addr) : Prop := FeedA H a l ∨ FeedC H a l
theorem FeedOk.some1 {H : Hp} {a l : Addr} (h : FeedOk H a l) : H a ≠ none := by
  rcases h with ⟨_, s, n, ns, h, _⟩ | ⟨_, n, s, h, _⟩ <;> rw [h] <;> exact fun z => nomatch z
theorem FeedOk.some2 {H : Hp} {a l : Addr} (h : FeedOk H a l) : H l ≠ none := by
  rcases h with ⟨_, s, n, ns, _, h, _⟩ | ⟨e, n, s, h, _⟩
  · rw [h]; exact fun z => nomatch z
  · subst e; rw [h]; exact fun z => nomatch z
theorem FeedOk.same {H H' : Hp} {a l : Addr} (h : FeedOk H a l) (ha : H' a = H a) (hl : H' l = H l) : FeedOk H' a l := by
  unfold FeedOk FeedA FeedC at *
  rw [ha, hl]
  exact h
structure FeedsOk (c : Cfg) (H : Hp) : Prop where
  ok : ∀ a l, c.fd a l → FeedOk H a l
  apart : ∀ a l a' l', c.fd a l → c.fd a' l' → (a = a' ∧ l = l') ∨ (a ≠ a' ∧ a ≠ l' ∧ l ≠ a' ∧ l ≠ l')
theorem FeedsOk.al {c : Cfg} {H : Hp} (h : FeedsOk c H) {b : Addr} (hb : c.S b) : H b ≠ none := by
  obtain ⟨a, l, f, rfl | rfl⟩ := hb
  · exact (h.ok _ _ f).some1
  · exact (h.ok _ _ f).some2

structure Step (c : Cfg) (H : Hp) (c' : Cfg) (H' : Hp) : Prop where
  kk : c'.K = c.K
  sub : ∀ a l, c.fd a l → c'.fd a l
  new : ∀ b, c'.S b → c.S b ∨ H b = none
  keep : ∀ b o, ¬ c.S b → H b = some o → H' b = some o
  fok : FeedsOk c' H'
theorem Step.subS {c c' : Cfg} {H H' : Hp} (t : Step c H c' H') {b : Addr} (h : c.S b) : c'.S b := by
  obtain ⟨a, l, f, e⟩ := h
  exact ⟨a, l, t.sub _ _ f, e⟩
theorem Step.refl {c : Cfg} {H : Hp} (h : FeedsOk c H) : Step c H c H := ⟨rfl, fun _ _ f => f, fun _ h => .inl h, fun _ _ _ h => h, h⟩
theorem Step.notS {c c' : Cfg} {H H' : Hp} (t : Step c H c' H') {b : Addr} {o : HO} (h : H b = some o) (hs : ¬ c.S b) : ¬ c'.S b := fun z => by
  rcases t.new b z with z | z
  · exact hs z
  · rw [h] at z; cases z
theorem Step.trans {c c1 c2 : Cfg} {H H1 H2 : Hp} (t : Step c H c1 H1) (u : Step c1 H1 c2 H2) : Step c H c2 H2 := by
  refine ⟨u.kk.trans t.kk, fun a l f => u.sub _ _ (t.sub _ _ f), fun b h => ?_, fun b o hs h => u.keep b o (t.notS h hs) (t.keep b o hs h), u.fok⟩
  rcases u.new b h with h | h
  · exact t.new b h
  · cases q : H b with
    | none => exact .inr rfl
    | some o =>
      by_cases hs : c.S b
      · exact .inl hs
      · rw [t.keep b o hs q] at h; cases h
theorem Step.alive {c c' : Cfg} {H H' : Hp} (t : Step c H c' H') {b : Addr} (h : H b ≠ none) : H' b ≠ none := by
  by_cases hs : c.S b
  · exact t.fok.al (t.subS hs)
  · cases q : H b with
    | none => exact absurd q h
    | some o => rw [t.keep b o hs q]; exact fun z => nomatch z
theorem Step.fresh {c c' : Cfg} {H H' : Hp} (t : Step c H c' H') {b : Addr} (h : H' b = none) : H b = none := by
  cases q : H b with
  | none => rfl
  | some o => exact absurd h (t.alive (by rw [q]; exact fun z => nomatch z))
theorem Step.upd {c c' : Cfg} {H H' : Hp} (t : Step c H c' H') {p : Addr} {o : HO} (h : H p = none) (hs : ¬ c'.S p) : Step c H c' (upd H' p o) := by
  refine ⟨t.kk, t.sub, t.new, fun b u hb e => ?_, ⟨fun a l f => ?_, t.fok.apart⟩⟩
  · rw [upd_ne (ne_of_none e h)]
    exact t.keep b u hb e
  · have ha : a ≠ p := fun z => hs (z ▸ ⟨a, l, f, .inl rfl⟩)
    have hl : l ≠ p := fun z => hs (z ▸ ⟨a, l, f, .inr rfl⟩)
    exact (t.fok.ok a l f).same (upd_ne ha) (upd_ne hl)
theorem FeedsOk.fresh {c : Cfg} {H : Hp} (h : FeedsOk c H) {p : Addr} (hp : H p = none) : ¬ c.S p := fun z => h.al z hp
theorem Step.one {c : Cfg} {H : Hp} (f : FeedsOk c H) {p : Addr} {o : HO} (h : H p = none) : Step c H c (L2.upd H p o) := (Step.refl f).upd h (f.fresh h)
theorem Step.more {c c' : Cfg} {H H' : Hp} (t : Step c H c' H') {p : Addr} {o : HO} (h : H' p = none) : Step c H c' (L2.upd H' p o) := t.upd (t.fresh h) (t.fok.fresh h)
theorem Step.ofSame {c : Cfg} {H H' : Hp} (f : FeedsOk c H) (h : ∀ b o, H b = some o → H' b = some o) : Step c H c H' := by
  have e : ∀ b, H b ≠ none → H' b = H b := fun b hb => by
    cases q : H b with
    | none => exact absurd q hb
    | some o => exact h b o q
  exact ⟨rfl, fun _ _ z => z, fun _ z => .inl z, fun b o _ z => h b o z, ⟨fun a l z => (f.ok a l z).same (e _ (f.ok a l z).some1) (e _ (f.ok a l z).some2), f.apart⟩⟩

def NodT (c : Cfg) (Av : Addr → Prop) (H : Hp) (a : Addr) (vs : List V) : Prop := vs.length ≤ sizeLine ∧ ¬ Av a ∧ H a = some (.tup vs)
def NodL (Av : Addr → Prop) (H : Hp) (a : Addr) (vs : List V) : Prop := vs.length ≤ sizeLine ∧ ¬ Av a ∧ H a = some (.lst vs)
mutual
inductive Rep (c : Cfg) (Av : Addr → Prop) (H : Hp) : V → D → Prop
  | non : Rep c Av H .non .non
  | bl (b : Bool) : Rep c Av H (.bl b) (.bl b)
  | int (i : Int) : Rep c Av H (.int i) (.int i)
  | str (x : Str) : Rep c Av H (.str x) (.str x)
  | ty (n : String) : Rep c Av H (.ty n) (.ty n)
  | ref (a : Addr) : Rep c Av H (.ref a) (.ref a)
  | deal {a l : Addr} : a ≠ l → c.fd a l → Rep c Av H (.ref a) .deal
  | feed {a : Addr} : c.fd a a → Rep c Av H (.ref a) .feed
  | scr {a : Addr} {ns : List Int} : ns.length ≤ 63 → ((¬ Av a ∧ Rd H a (.lst (ns.map V.int))) ∨ SqL c.K (fun _ => none) a (ns.map V.int)) → Rep c Av H (.ref a) (.scr ns)
  | tup {a : Addr} {vs : List V} {ds : List D} : NodT c Av H a vs → RepL c Av H vs ds → Rep c Av H (.ref a) (.tup ds)
  | lst {a : Addr} {vs : List V} {ds : List D} : NodL Av H a vs → RepL c Av H vs ds → Rep c Av H (.ref a) (.lst ds)
  | dT {a : Addr} {ks : List (List Key)} {vs : List V} {ds : List D} : ks.length = vs.length → ¬ Av a → H a = some (.dT (ks.zip vs)) → RepL c Av H vs ds → Rep c Av H (.ref a) (.dT ks ds)
  | dK {a : Addr} {ks : List Key} {vs : List V} {ds : List D} : ks.length = vs.length → ¬ Av a → H a = some (.dK (ks.zip vs)) → RepL c Av H vs ds → Rep c Av H (.ref a) (.dK ks ds)
inductive RepL (c : Cfg) (Av : Addr → Prop) (H : Hp) : List V → List D → Prop
  | nil : RepL c Av H [] []
  | cons {v : V} {vs : List V} {d : D} {ds : List D} : Rep c Av H v d → RepL c Av H vs ds → RepL c Av H (v :: vs) (d :: ds)
end
section
variable {c c' : Cfg} {Av Av' : Addr → Prop} {H H' : Hp}
theorem rd_mv {a : Addr} {u : HO} (m : ∀ b o, ¬ Av b → H b = some o → ¬ Av' b ∧ H' b = some o) (n : ¬ Av a) (h : Rd H a u) : ¬ Av' a ∧ Rd H' a u := by
  rcases h with h | ⟨o, h⟩
  · exact ⟨(m _ _ n h).1, .inl (m _ _ n h).2⟩
  · exact ⟨(m _ _ n h).1, .inr ⟨o, (m _ _ n h).2⟩⟩
mutual
theorem Rep.mv (k : c'.K = c.K) (f : ∀ a l, c.fd a l → c'.fd a l) (m : ∀ b o, ¬ Av b → H b = some o → ¬ Av' b ∧ H' b = some o) : ∀ (d : D) (v : V), Rep c Av H v d → Rep c' Av' H' v d
  | .non, _, h => by cases h; exact .non
  | .bl _, _, h => by cases h; exact .bl _
  | .int _, _, h => by cases h; exact .int _
  | .str _, _, h => by cases h; exact .str _
  | .ty _, _, h => by cases h; exact .ty _
  | .ref _, _, h => by cases h; exact .ref _
  | .deal, _, h => by cases h with | deal n z => exact .deal n (f _ _ z)
  | .feed, _, h => by cases h with | feed z => exact .feed (f _ _ z)
  | .scr ns, _, h => by
    cases h with
    | scr e n =>
      refine .scr e ?_
      rcases n with n | n
      · exact .inl (rd_mv m n.1 n.2)
      · exact .inr (by rw [k]; exact n)
  | .tup ds, _, h => by
    cases h with
    | tup n r =>
      exact .tup ⟨n.1, m _ _ n.2.1 n.2.2⟩ (RepL.mv k f m ds _ r)
  | .lst ds, _, h => by
    cases h with
    | lst n r => exact .lst ⟨n.1, m _ _ n.2.1 n.2.2⟩ (RepL.mv k f m ds _ r)
  | .dT ks ds, _, h => by
    cases h with
    | dT e n g r => exact .dT e (m _ _ n g).1 (m _ _ n g).2 (RepL.mv k f m ds _ r)
  | .dK ks ds, _, h => by
    cases h with
    | dK e n g r => exact .dK e (m _ _ n g).1 (m _ _ n g).2 (RepL.mv k f m ds _ r)
theorem RepL.mv (k : c'.K = c.K) (f : ∀ a l, c.fd a l → c'.fd a l) (m : ∀ b o, ¬ Av b → H b = some o → ¬ Av' b ∧ H' b = some o) : ∀ (ds : List D) (vs : List V), RepL c Av H vs ds → RepL c' Av' H' vs ds
  | [], _, h => by cases h; exact .nil
  | d :: ds, _, h => by
    cases h with
    | cons r s => exact .cons (Rep.mv k f m d _ r) (RepL.mv k f m ds _ s)
end
theorem RepL.len : ∀ {vs : List V} {ds : List D}, RepL c Av H vs ds → vs.length = ds.length
  | _, _, .nil => rfl
  | _, _, .cons _ t => congrArg (· + 1) t.len
theorem RepL.get : ∀ {vs : List V} {ds : List D} {i : Nat} {d : D}, RepL c Av H vs ds → ds[i]? = some d → ∃ v, vs[i]? = some v ∧ Rep c Av H v d
  | _, _, _, _, .nil, e => by simp at e
  | _, _, 0, _, .cons r _, e => by
    have e' := Option.some.inj e
    subst e'
    exact ⟨_, rfl, r⟩
  | _, _, i + 1, d, .cons _ t, e => by
    obtain ⟨u, h1, h2⟩ := RepL.get (i := i) (d := d) t (by simpa using e)
    exact ⟨u, by simpa using h1, h2⟩
theorem RepL.getV : ∀ {vs : List V} {ds : List D} {i : Nat} {v : V}, RepL c Av H vs ds → vs[i]? = some v → ∃ d, ds[i]? = some d ∧ Rep c Av H v d
  | _, _, _, _, .nil, e => by simp at e
  | _, _, 0, _, .cons r _, e => by
    have e' := Option.some.inj e
    subst e'
    exact ⟨_, rfl, r⟩
  | _, _, i + 1, v, .cons _ t, e => by
    obtain ⟨u, h1, h2⟩ := RepL.getV (i := i) (v := v) t (by simpa using e)
    exact ⟨u, by simpa using h1, h2⟩
theorem RepL.append : ∀ {vs ws : List V} {ds es : List D}, RepL c Av H vs ds → RepL c Av H ws es → RepL c Av H (vs ++ ws) (ds ++ es)
  | _, _, _, _, .nil, s => s
  | _, _, _, _, .cons r t, s => .cons r (t.append s)
theorem RepL.take : ∀ {vs : List V} {ds : List D} (n : Nat), RepL c Av H vs ds → RepL c Av H (vs.take n) (ds.take n)
  | _, _, 0, _ => .nil
  | _, _, _ + 1, .nil => .nil
  | _, _, n + 1, .cons r t => .cons r (t.take n)
theorem RepL.drop : ∀ {vs : List V} {ds : List D} (n : Nat), RepL c Av H vs ds → RepL c Av H (vs.drop n) (ds.drop n)
  | _, _, 0, r => r
  | _, _, _ + 1, .nil => .nil
  | _, _, n + 1, .cons _ t => t.drop n
theorem RepL.set {v : V} {d : D} (r : Rep c Av H v d) : ∀ {vs : List V} {ds : List D} (i : Nat), RepL c Av H vs ds → RepL c Av H (vs.set i v) (ds.set i d)
  | _, _, _, .nil => .nil
  | _, _, 0, .cons _ t => .cons r t
  | _, _, i + 1, .cons q t => .cons q (t.set r i)
theorem RepL.rev : ∀ {vs : List V} {ds : List D}, RepL c Av H vs ds → RepL c Av H vs.reverse ds.reverse
  | _, _, .nil => .nil
  | _, _, .cons r t => by
    rw [List.reverse_cons, List.reverse_cons]
    exact t.rev.append (.cons r .nil)
theorem RepL.ints : ∀ {vs : List V} {ns : List Int}, RepL c Av H vs (ns.map D.int) → vs = ns.map V.int
  | _, [], h => by cases h; rfl
  | _, n :: ns, h => by
    cases h with
    | cons r t =>
      cases r
      rw [t.ints]
      rfl
theorem RepL.ofInts : ∀ (ns : List Int), RepL c Av H (ns.map V.int) (ns.map D.int)
  | [] => .nil
  | n :: ns => .cons (.int n) (RepL.ofInts ns)
theorem sqT_any {K : PySem.W.Frag} {a : Addr} {vs : List V} (h : SqT K (fun _ => none) a vs) (H : Hp) : SqT K H a vs := by
  rcases h with (h | ⟨o, h⟩) | h
  · cases h
  · cases h
  · exact .inr h
theorem sqL_any {K : PySem.W.Frag} {a : Addr} {vs : List V} (h : SqL K (fun _ => none) a vs) (H : Hp) : SqL K H a vs := by
  rcases h with (h | ⟨o, h⟩) | h
  · cases h
  · cases h
  · exact .inr h
theorem NodT.sq {a : Addr} {vs : List V} (h : NodT c Av H a vs) : SqT c.K H a vs := .inl (.inl h.2.2)
theorem NodL.sq {K : PySem.W.Frag} {a : Addr} {vs : List V} (h : NodL Av H a vs) : SqL K H a vs := .inl (.inl h.2.2)
end

abbrev PEnv := List (Option D)
def OwnA (own : List Nat) (σ : L2.St) (ρ : PEnv) (a : Addr) : Prop := ∃ i d, i ∈ own ∧ ρ[i]? = some (some d) ∧ σ[i]? = some (some (.ref a))
def Avd (c : Cfg) (own : List Nat) (A : Addr → Prop) (σ : L2.St) (ρ : PEnv) (a : Addr) : Prop := A a ∨ c.S a ∨ OwnA own σ ρ a
inductive OwnR (c : Cfg) (Av : Addr → Prop) (H : Hp) (a : Addr) : D → Prop
  | lst {vs : List V} {ds : List D} : vs.length ≤ sizeLine → H a = some (.lst vs) → RepL c Av H vs ds → OwnR c Av H a (.lst ds)
  | dT {ks : List (List Key)} {vs : List V} {ds : List D} : ks.length = vs.length → H a = some (.dT (ks.zip vs)) → RepL c Av H vs ds → OwnR c Av H a (.dT ks ds)
  | dK {ks : List Key} {vs : List V} {ds : List D} : ks.length = vs.length → H a = some (.dK (ks.zip vs)) → RepL c Av H vs ds → OwnR c Av H a (.dK ks ds)
def AvOk (H : Hp) (a : Addr) : Prop := H a ≠ none ∧ ∀ vs, H a ≠ some (.tup vs)
theorem Step.avOk {c c' : Cfg} {H H' : Hp} (t : Step c H c' H') {b : Addr} (h : AvOk H b) : AvOk H' b := by
  by_cases hs : c.S b
  · refine ⟨t.fok.al (t.subS hs), fun vs z => ?_⟩
    obtain ⟨a, l, f, e⟩ := t.subS hs
    rcases t.fok.ok a l f with ⟨_, s, n, ns, h1, h2, _⟩ | ⟨q, n, s, h1, _⟩
    · rcases e with e | e
      · rw [e, h1] at z; cases z
      · rw [e, h2] at z; cases z
    · have : b = a := by rcases e with e | e
                         · exact e
                         · exact e.trans q.symm
      rw [this, h1] at z; cases z
  · cases q : H b with
    | none => exact absurd q h.1
    | some o =>
      have e := t.keep b o hs q
      refine ⟨by rw [e]; exact fun z => (nomatch z), fun vs z => h.2 vs ?_⟩
      rw [e] at z
      rw [q, z]
structure EnvR (c : Cfg) (own : List Nat) (A : Addr → Prop) (σ : L2.St) (ρ : PEnv) (H : Hp) : Prop where
  fok : FeedsOk c H
  len : ρ.length = σ.length
  avA : ∀ a, A a → AvOk H a
  slot : ∀ i d, ρ[i]? = some (some d) → i ∉ own → ∃ v, σ[i]? = some (some v) ∧ Rep c (Avd c own A σ ρ) H v d
  ownS : ∀ i d, ρ[i]? = some (some d) → i ∈ own → ∃ a, σ[i]? = some (some (.ref a)) ∧ ¬ A a ∧ ¬ c.S a ∧ OwnR c (Avd c own A σ ρ) H a d
  dist : ∀ i j a d e, i ∈ own → j ∈ own → ρ[i]? = some (some d) → ρ[j]? = some (some e) → σ[i]? = some (some (.ref a)) → σ[j]? = some (some (.ref a)) → i = j
section
variable {c c' : Cfg} {own : List Nat} {A : Addr → Prop} {σ : L2.St} {ρ : PEnv} {H H' : Hp}
theorem OwnR.some {Av : Addr → Prop} {a : Addr} {d : D} (h : OwnR c Av H a d) : H a ≠ none := by
  cases h with
  | lst _ h _ => rw [h]; exact fun z => nomatch z
  | dT _ h _ => rw [h]; exact fun z => nomatch z
  | dK _ h _ => rw [h]; exact fun z => nomatch z
theorem OwnR.mv {Av Av' : Addr → Prop} {a : Addr} {d : D} (k : c'.K = c.K) (f : ∀ a l, c.fd a l → c'.fd a l) (m : ∀ b o, ¬ Av b → H b = .some o → ¬ Av' b ∧ H' b = .some o) (e : ∀ o, H a = .some o → H' a = .some o) (h : OwnR c Av H a d) : OwnR c' Av' H' a d := by
  cases h with
  | lst z h r => exact .lst z (e _ h) (RepL.mv k f m _ _ r)
  | dT z h r => exact .dT z (e _ h) (RepL.mv k f m _ _ r)
  | dK z h r => exact .dK z (e _ h) (RepL.mv k f m _ _ r)
theorem EnvR.own_al (E : EnvR c own A σ ρ H) {a : Addr} (h : OwnA own σ ρ a) : H a ≠ none := by
  obtain ⟨i, d, hi, h1, h2⟩ := h
  obtain ⟨b, e, _, _, r⟩ := E.ownS i d h1 hi
  rw [h2] at e
  have e' := Option.some.inj (Option.some.inj e)
  cases e'
  exact r.some
theorem EnvR.own_av (E : EnvR c own A σ ρ H) {a : Addr} (h : OwnA own σ ρ a) : AvOk H a := by
  refine ⟨E.own_al h, fun vs z => ?_⟩
  obtain ⟨i, d, hi, h1, h2⟩ := h
  obtain ⟨b, e, _, _, r⟩ := E.ownS i d h1 hi
  rw [h2] at e
  have e' := Option.some.inj (Option.some.inj e)
  cases e'
  cases r with
  | lst _ h _ => rw [h] at z; cases z
  | dT _ h _ => rw [h] at z; cases z
  | dK _ h _ => rw [h] at z; cases z
theorem EnvR.tup_free (E : EnvR c own A σ ρ H) {a : Addr} {vs : List V} (h : H a = some (.tup vs)) : ¬ Avd c own A σ ρ a := fun z => by
  rcases z with z | z | z
  · exact (E.avA a z).2 vs h
  · obtain ⟨b, l, f, e⟩ := z
    rcases E.fok.ok b l f with ⟨_, s, n, ns, h1, h2, _⟩ | ⟨q, n, s, h1, _⟩
    · rcases e with e | e
      · rw [← e, h] at h1; cases h1
      · rw [← e, h] at h2; cases h2
    · have : a = b := by rcases e with e | e
                         · exact e
                         · exact e.trans q.symm
      rw [← this, h] at h1; cases h1
  · exact (E.own_av z).2 vs h
theorem EnvR.al (E : EnvR c own A σ ρ H) {a : Addr} (h : Avd c own A σ ρ a) : H a ≠ none := by
  rcases h with h | h | h
  · exact (E.avA a h).1
  · exact E.fok.al h
  · exact E.own_al h
theorem EnvR.mv (E : EnvR c own A σ ρ H) (t : Step c H c' H') : ∀ b o, ¬ Avd c own A σ ρ b → H b = some o → ¬ Avd c' own A σ ρ b ∧ H' b = some o := fun b o n h => by
  have hs : ¬ c.S b := fun z => n (.inr (.inl z))
  refine ⟨fun z => ?_, t.keep b o hs h⟩
  rcases z with z | z | z
  · exact n (.inl z)
  · exact t.notS h hs z
  · exact n (.inr (.inr z))
theorem EnvR.step (E : EnvR c own A σ ρ H) (t : Step c H c' H') : EnvR c' own A σ ρ H' := by
  have m := E.mv t
  refine ⟨t.fok, E.len, fun a h => t.avOk (E.avA a h), fun i d h hi => ?_, fun i d h hi => ?_, E.dist⟩
  · obtain ⟨v, h1, h2⟩ := E.slot i d h hi
    exact ⟨v, h1, Rep.mv t.kk t.sub m d v h2⟩
  · obtain ⟨a, h1, h2, h3, h4⟩ := E.ownS i d h hi
    have q : H a ≠ none := h4.some
    refine ⟨a, h1, h2, fun z => ?_, h4.mv t.kk t.sub m fun o e => t.keep a o h3 e⟩
    rcases t.new a z with z | z
    · exact h3 z
    · exact q z
end
end DL

set_option Elab.async false
set_option linter.all false
set_option maxRecDepth 100000
set_option maxHeartbeats 2000000
namespace DL
open PySem PySem.Spec PyProof.Rows L2

theorem pe_imp {X : Cx} {e : Expr} {t t' : TE} (h : PE X e t) (m : ∀ σ H Q, t' σ H Q → t σ H Q) : PE X e t' := ⟨fun pins s σ H Q I q => h.run pins s σ H Q I (m σ H Q q)⟩
theorem pt_imp {X : Cx} {e : Expr} {t t' : TT} (h : PT X e t) (m : ∀ σ H Q, t' σ H Q → t σ H Q) : PT X e t' := ⟨fun pins s σ H Q I q => h.run pins s σ H Q I (m σ H Q q)⟩
theorem pw_imp {X : Cx} {e : Expr} {t t' : TT} (h : PW X e t) (m : ∀ σ H Q, t' σ H Q → t σ H Q) : PW X e t' := ⟨fun w pins s σ H Q I q => h.run w pins s σ H Q I (m σ H Q q)⟩
theorem pa_imp {X : Cx} {es : List Expr} {t t' : TA} (h : PA X es t) (m : ∀ σ H Q, t' σ H Q → t σ H Q) : PA X es t' := ⟨fun p pins s σ H Q I q => h.run p pins s σ H Q I (m σ H Q q)⟩
theorem ps_imp {X : Cx} {st : Stmt} {t t' : TS} (h : PS X st t) (m : ∀ D σ H, t' D σ H → t D σ H) : PS X st t' := ⟨fun pins s σ H D I q => h.run pins s σ H D I (m D σ H q)⟩
theorem pss_imp {X : Cx} {st : List Stmt} {t t' : TS} (h : PSs X st t) (m : ∀ D σ H, t' D σ H → t D σ H) : PSs X st t' := ⟨fun pins s σ H D I q => h.run pins s σ H D I (m D σ H q)⟩

inductive Kd where | weak | strong | fresh
abbrev TED := PEnv → (D → Prop) → Prop
abbrev TTD := PEnv → (Bool → Prop) → Prop
abbrev TAD := PEnv → (List D → Prop) → Prop

section
variable (c : Cfg) (own : List Nat) (A : Addr → Prop) (σ : L2.St) (ρ : PEnv)
def RepW (H : Hp) (v : V) (d : D) : Prop := Rep c (Avd c own A σ ρ) H v d ∨ ∃ a, v = .ref a ∧ OwnA own σ ρ a ∧ ¬ A a ∧ ¬ c.S a ∧ OwnR c (Avd c own A σ ρ) H a d
def Fr (H0 H : Hp) (v : V) (d : D) : Prop := ∃ a, v = .ref a ∧ H0 a = none ∧ ¬ c.S a ∧ OwnR c (fun b => Avd c own A σ ρ b ∨ b = a) H a d
def Res (k : Kd) (H0 H : Hp) (v : V) (d : D) : Prop := match k with
  | .weak => RepW c own A σ ρ H v d
  | .strong => Rep c (Avd c own A σ ρ) H v d
  | .fresh => Fr c own A σ ρ H0 H v d
end

def lift (K : PySem.W.Frag) (own : List Nat) (k : Kd) (p : TED) : TE := fun σ H Q => ∃ c A ρ R, c.K = K ∧ EnvR c own A σ ρ H ∧ p ρ R ∧ ∀ c' v H' d, Step c H c' H' → Res c' own A σ ρ k H H' v d → R d → Q v H'
def liftT (K : PySem.W.Frag) (own : List Nat) (p : TTD) : TT := fun σ H Q => ∃ c A ρ R, c.K = K ∧ EnvR c own A σ ρ H ∧ p ρ R ∧ ∀ c' H' b, Step c H c' H' → R b → Q b H'
def liftA (K : PySem.W.Frag) (own : List Nat) (k : Kd) (n : Nat) (p : TAD) : TA := fun σ H Q => ∃ c A ρ R, c.K = K ∧ EnvR c own A σ ρ H ∧ p ρ R ∧ ∀ c' vs H' ds, Step c H c' H' → Paired (Res c' own A σ ρ k H' H') vs ds → ds.length = n → R ds → Q vs H'

section
variable {c c' : Cfg} {own : List Nat} {A : Addr → Prop} {σ : L2.St} {ρ : PEnv} {H H' H0 : Hp} {v : V} {d : D}
theorem Rep.step (E : EnvR c own A σ ρ H) (t : Step c H c' H') (r : Rep c (Avd c own A σ ρ) H v d) : Rep c' (Avd c' own A σ ρ) H' v d := Rep.mv t.kk t.sub (E.mv t) d v r
theorem RepL.step {vs : List V} {ds : List D} (E : EnvR c own A σ ρ H) (t : Step c H c' H') (r : RepL c (Avd c own A σ ρ) H vs ds) : RepL c' (Avd c' own A σ ρ) H' vs ds := RepL.mv t.kk t.sub (E.mv t) ds vs r
theorem RepW.step (E : EnvR c own A σ ρ H) (t : Step c H c' H') (r : RepW c own A σ ρ H v d) : RepW c' own A σ ρ H' v d := by
  rcases r with r | ⟨a, e, o, n1, n2, r⟩
  · exact .inl (r.step E t)
  · refine .inr ⟨a, e, o, n1, fun z => ?_, r.mv t.kk t.sub (E.mv t) fun o e => t.keep a o n2 e⟩
    rcases t.new a z with z | z
    · exact n2 z
    · exact r.some z
theorem Rep.weak (r : Rep c (Avd c own A σ ρ) H v d) : RepW c own A σ ρ H v d := .inl r
theorem Fr.strong (t : Step c H0 c' H') (E : EnvR c own A σ ρ H0) (r : Fr c' own A σ ρ H0 H' v d) : Rep c' (Avd c' own A σ ρ) H' v d := by
  obtain ⟨a, rfl, n, ns, r⟩ := r
  have na : ¬ Avd c' own A σ ρ a := fun z => by
    rcases z with z | z | z
    · exact (E.avA a z).1 n
    · exact ns z
    · exact E.own_al z n
  have m : ∀ b o, ¬ (Avd c' own A σ ρ b ∨ b = a) → H' b = some o → ¬ Avd c' own A σ ρ b ∧ H' b = some o := fun b o h e => ⟨fun z => h (.inl z), e⟩
  cases r with
  | lst z h r => exact .lst ⟨z, na, h⟩ (RepL.mv rfl (fun _ _ z => z) m _ _ r)
  | dT z h r => exact .dT z na h (RepL.mv rfl (fun _ _ z => z) m _ _ r)
  | dK z h r => exact .dK z na h (RepL.mv rfl (fun _ _ z => z) m _ _ r)
theorem Res.weak {k : Kd} (t : Step c H c' H') (E : EnvR c own A σ ρ H) (r : Res c' own A σ ρ k H H' v d) : RepW c' own A σ ρ H' v d := by
  cases k with
  | weak => exact r
  | strong => exact .inl r
  | fresh => exact .inl (Fr.strong t E r)
theorem Res.strong {k : Kd} (hk : k ≠ .weak) (t : Step c H c' H') (E : EnvR c own A σ ρ H) (r : Res c' own A σ ρ k H H' v d) : Rep c' (Avd c' own A σ ρ) H' v d := by
  cases k with
  | weak => exact absurd rfl hk
  | strong => exact r
  | fresh => exact Fr.strong t E r
theorem RepW.int {i : Int} (r : RepW c own A σ ρ H v (.int i)) : v = .int i := by
  rcases r with r | ⟨a, e, o, n1, n2, r⟩
  · cases r; rfl
  · cases r
theorem RepW.bl {b : Bool} (r : RepW c own A σ ρ H v (.bl b)) : v = .bl b := by
  rcases r with r | ⟨a, e, o, n1, n2, r⟩
  · cases r; rfl
  · cases r
theorem RepW.str {x : Str} (r : RepW c own A σ ρ H v (.str x)) : v = .str x := by
  rcases r with r | ⟨a, e, o, n1, n2, r⟩
  · cases r; rfl
  · cases r
theorem RepW.non (r : RepW c own A σ ρ H v .non) : v = .non := by
  rcases r with r | ⟨a, e, o, n1, n2, r⟩
  · cases r; rfl
  · cases r
theorem RepW.ty {n : String} (r : RepW c own A σ ρ H v (.ty n)) : v = .ty n := by
  rcases r with r | ⟨a, e, o, n1, n2, r⟩
  · cases r; rfl
  · cases r
theorem RepW.ref {a : Addr} (r : RepW c own A σ ρ H v (.ref a)) : v = .ref a := by
  rcases r with r | ⟨a, e, o, n1, n2, r⟩
  · cases r; rfl
  · cases r
theorem RepW.scr {ns : List Int} (r : RepW c own A σ ρ H v (.scr ns)) : ∃ a, v = .ref a ∧ ns.length ≤ 63 ∧ SqL c.K H a (ns.map V.int) := by
  rcases r with r | ⟨a, e, o, n1, n2, r⟩
  · cases r with
    | scr e n =>
      refine ⟨_, rfl, e, ?_⟩
      rcases n with n | n
      · exact .inl n.2
      · exact sqL_any n H
  · cases r
theorem RepW.deal (r : RepW c own A σ ρ H v .deal) : ∃ a l, v = .ref a ∧ a ≠ l ∧ c.fd a l := by
  rcases r with r | ⟨a, e, o, n1, n2, r⟩
  · cases r with | deal n z => exact ⟨_, _, rfl, n, z⟩
  · cases r
theorem RepW.tup {ds : List D} (r : RepW c own A σ ρ H v (.tup ds)) : ∃ a vs, v = .ref a ∧ NodT c (Avd c own A σ ρ) H a vs ∧ RepL c (Avd c own A σ ρ) H vs ds := by
  rcases r with r | ⟨a, e, o, n1, n2, r⟩
  · cases r with | tup n r => exact ⟨_, _, rfl, n, r⟩
  · cases r
theorem RepW.lst {ds : List D} (r : RepW c own A σ ρ H v (.lst ds)) : ∃ a vs, v = .ref a ∧ vs.length ≤ sizeLine ∧ H a = some (.lst vs) ∧ RepL c (Avd c own A σ ρ) H vs ds := by
  rcases r with r | ⟨a, e, o, n1, n2, r⟩
  · cases r with | lst n r => exact ⟨_, _, rfl, n.1, n.2.2, r⟩
  · cases r with | lst z h r => exact ⟨_, _, e, z, h, r⟩
theorem RepW.dT {ks : List (List Key)} {ds : List D} (r : RepW c own A σ ρ H v (.dT ks ds)) : ∃ a vs, v = .ref a ∧ ks.length = vs.length ∧ H a = some (.dT (ks.zip vs)) ∧ RepL c (Avd c own A σ ρ) H vs ds := by
  rcases r with r | ⟨a, e, o, n1, n2, r⟩
  · cases r with | dT e n g r => exact ⟨_, _, rfl, e, g, r⟩
  · cases r with | dT z h r => exact ⟨_, _, e, z, h, r⟩
theorem RepW.dK {ks : List Key} {ds : List D} (r : RepW c own A σ ρ H v (.dK ks ds)) : ∃ a vs, v = .ref a ∧ ks.length = vs.length ∧ H a = some (.dK (ks.zip vs)) ∧ RepL c (Avd c own A σ ρ) H vs ds := by
  rcases r with r | ⟨a, e, o, n1, n2, r⟩
  · cases r with | dK e n g r => exact ⟨_, _, rfl, e, g, r⟩
  · cases r with | dK z h r => exact ⟨_, _, e, z, h, r⟩
theorem Fr.newL (E : EnvR c own A σ ρ H) {vs : List V} {ds : List D} {p : Addr} (hp : H p = none) (hz : vs.length ≤ sizeLine) (r : RepL c (Avd c own A σ ρ) H vs ds) : Fr c own A σ ρ H (L2.upd H p (.lst vs)) (.ref p) (.lst ds) :=
  ⟨p, rfl, hp, E.fok.fresh hp, .lst hz upd_same (RepL.mv rfl (fun _ _ z => z) (fun b o n e => by
    have hb : b ≠ p := ne_of_none e hp
    exact ⟨fun z => z.elim n hb, by rw [upd_ne hb]; exact e⟩) _ _ r)⟩
theorem Rep.newT (E : EnvR c own A σ ρ H) {vs : List V} {ds : List D} {p : Addr} (hp : H p = none) (hz : vs.length ≤ sizeLine) (r : RepL c (Avd c own A σ ρ) H vs ds) : Rep c (Avd c own A σ ρ) (L2.upd H p (.tup vs)) (.ref p) (.tup ds) :=
  .tup ⟨hz, fun z => E.al z hp, upd_same⟩ (RepL.mv rfl (fun _ _ z => z) (fun b o n e => ⟨n, by rw [upd_ne (ne_of_none e hp)]; exact e⟩) _ _ r)
theorem paired_strong {vs : List V} {ds : List D} (h : Paired (Res c own A σ ρ .strong H H) vs ds) : RepL c (Avd c own A σ ρ) H vs ds := by
  induction h with
  | nil => exact .nil
  | cons r _ ih => exact .cons r ih
theorem OwnR.rep {Av Av' : Addr → Prop} {a : Addr} {d : D} (n : ¬ Av' a) (m : ∀ b, Av' b → Av b) (h : OwnR c Av H a d) : Rep c Av' H (.ref a) d := by
  cases h with
  | lst z h r => exact .lst ⟨z, n, h⟩ (RepL.mv rfl (fun _ _ z => z) (fun b o k e => ⟨fun z => k (m b z), e⟩) _ _ r)
  | dT z h r => exact .dT z n h (RepL.mv rfl (fun _ _ z => z) (fun b o k e => ⟨fun z => k (m b z), e⟩) _ _ r)
  | dK z h r => exact .dK z n h (RepL.mv rfl (fun _ _ z => z) (fun b o k e => ⟨fun z => k (m b z), e⟩) _ _ r)
theorem RepW.seen (h : RepW c own A σ ρ H v d) : Rep c (fun b => A b ∨ c.S b) H v d := by
  rcases h with r | ⟨a, e, o, n1, n2, r⟩
  · exact Rep.mv rfl (fun _ _ z => z) (fun b o n e => ⟨fun z => n (z.elim .inl fun z => .inr (.inl z)), e⟩) _ _ r
  · subst e
    exact r.rep (fun z => z.elim n1 n2) fun b z => z.elim .inl fun z => .inr (.inl z)
theorem paired_seen {vs : List V} {ds : List D} (h : Paired (Res c own A σ ρ .weak H H) vs ds) : RepL c (fun b => A b ∨ c.S b) H vs ds := by
  induction h with
  | nil => exact .nil
  | cons r _ ih => exact .cons (RepW.seen r) ih
end

section
variable {X : Cx} {own : List Nat} {k : Kd} {p q r : TED}
theorem e_weak {e : Expr} (h : PE X e (lift X.K own k p)) : PE X e (lift X.K own .weak p) := pe_imp h fun σ H Q ⟨c, A, ρ, R, hk, E, hp, f⟩ => ⟨c, A, ρ, R, hk, E, hp, fun c' v H' d t r => f c' v H' d t (Res.weak t E r)⟩
theorem e_strong {e : Expr} (h : PE X e (lift X.K own .fresh p)) : PE X e (lift X.K own .strong p) := pe_imp h fun σ H Q ⟨c, A, ρ, R, hk, E, hp, f⟩ => ⟨c, A, ρ, R, hk, E, hp, fun c' v H' d t r => f c' v H' d t (Fr.strong t E r)⟩

def pV (i : Nat) : TED := fun ρ R => match ρ[i]? with | some (some d) => R d | _ => False
def pC (d : D) : TED := fun _ R => R d
theorem lift_pV (K : PySem.W.Frag) {i : Nat} (hi : i ∉ own) : ∀ σ H Q, lift K own .strong (pV i) σ H Q → tVar i σ H Q := fun σ H Q ⟨c, A, ρ, R, hk, E, hp, f⟩ => by
  unfold pV at hp
  split at hp
  · rename_i d e
    obtain ⟨v, h1, h2⟩ := E.slot i d e hi
    exact ⟨v, h1, f c v H d (Step.refl E.fok) h2 hp⟩
  · exact hp.elim
theorem lift_pVo (K : PySem.W.Frag) {i : Nat} (hi : i ∈ own) : ∀ σ H Q, lift K own .weak (pV i) σ H Q → tVar i σ H Q := fun σ H Q ⟨c, A, ρ, R, hk, E, hp, f⟩ => by
  unfold pV at hp
  split at hp
  · rename_i d e
    obtain ⟨a, h1, h2, h3, h4⟩ := E.ownS i d e hi
    exact ⟨.ref a, h1, f c _ H d (Step.refl E.fok) (.inr ⟨a, rfl, ⟨i, d, hi, e, h1⟩, h2, h3, h4⟩) hp⟩
  · exact hp.elim
theorem e_var (i : Nat) {x : Str} {pos : Pos} (ho : i ∉ own := by decide) (hN : X.N[i]? = some x := by rfl) (hv : Vis X.env.scope x := by first | exact Or.inl rfl | exact Or.inr (Or.inl rfl) | exact Or.inr (Or.inr rfl)) (hd : (x == ("__debug__" : Str)) = false := by decide)
    (hcd : (x == ("__classdict__" : Str)) = false := by decide) : PE X (.Name x pos) (lift X.K own .strong (pV i)) := pe_imp (pe_var hN hv hd hcd) (lift_pV _ ho)
theorem e_varO (i : Nat) {x : Str} {pos : Pos} (ho : i ∈ own := by decide) (hN : X.N[i]? = some x := by rfl) (hv : Vis X.env.scope x := by first | exact Or.inl rfl | exact Or.inr (Or.inl rfl) | exact Or.inr (Or.inr rfl)) (hd : (x == ("__debug__" : Str)) = false := by decide)
    (hcd : (x == ("__classdict__" : Str)) = false := by decide) : PE X (.Name x pos) (lift X.K own .weak (pV i)) := pe_imp (pe_var hN hv hd hcd) (lift_pVo _ ho)
theorem lift_pC (K : PySem.W.Frag) {v : V} {d : D} (r : ∀ c Av H, Rep c Av H v d) : ∀ σ H Q, lift K own .strong (pC d) σ H Q → tC v σ H Q := fun σ H Q ⟨c, A, ρ, R, hk, E, hp, f⟩ => f c v H d (Step.refl E.fok) (r _ _ _) hp
theorem e_int {i j pos} : PE X (.Constant (.int i) j pos) (lift X.K own .strong (pC (.int i))) := pe_imp pe_int (lift_pC _ fun _ _ _ => .int i)
theorem e_bl {b j pos} : PE X (.Constant (.bool b) j pos) (lift X.K own .strong (pC (.bl b))) := pe_imp pe_bl (lift_pC _ fun _ _ _ => .bl b)
theorem e_non {j pos} : PE X (.Constant .none j pos) (lift X.K own .strong (pC .non)) := pe_imp pe_non (lift_pC _ fun _ _ _ => .non)
theorem e_str {x j pos} : PE X (.Constant (.str x) j pos) (lift X.K own .strong (pC (.str x))) := pe_imp pe_str (lift_pC _ fun _ _ _ => .str x)
theorem e_gint {x : Str} {i : Int} {u : Value} {pos : Pos} (hg : Gl X x) (hm : X.mg x = some u) (r : RelV (.int i) u) (hd : (x == ("__debug__" : Str)) = false := by decide) : PE X (.Name x pos) (lift X.K own .strong (pC (.int i))) := pe_imp (pe_glob hg hm r hd) (lift_pC _ fun _ _ _ => .int i)
theorem e_gstr {x : Str} {z : Str} {u : Value} {pos : Pos} (hg : Gl X x) (hm : X.mg x = some u) (r : RelV (.str z) u) (hd : (x == ("__debug__" : Str)) = false := by decide) : PE X (.Name x pos) (lift X.K own .strong (pC (.str z))) := pe_imp (pe_glob hg hm r hd) (lift_pC _ fun _ _ _ => .str z)

def C1 (K : PySem.W.Frag) (r : V → Hp → VK → Prop) (ko : Kd) (r' : D → (D → Prop) → Prop) : Prop := ∀ c own A σ ρ H v d R (Q : VK), c.K = K → EnvR c own A σ ρ H → RepW c own A σ ρ H v d → r' d R →
  (∀ c' v' H' d', Step c H c' H' → Res c' own A σ ρ ko H H' v' d' → R d' → Q v' H') → r v H Q
def C2 (K : PySem.W.Frag) (r : R2) (ko : Kd) (r' : D → D → (D → Prop) → Prop) : Prop := ∀ c own A σ ρ H v w d e R (Q : VK), c.K = K → EnvR c own A σ ρ H → RepW c own A σ ρ H v d → RepW c own A σ ρ H w e → r' d e R →
  (∀ c' v' H' d', Step c H c' H' → Res c' own A σ ρ ko H H' v' d' → R d' → Q v' H') → r v w H Q
def CL (K : PySem.W.Frag) (r : List V → Hp → VK → Prop) (ko : Kd) (r' : List D → (D → Prop) → Prop) : Prop := ∀ c own A σ ρ H vs ds R (Q : VK), c.K = K → EnvR c own A σ ρ H → Paired (RepW c own A σ ρ H) vs ds → r' ds R →
  (∀ c' v' H' d', Step c H c' H' → Res c' own A σ ρ ko H H' v' d' → R d' → Q v' H') → r vs H Q
theorem Fr.back {c : Cfg} {own : List Nat} {A : Addr → Prop} {σ : L2.St} {ρ : PEnv} {H0 H1 H2 : Hp} {v : V} {d : D} {c0 c1 : Cfg} (t : Step c0 H0 c1 H1) (h : Fr c own A σ ρ H1 H2 v d) : Fr c own A σ ρ H0 H2 v d := by
  obtain ⟨a, e, n, r⟩ := h
  exact ⟨a, e, t.fresh n, r⟩
theorem Res.back {c : Cfg} {own : List Nat} {A : Addr → Prop} {σ : L2.St} {ρ : PEnv} {H0 H1 H2 : Hp} {v : V} {d : D} {c0 c1 : Cfg} {k : Kd} (t : Step c0 H0 c1 H1) (h : Res c own A σ ρ k H1 H2 v d) : Res c own A σ ρ k H0 H2 v d := by
  cases k with
  | weak => exact h
  | strong => exact h
  | fresh => exact Fr.back t h
def p1 (r' : D → (D → Prop) → Prop) (p : TED) : TED := fun ρ R => p ρ fun x => r' x R
def p2 (r' : D → D → (D → Prop) → Prop) (p q : TED) : TED := fun ρ R => p ρ fun x => q ρ fun y => r' x y R
def pL (r' : List D → (D → Prop) → Prop) (p : TAD) : TED := fun ρ R => p ρ fun ds => r' ds R
theorem lift1 {K : PySem.W.Frag} {r : V → Hp → VK → Prop} {ko : Kd} {r' : D → (D → Prop) → Prop} (hr : C1 K r ko r') : ∀ σ H Q, lift K own ko (p1 r' p) σ H Q → tUn r (lift K own .weak p) σ H Q :=
  fun σ H Q ⟨c, A, ρ, R, hk, E, hp, f⟩ => ⟨c, A, ρ, fun x => r' x R, hk, E, hp, fun c1 v1 H1 d1 t1 r1 g1 =>
    hr c1 own A σ ρ H1 v1 d1 R Q (t1.kk.trans hk) (E.step t1) r1 g1 fun c2 v2 H2 d2 t2 r2 g2 => f c2 v2 H2 d2 (t1.trans t2) (Res.back t1 r2) g2⟩
theorem lift2 {K : PySem.W.Frag} {r : R2} {ko : Kd} {r' : D → D → (D → Prop) → Prop} (hr : C2 K r ko r') : ∀ σ H Q, lift K own ko (p2 r' p q) σ H Q → tOp r (lift K own .weak p) (lift K own .weak q) σ H Q :=
  fun σ H Q ⟨c, A, ρ, R, hk, E, hp, f⟩ => ⟨c, A, ρ, fun x => q ρ fun y => r' x y R, hk, E, hp, fun c1 v1 H1 d1 t1 r1 g1 => ⟨c1, A, ρ, fun y => r' d1 y R, t1.kk.trans hk, E.step t1, g1, fun c2 v2 H2 d2 t2 r2 g2 =>
    hr c2 own A σ ρ H2 v1 v2 d1 d2 R Q (t2.kk.trans (t1.kk.trans hk)) ((E.step t1).step t2) (RepW.step (E.step t1) t2 r1) r2 g2 fun c3 v3 H3 d3 t3 r3 g3 => f c3 v3 H3 d3 ((t1.trans t2).trans t3) (Res.back (t1.trans t2) r3) g3⟩⟩
theorem liftL {K : PySem.W.Frag} {r : List V → Hp → VK → Prop} {ko : Kd} {r' : List D → (D → Prop) → Prop} {n : Nat} {pa : TAD} (hr : CL K r ko r') : ∀ σ H Q, lift K own ko (pL r' pa) σ H Q → tCB r (liftA K own .weak n pa) σ H Q :=
  fun σ H Q ⟨c, A, ρ, R, hk, E, hp, f⟩ => ⟨c, A, ρ, fun ds => r' ds R, hk, E, hp, fun c1 vs H1 ds t1 r1 hn g1 =>
    hr c1 own A σ ρ H1 vs ds R Q (t1.kk.trans hk) (E.step t1) r1 g1 fun c2 v2 H2 d2 t2 r2 g2 => f c2 v2 H2 d2 (t1.trans t2) (Res.back t1 r2) g2⟩
variable {a b : Expr} {pos : Pos} {ko : Kd}
theorem e_op {op : Operator} {r : R2} {r' : D → D → (D → Prop) → Prop} (ho : OpR X (binaryOp op) r) (hr : C2 X.K r ko r') (ha : PE X a (lift X.K own .weak p)) (hb : PE X b (lift X.K own .weak q)) : PE X (.BinOp a op b pos) (lift X.K own ko (p2 r' p q)) := pe_imp (pe_op ho ha hb) (lift2 hr)
theorem e_un {op : UnaryOp} {r : V → Hp → VK → Prop} {r' : D → (D → Prop) → Prop} (ho : UnR X (unaryOp op) r) (hr : C1 X.K r ko r') (ha : PE X a (lift X.K own .weak p)) : PE X (.UnaryOp op a pos) (lift X.K own ko (p1 r' p)) := pe_imp (pe_un ho ha) (lift1 hr)
theorem e_cmp {op : CmpOp} {r : R2} {r' : D → D → (D → Prop) → Prop} (ho : OpR X (compareOp op) r) (hr : C2 X.K r ko r') (ha : PE X a (lift X.K own .weak p)) (hb : PE X b (lift X.K own .weak q)) (hm : behindInMarks op b = false := by first | exact nomark _ | rfl) : PE X (.Compare a [op] [b] pos) (lift X.K own ko (p2 r' p q)) := pe_imp (pe_cmpR ho ha hb hm) (lift2 hr)
theorem e_ix {r : R2} {r' : D → D → (D → Prop) → Prop} (ho : IxR X r) (hr : C2 X.K r ko r') (ha : PE X a (lift X.K own .weak p)) (hb : PE X b (lift X.K own .weak q)) (hs : PlainIx b := by exact fun _ _ => rfl) : PE X (.Subscript a b pos) (lift X.K own ko (p2 r' p q)) := pe_imp (pe_ix ho ha hb hs) (lift2 hr)
theorem e_callB {e : Expr} {es : List Expr} {x : Str} {id : String} {r : List V → Hp → VK → Prop} {r' : List D → (D → Prop) → Prop} {n : Nat} {pa : TAD} {pn : Pos} (hc : CallR X (.builtin id) r) (hr : CL X.K r ko r') (ha : PA X (e :: es) (liftA X.K own .weak n pa)) (hm : X.mg x = none) (hg : Gl X x := by rfl) (hv : bootBuiltins x = some (.builtin id) := by decide +kernel) (hn : x ≠ "__name__" := by decide) (hdb : (x == ("__debug__" : Str)) = false := by decide)
    (hs : starEach (e :: es) X.env = (false, eval e X.env) :: starEach es X.env := by rfl) (hpl : (backTo pos (starEach es X.env)).any (·.1) = false := by rfl) :
    PE X (.Call (.Name x pn) (e :: es) [] pos) (lift X.K own ko (pL r' pa)) := pe_imp (pe_callB hc hg hm hv ha hn hdb hs hpl) (liftL hr)
theorem e_callTy {e : Expr} {es : List Expr} {x : Str} {T : String} {r : List V → Hp → VK → Prop} {r' : List D → (D → Prop) → Prop} {n : Nat} {pa : TAD} {pn : Pos} (hc : CallR X (.type T) r) (hr : CL X.K r ko r') (ha : PA X (e :: es) (liftA X.K own .weak n pa)) (hm : X.mg x = none) (hg : Gl X x := by rfl) (hv : bootBuiltins x = some (.type T) := by decide +kernel) (hn : x ≠ "__name__" := by decide) (hdb : (x == ("__debug__" : Str)) = false := by decide)
    (hs : starEach (e :: es) X.env = (false, eval e X.env) :: starEach es X.env := by rfl) (hpl : (backTo pos (starEach es X.env)).any (·.1) = false := by rfl) :
    PE X (.Call (.Name x pn) (e :: es) [] pos) (lift X.K own ko (pL r' pa)) := pe_imp (pe_callTy hc hg hm hv ha hn hdb hs hpl) (liftL hr)
end
end DL

set_option Elab.async false
set_option linter.all false
set_option maxRecDepth 100000
set_option maxHeartbeats 2000000
namespace DL
open PySem PySem.Spec PyProof.Rows L2

section
variable {X : Cx} {own : List Nat} {k : Kd} {p q r : TED}
def paN : TAD := fun _ R => R []
def paC (p : TED) (pa : TAD) : TAD := fun ρ R => p ρ fun x => pa ρ fun xs => R (x :: xs)
theorem a_nil : PA X [] (liftA X.K own k 0 paN) := pa_imp pa_nil fun σ H Q ⟨c, A, ρ, R, hk, E, hp, f⟩ => f c [] H [] (Step.refl E.fok) .nil rfl hp
theorem paired_step {c c' : Cfg} {A : Addr → Prop} {σ : L2.St} {ρ : PEnv} {H H' : Hp} {vs : List V} {ds : List D} (E : EnvR c own A σ ρ H) (t : Step c H c' H') (h : Paired (RepW c own A σ ρ H) vs ds) : Paired (RepW c' own A σ ρ H') vs ds := by
  induction h with
  | nil => exact .nil
  | cons r _ ih => exact .cons (RepW.step E t r) ih
theorem a_cons {e : Expr} {es : List Expr} {n : Nat} {pa : TAD} (ha : PE X e (lift X.K own .weak p)) (hr : PA X es (liftA X.K own .weak n pa)) (hs : starEach (e :: es) X.env = (false, eval e X.env) :: starEach es X.env := by rfl) : PA X (e :: es) (liftA X.K own .weak (n + 1) (paC p pa)) :=
  pa_imp (pa_cons ha hr hs) fun σ H Q ⟨c, A, ρ, R, hk, E, hp, f⟩ => ⟨c, A, ρ, fun x => pa ρ fun xs => R (x :: xs), hk, E, hp, fun c1 v1 H1 d1 t1 r1 g1 => ⟨c1, A, ρ, fun xs => R (d1 :: xs), t1.kk.trans hk, E.step t1, g1, fun c2 vs H2 ds t2 r2 hn g2 =>
    f c2 (v1 :: vs) H2 (d1 :: ds) (t1.trans t2) (.cons (RepW.step (E.step t1) t2 r1) r2) (by rw [List.length_cons, hn]) g2⟩⟩
theorem a_consS {e : Expr} {es : List Expr} {n : Nat} {pa : TAD} (ha : PE X e (lift X.K own .strong p)) (hr : PA X es (liftA X.K own .strong n pa)) (hs : starEach (e :: es) X.env = (false, eval e X.env) :: starEach es X.env := by rfl) : PA X (e :: es) (liftA X.K own .strong (n + 1) (paC p pa)) :=
  pa_imp (pa_cons ha hr hs) fun σ H Q ⟨c, A, ρ, R, hk, E, hp, f⟩ => ⟨c, A, ρ, fun x => pa ρ fun xs => R (x :: xs), hk, E, hp, fun c1 v1 H1 d1 t1 r1 g1 => ⟨c1, A, ρ, fun xs => R (d1 :: xs), t1.kk.trans hk, E.step t1, g1, fun c2 vs H2 ds t2 r2 hn g2 =>
    f c2 (v1 :: vs) H2 (d1 :: ds) (t1.trans t2) (.cons (Rep.step (E.step t1) t2 r1) r2) (by rw [List.length_cons, hn]) g2⟩⟩
theorem paired_len {α β : Type} {F : α → β → Prop} {xs : List α} {ys : List β} (h : Paired F xs ys) : xs.length = ys.length := by
  induction h with
  | nil => rfl
  | cons _ _ ih => rw [List.length_cons, List.length_cons, ih]
theorem sz_small {n : Nat} (h : n ≤ 1000) : n ≤ sizeLine := Nat.le_of_lt (small1000 h)

def pTup (pa : TAD) : TED := fun ρ R => pa ρ fun ds => R (.tup ds)
def pLst (pa : TAD) : TED := fun ρ R => pa ρ fun ds => R (.lst ds)
theorem e_tup {es : List Expr} {n x1 : Nat} {pa : TAD} {pos : Pos} (ha : PA X es (liftA X.K own .strong n pa)) (hn : n ≤ 1000 := by decide) : PE X (.Tuple es x1 pos) (lift X.K own .strong (pTup pa)) :=
  pe_imp (pe_tup ha) fun σ H Q ⟨c, A, ρ, R, hk, E, hp, f⟩ => ⟨c, A, ρ, _, hk, E, hp, fun c1 vs H1 ds t1 r1 hl g1 => by
    have rl := paired_strong r1
    have hz : vs.length ≤ sizeLine := by rw [paired_len r1, hl]; exact sz_small hn
    exact ⟨hz, fun p hp => f c1 (.ref p) _ (.tup ds) (t1.more hp) (Rep.newT (E.step t1) hp hz rl) g1⟩⟩
theorem e_lst {es : List Expr} {n : Nat} {pa : TAD} {pos : Pos} (ha : PA X es (liftA X.K own .strong n pa)) (hn : n ≤ 1000 := by decide) : PE X (.List es pos) (lift X.K own .fresh (pLst pa)) :=
  pe_imp (pe_lst ha) fun σ H Q ⟨c, A, ρ, R, hk, E, hp, f⟩ => ⟨c, A, ρ, _, hk, E, hp, fun c1 vs H1 ds t1 r1 hl g1 => by
    have rl := paired_strong r1
    have hz : vs.length ≤ sizeLine := by rw [paired_len r1, hl]; exact sz_small hn
    exact ⟨hz, fun p hp => f c1 (.ref p) _ (.lst ds) (t1.more hp) (Fr.back t1 (Fr.newL (E.step t1) hp hz rl)) g1⟩⟩

def dBl (x : D) (f : Bool → Prop) : Prop := match x with | .bl b => f b | _ => False
def dInt (x : D) (f : Int → Prop) : Prop := match x with | .int i => f i | _ => False
theorem dBl_iff {x : D} {f : Bool → Prop} (h : dBl x f) : ∃ b, x = .bl b ∧ f b := by
  cases x with
  | bl b => exact ⟨b, rfl, h⟩
  | _ => exact h.elim
theorem dInt_iff {x : D} {f : Int → Prop} (h : dInt x f) : ∃ b, x = .int b ∧ f b := by
  cases x with
  | int b => exact ⟨b, rfl, h⟩
  | _ => exact h.elim
def pAnd (p q : TED) : TED := fun ρ R => p ρ fun x => dBl x fun b => if b = true then q ρ R else R (.bl false)
def pOr (p q : TED) : TED := fun ρ R => p ρ fun x => dBl x fun b => if b = true then R (.bl true) else q ρ R
def pNot (p : TED) : TED := fun ρ R => p ρ fun x => dBl x fun b => R (.bl (!b))
variable {a b : Expr} {pos : Pos} {rest : List Expr}
theorem e_one {op : BoolOp} (h : PE X a (lift X.K own .strong p)) : PE X (.BoolOp op [a] pos) (lift X.K own .strong p) := pe_one h
theorem e_and (ha : PE X a (lift X.K own .weak p)) (hb : PE X (.BoolOp .And (b :: rest) pos) (lift X.K own .strong q)) : PE X (.BoolOp .And (a :: b :: rest) pos) (lift X.K own .strong (pAnd p q)) :=
  pe_imp (pe_and ha hb) fun σ H Q ⟨c, A, ρ, R, hk, E, hp, f⟩ => ⟨c, A, ρ, _, hk, E, hp, fun c1 v1 H1 d1 t1 r1 g1 => by
    obtain ⟨b, rfl, g1⟩ := dBl_iff g1
    refine ⟨b, RepW.bl r1, ?_⟩
    cases b with
    | true => exact ⟨c1, A, ρ, R, t1.kk.trans hk, E.step t1, g1, fun c2 v2 H2 d2 t2 r2 g2 => f c2 v2 H2 d2 (t1.trans t2) r2 g2⟩
    | false => exact f c1 (.bl false) H1 (.bl false) t1 (.bl _) g1⟩
theorem e_or (ha : PE X a (lift X.K own .weak p)) (hb : PE X (.BoolOp .Or (b :: rest) pos) (lift X.K own .strong q)) : PE X (.BoolOp .Or (a :: b :: rest) pos) (lift X.K own .strong (pOr p q)) :=
  pe_imp (pe_or ha hb) fun σ H Q ⟨c, A, ρ, R, hk, E, hp, f⟩ => ⟨c, A, ρ, _, hk, E, hp, fun c1 v1 H1 d1 t1 r1 g1 => by
    obtain ⟨b, rfl, g1⟩ := dBl_iff g1
    refine ⟨b, RepW.bl r1, ?_⟩
    cases b with
    | false => exact ⟨c1, A, ρ, R, t1.kk.trans hk, E.step t1, g1, fun c2 v2 H2 d2 t2 r2 g2 => f c2 v2 H2 d2 (t1.trans t2) r2 g2⟩
    | true => exact f c1 (.bl true) H1 (.bl true) t1 (.bl _) g1⟩
theorem e_not (ha : PE X a (lift X.K own .weak p)) : PE X (.UnaryOp .Not a pos) (lift X.K own .strong (pNot p)) :=
  pe_imp (pe_not ha) fun σ H Q ⟨c, A, ρ, R, hk, E, hp, f⟩ => ⟨c, A, ρ, _, hk, E, hp, fun c1 v1 H1 d1 t1 r1 g1 => by
    obtain ⟨b, rfl, g1⟩ := dBl_iff g1
    exact ⟨b, RepW.bl r1, f c1 _ H1 (.bl (!b)) t1 (.bl _) g1⟩⟩
def tV (p : TED) : TTD := fun ρ R => p ρ fun x => dBl x R
def tAndD (t u : TTD) : TTD := fun ρ R => t ρ fun b => if b = true then u ρ R else R false
def tOrD (t u : TTD) : TTD := fun ρ R => t ρ fun b => if b = true then R true else u ρ R
def tNotD (t : TTD) : TTD := fun ρ R => t ρ fun b => R (!b)
variable {t u : TTD}
theorem lift_tV (K : PySem.W.Frag) : ∀ σ H Q, liftT K own (tV p) σ H Q → tB (lift K own .weak p) σ H Q := fun σ H Q ⟨c, A, ρ, R, hk, E, hp, f⟩ => ⟨c, A, ρ, _, hk, E, hp, fun c1 v1 H1 d1 t1 r1 g1 => by
    obtain ⟨b, rfl, g1⟩ := dBl_iff g1
    exact ⟨b, RepW.bl r1, f c1 H1 b t1 g1⟩⟩
theorem t_val {e : Expr} (h : PE X e (lift X.K own .weak p)) (he : ∀ whole, isTrue e X.env whole = (do let v ← whole; standAt e.pos; holding [v] (truthy v)) := by intro _; rfl) : PT X e (liftT X.K own (tV p)) := pt_imp (pt_val h he) (lift_tV _)
theorem t_cmp {op : CmpOp} {r : R2} {r' : D → D → (D → Prop) → Prop} {ko : Kd} (ho : OpR X (compareOp op) r) (hr : C2 X.K r .strong r') (ha : PE X a (lift X.K own .weak p)) (hb : PE X b (lift X.K own .weak q)) (hm : behindInMarks op b = false := by first | exact nomark _ | rfl) : PT X (.Compare a [op] [b] pos) (liftT X.K own (tV (p2 r' p q))) :=
  pt_imp (pt_cmpR ho ha hb hm) fun σ H Q ⟨c, A, ρ, R, hk, E, hp, f⟩ => lift2 hr σ H _ ⟨c, A, ρ, fun x => dBl x R, hk, E, hp, fun c1 v1 H1 d1 t1 r1 g1 => by
    obtain ⟨b, rfl, g1⟩ := dBl_iff g1
    cases r1
    exact ⟨b, rfl, f c1 H1 b t1 g1⟩⟩
theorem t_and1 (ha : PT X a (liftT X.K own t)) : PW X (.BoolOp .And [a] pos) (liftT X.K own t) := pw_and1 ha
theorem t_or1 (ha : PT X a (liftT X.K own t)) : PW X (.BoolOp .Or [a] pos) (liftT X.K own t) := pw_or1 ha
theorem t_and (ha : PT X a (liftT X.K own t)) (hb : PW X (.BoolOp .And (b :: rest) pos) (liftT X.K own u)) : PW X (.BoolOp .And (a :: b :: rest) pos) (liftT X.K own (tAndD t u)) :=
  pw_imp (pw_and ha hb) fun σ H Q ⟨c, A, ρ, R, hk, E, hp, f⟩ => ⟨c, A, ρ, _, hk, E, hp, fun c1 H1 b t1 g1 => by
    cases b with
    | true => exact ⟨c1, A, ρ, R, t1.kk.trans hk, E.step t1, g1, fun c2 H2 d2 t2 g2 => f c2 H2 d2 (t1.trans t2) g2⟩
    | false => exact f c1 H1 false t1 g1⟩
theorem t_or (ha : PT X a (liftT X.K own t)) (hb : PW X (.BoolOp .Or (b :: rest) pos) (liftT X.K own u)) : PW X (.BoolOp .Or (a :: b :: rest) pos) (liftT X.K own (tOrD t u)) :=
  pw_imp (pw_or ha hb) fun σ H Q ⟨c, A, ρ, R, hk, E, hp, f⟩ => ⟨c, A, ρ, _, hk, E, hp, fun c1 H1 b t1 g1 => by
    cases b with
    | false => exact ⟨c1, A, ρ, R, t1.kk.trans hk, E.step t1, g1, fun c2 H2 d2 t2 g2 => f c2 H2 d2 (t1.trans t2) g2⟩
    | true => exact f c1 H1 true t1 g1⟩
theorem t_not (ha : PT X a (liftT X.K own t)) : PT X (.UnaryOp .Not a pos) (liftT X.K own (tNotD t)) :=
  pt_imp (pt_not ha) fun σ H Q ⟨c, A, ρ, R, hk, E, hp, f⟩ => ⟨c, A, ρ, _, hk, E, hp, fun c1 H1 b t1 g1 => f c1 H1 _ t1 g1⟩
def pIf (t : TTD) (p q : TED) : TED := fun ρ R => t ρ fun b => if b = true then p ρ R else q ρ R
theorem e_ifExp {e : Expr} (hc : PT X e (liftT X.K own t)) (ha : PE X a (lift X.K own k p)) (hb : PE X b (lift X.K own k q)) : PE X (.IfExp e a b pos) (lift X.K own k (pIf t p q)) :=
  pe_imp (pe_ifExp hc ha hb) fun σ H Q ⟨c, A, ρ, R, hk, E, hp, f⟩ => ⟨c, A, ρ, _, hk, E, hp, fun c1 H1 b t1 g1 => by
    cases b with
    | true => exact ⟨c1, A, ρ, R, t1.kk.trans hk, E.step t1, g1, fun c2 v2 H2 d2 t2 r2 g2 => f c2 v2 H2 d2 (t1.trans t2) (Res.back t1 r2) g2⟩
    | false => exact ⟨c1, A, ρ, R, t1.kk.trans hk, E.step t1, g1, fun c2 v2 H2 d2 t2 r2 g2 => f c2 v2 H2 d2 (t1.trans t2) (Res.back t1 r2) g2⟩⟩
def pChain (r s : D → D → (D → Prop) → Prop) (p q w : TED) : TED := fun ρ R => p ρ fun x => q ρ fun y => r x y fun z => dBl z fun b => if b = true then w ρ fun v => s y v R else R (.bl false)
theorem lift_chain {r r2 : R2} {r' s' : D → D → (D → Prop) → Prop} {w : TED} (hr : C2 X.K r .strong r') (hr2 : C2 X.K r2 .strong s') : ∀ σ H Q, lift X.K own .strong (pChain r' s' p q w) σ H Q → tChain r r2 (lift X.K own .weak p) (lift X.K own .weak q) (lift X.K own .weak w) σ H Q :=
  fun σ H Q ⟨c, A, ρ, R, hk, E, hp, f⟩ => ⟨c, A, ρ, _, hk, E, hp, fun c1 v1 H1 d1 t1 r1 g1 => ⟨c1, A, ρ, _, t1.kk.trans hk, E.step t1, g1, fun c2 v2 H2 d2 t2 w2 g2 => by
    have E1 := E.step t1
    have E2 := E1.step t2
    refine hr c2 own A σ ρ H2 v1 v2 d1 d2 _ _ (t2.kk.trans (t1.kk.trans hk)) E2 (RepW.step E1 t2 r1) w2 g2 fun c3 v3 H3 d3 t3 w3 g3 => ?_
    obtain ⟨b, rfl, g3⟩ := dBl_iff g3
    cases w3
    refine ⟨b, rfl, ?_⟩
    have E3 := E2.step t3
    cases b with
    | false => exact f c3 _ H3 (.bl false) ((t1.trans t2).trans t3) (.bl _) g3
    | true => exact ⟨c3, A, ρ, _, t3.kk.trans (t2.kk.trans (t1.kk.trans hk)), E3, g3, fun c4 v4 H4 d4 t4 w4 g4 =>
        hr2 c4 own A σ ρ H4 v2 v4 d2 d4 R Q (t4.kk.trans (t3.kk.trans (t2.kk.trans (t1.kk.trans hk)))) (E3.step t4) (RepW.step E3 t4 (RepW.step E2 t3 w2)) w4 g4 fun c5 v5 H5 d5 t5 w5 g5 => f c5 v5 H5 d5 ((((t1.trans t2).trans t3).trans t4).trans t5) w5 g5⟩⟩⟩
theorem e_chain {op op' : CmpOp} {r r2 : R2} {r' s' : D → D → (D → Prop) → Prop} {e : Expr} (ho : OpR X (compareOp op) r) (hr : C2 X.K r .strong r') (ho2 : OpR X (compareOp op') r2) (hr2 : C2 X.K r2 .strong s') {w : TED}
    (ha : PE X a (lift X.K own .weak p)) (hb : PE X b (lift X.K own .weak q)) (hw : PE X e (lift X.K own .weak w)) (hm : lastMarks [op, op'] [b, e] = false := by with_unfolding_all rfl) :
    PE X (.Compare a [op, op'] [b, e] pos) (lift X.K own .strong (pChain r' s' p q w)) := pe_imp (pe_chain ho ho2 ha hb hw hm) (lift_chain hr hr2)
theorem t_chain {op op' : CmpOp} {r r2 : R2} {r' s' : D → D → (D → Prop) → Prop} {e : Expr} (ho : OpR X (compareOp op) r) (hr : C2 X.K r .strong r') (ho2 : OpR X (compareOp op') r2) (hr2 : C2 X.K r2 .strong s') {w : TED}
    (ha : PE X a (lift X.K own .weak p)) (hb : PE X b (lift X.K own .weak q)) (hw : PE X e (lift X.K own .weak w)) (hm : lastMarks [op, op'] [b, e] = false := by with_unfolding_all rfl) :
    PT X (.Compare a [op, op'] [b, e] pos) (liftT X.K own (tV (pChain r' s' p q w))) :=
  pt_imp (pt_chain ho ho2 ha hb hw hm) fun σ H Q ⟨c, A, ρ, R, hk, E, hp, f⟩ => lift_chain hr hr2 σ H _ ⟨c, A, ρ, fun x => dBl x R, hk, E, hp, fun c1 v1 H1 d1 t1 r1 g1 => by
    obtain ⟨b, rfl, g1⟩ := dBl_iff g1
    cases r1
    exact ⟨b, rfl, f c1 H1 b t1 g1⟩⟩

def ResF (k : Kd) (c : Cfg) (A : Addr → Prop) (H0 H : Hp) (v : V) (d : D) : Prop := match k with
  | .fresh => ∃ a, v = .ref a ∧ H0 a = none ∧ ¬ c.S a ∧ OwnR c (fun b => A b ∨ c.S b ∨ b = a) H a d
  | _ => Rep c (fun b => A b ∨ c.S b) H v d
def spD (K : PySem.W.Frag) (n : Nat) (ko : Kd) (w : List D → (D → Prop) → Prop) : Sp := fun vs H Q _ => vs.length = n ∧ ∃ c A ds R, c.K = K ∧ FeedsOk c H ∧ (∀ a, A a → AvOk H a) ∧ RepL c (fun a => A a ∨ c.S a) H vs ds ∧ w ds R ∧
  ∀ c' v H' d, Step c H c' H' → ResF ko c' A H H' v d → R d → Q v H'
def pCall (w : List D → (D → Prop) → Prop) (pa : TAD) : TED := fun ρ R => pa ρ fun ds => w ds R
def D.flat : D → Bool
  | .tup ds => flats ds
  | .lst _ => false
  | .dT _ _ => false
  | .dK _ _ => false
  | .scr _ => false
  | _ => true
where flats : List D → Bool
  | [] => true
  | d :: ds => d.flat && flats ds
mutual
theorem flat_mv {c : Cfg} {Av Av' : Addr → Prop} {H : Hp} (m : ∀ b vs, ¬ Av b → H b = some (.tup vs) → ¬ Av' b) : ∀ (d : D) (v : V), d.flat = true → Rep c Av H v d → Rep c Av' H v d
  | .non, _, _, h => by cases h; exact .non
  | .bl _, _, _, h => by cases h; exact .bl _
  | .int _, _, _, h => by cases h; exact .int _
  | .str _, _, _, h => by cases h; exact .str _
  | .ty _, _, _, h => by cases h; exact .ty _
  | .ref _, _, _, h => by cases h; exact .ref _
  | .deal, _, _, h => by cases h with | deal n z => exact .deal n z
  | .feed, _, _, h => by cases h with | feed z => exact .feed z
  | .scr _, _, f, _ => by simp [D.flat] at f
  | .lst _, _, f, _ => by simp [D.flat] at f
  | .dT _ _, _, f, _ => by simp [D.flat] at f
  | .dK _ _, _, f, _ => by simp [D.flat] at f
  | .tup ds, _, f, h => by
    cases h with
    | tup n r =>
      have f' : D.flat.flats ds = true := by simpa [D.flat] using f
      exact .tup ⟨n.1, m _ _ n.2.1 n.2.2, n.2.2⟩ (flats_mv m ds _ f' r)
theorem flats_mv {c : Cfg} {Av Av' : Addr → Prop} {H : Hp} (m : ∀ b vs, ¬ Av b → H b = some (.tup vs) → ¬ Av' b) : ∀ (ds : List D) (vs : List V), D.flat.flats ds = true → RepL c Av H vs ds → RepL c Av' H vs ds
  | [], _, _, h => by cases h; exact .nil
  | d :: ds, _, f, h => by
    cases h with
    | cons r s =>
      simp only [D.flat.flats, Bool.and_eq_true] at f
      exact .cons (flat_mv m d _ f.1 r) (flats_mv m ds _ f.2 s)
end
theorem EnvR.own_not_tup {c : Cfg} {A : Addr → Prop} {σ : L2.St} {ρ : PEnv} {H : Hp} (E : EnvR c own A σ ρ H) {a : Addr} (h : OwnA own σ ρ a) {vs : List V} : H a ≠ some (.tup vs) := by
  obtain ⟨i, d, hi, h1, h2⟩ := h
  obtain ⟨b, e, _, _, r⟩ := E.ownS i d h1 hi
  rw [h2] at e
  have e' := Option.some.inj (Option.some.inj e)
  cases e'
  intro z
  cases r with
  | lst _ h _ => rw [h] at z; cases z
  | dT _ h _ => rw [h] at z; cases z
  | dK _ h _ => rw [h] at z; cases z
theorem ResF.here {c' : Cfg} {A : Addr → Prop} {σ : L2.St} {ρ : PEnv} {H H' : Hp} {v : V} {d : D} {ko : Kd} (hk : ko ≠ .weak) (r : ResF ko c' (fun b => A b ∨ OwnA own σ ρ b) H H' v d) : Res c' own A σ ρ ko H H' v d := by
  cases ko with
  | weak => exact absurd rfl hk
  | strong => exact Rep.mv rfl (fun _ _ z => z) (fun b o n e => ⟨fun z => n (by rcases z with z | z | z; exact .inl (.inl z); exact .inr z; exact .inl (.inr z)), e⟩) _ _ r
  | fresh =>
    obtain ⟨a, rfl, n, ns, r⟩ := r
    refine ⟨a, rfl, n, ns, r.mv rfl (fun _ _ z => z) (fun b o n e => ⟨fun z => n (by rcases z with (z | z | z) | z; exact .inl (.inl z); exact .inr (.inl z); exact .inl (.inr z); exact .inr (.inr z)), e⟩) fun _ e => e⟩
theorem lift_call {K : PySem.W.Frag} {n : Nat} {ko : Kd} {w : List D → (D → Prop) → Prop} {pa : TAD} {E0 : XK} (hk : ko ≠ .weak) : ∀ σ H Q, lift K own ko (pCall w pa) σ H Q → tCall (spD K n ko w) [] E0 (liftA K own .strong n pa) σ H Q :=
  fun σ H Q ⟨c, A, ρ, R, hK, E, hp, f⟩ => ⟨c, A, ρ, _, hK, E, hp, fun c1 vs H1 ds t1 r1 hn g1 => by
    have E1 := E.step t1
    have rl := paired_strong r1
    refine ⟨by rw [List.append_nil, rl.len, hn], c1, fun b => A b ∨ OwnA own σ ρ b, ds, R, t1.kk.trans hK, E1.fok, fun a h => h.elim (E1.avA a) E1.own_av, ?_, g1, fun c2 v H2 d t2 r2 g2 => ?_⟩
    · rw [List.append_nil]
      exact RepL.mv rfl (fun _ _ z => z) (fun b o n e => ⟨fun z => n (by rcases z with (z | z) | z; exact .inl z; exact .inr (.inr z); exact .inr (.inl z)), e⟩) _ _ rl
    · exact f c2 v H2 d (t1.trans t2) (Res.back t1 (ResF.here hk r2)) g2⟩
def pCallW (w : List D → (D → Prop) → Prop) (pa : TAD) : TED := fun ρ R => pa ρ fun ds => w ds fun d => d.flat = true ∧ R d
theorem lift_callW {K : PySem.W.Frag} {n : Nat} {w : List D → (D → Prop) → Prop} {pa : TAD} {E0 : XK} : ∀ σ H Q, lift K own .strong (pCallW w pa) σ H Q → tCall (spD K n .strong w) [] E0 (liftA K own .weak n pa) σ H Q :=
  fun σ H Q ⟨c, A, ρ, R, hK, E, hp, f⟩ => ⟨c, A, ρ, _, hK, E, hp, fun c1 vs H1 ds t1 r1 hn g1 => by
    have E1 := E.step t1
    have rl := paired_seen r1
    refine ⟨by rw [List.append_nil, rl.len, hn], c1, A, ds, _, t1.kk.trans hK, E1.fok, E1.avA, by rw [List.append_nil]; exact rl, g1, fun c2 v H2 d t2 r2 g2 => ?_⟩
    have E2 := E1.step t2
    refine f c2 v H2 d (t1.trans t2) ?_ g2.2
    refine flat_mv (fun b us n e z => ?_) d v g2.1 (show Rep c2 (fun b => A b ∨ c2.S b) H2 v d from r2)
    rcases z with z | z | z
    · exact n (.inl z)
    · exact n (.inr z)
    · exact E2.own_not_tup z e⟩
section
variable {e : Expr} {es : List Expr} {x : Str} {pn : Pos} {f : Addr} {fd : FuncData} {ps : List Str} {kk n : Nat} {ko : Kd} {w : List D → (D → Prop) → Prop} {pa : TAD}
theorem e_call (F : FnOk X.prog X.w X.K X.mg X.base CX0 kk f fd ps (spD X.K n ko w)) (hr : Room kk X.A) (hm : X.mg x = some (.ref f)) (hkp : PySem.W.keepIn X.K (.ref f) = true) (hb : Binds X.K fd ps []) (ha : PA X (e :: es) (liftA X.K own .strong n pa)) (hk : ko ≠ .weak := by intro z; cases z) (hg : Gl X x := by rfl)
    (hs : starEach (e :: es) X.env = (false, eval e X.env) :: starEach es X.env := by rfl) (hpl : (backTo pos (starEach es X.env)).any (·.1) = false := by rfl) (hd : (x == ("__debug__" : Str)) = false := by decide) :
    PE X (.Call (.Name x pn) (e :: es) [] pos) (lift X.K own ko (pCall w pa)) := pe_imp (pe_call (E := E0) F hr hg hm hkp hb .nil pass0 ha hd hs hpl) (lift_call hk)
theorem e_callW (F : FnOk X.prog X.w X.K X.mg X.base CX0 kk f fd ps (spD X.K n .strong w)) (hr : Room kk X.A) (hm : X.mg x = some (.ref f)) (hkp : PySem.W.keepIn X.K (.ref f) = true) (hb : Binds X.K fd ps []) (ha : PA X (e :: es) (liftA X.K own .weak n pa)) (hg : Gl X x := by rfl)
    (hs : starEach (e :: es) X.env = (false, eval e X.env) :: starEach es X.env := by rfl) (hpl : (backTo pos (starEach es X.env)).any (·.1) = false := by rfl) (hd : (x == ("__debug__" : Str)) = false := by decide) :
    PE X (.Call (.Name x pn) (e :: es) [] pos) (lift X.K own .strong (pCallW w pa)) := pe_imp (pe_call (E := E0) F hr hg hm hkp hb .nil pass0 ha hd hs hpl) lift_callW
end
end
end DL

set_option Elab.async false
set_option linter.all false
set_option maxRecDepth 100000
set_option maxHeartbeats 2000000
namespace DL
open PySem PySem.Spec PyProof.Rows L2

section
variable {c c' : Cfg} {own : List Nat} {A : Addr → Prop} {σ σ' : L2.St} {ρ ρ' : PEnv} {H H' H0 : Hp}
theorem ownA_congr (h : ∀ i, i ∈ own → ρ'[i]? = ρ[i]? ∧ σ'[i]? = σ[i]?) (a : Addr) : OwnA own σ' ρ' a ↔ OwnA own σ ρ a := by
  constructor
  · rintro ⟨i, d, hi, h1, h2⟩
    exact ⟨i, d, hi, by rw [← (h i hi).1]; exact h1, by rw [← (h i hi).2]; exact h2⟩
  · rintro ⟨i, d, hi, h1, h2⟩
    exact ⟨i, d, hi, by rw [(h i hi).1]; exact h1, by rw [(h i hi).2]; exact h2⟩
theorem avd_congr (h : ∀ i, i ∈ own → ρ'[i]? = ρ[i]? ∧ σ'[i]? = σ[i]?) : Avd c own A σ' ρ' = Avd c own A σ ρ := by
  funext a
  unfold Avd
  rw [propext (ownA_congr h a)]
theorem EnvR.re (E : EnvR c own A σ ρ H) (hl : ρ'.length = σ'.length) (h : ∀ i, i ∈ own → ρ'[i]? = ρ[i]? ∧ σ'[i]? = σ[i]?)
    (hs : ∀ i d, ρ'[i]? = some (some d) → i ∉ own → ∃ v, σ'[i]? = some (some v) ∧ Rep c (Avd c own A σ ρ) H v d) : EnvR c own A σ' ρ' H := by
  have e := avd_congr (c := c) (A := A) h
  refine ⟨E.fok, hl, E.avA, fun i d h1 hi => ?_, fun i d h1 hi => ?_, fun i j a d e hi hj h1 h2 h3 h4 => ?_⟩
  · rw [e]; exact hs i d h1 hi
  · rw [e]
    rw [(h i hi).1] at h1
    rw [(h i hi).2]
    exact E.ownS i d h1 hi
  · rw [(h i hi).1] at h1
    rw [(h j hj).1] at h2
    rw [(h i hi).2] at h3
    rw [(h j hj).2] at h4
    exact E.dist i j a d e hi hj h1 h2 h3 h4
theorem EnvR.set (E : EnvR c own A σ ρ H) {i : Nat} {v : V} {d : D} (hi : i ∉ own) (r : Rep c (Avd c own A σ ρ) H v d) : EnvR c own A (σ.set i (some v)) (ρ.set i (some d)) H := by
  refine E.re (by rw [List.length_set, List.length_set]; exact E.len) (fun j hj => ?_) fun j e h1 hj => ?_
  · have hne : i ≠ j := fun z => hi (z ▸ hj)
    rw [List.getElem?_set_ne hne, List.getElem?_set_ne hne]
    exact ⟨rfl, rfl⟩
  · by_cases hne : i = j
    · subst hne
      by_cases hz : i < ρ.length
      · rw [List.getElem?_set_self hz] at h1
        cases h1
        exact ⟨v, List.getElem?_set_self (by rw [← E.len]; exact hz), r⟩
      · rw [List.getElem?_eq_none (by rw [List.length_set]; omega)] at h1
        cases h1
    · rw [List.getElem?_set_ne hne] at h1
      rw [List.getElem?_set_ne hne]
      exact E.slot j e h1 hj
theorem EnvR.more (E : EnvR c own A σ ρ H) {p : Addr} {o : HO} (hp : H p = none) (ho : ∀ vs, o ≠ .tup vs := by intro _ z; cases z) : EnvR c own (fun b => A b ∨ b = p) σ ρ (upd H p o) := by
  have t : Step c H c (upd H p o) := .one E.fok hp
  have E1 := E.step t
  have m : ∀ b u, ¬ Avd c own A σ ρ b → H b = some u → ¬ Avd c own (fun b => A b ∨ b = p) σ ρ b ∧ (upd H p o) b = some u := fun b u n e => by
    have hb := ne_of_none e hp
    refine ⟨fun z => n ?_, by rw [upd_ne hb]; exact e⟩
    rcases z with (z | z) | z | z
    · exact .inl z
    · exact absurd z hb
    · exact .inr (.inl z)
    · exact .inr (.inr z)
  refine ⟨E1.fok, E.len, fun a h => ?_, fun i d h hi => ?_, fun i d h hi => ?_, E.dist⟩
  · rcases h with h | h
    · exact E1.avA a h
    · subst h; unfold AvOk; rw [upd_same]; exact ⟨fun z => (nomatch z), fun vs z => ho vs (Option.some.inj z)⟩
  · obtain ⟨v, h1, h2⟩ := E.slot i d h hi
    exact ⟨v, h1, Rep.mv rfl (fun _ _ z => z) m d v h2⟩
  · obtain ⟨a, h1, h2, h3, h4⟩ := E.ownS i d h hi
    have ha : a ≠ p := fun z => h4.some (z ▸ hp)
    exact ⟨a, h1, fun z => z.elim h2 ha, h3, h4.mv rfl (fun _ _ z => z) m fun o e => by rw [upd_ne ha]; exact e⟩
def wipeD (ρ : PEnv) : List Nat → PEnv
  | [] => ρ
  | v :: vs => (wipeD ρ vs).set v none
theorem wipeD_length (ρ : PEnv) : ∀ vs : List Nat, (wipeD ρ vs).length = ρ.length
  | [] => rfl
  | v :: vs => by unfold wipeD; rw [List.length_set, wipeD_length ρ vs]
theorem wipe_out' {α : Type} {σ : List (Option α)} {i v : Nat} (h : i ≠ v) (x : Option α) : (σ.set v x)[i]? = σ[i]? := List.getElem?_set_ne (fun z => h z.symm)
theorem wipeD_some {ρ : PEnv} {i : Nat} {x : D} : ∀ {vs : List Nat}, (wipeD ρ vs)[i]? = some (some x) → ρ[i]? = some (some x) ∧ i ∉ vs
  | [], h => ⟨h, by simp⟩
  | v :: vs, h => by
    unfold wipeD at h
    by_cases hi : v = i
    · subst hi
      by_cases hv : v < (wipeD ρ vs).length
      · rw [List.getElem?_set_self hv] at h; cases h
      · rw [List.getElem?_eq_none (by simpa using hv)] at h; cases h
    · rw [List.getElem?_set_ne hi] at h
      obtain ⟨h1, h2⟩ := wipeD_some h
      exact ⟨h1, by simp only [List.mem_cons, not_or]; exact ⟨fun e => hi e.symm, h2⟩⟩
theorem wipeD_out {ρ : PEnv} {i : Nat} : ∀ {vs : List Nat}, i ∉ vs → (wipeD ρ vs)[i]? = ρ[i]?
  | [], _ => rfl
  | v :: vs, h => by
    simp only [List.mem_cons, not_or] at h
    unfold wipeD
    rw [List.getElem?_set_ne (fun z => h.1 z.symm)]
    exact wipeD_out h.2
theorem wipeS_out {σ : L2.St} {i : Nat} : ∀ {vs : List Nat}, i ∉ vs → (wipe σ vs)[i]? = σ[i]?
  | [], _ => rfl
  | v :: vs, h => by
    simp only [List.mem_cons, not_or] at h
    unfold wipe
    rw [List.getElem?_set_ne (fun z => h.1 z.symm)]
    exact wipeS_out h.2
theorem EnvR.wipe (E : EnvR c own A σ ρ H) {vs : List Nat} (h : ∀ i ∈ vs, i ∉ own) : EnvR c own A (L2.wipe σ vs) (wipeD ρ vs) H := by
  refine E.re (by rw [wipeD_length, wipe_length]; exact E.len) (fun i hi => ?_) fun i d h1 hi => ?_
  · have : i ∉ vs := fun z => h i z hi
    exact ⟨wipeD_out this, wipeS_out this⟩
  · obtain ⟨h2, h3⟩ := wipeD_some h1
    rw [wipeS_out h3]
    exact E.slot i d h2 hi
theorem wipe_set {σ : L2.St} {i : Nat} {x : Option V} : ∀ {vs : List Nat}, i ∈ vs → L2.wipe (σ.set i x) vs = L2.wipe σ vs
  | v :: vs, h => by
    unfold L2.wipe
    by_cases hi : i ∈ vs
    · rw [wipe_set hi]
    · have e : i = v := by
        rcases List.mem_cons.mp h with h | h
        · exact h
        · exact absurd h hi
      subst e
      have : ∀ ws : List Nat, i ∉ ws → L2.wipe (σ.set i x) ws = (L2.wipe σ ws).set i x := by
        intro ws
        induction ws with
        | nil => intro _; rfl
        | cons w ws ih =>
          intro hn
          simp only [List.mem_cons, not_or] at hn
          unfold L2.wipe
          rw [ih hn.2, List.set_comm _ _ hn.1]
      rw [this vs hi, List.set_set]
end

abbrev TGD := D → PEnv → (PEnv → Prop) → Prop
abbrev TGsD := List D → PEnv → (PEnv → Prop) → Prop
def TgOk (K : PySem.W.Frag) (own is : List Nat) (g : TG) (p : TGD) : Prop := ∀ c A σ ρ H v d Qd (Q : L2.St → Hp → Prop), c.K = K → EnvR c own A σ ρ H → Rep c (Avd c own A σ ρ) H v d → p d ρ Qd →
  (∀ σ' ρ', EnvR c own A σ' ρ' H → (∀ i, i ∈ own → ρ'[i]? = ρ[i]? ∧ σ'[i]? = σ[i]?) → (∀ vs, (∀ i ∈ is, i ∈ vs) → L2.wipe σ' vs = L2.wipe σ vs) → Qd ρ' → Q σ' H) → g v σ H Q
def TgsOk (K : PySem.W.Frag) (own is : List Nat) (g : TGs) (p : TGsD) : Prop := ∀ c A σ ρ H vs ds Qd (Q : L2.St → Hp → Prop), c.K = K → EnvR c own A σ ρ H → RepL c (Avd c own A σ ρ) H vs ds → p ds ρ Qd →
  (∀ σ' ρ', EnvR c own A σ' ρ' H → (∀ i, i ∈ own → ρ'[i]? = ρ[i]? ∧ σ'[i]? = σ[i]?) → (∀ vs, (∀ i ∈ is, i ∈ vs) → L2.wipe σ' vs = L2.wipe σ vs) → Qd ρ' → Q σ' H) → g vs σ H Q
def gN (i : Nat) : TGD := fun d ρ Q => Q (ρ.set i (some d))
def gsN : TGsD := fun ds ρ Q => match ds with | [] => Q ρ | _ => False
def gsC (g : TGD) (gs : TGsD) : TGsD := fun ds ρ Q => match ds with | d :: ds => g d ρ fun ρ' => gs ds ρ' Q | [] => False
def gT (gs : TGsD) : TGD := fun d ρ Q => match d with | .tup ds => gs ds ρ Q | .lst ds => gs ds ρ Q | _ => False
def gTL (K : PySem.W.Frag) (n : Nat) (t : TGs) : TG := fun v σ H Q => gTup K n t v σ H Q ∨ gUnl K n t v σ H Q
theorem pg_tupA {X : Cx} {es : List Expr} {k : Nat} {t : TGs} {n : Nat} {pos : Pos} (hc : X.calm = true) (h : PGs X es t)
    (hn : (assignEach es X.env).length = n := by rfl) (hst : (assignEach es X.env).findIdx? (·.1) = none := by rfl) : PG X (.Tuple es k pos) (gTL X.K n t) :=
  ⟨fun pins s σ H v u Q I r hw => hw.elim ((pg_tup hc h hn hst).run pins s σ H v u Q I r) ((pg_unl hc h hn hst).run pins s σ H v u Q I r)⟩
theorem tg_name {K : PySem.W.Frag} {own : List Nat} {i : Nat} (hi : i ∉ own) : TgOk K own [i] (gName i) (gN i) := fun c A σ ρ H v d Qd Q hk E r h f => by
  refine f _ _ (E.set hi r) (fun j hj => ?_) (fun vs hv => wipe_set (hv i (by simp))) h
  have hne : i ≠ j := fun z => hi (z ▸ hj)
  rw [List.getElem?_set_ne hne, List.getElem?_set_ne hne]
  exact ⟨rfl, rfl⟩
theorem tgs_nil {K : PySem.W.Frag} {own : List Nat} : TgsOk K own [] gNil gsN := fun c A σ ρ H vs ds Qd Q hk E r h f => by
  cases r with
  | nil => exact ⟨rfl, f _ _ E (fun _ _ => ⟨rfl, rfl⟩) (fun _ _ => rfl) h⟩
  | cons _ _ => exact h.elim
theorem tgs_cons {K : PySem.W.Frag} {own is js : List Nat} {g : TG} {gs : TGs} {p : TGD} {ps : TGsD} (h1 : TgOk K own is g p) (h2 : TgsOk K own js gs ps) : TgsOk K own (is ++ js) (gCons g gs) (gsC p ps) := fun c A σ ρ H vs ds Qd Q hk E r h f => by
  cases r with
  | nil => exact h.elim
  | cons r1 r2 =>
    refine ⟨_, _, rfl, h1 c A σ ρ H _ _ _ _ hk E r1 h fun σ1 ρ1 E1 o1 w1 q1 => ?_⟩
    have e1 := avd_congr (c := c) (A := A) o1
    refine h2 c A σ1 ρ1 H _ _ _ _ hk E1 (by rw [e1]; exact r2) q1 fun σ2 ρ2 E2 o2 w2 q2 => ?_
    exact f σ2 ρ2 E2 (fun i hi => ⟨(o2 i hi).1.trans (o1 i hi).1, (o2 i hi).2.trans (o1 i hi).2⟩) (fun vs hv => (w2 vs fun i hi => hv i (List.mem_append_right _ hi)).trans (w1 vs fun i hi => hv i (List.mem_append_left _ hi))) q2
theorem tg_tup {K : PySem.W.Frag} {own is : List Nat} {gs : TGs} {ps : TGsD} {n : Nat} (h : TgsOk K own is gs ps) (hn : ∀ ds ρ Q, ps ds ρ Q → ds.length = n) : TgOk K own is (gTL K n gs) (gT ps) := fun c A σ ρ H v d Qd Q hk E r hp f => by
  cases d with
  | tup ds =>
    cases r with
    | tup nd rl =>
      have hp : ps ds ρ Qd := hp
      exact .inl ⟨_, _, rfl, by rw [← hk]; exact nd.sq, by rw [rl.len]; exact hn _ _ _ hp, h c A σ ρ H _ _ _ _ hk E rl hp f⟩
  | lst ds =>
    cases r with
    | lst nd rl =>
      have hp : ps ds ρ Qd := hp
      exact .inr ⟨_, _, rfl, nd.sq, by rw [rl.len]; exact hn _ _ _ hp, h c A σ ρ H _ _ _ _ hk E rl hp f⟩
  | _ => exact hp.elim
theorem gs_len0 : ∀ ds ρ Q, gsN ds ρ Q → ds.length = 0 := fun ds ρ Q h => by
  cases ds with
  | nil => rfl
  | cons _ _ => exact h.elim
theorem gs_len1 {g : TGD} {ps : TGsD} {n : Nat} (h : ∀ ds ρ Q, ps ds ρ Q → ds.length = n) (hs : ∀ d ρ Q, g d ρ Q → ∃ ρ', Q ρ') : ∀ ds ρ Q, gsC g ps ds ρ Q → ds.length = n + 1 := fun ds ρ Q q => by
  cases ds with
  | nil => exact q.elim
  | cons d ds =>
    obtain ⟨ρ', z⟩ := hs _ _ _ q
    rw [List.length_cons, h _ _ _ z]
theorem gN_some (i : Nat) : ∀ d ρ Q, gN i d ρ Q → ∃ ρ', Q ρ' := fun _ _ _ h => ⟨_, h⟩
theorem gsN_some : ∀ ds ρ Q, gsN ds ρ Q → ∃ ρ', Q ρ' := fun ds ρ Q h => by
  cases ds with
  | nil => exact ⟨_, h⟩
  | cons _ _ => exact h.elim
theorem gsC_some {g : TGD} {ps : TGsD} (hs : ∀ d ρ Q, g d ρ Q → ∃ ρ', Q ρ') (h : ∀ ds ρ Q, ps ds ρ Q → ∃ ρ', Q ρ') : ∀ ds ρ Q, gsC g ps ds ρ Q → ∃ ρ', Q ρ' := fun ds ρ Q q => by
  cases ds with
  | nil => exact q.elim
  | cons d ds =>
    obtain ⟨ρ', z⟩ := hs _ _ _ q
    exact h _ _ _ z
theorem gT_some {ps : TGsD} (h : ∀ ds ρ Q, ps ds ρ Q → ∃ ρ', Q ρ') : ∀ d ρ Q, gT ps d ρ Q → ∃ ρ', Q ρ' := fun d ρ Q q => by
  cases d with
  | tup ds => exact h _ _ _ q
  | lst ds => exact h _ _ _ q
  | _ => exact q.elim

def ItOk (c : Cfg) (Av : Addr → Prop) (J : It) (H0 : Hp) (ds : List D) : Prop := ∀ c2 H2 Av2, Step c H0 c2 H2 → (∀ b, Av2 b → H2 b ≠ none) → (∀ b o, ¬ Av b → H0 b = some o → ¬ Av2 b) →
  ∀ i, (ds.length ≤ i → J.stop i H2) ∧ ∀ d, ds[i]? = some d → J.go i H2 ∧ ∀ x H3, J.yld i H2 x H3 → (∀ b o, H2 b = some o → H3 b = some o) ∧ Rep c2 Av2 H3 x d
open Classical in
noncomputable def mask (own : List Nat) (σ : L2.St) (ρ : PEnv) (H : Hp) : Hp := fun b => if OwnA own σ ρ b then none else H b
theorem mask_some {own : List Nat} {σ : L2.St} {ρ : PEnv} {H : Hp} {b : Addr} {o : HO} (h : mask own σ ρ H b = some o) : ¬ OwnA own σ ρ b ∧ H b = some o := by
  unfold mask at h
  split at h
  · cases h
  · rename_i n; exact ⟨n, h⟩
theorem mask_of {own : List Nat} {σ : L2.St} {ρ : PEnv} {H : Hp} {b : Addr} {o : HO} (n : ¬ OwnA own σ ρ b) (h : H b = some o) : mask own σ ρ H b = some o := by
  unfold mask
  rw [if_neg n]
  exact h
theorem Step.less {c c' : Cfg} {H H0 H' : Hp} (t : Step c H c' H') (h : ∀ b o, H0 b = some o → H b = some o) : Step c H0 c' H' := by
  refine ⟨t.kk, t.sub, fun b z => (t.new b z).imp_right fun e => ?_, fun b o n e => t.keep b o n (h b o e), t.fok⟩
  cases q : H0 b with
  | none => rfl
  | some o => rw [h b o q] at e; cases e
def liftI (K : PySem.W.Frag) (own : List Nat) (k : Kd) (src : TAD) : TI := fun σ H Rr => ∃ c A ρ R, c.K = K ∧ EnvR c own A σ ρ H ∧ src ρ R ∧ ∀ c' J H' ds, Step c H c' H' → ItOk c' (Avd c' own A σ ρ) J (match k with | .weak => H' | _ => mask own σ ρ H') ds → R ds → Rr J H'
theorem pi_imp {X : Cx} {tg e : Expr} {t t' : TI} (h : PI X tg e t) (m : ∀ σ H Q, t' σ H Q → t σ H Q) : PI X tg e t' := ⟨fun pins s σ H Q I q => h.run pins s σ H Q I (m σ H Q q)⟩
def iSeq (K : PySem.W.Frag) (tl : TE) : TI := fun σ H R => tl σ H fun x H1 => ∃ a, x = .ref a ∧ (((∃ xs, SqL K H1 a xs) ∧ R (Itl K a) H1) ∨ ((∃ xs, SqT K H1 a xs) ∧ R (Itt K a) H1))
theorem pi_seq {X : Cx} {tg l : Expr} {tl : TE} (hl : PE X l tl) : PI X tg l (iSeq X.K tl) := by
  refine ⟨fun pins s σ H R I h => ?_⟩
  refine thn (hl.run pins s σ H _ I h) fun v s1 ⟨x, H1, I1, r1, q1⟩ => ?_
  obtain ⟨a, e, q⟩ := q1
  subst e
  cases r1
  rcases q with ⟨⟨xs, hq⟩, q⟩ | ⟨⟨xs, hq⟩, q⟩
  · obtain ⟨its, rv, p, hz⟩ := I1.list hq
    refine wpAny_pyIter_list p.isList ?_
    refine ⟨s1.heap.objs.size, [s1.heap.objs.size], _, _, H1, rfl, I1.kept (t' := s1.toks) fun b o e => Heap.get?_push_of_some _ e, turn_list a _, ⟨_, Heap.get?_push_size _ rfl, rfl, rfl⟩, fun b hb => ?_, q⟩
    have e : b = s1.heap.objs.size := by simpa using hb
    subst e
    exact I1.fpOk (Nat.le_refl _) (I1.hok.fresh (Nat.le_refl _))
  · obtain ⟨its, rv, p, hz⟩ := I1.tuple hq
    refine wpAny_pyIter_tuple (show s1.heap.IsTuple a its.toArray from p) ?_
    refine ⟨s1.heap.objs.size, [s1.heap.objs.size], _, _, H1, rfl, I1.kept (t' := s1.toks) fun b o e => Heap.get?_push_of_some _ e, turn_tuple a _, ⟨_, Heap.get?_push_size _ rfl, rfl, rfl⟩, fun b hb => ?_, q⟩
    have e : b = s1.heap.objs.size := by simpa using hb
    subst e
    exact I1.fpOk (Nat.le_refl _) (I1.hok.fresh (Nat.le_refl _))
def sSeq (p : TED) : TAD := fun ρ R => p ρ fun x => match x with | .lst ds => R ds | .tup ds => R ds | _ => False
theorem ItOk.of {c : Cfg} {Av : Addr → Prop} {H0 : Hp} {vs : List V} {ds : List D} {J : It} (hav : ∀ b, c.S b → Av b) (r : RepL c Av H0 vs ds)
    (h : ∀ c2 H2, Step c H0 c2 H2 → ∀ i, (vs.length ≤ i → J.stop i H2) ∧ ∀ v, vs[i]? = some v → J.go i H2 ∧ ∀ x H3, J.yld i H2 x H3 → H3 = H2 ∧ x = v) : ItOk c Av J H0 ds := fun c2 H2 Av2 t al m i => by
  have r2 : RepL c2 Av2 H2 vs ds := RepL.mv t.kk t.sub (fun b o n e => ⟨m b o n e, t.keep b o (fun z => n (hav b z)) e⟩) _ _ r
  refine ⟨fun hl => (h c2 H2 t i).1 (by rw [r.len]; exact hl), fun d hd => ?_⟩
  obtain ⟨v, h1, h2⟩ := r2.get hd
  obtain ⟨g1, g2⟩ := (h c2 H2 t i).2 v h1
  refine ⟨g1, fun x H3 y => ?_⟩
  obtain ⟨e1, e2⟩ := g2 x H3 y
  subst e1; subst e2
  exact ⟨fun _ _ e => e, h2⟩
theorem itl_ok {c : Cfg} {Av : Addr → Prop} {H0 : Hp} {a : Addr} {vs : List V} {ds : List D} (hav : ∀ b, c.S b → Av b) (hs : ¬ c.S a) (ha : H0 a = some (.lst vs)) (r : RepL c Av H0 vs ds) : ItOk c Av (Itl c.K a) H0 ds := .of hav r fun c2 H2 t i => by
  have h2 : SqL c.K H2 a vs := .inl (.inl (t.keep a _ hs ha))
  exact ⟨fun hl => ⟨vs, h2, hl⟩, fun v hv => ⟨⟨vs, v, h2, hv⟩, fun x H3 y => ⟨y.1, Option.some.inj ((y.2 vs h2).symm.trans hv)⟩⟩⟩
theorem itt_ok {c : Cfg} {Av : Addr → Prop} {H0 : Hp} {a : Addr} {vs : List V} {ds : List D} (hav : ∀ b, c.S b → Av b) (n : NodT c Av H0 a vs) (r : RepL c Av H0 vs ds) : ItOk c Av (Itt c.K a) H0 ds := .of hav r fun c2 H2 t i => by
  have h2 : SqT c.K H2 a vs := .inl (.inl (t.keep a _ (fun z => n.2.1 (hav a z)) n.2.2))
  exact ⟨fun hl => ⟨vs, h2, hl⟩, fun v hv => ⟨⟨vs, v, h2, hv⟩, fun x H3 y => ⟨y.1, Option.some.inj ((y.2 vs h2).symm.trans hv)⟩⟩⟩
section
variable {c : Cfg} {own : List Nat} {A : Addr → Prop} {σ : L2.St} {ρ : PEnv} {H : Hp} {vs : List V} {ds : List D} {v : V} {d : D}
theorem RepL.mask (r : RepL c (Avd c own A σ ρ) H vs ds) : RepL c (Avd c own A σ ρ) (mask own σ ρ H) vs ds := RepL.mv rfl (fun _ _ z => z) (fun b o n e => ⟨n, mask_of (fun z => n (.inr (.inr z))) e⟩) _ _ r
theorem Rep.mask (r : Rep c (Avd c own A σ ρ) H v d) : Rep c (Avd c own A σ ρ) (DL.mask own σ ρ H) v d := Rep.mv rfl (fun _ _ z => z) (fun b o n e => ⟨n, mask_of (fun z => n (.inr (.inr z))) e⟩) _ _ r
theorem avdS : ∀ b, c.S b → Avd c own A σ ρ b := fun _ z => .inr (.inl z)
end
theorem lift_seqW (K : PySem.W.Frag) {own : List Nat} {p : TED} : ∀ σ H Q, liftI K own .weak (sSeq p) σ H Q → iSeq K (lift K own .weak p) σ H Q := fun σ H Q ⟨c, A, ρ, R, hk, E, hp, f⟩ => ⟨c, A, ρ, _, hk, E, hp, fun c1 v H1 d t r g => by
  cases d with
  | lst ds =>
    obtain ⟨a, vs, rfl, hz, ha, rl⟩ := RepW.lst r
    have hs : ¬ c1.S a := by
      rcases r with r | ⟨b, e, o, n1, n2, r⟩
      · cases r with | lst n _ => exact fun z => n.2.1 (.inr (.inl z))
      · cases e; exact n2
    have h := itl_ok avdS hs ha rl
    rw [t.kk.trans hk] at h
    exact ⟨a, rfl, .inl ⟨⟨vs, .inl (.inl ha)⟩, f c1 _ H1 ds t h g⟩⟩
  | tup ds =>
    obtain ⟨a, vs, rfl, n, rl⟩ := RepW.tup r
    have h := itt_ok avdS n rl
    rw [t.kk.trans hk] at h
    have sq := n.sq
    rw [t.kk.trans hk] at sq
    exact ⟨a, rfl, .inr ⟨⟨vs, sq⟩, f c1 _ H1 ds t h g⟩⟩
  | _ => exact g.elim⟩
theorem lift_seqS (K : PySem.W.Frag) {own : List Nat} {p : TED} : ∀ σ H Q, liftI K own .strong (sSeq p) σ H Q → iSeq K (lift K own .strong p) σ H Q := fun σ H Q ⟨c, A, ρ, R, hk, E, hp, f⟩ => ⟨c, A, ρ, _, hk, E, hp, fun c1 v H1 d t r g => by
  have r : Rep c1 (Avd c1 own A σ ρ) H1 v d := r
  cases d with
  | lst ds =>
    cases r with
    | lst n rl =>
      have h := itl_ok avdS (fun z => n.2.1 (.inr (.inl z))) (mask_of (fun z => n.2.1 (.inr (.inr z))) n.2.2) (RepL.mask rl)
      rw [t.kk.trans hk] at h
      exact ⟨_, rfl, .inl ⟨⟨_, .inl (.inl n.2.2)⟩, f c1 _ H1 ds t h g⟩⟩
  | tup ds =>
    cases r with
    | tup n rl =>
      have n' : NodT c1 (Avd c1 own A σ ρ) (mask own σ ρ H1) _ _ := ⟨n.1, n.2.1, mask_of (fun w => n.2.1 (.inr (.inr w))) n.2.2⟩
      have h := itt_ok avdS n' (RepL.mask rl)
      rw [t.kk.trans hk] at h
      have sq := n.sq
      rw [t.kk.trans hk] at sq
      exact ⟨_, rfl, .inr ⟨⟨_, sq⟩, f c1 _ H1 ds t h g⟩⟩
  | _ => exact g.elim⟩
def rangeD (lo hi : Int) : List D := (List.range (hi - lo).toNat).map fun i => D.int (lo + (i : Nat))
theorem itr_ok {c : Cfg} {Av : Addr → Prop} {H0 : Hp} (lo hi : Int) : ItOk c Av (Itr lo (hi - lo).toNat) H0 (rangeD lo hi) := fun c2 H2 Av2 t al m i => by
  refine ⟨fun hl => ?_, fun d hd => ?_⟩
  · show (hi - lo).toNat ≤ i
    simpa [rangeD] using hl
  · have hi' : i < (hi - lo).toNat := by
      have := (List.getElem?_eq_some_iff.mp hd).1
      simpa [rangeD] using this
    refine ⟨hi', fun x H3 y => ?_⟩
    obtain ⟨e1, e2⟩ := y
    subst e1; subst e2
    have e : d = .int (lo + (i : Nat)) := by
      unfold rangeD at hd
      rw [List.getElem?_map, List.getElem?_range hi'] at hd
      exact (Option.some.inj hd).symm
    subst e
    exact ⟨fun _ _ e => e, .int _⟩
def small62 (i : Int) : Prop := -(2 ^ 62) ≤ i ∧ i < 2 ^ 62
def sRng1 (pa : TAD) : TAD := fun ρ R => pa ρ fun ds => match ds with | [x] => dInt x fun j => small62 j ∧ R (rangeD 0 j) | _ => False
def sRng2 (pa : TAD) : TAD := fun ρ R => pa ρ fun ds => match ds with | [x, y] => dInt x fun i => dInt y fun j => small62 i ∧ small62 j ∧ R (rangeD i j) | _ => False
theorem lift_rng1 (K : PySem.W.Frag) {own : List Nat} {pa : TAD} {k : Kd} : ∀ σ H Q, liftI K own k (sRng1 pa) σ H Q → iRng1 (liftA K own .weak 1 pa) σ H Q := fun σ H Q ⟨c, A, ρ, R, hk, E, hp, f⟩ => ⟨c, A, ρ, _, hk, E, hp, fun c1 vs H1 ds t r hn g => by
  match ds, r, g with
  | [x], .cons r1 .nil, g =>
    obtain ⟨j, rfl, h, g⟩ := dInt_iff g
    have e := RepW.int r1
    subst e
    refine ⟨j, rfl, h.1, h.2, ?_⟩
    have q := f c1 (Itr 0 (j - 0).toNat) H1 (rangeD 0 j) t (itr_ok 0 j) g
    rw [Int.sub_zero] at q
    exact q⟩
theorem lift_rng2 (K : PySem.W.Frag) {own : List Nat} {pa : TAD} {k : Kd} : ∀ σ H Q, liftI K own k (sRng2 pa) σ H Q → iRng2 (liftA K own .weak 2 pa) σ H Q := fun σ H Q ⟨c, A, ρ, R, hk, E, hp, f⟩ => ⟨c, A, ρ, _, hk, E, hp, fun c1 vs H1 ds t r hn g => by
  match ds, r, g with
  | [x, y], .cons r1 (.cons r2 .nil), g =>
    obtain ⟨i, ex, g1⟩ := dInt_iff (show dInt x fun i => dInt y fun j => small62 i ∧ small62 j ∧ R (rangeD i j) from g)
    obtain ⟨j, ey, h, h', g2⟩ := dInt_iff g1
    rw [ex] at r1
    rw [ey] at r2
    rw [RepW.int r1, RepW.int r2]
    exact ⟨i, j, rfl, ⟨h.1, h.2, h'.1, h'.2⟩, f c1 (Itr i (j - i).toNat) H1 (rangeD i j) t (itr_ok i j) g2⟩⟩
section
variable {X : Cx} {own : List Nat} {tg : Expr} {p : TED} {pa : TAD}
theorem i_seqW {l : Expr} (h : PE X l (lift X.K own .weak p)) : PI X tg l (liftI X.K own .weak (sSeq p)) := pi_imp (pi_seq h) (lift_seqW _)
theorem i_seqS {l : Expr} (h : PE X l (lift X.K own .strong p)) : PI X tg l (liftI X.K own .strong (sSeq p)) := pi_imp (pi_seq h) (lift_seqS _)
theorem i_rng1 {a : Expr} {pn pos : Pos} {k : Kd} (hm : X.mg "range" = none) (ha : PA X [a] (liftA X.K own .weak 1 pa)) (hg : Gl X "range" := by rfl) (hs : starEach [a] X.env = [(false, eval a X.env)] := by rfl) : PI X tg (.Call (.Name "range" pn) [a] [] pos) (liftI X.K own k (sRng1 pa)) := pi_imp (pi_range1 hg hm ha hs) (lift_rng1 _)
theorem i_rng2 {a b : Expr} {pn pos : Pos} {k : Kd} (hm : X.mg "range" = none) (ha : PA X [a, b] (liftA X.K own .weak 2 pa)) (hg : Gl X "range" := by rfl) (hs : starEach [a, b] X.env = [(false, eval a X.env), (false, eval b X.env)] := by rfl) (hs2 : starEach [b] X.env = [(false, eval b X.env)] := by rfl) :
    PI X tg (.Call (.Name "range" pn) [a, b] [] pos) (liftI X.K own k (sRng2 pa)) := pi_imp (pi_range2 hg hm ha hs hs2) (lift_rng2 _)
end

def compR (tg : TGD) (tt : TTD) (te : TED) (ρ : PEnv) : List D → List D → (List D → Prop) → Prop
  | [], acc, R => R acc
  | d :: ds, acc, R => tg d ρ fun ρ1 => tt ρ1 fun b => if b = true then te ρ1 fun y => compR tg tt te ρ ds (acc ++ [y]) R else compR tg tt te ρ ds acc R
def pComp (src : TAD) (tg : TGD) (tt : TTD) (te : TED) (vs : List Nat) : TED := fun ρ R => src ρ fun ds => ds.length ≤ sizeLine ∧ compR tg tt te (wipeD ρ vs) ds [] fun acc => R (.lst acc)
def tYesD : TTD := fun _ R => R true
structure PTsD (X : Cx) (own : List Nat) (ifs : List Expr) (t : TTD) : Prop where
  ts : PTs X ifs (liftT X.K own t)
theorem pts_imp {X : Cx} {ifs : List Expr} {t t' : TT} (h : PTs X ifs t) (m : ∀ σ H Q, t' σ H Q → t σ H Q) : PTs X ifs t' := ⟨fun pins s σ H Q I q => h.run pins s σ H Q I (m σ H Q q)⟩
theorem ts_nil {X : Cx} {own : List Nat} : PTs X [] (liftT X.K own tYesD) := pts_imp pts_nil fun σ H Q ⟨c, A, ρ, R, hk, E, hp, f⟩ => f c H true (Step.refl E.fok) hp
theorem ts_one {X : Cx} {own : List Nat} {e : Expr} {t : TTD} (h : PT X e (liftT X.K own t)) : PTs X [e] (liftT X.K own t) := pts_one h
theorem wipe_wipe (σ : L2.St) : ∀ vs : List Nat, L2.wipe (L2.wipe σ vs) vs = L2.wipe σ vs
  | vs => by
    apply List.ext_getElem?
    intro i
    by_cases hi : i ∈ vs
    · have h : ∀ (τ : L2.St) (ws : List Nat), i ∈ ws → i < τ.length → (L2.wipe τ ws)[i]? = some none := by
        intro τ ws
        induction ws with
        | nil => intro h; cases h
        | cons w ws ih =>
          intro h hl
          unfold L2.wipe
          by_cases e : w = i
          · subst e
            exact List.getElem?_set_self (by rw [wipe_length]; exact hl)
          · rw [List.getElem?_set_ne e]
            exact ih ((List.mem_cons.mp h).resolve_left fun z => e z.symm) hl
      by_cases hl : i < σ.length
      · rw [h _ _ hi (by rw [wipe_length]; exact hl), h _ _ hi hl]
      · rw [List.getElem?_eq_none (by rw [wipe_length, wipe_length]; omega), List.getElem?_eq_none (by rw [wipe_length]; omega)]
    · rw [wipeS_out hi]
theorem EnvR.mutA {c : Cfg} {own : List Nat} {A : Addr → Prop} {σ : L2.St} {ρ : PEnv} {H : Hp} (E : EnvR c own A σ ρ H) {a : Addr} {o : HO} (ha : A a) (hs : ¬ c.S a) (ho : ∀ vs, o ≠ .tup vs := by intro _ z; cases z) : EnvR c own A σ ρ (upd H a o) := by
  have m : ∀ b u, ¬ Avd c own A σ ρ b → H b = some u → ¬ Avd c own A σ ρ b ∧ (upd H a o) b = some u := fun b u n e => ⟨n, by rw [upd_ne (fun z => n (.inl (by rw [z]; exact ha)))]; exact e⟩
  refine ⟨⟨fun x l f => ?_, E.fok.apart⟩, E.len, fun b h => ?_, fun i d h hi => ?_, fun i d h hi => ?_, E.dist⟩
  · have h1 : x ≠ a := fun z => hs (z ▸ ⟨x, l, f, .inl rfl⟩)
    have h2 : l ≠ a := fun z => hs (z ▸ ⟨x, l, f, .inr rfl⟩)
    exact (E.fok.ok x l f).same (upd_ne h1) (upd_ne h2)
  · by_cases e : b = a
    · subst e; unfold AvOk; rw [upd_same]; exact ⟨fun z => (nomatch z), fun vs z => ho vs (Option.some.inj z)⟩
    · unfold AvOk; rw [upd_ne e]; exact E.avA b h
  · obtain ⟨v, h1, h2⟩ := E.slot i d h hi
    exact ⟨v, h1, Rep.mv rfl (fun _ _ z => z) m d v h2⟩
  · obtain ⟨b, h1, h2, h3, h4⟩ := E.ownS i d h hi
    exact ⟨b, h1, h2, h3, h4.mv rfl (fun _ _ z => z) m fun u e => by rw [upd_ne (fun z => h2 (by rw [z]; exact ha))]; exact e⟩
theorem lift_comp (K : PySem.W.Frag) {own is : List Nat} {src : TAD} {tg : TGD} {tt : TTD} {te : TED} {vs : List Nat} {g : TG} (hg : TgOk K own is g tg) (hv : ∀ i ∈ is, i ∈ vs) (ho : ∀ i ∈ vs, i ∉ own) :
    ∀ σ H Q, lift K own .fresh (pComp src tg tt te vs) σ H Q → tLc (liftI K own .weak src) g (liftT K own tt) (lift K own .strong te) vs σ H Q := by
  intro σ H Q ⟨c, A, ρ, R, hk, E, hp, f⟩
  refine ⟨c, A, ρ, _, hk, E, hp, fun c1 J H1 ds t1 it g1 => ?_⟩
  obtain ⟨hz, g1⟩ := g1
  have E1 := E.step t1
  intro L hL
  have EL := E1.more (o := .lst []) hL
  have tL : Step c1 H1 c1 (upd H1 L (.lst [])) := .one E1.fok hL
  let A' : Addr → Prop := fun b => A b ∨ b = L
  let Wn : Nat → Hp → Prop := fun i H2 => ∃ c2 acc us, Step c1 H1 c2 H2 ∧ ¬ c2.S L ∧ H2 L = some (.lst us) ∧ us.length ≤ i ∧ RepL c2 (Avd c2 own A' σ ρ) H2 us acc ∧ EnvR c2 own A' σ ρ H2 ∧ compR tg tt te (wipeD ρ vs) (ds.drop i) acc fun acc => R (.lst acc)
  refine ⟨fun i m H2 => m = ds.length - i ∧ i ≤ ds.length ∧ Wn i H2, ⟨ds.length, by simp, Nat.zero_le _, c1, [], [], tL, E1.fok.fresh hL, upd_same, Nat.le_refl _, .nil, EL, g1⟩, ?_⟩
  rintro i m H2 ⟨rfl, hi, c2, acc, us, t2, nS, h2, hu, ru, E2, cr⟩
  have hcon : ∀ i, i ∈ own → (wipeD ρ vs)[i]? = ρ[i]? ∧ (L2.wipe σ vs)[i]? = σ[i]? := fun i hi => by
    have : i ∉ vs := fun z => ho i z hi
    exact ⟨wipeD_out this, wipeS_out this⟩
  have E2w := E2.wipe ho
  have al : ∀ b, Avd c2 own A' (L2.wipe σ vs) (wipeD ρ vs) b → H2 b ≠ none := fun b h => E2w.al h
  have it2 := it c2 H2 (Avd c2 own A' (L2.wipe σ vs) (wipeD ρ vs)) t2 al (fun b o n e z => by
    have e : H1 b = some o := e
    rw [avd_congr hcon] at z
    rcases z with (z | z) | z | z
    · exact n (.inl z)
    · subst z; rw [hL] at e; cases e
    · rcases t2.new b z with z | z
      · exact n (.inr (.inl z))
      · rw [z] at e; cases e
    · exact n (.inr (.inr z))) i
  by_cases hlt : i < ds.length
  · refine .inr ?_
    have hd : ds[i]? = some ds[i] := List.getElem?_eq_getElem hlt
    obtain ⟨go, yl⟩ := it2.2 _ hd
    have hdrop : ds.drop i = ds[i] :: ds.drop (i + 1) := List.drop_eq_getElem_cons hlt
    rw [hdrop] at cr
    refine ⟨go, fun H' => Wn (i + 1) H', fun H' h' => ⟨ds.length - (i + 1), by omega, rfl, hlt, h'⟩, fun x H3 y => ?_⟩
    obtain ⟨same, rx⟩ := yl x H3 y
    have t3 : Step c2 H2 c2 H3 := .ofSame E2.fok same
    have E3 := E2w.step t3
    have k2 : c2.K = K := t2.kk.trans (t1.kk.trans hk)
    refine hg c2 A' _ _ H3 x ds[i] _ _ k2 E3 rx cr fun σ4 ρ4 E4 o4 w4 q4 => ⟨by rw [w4 vs hv, wipe_wipe], ?_⟩
    have hcon4 : Avd c2 own A' σ4 ρ4 = Avd c2 own A' σ ρ := (avd_congr o4).trans (avd_congr hcon)
    refine ⟨c2, A', ρ4, _, k2, E4, q4, fun c5 H5 b t5 g5 => ?_⟩
    have n5 : ¬ c5.S L := t5.notS (same L _ h2) nS
    have h5 : H5 L = some (.lst us) := t5.keep L _ nS (same L _ h2)
    have E5 : EnvR c5 own A' σ ρ H5 := (E2.step t3).step t5
    have t25 := t3.trans t5
    cases b with
    | false =>
      exact ⟨c5, acc, us, t2.trans t25, n5, h5, Nat.le_succ_of_le hu, RepL.mv t25.kk t25.sub (E2.mv t25) _ _ ru, E5, g5⟩
    | true =>
      refine ⟨c5, A', ρ4, _, t5.kk.trans k2, E4.step t5, g5, fun c6 v H6 d6 t6 r6 g6 => ?_⟩
      have n6 : ¬ c6.S L := t6.notS h5 n5
      have h6 : H6 L = some (.lst us) := t6.keep L _ n5 h5
      have E6 : EnvR c6 own A' σ ρ H6 := E5.step t6
      have t26 := t25.trans t6
      refine ⟨us, h6, Nat.lt_of_lt_of_le (Nat.lt_of_le_of_lt hu hlt) hz, c6, acc ++ [d6], us ++ [v], (t2.trans t26).upd hL n6, n6, upd_same, by rw [List.length_append]; exact Nat.succ_le_succ hu, ?_, E6.mutA (.inr rfl) n6, g6⟩
      have ru6 : RepL c6 (Avd c6 own A' σ ρ) H6 us acc := RepL.mv t26.kk t26.sub (E2.mv t26) _ _ ru
      have hcon6 : Avd c6 own A' σ4 ρ4 = Avd c6 own A' σ ρ := (avd_congr o4).trans (avd_congr hcon)
      have r6' : Rep c6 (Avd c6 own A' σ ρ) H6 v d6 := by
        rw [← hcon6]
        exact r6
      exact RepL.mv rfl (fun _ _ z => z) (fun b o n e => ⟨n, by rw [upd_ne (fun z => n (.inl (.inr z)))]; exact e⟩) _ _ (ru6.append (.cons r6' .nil))
  · refine .inl ⟨it2.1 (by omega), ?_⟩
    have e : ds.drop i = [] := List.drop_eq_nil_of_le (by omega)
    rw [e] at cr
    refine f c2 (.ref L) H2 (.lst acc) (t1.trans t2) ⟨L, rfl, t1.fresh hL, nS, .lst (by omega) h2 ?_⟩ cr
    exact RepL.mv rfl (fun _ _ z => z) (fun b o n e => ⟨fun z => n (by
      rcases z with (z | z | z) | z
      · exact .inl (.inl z)
      · exact .inr (.inl z)
      · exact .inr (.inr z)
      · exact .inl (.inr z)), e⟩) _ _ ru
end DL

set_option Elab.async false
set_option linter.all false
set_option maxRecDepth 100000
set_option maxHeartbeats 2000000
namespace DL
open PySem PySem.Spec PyProof.Rows L2

section
variable {X : Cx} {own : List Nat}
theorem e_comp {elt tg iter : Expr} {ifs : List Expr} {scope : Scope} {ow : List (Str × Nat)} {pos : Pos} {is : List Nat} {src : TAD} {g : TG} {tgd : TGD} {tt : TTD} {te : TED} (hc : X.calm = true) (hN : X.N.Nodup) (hi : PI X tg iter (liftI X.K own .weak src)) (ok : BlkOk X.N X.env.scope scope ow)
    (hg : ∀ (s : Shared) (H : Hp) (C : Addr) (cl : List (Str × Addr)) (fp : List Addr), PG (X.blk s H scope (compEnvC scope cl C X.env) fp) tg g) (hgd : TgOk X.K own is g tgd) (ht : ∀ (s : Shared) (H : Hp) (C : Addr) (cl : List (Str × Addr)) (fp : List Addr), PTs (X.blk s H scope (compEnvC scope cl C X.env) fp) ifs (liftT X.K own tt))
    (he : ∀ (s : Shared) (H : Hp) (C : Addr) (cl : List (Str × Addr)) (fp : List Addr), PE (X.blk s H scope (compEnvC scope cl C X.env) fp) elt (lift X.K own .strong te)) (hv : ∀ i ∈ is, i ∈ ow.map (·.2) := by decide) (ho : ∀ i ∈ ow.map (·.2), i ∉ own := by decide) {vs : List Nat} (hvs : ow.map (·.2) = vs := by rfl) (hs : ∀ x, foldedSetIterable iter X.env x = pure x := by intro _; rfl) :
    PE X (.ListComp elt [⟨tg, iter, ifs, 0⟩] scope pos) (lift X.K own .fresh (pComp src tgd tt te vs)) := hvs ▸ pe_imp (pe_lc hc hN hi ok hg ht he hs) (lift_comp _ hgd hv ho)
end

structure DEnds where
  nx : PEnv → Prop
  rt : D → Prop
  bk : PEnv → Prop
  ct : PEnv → Prop
abbrev TSD := DEnds → PEnv → Prop
def OwnF (own : List Nat) (σ : L2.St) (ρ : PEnv) (H0 : Hp) : Prop := ∀ a, OwnA own σ ρ a → H0 a = none
def Nxt (K : PySem.W.Frag) (own : List Nat) (fr : Bool) (c0 : Cfg) (H0 : Hp) (A : Addr → Prop) (P : PEnv → Prop) (Q : L2.St → Hp → Prop) : Prop :=
  ∀ c' own' σ' ρ' H', c'.K = K → (∀ i ∈ own', i ∈ own) → (fr = false → own' = own) → Step c0 H0 c' H' → EnvR c' own' A σ' ρ' H' → OwnF own' σ' ρ' H0 → P ρ' → Q σ' H'
def Rtn (K : PySem.W.Frag) (ko : Kd) (c0 : Cfg) (H0 : Hp) (A : Addr → Prop) (P : D → Prop) (Q : VK) : Prop :=
  ∀ c' v H' d, c'.K = K → Step c0 H0 c' H' → ResF ko c' A H0 H' v d → P d → Q v H'
structure EndsOk (K : PySem.W.Frag) (own : List Nat) (fr : Bool) (ko : Kd) (c0 : Cfg) (H0 : Hp) (A : Addr → Prop) (DD : DEnds) (Dn : Ends) : Prop where
  nx : Nxt K own fr c0 H0 A DD.nx Dn.nx
  rt : Rtn K ko c0 H0 A DD.rt Dn.rt
  bk : Nxt K own fr c0 H0 A DD.bk Dn.bk
  ct : Nxt K own fr c0 H0 A DD.ct Dn.ct
def liftS (K : PySem.W.Frag) (own : List Nat) (fr : Bool) (ko : Kd) (p : TSD) : TS := fun Dn σ H => ∃ c0 H0 A c ρ DD, c.K = K ∧ Step c0 H0 c H ∧ EnvR c own A σ ρ H ∧ OwnF own σ ρ H0 ∧ p DD ρ ∧ EndsOk K own fr ko c0 H0 A DD Dn

section
variable {c c' c0 : Cfg} {own own' : List Nat} {A : Addr → Prop} {σ σ' : L2.St} {ρ ρ' : PEnv} {H H' H0 : Hp} {K : PySem.W.Frag} {fr : Bool} {ko : Kd}
theorem EnvR.freeze (E : EnvR c own A σ ρ H) (h : ∀ i ∈ own', i ∈ own) : EnvR c own' A σ ρ H := by
  have oa : ∀ a, OwnA own' σ ρ a → OwnA own σ ρ a := fun a ⟨i, d, hi, h1, h2⟩ => ⟨i, d, h i hi, h1, h2⟩
  have m : ∀ b, Avd c own' A σ ρ b → Avd c own A σ ρ b := fun b z => by
    rcases z with z | z | z
    · exact .inl z
    · exact .inr (.inl z)
    · exact .inr (.inr (oa b z))
  have mv : ∀ b o, ¬ Avd c own A σ ρ b → H b = some o → ¬ Avd c own' A σ ρ b ∧ H b = some o := fun b o n e => ⟨fun z => n (m b z), e⟩
  refine ⟨E.fok, E.len, E.avA, fun i d h1 hi => ?_, fun i d h1 hi => ?_, fun i j a d e hi hj => E.dist i j a d e (h i hi) (h j hj)⟩
  · by_cases hio : i ∈ own
    · obtain ⟨a, h2, h3, h4, h5⟩ := E.ownS i d h1 hio
      refine ⟨.ref a, h2, h5.rep (fun z => ?_) m⟩
      rcases z with z | z | ⟨j, e, hj, h6, h7⟩
      · exact h3 z
      · exact h4 z
      · have := E.dist i j a d e hio (h j hj) h1 h6 h2 h7
        subst this
        exact hi hj
    · obtain ⟨v, h2, h3⟩ := E.slot i d h1 hio
      exact ⟨v, h2, Rep.mv rfl (fun _ _ z => z) mv _ _ h3⟩
  · obtain ⟨a, h2, h3, h4, h5⟩ := E.ownS i d h1 (h i hi)
    exact ⟨a, h2, h3, h4, h5.mv rfl (fun _ _ z => z) mv fun _ e => e⟩
theorem OwnF.freeze (F : OwnF own σ ρ H0) (h : ∀ i ∈ own', i ∈ own) : OwnF own' σ ρ H0 := fun a ⟨i, d, hi, h1, h2⟩ => F a ⟨i, d, h i hi, h1, h2⟩
theorem OwnF.congr (F : OwnF own σ ρ H0) (h : ∀ i, i ∈ own → ρ'[i]? = ρ[i]? ∧ σ'[i]? = σ[i]?) : OwnF own σ' ρ' H0 := fun a z => F a ((ownA_congr h a).mp z)
theorem EnvR.setO (E : EnvR c own A σ ρ H) (t : Step c H c' H') {i : Nat} {v : V} {d : D} (hi : i ∈ own) (r : Fr c' own A σ ρ H H' v d) : EnvR c' own A (σ.set i (some v)) (ρ.set i (some d)) H' := by
  obtain ⟨p, rfl, hp, np, r⟩ := r
  have oa : ∀ a, OwnA own (σ.set i (some (.ref p))) (ρ.set i (some d)) a → OwnA own σ ρ a ∨ a = p := fun a ⟨j, e, hj, h1, h2⟩ => by
    by_cases e1 : i = j
    · subst e1
      by_cases hl : i < σ.length
      · rw [List.getElem?_set_self hl] at h2
        have := Option.some.inj (Option.some.inj h2)
        cases this
        exact .inr rfl
      · rw [List.getElem?_eq_none (by rw [List.length_set]; omega)] at h2
        cases h2
    · rw [List.getElem?_set_ne e1] at h1 h2
      exact .inl ⟨j, e, hj, h1, h2⟩
  have mA : ∀ b, Avd c' own A (σ.set i (some (.ref p))) (ρ.set i (some d)) b → Avd c' own A σ ρ b ∨ b = p := fun b z => by
    rcases z with z | z | z
    · exact .inl (.inl z)
    · exact .inl (.inr (.inl z))
    · exact (oa b z).imp_left fun z => .inr (.inr z)
  have m : ∀ b o, ¬ Avd c own A σ ρ b → H b = some o → ¬ Avd c' own A (σ.set i (some (.ref p))) (ρ.set i (some d)) b ∧ H' b = some o := fun b o n e => by
    obtain ⟨n', e'⟩ := E.mv t b o n e
    refine ⟨fun z => ?_, e'⟩
    rcases mA b z with z | z
    · exact n' z
    · subst z; rw [hp] at e; cases e
  have pA : ¬ A p := fun z => (E.avA p z).1 hp
  refine ⟨t.fok, by rw [List.length_set, List.length_set]; exact E.len, fun a h => t.avOk (E.avA a h), fun j e h1 hj => ?_, fun j e h1 hj => ?_, fun j k a e e' hj hk h1 h2 h3 h4 => ?_⟩
  · have hne : i ≠ j := fun z => hj (z ▸ hi)
    rw [List.getElem?_set_ne hne] at h1
    rw [List.getElem?_set_ne hne]
    obtain ⟨v, h2, h3⟩ := E.slot j e h1 hj
    exact ⟨v, h2, Rep.mv t.kk t.sub m _ _ h3⟩
  · by_cases e1 : i = j
    · subst e1
      by_cases hl : i < ρ.length
      · rw [List.getElem?_set_self hl] at h1
        cases h1
        refine ⟨p, List.getElem?_set_self (by rw [← E.len]; exact hl), pA, np, r.mv rfl (fun _ _ z => z) (fun b o n e => ⟨fun z => n (mA b z), e⟩) fun _ e => e⟩
      · rw [List.getElem?_eq_none (by rw [List.length_set]; omega)] at h1
        cases h1
    · rw [List.getElem?_set_ne e1] at h1
      rw [List.getElem?_set_ne e1]
      obtain ⟨a, h2, h3, h4, h5⟩ := E.ownS j e h1 hj
      refine ⟨a, h2, h3, fun z => ?_, h5.mv t.kk t.sub m fun o e => t.keep a o h4 e⟩
      rcases t.new a z with z | z
      · exact h4 z
      · exact h5.some z
  · have nop : ∀ j e, j ∈ own → i ≠ j → ρ[j]? = some (some e) → σ[j]? = some (some (.ref p)) → False := fun j e hj hne h1 h3 => by
      exact E.own_al ⟨j, e, hj, h1, h3⟩ hp
    by_cases e1 : i = j
    · by_cases e2 : i = k
      · exact e1.symm.trans e2
      · subst e1
        rw [List.getElem?_set_ne e2] at h2 h4
        by_cases hl : i < σ.length
        · rw [List.getElem?_set_self hl] at h3
          have := Option.some.inj (Option.some.inj h3)
          cases this
          exact (nop k e' hk e2 h2 h4).elim
        · rw [List.getElem?_eq_none (by rw [List.length_set]; omega)] at h3
          cases h3
    · by_cases e2 : i = k
      · subst e2
        rw [List.getElem?_set_ne e1] at h1 h3
        by_cases hl : i < σ.length
        · rw [List.getElem?_set_self hl] at h4
          have := Option.some.inj (Option.some.inj h4)
          cases this
          exact (nop j e hj e1 h1 h3).elim
        · rw [List.getElem?_eq_none (by rw [List.length_set]; omega)] at h4
          cases h4
      · rw [List.getElem?_set_ne e1] at h1 h3
        rw [List.getElem?_set_ne e2] at h2 h4
        exact E.dist j k a e e' hj hk h1 h2 h3 h4
theorem OwnF.setO (F : OwnF own σ ρ H0) (t : Step c0 H0 c H) {i : Nat} {p : Addr} {d : D} (hp : H p = none) : OwnF own (σ.set i (some (.ref p))) (ρ.set i (some d)) H0 := fun a ⟨j, e, hj, h1, h2⟩ => by
  by_cases e1 : i = j
  · subst e1
    by_cases hl : i < σ.length
    · rw [List.getElem?_set_self hl] at h2
      have := Option.some.inj (Option.some.inj h2)
      cases this
      exact t.fresh hp
    · rw [List.getElem?_eq_none (by rw [List.length_set]; omega)] at h2
      cases h2
  · rw [List.getElem?_set_ne e1] at h1 h2
    exact F a ⟨j, e, hj, h1, h2⟩
theorem EnvR.mutO (E : EnvR c own A σ ρ H) {i : Nat} {a : Addr} {d e : D} {o : HO} (hi : i ∈ own) (h1 : ρ[i]? = some (some d)) (h2 : σ[i]? = some (some (.ref a)))
    (r : OwnR c (Avd c own A σ ρ) (upd H a o) a e) : EnvR c own A σ (ρ.set i (some e)) (upd H a o) := by
  obtain ⟨a', h3, nA, nS, ro⟩ := E.ownS i d h1 hi
  rw [h2] at h3
  have := Option.some.inj (Option.some.inj h3)
  cases this
  have hl : i < ρ.length := (List.getElem?_eq_some_iff.mp h1).1
  have oa : ∀ b, OwnA own σ (ρ.set i (some e)) b ↔ OwnA own σ ρ b := fun b => by
    constructor
    · rintro ⟨j, u, hj, k1, k2⟩
      by_cases e1 : i = j
      · subst e1
        exact ⟨i, d, hj, h1, k2⟩
      · rw [List.getElem?_set_ne e1] at k1
        exact ⟨j, u, hj, k1, k2⟩
    · rintro ⟨j, u, hj, k1, k2⟩
      by_cases e1 : i = j
      · subst e1
        exact ⟨i, e, hj, List.getElem?_set_self hl, k2⟩
      · exact ⟨j, u, hj, by rw [List.getElem?_set_ne e1]; exact k1, k2⟩
  have av : Avd c own A σ (ρ.set i (some e)) = Avd c own A σ ρ := by
    funext b
    unfold Avd
    rw [propext (oa b)]
  have ha : Avd c own A σ ρ a := .inr (.inr ⟨i, d, hi, h1, h2⟩)
  have m : ∀ b u, ¬ Avd c own A σ ρ b → H b = some u → ¬ Avd c own A σ ρ b ∧ (upd H a o) b = some u := fun b u n e => ⟨n, by rw [upd_ne (fun z => n (by rw [z]; exact ha))]; exact e⟩
  refine ⟨⟨fun x l f => ?_, E.fok.apart⟩, by rw [List.length_set]; exact E.len, fun b h => ?_, fun j u k1 hj => ?_, fun j u k1 hj => ?_, fun j k b u u' hj hk k1 k2 k3 k4 => ?_⟩
  · have z1 : x ≠ a := fun z => nS (z ▸ ⟨x, l, f, .inl rfl⟩)
    have z2 : l ≠ a := fun z => nS (z ▸ ⟨x, l, f, .inr rfl⟩)
    exact (E.fok.ok x l f).same (upd_ne z1) (upd_ne z2)
  · by_cases e1 : b = a
    · subst e1; exact absurd h nA
    · unfold AvOk; rw [upd_ne e1]; exact E.avA b h
  · have hne : i ≠ j := fun z => hj (z ▸ hi)
    rw [List.getElem?_set_ne hne] at k1
    obtain ⟨v, k2, k3⟩ := E.slot j u k1 hj
    rw [av]
    exact ⟨v, k2, Rep.mv rfl (fun _ _ z => z) m _ _ k3⟩
  · by_cases e1 : i = j
    · subst e1
      rw [List.getElem?_set_self hl] at k1
      cases k1
      rw [av]
      exact ⟨a, h2, nA, nS, r⟩
    · rw [List.getElem?_set_ne e1] at k1
      obtain ⟨b, k2, k3, k4, k5⟩ := E.ownS j u k1 hj
      have hb : b ≠ a := fun z => e1 (E.dist i j a d u hi hj h1 k1 h2 (by rw [← z]; exact k2))
      rw [av]
      exact ⟨b, k2, k3, k4, k5.mv rfl (fun _ _ z => z) m fun w e => by rw [upd_ne hb]; exact e⟩
  · have back : ∀ j u, (ρ.set i (some e))[j]? = some (some u) → ∃ u', ρ[j]? = some (some u') := fun j u k1 => by
      by_cases e1 : i = j
      · subst e1; exact ⟨d, h1⟩
      · rw [List.getElem?_set_ne e1] at k1; exact ⟨u, k1⟩
    obtain ⟨w1, k1'⟩ := back j u k1
    obtain ⟨w2, k2'⟩ := back k u' k2
    exact E.dist j k b w1 w2 hj hk k1' k2' k3 k4
theorem OwnF.mutO (F : OwnF own σ ρ H0) {i : Nat} {d e : D} (h1 : ρ[i]? = some (some d)) : OwnF own σ (ρ.set i (some e)) H0 := fun a ⟨j, u, hj, k1, k2⟩ => by
  by_cases e1 : i = j
  · subst e1; exact F a ⟨i, d, hj, h1, k2⟩
  · rw [List.getElem?_set_ne e1] at k1; exact F a ⟨j, u, hj, k1, k2⟩
theorem Nxt.here {P : PEnv → Prop} {Q : L2.St → Hp → Prop} (n : Nxt K own fr c0 H0 A P Q) (hk : c.K = K) (t : Step c0 H0 c H) (E : EnvR c own A σ ρ H) (F : OwnF own σ ρ H0) (p : P ρ) : Q σ H := n c own σ ρ H hk (fun _ h => h) (fun _ => rfl) t E F p
end

section
variable {X : Cx} {own : List Nat} {fr : Bool} {ko k : Kd} {p q : TSD} {pe : TED} {pt : TTD} {pos : Pos} {e : Expr}
def sNext : TSD := fun DD ρ => DD.nx ρ
def sSeqD (p q : TSD) : TSD := fun DD ρ => p { DD with nx := q DD } ρ
theorem s_nil : PSs X [] (liftS X.K own fr ko sNext) := pss_imp pss_nil fun D σ H ⟨c0, H0, A, c, ρ, DD, hk, t, E, F, h, z⟩ => z.nx.here hk t E F h
theorem Nxt.sub {K : PySem.W.Frag} {own own' : List Nat} {fr : Bool} {c0 : Cfg} {H0 : Hp} {A : Addr → Prop} {P : PEnv → Prop} {Q : L2.St → Hp → Prop} (n : Nxt K own fr c0 H0 A P Q) (ho : ∀ i ∈ own', i ∈ own) (hf : fr = false → own' = own) : Nxt K own' fr c0 H0 A P Q :=
  fun c' o' σ' ρ' H' k' s1 s2 t' E' F' h' => n c' o' σ' ρ' H' k' (fun i hi => ho i (s1 i hi)) (fun z => (s2 z).trans (hf z)) t' E' F' h'
theorem Nxt.exact {K : PySem.W.Frag} {own : List Nat} {fr : Bool} {c0 : Cfg} {H0 : Hp} {A : Addr → Prop} {P : PEnv → Prop} {Q : L2.St → Hp → Prop} (n : Nxt K own fr c0 H0 A P Q) : Nxt K own false c0 H0 A P Q :=
  fun c' o' σ' ρ' H' k' s1 s2 t' E' F' h' => n c' o' σ' ρ' H' k' s1 (fun _ => s2 rfl) t' E' F' h'
theorem EndsOk.sub {K : PySem.W.Frag} {own own' : List Nat} {fr : Bool} {ko : Kd} {c0 : Cfg} {H0 : Hp} {A : Addr → Prop} {DD : DEnds} {Dn : Ends} (z : EndsOk K own fr ko c0 H0 A DD Dn) (ho : ∀ i ∈ own', i ∈ own) (hf : fr = false → own' = own) : EndsOk K own' fr ko c0 H0 A DD Dn := ⟨z.nx.sub ho hf, z.rt, z.bk.sub ho hf, z.ct.sub ho hf⟩
theorem s_cons {st : Stmt} {rest : List Stmt} {own' : List Nat} (h1 : PS X st (liftS X.K own false ko p)) (h2 : PSs X rest (liftS X.K own' fr ko q)) (ho : ∀ i ∈ own', i ∈ own := by decide) (hf : fr = false → own' = own := by decide) : PSs X (st :: rest) (liftS X.K own fr ko (sSeqD p q)) :=
  pss_imp (pss_cons h1 h2) fun D σ H ⟨c0, H0, A, c, ρ, DD, hk, t, E, F, h, z⟩ => ⟨c0, H0, A, c, ρ, _, hk, t, E, F, h, ⟨fun c' o' σ' ρ' H' k' s1 s2 t' E' F' h' => by
    have e := s2 rfl
    subst e
    exact ⟨c0, H0, A, c', ρ', DD, k', t', E'.freeze ho, F'.freeze ho, h', z.sub ho hf⟩, z.rt, z.bk.exact, z.ct.exact⟩⟩
theorem s_one {st : Stmt} (h : PS X st (liftS X.K own fr ko p)) : PSs X [st] (liftS X.K own fr ko p) := pss_one h
def sPass : TSD := fun DD ρ => DD.nx ρ
def sBrk : TSD := fun DD ρ => DD.bk ρ
def sCnt : TSD := fun DD ρ => DD.ct ρ
theorem s_pass : PS X (.Pass pos) (liftS X.K own fr ko sPass) := ps_imp ps_pass fun D σ H ⟨c0, H0, A, c, ρ, DD, hk, t, E, F, h, z⟩ => z.nx.here hk t E F h
theorem s_brk : PS X (.Break pos) (liftS X.K own fr ko sBrk) := ps_imp ps_break fun D σ H ⟨c0, H0, A, c, ρ, DD, hk, t, E, F, h, z⟩ => z.bk.here hk t E F h
theorem s_cnt : PS X (.Continue pos) (liftS X.K own fr ko sCnt) := ps_imp ps_continue fun D σ H ⟨c0, H0, A, c, ρ, DD, hk, t, E, F, h, z⟩ => z.ct.here hk t E F h
def sNever : TSD := fun _ _ => False
theorem s_never {st : Stmt} : PS X st (liftS X.K own fr ko sNever) := ps_imp ps_never fun D σ H ⟨_, _, _, _, _, _, _, _, _, _, h, _⟩ => h
def sRet (pe : TED) : TSD := fun DD ρ => pe ρ DD.rt
theorem resF_of {c' : Cfg} {A : Addr → Prop} {σ : L2.St} {ρ : PEnv} {H' : Hp} {v : V} {d : D} (r : Rep c' (Avd c' own A σ ρ) H' v d) : Rep c' (fun b => A b ∨ c'.S b) H' v d :=
  Rep.mv rfl (fun _ _ z => z) (fun b o n e => ⟨fun z => n (z.elim .inl fun z => .inr (.inl z)), e⟩) _ _ r
theorem s_ret (he : PE X e (lift X.K own .strong pe)) : PS X (.Return (some e) pos) (liftS X.K own fr .strong (sRet pe)) :=
  ps_imp (ps_ret he) fun D σ H ⟨c0, H0, A, c, ρ, DD, hk, t, E, F, h, z⟩ => ⟨c, A, ρ, DD.rt, hk, E, h, fun c' v H' d t' r g => z.rt c' v H' d (t'.kk.trans hk) (t.trans t') (resF_of r) g⟩
theorem s_retF (he : PE X e (lift X.K own .fresh pe)) : PS X (.Return (some e) pos) (liftS X.K own fr .fresh (sRet pe)) :=
  ps_imp (ps_ret he) fun D σ H ⟨c0, H0, A, c, ρ, DD, hk, t, E, F, h, z⟩ => ⟨c, A, ρ, DD.rt, hk, E, h, fun c' v H' d t' r g => z.rt c' v H' d (t'.kk.trans hk) (t.trans t') (by
    obtain ⟨a, e1, e2, e3, e4⟩ := r
    exact ⟨a, e1, t.fresh e2, e3, e4.mv rfl (fun _ _ z => z) (fun b o n e => ⟨fun z => n (by
      rcases z with z | z | z
      · exact .inl (.inl z)
      · exact .inl (.inr (.inl z))
      · exact .inr z), e⟩) fun _ e => e⟩) g⟩
theorem s_retO (i : Nat) {x : Str} {pn : Pos} (ho : i ∈ own := by decide) (hN : X.N[i]? = some x := by rfl) (hv : Vis X.env.scope x := by first | exact Or.inl rfl | exact Or.inr (Or.inl rfl) | exact Or.inr (Or.inr rfl)) (hd : (x == ("__debug__" : Str)) = false := by decide)
    (hcd : (x == ("__classdict__" : Str)) = false := by decide) : PS X (.Return (some (.Name x pn)) pos) (liftS X.K own fr ko (sRet (pV i))) :=
  ps_imp (ps_ret (pe_var hN hv hd hcd)) fun D σ H ⟨c0, H0, A, c, ρ, DD, hk, t, E, F, h, z⟩ => by
    have h : pV i ρ DD.rt := h
    unfold pV at h
    split at h
    · rename_i d e1
      obtain ⟨a, h2, h3, h4, h5⟩ := E.ownS i d e1 ho
      refine ⟨.ref a, h2, z.rt c _ H d hk t ?_ h⟩
      have rr : Rep c (fun b => A b ∨ c.S b) H (.ref a) d := h5.rep (fun z => z.elim h3 h4) fun b z => z.elim .inl fun z => .inr (.inl z)
      cases ko with
      | weak => exact rr
      | strong => exact rr
      | fresh => exact ⟨a, rfl, F a ⟨i, d, ho, e1, h2⟩, h4, h5.mv rfl (fun _ _ z => z) (fun b o n e => ⟨fun z => n (by
          rcases z with z | z | z
          · exact .inl z
          · exact .inr (.inl z)
          · exact .inr (.inr ⟨i, d, ho, e1, by rw [z]; exact h2⟩)), e⟩) fun _ e => e⟩
    · exact h.elim
def sRetN : TSD := fun DD _ => DD.rt .non
theorem s_retN : PS X (.Return none pos) (liftS X.K own fr .strong sRetN) := ps_imp ps_retN fun D σ H ⟨c0, H0, A, c, ρ, DD, hk, t, E, F, h, z⟩ => z.rt c .non H .non hk t .non h
def sIf (pt : TTD) (p q : TSD) : TSD := fun DD ρ => pt ρ fun b => if b = true then p DD ρ else q DD ρ
theorem s_if {a b : List Stmt} (hc : PT X e (liftT X.K own pt)) (ha : PSs X a (liftS X.K own fr ko p)) (hb : PSs X b (liftS X.K own fr ko q)) : PS X (.If e a b pos) (liftS X.K own fr ko (sIf pt p q)) :=
  ps_imp (ps_if hc ha hb) fun D σ H ⟨c0, H0, A, c, ρ, DD, hk, t, E, F, h, z⟩ => ⟨c, A, ρ, _, hk, E, h, fun c' H' b t' g => by
    cases b with
    | true => exact ⟨c0, H0, A, c', ρ, DD, t'.kk.trans hk, t.trans t', E.step t', F, g, z⟩
    | false => exact ⟨c0, H0, A, c', ρ, DD, t'.kk.trans hk, t.trans t', E.step t', F, g, z⟩⟩
def sSet (i : Nat) (pe : TED) : TSD := fun DD ρ => pe ρ fun d => DD.nx (ρ.set i (some d))
theorem lift_set (K : PySem.W.Frag) {i : Nat} (hi : i ∉ own) {te : TE} (hte : ∀ σ H Q, lift K own .strong pe σ H Q → te σ H Q) : ∀ D σ H, liftS K own fr ko (sSet i pe) D σ H → tAsg te (gName i) D σ H := fun D σ H ⟨c0, H0, A, c, ρ, DD, hk, t, E, F, h, z⟩ => hte σ H _ ⟨c, A, ρ, _, hk, E, h, fun c' v H' d t' r g => by
    have o : ∀ j, j ∈ own → (ρ.set i (some d))[j]? = ρ[j]? ∧ (σ.set i (some v))[j]? = σ[j]? := fun j hj => by
      have hne : i ≠ j := fun z => hi (z ▸ hj)
      rw [List.getElem?_set_ne hne, List.getElem?_set_ne hne]
      exact ⟨rfl, rfl⟩
    exact z.nx.here (t'.kk.trans hk) (t.trans t') ((E.step t').set hi r) (F.congr o) g⟩
theorem lift_setO (K : PySem.W.Frag) {i : Nat} (hi : i ∈ own) {te : TE} (hte : ∀ σ H Q, lift K own .fresh pe σ H Q → te σ H Q) : ∀ D σ H, liftS K own fr ko (sSet i pe) D σ H → tAsg te (gName i) D σ H := fun D σ H ⟨c0, H0, A, c, ρ, DD, hk, t, E, F, h, z⟩ => hte σ H _ ⟨c, A, ρ, _, hk, E, h, fun c' v H' d t' r g => by
    have E' := E.setO t' hi r
    obtain ⟨a, e1, e2, e3⟩ := r
    subst e1
    exact z.nx.here (t'.kk.trans hk) (t.trans t') E' (F.setO t e2) g⟩
section
variable {x : Str} {pn : Pos}
theorem s_set (i : Nat) (hN : X.N.Nodup) (he : PE X e (lift X.K own .strong pe)) (hi : X.N[i]? = some x := by rfl) (hx : Loc X.env.scope x := by first | exact .inl rfl | exact .inr rfl) (ho : i ∉ own := by decide) (hs : swapsWith e (some (.Name x pn)) pos.line X.env = pure false := by rfl) (hf : X.fn x = true ∨ X.env.scope.names.lookup x = some .local := by first | exact .inl rfl | exact .inr rfl) :
    PS X (.Assign [.Name x pn] e pos) (liftS X.K own fr ko (sSet i pe)) := ps_imp (ps_set hN hi hx he hs hf) (lift_set _ ho fun _ _ _ h => h)
theorem s_setO (i : Nat) (hN : X.N.Nodup) (he : PE X e (lift X.K own .fresh pe)) (hi : X.N[i]? = some x := by rfl) (hx : Loc X.env.scope x := by first | exact .inl rfl | exact .inr rfl) (ho : i ∈ own := by decide) (hs : swapsWith e (some (.Name x pn)) pos.line X.env = pure false := by rfl) (hf : X.fn x = true ∨ X.env.scope.names.lookup x = some .local := by first | exact .inl rfl | exact .inr rfl) :
    PS X (.Assign [.Name x pn] e pos) (liftS X.K own fr ko (sSet i pe)) := ps_imp (ps_set hN hi hx he hs hf) (lift_setO _ ho fun _ _ _ h => h)
end
def sAsg (pe : TED) (g : TGD) : TSD := fun DD ρ => pe ρ fun d => g d ρ DD.nx
theorem s_asg {tg : Expr} {is : List Nat} {g : TG} {gd : TGD} (he : PE X e (lift X.K own .strong pe)) (hg : PG X tg g) (hgd : TgOk X.K own is g gd) (hs : swapsWithSole [tg] e pos.line X.env = pure false := by rfl) (hw : swappedStores [tg] e X.env = pure none := by rfl)
    (h1 : (assignEach [tg] X.env).map (·.2) = [assign tg X.env] := by rfl) : PS X (.Assign [tg] e pos) (liftS X.K own fr ko (sAsg pe gd)) :=
  ps_imp (ps_asg he hg hs hw h1) fun D σ H ⟨c0, H0, A, c, ρ, DD, hk, t, E, F, h, z⟩ => ⟨c, A, ρ, _, hk, E, h, fun c' v H' d t' r g =>
    hgd c' A σ ρ H' v d DD.nx D.nx (t'.kk.trans hk) (E.step t') r g fun σ' ρ' E' o _ q => z.nx.here (t'.kk.trans hk) (t.trans t') E' (F.congr o) q⟩
def sDrop (pe : TED) : TSD := fun DD ρ => pe ρ fun _ => DD.nx ρ
theorem s_expr (he : PE X e (lift X.K own k pe)) (hs : swapsWith e none pos.line X.env = pure false := by rfl) : PS X (.Expr e pos) (liftS X.K own fr ko (sDrop pe)) :=
  ps_imp (ps_expr he hs) fun D σ H ⟨c0, H0, A, c, ρ, DD, hk, t, E, F, h, z⟩ => ⟨c, A, ρ, _, hk, E, h, fun c' v H' d t' r g => z.nx.here (t'.kk.trans hk) (t.trans t') (E.step t') F g⟩
end
end DL

set_option Elab.async false
set_option linter.all false
set_option maxRecDepth 100000
set_option maxHeartbeats 2000000
namespace DL
open PySem PySem.Spec PyProof.Rows L2

section
variable {c c' c0 c1 c2 : Cfg} {own own' : List Nat} {A : Addr → Prop} {σ σ2 : L2.St} {ρ ρ2 : PEnv} {H H' H0 H1 H2 : Hp} {K : PySem.W.Frag} {ko : Kd}
theorem mask_back (t : Step c0 H0 c1 H1) (F : OwnF own σ ρ H0) {b : Addr} (h : mask own σ ρ H1 b = none) : H0 b = none := by
  unfold mask at h
  split at h
  · rename_i o; exact F b o
  · exact t.fresh h
theorem loop_back (t : Step c0 H0 c1 H1) (F : OwnF own σ ρ H0) (u : Step c1 (mask own σ ρ H1) c2 H2) : Step c0 H0 c2 H2 := by
  refine ⟨u.kk.trans t.kk, fun a l f => u.sub _ _ (t.sub _ _ f), fun b h => ?_, fun b o n e => ?_, u.fok⟩
  · rcases u.new b h with h | h
    · exact t.new b h
    · exact .inr (mask_back t F h)
  · have no : ¬ OwnA own σ ρ b := fun z => by rw [F b z] at e; cases e
    exact u.keep b o (t.notS e n) (mask_of no (t.keep b o n e))
theorem ownF_back (t : Step c0 H0 c1 H1) (F : OwnF own σ ρ H0) (G : OwnF own' σ2 ρ2 (mask own σ ρ H1)) : OwnF own' σ2 ρ2 H0 := fun a h => mask_back t F (G a h)
theorem nxt_back {fr : Bool} {P : PEnv → Prop} {Q : L2.St → Hp → Prop} (t : Step c0 H0 c1 H1) (F : OwnF own σ ρ H0) (n : Nxt K own fr c0 H0 A P Q) : Nxt K own false c1 (mask own σ ρ H1) A P Q :=
  fun c' o' σ' ρ' H' k' s1 s2 t' E' F' h' => n c' o' σ' ρ' H' k' s1 (fun _ => s2 rfl) (loop_back t F t') E' (ownF_back t F F') h'
theorem rtn_back {P : D → Prop} {Q : VK} (t : Step c0 H0 c1 H1) (F : OwnF own σ ρ H0) (n : Rtn K ko c0 H0 A P Q) : Rtn K ko c1 (mask own σ ρ H1) A P Q :=
  fun c' v H' d k' t' r g => n c' v H' d k' (loop_back t F t') (by
    cases ko with
    | weak => exact r
    | strong => exact r
    | fresh =>
      obtain ⟨a, e1, e2, e3⟩ := r
      exact ⟨a, e1, mask_back t F e2, e3⟩) g
end

def forR (tg : TGD) (body : TSD) (DD : DEnds) : List D → PEnv → Prop
  | [], ρ => DD.nx ρ
  | d :: ds, ρ => tg d ρ fun ρ1 => body { DD with nx := forR tg body DD ds, ct := forR tg body DD ds, bk := DD.nx } ρ1
def sFor (src : TAD) (tg : TGD) (body : TSD) : TSD := fun DD ρ => src ρ fun ds => forR tg body DD ds ρ
theorem lift_for (K : PySem.W.Frag) {own is : List Nat} {fr : Bool} {ko : Kd} {src : TAD} {tgd : TGD} {body : TSD} {g : TG} (hg : TgOk K own is g tgd) :
    ∀ D σ H, liftS K own fr ko (sFor src tgd body) D σ H → tFor (liftI K own .strong src) g (liftS K own false ko body) D σ H := by
  intro D σ H ⟨c0, H0, A, c, ρ, DD, hk, t, E, F, h, z⟩
  refine ⟨c, A, ρ, _, hk, E, h, fun c1 J H1 ds t1 it g1 => ?_⟩
  have E1 := E.step t1
  have t01 := t.trans t1
  have k1 : c1.K = K := t1.kk.trans hk
  let M := mask own σ ρ H1
  have tM : Step c1 M c1 H1 := (Step.refl E1.fok).less fun b o e => (mask_some e).2
  have FM : OwnF own σ ρ M := fun a ha => by
    show mask own σ ρ H1 a = none
    unfold mask
    rw [if_pos ha]
  refine ⟨fun i m σ2 H2 => m = ds.length - i ∧ i ≤ ds.length ∧ ∃ c2 ρ2, Step c1 M c2 H2 ∧ EnvR c2 own A σ2 ρ2 H2 ∧ OwnF own σ2 ρ2 M ∧ forR tgd body DD (ds.drop i) ρ2, ⟨ds.length, by simp, Nat.zero_le _, c1, ρ, tM, E1, FM, g1⟩, ?_⟩
  rintro i m σ2 H2 ⟨rfl, hi, c2, ρ2, t2, E2, F2, fr2⟩
  have k2 : c2.K = K := t2.kk.trans k1
  have it2 := it c2 H2 (Avd c2 own A σ2 ρ2) t2 (fun b h => E2.al h) (fun b o n e q => by
    rcases q with q | q | q
    · exact n (.inl q)
    · rcases t2.new b q with q | q
      · exact n (.inr (.inl q))
      · have e : M b = some o := e
        rw [q] at e; cases e
    · have e : M b = some o := e
      rw [F2 b q] at e; cases e) i
  by_cases hlt : i < ds.length
  · refine .inr ?_
    have hd : ds[i]? = some ds[i] := List.getElem?_eq_getElem hlt
    obtain ⟨go, yl⟩ := it2.2 _ hd
    have hdrop : ds.drop i = ds[i] :: ds.drop (i + 1) := List.drop_eq_getElem_cons hlt
    rw [hdrop] at fr2
    refine ⟨go, fun σ' H' => ∃ c3 ρ3, Step c1 M c3 H' ∧ EnvR c3 own A σ' ρ3 H' ∧ OwnF own σ' ρ3 M ∧ forR tgd body DD (ds.drop (i + 1)) ρ3, fun σ' H' h' => ⟨ds.length - (i + 1), by omega, rfl, hlt, h'⟩, fun x H3 y => ?_⟩
    obtain ⟨same, rx⟩ := yl x H3 y
    have t3 : Step c2 H2 c2 H3 := .ofSame E2.fok same
    refine hg c2 A σ2 ρ2 H3 x ds[i] _ _ k2 (E2.step t3) rx fr2 fun σ4 ρ4 E4 o4 _ q4 => ?_
    refine ⟨c1, M, A, c2, ρ4, _, k2, t2.trans t3, E4, F2.congr o4, q4, ⟨?_, rtn_back t01 F z.rt, nxt_back t01 F z.nx, ?_⟩⟩
    · intro c' o' σ' ρ' H' k' s1 s2 t' E' F' h'
      have e := s2 rfl
      subst e
      exact ⟨c', ρ', t', E', F', h'⟩
    · intro c' o' σ' ρ' H' k' s1 s2 t' E' F' h'
      have e := s2 rfl
      subst e
      exact ⟨c', ρ', t', E', F', h'⟩
  · refine .inl ⟨it2.1 (by omega), ?_⟩
    have e : ds.drop i = [] := List.drop_eq_nil_of_le (by omega)
    rw [e] at fr2
    exact z.nx.here k2 (loop_back t01 F t2) E2 (ownF_back t01 F F2) fr2
def sWhile (pt : TTD) (body : TSD) : TSD := fun DD ρ => ∃ W : Nat → PEnv → Prop, (∃ m, W m ρ) ∧ ∀ m ρ, W m ρ → pt ρ fun b => if b = true then body { DD with nx := fun ρ' => ∃ m', m' < m ∧ W m' ρ', ct := fun ρ' => ∃ m', m' < m ∧ W m' ρ', bk := DD.nx } ρ else DD.nx ρ
theorem lift_while (K : PySem.W.Frag) {own : List Nat} {fr : Bool} {ko : Kd} {pt : TTD} {body : TSD} :
    ∀ D σ H, liftS K own fr ko (sWhile pt body) D σ H → tWhile (liftT K own pt) (liftS K own false ko body) D σ H := by
  intro D σ H ⟨c0, H0, A, c, ρ, DD, hk, t, E, F, ⟨W, ⟨m0, w0⟩, turn⟩, z⟩
  refine ⟨fun m σ2 H2 => ∃ c2 ρ2, c2.K = K ∧ Step c0 H0 c2 H2 ∧ EnvR c2 own A σ2 ρ2 H2 ∧ OwnF own σ2 ρ2 H0 ∧ W m ρ2, ⟨m0, c, ρ, hk, t, E, F, w0⟩, ?_⟩
  rintro m σ2 H2 ⟨c2, ρ2, k2, t2, E2, F2, w2⟩
  refine ⟨c2, A, ρ2, _, k2, E2, turn m ρ2 w2, fun c3 H3 b t3 g => ?_⟩
  cases b with
  | false => exact z.nx.here (t3.kk.trans k2) (t2.trans t3) (E2.step t3) F2 g
  | true =>
    refine ⟨fun σ' H' => ∃ m', m' < m ∧ ∃ c2 ρ2, c2.K = K ∧ Step c0 H0 c2 H' ∧ EnvR c2 own A σ' ρ2 H' ∧ OwnF own σ' ρ2 H0 ∧ W m' ρ2, fun σ' H' h => h, c0, H0, A, c3, ρ2, _, t3.kk.trans k2, t2.trans t3, E2.step t3, F2, g, ⟨?_, z.rt, z.nx.exact, ?_⟩⟩
    · intro c' o' σ' ρ' H' k' s1 s2 t' E' F' ⟨m', hm, w'⟩
      have e := s2 rfl
      subst e
      exact ⟨m', hm, c', ρ', k', t', E', F', w'⟩
    · intro c' o' σ' ρ' H' k' s1 s2 t' E' F' ⟨m', hm, w'⟩
      have e := s2 rfl
      subst e
      exact ⟨m', hm, c', ρ', k', t', E', F', w'⟩

section
variable {X : Cx} {own : List Nat} {fr : Bool} {ko k : Kd} {p q : TSD} {pe pk : TED} {pt : TTD} {pos : Pos} {e : Expr}
theorem s_for {tg iter : Expr} {body : List Stmt} {is : List Nat} {src : TAD} {g : TG} {tgd : TGD} (hp : PassesOwn (model X.prog X.w) X.A X.env X.xe) (hc : X.calm = true) (hi : PI X tg iter (liftI X.K own .strong src)) (hg : PG X tg g) (hgd : TgOk X.K own is g tgd) (hb : PSs X body (liftS X.K own false ko p))
    (hs : ∀ x, foldedSetIterable iter X.env x = pure x := by intro _; rfl) : PS X (.For tg iter body [] pos) (liftS X.K own fr ko (sFor src tgd p)) := ps_imp (ps_for hp hc hi hg hb hs) (lift_for _ hgd)
theorem s_while {body : List Stmt} (hp : PassesOwn (model X.prog X.w) X.A X.env X.xe) (hc : PT X e (liftT X.K own pt)) (hb : PSs X body (liftS X.K own false ko p)) : PS X (.While e body [] pos) (liftS X.K own fr ko (sWhile pt p)) := ps_imp (ps_while hp hc hb) (lift_while _)
theorem lift_less {p : TED} (K : PySem.W.Frag) : ∀ σ H Q, lift K own .strong p σ H Q → lift K own .fresh p σ H Q := fun σ H Q ⟨c, A, ρ, R, hk, E, hp, f⟩ => ⟨c, A, ρ, R, hk, E, hp, fun c' v H' d t r => f c' v H' d t (Fr.strong t E r)⟩
theorem s_setLc (i : Nat) {y : Str} {py : Pos} {elt tg iter : Expr} {ifs : List Expr} {scope : Scope} {ow : List (Str × Nat)} {spos : Pos} {is : List Nat} {src : TAD} {g : TG} {tgd : TGD} {tt : TTD} {te : TED} (hc : X.calm = true) (hN : X.N.Nodup) (hi : PI X tg iter (liftI X.K own .weak src)) (ok : BlkOk X.N X.env.scope scope ow)
    (hg : ∀ (s : Shared) (H : Hp) (C : Addr) (cl : List (Str × Addr)) (fp : List Addr), PG (X.blk s H scope (compEnvC scope cl C X.env) fp) tg g) (hgd : TgOk X.K own is g tgd) (ht : ∀ (s : Shared) (H : Hp) (C : Addr) (cl : List (Str × Addr)) (fp : List Addr), PTs (X.blk s H scope (compEnvC scope cl C X.env) fp) ifs (liftT X.K own tt))
    (he : ∀ (s : Shared) (H : Hp) (C : Addr) (cl : List (Str × Addr)) (fp : List Addr), PE (X.blk s H scope (compEnvC scope cl C X.env) fp) elt (lift X.K own .strong te)) (hy : X.N[i]? = some y := by rfl) (hyl : X.env.scope.names.lookup y = some .local := by rfl)
    (hsw : swapsWith (.ListComp elt [⟨tg, iter, ifs, 0⟩] scope pos) (some (.Name y py)) spos.line X.env = pure true := by exact sw_true rfl rfl rfl (by decide +kernel)) (hv : ∀ i ∈ is, i ∈ ow.map (·.2) := by decide) (ho : ∀ i ∈ ow.map (·.2), i ∉ own := by decide) (hno : i ∉ own := by decide) {vs : List Nat} (hvs : ow.map (·.2) = vs := by rfl) (hs : ∀ x, foldedSetIterable iter X.env x = pure x := by intro _; rfl) :
    PS X (.Assign [.Name y py] (.ListComp elt [⟨tg, iter, ifs, 0⟩] scope pos) spos) (liftS X.K own fr ko (sSet i (pComp src tgd tt te vs))) :=
  hvs ▸ ps_imp (ps_setLc hc hN hy hyl hsw hi ok hg ht he hs) (lift_set _ hno fun σ H Q h => lift_comp _ hgd hv ho σ H Q (lift_less _ σ H Q h))
theorem s_setLcO (i : Nat) {y : Str} {py : Pos} {elt tg iter : Expr} {ifs : List Expr} {scope : Scope} {ow : List (Str × Nat)} {spos : Pos} {is : List Nat} {src : TAD} {g : TG} {tgd : TGD} {tt : TTD} {te : TED} (hc : X.calm = true) (hN : X.N.Nodup) (hi : PI X tg iter (liftI X.K own .weak src)) (ok : BlkOk X.N X.env.scope scope ow)
    (hg : ∀ (s : Shared) (H : Hp) (C : Addr) (cl : List (Str × Addr)) (fp : List Addr), PG (X.blk s H scope (compEnvC scope cl C X.env) fp) tg g) (hgd : TgOk X.K own is g tgd) (ht : ∀ (s : Shared) (H : Hp) (C : Addr) (cl : List (Str × Addr)) (fp : List Addr), PTs (X.blk s H scope (compEnvC scope cl C X.env) fp) ifs (liftT X.K own tt))
    (he : ∀ (s : Shared) (H : Hp) (C : Addr) (cl : List (Str × Addr)) (fp : List Addr), PE (X.blk s H scope (compEnvC scope cl C X.env) fp) elt (lift X.K own .strong te)) (hy : X.N[i]? = some y := by rfl) (hyl : X.env.scope.names.lookup y = some .local := by rfl)
    (hsw : swapsWith (.ListComp elt [⟨tg, iter, ifs, 0⟩] scope pos) (some (.Name y py)) spos.line X.env = pure true := by exact sw_true rfl rfl rfl (by decide +kernel)) (hv : ∀ i ∈ is, i ∈ ow.map (·.2) := by decide) (ho : ∀ i ∈ ow.map (·.2), i ∉ own := by decide) (hno : i ∈ own := by decide) {vs : List Nat} (hvs : ow.map (·.2) = vs := by rfl) (hs : ∀ x, foldedSetIterable iter X.env x = pure x := by intro _; rfl) :
    PS X (.Assign [.Name y py] (.ListComp elt [⟨tg, iter, ifs, 0⟩] scope pos) spos) (liftS X.K own fr ko (sSet i (pComp src tgd tt te vs))) :=
  hvs ▸ ps_imp (ps_setLc hc hN hy hyl hsw hi ok hg ht he hs) (lift_setO _ hno fun σ H Q h => lift_comp _ hgd hv ho σ H Q h)

def ownL (ρ : PEnv) (i : Nat) (f : List D → Prop) : Prop := match ρ[i]? with | some (some (.lst ds)) => f ds | _ => False
theorem ownL_iff {ρ : PEnv} {i : Nat} {f : List D → Prop} (h : ownL ρ i f) : ∃ ds, ρ[i]? = some (some (.lst ds)) ∧ f ds := by
  unfold ownL at h
  split at h
  · rename_i ds e; exact ⟨ds, e, h⟩
  · exact h.elim
def sApp (i : Nat) (pe : TED) : TSD := fun DD ρ => ownL ρ i fun ds => pe ρ fun d => ds.length < sizeLine ∧ DD.nx (ρ.set i (some (.lst (ds ++ [d]))))
theorem ownL_at {c : Cfg} {A : Addr → Prop} {σ : L2.St} {ρ : PEnv} {H : Hp} {i : Nat} {ds : List D} (E : EnvR c own A σ ρ H) (hi : i ∈ own) (e : ρ[i]? = some (some (.lst ds))) : ∃ a vs, σ[i]? = some (some (.ref a)) ∧ ¬ c.S a ∧ vs.length ≤ sizeLine ∧ H a = some (.lst vs) ∧ RepL c (Avd c own A σ ρ) H vs ds := by
  obtain ⟨a, h1, h2, h3, h4⟩ := E.ownS i _ e hi
  cases h4 with
  | lst z h r => exact ⟨a, _, h1, h3, z, h, r⟩
theorem lst_mut {K : PySem.W.Frag} {c c0 : Cfg} {A : Addr → Prop} {σ : L2.St} {ρ : PEnv} {H H0 : Hp} {i : Nat} {a : Addr} {ds es : List D} {ws : List V} {P : PEnv → Prop} {Q : L2.St → Hp → Prop} (n : Nxt K own fr c0 H0 A P Q) (hk : c.K = K) (t : Step c0 H0 c H) (E : EnvR c own A σ ρ H) (F : OwnF own σ ρ H0)
    (hi : i ∈ own) (e : ρ[i]? = some (some (.lst ds))) (ha : σ[i]? = some (some (.ref a))) (hs : ¬ c.S a) (hz : ws.length ≤ sizeLine) (r : RepL c (Avd c own A σ ρ) H ws es) (p : P (ρ.set i (some (.lst es)))) : Q σ (upd H a (.lst ws)) := by
  have own_a : OwnA own σ ρ a := ⟨i, _, hi, e, ha⟩
  have m : ∀ b u, ¬ Avd c own A σ ρ b → H b = some u → ¬ Avd c own A σ ρ b ∧ (upd H a (.lst ws)) b = some u := fun b u n e => ⟨n, by rw [upd_ne (fun z => n (by rw [z]; exact .inr (.inr own_a)))]; exact e⟩
  exact n.here hk (t.upd (F a own_a) hs) (E.mutO hi e ha (.lst hz upd_same (RepL.mv rfl (fun _ _ z => z) m _ _ r))) (F.mutO e) p
theorem lift_app (K : PySem.W.Frag) {i : Nat} (hi : i ∈ own) : ∀ D σ H, liftS K own fr ko (sApp i pe) D σ H → tDrop (tBM K "list" rAppend (tVar i) (tCons (lift K own .strong pe) tNil)) D σ H := by
  intro D σ H ⟨c0, H0, A, c, ρ, DD, hk, t, E, F, h, z⟩
  obtain ⟨ds, e, h⟩ := ownL_iff h
  obtain ⟨a, vs, h1, h2, h3, h4, h5⟩ := ownL_at E hi e
  refine ⟨.ref a, h1, .inl ⟨rfl, _, SqL.of h4⟩, c, A, ρ, _, hk, E, h, fun c1 v H1 d t1 r1 g1 => ?_⟩
  have E1 := E.step t1
  obtain ⟨hz, g1⟩ := g1
  have h4' : H1 a = some (.lst vs) := t1.keep a _ h2 h4
  have r5 := RepL.step E t1 h5
  have hl : vs.length < sizeLine := by rw [h5.len]; exact hz
  refine ⟨a, vs, v, rfl, rfl, h4', hl, ?_⟩
  exact lst_mut z.nx (t1.kk.trans hk) (t.trans t1) E1 F hi e h1 (t1.notS h4 h2) (by rw [List.length_append]; exact hl) (r5.append (.cons r1 .nil)) g1
theorem s_app (i : Nat) {st : Stmt} (h : PS X st (tDrop (tBM X.K "list" rAppend (tVar i) (tCons (lift X.K own .strong pe) tNil)))) (hi : i ∈ own := by decide) : PS X st (liftS X.K own fr ko (sApp i pe)) := ps_imp h (lift_app _ hi)
def sItem (i : Nat) (pk pe : TED) : TSD := fun DD ρ => ownL ρ i fun ds => pe ρ fun d => pk ρ fun k => dInt k fun k => ∃ j, ixN ds.length k = some j ∧ DD.nx (ρ.set i (some (.lst (ds.set j d))))
theorem lift_item (K : PySem.W.Frag) {i : Nat} (hi : i ∈ own) : ∀ D σ H, liftS K own fr ko (sItem i pk pe) D σ H → tAsg (lift K own .strong pe) (gSub (tVar i) (lift K own .weak pk) rSetL) D σ H := by
  intro D σ H ⟨c0, H0, A, c, ρ, DD, hk, t, E, F, h, z⟩
  obtain ⟨ds, e, h⟩ := ownL_iff h
  obtain ⟨a, vs, h1, h2, h3, h4, h5⟩ := ownL_at E hi e
  refine ⟨c, A, ρ, _, hk, E, h, fun c1 v H1 d t1 r1 g1 => ⟨.ref a, h1, c1, A, ρ, _, t1.kk.trans hk, E.step t1, g1, fun c2 w H2 d2 t2 r2 g2 => ?_⟩⟩
  have E1 := E.step t1
  have E2 := E1.step t2
  have t12 := t1.trans t2
  obtain ⟨j, ej, k, hj, g3⟩ := dInt_iff g2
  rw [ej] at r2
  have e2 := RepW.int r2
  subst e2
  have h4' : H2 a = some (.lst vs) := t12.keep a _ h2 h4
  have r5 := RepL.step E t12 h5
  have rv : Rep c2 (Avd c2 own A σ ρ) H2 v d := Rep.step E1 t2 r1
  refine ⟨a, vs, j, k, rfl, rfl, h4', by rw [h5.len]; exact hj, ?_⟩
  exact lst_mut z.nx (t12.kk.trans hk) (t.trans t12) E2 F hi e h1 (t12.notS h4 h2) (by rw [List.length_set]; exact h3) (RepL.set rv k r5) g3
theorem s_item (i : Nat) {st : Stmt} (h : PS X st (tAsg (lift X.K own .strong pe) (gSub (tVar i) (lift X.K own .weak pk) rSetL))) (hi : i ∈ own := by decide) : PS X st (liftS X.K own fr ko (sItem i pk pe)) := ps_imp h (lift_item _ hi)
end

def startD (m : Nat) (ds : List D) : PEnv := ds.map some ++ List.replicate (m - ds.length) none
def fnW (ko : Kd) (m : Nat) (p : TSD) : List D → (D → Prop) → Prop := fun ds R => p ⟨fun _ => (match ko with | .fresh => False | _ => R .non), R, fun _ => False, fun _ => False⟩ (startD m ds)
theorem start_env {c : Cfg} {own : List Nat} {A : Addr → Prop} {N : List Str} {vs : List V} {ds : List D} {H : Hp} (fo : FeedsOk c H) (hA : ∀ a, A a → AvOk H a) (r : RepL c (fun a => A a ∨ c.S a) H vs ds) (ho : ∀ i ∈ own, vs.length ≤ i) (hN : vs.length ≤ N.length) : EnvR c own A (L2.start N vs) (startD N.length ds) H ∧ ∀ a, ¬ OwnA own (L2.start N vs) (startD N.length ds) a := by
  have hl := r.len
  have none_at : ∀ i d, i ∈ own → (startD N.length ds)[i]? ≠ some (some d) := fun i d hi z => by
    unfold startD at z
    rw [List.getElem?_append_right (by rw [List.length_map, ← hl]; exact ho i hi)] at z
    by_cases h : i - (ds.map some).length < N.length - ds.length
    · rw [List.getElem?_replicate, if_pos h] at z; cases z
    · rw [List.getElem?_replicate, if_neg h] at z; cases z
  have no : ∀ a, ¬ OwnA own (L2.start N vs) (startD N.length ds) a := fun a ⟨i, d, hi, h1, _⟩ => none_at i d hi h1
  refine ⟨⟨fo, by simp [L2.start, startD, hl], hA, fun i d h hi => ?_, fun i d h hi => (none_at i d hi h).elim, fun i j a d e hi hj h1 => (none_at i d hi h1).elim⟩, no⟩
  have hil : i < ds.length := by
    by_cases q : i < ds.length
    · exact q
    · unfold startD at h
      rw [List.getElem?_append_right (by rw [List.length_map]; omega)] at h
      by_cases h' : i - (ds.map some).length < N.length - ds.length
      · rw [List.getElem?_replicate, if_pos h'] at h; cases h
      · rw [List.getElem?_replicate, if_neg h'] at h; cases h
  unfold startD at h
  rw [List.getElem?_append_left (by rw [List.length_map]; exact hil), List.getElem?_map] at h
  cases q : ds[i]? with
  | none => rw [q] at h; cases h
  | some d' =>
    rw [q] at h
    have := Option.some.inj (Option.some.inj h)
    subst this
    obtain ⟨v, h1, h2⟩ := r.get q
    refine ⟨v, ?_, Rep.mv rfl (fun _ _ z => z) (fun b o n e => ⟨fun z => n (by
      rcases z with z | z | z
      · exact .inl z
      · exact .inr z
      · exact (no b z).elim), e⟩) _ _ h2⟩
    unfold L2.start
    rw [List.getElem?_append_left (by rw [List.length_map, hl]; exact hil), List.getElem?_map, h1]
    rfl
theorem fn_d {P : Program} {w : World} {K : PySem.W.Frag} {mg : Str → Option Value} {base : Heap} {x qual : Str} {st : Stmt} {f : Addr} {fd : FuncData} {N ps : List Str} {k n : Nat} {own : List Nat} {fr : Bool} {ko : Kd} {p : TSD} (F : Fun K x qual st f fd) (S : FnScope N ps (defScope st)) (hn : ps.length = n) (ho : ∀ i ∈ own, n ≤ i) (hN : n ≤ N.length)
    (hbody : ∀ (cdv : Value) (A : Around) (outer : List Env) (s : Shared) (H : Hp) (E : XK), Room k (A.deeper (envOfC qual (defScope st) s.heap.objs.size f cdv)) →
      PSs (cxOf CX0 P w K mg base N qual (defScope st) f cdv A outer s H E).nox (defBody st) (liftS K own fr ko p)) : FnOk P w K mg base CX0 (k + 1) f fd ps (spD K n ko (fnW ko N.length p)) := by
  refine F.ok S (fun vs H Q E h => h.1.trans hn.symm) fun cdv A outer s H vs Q E hr h => ⟨_, hbody cdv A outer s H E hr, ?_⟩
  obtain ⟨hl, c, A', ds, R, hk, fo, hA, r, hw, q⟩ := h
  obtain ⟨E0, no⟩ := start_env (own := own) (N := N) fo hA r (fun i hi => by rw [hl]; exact ho i hi) (by rw [hl]; exact hN)
  refine ⟨c, H, A', c, _, _, hk, Step.refl fo, E0, fun a h => (no a h).elim, hw, ⟨?_, fun c' v H' d k' t' r' g => q c' v H' d t' r' g, fun _ _ _ _ _ _ _ _ _ _ _ h => h.elim, fun _ _ _ _ _ _ _ _ _ _ _ h => h.elim⟩⟩
  intro c' o' σ' ρ' H' k' s1 s2 t' E' F' h'
  cases ko with
  | fresh => exact h'.elim
  | weak => exact q c' .non H' .non t' .non h'
  | strong => exact q c' .non H' .non t' .non h'
theorem fn_imp {P : Program} {w : World} {K : PySem.W.Frag} {mg : Str → Option Value} {base : Heap} {k n : Nat} {f : Addr} {fd : FuncData} {ps : List Str} {ko : Kd} {g g' : List D → (D → Prop) → Prop} (F : FnOk P w K mg base CX0 k f fd ps (spD K n ko g)) (h : ∀ ds R, g' ds R → g ds R) : FnOk P w K mg base CX0 k f fd ps (spD K n ko g') :=
  F.imp fun vs H Q E ⟨hl, c, A, ds, R, hk, fo, hA, r, hw, q⟩ => ⟨hl, c, A, ds, R, hk, fo, hA, r, h ds R hw, q⟩
end DL

set_option Elab.async false
set_option linter.all false
set_option maxRecDepth 100000
set_option maxHeartbeats 2000000
namespace DL
open PySem PySem.Spec PyProof.Rows L2

def dAdd (x y : D) (R : D → Prop) : Prop := match x, y with
  | .int i, .int j => R (.int (i + j))
  | .str s, .str t => s.length + t.length ≤ sizeLine ∧ R (.str (s ++ t))
  | .lst a, .lst b => a.length + b.length ≤ sizeLine ∧ R (.lst (a ++ b))
  | .tup a, .tup b => a.length + b.length ≤ sizeLine ∧ R (.tup (a ++ b))
  | _, _ => False
def rAddA (K : PySem.W.Frag) : R2 := fun x y H Q => (rI0 (fun i j => .int (i + j)) x y H Q ∨ (∃ i j, x = .str i ∧ y = .str j ∧ i.length + j.length ≤ sizeLine ∧ Q (.str (i ++ j)) H)) ∨ (rCat x y H Q ∨ rCatA K x y H Q)
theorem o_add {X : Cx} : OpR X (binaryOp .Add) (rAddA X.K) := (op_add.or op_add_str).or (op_cat.or op_catA)
theorem RepL.nil_of {c : Cfg} {Av : Addr → Prop} {H : Hp} {ds : List D} (r : RepL c Av H [] ds) : ds = [] := by cases r; rfl
theorem NodT.rep {c : Cfg} {Av : Addr → Prop} {H : Hp} {a : Addr} {vs : List V} {ds : List D} (n : NodT c Av H a vs) (r : RepL c Av H vs ds) : Rep c Av H (.ref a) (.tup ds) := .tup n r
theorem C2.weaken {K : PySem.W.Frag} {r : R2} {r' : D → D → (D → Prop) → Prop} (h : C2 K r .fresh r') : C2 K r .strong r' := fun c own A σ ρ H v w d e R Q hk E r1 r2 g q => h c own A σ ρ H v w d e R Q hk E r1 r2 g fun c' v' H' d' t r => q c' v' H' d' t (Fr.strong t E r)
theorem C1.weaken {K : PySem.W.Frag} {r : V → Hp → VK → Prop} {r' : D → (D → Prop) → Prop} (h : C1 K r .fresh r') : C1 K r .strong r' := fun c own A σ ρ H v d R Q hk E r1 g q => h c own A σ ρ H v d R Q hk E r1 g fun c' v' H' d' t r => q c' v' H' d' t (Fr.strong t E r)
theorem CL.weaken {K : PySem.W.Frag} {r : List V → Hp → VK → Prop} {r' : List D → (D → Prop) → Prop} (h : CL K r .fresh r') : CL K r .strong r' := fun c own A σ ρ H vs ds R Q hk E r1 g q => h c own A σ ρ H vs ds R Q hk E r1 g fun c' v' H' d' t r => q c' v' H' d' t (Fr.strong t E r)
def dCat (x y : D) (R : D → Prop) : Prop := match x, y with
  | .lst a, .lst b => a.length + b.length ≤ sizeLine ∧ R (.lst (a ++ b))
  | _, _ => False
theorem c_cat {K : PySem.W.Frag} : C2 K rCat .fresh dCat := fun c own A σ ρ H v w d e R Q hk E r1 r2 g q => by
  unfold dCat at g
  split at g
  · obtain ⟨a, vs, rfl, z1, h1, rl1⟩ := RepW.lst r1
    obtain ⟨b, ws, rfl, z2, h2, rl2⟩ := RepW.lst r2
    have hz : vs.length + ws.length ≤ sizeLine := by rw [rl1.len, rl2.len]; exact g.1
    exact ⟨a, b, vs, ws, rfl, rfl, h1, h2, hz, fun p hp => q c (.ref p) _ _ (.one E.fok hp) (Fr.newL E hp (by rw [List.length_append]; exact hz) (rl1.append rl2)) g.2⟩
  · exact g.elim
theorem c_add {K : PySem.W.Frag} : C2 K (rAddA K) .strong dAdd := fun c own A σ ρ H v w d e R Q hk E r1 r2 g q => by
  unfold dAdd at g
  split at g
  · have e1 := RepW.int r1
    have e2 := RepW.int r2
    subst e1; subst e2
    exact .inl (.inl ⟨_, _, rfl, rfl, q c _ H _ (Step.refl E.fok) (.int _) g⟩)
  · have e1 := RepW.str r1
    have e2 := RepW.str r2
    subst e1; subst e2
    exact .inl (.inr ⟨_, _, rfl, rfl, g.1, q c _ H _ (Step.refl E.fok) (.str _) g.2⟩)
  · exact .inr (.inl (c_cat.weaken c own A σ ρ H v w _ _ R Q hk E r1 r2 g q))
  · obtain ⟨a, vs, rfl, n1, rl1⟩ := RepW.tup r1
    obtain ⟨b, ws, rfl, n2, rl2⟩ := RepW.tup r2
    have hz : vs.length + ws.length ≤ sizeLine := by rw [rl1.len, rl2.len]; exact g.1
    have s1 := n1.sq
    have s2 := n2.sq
    rw [hk] at s1 s2
    refine .inr (.inr ⟨a, b, vs, ws, rfl, rfl, s1, s2, hz, fun e0 => ?_, fun n0 e0 => ?_, fun n0 n3 p hp => ?_⟩)
    · subst e0
      have := rl1.nil_of
      subst this
      exact q c _ H _ (Step.refl E.fok) (n2.rep rl2) g.2
    · subst e0
      have := rl2.nil_of
      subst this
      have g2 := g.2
      rw [List.append_nil] at g2
      exact q c _ H _ (Step.refl E.fok) (n1.rep rl1) g2
    · exact q c (.ref p) _ _ (.one E.fok hp) (Rep.newT E hp (by rw [List.length_append]; exact hz) (rl1.append rl2)) g.2
  · exact g.elim

def dI2 (f : Int → Int → (D → Prop) → Prop) (x y : D) (R : D → Prop) : Prop := match x, y with | .int i, .int j => f i j R | _, _ => False
theorem dI2_iff {f : Int → Int → (D → Prop) → Prop} {x y : D} {R : D → Prop} (h : dI2 f x y R) : ∃ i j, x = .int i ∧ y = .int j ∧ f i j R := by
  unfold dI2 at h
  split at h
  · exact ⟨_, _, rfl, rfl, h⟩
  · exact h.elim
theorem c_I {K : PySem.W.Frag} {C : Int → Int → Prop} {g : Int → Int → V} {f : Int → Int → (D → Prop) → Prop} (h : ∀ i j R, f i j R → C i j ∧ ∃ d, R d ∧ ∀ c Av H, Rep c Av H (g i j) d) : C2 K (rI C g) .strong (dI2 f) := fun c own A σ ρ H v w d e R Q hk E r1 r2 gg q => by
  obtain ⟨i, j, rfl, rfl, gg⟩ := dI2_iff gg
  have e1 := RepW.int r1
  have e2 := RepW.int r2
  subst e1; subst e2
  obtain ⟨hc, d, hr, rp⟩ := h i j R gg
  exact ⟨i, j, rfl, rfl, hc, q c _ H _ (Step.refl E.fok) (rp _ _ _) hr⟩
theorem c_I0 {K : PySem.W.Frag} {g : Int → Int → V} {f : Int → Int → (D → Prop) → Prop} (h : ∀ i j R, f i j R → ∃ d, R d ∧ ∀ c Av H, Rep c Av H (g i j) d) : C2 K (rI0 g) .strong (dI2 f) := fun c own A σ ρ H v w d e R Q hk E r1 r2 gg q => by
  obtain ⟨i, j, rfl, rfl, gg⟩ := dI2_iff gg
  have e1 := RepW.int r1
  have e2 := RepW.int r2
  subst e1; subst e2
  obtain ⟨d, hr, rp⟩ := h i j R gg
  exact ⟨i, j, rfl, rfl, q c _ H _ (Step.refl E.fok) (rp _ _ _) hr⟩
def dSub : D → D → (D → Prop) → Prop := dI2 fun i j R => R (.int (i - j))
theorem c_sub {K : PySem.W.Frag} : C2 K (rI0 fun i j => .int (i - j)) .strong dSub := c_I0 fun i j R h => ⟨_, h, fun _ _ _ => .int _⟩
def mulOk (i j : Int) : Prop := i.natAbs.log2 + j.natAbs.log2 < 1000000
def dMulI : D → D → (D → Prop) → Prop := dI2 fun i j R => mulOk i j ∧ R (.int (i * j))
theorem c_mulI {K : PySem.W.Frag} : C2 K (rI CMulW fun i j => .int (i * j)) .strong dMulI := c_I fun i j R h => ⟨h.1, _, h.2, fun _ _ _ => .int _⟩
def dRep (x y : D) (R : D → Prop) : Prop := match x, y with
  | .lst a, .int k => (-(2 ^ 63) ≤ k ∧ k < 2 ^ 63 ∧ a.length * k.toNat ≤ sizeLine) ∧ R (.lst (List.replicate k.toNat a).flatten)
  | _, _ => False
theorem RepL.flat {c : Cfg} {Av : Addr → Prop} {H : Hp} {vs : List V} {ds : List D} (r : RepL c Av H vs ds) : ∀ n, RepL c Av H (List.replicate n vs).flatten (List.replicate n ds).flatten
  | 0 => .nil
  | n + 1 => by
    rw [List.replicate_succ, List.replicate_succ, List.flatten_cons, List.flatten_cons]
    exact r.append (r.flat n)
theorem flat_len {α : Type} (a : List α) : ∀ n, (List.replicate n a).flatten.length = a.length * n
  | 0 => by simp
  | n + 1 => by
    rw [List.replicate_succ, List.flatten_cons, List.length_append, flat_len a n, Nat.mul_succ, Nat.add_comm]
theorem c_rep {K : PySem.W.Frag} : C2 K rRep .fresh dRep := fun c own A σ ρ H v w d e R Q hk E r1 r2 g q => by
  unfold dRep at g
  split at g
  · obtain ⟨a, vs, rfl, z1, h1, rl1⟩ := RepW.lst r1
    have e2 := RepW.int r2
    subst e2
    obtain ⟨⟨g1, g2, g3⟩, g4⟩ := g
    refine ⟨a, _, vs, rfl, rfl, h1, g1, g2, by rw [rl1.len]; exact g3, fun p hp => q c (.ref p) _ _ (.one E.fok hp) (Fr.newL E hp ?_ (rl1.flat _)) g4⟩
    rw [flat_len, rl1.len]
    exact g3
  · exact g.elim
theorem tuple_mul_same (l : Addr) (items : Array Value) (n : Nat) (sl : Array (Option Value)) (dd : Option Addr) (x : Int) (u : Tok) (c0 : (decide (x < -(2 ^ 63)) || decide (x ≥ 2 ^ 63)) = false) (c1 : (items.isEmpty || x == 1) = true) :
    Meets (Builtin.«tuple.__mul__» ⟨[.ref l, .int x u], []⟩) (fun _ R s => s.heap.get? l = some { cls := .type "tuple", dict := dd, data := .seq items n, slots := sl } ∧ R (.ok (.ret (Value.ref l))) s) :=
  .of_wp fun prog w A R s h => by
    obtain ⟨hp, g, d, tk, os⟩ := s
    obtain ⟨hl, h⟩ := h
    have f1 := AutoSeq1.idx_int
    wp_walk using wpAny_loadPart' hl
    repeat (first
      | (refine wpAny_ite_false (decide_eq_false (by rw [c0]; exact Bool.false_ne_true)) ?_; wp_walk using wpAny_loadPart' hl)
      | (refine wpAny_ite_true (decide_eq_true c1) ?_; wp_walk using wpAny_loadPart' hl))
    exact ⟨_, rfl, h⟩
theorem tuple_mul_none (l : Addr) (items : Array Value) (n : Nat) (sl : Array (Option Value)) (dd : Option Addr) (x : Int) (u : Tok) (c0 : (decide (x < -(2 ^ 63)) || decide (x ≥ 2 ^ 63)) = false) (c1 : (items.isEmpty || x == 1) = false) (c2 : (decide (x ≤ 0) || items.isEmpty) = true) :
    Meets (Builtin.«tuple.__mul__» ⟨[.ref l, .int x u], []⟩) (fun _ R s => s.heap.get? l = some { cls := .type "tuple", dict := dd, data := .seq items n, slots := sl } ∧
      R (.ok (.ret (Value.ref s.heap.objs.size))) { s with heap := s.heap.push { cls := Value.type "tuple", data := Data.seq #[] }, toks := s.toks }) :=
  .of_wp fun prog w A R s h => by
    obtain ⟨hp, g, d, tk, os⟩ := s
    obtain ⟨hl, h⟩ := h
    have f1 := AutoSeq1.idx_int
    wp_walk using wpAny_loadPart' hl
    repeat (first
      | (refine wpAny_ite_false (decide_eq_false (by rw [c0]; exact Bool.false_ne_true)) ?_; wp_walk using wpAny_loadPart' hl)
      | (refine wpAny_ite_false (decide_eq_false (by rw [c1]; exact Bool.false_ne_true)) ?_; wp_walk using wpAny_loadPart' hl)
      | (refine wpAny_ite_true (decide_eq_true c2) ?_; wp_walk using wpAny_loadPart' hl))
    exact ⟨_, rfl, h⟩
def rRepB (K : PySem.W.Frag) : R2 := fun x y H Q => ∃ l k xs, x = .ref l ∧ y = .int k ∧ SqT K H l xs ∧ -(2 ^ 63) ≤ k ∧ k < 2 ^ 63 ∧ xs.length * k.toNat ≤ 1000000 ∧
  (xs = [] ∨ k = 1 → Q (.ref l) H) ∧ (xs ≠ [] → k ≠ 1 → ∀ p, H p = none → Q (.ref p) (upd H p (.tup (List.replicate k.toNat xs).flatten)))
theorem op_repB {X : Cx} : OpR X (binaryOp .Mult) (rRepB X.K) := by
  intro pins s σ H x y v u Q I rx ry h
  obtain ⟨l, k, xs, rfl, rfl, hT, h1, h2, hz, q1, q2⟩ := h
  cases rx
  obtain ⟨t, rfl⟩ := ry
  obtain ⟨its, r, ⟨⟨cls, dd, data, sl⟩, ho, hc, n, hd⟩, hs⟩ := I.tuple hT
  simp only at hc hd
  subst hc hd
  have hle : its.length = xs.length := r.length.symm
  have hsz0 : its.toArray.size = xs.length := by rw [List.size_toArray, hle]
  have c0 : (decide (k < -(2 ^ 63)) || decide (k ≥ 2 ^ 63)) = false := by
    rw [decide_eq_false (by omega), decide_eq_false (by omega)] <;> rfl
  have emp : its.toArray.isEmpty = decide (xs = []) := by
    cases its with
    | nil =>
      have : xs = [] := List.eq_nil_of_length_eq_zero hle.symm
      rw [this]; rfl
    | cons a b =>
      have : xs ≠ [] := fun e => by rw [e] at hle; simp at hle
      rw [decide_eq_false this]; rfl
  by_cases hw : xs = [] ∨ k = 1
  · have c1 : (its.toArray.isEmpty || k == 1) = true := by
      rw [emp, Bool.or_eq_true, decide_eq_true_iff, beq_iff_eq]
      exact hw
    refine wpAny_binaryOp_repeat_ref (T := "tuple") (U := "int") (by decide) ⟨_, ho, rfl⟩ (fun s' => typeIs_int s' k t) noFill_tuple_mul F.fills_int_mul F.slot_int_rmul repeat_tuple F.slot_int_index.lookup
      (call_meets F.slot_int_rmul (typeIs_int s k t) F.entry_int_rmul (F.args_int_rmul_2 _ _) (int_rmul_tuple k t l its.toArray n dd sl)
        ⟨ho, rfl, ⟨_, ho, rfl⟩, call_meets F.slot_tuple_mul ⟨_, ho, rfl⟩ F.entry_tuple_mul (F.args_tuple_mul_2 _ _) (tuple_mul_same l its.toArray n sl dd k t c0 c1) ⟨ho, ?_⟩⟩)
    exact ⟨.ref l, H, I, rfl, q1 hw⟩
  · have hx : xs ≠ [] := fun e => hw (.inl e)
    have hk : k ≠ 1 := fun e => hw (.inr e)
    have c1 : (its.toArray.isEmpty || k == 1) = false := by
      rw [emp, decide_eq_false hx, Bool.false_or]
      exact beq_eq_false_iff_ne.mpr hk
    by_cases h0 : k ≤ 0
    · have c2 : (decide (k ≤ 0) || its.toArray.isEmpty) = true := by rw [decide_eq_true h0]; rfl
      refine wpAny_binaryOp_repeat_ref (T := "tuple") (U := "int") (by decide) ⟨_, ho, rfl⟩ (fun s' => typeIs_int s' k t) noFill_tuple_mul F.fills_int_mul F.slot_int_rmul repeat_tuple F.slot_int_index.lookup
        (call_meets F.slot_int_rmul (typeIs_int s k t) F.entry_int_rmul (F.args_int_rmul_2 _ _) (int_rmul_tuple k t l its.toArray n dd sl)
          ⟨ho, rfl, ⟨_, ho, rfl⟩, call_meets F.slot_tuple_mul ⟨_, ho, rfl⟩ F.entry_tuple_mul (F.args_tuple_mul_2 _ _) (tuple_mul_none l its.toArray n sl dd k t c0 c1 c2) ⟨ho, ?_⟩⟩)
      have e0 : (List.replicate k.toNat xs).flatten = [] := by rw [show k.toNat = 0 by omega]; rfl
      refine ⟨.ref s.heap.objs.size, _, I.laid (t' := s.toks) (o := .tup (List.replicate k.toNat xs).flatten) (fun b ob q => Heap.get?_push_of_some _ q) (Nat.le_refl _) ?_, rfl, q2 hx hk _ (I.hok.fresh (Nat.le_refl _))⟩
      rw [e0]
      exact ⟨Nat.zero_le _, [], .nil, IsTup.new _ _⟩
    · have c2 : (decide (k ≤ 0) || its.toArray.isEmpty) = false := by
        rw [emp, decide_eq_false hx, Bool.or_false]
        exact decide_eq_false h0
      have hm : ((its.toArray.size : Nat) : Int) * k ≤ 1000000 := by
        rw [hsz0]
        have : ((xs.length * k.toNat : Nat) : Int) ≤ 1000000 := by omega
        rwa [Int.natCast_mul, Int.toNat_of_nonneg (by omega)] at this
      have flen : (List.replicate k.toNat its).flatten.length ≤ sizeLine := by
        rw [PyProof.Rows.lm_len_rep_flat, hle, sizeLine_eq, Nat.mul_comm]
        omega
      have c4 : Builtin.Tuple.tupleTooMany (((its.toArray.size : Nat) : Int) * k) = false := by
        unfold Builtin.Tuple.tupleTooMany
        rw [sizeLine_eq]
        exact decide_eq_false (by omega)
      refine wpAny_binaryOp_repeat_ref (T := "tuple") (U := "int") (by decide) ⟨_, ho, rfl⟩ (fun s' => typeIs_int s' k t) noFill_tuple_mul F.fills_int_mul F.slot_int_rmul repeat_tuple F.slot_int_index.lookup
        (call_meets F.slot_int_rmul (typeIs_int s k t) F.entry_int_rmul (F.args_int_rmul_2 _ _) (int_rmul_tuple k t l its.toArray n dd sl)
          ⟨ho, rfl, ⟨_, ho, rfl⟩, call_meets F.slot_tuple_mul ⟨_, ho, rfl⟩ F.entry_tuple_mul (F.args_tuple_mul_2 _ _) (tuple_mulW l its.toArray n dd sl k t c0 c1 c2 (by omega) c4 (by rw [size_rep, List.size_toArray]; exact flen)) ⟨ho, ?_⟩⟩)
      rw [size_rep]
      refine ⟨.ref s.heap.objs.size, _, I.laid (t' := s.toks) (o := .tup (List.replicate k.toNat xs).flatten) (fun b ob q => Heap.get?_push_of_some _ q) (Nat.le_refl _) ?_, rfl, q2 hx hk _ (I.hok.fresh (Nat.le_refl _))⟩
      exact ⟨by rw [PyProof.Rows.lm_len_rep_flat, sizeLine_eq, Nat.mul_comm]; omega, _, r.rep k.toNat, IsTup.new _ _⟩
def dMul (x y : D) (R : D → Prop) : Prop := match x, y with
  | .int i, .int j => mulOk i j ∧ R (.int (i * j))
  | .lst a, .int k => (-(2 ^ 63) ≤ k ∧ k < 2 ^ 63 ∧ a.length * k.toNat ≤ sizeLine) ∧ R (.lst (List.replicate k.toNat a).flatten)
  | .tup a, .int k => (-(2 ^ 63) ≤ k ∧ k < 2 ^ 63 ∧ a.length * k.toNat ≤ 1000000) ∧ R (.tup (List.replicate k.toNat a).flatten)
  | _, _ => False
def rMulA (K : PySem.W.Frag) : R2 := fun x y H Q => (rI CMulW (fun i j => .int (i * j)) x y H Q ∨ rRep x y H Q) ∨ rRepB K x y H Q
theorem o_mul {X : Cx} : OpR X (binaryOp .Mult) (rMulA X.K) := (op_mulW.or op_rep).or op_repB
theorem c_mul {K : PySem.W.Frag} : C2 K (rMulA K) .strong dMul := fun c own A σ ρ H v w d e R Q hk E r1 r2 g q => by
  unfold dMul at g
  split at g
  · exact .inl (.inl (c_mulI c own A σ ρ H v w _ _ R Q hk E r1 r2 g q))
  · exact .inl (.inr (c_rep.weaken c own A σ ρ H v w _ _ R Q hk E r1 r2 g q))
  · obtain ⟨a, vs, rfl, n1, rl1⟩ := RepW.tup r1
    have e2 := RepW.int r2
    subst e2
    obtain ⟨⟨g1, g2, g3⟩, g4⟩ := g
    have s1 := n1.sq
    rw [hk] at s1
    refine .inr ⟨a, _, vs, rfl, rfl, s1, g1, g2, by rw [rl1.len]; exact g3, fun hw => ?_, fun n0 n3 p hp => ?_⟩
    · refine q c _ H _ (Step.refl E.fok) ?_ g4
      rcases hw with e | e
      · subst e
        have := rl1.nil_of
        subst this
        rw [show (List.replicate (Int.toNat _) ([] : List D)).flatten = [] by simp]
        exact n1.rep rl1
      · subst e
        have e1 : ∀ l : List D, (List.replicate (Int.toNat 1) l).flatten = l := fun l => by
          show (List.replicate 1 l).flatten = l
          simp
        rw [e1]
        exact n1.rep rl1
    · exact q c (.ref p) _ _ (.one E.fok hp) (Rep.newT E hp (by rw [flat_len, rl1.len, sizeLine_eq]; omega) (rl1.flat _)) g4
  · exact g.elim
def CDivA (_ j : Int) : Prop := j ≠ 0 ∧ j.natAbs.log2 < 9000
theorem o_fdiv {X : Cx} : OpR X (binaryOp .FloorDiv) (rI CDivA fun i j => .int (i.fdiv j)) := opI fun i j _ _ _ _ _ hc q => floordiv_int hc.1 q (.inl (PyProof.noPylong_of_log2 hc.2))
def dDiv : D → D → (D → Prop) → Prop := dI2 fun i j R => (j ≠ 0 ∧ j.natAbs.log2 < 9000) ∧ R (.int (i.fdiv j))
theorem c_div {K : PySem.W.Frag} : C2 K (rI CDivA fun i j => .int (i.fdiv j)) .strong dDiv := c_I fun i j R h => ⟨h.1, _, h.2, fun _ _ _ => .int _⟩
def dMod : D → D → (D → Prop) → Prop := dI2 fun i j R => j ≠ 0 ∧ R (.int (i.fmod j))
theorem c_mod {K : PySem.W.Frag} : C2 K (rI (fun _ j => j ≠ 0) fun i j => .int (i.fmod j)) .strong dMod := c_I fun i j R h => ⟨h.1, _, h.2, fun _ _ _ => .int _⟩
def dPow : D → D → (D → Prop) → Prop := dI2 fun i j R => (0 ≤ j ∧ j ≤ 1000000 ∧ i.natAbs < 2 ^ 64) ∧ R (.int (i ^ j.toNat))
theorem c_pow {K : PySem.W.Frag} : C2 K (rI CPow fun i j => .int (i ^ j.toNat)) .strong dPow := c_I fun i j R h => ⟨h.1, _, h.2, fun _ _ _ => .int _⟩
def dNeg (x : D) (R : D → Prop) : Prop := dInt x fun i => R (.int (-i))
theorem c_neg {K : PySem.W.Frag} : C1 K (rU fun i => .int (-i)) .strong dNeg := fun c own A σ ρ H v d R Q hk E r1 g q => by
  obtain ⟨i, rfl, g⟩ := dInt_iff g
  have e1 := RepW.int r1
  subst e1
  exact ⟨i, rfl, q c _ H _ (Step.refl E.fok) (.int _) g⟩

def eqD : D → D → Bool
  | .non, .non => true
  | .bl a, .bl b => a == b
  | .bl a, .int j => (if a then 1 else 0) == j
  | .int i, .bl b => i == (if b then 1 else 0)
  | .int i, .int j => i == j
  | .str x, .str y => x == y
  | .lst xs, .lst ys => eqDs xs ys
  | .tup xs, .tup ys => eqDs xs ys
  | _, _ => false
where eqDs : List D → List D → Bool
  | [], [] => true
  | x :: xs, y :: ys => eqD x y && eqDs xs ys
  | _, _ => false
def okD : Nat → D → Bool
  | _, .non => true
  | _, .bl _ => true
  | _, .int _ => true
  | _, .str x => PyData.canLay0 (.str x)
  | n, .tup ds => match n with | 0 => false | n + 1 => okDs n ds
  | n, .lst ds => match n with | 0 => false | n + 1 => okDs n ds
  | _, _ => false
where okDs : Nat → List D → Bool
  | _, [] => true
  | n, d :: ds => okD n d && okDs n ds
def toPy : D → PyData
  | .non => .none
  | .bl b => .bool b
  | .int i => .int i
  | .str x => .str x
  | .tup ds => .tuple (toPys ds)
  | .lst ds => .list (toPys ds)
  | _ => .none
where toPys : List D → List PyData
  | [] => []
  | d :: ds => toPy d :: toPys ds
mutual
theorem okD_lay : ∀ (d : D) (n : Nat), okD n d = true → (toPy d).canLay0 = true ∧ (toPy d).depth ≤ n
  | .non, n, h => by simp [toPy, PyData.canLay0, PyData.depth]
  | .bl _, n, h => by simp [toPy, PyData.canLay0, PyData.depth]
  | .int _, n, h => by simp [toPy, PyData.canLay0, PyData.depth]
  | .str x, n, h => by
    refine ⟨by simpa [toPy, okD] using h, ?_⟩
    simp [toPy, PyData.depth]
  | .ty _, n, h => by simp [okD] at h
  | .ref _, n, h => by simp [okD] at h
  | .deal, n, h => by simp [okD] at h
  | .feed, n, h => by simp [okD] at h
  | .scr _, n, h => by simp [okD] at h
  | .dT _ _, n, h => by simp [okD] at h
  | .dK _ _, n, h => by simp [okD] at h
  | .tup ds, n, h => by
    match n, h with
    | 0, h => simp [okD] at h
    | n + 1, h =>
      obtain ⟨h1, h2⟩ := okDs_lay ds n (by simpa [okD] using h)
      refine ⟨by simpa [toPy, PyData.canLay0] using h1, ?_⟩
      simp only [toPy, PyData.depth]
      omega
  | .lst ds, n, h => by
    match n, h with
    | 0, h => simp [okD] at h
    | n + 1, h =>
      obtain ⟨h1, h2⟩ := okDs_lay ds n (by simpa [okD] using h)
      refine ⟨by simpa [toPy, PyData.canLay0] using h1, ?_⟩
      simp only [toPy, PyData.depth]
      omega
theorem okDs_lay : ∀ (ds : List D) (n : Nat), okD.okDs n ds = true → PyData.canLayAll0 (toPy.toPys ds) = true ∧ PyData.depthAll (toPy.toPys ds) ≤ n
  | [], n, h => by simp [toPy.toPys, PyData.canLayAll0, PyData.depthAll]
  | d :: ds, n, h => by
    simp only [okD.okDs, Bool.and_eq_true] at h
    obtain ⟨h1, h2⟩ := okD_lay d n h.1
    obtain ⟨h3, h4⟩ := okDs_lay ds n h.2
    simp only [toPy.toPys, PyData.canLayAll0, PyData.depthAll, Bool.and_eq_true]
    exact ⟨⟨h1, h3⟩, by omega⟩
end
theorem okD_shaped {d : D} (h : okD 60 d = true) : SeqAt.shaped (toPy d) = true := by
  obtain ⟨h1, h2⟩ := okD_lay d 60 h
  show ((toPy d).canLay0 && decide ((toPy d).depth ≤ 64)) = true
  rw [Bool.and_eq_true]
  exact ⟨h1, decide_eq_true (by omega)⟩
mutual
theorem eqv_eqD : ∀ (x y : D) (n m : Nat), okD n x = true → okD m y = true → PyData.eqv (toPy x) (toPy y) = eqD x y
  | .non, y, n, m, h1, h2 => by cases y <;> simp [okD] at h2 <;> simp [toPy, PyData.eqv, eqD]
  | .bl _, y, n, m, h1, h2 => by cases y <;> simp [okD] at h2 <;> simp [toPy, PyData.eqv, eqD]
  | .int _, y, n, m, h1, h2 => by cases y <;> simp [okD] at h2 <;> simp [toPy, PyData.eqv, eqD]
  | .str x, y, n, m, h1, h2 => by cases y <;> simp [okD] at h2 <;> simp [toPy, PyData.eqv, eqD]
  | .ty _, _, n, m, h, _ => by simp [okD] at h
  | .ref _, _, n, m, h, _ => by simp [okD] at h
  | .deal, _, n, m, h, _ => by simp [okD] at h
  | .feed, _, n, m, h, _ => by simp [okD] at h
  | .scr _, _, n, m, h, _ => by simp [okD] at h
  | .dT _ _, _, n, m, h, _ => by simp [okD] at h
  | .dK _ _, _, n, m, h, _ => by simp [okD] at h
  | .tup ds, y, n, m, h1, h2 => by
    match n, h1 with
    | 0, h1 => simp [okD] at h1
    | n + 1, h1 =>
      cases y with
      | tup es =>
        match m, h2 with
        | 0, h2 => simp [okD] at h2
        | m + 1, h2 => simp only [toPy, PyData.eqv, eqD]; exact eqvs_eqDs ds es n m (by simpa [okD] using h1) (by simpa [okD] using h2)
      | _ => first | (simp [okD] at h2; done) | simp [toPy, PyData.eqv, eqD]
  | .lst ds, y, n, m, h1, h2 => by
    match n, h1 with
    | 0, h1 => simp [okD] at h1
    | n + 1, h1 =>
      cases y with
      | lst es =>
        match m, h2 with
        | 0, h2 => simp [okD] at h2
        | m + 1, h2 => simp only [toPy, PyData.eqv, eqD]; exact eqvs_eqDs ds es n m (by simpa [okD] using h1) (by simpa [okD] using h2)
      | _ => first | (simp [okD] at h2; done) | simp [toPy, PyData.eqv, eqD]
theorem eqvs_eqDs : ∀ (xs ys : List D) (n m : Nat), okD.okDs n xs = true → okD.okDs m ys = true → PyData.eqvAll (toPy.toPys xs) (toPy.toPys ys) = eqD.eqDs xs ys
  | [], ys, n, m, h1, h2 => by cases ys <;> simp [toPy.toPys, PyData.eqvAll, eqD.eqDs]
  | x :: xs, ys, n, m, h1, h2 => by
    cases ys with
    | nil => simp [toPy.toPys, PyData.eqvAll, eqD.eqDs]
    | cons y ys =>
      simp only [okD.okDs, Bool.and_eq_true] at h1 h2
      simp only [toPy.toPys, PyData.eqvAll, eqD.eqDs]
      rw [eqv_eqD x y n m h1.1 h2.1, eqvs_eqDs xs ys n m h1.2 h2.2]
end
end DL

set_option Elab.async false
set_option linter.all false
set_option maxRecDepth 100000
set_option maxHeartbeats 2000000
namespace DL
open PySem PySem.Spec PyProof.Rows L2

section
variable {c : Cfg} {Av : Addr → Prop} {H : Hp}
mutual
theorem Rep.dp : ∀ (d : D) (n : Nat) (v : V), okD n d = true → Rep c Av H v d → Dp c.K H v (toPy d)
  | .non, n, _, _, h => by cases h; simp only [toPy]; exact .non
  | .bl b, n, _, _, h => by cases h; simp only [toPy]; exact .bl b
  | .int i, n, _, _, h => by cases h; simp only [toPy]; exact .int i
  | .str x, n, _, _, h => by cases h; simp only [toPy]; exact .str x
  | .ty _, n, _, o, _ => by simp [okD] at o
  | .ref _, n, _, o, _ => by simp [okD] at o
  | .deal, n, _, o, _ => by simp [okD] at o
  | .feed, n, _, o, _ => by simp [okD] at o
  | .scr _, n, _, o, _ => by simp [okD] at o
  | .dT _ _, n, _, o, _ => by simp [okD] at o
  | .dK _ _, n, _, o, _ => by simp [okD] at o
  | .tup ds, n, _, o, h => by
    match n, o with
    | 0, o => simp [okD] at o
    | n + 1, o =>
      cases h with
      | tup nd r =>
        simp only [toPy]
        exact .tup nd.sq (RepL.dp ds n _ (by simpa [okD] using o) r)
  | .lst ds, n, _, o, h => by
    match n, o with
    | 0, o => simp [okD] at o
    | n + 1, o =>
      cases h with
      | lst nd r =>
        simp only [toPy]
        exact .lst nd.sq (RepL.dp ds n _ (by simpa [okD] using o) r)
theorem RepL.dp : ∀ (ds : List D) (n : Nat) (vs : List V), okD.okDs n ds = true → RepL c Av H vs ds → DpAll c.K H vs (toPy.toPys ds)
  | [], n, _, _, h => by cases h; simp only [toPy.toPys]; exact .nil
  | d :: ds, n, _, o, h => by
    simp only [okD.okDs, Bool.and_eq_true] at o
    cases h with
    | cons r s =>
      simp only [toPy.toPys]
      exact .cons (Rep.dp d n _ o.1 r) (RepL.dp ds n _ o.2 s)
end
end
theorem RepW.dp {c : Cfg} {own : List Nat} {A : Addr → Prop} {σ : L2.St} {ρ : PEnv} {H : Hp} {v : V} {d : D} {n : Nat} (o : okD n d = true) (r : RepW c own A σ ρ H v d) : Dp c.K H v (toPy d) := Rep.dp d n v o r.seen

def dEq (x y : D) (R : D → Prop) : Prop := (okD 60 x = true ∧ okD 60 y = true) ∧ R (.bl (eqD x y))
def dNe (x y : D) (R : D → Prop) : Prop := (okD 60 x = true ∧ okD 60 y = true) ∧ R (.bl (!eqD x y))
theorem c_eq {K : PySem.W.Frag} : C2 K (rEqD K) .strong dEq := fun c own A σ ρ H v w d e R Q hk E r1 r2 g q => by
  obtain ⟨⟨o1, o2⟩, g⟩ := g
  have d1 := r1.dp o1
  have d2 := r2.dp o2
  rw [hk] at d1 d2
  refine ⟨_, _, d1, d2, okD_shaped o1, okD_shaped o2, ?_⟩
  rw [eqv_eqD d e 60 60 o1 o2]
  exact q c _ H _ (Step.refl E.fok) (.bl _) g
theorem c_ne {K : PySem.W.Frag} : C2 K (rNeD K) .strong dNe := fun c own A σ ρ H v w d e R Q hk E r1 r2 g q => by
  obtain ⟨⟨o1, o2⟩, g⟩ := g
  have d1 := r1.dp o1
  have d2 := r2.dp o2
  rw [hk] at d1 d2
  refine ⟨_, _, d1, d2, okD_shaped o1, okD_shaped o2, ?_⟩
  rw [eqv_eqD d e 60 60 o1 o2]
  exact q c _ H _ (Step.refl E.fok) (.bl _) g

def dLtI : D → D → (D → Prop) → Prop := dI2 fun i j R => R (.bl (decide (i < j)))
def dLeI : D → D → (D → Prop) → Prop := dI2 fun i j R => R (.bl (decide (i ≤ j)))
def dGtI : D → D → (D → Prop) → Prop := dI2 fun i j R => R (.bl (decide (j < i)))
def dGeI : D → D → (D → Prop) → Prop := dI2 fun i j R => R (.bl (decide (j ≤ i)))
theorem c_ltI {K : PySem.W.Frag} : C2 K (rI0 fun i j => .bl (decide (i < j))) .strong dLtI := c_I0 fun i j R h => ⟨_, h, fun _ _ _ => .bl _⟩
theorem c_leI {K : PySem.W.Frag} : C2 K (rI0 fun i j => .bl (decide (i ≤ j))) .strong dLeI := c_I0 fun i j R h => ⟨_, h, fun _ _ _ => .bl _⟩
theorem c_gtI {K : PySem.W.Frag} : C2 K (rI0 fun i j => .bl (decide (j < i))) .strong dGtI := c_I0 fun i j R h => ⟨_, h, fun _ _ _ => .bl _⟩
theorem c_geI {K : PySem.W.Frag} : C2 K (rI0 fun i j => .bl (decide (j ≤ i))) .strong dGeI := c_I0 fun i j R h => ⟨_, h, fun _ _ _ => .bl _⟩

def D.isN : D → Bool | .non => true | _ => false
theorem RepW.isN {c : Cfg} {own : List Nat} {A : Addr → Prop} {σ : L2.St} {ρ : PEnv} {H : Hp} {v : V} {d : D} (r : RepW c own A σ ρ H v d) : decide (v = .non) = d.isN := by
  rcases r with r | ⟨a, e, o, n1, n2, r⟩
  · cases r <;> simp [D.isN]
  · subst e; cases r <;> simp [D.isN]
def dIsN (x y : D) (R : D → Prop) : Prop := match y with | .non => R (.bl x.isN) | _ => False
def dNotN (x y : D) (R : D → Prop) : Prop := match y with | .non => R (.bl (!x.isN)) | _ => False
theorem c_isN {K : PySem.W.Frag} : C2 K (fun x y H Q => y = .non ∧ Q (.bl (decide (x = .non))) H) .strong dIsN := fun c own A σ ρ H v w d e R Q hk E r1 r2 g q => by
  cases e with
  | non =>
    have e2 := RepW.non r2
    subst e2
    rw [r1.isN]
    exact ⟨rfl, q c _ H _ (Step.refl E.fok) (.bl _) g⟩
  | _ => exact g.elim
theorem c_notN {K : PySem.W.Frag} : C2 K (fun x y H Q => y = .non ∧ Q (.bl (!decide (x = .non))) H) .strong dNotN := fun c own A σ ρ H v w d e R Q hk E r1 r2 g q => by
  cases e with
  | non =>
    have e2 := RepW.non r2
    subst e2
    rw [r1.isN]
    exact ⟨rfl, q c _ H _ (Step.refl E.fok) (.bl _) g⟩
  | _ => exact g.elim

def dIx (x y : D) (R : D → Prop) : Prop := match x, y with
  | .tup ds, .int i => ∃ d, atI ds i = some d ∧ R d
  | .lst ds, .int i => ∃ d, atI ds i = some d ∧ R d
  | .str z, .int i => z.length ≤ sizeLine ∧ ∃ c, atI z.cps.toList i = some c ∧ R (.str ⟨#[c]⟩)
  | _, _ => False
theorem RepL.atI {c : Cfg} {Av : Addr → Prop} {H : Hp} {vs : List V} {ds : List D} {i : Int} {d : D} (r : RepL c Av H vs ds) (h : L2.atI ds i = some d) : ∃ v, L2.atI vs i = some v ∧ Rep c Av H v d := by
  unfold L2.atI at *
  rw [r.len]
  cases e : ixN ds.length i with
  | none => rw [e] at h; cases h
  | some j =>
    rw [e] at h
    exact r.get h
theorem c_ix {K : PySem.W.Frag} : C2 K (rIx K) .strong dIx := fun c own A σ ρ H v w d e R Q hk E r1 r2 g q => by
  unfold dIx at g
  split at g
  · obtain ⟨d, h, g⟩ := g
    obtain ⟨a, vs, rfl, n1, rl1⟩ := RepW.tup r1
    have e2 := RepW.int r2
    subst e2
    have s1 := n1.sq
    rw [hk] at s1
    obtain ⟨u, h1, h2⟩ := rl1.atI h
    exact .inr (.inl ⟨a, vs, _, u, rfl, rfl, s1, h1, q c _ H _ (Step.refl E.fok) h2 g⟩)
  · obtain ⟨d, h, g⟩ := g
    obtain ⟨a, vs, rfl, z1, n1, rl1⟩ := RepW.lst r1
    have e2 := RepW.int r2
    subst e2
    obtain ⟨u, h1, h2⟩ := rl1.atI h
    exact .inl ⟨a, vs, _, u, rfl, rfl, .inl (.inl n1), h1, q c _ H _ (Step.refl E.fok) h2 g⟩
  · obtain ⟨hz, u, h, g⟩ := g
    have e1 := RepW.str r1
    have e2 := RepW.int r2
    subst e1; subst e2
    exact .inr (.inr ⟨_, _, u, rfl, rfl, hz, h, q c _ H _ (Step.refl E.fok) (.str _) g⟩)
  · exact g.elim

def dOne (xs : List D) (f : D → Prop) : Prop := match xs with | [x] => f x | _ => False
def dTwo (xs : List D) (f : D → D → Prop) : Prop := match xs with | [x, y] => f x y | _ => False
theorem dOne_iff {xs : List D} {f : D → Prop} (h : dOne xs f) : ∃ x, xs = [x] ∧ f x := by
  unfold dOne at h
  split at h
  · exact ⟨_, rfl, h⟩
  · exact h.elim
theorem dTwo_iff {xs : List D} {f : D → D → Prop} (h : dTwo xs f) : ∃ x y, xs = [x, y] ∧ f x y := by
  unfold dTwo at h
  split at h
  · exact ⟨_, _, rfl, h⟩
  · exact h.elim
theorem paired1 {F : V → D → Prop} {vs : List V} {d : D} (h : Paired F vs [d]) : ∃ v, vs = [v] ∧ F v d := by
  cases h with
  | cons a t => cases t; exact ⟨_, rfl, a⟩
theorem paired2 {F : V → D → Prop} {vs : List V} {d e : D} (h : Paired F vs [d, e]) : ∃ v w, vs = [v, w] ∧ F v d ∧ F w e := by
  cases h with
  | cons a t =>
    cases t with
    | cons b t => cases t; exact ⟨_, _, rfl, a, b⟩
def dLen (xs : List D) (R : D → Prop) : Prop := dOne xs fun x => match x with
  | .lst ds => R (.int ds.length)
  | .tup ds => R (.int ds.length)
  | .scr ns => R (.int ns.length)
  | .str z => z.length ≤ sizeLine ∧ R (.int z.length)
  | _ => False
def rLenA (K : PySem.W.Frag) : List V → Hp → VK → Prop := fun xs H Q => (∃ p ys, xs = [.ref p] ∧ (SqL K H p ys ∨ SqT K H p ys) ∧ Q (.int ys.length) H) ∨ (∃ z, xs = [.str z] ∧ z.length ≤ sizeLine ∧ Q (.int z.length) H)
theorem b_len {X : Cx} : CallR X (.builtin "len") (rLenA X.K) := call_len_seq.or call_len_str
theorem c_len {K : PySem.W.Frag} : CL K (rLenA K) .strong dLen := fun c own A σ ρ H vs ds R Q hk E r1 g q => by
  obtain ⟨x, rfl, g⟩ := dOne_iff g
  obtain ⟨v, rfl, r⟩ := paired1 r1
  cases x with
  | lst es =>
    obtain ⟨a, us, rfl, z1, n1, rl1⟩ := RepW.lst r
    refine .inl ⟨a, us, rfl, .inl (.inl (.inl n1)), ?_⟩
    rw [rl1.len]
    exact q c _ H _ (Step.refl E.fok) (.int _) g
  | tup es =>
    obtain ⟨a, us, rfl, n1, rl1⟩ := RepW.tup r
    have s1 := n1.sq
    rw [hk] at s1
    refine .inl ⟨a, us, rfl, .inr s1, ?_⟩
    rw [rl1.len]
    exact q c _ H _ (Step.refl E.fok) (.int _) g
  | scr ns =>
    obtain ⟨a, rfl, _, s⟩ := RepW.scr r
    rw [hk] at s
    refine .inl ⟨a, _, rfl, .inl s, ?_⟩
    rw [List.length_map]
    exact q c _ H _ (Step.refl E.fok) (.int _) g
  | str z =>
    have e := RepW.str r
    subst e
    exact .inr ⟨z, rfl, g.1, q c _ H _ (Step.refl E.fok) (.int _) g.2⟩
  | _ => exact g.elim
def dBls (x : D) (f : List Bool → Prop) : Prop := match x with | .lst ds => ∃ bs : List Bool, ds = bs.map D.bl ∧ f bs | _ => False
def dAll (xs : List D) (R : D → Prop) : Prop := dOne xs fun x => dBls x fun bs => R (.bl (bs.all id))
def dAny (xs : List D) (R : D → Prop) : Prop := dOne xs fun x => dBls x fun bs => R (.bl (bs.any id))
theorem RepL.bls {c : Cfg} {Av : Addr → Prop} {H : Hp} : ∀ {vs : List V} {bs : List Bool}, RepL c Av H vs (bs.map D.bl) → vs = bs.map V.bl
  | _, [], h => by cases h; rfl
  | _, b :: bs, h => by
    cases h with
    | cons r t =>
      cases r
      rw [t.bls]
      rfl
theorem c_all {K : PySem.W.Frag} : CL K (rAll K) .strong dAll := fun c own A σ ρ H vs ds R Q hk E r1 g q => by
  obtain ⟨x, rfl, g⟩ := dOne_iff g
  obtain ⟨v, rfl, r⟩ := paired1 r1
  have g1 : dBls x (fun bs => R (.bl (bs.all id))) := g
  unfold dBls at g1
  split at g1
  · obtain ⟨bs, e0, g2⟩ := g1
    subst e0
    obtain ⟨a, us, rfl, z1, n1, rl1⟩ := RepW.lst r
    have e := rl1.bls
    subst e
    exact ⟨a, bs, rfl, .inl (.inl n1), q c _ H _ (Step.refl E.fok) (.bl _) g2⟩
  · exact g1.elim
theorem c_any {K : PySem.W.Frag} : CL K (rAny K) .strong dAny := fun c own A σ ρ H vs ds R Q hk E r1 g q => by
  obtain ⟨x, rfl, g⟩ := dOne_iff g
  obtain ⟨v, rfl, r⟩ := paired1 r1
  have g1 : dBls x (fun bs => R (.bl (bs.any id))) := g
  unfold dBls at g1
  split at g1
  · obtain ⟨bs, e0, g2⟩ := g1
    subst e0
    obtain ⟨a, us, rfl, z1, n1, rl1⟩ := RepW.lst r
    have e := rl1.bls
    subst e
    exact ⟨a, bs, rfl, .inl (.inl n1), q c _ H _ (Step.refl E.fok) (.bl _) g2⟩
  · exact g1.elim
def dAbs (xs : List D) (R : D → Prop) : Prop := dOne xs fun x => dInt x fun i => R (.int (if i < 0 then -i else i))
theorem c_abs {K : PySem.W.Frag} : CL K (fun xs H Q => ∃ i, xs = [.int i] ∧ Q (.int (if i < 0 then -i else i)) H) .strong dAbs := fun c own A σ ρ H vs ds R Q hk E r1 g q => by
  obtain ⟨x, rfl, g⟩ := dOne_iff g
  obtain ⟨v, rfl, r⟩ := paired1 r1
  obtain ⟨i, rfl, g⟩ := dInt_iff g
  have e := RepW.int r
  subst e
  exact ⟨i, rfl, q c _ H _ (Step.refl E.fok) (.int _) g⟩
def dMax2 (xs : List D) (R : D → Prop) : Prop := dTwo xs fun x y => dInt x fun i => dInt y fun j => R (.int (if j > i then j else i))
def dMin2 (xs : List D) (R : D → Prop) : Prop := dTwo xs fun x y => dInt x fun i => dInt y fun j => R (.int (if j < i then j else i))
theorem c_max2 {K : PySem.W.Frag} : CL K (fun xs H Q => ∃ i j, xs = [.int i, .int j] ∧ Q (.int (if j > i then j else i)) H) .strong dMax2 := fun c own A σ ρ H vs ds R Q hk E r1 g q => by
  obtain ⟨x, y, rfl, g⟩ := dTwo_iff g
  obtain ⟨v, w, rfl, r, s⟩ := paired2 r1
  obtain ⟨i, rfl, g⟩ := dInt_iff g
  obtain ⟨j, rfl, g⟩ := dInt_iff g
  have e := RepW.int r
  have e2 := RepW.int s
  subst e; subst e2
  exact ⟨i, j, rfl, q c _ H _ (Step.refl E.fok) (.int _) g⟩
theorem c_min2 {K : PySem.W.Frag} : CL K (fun xs H Q => ∃ i j, xs = [.int i, .int j] ∧ Q (.int (if j < i then j else i)) H) .strong dMin2 := fun c own A σ ρ H vs ds R Q hk E r1 g q => by
  obtain ⟨x, y, rfl, g⟩ := dTwo_iff g
  obtain ⟨v, w, rfl, r, s⟩ := paired2 r1
  obtain ⟨i, rfl, g⟩ := dInt_iff g
  obtain ⟨j, rfl, g⟩ := dInt_iff g
  have e := RepW.int r
  have e2 := RepW.int s
  subst e; subst e2
  exact ⟨i, j, rfl, q c _ H _ (Step.refl E.fok) (.int _) g⟩
def dToI (xs : List D) (R : D → Prop) : Prop := dOne xs fun x => match x with
  | .int i => R (.int i)
  | .bl b => R (.int (if b then 1 else 0))
  | _ => False
theorem c_toI {K : PySem.W.Frag} : CL K (fun xs H Q => (∃ i, xs = [.int i] ∧ Q (.int i) H) ∨ ∃ k, xs = [.bl k] ∧ Q (.int (if k then 1 else 0)) H) .strong dToI := fun c own A σ ρ H vs ds R Q hk E r1 g q => by
  obtain ⟨x, rfl, g⟩ := dOne_iff g
  obtain ⟨v, rfl, r⟩ := paired1 r1
  cases x with
  | int i =>
    have e := RepW.int r
    subst e
    exact .inl ⟨i, rfl, q c _ H _ (Step.refl E.fok) (.int _) g⟩
  | bl b =>
    have e := RepW.bl r
    subst e
    exact .inr ⟨b, rfl, q c _ H _ (Step.refl E.fok) (.int _) g⟩
  | _ => exact g.elim
def dTuple (xs : List D) (R : D → Prop) : Prop := dOne xs fun x => match x with
  | .lst ds => R (.tup ds)
  | .tup ds => R (.tup ds)
  | _ => False
theorem c_tuple {K : PySem.W.Frag} : CL K (fun xs H Q => ∃ p ys, xs = [.ref p] ∧ ((SqL K H p ys ∧ ∀ l, H l = none → Q (.ref l) (upd H l (.tup ys))) ∨ (SqT K H p ys ∧ Q (.ref p) H))) .strong dTuple := fun c own A σ ρ H vs ds R Q hk E r1 g q => by
  obtain ⟨x, rfl, g⟩ := dOne_iff g
  obtain ⟨v, rfl, r⟩ := paired1 r1
  cases x with
  | lst es =>
    obtain ⟨a, us, rfl, z1, n1, rl1⟩ := RepW.lst r
    exact ⟨a, us, rfl, .inl ⟨.inl (.inl n1), fun p hp => q c (.ref p) _ _ (.one E.fok hp) (Rep.newT E hp z1 rl1) g⟩⟩
  | tup es =>
    obtain ⟨a, us, rfl, n1, rl1⟩ := RepW.tup r
    have s1 := n1.sq
    rw [hk] at s1
    exact ⟨a, us, rfl, .inr ⟨s1, q c _ H _ (Step.refl E.fok) (n1.rep rl1) g⟩⟩
  | _ => exact g.elim
def dList (xs : List D) (R : D → Prop) : Prop := dOne xs fun x => match x with
  | .lst ds => R (.lst ds)
  | .tup ds => R (.lst ds)
  | _ => False
theorem c_list {K : PySem.W.Frag} : CL K (fun xs H Q => ∃ p ys, xs = [.ref p] ∧ (SqL K H p ys ∨ SqT K H p ys) ∧ ∀ l, H l = none → Q (.ref l) (upd H l (.lst ys))) .fresh dList := fun c own A σ ρ H vs ds R Q hk E r1 g q => by
  obtain ⟨x, rfl, g⟩ := dOne_iff g
  obtain ⟨v, rfl, r⟩ := paired1 r1
  cases x with
  | lst es =>
    obtain ⟨a, us, rfl, z1, n1, rl1⟩ := RepW.lst r
    exact ⟨a, us, rfl, .inl (.inl (.inl n1)), fun p hp => q c (.ref p) _ _ (.one E.fok hp) (Fr.newL E hp z1 rl1) g⟩
  | tup es =>
    obtain ⟨a, us, rfl, n1, rl1⟩ := RepW.tup r
    have s1 := n1.sq
    rw [hk] at s1
    exact ⟨a, us, rfl, .inr s1, fun p hp => q c (.ref p) _ _ (.one E.fok hp) (Fr.newL E hp n1.1 rl1) g⟩
  | _ => exact g.elim

def tyOf : D → String
  | .non => "NoneType" | .bl _ => "bool" | .int _ => "int" | .str _ => "str" | .tup _ => "tuple" | .lst _ => "list" | .dT _ _ => "dict" | .dK _ _ => "dict" | _ => ""
def isTy (n T : String) : Bool := n == T || (n == "bool" && T == "int")
def tyNames : List String := ["NoneType", "bool", "int", "str", "tuple", "list", "dict"]
def dIsi (xs : List D) (R : D → Prop) : Prop := dTwo xs fun x y => match y with
  | .ty T => (tyOf x ∈ tyNames ∧ T ∈ tyNames) ∧ R (.bl (isTy (tyOf x) T))
  | _ => False
theorem kit_all : ∀ n ∈ tyNames, ∀ T ∈ tyNames, kitB n T = some (isTy n T) := by decide +kernel
theorem RepW.tyX {c : Cfg} {own : List Nat} {A : Addr → Prop} {σ : L2.St} {ρ : PEnv} {H : Hp} {v : V} {d : D} (r : RepW c own A σ ρ H v d) (h : tyOf d ∈ tyNames) : TyX c.K H v (.type (tyOf d)) := by
  cases d with
  | non => rw [RepW.non r]; exact .base .non
  | bl b => rw [RepW.bl r]; exact .base (.bl b)
  | int i => rw [RepW.int r]; exact .base (.int i)
  | str z => rw [RepW.str r]; exact .base (.str z)
  | tup ds =>
    obtain ⟨a, us, rfl, n1, rl1⟩ := RepW.tup r
    exact .base (.tup n1.2.2)
  | lst ds =>
    obtain ⟨a, us, rfl, z1, n1, rl1⟩ := RepW.lst r
    exact .base (.lst n1)
  | dT ks ds =>
    obtain ⟨a, us, rfl, z1, n1, rl1⟩ := RepW.dT r
    exact .base (.dT n1)
  | dK ks ds =>
    obtain ⟨a, us, rfl, z1, n1, rl1⟩ := RepW.dK r
    exact .base (.dK n1)
  | ty n => exact absurd h (by simp [tyOf]; decide)
  | ref a => exact absurd h (by simp [tyOf]; decide)
  | deal => exact absurd h (by simp [tyOf]; decide)
  | feed => exact absurd h (by simp [tyOf]; decide)
  | scr a => exact absurd h (by simp [tyOf]; decide)
theorem c_isi {K : PySem.W.Frag} : CL K (rIsi K) .strong dIsi := fun c own A σ ρ H vs ds R Q hk E r1 g q => by
  obtain ⟨x, y, rfl, g⟩ := dTwo_iff g
  obtain ⟨v, w, rfl, r, s⟩ := paired2 r1
  cases y with
  | ty T =>
    obtain ⟨⟨h1, h2⟩, g⟩ := g
    have e := RepW.ty s
    subst e
    have tx := r.tyX h1
    rw [hk] at tx
    exact ⟨v, _, _, _, _, rfl, .ty T, tx, kit_ty (kit_all _ h1 _ h2), q c _ H _ (Step.refl E.fok) (.bl _) g⟩
  | _ => exact g.elim
theorem e_ty {X : Cx} {own : List Nat} {x : Str} {n : String} {pos : Pos} (hm : X.mg x = none) (hg : Gl X x := by rfl) (hv : bootBuiltins x = some (.type n) := by decide +kernel) (hn : x ≠ "__name__" := by decide) (hd : (x == ("__debug__" : Str)) = false := by decide) : PE X (.Name x pos) (lift X.K own .strong (pC (.ty n))) :=
  pe_imp (pe_bltn hg hm hv (v := .ty n) rfl hn hd) (lift_pC _ fun _ _ _ => .ty n)
end DL

set_option Elab.async false
set_option linter.all false
set_option maxRecDepth 100000
set_option maxHeartbeats 2000000
namespace RT
open PySem PySem.Spec PyProof.Rows
section
variable {prog : Program} {w : World} {A : Around} {E : Value → Shared → Prop} {s : Shared}
theorem dl_extend_rev {R : Result → Shared → Prop} {it l S : Addr} {items : Array Value} {c0 : Nat} (hh : A.handled = none) (hit : s.heap.IsRevIter it l ((items.size : Int) - 1)) (hl : s.heap.IsList l items) (hne : l ≠ it) (hn : items.size ≤ sizeLine) (hSi : S ≠ it) (hSl : S ≠ l)
    (res : Value) (hS : s.heap.get? S = some { cls := .type "list", data := .seq #[] c0 })
    (hR : ∀ h' tk acc' c', (∀ b o, b ≠ S → b ≠ it → s.heap.get? b = some o → h'.get? b = some o) → h'.get? S = some { cls := .type "list", dict := none, data := .seq acc' c', slots := #[] } →
      ItemsOf (fun i v => items[items.size - 1 - i]? = some v) acc' items.size → R (.ok (.ret res)) { s with heap := h', toks := tk }) :
    wpAny (model prog w) A.in1 (Builtin.List.listExtendWith (.ref S) (.ref it) res)
      (fun fin s' => match fin with | .done f => R (.ok f) s' | .again c' => c'.quiet = true ∧ codeAny (model prog w) A c' R s') (fun e s' => R (.error e) s') s := by
  have W := (Walks.listRev (prog := prog) (w := w) (A := A.in1) hh it l hne items).toS
  have hSf : S ∉ [it, l] := by simp only [List.mem_cons, List.not_mem_nil, or_false, not_or]; exact ⟨hSi, hSl⟩
  have hT : s.TypeIs (.ref it) "list_reverseiterator" := Heap.IsRevIter.typeIs hit
  have h1 : Builtin.List.listSameRef (.ref S) (.ref it) = false := by simp [Builtin.List.listSameRef, hSi]
  unfold Builtin.List.listExtendWith
  refine wpAny_bind (wpAny_typeOf hT ?_)
  rw [if_neg (by rw [h1]; decide)]
  refine wpAny_bind (wpAny_pyIter_revIter hit ?_)
  refine wpAny_bind (wpAny_holding ?_)
  unfold Builtin.List.listLengthHint
  refine wpAny_bind (wpAny_specialOf hT nolen_lri ?_)
  show wpAny _ A.in1 (specialOf (Value.ref it) (Str.ofString "__length_hint__") >>= _) _ _ _
  refine wpAny_bind (wpAny_specialOf hT hint_lri ?_)
  generalize hid : ("list_reverseiterator.__length_hint__" : String) = id0
  wp_delta
  rw [show splitId id0 = some ("list_reverseiterator", "__length_hint__") from by subst hid; decide +kernel]
  subst hid
  refine wpAny_bind (wpAny_isInstance (b := true) hT (by rw [isSubtype_type]; kernel_rfl) ?_)
  refine wpAny_pure ?_
  rw [if_neg (by decide)]
  have e0 : ((items.size : Nat) : Int) - 1 - ((0 : Nat) : Int) = (items.size : Int) - 1 := by omega
  refine wpAny_pure ⟨plainId_quiet F.plain_extend_loop _, codeAny_extend_loopS W hn _ hSf _ items.size 0 _ _ _ rfl (Nat.zero_le _) ⟨Nat.zero_le _, by rw [e0]; exact hit, hl⟩ hS (ItemsOf.nil _) fun s' acc' c' hm hS' hacc => ?_⟩
  rw [Moved.eq_with hm]
  refine hR s'.heap s'.toks acc' c' (fun b o hb hb2 e => hm.heap b o (fun hmem => ?_) e) hS' hacc
  rcases List.mem_cons.mp hmem with e' | hmem
  · exact hb e'
  · exact hb2 (List.mem_singleton.mp hmem)
theorem dl_list_rev {it l : Addr} {items : Array Value} {Q : Value → Shared → Prop} (hh : A.handled = none) (hit : s.heap.IsRevIter it l ((items.size : Int) - 1)) (hl : s.heap.IsList l items) (hne : l ≠ it) (hn : items.size ≤ sizeLine)
    (hQ : ∀ (h' : Heap) (tk : Nat) (acc : Array Value) (n : Nat), (∀ b o, b ≠ it → s.heap.get? b = some o → h'.get? b = some o) → h'.get? s.heap.objs.size = some { cls := .type "list", data := .seq acc n } → ItemsOf (fun i v => items[items.size - 1 - i]? = some v) acc items.size →
      Q (.ref s.heap.objs.size) { s with heap := h', toks := tk }) :
    wpAny (model prog w) A (call (.type "list") [.ref it]) Q E s := by
  obtain ⟨oi, hoi, _⟩ := id hit
  obtain ⟨ol, hol, _⟩ := id hl
  have hSi : s.heap.objs.size ≠ it := Nat.ne_of_gt (Heap.lt_size hoi)
  have hSl : s.heap.objs.size ≠ l := Nat.ne_of_gt (Heap.lt_size hol)
  refine callType_codes (Q₁ := fun obj s₁ => obj = .ref s.heap.objs.size ∧ s₁ = { s with heap := s.heap.push { cls := .type "list", data := .seq #[] } }) F.called_list (F.typeCall_list_1 _) F.entry_list_init
    (code_list_new _ ⟨rfl, rfl⟩) fun obj s₁ h₁ => ?_
  obtain ⟨rfl, rfl⟩ := h₁
  have hS : (s.heap.push { cls := .type "list", data := .seq #[] }).get? s.heap.objs.size = some { cls := .type "list", data := .seq #[] } := Heap.get?_push_size _ rfl
  refine ⟨⟨_, hS, rfl⟩, F.args_list_init_2 _ _, ?_⟩
  show wpAny _ _ (do let old ← Builtin.List.listItems (.ref s.heap.objs.size); Builtin.List.listUpdate (.ref s.heap.objs.size) (fun _ => #[]); letGo old.toList.reverse; Builtin.List.listExtendWith (.ref s.heap.objs.size) (.ref it) .none) _ _ _
  refine wpAny_bind ?_
  unfold Builtin.List.listItems
  refine wpAny_bind (wpAny_seqItems hS rfl (wpAny_pure ?_))
  show wpAny _ _ (updateSeq s.heap.objs.size (fun _ => #[]) >>= fun _ => letGo (#[] : Array Value).toList.reverse >>= fun _ => Builtin.List.listExtendWith (.ref s.heap.objs.size) (.ref it) .none) _ _ _
  refine wpAny_bind (wpAny_updateSeq hS rfl ?_)
  have hS₂ := Heap.get?_update_self (Obj.mapSeq (fun _ => (#[] : Array Value))) hS rfl
  have oth : ∀ b o, b ≠ s.heap.objs.size → s.heap.get? b = some o → ((s.heap.push { cls := .type "list", data := .seq #[] }).update s.heap.objs.size (Obj.mapSeq (fun _ => (#[] : Array Value)))).get? b = some o :=
    fun b o hb e => (Heap.get?_update_other _ _ (Ne.symm hb)).trans (Heap.get?_push_of_some _ e)
  refine wpAny_bind (wpAny_letGo ?_)
  refine dl_extend_rev (A := A.in1) (s := { s with heap := (s.heap.push { cls := .type "list", data := .seq #[] }).update s.heap.objs.size (Obj.mapSeq (fun _ => (#[] : Array Value))) }) hh (hit.at fun o e => oth _ o (Ne.symm hSi) e) (by
    obtain ⟨o, h1, h2⟩ := hl
    exact ⟨o, oth _ o (Ne.symm hSl) h1, h2⟩) hne hn hSi hSl .none hS₂ fun h' tk acc' c' hk hS' hacc => ?_
  exact ⟨rfl, hQ h' tk acc' c' (fun b o hb e => hk b o (Nat.ne_of_lt (Heap.lt_size e)) hb (oth b o (Nat.ne_of_lt (Heap.lt_size e)) e)) hS' hacc⟩
end
end RT
namespace DL
open PySem PySem.Spec PyProof.Rows L2 RT
section
variable {X : Cx} {own : List Nat}
def tLstRev (K : PySem.W.Frag) (te : TE) : TE := fun σ H Q => te σ H fun v H1 => ∃ (a : Addr) (xs : List V), v = .ref a ∧ SqL K H1 a xs ∧ ∀ q, H1 q = none → Q (.ref q) (upd H1 q (.lst xs.reverse))
theorem pe_lstRev {e : Expr} {te : TE} {p p2 pos pos2 : Pos} (hc : X.calm = true) (hg : Gl X "list") (hm : X.mg "list" = none) (hg2 : Gl X "reversed") (hm2 : X.mg "reversed" = none) (he : PE X e te)
    (hs : starEach [e] X.env = (false, eval e X.env) :: starEach [] X.env := by rfl)
    (hs2 : starEach [.Call (.Name "reversed" p2) [e] [] pos2] X.env = (false, eval (.Call (.Name "reversed" p2) [e] [] pos2) X.env) :: starEach [] X.env := by rfl) :
    PE X (.Call (.Name "list" p) [.Call (.Name "reversed" p2) [e] [] pos2] [] pos) (tLstRev X.K te) := by
  refine ⟨fun pins s σ H Q I h => ?_⟩
  refine Call_ (ld_blt I hg hm boot_list (PyProof.Rows.callWith_type1 (args_cons (Call_ (ld_blt I hg2 hm2 PyProof.Rows.boot_reversed (PyProof.Rows.callWith_type1 (args_cons (thn (he.run pins s σ H _ I h) fun u s1 ⟨v, H1, I1, r1, q1⟩ => args_nil ?_) hs) hs rfl))) hs2) hs2 rfl))
  obtain ⟨a, xs, ev, hq, q⟩ := q1
  subst ev
  obtain rfl : u = Value.ref a := r1
  obtain ⟨its, rv, p', hz⟩ := I1.list hq
  refine call_reversed_list p'.isList (args_nil ?_)
  have k0 : ∀ b o, s1.heap.get? b = some o → (s1.heap.push (revObj a ((its.toArray.size : Int) - 1))).get? b = some o := fun b o e => Heap.get?_push_of_some _ e
  have I2 : Inv X pins σ H1 { s1 with heap := s1.heap.push (revObj a ((its.toArray.size : Int) - 1)) } := I1.kept (t' := s1.toks) k0
  obtain ⟨f0, f1, f2, f3, f4, f5⟩ := I1.fpOk (H' := H1) (b := s1.heap.objs.size) (Nat.le_refl _) (I1.hok.fresh (Nat.le_refl _))
  have hl := p'.isList
  obtain ⟨ol, hol, _⟩ := id hl
  have hne : a ≠ s1.heap.objs.size := Nat.ne_of_lt (Heap.lt_size hol)
  have hn : its.toArray.size ≤ sizeLine := by rw [List.size_toArray, ← rv.length]; exact hz
  refine dl_list_rev (s := { s1 with heap := s1.heap.push (revObj a ((its.toArray.size : Int) - 1)) }) (I1.ok.hd hc) ⟨_, Heap.get?_push_size _ rfl, rfl, rfl⟩ (hl.push _) hne hn fun h' tk acc n hk hS hi => ?_
  have szS : ({ s1 with heap := s1.heap.push (revObj a ((its.toArray.size : Int) - 1)) } : Shared).heap.objs.size = s1.heap.objs.size + 1 := Heap.size_push ..
  have fp : FpOk X pins H1 s1.heap.objs.size := I1.fpOk (Nat.le_refl _) (I1.hok.fresh (Nat.le_refl _))
  have hfr : H1 (s1.heap.objs.size + 1) = none := I1.hok.fresh (Nat.le_succ _)
  have I3 : Inv X pins σ (upd H1 (s1.heap.objs.size + 1) (.lst xs.reverse)) { s1 with heap := h', toks := tk } := I2.turnedNew (t' := tk) (ch := [s1.heap.objs.size]) (T := s1.heap.objs.size + 1) (ob := .lst xs.reverse) (h' := h')
    (fun b o hb e => hk b o (by simpa using hb) e) (fun b hb => by
      have e : b = s1.heap.objs.size := by simpa using hb
      subst e
      exact fp) (Nat.le_of_eq szS) (show ObjOk X.prog X.w _ _ _ (.lst xs.reverse) from ⟨by rw [List.length_reverse]; exact hz, acc.toList, n, vals_rev rv hi, by rw [← szS]; simpa using hS⟩)
  rw [szS]
  exact ⟨.ref (s1.heap.objs.size + 1), _, I3, rfl, q _ hfr⟩
def dRev (x : D) (R : D → Prop) : Prop := match x with | .lst ds => R (.lst ds.reverse) | _ => False
theorem lift_lstRev (K : PySem.W.Frag) {p : TED} : ∀ σ H Q, lift K own .fresh (p1 dRev p) σ H Q → tLstRev K (lift K own .weak p) σ H Q := fun σ H Q ⟨c, A, ρ, R, hk, E, hp, f⟩ => ⟨c, A, ρ, _, hk, E, hp, fun c1 v H1 d t1 r1 g1 => by
  cases d with
  | lst ds =>
    obtain ⟨a, vs, rfl, z1, n1, rl1⟩ := RepW.lst r1
    exact ⟨a, vs, rfl, .inl (.inl n1), fun p hp => f c1 (.ref p) _ _ (t1.more hp) (Fr.back t1 (Fr.newL (E.step t1) hp (by rw [List.length_reverse]; exact z1) rl1.rev)) g1⟩
  | _ => exact g1.elim⟩
theorem e_lstRev {e : Expr} {p : TED} {pn p2 pos pos2 : Pos} (hc : X.calm = true) (hm : X.mg "list" = none) (hm2 : X.mg "reversed" = none) (he : PE X e (lift X.K own .weak p)) (hg : Gl X "list" := by rfl) (hg2 : Gl X "reversed" := by rfl)
    (hs : starEach [e] X.env = (false, eval e X.env) :: starEach [] X.env := by rfl)
    (hs2 : starEach [.Call (.Name "reversed" p2) [e] [] pos2] X.env = (false, eval (.Call (.Name "reversed" p2) [e] [] pos2) X.env) :: starEach [] X.env := by rfl) :
    PE X (.Call (.Name "list" pn) [.Call (.Name "reversed" p2) [e] [] pos2] [] pos) (lift X.K own .fresh (p1 dRev p)) := pe_imp (pe_lstRev hc hg hm hg2 hm2 he hs hs2) (lift_lstRev _)

def TOD := PEnv → (Option Int → Prop) → Prop
def liftO (K : PySem.W.Frag) (own : List Nat) (p : TOD) : TO := fun σ H Q => ∃ c A ρ R, c.K = K ∧ EnvR c own A σ ρ H ∧ p ρ R ∧ ∀ c' H' o, Step c H c' H' → R o → Q o H'
def oNone : TOD := fun _ R => R none
def oSome (p : TED) : TOD := fun ρ R => p ρ fun x => dInt x fun i => R (some i)
theorem po_imp {e : Option Expr} {t t' : TO} (h : PO X e t) (m : ∀ σ H Q, t' σ H Q → t σ H Q) : PO X e t' := ⟨fun pins s σ H Q I q => h.run pins s σ H Q I (m σ H Q q)⟩
theorem o_none : PO X none (liftO X.K own oNone) := po_imp po_none fun σ H Q ⟨c, A, ρ, R, hk, E, hp, f⟩ => f c H none (Step.refl E.fok) hp
theorem o_some {e : Expr} {p : TED} (h : PE X e (lift X.K own .weak p)) : PO X (some e) (liftO X.K own (oSome p)) := po_imp (po_some h) fun σ H Q ⟨c, A, ρ, R, hk, E, hp, f⟩ => ⟨c, A, ρ, _, hk, E, hp, fun c1 v H1 d t1 r1 g1 => by
  obtain ⟨i, rfl, g⟩ := dInt_iff g1
  exact ⟨i, RepW.int r1, f c1 H1 _ t1 g⟩⟩
def cutD (ds : List D) (lo hi : Option Int) : List D := (ds.drop (HT.sIx ds.length 0 lo)).take (HT.sIx ds.length ds.length hi - HT.sIx ds.length 0 lo)
def dSl (x : D) (lo hi : Option Int) (R : D → Prop) : Prop := match x with
  | .lst ds => R (.lst (cutD ds lo hi))
  | .tup ds => R (.tup (cutD ds lo hi))
  | .scr ns => R (.lst (cutD (ns.map D.int) lo hi))
  | .str z => z.length ≤ sizeLine ∧ R (.str (cutS z lo hi))
  | _ => False
def dSlL (x : D) (lo hi : Option Int) (R : D → Prop) : Prop := match x with
  | .lst ds => R (.lst (cutD ds lo hi))
  | .scr ns => R (.lst (cutD (ns.map D.int) lo hi))
  | _ => False
def pSl (r : D → Option Int → Option Int → (D → Prop) → Prop) (p : TED) (lo hi : TOD) : TED := fun ρ R => p ρ fun x => lo ρ fun l => hi ρ fun u => r x l u R
theorem RepL.cut {c : Cfg} {Av : Addr → Prop} {H : Hp} {vs : List V} {ds : List D} (r : RepL c Av H vs ds) (lo hi : Option Int) : RepL c Av H (cutV vs lo hi) (cutD ds lo hi) := by
  unfold cutV cutD
  rw [r.len]
  exact (r.drop _).take _
def rSlAll (K : PySem.W.Frag) : V → Option Int → Option Int → Hp → VK → Prop := fun x lo hi H Q => rSlL K x lo hi H Q ∨ (rSlA K x lo hi H Q ∨ rSlS x lo hi H Q)
theorem o_sl : SlR X (rSlAll X.K) := sl_list.or (sl_tupA.or sl_str)
theorem lift_sl {r : V → Option Int → Option Int → Hp → VK → Prop} {r' : D → Option Int → Option Int → (D → Prop) → Prop} {ko : Kd} (K : PySem.W.Frag)
    (hr : ∀ c A σ ρ H v d lo hi R (Q : VK), c.K = K → EnvR c own A σ ρ H → RepW c own A σ ρ H v d → r' d lo hi R → (∀ c' v' H' d', Step c H c' H' → Res c' own A σ ρ ko H H' v' d' → R d' → Q v' H') → r v lo hi H Q) {p : TED} {lo hi : TOD} :
    ∀ σ H Q, lift K own ko (pSl r' p lo hi) σ H Q → tSl r (lift K own .weak p) (liftO K own lo) (liftO K own hi) σ H Q :=
  fun σ H Q ⟨c, A, ρ, R, hk, E, hp, f⟩ => ⟨c, A, ρ, _, hk, E, hp, fun c1 v1 H1 d1 t1 r1 g1 => ⟨c1, A, ρ, _, t1.kk.trans hk, E.step t1, g1, fun c2 H2 l t2 g2 => ⟨c2, A, ρ, _, t2.kk.trans (t1.kk.trans hk), (E.step t1).step t2, g2, fun c3 H3 u t3 g3 =>
    hr c3 A σ ρ H3 v1 d1 l u R Q (t3.kk.trans (t2.kk.trans (t1.kk.trans hk))) (((E.step t1).step t2).step t3) (RepW.step ((E.step t1).step t2) t3 (RepW.step (E.step t1) t2 r1)) g3 fun c4 v4 H4 d4 t4 r4 g4 => f c4 v4 H4 d4 (((t1.trans t2).trans t3).trans t4) (Res.back ((t1.trans t2).trans t3) r4) g4⟩⟩⟩
theorem c_slL (K : PySem.W.Frag) : ∀ c A σ ρ H v d lo hi R (Q : VK), c.K = K → EnvR c own A σ ρ H → RepW c own A σ ρ H v d → dSlL d lo hi R → (∀ c' v' H' d', Step c H c' H' → Res c' own A σ ρ .fresh H H' v' d' → R d' → Q v' H') → rSlL K v lo hi H Q := fun c A σ ρ H v d lo hi R Q hk E r g q => by
  cases d with
  | lst ds =>
    obtain ⟨a, vs, rfl, z1, n1, rl1⟩ := RepW.lst r
    exact ⟨a, vs, rfl, .inl (.inl n1), fun p hp => q c (.ref p) _ _ (.one E.fok hp) (Fr.newL E hp (Nat.le_trans (cutV_length _ _ _) z1) (rl1.cut lo hi)) g⟩
  | scr ns =>
    obtain ⟨a, rfl, hn, s⟩ := RepW.scr r
    rw [hk] at s
    refine ⟨a, _, rfl, s, fun p hp => q c (.ref p) _ _ (.one E.fok hp) (Fr.newL E hp (Nat.le_trans (cutV_length _ _ _) (by rw [List.length_map]; exact sz_small (by omega))) ((RepL.ofInts ns).cut lo hi)) g⟩
  | _ => exact g.elim
theorem c_sl (K : PySem.W.Frag) : ∀ c A σ ρ H v d lo hi R (Q : VK), c.K = K → EnvR c own A σ ρ H → RepW c own A σ ρ H v d → dSl d lo hi R → (∀ c' v' H' d', Step c H c' H' → Res c' own A σ ρ .strong H H' v' d' → R d' → Q v' H') → rSlAll K v lo hi H Q := fun c A σ ρ H v d lo hi R Q hk E r g q => by
  cases d with
  | lst ds => exact .inl (c_slL K c A σ ρ H v _ lo hi R Q hk E r g fun c' v' H' d' t r => q c' v' H' d' t (Fr.strong t E r))
  | scr ns => exact .inl (c_slL K c A σ ρ H v _ lo hi R Q hk E r g fun c' v' H' d' t r => q c' v' H' d' t (Fr.strong t E r))
  | tup ds =>
    obtain ⟨a, vs, rfl, n1, rl1⟩ := RepW.tup r
    have s1 := n1.sq
    rw [hk] at s1
    refine .inr (.inl ⟨a, vs, rfl, s1, fun hw => ?_, fun _ p hp => ?_⟩)
    · have e : cutD ds lo hi = ds := by
        unfold cutD
        rw [← rl1.len, hw.1, hw.2, List.drop_zero, Nat.sub_zero, rl1.len, List.take_length]
      have g' : R (.tup (cutD ds lo hi)) := g
      rw [e] at g'
      exact q c _ H _ (Step.refl E.fok) (n1.rep rl1) g'
    · exact q c (.ref p) _ _ (.one E.fok hp) (Rep.newT E hp (Nat.le_trans (cutV_length _ _ _) n1.1) (rl1.cut lo hi)) g
  | str z =>
    have e := RepW.str r
    subst e
    exact .inr (.inr ⟨z, rfl, g.1, q c _ H _ (Step.refl E.fok) (.str _) g.2⟩)
  | _ => exact g.elim
theorem e_sl {e : Expr} {lo hi : Option Expr} {p : TED} {pl ph : TOD} {pos p2 : Pos} (he : PE X e (lift X.K own .weak p)) (hl : PO X lo (liftO X.K own pl)) (hh : PO X hi (liftO X.K own ph)) : PE X (.Subscript e (.Slice lo hi none p2) pos) (lift X.K own .strong (pSl dSl p pl ph)) := pe_imp (pe_slice o_sl he hl hh) (lift_sl _ (c_sl _))
theorem e_slL {e : Expr} {lo hi : Option Expr} {p : TED} {pl ph : TOD} {pos p2 : Pos} (he : PE X e (lift X.K own .weak p)) (hl : PO X lo (liftO X.K own pl)) (hh : PO X hi (liftO X.K own ph)) : PE X (.Subscript e (.Slice lo hi none p2) pos) (lift X.K own .fresh (pSl dSlL p pl ph)) := pe_imp (pe_slice sl_list he hl hh) (lift_sl _ (c_slL _))
end
end DL

set_option Elab.async false
set_option linter.all false
set_option maxRecDepth 100000
set_option maxHeartbeats 4000000
namespace DL
open PySem PySem.Spec PyProof.Rows L2

def kS : Key := Sum.inr "seed"
def kN : Key := Sum.inr "number"
def kL : Key := Sum.inr "left"
theorem k_sn : ¬ kS = kN := by decide +kernel
theorem k_sl : ¬ kS = kL := by decide +kernel
theorem k_nl : ¬ kN = kL := by decide +kernel
def feedKV (s n : Int) (l : Addr) : List (Key × V) := [(kS, .int s), (kN, .int n), (kL, .ref l)]
theorem fk_s (s n : Int) (l : Addr) : valV (feedKV s n l) kS = some (.int s) := by unfold feedKV; rw [valV_pos rfl]
theorem fk_n (s n : Int) (l : Addr) : valV (feedKV s n l) kN = some (.int n) := by unfold feedKV; rw [valV_neg k_sn, valV_pos rfl]
theorem fk_l (s n : Int) (l : Addr) : valV (feedKV s n l) kL = some (.ref l) := by unfold feedKV; rw [valV_neg k_sl, valV_neg k_nl, valV_pos rfl]
theorem fp_n (s n m : Int) (l : Addr) : putK (feedKV s n l) kN (.int m) = feedKV s m l := by
  unfold putK feedKV
  have h2 : ¬ kL = kN := fun z => k_nl z.symm
  simp [k_sn, h2]
theorem fp_s (s n m : Int) (l : Addr) : putK (feedKV s n l) kS (.int m) = feedKV m n l := by
  unfold putK feedKV
  have h1 : ¬ kN = kS := fun z => k_sn z.symm
  have h2 : ¬ kL = kS := fun z => k_sl z.symm
  simp [h1, h2]
theorem fm (s n : Int) (l : Addr) : mergeK [] (feedKV s n l) = feedKV s n l := by
  unfold mergeK feedKV
  simp only [List.foldl_cons, List.foldl_nil]
  unfold putK
  simp [k_sn, k_sl, k_nl]
theorem fk_len (s n : Int) (l : Addr) : (feedKV s n l).length < sizeLine := small1000 (show 3 ≤ 1000 by decide)

def wDraw (ds : List D) (R : D → Prop) : Prop := dTwo ds fun x y => match x with
  | .deal => dInt y fun m => (0 < m ∧ m.natAbs.log2 < 9000) ∧ ∀ r, 0 ≤ r → r < m → R (.int r)
  | _ => False
def gN0 : TE := tDGet (tVar 0) (tC (.str "number"))
def gL0 : TE := tDGet (tVar 0) (tC (.str "left"))
def gS0 : TE := tDGet (tVar 0) (tC (.str "seed"))
def rGt0 : R2 := rI0 fun i j => .bl (decide (j < i))
def rAdd0 : R2 := rI0 fun i j => .int (i + j)
def rMulW0 : R2 := rI CMulW fun i j => .int (i * j)
def rModN0 : R2 := rI (fun _ j => j ≠ 0) fun i j => .int (i.fmod j)
def rDivA0 : R2 := rI CDivA fun i j => .int (i.fdiv j)
def tI (i : Int) : TE := tC (.int i)
def tDrawA (K : PySem.W.Frag) : TS :=
  tSeq (tWhile (tAnd (tTest (tOp rEq gN0 (tI 0))) (tTest (tOp rGt0 (tCB (rLenA K) (tCons gL0 tNil)) (tI 0)))) (sDPut (tVar 0) (tC (.str "number")) (tBM0 K "list" rPop gL0)))
  (tSeq (tAsg gN0 (gName 2))
  (tSeq (tIfS (tTest (tOp rGt0 (tVar 2) (tI 0))) (tSeq (sDPut (tVar 0) (tC (.str "number")) (tOp rDivA0 (tVar 2) (tVar 1))) (tRet (tOp rModN0 (tVar 2) (tVar 1)))) tNext)
  (tSeq (tAsg (tOp rModN0 (tOp rAdd0 (tOp rMulW0 gS0 (tI 48271)) (tI 7919)) (tI 2147483647)) (gName 3))
  (tSeq (sDPut (tVar 0) (tC (.str "seed")) (tOp rModN0 (tOp rAdd0 (tOp rMulW0 (tVar 3) (tI 40692)) (tI 104729)) (tI 2147483399)))
  (tSeq (tAsg (tOp rModN0 (tOp rMulW0 gS0 gS0) (tI 2147483563)) (gName 4))
  (tRet (tOp rModN0 (tOp rAdd0 (tOp rMulW0 (tOp rModN0 (tOp rMulW0 (tVar 3) (tVar 3)) (tI 2147483629)) (tI 2147483563)) (tVar 4)) (tVar 1))))))))
theorem mul_ok {i j : Int} {a b : Nat} (ha : i.natAbs < 2 ^ a) (hb : j.natAbs < 2 ^ b) (h0 : 0 < a := by decide) (h1 : 0 < b := by decide) (h : a + b ≤ 1000000 := by decide) : CMulW i j := wide_mul ha hb h0 h1 h
theorem fmod_rng (i : Int) {j : Int} (h : 0 < j) : 0 ≤ i.fmod j ∧ i.fmod j < j := by
  rw [Int.fmod_eq_emod_of_nonneg i (Int.le_of_lt h)]
  exact ⟨Int.emod_nonneg i (by omega), Int.emod_lt_of_pos i h⟩
theorem fdiv_nn {i j : Int} (hi : 0 ≤ i) (h : 0 < j) : 0 ≤ i.fdiv j := by
  rw [Int.fdiv_eq_ediv_of_nonneg i (Int.le_of_lt h)]
  exact Int.ediv_nonneg hi (Int.le_of_lt h)
theorem feed_step {c0 c : Cfg} {H0 H H' : Hp} {a l : Addr} (t : Step c0 H0 c H) (f : c.fd a l) (oth : ∀ b, b ≠ a → b ≠ l → H' b = H b) (ok : FeedOk H' a l) : Step c0 H0 c H' := by
  refine ⟨t.kk, t.sub, t.new, fun b o hs e => ?_, ⟨fun a' l' f' => ?_, t.fok.apart⟩⟩
  · have hs' := t.notS e hs
    rw [oth b (fun z => hs' ⟨a, l, f, .inl z⟩) (fun z => hs' ⟨a, l, f, .inr z⟩)]
    exact t.keep b o hs e
  · rcases t.fok.apart a l a' l' f f' with ⟨e1, e2⟩ | ⟨h1, h2, h3, h4⟩
    · subst e1; subst e2; exact ok
    · exact (t.fok.ok a' l' f').same (oth a' (Ne.symm h1) (Ne.symm h3)) (oth l' (Ne.symm h2) (Ne.symm h4))
theorem draw_read {K : PySem.W.Frag} {vs : List V} {H : Hp} {Q : VK} {E : XK} {N : List Str} (hN : N.length = 5) (h : spD K 2 .strong wDraw vs H Q E) : tDrawA K { nx := fun _ H' => Q .non H', rt := Q } (L2.start N vs) H := by
  obtain ⟨hl, c, A, ds, R, hk, fo, hAl, r, hw, q⟩ := h
  obtain ⟨x, y, rfl, hw⟩ := dTwo_iff hw
  cases x with
  | deal =>
    obtain ⟨m, rfl, ⟨hm, hm2⟩, hw⟩ := dInt_iff hw
    cases r with
    | cons r1 r2 =>
      cases r2 with
      | cons r2 r3 =>
        cases r3
        cases r1 with
        | deal nal0 f =>
          rename_i a l
          cases r2
          have st0 : L2.start N [V.ref a, V.int m] = [some (.ref a), some (.int m), none, none, none] := by
            unfold L2.start
            rw [hN]
            rfl
          rw [st0]
          have fa0 : FeedA H a l := (fo.ok a l f).resolve_right fun z => nal0 z.1
          -- what is told at the end
          have fin : ∀ (H' : Hp) (z : Int), (∃ (s n : Int) (ns : List Int), H' a = some (.dK (feedKV s n l)) ∧ H' l = some (.lst (ns.map V.int)) ∧ 0 ≤ s ∧ s < 2147483648 ∧ 0 ≤ n ∧ (∀ x ∈ ns, 0 < x) ∧ ns.length ≤ 63) → (∀ b, b ≠ a → b ≠ l → H' b = H b) → 0 ≤ z → z < m → Q (.int z) H' := fun H' z ⟨s, n, ns, h1, h2, h3⟩ oth z0 z1 => by
            exact q c (.int z) H' (.int z) (feed_step (Step.refl fo) f oth (.inl ⟨fa0.1, s, n, ns, h1, h2, h3⟩)) (.int z) (hw z z0 z1)
          have nal : a ≠ l := fa0.1
          obtain ⟨s0, n0, ns0, ha0, hl0, b1, b2, b3, b4, b5⟩ := fa0.2
          have dg : ∀ {H' : Hp} {s n : Int}, H' a = some (.dK (feedKV s n l)) → DGet H' a (.str "number") (some (.int n)) ∧ DGet H' a (.str "left") (some (.ref l)) ∧ DGet H' a (.str "seed") (some (.int s)) := fun {H' s n} e => by
            have g1 := DGet.k (k := kN) e
            have g2 := DGet.k (k := kL) e
            have g3 := DGet.k (k := kS) e
            rw [fk_n] at g1
            rw [fk_l] at g2
            rw [fk_s] at g3
            exact ⟨g1, g2, g3⟩
          have dpn : ∀ {H' : Hp} {s n : Int} (z : Int), H' a = some (.dK (feedKV s n l)) → DPut H' a (.str "number") (.int z) (upd H' a (.dK (feedKV s z l))) := fun {H' s n} z e => by
            have g := DPut.k (k := kN) (v := .int z) e (fk_len s n l)
            rw [fp_n] at g
            exact g
          have dps : ∀ {H' : Hp} {s n : Int} (z : Int), H' a = some (.dK (feedKV s n l)) → DPut H' a (.str "seed") (.int z) (upd H' a (.dK (feedKV z n l))) := fun {H' s n} z e => by
            have g := DPut.k (k := kS) (v := .int z) e (fk_len s n l)
            rw [fp_s] at g
            exact g
          -- the rest of the def, the number known
          let W : Nat → L2.St → Hp → Prop := fun k σ H' => σ = [some (.ref a), some (.int m), none, none, none] ∧ ∃ (s n : Int) (ns : List Int), k = ns.length ∧ H' a = some (.dK (feedKV s n l)) ∧ H' l = some (.lst (ns.map V.int)) ∧ (0 ≤ s ∧ s < 2147483648 ∧ 0 ≤ n ∧ (∀ x ∈ ns, 0 < x) ∧ ns.length ≤ 63) ∧ ∀ b, b ≠ a → b ≠ l → H' b = H b
          refine ⟨W, ⟨ns0.length, rfl, s0, n0, ns0, rfl, ha0, hl0, ⟨b1, b2, b3, b4, b5⟩, fun _ _ _ => rfl⟩, ?_⟩
          have tail : ∀ (s n : Int) (ns : List Int) (H' : Hp), H' a = some (.dK (feedKV s n l)) → H' l = some (.lst (ns.map V.int)) → (0 ≤ s ∧ s < 2147483648 ∧ 0 ≤ n ∧ (∀ x ∈ ns, 0 < x) ∧ ns.length ≤ 63) → (∀ b, b ≠ a → b ≠ l → H' b = H b) →
              (tSeq (tAsg gN0 (gName 2))
                (tSeq (tIfS (tTest (tOp rGt0 (tVar 2) (tI 0))) (tSeq (sDPut (tVar 0) (tC (.str "number")) (tOp rDivA0 (tVar 2) (tVar 1))) (tRet (tOp rModN0 (tVar 2) (tVar 1)))) tNext)
                (tSeq (tAsg (tOp rModN0 (tOp rAdd0 (tOp rMulW0 gS0 (tI 48271)) (tI 7919)) (tI 2147483647)) (gName 3))
                (tSeq (sDPut (tVar 0) (tC (.str "seed")) (tOp rModN0 (tOp rAdd0 (tOp rMulW0 (tVar 3) (tI 40692)) (tI 104729)) (tI 2147483399)))
                (tSeq (tAsg (tOp rModN0 (tOp rMulW0 gS0 gS0) (tI 2147483563)) (gName 4))
                (tRet (tOp rModN0 (tOp rAdd0 (tOp rMulW0 (tOp rModN0 (tOp rMulW0 (tVar 3) (tVar 3)) (tI 2147483629)) (tI 2147483563)) (tVar 4)) (tVar 1)))))))) { nx := fun _ H' => Q .non H', rt := Q } [some (.ref a), some (.int m), none, none, none] H' := by
            intro s n ns H' e1 e2 bd oth
            obtain ⟨g1, g2, g3⟩ := dg e1
            refine ⟨_, rfl, a, _, rfl, g1, ?_⟩
            refine ⟨_, rfl, _, _, rfl, rfl, _, rfl, ?_⟩
            by_cases hn : 0 < n
            · rw [decide_eq_true hn]
              refine iteT ?_
              refine ⟨_, rfl, _, rfl, _, _, rfl, rfl, ⟨by omega, hm2⟩, _, rfl, a, _, rfl, dpn _ e1, ?_⟩
              refine ⟨_, rfl, _, rfl, _, _, rfl, rfl, by omega, ?_⟩
              obtain ⟨r0, r1⟩ := fmod_rng n hm
              refine fin _ _ ⟨s, _, ns, upd_same, by rw [upd_ne (Ne.symm nal)]; exact e2, bd.1, bd.2.1, fdiv_nn bd.2.2.1 hm, bd.2.2.2⟩ (fun b h1 h2 => by rw [upd_ne h1]; exact oth b h1 h2) r0 r1
            · rw [decide_eq_false hn]
              refine iteF ?_
              have q1 : CMulW s 48271 := mul_ok (a := 31) (b := 17) (by omega) (by decide)
              obtain ⟨o0, o1⟩ := fmod_rng (s * 48271 + 7919) (j := 2147483647) (by decide)
              obtain ⟨one, he⟩ : ∃ one, one = (s * 48271 + 7919).fmod 2147483647 := ⟨_, rfl⟩
              rw [← he] at o0 o1
              have q2 : CMulW one 40692 := mul_ok (a := 31) (b := 17) (by omega) (by decide)
              obtain ⟨s0, s1⟩ := fmod_rng (one * 40692 + 104729) (j := 2147483399) (by decide)
              obtain ⟨s', hs'⟩ : ∃ s', s' = (one * 40692 + 104729).fmod 2147483399 := ⟨_, rfl⟩
              rw [← hs'] at s0 s1
              have q3 : CMulW s' s' := mul_ok (a := 31) (b := 31) (by omega) (by omega)
              obtain ⟨p0, p1⟩ := fmod_rng (s' * s') (j := 2147483563) (by decide)
              obtain ⟨oth', ho'⟩ : ∃ z, z = (s' * s').fmod 2147483563 := ⟨_, rfl⟩
              rw [← ho'] at p0 p1
              have q4 : CMulW one one := mul_ok (a := 31) (b := 31) (by omega) (by omega)
              obtain ⟨u0, u1⟩ := fmod_rng (one * one) (j := 2147483629) (by decide)
              obtain ⟨oo, hoo⟩ : ∃ z, z = (one * one).fmod 2147483629 := ⟨_, rfl⟩
              rw [← hoo] at u0 u1
              have q5 : CMulW oo 2147483563 := mul_ok (a := 31) (b := 31) (by omega) (by decide)
              obtain ⟨r0, r1⟩ := fmod_rng (oo * 2147483563 + oth') hm
              obtain ⟨g1', g2', g3'⟩ := dg (H' := upd H' a (.dK (feedKV s' n l))) upd_same
              refine ⟨_, rfl, a, _, rfl, g3, _, _, rfl, rfl, q1, _, _, rfl, rfl, _, _, rfl, rfl, (by show (2147483647 : Int) ≠ 0; decide), ?_⟩
              show (tSeq (sDPut (tVar 0) (tC (.str "seed")) (tOp rModN0 (tOp rAdd0 (tOp rMulW0 (tVar 3) (tI 40692)) (tI 104729)) (tI 2147483399)))
                (tSeq (tAsg (tOp rModN0 (tOp rMulW0 gS0 gS0) (tI 2147483563)) (gName 4))
                (tRet (tOp rModN0 (tOp rAdd0 (tOp rMulW0 (tOp rModN0 (tOp rMulW0 (tVar 3) (tVar 3)) (tI 2147483629)) (tI 2147483563)) (tVar 4)) (tVar 1))))) { nx := fun _ H' => Q .non H', rt := Q } [some (.ref a), some (.int m), some (.int n), some (.int ((s * 48271 + 7919).fmod 2147483647)), none] H'
              rw [← he]
              refine ⟨_, rfl, _, _, rfl, rfl, q2, _, _, rfl, rfl, _, _, rfl, rfl, (by show (2147483399 : Int) ≠ 0; decide), _, rfl, a, _, rfl, dps _ e1, ?_⟩
              rw [← hs']
              refine ⟨_, rfl, a, _, rfl, g3', _, rfl, a, _, rfl, g3', _, _, rfl, rfl, q3, _, _, rfl, rfl, (by show (2147483563 : Int) ≠ 0; decide), ?_⟩
              show (tRet (tOp rModN0 (tOp rAdd0 (tOp rMulW0 (tOp rModN0 (tOp rMulW0 (tVar 3) (tVar 3)) (tI 2147483629)) (tI 2147483563)) (tVar 4)) (tVar 1))) { nx := fun _ H' => Q .non H', rt := Q } [some (.ref a), some (.int m), some (.int n), some (.int one), some (.int ((s' * s').fmod 2147483563))] (upd H' a (.dK (feedKV s' n l)))
              rw [← ho']
              refine ⟨_, rfl, _, rfl, _, _, rfl, rfl, q4, _, _, rfl, rfl, (by show (2147483629 : Int) ≠ 0; decide), ?_⟩
              dsimp only
              rw [← hoo]
              refine ⟨_, _, rfl, rfl, q5, _, rfl, _, _, rfl, rfl, _, rfl, _, _, rfl, rfl, (by show m ≠ 0; omega), ?_⟩
              exact fin _ _ ⟨s', n, ns, upd_same, by rw [upd_ne (Ne.symm nal)]; exact e2, s0, by omega, bd.2.2⟩ (fun b h1 h2 => by rw [upd_ne h1]; exact oth b h1 h2) r0 r1
          rintro k σ H' ⟨rfl, s, n, ns, rfl, e1, e2, bd, oth⟩
          obtain ⟨g1, g2, g3⟩ := dg e1
          -- deal['number'] == 0
          refine ⟨_, rfl, a, _, rfl, g1, rfl, _, rfl, ?_⟩
          by_cases hn : n = 0
          · subst hn
            rw [decide_eq_true rfl]
            refine iteT ?_
            -- len(deal['left']) > 0
            refine ⟨_, rfl, a, _, rfl, g2, .inl ⟨l, _, rfl, .inl (.inl (.inl e2)), _, _, rfl, rfl, _, rfl, ?_⟩⟩
            rw [List.length_map]
            by_cases hz : (0 : Int) < ns.length
            · rw [decide_eq_true hz]
              refine iteT ?_
              have hlt : ns.length - 1 < ns.length := by omega
              refine ⟨fun σ' H2 => ∃ m', m' < ns.length ∧ W m' σ' H2, fun σ' H2 h => h, _, rfl, a, _, rfl, g2, (.inl ⟨rfl, _, .inl (.inl e2)⟩), l, ns.map V.int, .int ns[ns.length - 1], rfl, rfl, e2, ?_, _, rfl, a, _, rfl, dpn _ (by rw [upd_ne nal]; exact e1), ?_⟩
              · rw [List.length_map, List.getElem?_map, List.getElem?_eq_getElem hlt]
                rfl
              · refine ⟨ns.length - 1, by omega, rfl, s, _, ns.dropLast, by rw [List.length_dropLast], upd_same, ?_, ⟨bd.1, bd.2.1, Int.le_of_lt (bd.2.2.2.1 _ (List.getElem_mem hlt)), fun x hx => bd.2.2.2.1 x (List.dropLast_subset _ hx), by rw [List.length_dropLast]; omega⟩, fun b h1 h2 => ?_⟩
                · rw [upd_ne (Ne.symm nal), upd_same, List.map_dropLast]
                · rw [upd_ne h1, upd_ne h2]
                  exact oth b h1 h2
            · rw [decide_eq_false hz]
              refine iteF ?_
              exact tail s 0 ns H' e1 e2 bd oth
          · have ne : ¬ V.int n = V.int 0 := fun z => hn (V.int.inj z)
            rw [decide_eq_false ne]
            refine iteF ?_
            exact tail s n ns H' e1 e2 bd oth
  | _ => exact hw.elim
end DL

set_option Elab.async false
set_option linter.all false
set_option maxRecDepth 100000
set_option maxHeartbeats 4000000
namespace DL
open PySem PySem.Spec PyProof.Rows L2
section
variable {c c0 : Cfg} {H0 H : Hp}
def Cfg.plus (c : Cfg) (a l : Addr) : Cfg := ⟨c.K, fun x y => c.fd x y ∨ (x = a ∧ y = l)⟩
theorem plus_S {a l b : Addr} : (c.plus a l).S b ↔ c.S b ∨ b = a ∨ b = l := by
  constructor
  · rintro ⟨x, y, f | ⟨rfl, rfl⟩, e⟩
    · exact .inl ⟨x, y, f, e⟩
    · exact .inr e
  · rintro (⟨x, y, f, e⟩ | e)
    · exact ⟨x, y, .inl f, e⟩
    · exact ⟨a, l, .inr ⟨rfl, rfl⟩, e⟩
theorem plus_step {a l : Addr} (t : Step c0 H0 c H) (na : ¬ c.S a) (nl : ¬ c.S l) (ha : H0 a = none) (hl : H0 l = none) (ok : FeedOk H a l) : Step c0 H0 (c.plus a l) H := by
  refine ⟨t.kk, fun x y f => .inl (t.sub x y f), fun b h => ?_, t.keep, ⟨fun x y f => ?_, fun x y x' y' f f' => ?_⟩⟩
  · rcases plus_S.mp h with h | h | h
    · exact t.new b h
    · subst h; exact .inr ha
    · subst h; exact .inr hl
  · rcases f with f | ⟨rfl, rfl⟩
    · exact t.fok.ok x y f
    · exact ok
  · rcases f with f | ⟨rfl, rfl⟩ <;> rcases f' with f' | ⟨rfl, rfl⟩
    · exact t.fok.apart x y x' y' f f'
    · exact .inr ⟨fun z => na ⟨x, y, f, .inl z.symm⟩, fun z => nl ⟨x, y, f, .inl z.symm⟩, fun z => na ⟨x, y, f, .inr z.symm⟩, fun z => nl ⟨x, y, f, .inr z.symm⟩⟩
    · exact .inr ⟨fun z => na ⟨x', y', f', .inl z⟩, fun z => na ⟨x', y', f', .inr z⟩, fun z => nl ⟨x', y', f', .inl z⟩, fun z => nl ⟨x', y', f', .inr z⟩⟩
    · exact .inl ⟨rfl, rfl⟩
end
def sRetDeal (p1 p3 : TED) : TSD := fun DD ρ => p1 ρ fun x => dInt x fun s => (0 ≤ s ∧ s < 2147483648) ∧ p3 ρ fun z => match z with
  | .lst ds => ∃ ns : List Int, ds = ns.map D.int ∧ (∀ x ∈ ns, 0 < x) ∧ ns.length ≤ 63 ∧ DD.rt .deal
  | _ => False
theorem lift_retDeal (K : PySem.W.Frag) {own : List Nat} {fr : Bool} {p1 p3 : TED} : ∀ D σ H, liftS K own fr .strong (sRetDeal p1 p3) D σ H →
    tRet (tDisp [(tC (.str "seed"), lift K own .strong p1), (tC (.str "number"), tC (.int 0)), (tC (.str "left"), lift K own .fresh p3)]) D σ H := by
  intro D σ H ⟨c0, H0, A, c, ρ, DD, hk, t, E, F, h, z⟩
  intro p hp
  have E1 := E.more (o := .dK []) hp
  have t1 : Step c H c (upd H p (.dK [])) := .one E.fok hp
  have nS : ¬ c.S p := E.fok.fresh hp
  refine ⟨c, _, ρ, _, hk, E1, h, fun c2 v2 H2 d2 t2 r2 g2 => ?_⟩
  obtain ⟨s, rfl, hs, g2⟩ := dInt_iff g2
  have r2 : Rep c2 _ H2 v2 (.int s) := r2
  cases r2
  have E2 := E1.step t2
  refine ⟨c2, _, ρ, _, t2.kk.trans hk, E2, g2, fun c3 v3 H3 d3 t3 r3 g3 => ?_⟩
  cases d3 with
  | lst ds =>
    obtain ⟨ns, rfl, h1, h2, g⟩ := g3
    obtain ⟨l, rfl, hl, nl, r3⟩ := r3
    cases r3 with
    | lst hz e3 rl =>
      have ev := rl.ints
      subst ev
      have n2 : ¬ c2.S p := t2.notS upd_same nS
      have hp2 : H2 p = some (.dK []) := t2.keep p _ nS upd_same
      have hp3 : H3 p = some (.dK []) := t3.keep p _ n2 hp2
      have n3 : ¬ c3.S p := t3.notS hp2 n2
      have lp : l ≠ p := fun z => by rw [z, hp2] at hl; cases hl
      refine ⟨hp3, feedKV s 0 l, rfl, (show 3 ≤ 15 by decide), ?_⟩
      rw [fm]
      have t13 : Step c0 H0 c3 H3 := ((t.trans t1).trans t2).trans t3
      have fp : H0 p = none := t.fresh hp
      have fl : H0 l = none := ((t.trans t1).trans t2).fresh hl
      have t4 : Step c0 H0 c3 (upd H3 p (.dK (feedKV s 0 l))) := t13.upd fp n3
      have t5 : Step c0 H0 (c3.plus p l) (upd H3 p (.dK (feedKV s 0 l))) := plus_step t4 n3 nl fp fl (.inl ⟨Ne.symm lp, s, 0, ns, upd_same, by rw [upd_ne lp]; exact e3, hs.1, hs.2, by decide, h1, h2⟩)
      exact z.rt (c3.plus p l) (.ref p) _ .deal (t3.kk.trans (t2.kk.trans hk)) t5 (show Rep _ _ _ _ _ from .deal (Ne.symm lp) (.inr ⟨rfl, rfl⟩)) g
  | _ => exact g3.elim
theorem s_retDeal {X : Cx} {own : List Nat} {fr : Bool} {st : Stmt} {p1 p3 : TED} (h : PS X st (tRet (tDisp [(tC (.str "seed"), lift X.K own .strong p1), (tC (.str "number"), tC (.int 0)), (tC (.str "left"), lift X.K own .fresh p3)]))) : PS X st (liftS X.K own fr .strong (sRetDeal p1 p3)) := ps_imp h (lift_retDeal _)
structure DefD (P : Program) (w : World) (K : PySem.W.Frag) (mg : Str → Option Value) (base : Heap) (x : Str) (k n : Nat) (ko : Kd) (g : List D → (D → Prop) → Prop) : Prop where
  ex : ∃ (f : Addr) (fd : FuncData) (ps : List Str), FnOk P w K mg base CX0 k f fd ps (spD K n ko g) ∧ mg x = some (.ref f) ∧ PySem.W.keepIn K (.ref f) = true ∧ Binds K fd ps []
section
variable {X : Cx} {own : List Nat} {pos : Pos} {e : Expr} {es : List Expr} {x : Str} {pn : Pos} {k n : Nat} {ko : Kd} {w : List D → (D → Prop) → Prop} {pa : TAD}
theorem e_callD (F : DefD X.prog X.w X.K X.mg X.base x k n ko w) (hr : Room k X.A) (ha : PA X (e :: es) (liftA X.K own .strong n pa)) (hk : ko ≠ .weak := by intro z; cases z) (hg : Gl X x := by rfl)
    (hs : starEach (e :: es) X.env = (false, eval e X.env) :: starEach es X.env := by rfl) (hpl : (backTo pos (starEach es X.env)).any (·.1) = false := by rfl) (hd : (x == ("__debug__" : Str)) = false := by decide) :
    PE X (.Call (.Name x pn) (e :: es) [] pos) (lift X.K own ko (pCall w pa)) := by
  obtain ⟨f, fd, ps, F, hm, hkp, hb⟩ := F.ex
  exact e_call F hr hm hkp hb ha hk hg hs hpl hd
theorem e_callDW (F : DefD X.prog X.w X.K X.mg X.base x k n .strong w) (hr : Room k X.A) (ha : PA X (e :: es) (liftA X.K own .weak n pa)) (hg : Gl X x := by rfl)
    (hs : starEach (e :: es) X.env = (false, eval e X.env) :: starEach es X.env := by rfl) (hpl : (backTo pos (starEach es X.env)).any (·.1) = false := by rfl) (hd : (x == ("__debug__" : Str)) = false := by decide) :
    PE X (.Call (.Name x pn) (e :: es) [] pos) (lift X.K own .strong (pCallW w pa)) := by
  obtain ⟨f, fd, ps, F, hm, hkp, hb⟩ := F.ex
  exact e_callW F hr hm hkp hb ha hg hs hpl hd
end
def spLawD (K : PySem.W.Frag) : Sp := fun vs H Q _ => ∃ (a : Addr) (ns : List Int), vs = [.ref a] ∧ SqL K H a (ns.map V.int) ∧ ns.length ≤ 63 ∧ ∀ H', Q (.bl true) H'
theorem law_d {P : Program} {w : World} {K : PySem.W.Frag} {mg : Str → Option Value} {base : Heap} {k : Nat} {f : Addr} {fd : FuncData} {ps : List Str} {g : List D → (D → Prop) → Prop} (F : FnOk P w K mg base CX0 k f fd ps (spD K 1 .strong g)) (h : ∀ ns : List Int, ns.length ≤ 63 → g [.scr ns] fun d => d = .bl true) :
    FnOk P w K mg base CX0 k f fd ps (spLawD K) := F.imp fun vs H Q E ⟨a, ns, e, ha, hl, q⟩ => by
  subst e
  refine ⟨rfl, ⟨K, fun _ _ => False⟩, fun _ => False, [.scr ns], _, rfl, ⟨fun _ _ z => z.elim, fun _ _ _ _ z => z.elim⟩, fun _ z => z.elim, .cons (.scr hl (ha.imp (fun z => ⟨fun z => z.elim id fun ⟨_, _, f, _⟩ => f, z⟩) fun z => .inr z)) .nil, h ns hl, fun c' v H' d t r e => ?_⟩
  subst e
  have r : Rep c' _ H' v (.bl true) := r
  cases r
  exact q H'
end DL

set_option Elab.async false
set_option linter.all false
set_option maxRecDepth 100000
set_option maxHeartbeats 4000000
namespace DL
open PySem PySem.Spec PyProof.Rows L2
section
variable {X : Cx} {own : List Nat} {fr : Bool} {ko : Kd} {pos : Pos}
def sPar (i j : Nat) (pa : TAD) : TSD := fun DD ρ => pa ρ fun ds => match ds with | [d, e] => DD.nx ((ρ.set i (some d)).set j (some e)) | _ => False
def sPar3 (i j l : Nat) (pa : TAD) : TSD := fun DD ρ => pa ρ fun ds => match ds with | [d, e, f] => DD.nx (((ρ.set i (some d)).set j (some e)).set l (some f)) | _ => False
theorem set_own {σ : L2.St} {ρ : PEnv} {i : Nat} {v : V} {d : D} (hi : i ∉ own) : ∀ j, j ∈ own → (ρ.set i (some d))[j]? = ρ[j]? ∧ (σ.set i (some v))[j]? = σ[j]? := fun j hj => by
  have hne : i ≠ j := fun z => hi (z ▸ hj)
  rw [List.getElem?_set_ne hne, List.getElem?_set_ne hne]
  exact ⟨rfl, rfl⟩
theorem avd_set {c : Cfg} {A : Addr → Prop} {σ : L2.St} {ρ : PEnv} {i : Nat} {v : V} {d : D} (hi : i ∉ own) : Avd c own A (σ.set i (some v)) (ρ.set i (some d)) = Avd c own A σ ρ := avd_congr (set_own hi)
theorem lift_par (K : PySem.W.Frag) {i j n : Nat} {pa : TAD} (hi : i ∉ own) (hj : j ∉ own) : ∀ D σ H, liftS K own fr ko (sPar i j pa) D σ H → tPar i j (liftA K own .strong n pa) D σ H := fun D σ H ⟨c0, H0, A, c, ρ, DD, hk, t, E, F, h, z⟩ => ⟨c, A, ρ, _, hk, E, h, fun c1 vs H1 ds t1 r1 hn g1 => by
  match ds, paired_strong r1, g1 with
  | [d, e], .cons r1 (.cons r2 .nil), g1 =>
    refine ⟨_, _, rfl, ?_⟩
    have E1 := (E.step t1).set hi r1
    have E2 := E1.set hj (by rw [avd_set hi]; exact r2)
    exact z.nx.here (t1.kk.trans hk) (t.trans t1) E2 ((F.congr (set_own hi)).congr (set_own hj)) g1⟩
theorem s_par (i j : Nat) {x y : Str} {a b : Expr} {n : Nat} {pa : TAD} {px py pt : Pos} {kt k2 pt2} (hc : X.calm = true) (hN : X.N.Nodup) (ha : PA X [a, b] (liftA X.K own .strong n pa)) (hi : X.N[i]? = some x := by rfl) (hj : X.N[j]? = some y := by rfl) (hij : i ≠ j := by decide)
    (hx : X.env.scope.names.lookup x = some .local := by rfl) (hy : X.env.scope.names.lookup y = some .local := by rfl) (ho : i ∉ own := by decide) (ho2 : j ∉ own := by decide)
    (hw : swappedStores [.Tuple [.Name x px, .Name y py] kt pt] (.Tuple [a, b] k2 pt2) X.env = pure (some [x, y]) := by rfl)
    (hs : swapsWithSole [.Tuple [.Name x px, .Name y py] kt pt] (.Tuple [a, b] k2 pt2) pos.line X.env = pure false := by rfl) :
    PS X (.Assign [.Tuple [.Name x px, .Name y py] kt pt] (.Tuple [a, b] k2 pt2) pos) (liftS X.K own fr ko (sPar i j pa)) := ps_imp (ps_par hc hN hi hj hij hx hy ha hw hs) (lift_par _ ho ho2)
theorem lift_par3 (K : PySem.W.Frag) {i j l n : Nat} {pa : TAD} (hi : i ∉ own) (hj : j ∉ own) (hl : l ∉ own) : ∀ D σ H, liftS K own fr ko (sPar3 i j l pa) D σ H → tPar3 i j l (liftA K own .strong n pa) D σ H := fun D σ H ⟨c0, H0, A, c, ρ, DD, hk, t, E, F, h, z⟩ => ⟨c, A, ρ, _, hk, E, h, fun c1 vs H1 ds t1 r1 hn g1 => by
  match ds, paired_strong r1, g1 with
  | [d, e, f], .cons r1 (.cons r2 (.cons r3 .nil)), g1 =>
    refine ⟨_, _, _, rfl, ?_⟩
    have E1 := (E.step t1).set hi r1
    have E2 := E1.set hj (by rw [avd_set hi]; exact r2)
    have E3 := E2.set hl (by rw [avd_set hj, avd_set hi]; exact r3)
    exact z.nx.here (t1.kk.trans hk) (t.trans t1) E3 (((F.congr (set_own hi)).congr (set_own hj)).congr (set_own hl)) g1⟩
theorem s_par3 (i j l : Nat) {x y z : Str} {a b c : Expr} {n : Nat} {pa : TAD} {px py pz pt : Pos} {kt k2 pt2} (hc : X.calm = true) (hN : X.N.Nodup) (ha : PA X [a, b, c] (liftA X.K own .strong n pa)) (hi : X.N[i]? = some x := by rfl) (hj : X.N[j]? = some y := by rfl) (hl : X.N[l]? = some z := by rfl) (hij : i ≠ j := by decide) (hil : i ≠ l := by decide) (hjl : j ≠ l := by decide)
    (hx : X.env.scope.names.lookup x = some .local := by rfl) (hy : X.env.scope.names.lookup y = some .local := by rfl) (hz : X.env.scope.names.lookup z = some .local := by rfl) (ho : i ∉ own := by decide) (ho2 : j ∉ own := by decide) (ho3 : l ∉ own := by decide)
    (hw : swappedStores [.Tuple [.Name x px, .Name y py, .Name z pz] kt pt] (.Tuple [a, b, c] k2 pt2) X.env = pure (some [x, y, z]) := by rfl)
    (hs : swapsWithSole [.Tuple [.Name x px, .Name y py, .Name z pz] kt pt] (.Tuple [a, b, c] k2 pt2) pos.line X.env = pure false := by rfl) :
    PS X (.Assign [.Tuple [.Name x px, .Name y py, .Name z pz] kt pt] (.Tuple [a, b, c] k2 pt2) pos) (liftS X.K own fr ko (sPar3 i j l pa)) := ps_imp (ps_par3 hc hN hi hj hl hij hil hjl hx hy hz ha hw hs) (lift_par3 _ ho ho2 ho3)
end
end DL

set_option Elab.async false
set_option linter.all false
set_option maxRecDepth 100000
set_option maxHeartbeats 4000000
namespace DL
open PySem PySem.Spec PyProof.Rows L2

theorem compY {tg : TGD} {te : TED} {ρ : PEnv} (P : D → D → Prop) : ∀ (ds : List D) (acc : List D) (R : List D → Prop), (∀ d ∈ ds, ∀ R : D → Prop, (∀ y, P d y → R y) → tg d ρ fun ρ1 => te ρ1 R) → (∀ ys, Paired P ds ys → R (acc ++ ys)) → compR tg tYesD te ρ ds acc R
  | [], acc, R, _, h => by
    have := h [] .nil
    rw [List.append_nil] at this
    exact this
  | d :: ds, acc, R, hs, h => by
    have e : (fun ρ1 => tYesD ρ1 fun b => if b = true then te ρ1 fun y => compR tg tYesD te ρ ds (acc ++ [y]) R else compR tg tYesD te ρ ds acc R) = fun ρ1 => te ρ1 fun y => compR tg tYesD te ρ ds (acc ++ [y]) R := by
      funext ρ1
      simp [tYesD]
    show tg d ρ (fun ρ1 => tYesD ρ1 fun b => if b = true then te ρ1 fun y => compR tg tYesD te ρ ds (acc ++ [y]) R else compR tg tYesD te ρ ds acc R)
    rw [e]
    exact hs d List.mem_cons_self _ fun y hy => compY P ds _ R (fun d' hd => hs d' (List.mem_cons_of_mem _ hd)) fun ys r => by
      have := h (y :: ys) (.cons hy r)
      rw [List.append_assoc]
      exact this
theorem compM {tg : TGD} {te : TED} {ρ : PEnv} (f : D → D) : ∀ (ds : List D) (acc : List D) (R : List D → Prop), (∀ d ∈ ds, ∀ R : D → Prop, R (f d) → tg d ρ fun ρ1 => te ρ1 R) → R (acc ++ ds.map f) → compR tg tYesD te ρ ds acc R
  | [], acc, R, _, h => by rw [List.map_nil, List.append_nil] at h; exact h
  | d :: ds, acc, R, hs, h => by
    have e : (fun ρ1 => tYesD ρ1 fun b => if b = true then te ρ1 fun y => compR tg tYesD te ρ ds (acc ++ [y]) R else compR tg tYesD te ρ ds acc R) = fun ρ1 => te ρ1 fun y => compR tg tYesD te ρ ds (acc ++ [y]) R := by
      funext ρ1
      simp [tYesD]
    show tg d ρ (fun ρ1 => tYesD ρ1 fun b => if b = true then te ρ1 fun y => compR tg tYesD te ρ ds (acc ++ [y]) R else compR tg tYesD te ρ ds acc R)
    rw [e]
    exact hs d List.mem_cons_self _ (compM f ds _ R (fun d' hd => hs d' (List.mem_cons_of_mem _ hd)) (by
      rw [List.append_assoc]
      exact h))
theorem compF {tg : TGD} {tt : TTD} {te : TED} {ρ : PEnv} (c : D → Bool) (f : D → D) : ∀ (ds : List D) (acc : List D) (R : List D → Prop),
    (∀ d ∈ ds, ∀ (K1 : D → Prop) (K2 : Prop), (c d = true → K1 (f d)) → (c d = false → K2) → tg d ρ fun ρ1 => tt ρ1 fun b => if b = true then te ρ1 K1 else K2) → R (acc ++ (ds.filter c).map f) → compR tg tt te ρ ds acc R
  | [], acc, R, _, h => by rw [List.filter_nil, List.map_nil, List.append_nil] at h; exact h
  | d :: ds, acc, R, hs, h => by
    refine hs d List.mem_cons_self _ _ (fun hc => ?_) fun hc => ?_
    · refine compF c f ds _ R (fun d' hd => hs d' (List.mem_cons_of_mem _ hd)) ?_
      rw [List.filter_cons_of_pos hc] at h
      rw [List.append_assoc]
      exact h
    · refine compF c f ds _ R (fun d' hd => hs d' (List.mem_cons_of_mem _ hd)) ?_
      rw [List.filter_cons_of_neg (by rw [hc]; exact Bool.false_ne_true)] at h
      exact h
theorem forI {tg : TGD} {body : TSD} {DD : DEnds} (I : List D → PEnv → Prop) (step : ∀ d rest ρ (N : PEnv → Prop), I (d :: rest) ρ → (∀ ρ', I rest ρ' → N ρ') → tg d ρ fun ρ1 => body { DD with nx := N, ct := N, bk := DD.nx } ρ1) (hend : ∀ ρ, I [] ρ → DD.nx ρ) : ∀ ds ρ, I ds ρ → forR tg body DD ds ρ
  | [], ρ, h => hend ρ h
  | d :: ds, ρ, h => step d ds ρ _ h fun ρ' h' => forI I step hend ds ρ' h'
def bnd (k : Nat) (i : Int) : Prop := i.natAbs < 2 ^ k
theorem bnd_mono {k l : Nat} {i : Int} (h : bnd k i) (hl : k ≤ l) : bnd l i := Nat.lt_of_lt_of_le h (Nat.pow_le_pow_right (by decide) hl)
theorem bnd_add {k l : Nat} {i j : Int} (h : bnd k i) (g : bnd l j) : bnd (max k l + 1) (i + j) := by
  have h1 := bnd_mono h (Nat.le_max_left k l)
  have h2 := bnd_mono g (Nat.le_max_right k l)
  unfold bnd at *
  rw [Nat.pow_succ]
  omega
theorem bnd_neg {k : Nat} {i : Int} (h : bnd k i) : bnd k (-i) := by unfold bnd at *; omega
theorem bnd_sub {k l : Nat} {i j : Int} (h : bnd k i) (g : bnd l j) : bnd (max k l + 1) (i - j) := by
  rw [Int.sub_eq_add_neg]; exact bnd_add h (bnd_neg g)
theorem bnd_mul {k l : Nat} {i j : Int} (h : bnd k i) (g : bnd l j) : bnd (k + l) (i * j) := wide_lt h g
theorem bnd_abs {k : Nat} {i : Int} (h : bnd k i) : bnd k (if i < 0 then -i else i) := by unfold bnd at *; split <;> omega
theorem bnd_mulOk {k l : Nat} {i j : Int} (h : bnd k i) (g : bnd l j) (hk : 0 < k := by decide) (hl : 0 < l := by decide) (hs : k + l ≤ 1000000 := by decide) : mulOk i j := wide_mul h g hk hl hs
theorem bnd_of {k : Nat} {i lo hi : Int} (h : lo ≤ i) (g : i ≤ hi) (h1 : lo.natAbs < 2 ^ k := by decide) (h2 : hi.natAbs < 2 ^ k := by decide) : bnd k i := by unfold bnd; omega
theorem bnd_log {k : Nat} {i : Int} (h : bnd k i) (hk : 0 < k := by decide) (hs : k ≤ 9000 := by decide) : i.natAbs.log2 < 9000 := Nat.lt_of_lt_of_le (PySem.Flt.log2_lt_of hk h) hs
theorem bnd_edvd {k : Nat} {i j : Int} (h : bnd k i) (hj : 0 < j) : bnd k (i.fdiv j) := by
  unfold bnd at *
  rw [Int.fdiv_eq_ediv_of_nonneg i (Int.le_of_lt hj)]
  have := Int.natAbs_ediv_le_natAbs i j
  omega
theorem atI_0 {x : D} {xs : List D} : L2.atI (x :: xs) 0 = some x := L2.atI_nat (xs := x :: xs) (j := 0) rfl
theorem atI_1 {x y : D} {xs : List D} : L2.atI (x :: y :: xs) 1 = some y := L2.atI_nat (xs := x :: y :: xs) (j := 1) rfl
theorem atI_2 {x y z : D} {xs : List D} : L2.atI (x :: y :: z :: xs) 2 = some z := L2.atI_nat (xs := x :: y :: z :: xs) (j := 2) rfl
theorem atI_3 {x y z u : D} {xs : List D} : L2.atI (x :: y :: z :: u :: xs) 3 = some u := L2.atI_nat (xs := x :: y :: z :: u :: xs) (j := 3) rfl
theorem atI_get {xs : List D} {i : Int} (h : 0 ≤ i) (hl : i < xs.length) : L2.atI xs i = some (xs[i.toNat]'(by omega)) := by
  have e : i = ((i.toNat : Nat) : Int) := (Int.toNat_of_nonneg h).symm
  have := L2.atI_nat (xs := xs) (j := i.toNat) (v := xs[i.toNat]'(by omega)) (List.getElem?_eq_getElem (by omega))
  rw [← e] at this
  exact this
theorem isi_eq {d : D} {T : String} {R : D → Prop} {b : Bool} (n : String) (hn : tyOf d = n) (h1 : n ∈ tyNames) (h2 : T ∈ tyNames) (h3 : isTy n T = b) : dIsi [d, .ty T] R = R (.bl b) := by
  subst h3
  subst hn
  exact propext ⟨fun h => h.2, fun h => ⟨⟨h1, h2⟩, h⟩⟩
theorem isi_int_int {i : Int} {R : D → Prop} : dIsi [(.int i), .ty "int"] R = R (.bl true) := isi_eq "int" rfl (by decide) (by decide) (by decide)
theorem isi_int_bool {i : Int} {R : D → Prop} : dIsi [(.int i), .ty "bool"] R = R (.bl false) := isi_eq "int" rfl (by decide) (by decide) (by decide)
theorem isi_int_str {i : Int} {R : D → Prop} : dIsi [(.int i), .ty "str"] R = R (.bl false) := isi_eq "int" rfl (by decide) (by decide) (by decide)
theorem isi_int_tuple {i : Int} {R : D → Prop} : dIsi [(.int i), .ty "tuple"] R = R (.bl false) := isi_eq "int" rfl (by decide) (by decide) (by decide)
theorem isi_int_list {i : Int} {R : D → Prop} : dIsi [(.int i), .ty "list"] R = R (.bl false) := isi_eq "int" rfl (by decide) (by decide) (by decide)
theorem isi_bl_int {b : Bool} {R : D → Prop} : dIsi [(.bl b), .ty "int"] R = R (.bl true) := isi_eq "bool" rfl (by decide) (by decide) (by decide)
theorem isi_bl_bool {b : Bool} {R : D → Prop} : dIsi [(.bl b), .ty "bool"] R = R (.bl true) := isi_eq "bool" rfl (by decide) (by decide) (by decide)
theorem isi_bl_str {b : Bool} {R : D → Prop} : dIsi [(.bl b), .ty "str"] R = R (.bl false) := isi_eq "bool" rfl (by decide) (by decide) (by decide)
theorem isi_bl_tuple {b : Bool} {R : D → Prop} : dIsi [(.bl b), .ty "tuple"] R = R (.bl false) := isi_eq "bool" rfl (by decide) (by decide) (by decide)
theorem isi_bl_list {b : Bool} {R : D → Prop} : dIsi [(.bl b), .ty "list"] R = R (.bl false) := isi_eq "bool" rfl (by decide) (by decide) (by decide)
theorem isi_str_int {x : Str} {R : D → Prop} : dIsi [(.str x), .ty "int"] R = R (.bl false) := isi_eq "str" rfl (by decide) (by decide) (by decide)
theorem isi_str_bool {x : Str} {R : D → Prop} : dIsi [(.str x), .ty "bool"] R = R (.bl false) := isi_eq "str" rfl (by decide) (by decide) (by decide)
theorem isi_str_str {x : Str} {R : D → Prop} : dIsi [(.str x), .ty "str"] R = R (.bl true) := isi_eq "str" rfl (by decide) (by decide) (by decide)
theorem isi_str_tuple {x : Str} {R : D → Prop} : dIsi [(.str x), .ty "tuple"] R = R (.bl false) := isi_eq "str" rfl (by decide) (by decide) (by decide)
theorem isi_str_list {x : Str} {R : D → Prop} : dIsi [(.str x), .ty "list"] R = R (.bl false) := isi_eq "str" rfl (by decide) (by decide) (by decide)
theorem isi_non_int  {R : D → Prop} : dIsi [.non, .ty "int"] R = R (.bl false) := isi_eq "NoneType" rfl (by decide) (by decide) (by decide)
theorem isi_non_bool  {R : D → Prop} : dIsi [.non, .ty "bool"] R = R (.bl false) := isi_eq "NoneType" rfl (by decide) (by decide) (by decide)
theorem isi_non_str  {R : D → Prop} : dIsi [.non, .ty "str"] R = R (.bl false) := isi_eq "NoneType" rfl (by decide) (by decide) (by decide)
theorem isi_non_tuple  {R : D → Prop} : dIsi [.non, .ty "tuple"] R = R (.bl false) := isi_eq "NoneType" rfl (by decide) (by decide) (by decide)
theorem isi_non_list  {R : D → Prop} : dIsi [.non, .ty "list"] R = R (.bl false) := isi_eq "NoneType" rfl (by decide) (by decide) (by decide)
theorem isi_tup_int {ds : List D} {R : D → Prop} : dIsi [(.tup ds), .ty "int"] R = R (.bl false) := isi_eq "tuple" rfl (by decide) (by decide) (by decide)
theorem isi_tup_bool {ds : List D} {R : D → Prop} : dIsi [(.tup ds), .ty "bool"] R = R (.bl false) := isi_eq "tuple" rfl (by decide) (by decide) (by decide)
theorem isi_tup_str {ds : List D} {R : D → Prop} : dIsi [(.tup ds), .ty "str"] R = R (.bl false) := isi_eq "tuple" rfl (by decide) (by decide) (by decide)
theorem isi_tup_tuple {ds : List D} {R : D → Prop} : dIsi [(.tup ds), .ty "tuple"] R = R (.bl true) := isi_eq "tuple" rfl (by decide) (by decide) (by decide)
theorem isi_tup_list {ds : List D} {R : D → Prop} : dIsi [(.tup ds), .ty "list"] R = R (.bl false) := isi_eq "tuple" rfl (by decide) (by decide) (by decide)
theorem isi_lst_int {ds : List D} {R : D → Prop} : dIsi [(.lst ds), .ty "int"] R = R (.bl false) := isi_eq "list" rfl (by decide) (by decide) (by decide)
theorem isi_lst_bool {ds : List D} {R : D → Prop} : dIsi [(.lst ds), .ty "bool"] R = R (.bl false) := isi_eq "list" rfl (by decide) (by decide) (by decide)
theorem isi_lst_str {ds : List D} {R : D → Prop} : dIsi [(.lst ds), .ty "str"] R = R (.bl false) := isi_eq "list" rfl (by decide) (by decide) (by decide)
theorem isi_lst_tuple {ds : List D} {R : D → Prop} : dIsi [(.lst ds), .ty "tuple"] R = R (.bl false) := isi_eq "list" rfl (by decide) (by decide) (by decide)
theorem isi_lst_list {ds : List D} {R : D → Prop} : dIsi [(.lst ds), .ty "list"] R = R (.bl true) := isi_eq "list" rfl (by decide) (by decide) (by decide)
theorem sIx_all (n k : Nat) (h : n ≤ k) : HT.sIx n n (some (k : Int)) = n := by rw [HT.sIx_nat]; omega
end DL

set_option Elab.async false
set_option linter.all false
set_option maxRecDepth 100000
set_option maxHeartbeats 4000000
namespace DL
open PySem PySem.Spec PyProof.Rows L2
section
variable {DD : DEnds} {ρ : PEnv} {R : D → Prop} {RL : List D → Prop} {RB : Bool → Prop} {p q r : TSD} {a b c : TED} {pa : TAD} {t u : TTD} {i j l : Nat} {g : TGD} {gs : TGsD} {Q : PEnv → Prop} {d e : D} {ds es : List D} {x y : Int} {s z : Str} {k : Bool}
theorem x_fnS {m : Nat} : fnW .strong m p ds R = p ⟨fun _ => R .non, R, fun _ => False, fun _ => False⟩ (startD m ds) := propext Iff.rfl
theorem x_fnF {m : Nat} : fnW .fresh m p ds R = p ⟨fun _ => False, R, fun _ => False, fun _ => False⟩ (startD m ds) := propext Iff.rfl
theorem x_seq : sSeqD p q DD ρ = p ⟨q DD, DD.rt, DD.bk, DD.ct⟩ ρ := propext Iff.rfl
theorem x_next : sNext DD ρ = DD.nx ρ := propext Iff.rfl
theorem x_pass : sPass DD ρ = DD.nx ρ := propext Iff.rfl
theorem x_brk : sBrk DD ρ = DD.bk ρ := propext Iff.rfl
theorem x_cnt : sCnt DD ρ = DD.ct ρ := propext Iff.rfl
theorem x_set : sSet i a DD ρ = a ρ fun d => DD.nx (ρ.set i (some d)) := propext Iff.rfl
theorem x_ret : sRet a DD ρ = a ρ DD.rt := propext Iff.rfl
theorem x_retN : sRetN DD ρ = DD.rt .non := propext Iff.rfl
theorem x_if : sIf t p q DD ρ = t ρ fun b => if b = true then p DD ρ else q DD ρ := propext Iff.rfl
theorem x_asg : sAsg a g DD ρ = a ρ fun d => g d ρ DD.nx := propext Iff.rfl
theorem x_drop : sDrop a DD ρ = a ρ fun _ => DD.nx ρ := propext Iff.rfl
def two (ds : List D) (f : D → D → Prop) : Prop := match ds with | [d, e] => f d e | _ => False
def three (ds : List D) (f : D → D → D → Prop) : Prop := match ds with | [d, e, u] => f d e u | _ => False
theorem x_par : sPar i j pa DD ρ = pa ρ fun ds => two ds fun d e => DD.nx ((ρ.set i (some d)).set j (some e)) := propext Iff.rfl
theorem x_par3 : sPar3 i j l pa DD ρ = pa ρ fun ds => three ds fun d e u => DD.nx (((ρ.set i (some d)).set j (some e)).set l (some u)) := propext Iff.rfl
theorem x_two {f : D → D → Prop} : two [d, e] f = f d e := propext Iff.rfl
theorem x_three {f : D → D → D → Prop} {u : D} : three [d, e, u] f = f d e u := propext Iff.rfl
theorem x_for {src : TAD} : sFor src g p DD ρ = src ρ fun ds => forR g p DD ds ρ := propext Iff.rfl
theorem x_gN : gN i d ρ Q = Q (ρ.set i (some d)) := propext Iff.rfl
theorem x_gsN : gsN [] ρ Q = Q ρ := propext Iff.rfl
theorem x_gsC : gsC g gs (d :: ds) ρ Q = g d ρ fun ρ' => gs ds ρ' Q := propext Iff.rfl
theorem x_gT : gT gs (.tup ds) ρ Q = gs ds ρ Q := propext Iff.rfl
theorem x_gTl : gT gs (.lst ds) ρ Q = gs ds ρ Q := propext Iff.rfl
def optD (o : Option (Option D)) (R : D → Prop) : Prop := match o with | some (some d) => R d | _ => False
theorem x_pV : pV i ρ R = optD ρ[i]? R := propext Iff.rfl
theorem x_opt : optD (some (some d)) R = R d := propext Iff.rfl
theorem x_pC : pC d ρ R = R d := propext Iff.rfl
theorem x_p1 {f : D → (D → Prop) → Prop} : p1 f a ρ R = a ρ fun x => f x R := propext Iff.rfl
theorem x_p2 {f : D → D → (D → Prop) → Prop} : p2 f a b ρ R = a ρ fun x => b ρ fun y => f x y R := propext Iff.rfl
theorem x_pL {f : List D → (D → Prop) → Prop} : pL f pa ρ R = pa ρ fun ds => f ds R := propext Iff.rfl
theorem x_call {f : List D → (D → Prop) → Prop} : pCall f pa ρ R = pa ρ fun ds => f ds R := propext Iff.rfl
theorem x_callW {f : List D → (D → Prop) → Prop} : pCallW f pa ρ R = pa ρ fun ds => f ds fun d => d.flat = true ∧ R d := propext Iff.rfl
theorem x_paN : paN ρ RL = RL [] := propext Iff.rfl
theorem x_paC : paC a pa ρ RL = a ρ fun x => pa ρ fun xs => RL (x :: xs) := propext Iff.rfl
theorem x_tup : pTup pa ρ R = pa ρ fun ds => R (.tup ds) := propext Iff.rfl
theorem x_lst : pLst pa ρ R = pa ρ fun ds => R (.lst ds) := propext Iff.rfl
theorem x_tV : tV a ρ RB = a ρ fun x => dBl x RB := propext Iff.rfl
theorem x_tAnd : tAndD t u ρ RB = t ρ fun b => if b = true then u ρ RB else RB false := propext Iff.rfl
theorem x_tOr : tOrD t u ρ RB = t ρ fun b => if b = true then RB true else u ρ RB := propext Iff.rfl
theorem x_tNot : tNotD t ρ RB = t ρ fun b => RB (!b) := propext Iff.rfl
theorem x_pAnd : pAnd a b ρ R = a ρ fun x => dBl x fun k => if k = true then b ρ R else R (.bl false) := propext Iff.rfl
theorem x_pOr : pOr a b ρ R = a ρ fun x => dBl x fun k => if k = true then R (.bl true) else b ρ R := propext Iff.rfl
theorem x_pNot : pNot a ρ R = a ρ fun x => dBl x fun k => R (.bl (!k)) := propext Iff.rfl
theorem x_pIf : pIf t a b ρ R = t ρ fun k => if k = true then a ρ R else b ρ R := propext Iff.rfl
theorem x_chain {f h : D → D → (D → Prop) → Prop} : pChain f h a b c ρ R = a ρ fun x => b ρ fun y => f x y fun z => dBl z fun k => if k = true then c ρ fun v => h y v R else R (.bl false) := propext Iff.rfl
theorem x_bl {f : Bool → Prop} : dBl (.bl k) f = f k := propext Iff.rfl
theorem x_int {f : Int → Prop} : dInt (.int x) f = f x := propext Iff.rfl
theorem x_addI : dAdd (.int x) (.int y) R = R (.int (x + y)) := propext Iff.rfl
theorem x_addS : dAdd (.str s) (.str z) R = (s.length + z.length ≤ sizeLine ∧ R (.str (s ++ z))) := propext Iff.rfl
theorem x_addL : dAdd (.lst ds) (.lst es) R = (ds.length + es.length ≤ sizeLine ∧ R (.lst (ds ++ es))) := propext Iff.rfl
theorem x_addT : dAdd (.tup ds) (.tup es) R = (ds.length + es.length ≤ sizeLine ∧ R (.tup (ds ++ es))) := propext Iff.rfl
theorem x_cat : dCat (.lst ds) (.lst es) R = (ds.length + es.length ≤ sizeLine ∧ R (.lst (ds ++ es))) := propext Iff.rfl
theorem x_sub : dSub (.int x) (.int y) R = R (.int (x - y)) := propext Iff.rfl
theorem x_mul : dMul (.int x) (.int y) R = (mulOk x y ∧ R (.int (x * y))) := propext Iff.rfl
theorem x_mulL : dMul (.lst ds) (.int y) R = ((-(2 ^ 63) ≤ y ∧ y < 2 ^ 63 ∧ ds.length * y.toNat ≤ sizeLine) ∧ R (.lst (List.replicate y.toNat ds).flatten)) := propext Iff.rfl
theorem x_mulT : dMul (.tup ds) (.int y) R = ((-(2 ^ 63) ≤ y ∧ y < 2 ^ 63 ∧ ds.length * y.toNat ≤ 1000000) ∧ R (.tup (List.replicate y.toNat ds).flatten)) := propext Iff.rfl
theorem x_rep : dRep (.lst ds) (.int y) R = ((-(2 ^ 63) ≤ y ∧ y < 2 ^ 63 ∧ ds.length * y.toNat ≤ sizeLine) ∧ R (.lst (List.replicate y.toNat ds).flatten)) := propext Iff.rfl
theorem x_div : dDiv (.int x) (.int y) R = ((y ≠ 0 ∧ y.natAbs.log2 < 9000) ∧ R (.int (x.fdiv y))) := propext Iff.rfl
theorem x_mod : dMod (.int x) (.int y) R = (y ≠ 0 ∧ R (.int (x.fmod y))) := propext Iff.rfl
theorem x_pow : dPow (.int x) (.int y) R = ((0 ≤ y ∧ y ≤ 1000000 ∧ x.natAbs < 2 ^ 64) ∧ R (.int (x ^ y.toNat))) := propext Iff.rfl
theorem x_neg : dNeg (.int x) R = R (.int (-x)) := propext Iff.rfl
theorem x_eq : dEq d e R = ((okD 60 d = true ∧ okD 60 e = true) ∧ R (.bl (eqD d e))) := propext Iff.rfl
theorem x_ne : dNe d e R = ((okD 60 d = true ∧ okD 60 e = true) ∧ R (.bl (!eqD d e))) := propext Iff.rfl
theorem x_eqI : dEq (.int x) (.int y) R = R (.bl (decide (x = y))) := by
  rw [x_eq]
  have e : eqD (.int x) (.int y) = decide (x = y) := by simp only [eqD]; exact Bool.beq_eq_decide_eq x y
  rw [e]
  simp [okD]
theorem x_neI : dNe (.int x) (.int y) R = R (.bl (!decide (x = y))) := by
  rw [x_ne]
  have e : eqD (.int x) (.int y) = decide (x = y) := by simp only [eqD]; exact Bool.beq_eq_decide_eq x y
  rw [e]
  simp [okD]
theorem x_ltI : dLtI (.int x) (.int y) R = R (.bl (decide (x < y))) := propext Iff.rfl
theorem x_leI : dLeI (.int x) (.int y) R = R (.bl (decide (x ≤ y))) := propext Iff.rfl
theorem x_gtI : dGtI (.int x) (.int y) R = R (.bl (decide (y < x))) := propext Iff.rfl
theorem x_geI : dGeI (.int x) (.int y) R = R (.bl (decide (y ≤ x))) := propext Iff.rfl
theorem x_isN : dIsN d .non R = R (.bl d.isN) := propext Iff.rfl
theorem x_notN : dNotN d .non R = R (.bl (!d.isN)) := propext Iff.rfl
theorem x_nN : D.isN .non = true := rfl
theorem x_nI : D.isN (.int x) = false := rfl
theorem x_nB : D.isN (.bl k) = false := rfl
theorem x_nS : D.isN (.str s) = false := rfl
theorem x_nT : D.isN (.tup ds) = false := rfl
theorem x_nL : D.isN (.lst ds) = false := rfl
theorem x_ixT : dIx (.tup ds) (.int x) R = ∃ d, L2.atI ds x = some d ∧ R d := propext Iff.rfl
theorem x_ixL : dIx (.lst ds) (.int x) R = ∃ d, L2.atI ds x = some d ∧ R d := propext Iff.rfl
theorem x_ixS : dIx (.str z) (.int x) R = (z.length ≤ sizeLine ∧ ∃ c, L2.atI z.cps.toList x = some c ∧ R (.str ⟨#[c]⟩)) := propext Iff.rfl
theorem x_len_l : dLen [.lst ds] R = R (.int ds.length) := propext Iff.rfl
theorem x_len_t : dLen [.tup ds] R = R (.int ds.length) := propext Iff.rfl
theorem x_len_c {ns : List Int} : dLen [.scr ns] R = R (.int ns.length) := propext Iff.rfl
theorem x_len_s : dLen [.str z] R = (z.length ≤ sizeLine ∧ R (.int z.length)) := propext Iff.rfl
theorem x_all : dAll [.lst ds] R = ∃ bs : List Bool, ds = bs.map D.bl ∧ R (.bl (bs.all id)) := propext Iff.rfl
theorem x_any : dAny [.lst ds] R = ∃ bs : List Bool, ds = bs.map D.bl ∧ R (.bl (bs.any id)) := propext Iff.rfl
theorem x_abs : dAbs [.int x] R = R (.int (if x < 0 then -x else x)) := propext Iff.rfl
theorem x_max2 : dMax2 [.int x, .int y] R = R (.int (if y > x then y else x)) := propext Iff.rfl
theorem x_min2 : dMin2 [.int x, .int y] R = R (.int (if y < x then y else x)) := propext Iff.rfl
theorem x_toI : dToI [.int x] R = R (.int x) := propext Iff.rfl
theorem x_toB : dToI [.bl k] R = R (.int (if k then 1 else 0)) := propext Iff.rfl
theorem x_tuL : dTuple [.lst ds] R = R (.tup ds) := propext Iff.rfl
theorem x_tuT : dTuple [.tup ds] R = R (.tup ds) := propext Iff.rfl
theorem x_liL : dList [.lst ds] R = R (.lst ds) := propext Iff.rfl
theorem x_liT : dList [.tup ds] R = R (.lst ds) := propext Iff.rfl
theorem x_rev : dRev (.lst ds) R = R (.lst ds.reverse) := propext Iff.rfl
theorem x_pSl {f : D → Option Int → Option Int → (D → Prop) → Prop} {lo hi : TOD} : pSl f a lo hi ρ R = a ρ fun x => lo ρ fun l => hi ρ fun u => f x l u R := propext Iff.rfl
theorem x_oN {RO : Option Int → Prop} : oNone ρ RO = RO none := propext Iff.rfl
theorem x_oS {RO : Option Int → Prop} : oSome a ρ RO = a ρ fun x => dInt x fun i => RO (some i) := propext Iff.rfl
theorem x_slL {o v : Option Int} : dSl (.lst ds) o v R = R (.lst (cutD ds o v)) := propext Iff.rfl
theorem x_slT {o v : Option Int} : dSl (.tup ds) o v R = R (.tup (cutD ds o v)) := propext Iff.rfl
theorem x_slC {o v : Option Int} {ns : List Int} : dSl (.scr ns) o v R = R (.lst (cutD (ns.map D.int) o v)) := propext Iff.rfl
theorem x_slS {o v : Option Int} : dSl (.str z) o v R = (z.length ≤ sizeLine ∧ R (.str (cutS z o v))) := propext Iff.rfl
theorem x_slLL {o v : Option Int} : dSlL (.lst ds) o v R = R (.lst (cutD ds o v)) := propext Iff.rfl
theorem x_slLC {o v : Option Int} {ns : List Int} : dSlL (.scr ns) o v R = R (.lst (cutD (ns.map D.int) o v)) := propext Iff.rfl
def dSeq (x : D) (RL : List D → Prop) : Prop := match x with | .lst ds => RL ds | .tup ds => RL ds | _ => False
theorem x_sSeq : sSeq a ρ RL = a ρ fun x => dSeq x RL := propext Iff.rfl
theorem x_seqL : dSeq (.lst ds) RL = RL ds := propext Iff.rfl
theorem x_seqT : dSeq (.tup ds) RL = RL ds := propext Iff.rfl
def one (ds : List D) (f : D → Prop) : Prop := match ds with | [d] => f d | _ => False
theorem x_one {f : D → Prop} : one [d] f = f d := propext Iff.rfl
theorem x_rng1 : sRng1 pa ρ RL = pa ρ fun ds => one ds fun x => dInt x fun j => small62 j ∧ RL (rangeD 0 j) := propext Iff.rfl
theorem x_rng2 : sRng2 pa ρ RL = pa ρ fun ds => two ds fun x y => dInt x fun i => dInt y fun j => small62 i ∧ small62 j ∧ RL (rangeD i j) := propext Iff.rfl
theorem x_comp {src : TAD} {vs : List Nat} : pComp src g t a vs ρ R = src ρ fun ds => ds.length ≤ sizeLine ∧ compR g t a (wipeD ρ vs) ds [] fun acc => R (.lst acc) := propext Iff.rfl
theorem x_w0 : wipeD ρ [] = ρ := rfl
theorem x_w1 {vs : List Nat} {v : Nat} : wipeD ρ (v :: vs) = (wipeD ρ vs).set v none := rfl
theorem x_start {m : Nat} : startD m ds = ds.map some ++ List.replicate (m - ds.length) none := rfl
theorem x_yes : tYesD ρ RB = RB true := propext Iff.rfl
theorem x_comp0 {acc : List D} : compR g t a ρ [] acc RL = RL acc := propext Iff.rfl
theorem x_comp1 {acc : List D} : compR g t a ρ (d :: ds) acc RL = g d ρ fun ρ1 => t ρ1 fun b => if b = true then a ρ1 fun y => compR g t a ρ ds (acc ++ [y]) RL else compR g t a ρ ds acc RL := propext Iff.rfl
theorem x_for0 : forR g p DD [] ρ = DD.nx ρ := propext Iff.rfl
theorem x_for1 : forR g p DD (d :: ds) ρ = g d ρ fun ρ1 => p ⟨forR g p DD ds, DD.rt, DD.nx, forR g p DD ds⟩ ρ1 := propext Iff.rfl
theorem x_app : sApp i a DD ρ = ownL ρ i fun ds => a ρ fun d => ds.length < sizeLine ∧ DD.nx (ρ.set i (some (.lst (ds ++ [d])))) := propext Iff.rfl
def optL (o : Option (Option D)) (f : List D → Prop) : Prop := match o with | some (some (.lst ds)) => f ds | _ => False
theorem x_own {f : List D → Prop} : ownL ρ i f = optL ρ[i]? f := propext Iff.rfl
theorem x_optL {f : List D → Prop} : optL (some (some (.lst ds))) f = f ds := propext Iff.rfl
theorem x_item : sItem i a b DD ρ = ownL ρ i fun ds => b ρ fun d => a ρ fun k => dInt k fun k => ∃ j, ixN ds.length k = some j ∧ DD.nx (ρ.set i (some (.lst (ds.set j d)))) := propext Iff.rfl
theorem x_draw {m : Int} : wDraw [.deal, .int m] R = ((0 < m ∧ m.natAbs.log2 < 9000) ∧ ∀ r, 0 ≤ r → r < m → R (.int r)) := propext Iff.rfl
theorem x_retDeal : sRetDeal a b DD ρ = a ρ fun x => dInt x fun s => (0 ≤ s ∧ s < 2147483648) ∧ b ρ fun z => match z with
  | .lst ds => ∃ ns : List Int, ds = ns.map D.int ∧ (∀ x ∈ ns, 0 < x) ∧ ns.length ≤ 63 ∧ DD.rt .deal
  | _ => False := propext Iff.rfl
theorem ok_i {n : Nat} : okD n (.int x) = true := by cases n <;> simp [okD]
theorem ok_b {n : Nat} : okD n (.bl k) = true := by cases n <;> simp [okD]
theorem ok_n {n : Nat} : okD n .non = true := by cases n <;> simp [okD]
theorem ok_t {n : Nat} : okD (n + 1) (.tup ds) = okD.okDs n ds := by simp [okD]
theorem ok_l {n : Nat} : okD (n + 1) (.lst ds) = okD.okDs n ds := by simp [okD]
theorem ok_0 {n : Nat} : okD.okDs n [] = true := by cases n <;> simp [okD.okDs]
theorem ok_c {n : Nat} : okD.okDs n (d :: ds) = (okD n d && okD.okDs n ds) := by cases n <;> simp [okD.okDs]
theorem eq_ii : eqD (.int x) (.int y) = decide (x = y) := by simp only [eqD]; exact Bool.beq_eq_decide_eq x y
theorem eq_tt : eqD (.tup ds) (.tup es) = eqD.eqDs ds es := by simp [eqD]
theorem eq_ll : eqD (.lst ds) (.lst es) = eqD.eqDs ds es := by simp [eqD]
theorem eq_0 : eqD.eqDs [] [] = true := by simp [eqD.eqDs]
theorem eq_c : eqD.eqDs (d :: ds) (e :: es) = (eqD d e && eqD.eqDs ds es) := by simp [eqD.eqDs]
theorem eq_ss : eqD (.str s) (.str z) = (s == z) := by simp [eqD]
theorem eq_bb {k' : Bool} : eqD (.bl k) (.bl k') = (k == k') := by simp [eqD]
theorem eq_nn : eqD .non .non = true := by simp [eqD]
mutual
theorem eq_refl : ∀ (d : D) (n : Nat), okD n d = true → eqD d d = true
  | .non, _, _ => by simp [eqD]
  | .bl _, _, _ => by simp [eqD]
  | .int _, _, _ => by simp [eqD]
  | .str _, _, _ => by simp [eqD]
  | .ty _, _, h => by simp [okD] at h
  | .ref _, _, h => by simp [okD] at h
  | .deal, _, h => by simp [okD] at h
  | .feed, _, h => by simp [okD] at h
  | .scr _, _, h => by simp [okD] at h
  | .dT _ _, _, h => by simp [okD] at h
  | .dK _ _, _, h => by simp [okD] at h
  | .tup ds, n, h => by
    match n, h with
    | 0, h => simp [okD] at h
    | n + 1, h => rw [eq_tt]; exact eqs_refl ds n (by simpa [okD] using h)
  | .lst ds, n, h => by
    match n, h with
    | 0, h => simp [okD] at h
    | n + 1, h => rw [eq_ll]; exact eqs_refl ds n (by simpa [okD] using h)
theorem eqs_refl : ∀ (ds : List D) (n : Nat), okD.okDs n ds = true → eqD.eqDs ds ds = true
  | [], _, _ => eq_0
  | d :: ds, n, h => by
    simp only [okD.okDs, Bool.and_eq_true] at h
    rw [eq_c, eq_refl d n h.1, eqs_refl ds n h.2]
    rfl
end
end
end DL

set_option Elab.async false
set_option linter.all false
set_option maxRecDepth 100000
set_option maxHeartbeats 4000000
namespace DL
open PySem PySem.Spec PyProof.Rows L2
def zipD (xs ys : List D) : List D := List.zipWith (fun x y => D.tup [x, y]) xs ys
def enumD (xs : List D) : List D := zipD (rangeD 0 xs.length) xs
section
variable {c : Cfg} {Av : Addr → Prop} {H0 : Hp} {a b : Addr} {xs ys : List V} {ds es : List D}
theorem pair_new {c2 : Cfg} {Av2 : Addr → Prop} {H2 : Hp} {T : Addr} {x y : V} {d e : D} (al : ∀ b, Av2 b → H2 b ≠ none) (hT : H2 T = none) (rx : Rep c2 Av2 H2 x d) (ry : Rep c2 Av2 H2 y e) :
    (∀ b o, H2 b = some o → (upd H2 T (.tup [x, y])) b = some o) ∧ Rep c2 Av2 (upd H2 T (.tup [x, y])) (.ref T) (.tup [d, e]) := by
  have k : ∀ b o, H2 b = some o → (upd H2 T (.tup [x, y])) b = some o := fun b o e => by rw [upd_ne (ne_of_none e hT)]; exact e
  refine ⟨k, .tup ⟨by show 2 ≤ sizeLine; decide, fun z => al _ z hT, upd_same⟩ ?_⟩
  exact RepL.mv rfl (fun _ _ z => z) (fun b o n e => ⟨n, k b o e⟩) _ _ (.cons rx (.cons ry .nil))
theorem itz_any {J : It} (hav : ∀ b, c.S b → Av b) (rx : RepL c Av H0 xs ds) (ry : RepL c Av H0 ys es)
    (h : ∀ c2 H2, Step c H0 c2 H2 → ∀ i, ((xs.length ≤ i ∨ ys.length ≤ i) → J.stop i H2) ∧ ∀ x y, xs[i]? = some x → ys[i]? = some y → J.go i H2 ∧ ∀ v H3, J.yld i H2 v H3 → ∃ T, v = .ref T ∧ H2 T = none ∧ H3 = upd H2 T (.tup [x, y])) : ItOk c Av J H0 (zipD ds es) := fun c2 H2 Av2 t al m i => by
  have mv : ∀ b o, ¬ Av b → H0 b = some o → ¬ Av2 b ∧ H2 b = some o := fun b o n e => ⟨m b o n e, t.keep b o (fun z => n (hav b z)) e⟩
  have r1 : RepL c2 Av2 H2 xs ds := RepL.mv t.kk t.sub mv _ _ rx
  have r2 : RepL c2 Av2 H2 ys es := RepL.mv t.kk t.sub mv _ _ ry
  refine ⟨fun hl => (h c2 H2 t i).1 ?_, fun d hd => ?_⟩
  · unfold zipD at hl
    rw [List.length_zipWith, ← r1.len, ← r2.len] at hl
    omega
  · unfold zipD at hd
    rw [List.getElem?_zipWith_eq_some] at hd
    obtain ⟨d1, d2, h1, h2, rfl⟩ := hd
    obtain ⟨x, hx, q1⟩ := r1.get h1
    obtain ⟨y, hy, q2⟩ := r2.get h2
    obtain ⟨g1, g2⟩ := (h c2 H2 t i).2 x y hx hy
    refine ⟨g1, fun v H3 yy => ?_⟩
    obtain ⟨T, rfl, hT, rfl⟩ := g2 v H3 yy
    exact pair_new al hT q1 q2
theorem itz_ok (hav : ∀ b, c.S b → Av b) (ha : ∀ c2 H2, Step c H0 c2 H2 → SqL c.K H2 a xs) (hb : ∀ c2 H2, Step c H0 c2 H2 → SqL c.K H2 b ys) (rx : RepL c Av H0 xs ds) (ry : RepL c Av H0 ys es) : ItOk c Av (Itz c.K a b) H0 (zipD ds es) :=
  itz_any hav rx ry fun c2 H2 t i => ⟨fun hl => ⟨xs, ys, ha _ _ t, hb _ _ t, hl⟩, fun x y hx hy => ⟨⟨xs, ys, x, y, ha _ _ t, hb _ _ t, hx, hy⟩, fun v H3 ⟨T, x', y', e, hT, e3, h1, h2⟩ => ⟨T, e, hT, by
    have e1 := Option.some.inj ((h1 xs (ha _ _ t)).symm.trans hx)
    have e2 := Option.some.inj ((h2 ys (hb _ _ t)).symm.trans hy)
    rw [e3, e1, e2]⟩⟩⟩
theorem itzT_ok (hav : ∀ b, c.S b → Av b) (ha : ∀ c2 H2, Step c H0 c2 H2 → SqT c.K H2 a xs) (hb : ∀ c2 H2, Step c H0 c2 H2 → SqT c.K H2 b ys) (rx : RepL c Av H0 xs ds) (ry : RepL c Av H0 ys es) : ItOk c Av (RZ.ItzT c.K a b) H0 (zipD ds es) :=
  itz_any hav rx ry fun c2 H2 t i => ⟨fun hl => ⟨xs, ys, ha _ _ t, hb _ _ t, hl⟩, fun x y hx hy => ⟨⟨xs, ys, x, y, ha _ _ t, hb _ _ t, hx, hy⟩, fun v H3 ⟨T, x', y', e, hT, e3, h1, h2⟩ => ⟨T, e, hT, by
    have e1 := Option.some.inj ((h1 xs (ha _ _ t)).symm.trans hx)
    have e2 := Option.some.inj ((h2 ys (hb _ _ t)).symm.trans hy)
    rw [e3, e1, e2]⟩⟩⟩
theorem rangeL (c : Cfg) (Av : Addr → Prop) (H : Hp) (lo : Int) : ∀ (l : List Nat), RepL c Av H (l.map fun i => V.int (lo + (i : Nat))) (l.map fun i => D.int (lo + (i : Nat)))
  | [] => .nil
  | _ :: l => .cons (.int _) (rangeL c Av H lo l)
theorem ite_ok (hav : ∀ b, c.S b → Av b) (ha : ∀ c2 H2, Step c H0 c2 H2 → SqL c.K H2 a xs) (rx : RepL c Av H0 xs ds) : ItOk c Av (Ite c.K a) H0 (enumD ds) := by
  refine itz_any (xs := (List.range xs.length).map fun i => V.int (0 + (i : Nat))) (ys := xs) hav ?_ rx fun c2 H2 t i => ⟨fun hl => ⟨xs, ha _ _ t, by simpa using hl⟩, fun x y hx hy => ?_⟩
  · unfold rangeD
    rw [← rx.len, show ((xs.length : Int) - 0).toNat = xs.length by omega]
    exact rangeL c Av H0 0 _
  · refine ⟨⟨xs, y, ha _ _ t, hy⟩, fun v H3 ⟨T, x', e, hT, e3, h1⟩ => ⟨T, e, hT, ?_⟩⟩
    have e1 := Option.some.inj ((h1 xs (ha _ _ t)).symm.trans hy)
    have hi : i < xs.length := (List.getElem?_eq_some_iff.mp hy).1
    rw [List.getElem?_map, List.getElem?_range hi] at hx
    have e2 : V.int (0 + (i : Nat)) = x := Option.some.inj hx
    rw [Int.zero_add] at e2
    rw [e3, e1, e2]
end
def dZip (x y : D) (R : List D → Prop) : Prop := match x, y with
  | .lst xs, .lst ys => R (zipD xs ys)
  | .tup xs, .tup ys => R (zipD xs ys)
  | _, _ => False
def twoD (ds : List D) (f : D → D → Prop) : Prop := match ds with | [x, y] => f x y | _ => False
def oneD (ds : List D) (f : D → Prop) : Prop := match ds with | [x] => f x | _ => False
def dEnum (x : D) (R : List D → Prop) : Prop := match x with
  | .lst xs => R (enumD xs)
  | _ => False
def sZip (pa : TAD) : TAD := fun ρ R => pa ρ fun ds => twoD ds fun x y => dZip x y R
def sEnum (pa : TAD) : TAD := fun ρ R => pa ρ fun ds => oneD ds fun x => dEnum x R
theorem oneD_iff {ds : List D} {f : D → Prop} (h : oneD ds f) : ∃ x, ds = [x] ∧ f x := by
  match ds, h with
  | [x], h => exact ⟨x, rfl, h⟩
theorem twoD_iff {ds : List D} {f : D → D → Prop} (h : twoD ds f) : ∃ x y, ds = [x, y] ∧ f x y := by
  match ds, h with
  | [x, y], h => exact ⟨x, y, rfl, h⟩
theorem dZip_iff {x y : D} {R : List D → Prop} (h : dZip x y R) : ∃ xs ys, ((x = .lst xs ∧ y = .lst ys) ∨ (x = .tup xs ∧ y = .tup ys)) ∧ R (zipD xs ys) := by
  unfold dZip at h
  split at h
  · exact ⟨_, _, .inl ⟨rfl, rfl⟩, h⟩
  · exact ⟨_, _, .inr ⟨rfl, rfl⟩, h⟩
  · exact h.elim
theorem dEnum_iff {x : D} {R : List D → Prop} (h : dEnum x R) : ∃ xs, x = .lst xs ∧ R (enumD xs) := by
  unfold dEnum at h
  split at h
  · exact ⟨_, rfl, h⟩
  · exact h.elim
section
variable {c : Cfg} {own : List Nat} {A : Addr → Prop} {σ : L2.St} {ρ : PEnv} {H : Hp} {v : V} {ds : List D}
theorem RepW.lstK (r : RepW c own A σ ρ H v (.lst ds)) : ∃ a vs, v = .ref a ∧ H a = some (.lst vs) ∧ RepL c (Avd c own A σ ρ) H vs ds ∧ ∀ c2 H2, Step c H c2 H2 → SqL c.K H2 a vs := by
  obtain ⟨a, vs, e, hz, ha, rl⟩ := RepW.lst r
  have hs : ¬ c.S a := by
    rcases r with r | ⟨b, e', o, n1, n2, r⟩
    · rw [e] at r
      cases r with | lst n _ => exact fun z => n.2.1 (.inr (.inl z))
    · rw [e] at e'; cases e'; exact n2
  exact ⟨a, vs, e, ha, rl, fun c2 H2 t => .inl (.inl (t.keep a _ hs ha))⟩
theorem RepW.tupK (r : RepW c own A σ ρ H v (.tup ds)) : ∃ a vs, v = .ref a ∧ SqT c.K H a vs ∧ RepL c (Avd c own A σ ρ) H vs ds ∧ ∀ c2 H2, Step c H c2 H2 → SqT c.K H2 a vs := by
  obtain ⟨a, vs, e, n, rl⟩ := RepW.tup r
  refine ⟨a, vs, e, n.sq, rl, fun c2 H2 t => ?_⟩
  exact .inl (.inl (t.keep a _ (fun z => n.2.1 (avdS a z)) n.2.2))
theorem Rep.lstK (r : Rep c (Avd c own A σ ρ) H v (.lst ds)) : ∃ a vs, v = .ref a ∧ H a = some (.lst vs) ∧ RepL c (Avd c own A σ ρ) (DL.mask own σ ρ H) vs ds ∧ ∀ c2 H2, Step c (DL.mask own σ ρ H) c2 H2 → SqL c.K H2 a vs := by
  cases r with
  | lst n rl => exact ⟨_, _, rfl, n.2.2, RepL.mask rl, fun c2 H2 t => .inl (.inl (t.keep _ _ (fun z => n.2.1 (.inr (.inl z))) (mask_of (fun z => n.2.1 (.inr (.inr z))) n.2.2)))⟩
theorem Rep.tupK (r : Rep c (Avd c own A σ ρ) H v (.tup ds)) : ∃ a vs, v = .ref a ∧ SqT c.K H a vs ∧ RepL c (Avd c own A σ ρ) (DL.mask own σ ρ H) vs ds ∧ ∀ c2 H2, Step c (DL.mask own σ ρ H) c2 H2 → SqT c.K H2 a vs := by
  cases r with
  | tup n rl =>
    refine ⟨_, _, rfl, n.sq, RepL.mask rl, fun c2 H2 t => ?_⟩
    exact .inl (.inl (t.keep _ _ (fun z => n.2.1 (avdS _ z)) (mask_of (fun z => n.2.1 (.inr (.inr z))) n.2.2)))
end
theorem lift_zipW (K : PySem.W.Frag) {own : List Nat} {pa : TAD} : ∀ σ H Q, liftI K own .weak (sZip pa) σ H Q → RZ.iZipA K (liftA K own .weak 2 pa) σ H Q := fun σ H Q ⟨c, A, ρ, R, hk, E, hp, f⟩ => ⟨c, A, ρ, _, hk, E, hp, fun c1 vs H1 ds t r hn g => by
  obtain ⟨x, y, rfl, g⟩ := twoD_iff g
  obtain ⟨xs, ys, h, g⟩ := dZip_iff g
  have ek := t.kk.trans hk
  match r with
  | .cons r1 (.cons r2 .nil) =>
    rcases h with ⟨rfl, rfl⟩ | ⟨rfl, rfl⟩
    · obtain ⟨a, us, rfl, ha, rl, ka⟩ := RepW.lstK r1
      obtain ⟨b, ws, rfl, hb, rl2, kb⟩ := RepW.lstK r2
      have h := itz_ok avdS ka kb rl rl2
      rw [ek] at h
      exact ⟨a, b, us, ws, rfl, .inl ⟨.inl (.inl ha), .inl (.inl hb), f c1 _ H1 _ t h g⟩⟩
    · obtain ⟨a, us, rfl, ha, rl, ka⟩ := RepW.tupK r1
      obtain ⟨b, ws, rfl, hb, rl2, kb⟩ := RepW.tupK r2
      have h := itzT_ok avdS ka kb rl rl2
      rw [ek] at h ha hb
      exact ⟨a, b, us, ws, rfl, .inr ⟨ha, hb, f c1 _ H1 _ t h g⟩⟩⟩
theorem lift_zipS (K : PySem.W.Frag) {own : List Nat} {pa : TAD} : ∀ σ H Q, liftI K own .strong (sZip pa) σ H Q → RZ.iZipA K (liftA K own .strong 2 pa) σ H Q := fun σ H Q ⟨c, A, ρ, R, hk, E, hp, f⟩ => ⟨c, A, ρ, _, hk, E, hp, fun c1 vs H1 ds t r hn g => by
  obtain ⟨x, y, rfl, g⟩ := twoD_iff g
  obtain ⟨xs, ys, h, g⟩ := dZip_iff g
  have ek := t.kk.trans hk
  match r with
  | .cons r1 (.cons r2 .nil) =>
    rcases h with ⟨rfl, rfl⟩ | ⟨rfl, rfl⟩
    · obtain ⟨a, us, rfl, ha, rl, ka⟩ := Rep.lstK r1
      obtain ⟨b, ws, rfl, hb, rl2, kb⟩ := Rep.lstK r2
      have h := itz_ok avdS ka kb rl rl2
      rw [ek] at h
      exact ⟨a, b, us, ws, rfl, .inl ⟨.inl (.inl ha), .inl (.inl hb), f c1 _ H1 _ t h g⟩⟩
    · obtain ⟨a, us, rfl, ha, rl, ka⟩ := Rep.tupK r1
      obtain ⟨b, ws, rfl, hb, rl2, kb⟩ := Rep.tupK r2
      have h := itzT_ok avdS ka kb rl rl2
      rw [ek] at h ha hb
      exact ⟨a, b, us, ws, rfl, .inr ⟨ha, hb, f c1 _ H1 _ t h g⟩⟩⟩
theorem lift_enumW (K : PySem.W.Frag) {own : List Nat} {pa : TAD} : ∀ σ H Q, liftI K own .weak (sEnum pa) σ H Q → iEnum K (liftA K own .weak 1 pa) σ H Q := fun σ H Q ⟨c, A, ρ, R, hk, E, hp, f⟩ => ⟨c, A, ρ, _, hk, E, hp, fun c1 vs H1 ds t r hn g => by
  obtain ⟨x, rfl, g⟩ := oneD_iff g
  obtain ⟨xs, rfl, g⟩ := dEnum_iff g
  match r with
  | .cons r1 .nil =>
    obtain ⟨a, us, rfl, ha, rl, ka⟩ := RepW.lstK r1
    have h := ite_ok avdS ka rl
    rw [t.kk.trans hk] at h
    exact ⟨a, us, rfl, .inl (.inl ha), f c1 _ H1 _ t h g⟩⟩
theorem lift_enumS (K : PySem.W.Frag) {own : List Nat} {pa : TAD} : ∀ σ H Q, liftI K own .strong (sEnum pa) σ H Q → iEnum K (liftA K own .strong 1 pa) σ H Q := fun σ H Q ⟨c, A, ρ, R, hk, E, hp, f⟩ => ⟨c, A, ρ, _, hk, E, hp, fun c1 vs H1 ds t r hn g => by
  obtain ⟨x, rfl, g⟩ := oneD_iff g
  obtain ⟨xs, rfl, g⟩ := dEnum_iff g
  match r with
  | .cons r1 .nil =>
    obtain ⟨a, us, rfl, ha, rl, ka⟩ := Rep.lstK r1
    have h := ite_ok avdS ka rl
    rw [t.kk.trans hk] at h
    exact ⟨a, us, rfl, .inl (.inl ha), f c1 _ H1 _ t h g⟩⟩
section
variable {X : Cx} {own : List Nat} {pa : TAD} {e e2 : Expr} {p pos tpos : Pos} {elts : List Expr} {kk : Nat}
theorem i_zipW (hm : X.mg "zip" = none) (ha : PA X [e, e2] (liftA X.K own .weak 2 pa)) (hg : Gl X "zip" := by rfl) (hs : starEach [e, e2] X.env = (false, eval e X.env) :: starEach [e2] X.env := by rfl) (hpl : (backTo pos (starEach [e2] X.env)).any (·.1) = false := by rfl) :
    PI X (.Tuple elts kk tpos) (.Call (.Name "zip" p) [e, e2] [] pos) (liftI X.K own .weak (sZip pa)) := pi_imp (RZ.pi_zipA hg hm ha hs hpl) (lift_zipW _)
theorem i_zipS (hm : X.mg "zip" = none) (ha : PA X [e, e2] (liftA X.K own .strong 2 pa)) (hg : Gl X "zip" := by rfl) (hs : starEach [e, e2] X.env = (false, eval e X.env) :: starEach [e2] X.env := by rfl) (hpl : (backTo pos (starEach [e2] X.env)).any (·.1) = false := by rfl) :
    PI X (.Tuple elts kk tpos) (.Call (.Name "zip" p) [e, e2] [] pos) (liftI X.K own .strong (sZip pa)) := pi_imp (RZ.pi_zipA hg hm ha hs hpl) (lift_zipS _)
theorem i_enumW (hm : X.mg "enumerate" = none) (ha : PA X [e] (liftA X.K own .weak 1 pa)) (hg : Gl X "enumerate" := by rfl) (hs : starEach [e] X.env = [(false, eval e X.env)] := by rfl) :
    PI X (.Tuple elts kk tpos) (.Call (.Name "enumerate" p) [e] [] pos) (liftI X.K own .weak (sEnum pa)) := pi_imp (pi_enum hg hm ha hs) (lift_enumW _)
theorem i_enumS (hm : X.mg "enumerate" = none) (ha : PA X [e] (liftA X.K own .strong 1 pa)) (hg : Gl X "enumerate" := by rfl) (hs : starEach [e] X.env = [(false, eval e X.env)] := by rfl) :
    PI X (.Tuple elts kk tpos) (.Call (.Name "enumerate" p) [e] [] pos) (liftI X.K own .strong (sEnum pa)) := pi_imp (pi_enum hg hm ha hs) (lift_enumS _)
end
theorem x_sZip {pa : TAD} {ρ : PEnv} {R : List D → Prop} : sZip pa ρ R = pa ρ fun ds => twoD ds fun x y => dZip x y R := propext Iff.rfl
theorem x_sEnum {pa : TAD} {ρ : PEnv} {R : List D → Prop} : sEnum pa ρ R = pa ρ fun ds => oneD ds fun x => dEnum x R := propext Iff.rfl
theorem x_twoD {x y : D} {f : D → D → Prop} : twoD [x, y] f = f x y := propext Iff.rfl
theorem x_oneD {x : D} {f : D → Prop} : oneD [x] f = f x := propext Iff.rfl
theorem x_zipL {xs ys : List D} {R : List D → Prop} : dZip (.lst xs) (.lst ys) R = R (zipD xs ys) := propext Iff.rfl
theorem x_zipT {xs ys : List D} {R : List D → Prop} : dZip (.tup xs) (.tup ys) R = R (zipD xs ys) := propext Iff.rfl
theorem x_zc {x y : D} {xs ys : List D} : zipD (x :: xs) (y :: ys) = .tup [x, y] :: zipD xs ys := rfl
theorem x_zn : zipD [] [] = [] := rfl
theorem x_enL {xs : List D} {R : List D → Prop} : dEnum (.lst xs) R = R (enumD xs) := propext Iff.rfl
end DL

set_option Elab.async false
set_option linter.all false
set_option maxRecDepth 100000
set_option maxHeartbeats 4000000
namespace DLS
open PySem PySem.Spec PyProof.Rows L2
theorem perm_back {α β : Type} {f : α → β} : ∀ {ys : List β} {xs : List β}, ys.Perm xs → ∀ l : List α, xs = l.map f → ∃ l' : List α, l'.Perm l ∧ ys = l'.map f := by
  intro ys xs h
  induction h with
  | nil =>
    intro l e
    have : l = [] := by cases l with | nil => rfl | cons _ _ => cases e
    subst this
    exact ⟨[], .nil, rfl⟩
  | cons x _ ih =>
    intro l e
    cases l with
    | nil => cases e
    | cons a l =>
      injection e with e1 e2
      obtain ⟨l', p, e'⟩ := ih l e2
      exact ⟨a :: l', p.cons a, by rw [List.map_cons, ← e1, e']⟩
  | swap x y m =>
    intro l e
    match l, e with
    | [], e => cases e
    | [_], e => cases e
    | a :: b :: l, e =>
      injection e with e1 e2
      injection e2 with e2 e3
      exact ⟨b :: a :: l, List.Perm.swap _ _ _, by rw [List.map_cons, List.map_cons, ← e1, ← e2, e3]⟩
  | trans _ _ ih1 ih2 =>
    intro l e
    obtain ⟨l2, p2, e2⟩ := ih2 l e
    obtain ⟨l1, p1, e1⟩ := ih1 l2 e2
    exact ⟨l1, p1.trans p2, e1⟩
def pk (l : List Int) : Int × Int := (l.getD 0 0, l.getD 1 0)
section
variable {P : Program} {w : World} {A : Around} {E : Value → Shared → Prop} {s : Shared}
theorem isPair_of {h : Heap} {k : List Int} {b : Addr} (x : IsT P w h k b) (h2 : k.length = 2) : Srt.IsPair h (Value.ref b) (pk k).1 (pk k).2 := by
  obtain ⟨o, items, n, ho, hc, hd, hi⟩ := x
  match k, h2 with
  | [i, j], _ =>
    obtain ⟨its⟩ := items
    cases hi with
    | cons h1 hi => cases hi with
      | cons h2 hi =>
        cases hi
        obtain ⟨t1, rfl⟩ := Value.isInt_shape h1
        obtain ⟨t2, rfl⟩ := Value.isInt_shape h2
        exact ⟨b, o, t1, t2, n, rfl, ho, hc, hd⟩
open Classical in
noncomputable def kv (L : List (Addr × List Int)) (v : Value) : Int × Int := if h : ∃ q, q ∈ L ∧ v = Value.ref q.1 then pk h.choose.2 else (0, 0)
theorem kv_eq {h : Heap} {L : List (Addr × List Int)} (tk : ∀ q ∈ L, IsT P w h q.2 q.1) {q : Addr × List Int} (hq : q ∈ L) : kv L (Value.ref q.1) = pk q.2 := by
  unfold kv
  have ex : ∃ r, r ∈ L ∧ Value.ref q.1 = Value.ref r.1 := ⟨q, hq, rfl⟩
  rw [dif_pos ex]
  obtain ⟨h1, h2⟩ := ex.choose_spec
  have h3 : q.1 = ex.choose.1 := by injection h2
  have a1 := tk _ h1
  have a2 := tk _ hq
  rw [h3] at a2
  rw [a1.inj a2]
theorem sorted_setP {a : Addr} {L : List (Addr × List Int)} {es : Array (Int × Value)} {ep : Nat} {t : SetTable} {Q : Value → Shared → Prop} (R : SetTR P w s.heap a L es ep t) (hh : A.handled = none) (h2 : ∀ q ∈ L, q.2.length = 2)
    (hQ : ∀ (s' : Shared) (d : Addr) (L' : List (Addr × List Int)), L'.Perm L → L'.Pairwise (fun q r => SrtO.lexB (pk r.2) (pk q.2) = false) → (∀ b o, s.heap.get? b = some o → s'.heap.get? b = some o) → s'.gens = s.gens → s'.os = s.os → s.heap.objs.size ≤ d →
      (∃ n, s'.heap.get? d = some (seqObj "list" (L'.map fun q => Value.ref q.1).toArray n)) → Q (.ref d) s') : wpAny (model P w) A (call (.builtin "sorted") [.ref a]) Q E s := by
  have ⟨ob, ho, hex, hd⟩ := R.ob
  have few := R.few
  have sz := R.size
  refine Calls.call_function_entry kind_sorted plain_sorted entry_sorted (args_sorted1 _) (?_ : wpAny _ _ _ _ _ _)
  unfold Builtin.«sorted»
  refine wpAny_bind (m := checkCount "sorted" 1 1 _) (wpAny_pure ?_)
  refine wpAny_bind (collect_set (A := A.in1) hh ⟨ob, ho, hex.1, hd⟩ R.fits (by unfold scanBound; omega) R.tab.ris R.led fun s1 vs k1 hz g1 o1 pm => (?_ : wpAny _ _ _ _ _ _))
  have hes : es.toList.map (·.2) = L.map fun q => Value.ref q.1 := by
    rw [R.rows, rowsOf, List.map_map] <;> rfl
  rw [hes] at pm
  have zl : vs.length ≤ sizeLine := by rw [pm.length_eq, List.length_map, sizeLine_eq]; omega
  have kq : ∀ q ∈ L, IsT P w s1.heap q.2 q.1 := fun q hq => isT_keep (R.tup q hq) k1
  have inL : ∀ v ∈ vs, ∃ q ∈ L, v = Value.ref q.1 := fun v hv => by
    obtain ⟨q, hq, e⟩ := List.mem_map.mp (pm.mem_iff.mp hv)
    exact ⟨q, hq, e.symm⟩
  refine wpAny_bind (wpAny_newList (?_ : wpAny _ _ _ _ _ _) zl)
  have hoL : (s1.heap.push (seqObj "list" vs.toArray 0)).get? s1.heap.objs.size = some (seqObj "list" vs.toArray 0) := Heap.get?_push_size _ rfl
  refine wpAny_bind (wpAny_holding (wpAny_call_entry slot_list_sort ⟨_, hoL, rfl⟩ entry_list_sort (SrtO.list_sort_ord (SrtO.swo_lex (kv L)) hoL zl (fun l2 => ?_) fun out hs hb => ⟨_, rfl, ?_⟩) (args_list_sort _)))
  · refine SrtO.pairs_sortableO (by omega) (fun v hv => ?_) fun o e => ?_
    · obtain ⟨q, hq, rfl⟩ := inL v hv
      rw [kv_eq kq hq]
      exact isPair_of (isT_keep (kq q hq) fun b o e => Heap.get?_push_of_some _ e) (h2 q hq)
    · rw [hoL] at e
      cases e
      intro c
      exact absurd (Value.type.inj c) (by decide)
  · obtain ⟨L', pL, e'⟩ := perm_back (hb.perm.trans pm) L rfl
    subst e'
    obtain ⟨n, hn⟩ := sortedHeap_at (vs := vs) (out := (L'.map fun q => Value.ref q.1).toArray) hoL
    refine wpAny_pure ⟨_, rfl, hQ _ s1.heap.objs.size L' pL ?_ (fun b u e => ?_) g1 o1 hz ⟨n, hn⟩⟩
    · refine List.Pairwise.imp_of_mem (fun {q r} hq hr hle => ?_) (List.pairwise_map.mp hs)
      have e3 : SrtO.lexB (kv L (Value.ref r.1)) (kv L (Value.ref q.1)) = false := hle
      rw [kv_eq kq (pL.mem_iff.mp hq), kv_eq kq (pL.mem_iff.mp hr)] at e3
      exact e3
    · have e1 := k1 b u e
      have lt := Heap.lt_size e1
      show (sortedHeap (s1.heap.push (seqObj "list" vs.toArray 0)) s1.heap.objs.size vs _).get? b = some u
      rw [sortedHeap_old (Nat.ne_of_lt lt) (by rw [size_push']; exact Nat.lt_succ_of_lt lt)]
      exact Heap.get?_push_of_some _ e1
end
section
variable {X : Cx}
def rSortP (K : PySem.W.Frag) (P : Program) (w : World) : List V → Hp → VK → Prop := fun vs H Q => ∃ (a : Addr) (L : List (Addr × List Int)), vs = [V.ref a] ∧ H a = some (SetTO P w a L) ∧ (∀ q ∈ L, SqT K H q.1 (q.2.map V.int)) ∧ (∀ q ∈ L, q.2.length = 2) ∧
  ∀ (L' : List (Addr × List Int)) (p : Addr), L'.Perm L → (L'.map (·.2)).Nodup → L'.Pairwise (fun q r => SrtO.lexB (pk r.2) (pk q.2) = false) → H p = none → Q (.ref p) (upd H p (.lst (L'.map fun q => V.ref q.1)))
theorem cr_sortP (hc : X.calm = true) : CallR X (.builtin "sorted") (rSortP X.K X.prog X.w) := by
  rintro pins s σ H vs us Q I r ⟨a, L, rfl, ha, hk, h2, q⟩
  obtain ⟨es, ep, t, R⟩ := SetT0.full (show SetT0 X.prog X.w s.heap a L from (I.hok a _ ha).1) fun p hp => I.isT (hk p hp)
  rw [Vals.ref1 r]
  refine sorted_setP R (I.ok.hd hc) h2 fun s' d L' pm pw k g o hp ⟨n, hn⟩ => ?_
  have few : L'.length < 64 := by rw [pm.length_eq]; exact R.few
  have fr : H d = none := I.hok.fresh hp
  have J : Inv X pins σ (upd H d (.lst (L'.map fun q => V.ref q.1))) { s with heap := s'.heap, gens := s'.gens, drawn := s'.drawn, toks := s'.toks } :=
    I.call (ch := []) (Un.laid k hp fr) (I.hok.laid k hp ⟨by rw [List.length_map, sizeLine_eq]; omega, _, n, vals_of_refs L', hn⟩) (by rw [g]; exact I.bare) (fun _ z => nomatch z)
  obtain ⟨h', g', d', t', o'⟩ := s'
  cases o
  exact ⟨.ref d, _, J, rfl, q L' d pm ((pm.map (·.2)).nodup_iff.mpr R.nd) pw fr⟩
end
end DLS
namespace DL
open PySem PySem.Spec PyProof.Rows L2 DLS
def prD (p : Int × Int) : D := .tup [.int p.1, .int p.2]
def ltI2 (p q : Int × Int) : Prop := p.1 < q.1 ∨ (p.1 = q.1 ∧ p.2 < q.2)
instance (p q : Int × Int) : Decidable (ltI2 p q) := by unfold ltI2; infer_instance
def insU (p : Int × Int) : List (Int × Int) → List (Int × Int)
  | [] => [p]
  | q :: r => if ltI2 p q then p :: q :: r else if p = q then q :: r else q :: insU p r
def sortU (ps : List (Int × Int)) : List (Int × Int) := ps.foldr insU []
theorem ltI2_irr (p : Int × Int) : ¬ ltI2 p p := by unfold ltI2; omega
theorem ltI2_tr {p q r : Int × Int} (h : ltI2 p q) (g : ltI2 q r) : ltI2 p r := by unfold ltI2 at *; omega
theorem ltI2_tri (p q : Int × Int) : ltI2 p q ∨ p = q ∨ ltI2 q p := by
  obtain ⟨a, b⟩ := p
  obtain ⟨c, d⟩ := q
  unfold ltI2
  simp only [Prod.mk.injEq]
  omega
theorem mem_insU {p x : Int × Int} : ∀ {l : List (Int × Int)}, x ∈ insU p l ↔ x = p ∨ x ∈ l
  | [] => by simp [insU]
  | q :: r => by
    unfold insU
    split
    · simp
    · split
      · rename_i e; subst e; simp
      · rw [List.mem_cons, mem_insU, List.mem_cons]
        exact ⟨fun h => by rcases h with h | h | h <;> simp [h], fun h => by rcases h with h | h | h <;> simp [h]⟩
theorem insU_srt {p : Int × Int} : ∀ {l : List (Int × Int)}, l.Pairwise ltI2 → (insU p l).Pairwise ltI2
  | [], _ => by simp [insU]
  | q :: r, h => by
    unfold insU
    obtain ⟨h1, h2⟩ := List.pairwise_cons.mp h
    split
    · rename_i e
      exact List.pairwise_cons.mpr ⟨fun x hx => by
        rcases List.mem_cons.mp hx with z | z
        · rw [z]; exact e
        · exact ltI2_tr e (h1 x z), h⟩
    · split
      · exact h
      · rename_i n1 n2
        refine List.pairwise_cons.mpr ⟨fun x hx => ?_, insU_srt h2⟩
        rcases mem_insU.mp hx with z | z
        · rw [z]
          rcases ltI2_tri p q with z | z | z
          · exact absurd z n1
          · exact absurd z n2
          · exact z
        · exact h1 x z
theorem mem_sortU {x : Int × Int} : ∀ {l : List (Int × Int)}, x ∈ sortU l ↔ x ∈ l
  | [] => by simp [sortU]
  | p :: l => by
    show x ∈ insU p (sortU l) ↔ _
    rw [mem_insU, mem_sortU, List.mem_cons]
theorem insU_len {p : Int × Int} : ∀ {l : List (Int × Int)}, (insU p l).length ≤ l.length + 1
  | [] => Nat.le_refl _
  | q :: r => by
    have ih := insU_len (p := p) (l := r)
    unfold insU
    split
    · exact Nat.le_refl _
    · split
      · exact Nat.le_succ _
      · exact Nat.succ_le_succ ih
theorem sortU_len : ∀ (l : List (Int × Int)), (sortU l).length ≤ l.length
  | [] => Nat.le_refl _
  | p :: l => Nat.le_trans (insU_len (p := p) (l := sortU l)) (Nat.succ_le_succ (sortU_len l))
theorem sortU_srt : ∀ (l : List (Int × Int)), (sortU l).Pairwise ltI2
  | [] => .nil
  | p :: l => insU_srt (sortU_srt l)
theorem srt_uniq : ∀ (l m : List (Int × Int)), l.Pairwise ltI2 → m.Pairwise ltI2 → (∀ x, x ∈ l ↔ x ∈ m) → l = m
  | [], [], _, _, _ => rfl
  | [], y :: m, _, _, h => absurd ((h y).mpr List.mem_cons_self) (by simp)
  | x :: l, [], _, _, h => absurd ((h x).mp List.mem_cons_self) (by simp)
  | x :: l, y :: m, hl, hm, h => by
    obtain ⟨l1, l2⟩ := List.pairwise_cons.mp hl
    obtain ⟨m1, m2⟩ := List.pairwise_cons.mp hm
    have e : x = y := by
      rcases List.mem_cons.mp ((h x).mp List.mem_cons_self) with z | z
      · exact z
      · rcases List.mem_cons.mp ((h y).mpr List.mem_cons_self) with w | w
        · exact w.symm
        · exact absurd (ltI2_tr (m1 x z) (l1 y w)) (ltI2_irr y)
    subst e
    refine congrArg _ (srt_uniq l m l2 m2 fun z => ⟨fun hz => ?_, fun hz => ?_⟩)
    · rcases List.mem_cons.mp ((h z).mp (List.mem_cons_of_mem _ hz)) with w | w
      · subst w; exact absurd (l1 z hz) (ltI2_irr z)
      · exact w
    · rcases List.mem_cons.mp ((h z).mpr (List.mem_cons_of_mem _ hz)) with w | w
      · subst w; exact absurd (m1 z hz) (ltI2_irr z)
      · exact w
theorem sortU_id {l : List (Int × Int)} (h : l.Pairwise ltI2) : sortU l = l := srt_uniq _ _ (sortU_srt l) h fun _ => mem_sortU
def dSortSet (x : D) (R : D → Prop) : Prop := match x with
  | .lst ds => ∃ ps : List (Int × Int), ds = ps.map prD ∧ ps.length < 64 ∧ R (.lst ((sortU ps).map prD))
  | _ => False
section
variable {c : Cfg} {Av : Addr → Prop} {H : Hp}
theorem RepL.pairs : ∀ {ps : List (Int × Int)} {vs : List V}, RepL c Av H vs (ps.map prD) → ∃ ks : List (Addr × List Int), vs = ks.map (fun q => V.ref q.1) ∧ ks.map (·.2) = ps.map (fun p => [p.1, p.2]) ∧
    ∀ q ∈ ks, SqT c.K H q.1 (q.2.map V.int) ∧ q.2.length = 2 ∧ Rep c Av H (V.ref q.1) (prD (pk q.2))
  | [], _, .nil => ⟨[], rfl, rfl, fun _ h => nomatch h⟩
  | (i, j) :: ps, _, .cons r rl => by
    obtain ⟨ks, e1, e2, h⟩ := RepL.pairs rl
    have r' : Rep c Av H _ (.tup [.int i, .int j]) := r
    cases r' with
    | @tup a us _ n rr =>
      cases rr with
      | cons x1 rr => cases rr with
        | cons x2 rr =>
          cases rr; cases x1; cases x2
          refine ⟨(a, [i, j]) :: ks, by rw [e1] <;> rfl, by rw [List.map_cons, e2] <;> rfl, fun q hq => ?_⟩
          rcases List.mem_cons.mp hq with z | z
          · subst z; exact ⟨n.sq, rfl, r⟩
          · exact h q z
theorem RepL.refs : ∀ {ks : List (Addr × List Int)}, (∀ q ∈ ks, Rep c Av H (V.ref q.1) (prD (pk q.2))) → RepL c Av H (ks.map fun q => V.ref q.1) ((ks.map fun q => pk q.2).map prD)
  | [], _ => .nil
  | q :: ks, h => .cons (h q List.mem_cons_self) (RepL.refs fun r hr => h r (List.mem_cons_of_mem _ hr))
end
theorem sqT_upd {K : PySem.W.Frag} {H : Hp} {b S : Addr} {o : HO} {vs : List V} (h : SqT K H b vs) (hS : H S = none) : SqT K (upd H S o) b vs := by
  rcases h with h | h
  · refine .inl ?_
    rcases h with h | ⟨o', h⟩
    · exact .inl (by rw [upd_ne (ne_of_none h hS)]; exact h)
    · exact .inr ⟨o', by rw [upd_ne (ne_of_none h hS)]; exact h⟩
  · exact .inr h
theorem lift_sortSet {X : Cx} {own : List Nat} {p : TED} (P : Program) (w : World) : ∀ σ H Q, lift X.K own .fresh (p1 dSortSet p) σ H Q → tCB (rSortP X.K P w) (tCons (tCB (rSetOfT X.K P w) (tCons (lift X.K own .weak p) tNil)) tNil) σ H Q := fun σ H Q ⟨c, A, ρ, R, hk, E, hp, f⟩ => ⟨c, A, ρ, _, hk, E, hp, fun c1 v H1 d t1 r1 g1 => by
  cases d with
  | lst ds =>
    obtain ⟨ps, rfl, h64, g⟩ := g1
    obtain ⟨a, vs, rfl, z1, n1, rl⟩ := RepW.lst r1
    obtain ⟨ks, rfl, e2, hks⟩ := RepL.pairs rl
    have ek : c1.K = X.K := t1.kk.trans hk
    have lk : ks.length = ps.length := by
      have := congrArg List.length e2
      rwa [List.length_map, List.length_map] at this
    refine ⟨a, ks, rfl, .inl (.inl n1), fun q hq => ek ▸ (hks q hq).1, by omega, fun S L hS hsub hall => ?_⟩
    refine ⟨S, L, rfl, upd_same, fun q hq => sqT_upd (ek ▸ (hks q (hsub q hq)).1) hS, fun q hq => (hks q (hsub q hq)).2.1, fun L' p pm nd pw hp => ?_⟩
    have t2 : Step c H c1 (upd H1 S (SetTO P w S L)) := t1.more hS
    have e3 : (L'.map fun q => pk q.2) = sortU ps := by
      refine srt_uniq _ _ ?_ (sortU_srt ps) fun x => ?_
      · have nd2 : L'.Pairwise (fun q r => q.2 ≠ r.2) := List.pairwise_map.mp nd
        refine List.pairwise_map.mpr (List.Pairwise.imp_of_mem (fun {q r} hq hr h => ?_) (pw.and nd2))
        obtain ⟨h1, h2⟩ := h
        have l1 := (hks q (hsub q (pm.mem_iff.mp hq))).2.1
        have l2 := (hks r (hsub r (pm.mem_iff.mp hr))).2.1
        rcases ltI2_tri (pk q.2) (pk r.2) with z | z | z
        · exact z
        · refine absurd ?_ h2
          generalize q.2 = u at *
          generalize r.2 = w at *
          match u, w, l1, l2, z with
          | [i, j], [i', j'], _, _, z =>
            have z1 : i = i' := congrArg Prod.fst z
            have z2 : j = j' := congrArg Prod.snd z
            rw [z1, z2]
        · rw [SrtO.lexB_iff.mpr z] at h1
          cases h1
      · rw [mem_sortU, List.mem_map]
        constructor
        · rintro ⟨q, hq, rfl⟩
          have m : q.2 ∈ ks.map (·.2) := List.mem_map.mpr ⟨q, hsub q (pm.mem_iff.mp hq), rfl⟩
          rw [e2] at m
          obtain ⟨y, hy, e⟩ := List.mem_map.mp m
          rw [← e]
          exact hy
        · intro hx
          have m : [x.1, x.2] ∈ ks.map (·.2) := by rw [e2]; exact List.mem_map.mpr ⟨x, hx, rfl⟩
          obtain ⟨q, hq, e⟩ := List.mem_map.mp m
          obtain ⟨r, hr, e'⟩ := List.mem_map.mp (hall q hq)
          exact ⟨r, pm.mem_iff.mpr hr, by rw [e', e] <;> rfl⟩
    have E2 := E.step t2
    have lz : (L'.map fun q => V.ref q.1).length ≤ sizeLine := by
      have := congrArg List.length e3
      rw [List.length_map] at this ⊢
      have h1 := sortU_len ps
      exact sz_small (by omega)
    refine f c1 (.ref p) _ (.lst ((sortU ps).map prD)) (t2.more hp) (Fr.back t2 (Fr.newL E2 hp lz ?_)) g
    rw [← e3]
    refine RepL.refs fun q hq => ?_
    exact Rep.mv rfl (fun _ _ z => z) (fun b o n e => ⟨n, by rw [upd_ne (ne_of_none e hS)]; exact e⟩) _ _ (hks q (hsub q (pm.mem_iff.mp hq))).2.2
  | _ => exact g1.elim⟩
theorem e_sortSet {X : Cx} {own : List Nat} {e : Expr} {p : TED} {k : Nat} {pn p2 pos pos2 : Pos} (hc : X.calm = true) (hr : Room k X.A) (hm : X.mg "sorted" = none) (hm2 : X.mg "set" = none) (he : PE X e (lift X.K own .weak p)) (hg : Gl X "sorted" := by rfl) (hg2 : Gl X "set" := by rfl)
    (hs : starEach [e] X.env = (false, eval e X.env) :: starEach [] X.env := by rfl)
    (hs2 : starEach [.Call (.Name "set" p2) [e] [] pos2] X.env = (false, eval (.Call (.Name "set" p2) [e] [] pos2) X.env) :: starEach [] X.env := by rfl) :
    PE X (.Call (.Name "sorted" pn) [.Call (.Name "set" p2) [e] [] pos2] [] pos) (lift X.K own .fresh (p1 dSortSet p)) :=
  pe_imp (pe_callB (cr_sortP hc) hg hm (by decide +kernel) (pa_cons (pe_callTy (cr_setOfT hc hr.units) hg2 hm2 (by decide +kernel) (pa_cons he pa_nil hs) (by decide) (by decide) hs rfl) pa_nil hs2) (by decide) (by decide) hs2 rfl) (lift_sortSet X.prog X.w)
end DL

set_option Elab.async false
set_option linter.all false
set_option maxRecDepth 100000
set_option maxHeartbeats 4000000
namespace DLZ
open PySem PySem.Spec PyProof.Rows L2
def IsB (b : Bool) (h : Heap) (l : Addr) (items : Array Value) : Prop := if b = true then h.IsList l items else h.IsTuple l items
def ItB (b : Bool) (h : Heap) (it l : Addr) (i : Nat) : Prop := if b = true then h.IsListIter it l i else h.IsTupleIter it l i
def SqB (K : PySem.W.Frag) (b : Bool) (H : Hp) (l : Addr) (xs : List V) : Prop := if b = true then SqL K H l xs else SqT K H l xs
theorem IsB.keep {b : Bool} {h h' : Heap} {l : Addr} {items : Array Value} (x : IsB b h l items) (k : ∀ o, h.get? l = some o → h'.get? l = some o) : IsB b h' l items := by
  cases b
  · obtain ⟨o, ho, r⟩ := (show h.IsTuple l items from x)
    exact (show h'.IsTuple l items from ⟨o, k o ho, r⟩)
  · obtain ⟨o, ho, r⟩ := (show h.IsList l items from x)
    exact (show h'.IsList l items from ⟨o, k o ho, r⟩)
theorem ItB.keep {b : Bool} {h h' : Heap} {it l : Addr} {i : Nat} (x : ItB b h it l i) (k : ∀ o, h.get? it = some o → h'.get? it = some o) : ItB b h' it l i := by
  cases b
  · exact (show h'.IsTupleIter it l i from Heap.IsTupleIter.at (show h.IsTupleIter it l i from x) k)
  · exact (show h'.IsListIter it l i from Heap.IsListIter.at (show h.IsListIter it l i from x) k)
theorem ItB.obj {b : Bool} {h : Heap} {it l : Addr} {i : Nat} (x : ItB b h it l i) : ∃ o, h.get? it = some o ∧ ∀ v, o.data ≠ .cell v := by
  cases b
  · obtain ⟨o, ho, _, hd⟩ := (show h.IsTupleIter it l i from x)
    exact ⟨o, ho, fun v q => by rw [hd] at q; cases q⟩
  · obtain ⟨o, ho, _, hd⟩ := (show h.IsListIter it l i from x)
    exact ⟨o, ho, fun v q => by rw [hd] at q; cases q⟩
section
variable {prog : Program} {w : World} {A : Around} {E : Value → Shared → Prop} {s : Shared}
theorem drawsB (hh : A.handled = none) (b : Bool) (it l : Addr) (hne : l ≠ it) (items : Array Value) : Draws prog w A it [it, l] items.size (fun i v => items[i]? = some v) (fun i h => ItB b h it l i ∧ IsB b h l items) where
  live := fun i h st => by obtain ⟨o, ho, _⟩ := st.1.obj; exact ⟨o, ho⟩
  frame := fun i h h' st k => ⟨st.1.keep fun o e => k it (by simp) o e, st.2.keep fun o e => k l (by simp) o e⟩
  item := fun i s Q E hi st q => by
    obtain ⟨h1, h2⟩ := st
    have hx : items[i]? = some items[i] := Array.getElem?_eq_getElem hi
    cases b
    · exact RZ.nextOf_tuple_item (show s.heap.IsTupleIter it l i from h1) (show s.heap.IsTuple l items from h2) hx fun h' a c => q _ h' s.toks hx ⟨a, IsB.keep (b := false) h2 fun o e => c.extBut l o hne e⟩ c
    · exact (Draws.list hh it l hne items).item i s Q E hi ⟨h1, h2⟩ fun x h' tk p st' sb => q x h' tk p st' sb
  done := fun s Q E st q => by
    obtain ⟨h1, h2⟩ := st
    cases b
    · exact RZ.nextOf_tuple_end hh (show s.heap.IsTupleIter it l items.size from h1) (show s.heap.IsTuple l items from h2) (Array.getElem?_eq_none (Nat.le_refl _)) q
    · exact (Draws.list hh it l hne items).done s Q E ⟨h1, h2⟩ q
theorem sideB (hh : A.handled = none) (b : Bool) {it l : Addr} (hne : l ≠ it) {items : Array Value} {i : Nat} {h : Heap} (h1 : ItB b h it l i) (h2 : IsB b h l items) : ∃ (n : Nat) (Pv : Nat → Value → Prop) (St : Nat → Heap → Prop), Draws prog w A it [it, l] n Pv St ∧ St i h ∧ i ≤ n ∧ (items.size ≤ i → i = n) := by
  by_cases hi : i < items.size
  · exact ⟨_, _, _, drawsB hh b it l hne items, ⟨h1, h2⟩, Nat.le_of_lt hi, fun z => by omega⟩
  · refine ⟨i, fun _ _ => True, fun k h => k = i ∧ ItB b h it l k ∧ IsB b h l items, ⟨fun k h st => ?_, fun k h h' st kp => ⟨st.1, st.2.1.keep fun o e => kp it (by simp) o e, st.2.2.keep fun o e => kp l (by simp) o e⟩, fun k s Q E hk st => ?_, fun s Q E st q => ?_⟩, ⟨rfl, h1, h2⟩, Nat.le_refl _, fun _ => rfl⟩
    · obtain ⟨o, ho, _⟩ := st.2.1.obj; exact ⟨o, ho⟩
    · exact absurd st.1 (Nat.ne_of_lt hk)
    · obtain ⟨_, g1, g2⟩ := st
      have hx : items[i]? = none := Array.getElem?_eq_none (by omega)
      cases b
      · exact RZ.nextOf_tuple_end hh (show s.heap.IsTupleIter it l i from g1) (show s.heap.IsTuple l items from g2) hx q
      · exact wpAny_nextOf_list_end hh (show s.heap.IsListIter it l i from g1) (show s.heap.IsList l items from g2) hx q
theorem iterB {b : Bool} {l : Addr} {items : Array Value} {Q : Value → Shared → Prop} (x : IsB b s.heap l items) (q : Q (.ref s.heap.objs.size) { s with heap := s.heap.push { cls := .type (if b = true then "list_iterator" else "tuple_iterator"), data := .fields #[.ref l, .int 0 0] } }) :
    wpAny (model prog w) A (pyIter (.ref l)) Q E s := by
  cases b
  · exact wpAny_pyIter_tuple (show s.heap.IsTuple l items from x) q
  · exact wpAny_pyIter_list (show s.heap.IsList l items from x) q
end
def itO (b : Bool) (l : Addr) : Obj := { cls := .type (if b = true then "list_iterator" else "tuple_iterator"), data := .fields #[.ref l, .int 0 0] }
abbrev zB1 (h : Heap) (b1 : Bool) (l1 : Addr) : Heap := h.push (itO b1 l1)
abbrev zB2 (h : Heap) (b1 b2 : Bool) (l1 l2 : Addr) : Heap := (zB1 h b1 l1).push (itO b2 l2)
abbrev zB3 (h : Heap) (b1 b2 : Bool) (l1 l2 : Addr) : Heap := (zB2 h b1 b2 l1 l2).push { cls := .type "tuple", data := .seq #[.ref h.objs.size, .ref (zB1 h b1 l1).objs.size] }
abbrev zB4 (h : Heap) (b1 b2 : Bool) (l1 l2 : Addr) : Heap := (zB3 h b1 b2 l1 l2).push { cls := .type "tuple", data := .seq #[.none, .none] }
abbrev zB5 (h : Heap) (b1 b2 : Bool) (l1 l2 : Addr) : Heap := (zB4 h b1 b2 l1 l2).push { cls := .type "zip", data := .fields #[.none, .bool false, .bool false, .ref (zB2 h b1 b2 l1 l2).objs.size, .ref (zB3 h b1 b2 l1 l2).objs.size] }
theorem meetsB (b1 b2 : Bool) (l1 l2 : Addr) (xs ys : Array Value) : Meets (Builtin.«zip.__new__» ⟨[.type "zip", .ref l1, .ref l2], []⟩) (fun _ R s => IsB b1 s.heap l1 xs ∧ IsB b2 s.heap l2 ys ∧
      R (.ok (.ret (.ref (zB4 s.heap b1 b2 l1 l2).objs.size))) { s with heap := zB5 s.heap b1 b2 l1 l2 }) :=
  .of_wp fun prog w A R s h => by
    obtain ⟨hp, g, d, tk, os⟩ := s
    obtain ⟨x1, x2, h⟩ := h
    have hsub := sub_zip
    have y1 : IsB b1 (Shared.heap ⟨hp, g, d, tk, os⟩) l1 xs := x1
    have y2 : IsB b2 (Shared.heap ⟨hp.push { cls := .type (if b1 = true then "list_iterator" else "tuple_iterator"), data := .fields #[.ref l1, .int 0 0] }, g, d, tk, os⟩) l2 ys := x2.keep fun o e => Heap.get?_push_of_some _ e
    wp_walk using iterB y1, iterB y2
    exact ⟨_, rfl, h⟩
section
variable {prog : Program} {w : World} {A : Around} {E : Value → Shared → Prop} {s : Shared}
theorem callB {b1 b2 : Bool} {l1 l2 : Addr} {xs ys : Array Value} {Q : Value → Shared → Prop} (x1 : IsB b1 s.heap l1 xs) (x2 : IsB b2 s.heap l2 ys)
    (h : ∀ h', IsZip h' (s.heap.objs.size + 4) (s.heap.objs.size + 2) (s.heap.objs.size + 3) .none → IsTupOf2 h' (s.heap.objs.size + 2) (.ref s.heap.objs.size) (.ref (s.heap.objs.size + 1)) → IsTupOf2 h' (s.heap.objs.size + 3) .none .none →
      ItB b1 h' s.heap.objs.size l1 0 → ItB b2 h' (s.heap.objs.size + 1) l2 0 → (∀ c o, s.heap.get? c = some o → h'.get? c = some o) → Q (.ref (s.heap.objs.size + 4)) { s with heap := h' }) :
    wpAny (model prog w) A (call (.type "zip") [.ref l1, .ref l2]) Q E s := by
  refine callType_new F.called_zip (by decide) (F.typeCall_zip_2 _ _) (F.newCall_zip_2 _ _) (fun obj => F.args_object_init_3 obj _ _) F.entry_zip_new (meetsB b1 b2 l1 l2 xs ys) ⟨x1, x2, (?_ : _ ∧ _)⟩
  have n1 : (zB1 s.heap b1 l1).objs.size = s.heap.objs.size + 1 := Heap.size_push ..
  have n2 : (zB2 s.heap b1 b2 l1 l2).objs.size = s.heap.objs.size + 2 := by rw [Heap.size_push, n1]
  have n3 : (zB3 s.heap b1 b2 l1 l2).objs.size = s.heap.objs.size + 3 := by rw [Heap.size_push, n2]
  have n4 : (zB4 s.heap b1 b2 l1 l2).objs.size = s.heap.objs.size + 4 := by rw [Heap.size_push, n3]
  have up : ∀ {h : Heap} {c : Addr} {o o2 : Obj}, h.get? c = some o → (h.push o2).get? c = some o := fun e => Heap.get?_push_of_some _ e
  have m5 : (zB5 s.heap b1 b2 l1 l2).get? (zB4 s.heap b1 b2 l1 l2).objs.size = some _ := Heap.get?_push_size _ rfl
  have m4 : (zB5 s.heap b1 b2 l1 l2).get? (zB3 s.heap b1 b2 l1 l2).objs.size = some _ := up (Heap.get?_push_size _ rfl)
  have m3 : (zB5 s.heap b1 b2 l1 l2).get? (zB2 s.heap b1 b2 l1 l2).objs.size = some _ := up (up (Heap.get?_push_size _ rfl))
  have m2 : (zB5 s.heap b1 b2 l1 l2).get? (zB1 s.heap b1 l1).objs.size = some (itO b2 l2) := up (up (up (Heap.get?_push_size _ rfl)))
  have m1 : (zB5 s.heap b1 b2 l1 l2).get? s.heap.objs.size = some (itO b1 l1) := up (up (up (up (Heap.get?_push_size _ rfl))))
  rw [n2, n3, n4] at m5
  rw [n1, n2] at m3
  rw [n3] at m4
  rw [n1] at m2
  rw [n4]
  have mk : ∀ (b : Bool) (h : Heap) (it l : Addr), h.get? it = some (itO b l) → ItB b h it l 0 := fun b h it l e => by
    cases b
    · exact (show h.IsTupleIter it l 0 from ⟨_, e, rfl, rfl⟩)
    · exact (show h.IsListIter it l 0 from ⟨_, e, rfl, rfl⟩)
  exact ⟨⟨_, m5, rfl⟩, h _ m5 m3 m4 (mk _ _ _ _ m1) (mk _ _ _ _ m2) fun c o x => up (up (up (up (up x))))⟩
end
def ItzB (K : PySem.W.Frag) (b1 b2 : Bool) (a b : Addr) : It :=
  ⟨fun i H => ∃ (xs ys : List V) (x y : V), SqB K b1 H a xs ∧ SqB K b2 H b ys ∧ xs[i]? = some x ∧ ys[i]? = some y,
    fun i H v H' => ∃ T x y, v = .ref T ∧ H T = none ∧ H' = upd H T (.tup [x, y]) ∧ (∀ xs, SqB K b1 H a xs → xs[i]? = some x) ∧ ∀ ys, SqB K b2 H b ys → ys[i]? = some y,
    fun i H => ∃ xs ys : List V, SqB K b1 H a xs ∧ SqB K b2 H b ys ∧ (xs.length ≤ i ∨ ys.length ≤ i)⟩
section
variable {X : Cx} {pins : List (Addr × Obj)} {σ : L2.St} {H : Hp} {s : Shared}
theorem sqB_get (I : Inv X pins σ H s) {b : Bool} {a : Addr} {xs : List V} (h : SqB X.K b H a xs) : ∃ its : List Value, Vals xs its ∧ IsB b s.heap a its.toArray := by
  cases b
  · obtain ⟨its, rv, p, _⟩ := I.tuple (show SqT X.K H a xs from h)
    exact ⟨its, rv, p⟩
  · obtain ⟨its, rv, p, _⟩ := I.list (show SqL X.K H a xs from h)
    exact ⟨its, rv, p.isList⟩
theorem sqB_inj (I : Inv X pins σ H s) {b : Bool} {a : Addr} {xs ys : List V} (h : SqB X.K b H a xs) (g : SqB X.K b H a ys) : xs = ys := by
  cases b
  · exact I.tuple_inj (show SqT X.K H a xs from h) g
  · exact I.list_inj (show SqL X.K H a xs from h) g
theorem IsB.lt {b : Bool} {h : Heap} {a : Addr} {items : Array Value} (x : IsB b h a items) : a < h.objs.size := by
  cases b
  · obtain ⟨o, ho, _⟩ := (show h.IsTuple a items from x); exact Heap.lt_size ho
  · obtain ⟨o, ho, _⟩ := (show h.IsList a items from x); exact Heap.lt_size ho
end
theorem turnB {P : Program} {w : World} {K : PySem.W.Frag} {elts : List Expr} {kk : Nat} {tpos : Pos} {b1 b2 : Bool} {a b z TI TO i1 i2 : Addr} (D : ZipApart z TI TO i1 i2 a b) :
    Turn P w K (.Tuple elts kk tpos) (ItzB K b1 b2 a b) [z, TI, TO, i1, i2] z (fun i h => IsZip h z TI TO .none ∧ IsTupOf2 h TI (.ref i1) (.ref i2) ∧ (∃ x y, IsTupOf2 h TO x y) ∧ ItB b1 h i1 a i ∧ ItB b2 h i2 b i) where
  mem := List.mem_cons_self
  obj := fun i h ⟨hz, hTI, ⟨x, y, hTO⟩, h1, h2⟩ c hc => by
    have e' : c = z ∨ c = TI ∨ c = TO ∨ c = i1 ∨ c = i2 := by simpa using hc
    rcases e' with q | q | q | q | q <;> subst q
    · exact ⟨_, hz, fun v q => nomatch q⟩
    · exact ⟨_, hTI, fun v q => nomatch q⟩
    · exact ⟨_, hTO, fun v q => nomatch q⟩
    · exact h1.obj
    · exact h2.obj
  keep := fun i h h' ⟨hz, hTI, ⟨x, y, hTO⟩, h1, h2⟩ k => ⟨k z (by simp) _ hz, k TI (by simp) _ hTI, ⟨x, y, k TO (by simp) _ hTO⟩, h1.keep fun o q => k i1 (by simp) o q, h2.keep fun o q => k i2 (by simp) o q⟩
  item := by
    rintro X rfl rfl rfl hc i pins s σ H E I hf ⟨hz, hTI, ⟨x0, y0, hTO⟩, h1, h2⟩ ⟨xs, ys, x, y, hqx, hqy, hx, hy⟩
    obtain ⟨its, rv, p⟩ := sqB_get I hqx
    obtain ⟨its2, rv2, p2⟩ := sqB_get I hqy
    obtain ⟨u, hu, ru⟩ := rv.get hx
    obtain ⟨u2, hu2, ru2⟩ := rv2.get hy
    have zl : z < s.heap.objs.size := Heap.lt_size hz
    have hh : X.A.in1.handled = none := by have := I.ok.hd hc; simpa using this
    have S : ZipSep2 z TI TO i1 i2 [i1, a] [i2, b] := ⟨D.TIz, D.TOz, D.TITO, D.TIi1, by simp, by simp [D.i1z.symm, D.l1z.symm], by simp [D.TOi1, D.l1TO.symm], D.TIi2, by simp, by simp [D.i2z.symm, D.l2z.symm], by simp [D.TOi2, D.l2TO.symm], by simp [D.i12, D.l2i1.symm], by simp [D.i12.symm, D.l1i2.symm]⟩
    have l1 : i < its.toArray.size := by have := (List.getElem?_eq_some_iff.mp hu).1; simpa using this
    have l2 : i < its2.toArray.size := by have := (List.getElem?_eq_some_iff.mp hu2).1; simpa using this
    refine wpAny_pyNext_zipD2_item S (drawsB hh b1 i1 a D.l1i1 its.toArray) (drawsB hh b2 i2 b D.l2i2 its2.toArray) hz hTI hTO ⟨h1, p⟩ ⟨h2, p2⟩ l1 l2 fun v1 v2 h' tk e1 e2 z' TO' st1 st2 hT hsz hk => ?_
    have f1 : v1 = u := Option.some.inj (e1.symm.trans (by simpa using hu))
    have f2 : v2 = u2 := Option.some.inj (e2.symm.trans (by simpa using hu2))
    subst f1; subst f2
    refine ⟨_, rfl, wpAny_letOwnedTupleGo_zip (s := { s with heap := h', toks := tk }) z' fun h'' z'' sb => ?_⟩
    have hT2 : h''.get? s.heap.objs.size = some { cls := .type "tuple", data := .seq #[v1, v2] } := (sb.2 _ (Nat.ne_of_gt zl)).trans hT
    have new : ObjOk X.prog X.w (upd H s.heap.objs.size (.tup [x, y])) h'' s.heap.objs.size (.tup [x, y]) := ⟨by show 2 ≤ sizeLine; decide, [v1, v2], .cons ru (.cons ru2 .nil), ⟨_, hT2, rfl, _, rfl⟩⟩
    have kp : ∀ c o, c ∉ [z, TI, TO, i1, i2] → s.heap.get? c = some o → h''.get? c = some o := fun c o hb q => by
      simp only [List.mem_cons, List.not_mem_nil, or_false, not_or] at hb
      exact (sb.2 c hb.1).trans (hk c o hb.1 hb.2.2.1 hb.2.2.2.1 hb.2.2.2.2 q)
    have I1 : Inv X pins σ (upd H s.heap.objs.size (.tup [x, y])) { s with heap := h'', toks := tk } := I.turnedNew (t' := tk) kp hf (Nat.le_refl _) new
    refine ⟨.ref s.heap.objs.size, _, I1, rfl, ⟨_, x, y, rfl, I.hok.fresh (Nat.le_refl _), rfl, fun l hl => by rw [sqB_inj I hl hqx]; exact hx, fun l hl => by rw [sqB_inj I hl hqy]; exact hy⟩, ⟨z'', (sb.2 _ D.TIz).trans (hk _ _ D.TIz D.TITO D.TIi1 D.TIi2 hTI), ⟨v1, v2, (sb.2 _ D.TOz).trans TO'⟩, st1.1.keep fun o q => (sb.2 _ D.i1z).trans q, st2.1.keep fun o q => (sb.2 _ D.i2z).trans q⟩, fun c hcm => ?_⟩
    have lt : c < s.heap.objs.size := by
      have e' : c = z ∨ c = TI ∨ c = TO ∨ c = i1 ∨ c = i2 := by simpa using hcm
      rcases e' with q | q | q | q | q <;> subst q
      · exact zl
      · exact Heap.lt_size hTI
      · exact Heap.lt_size hTO
      · obtain ⟨_, e1, _⟩ := h1.obj; exact Heap.lt_size e1
      · obtain ⟨_, e1, _⟩ := h2.obj; exact Heap.lt_size e1
    rw [upd_ne (Nat.ne_of_lt lt)]
    exact (hf c hcm).1
  done := by
    rintro X rfl rfl rfl hc i pins s σ H E I hf ⟨hz, hTI, ⟨x0, y0, hTO⟩, h1, h2⟩ ⟨xs, ys, hqx, hqy, hend⟩
    obtain ⟨its, rv, p⟩ := sqB_get I hqx
    obtain ⟨its2, rv2, p2⟩ := sqB_get I hqy
    have l1 := rv.length
    have l2 := rv2.length
    have hh : X.A.in1.handled = none := by have := I.ok.hd hc; simpa using this
    have S : ZipSep2 z TI TO i1 i2 [i1, a] [i2, b] := ⟨D.TIz, D.TOz, D.TITO, D.TIi1, by simp, by simp [D.i1z.symm, D.l1z.symm], by simp [D.TOi1, D.l1TO.symm], D.TIi2, by simp, by simp [D.i2z.symm, D.l2z.symm], by simp [D.TOi2, D.l2TO.symm], by simp [D.i12, D.l2i1.symm], by simp [D.i12.symm, D.l1i2.symm]⟩
    obtain ⟨n1, P1, St1, D1, s1, m1, e1⟩ := sideB (prog := X.prog) (w := X.w) hh b1 D.l1i1 h1 p
    obtain ⟨n2, P2, St2, D2, s2, m2, e2⟩ := sideB (prog := X.prog) (w := X.w) hh b2 D.l2i2 h2 p2
    have en : i = n1 ∨ i = n2 := hend.imp (fun z => e1 (by simp; omega)) fun z => e2 (by simp; omega)
    refine wpAny_pyNext_zipD2_end S D1 D2 hz hTI hTO s1 s2 m1 m2 en fun h' tk hk => ⟨rfl, I.turnedL (t' := tk) (ch := [z, TI, TO, i1, i2]) (fun c o hb q => ?_) hf⟩
    simp only [List.mem_cons, List.not_mem_nil, or_false, not_or] at hb
    exact hk c o hb.1 hb.2.2.1 hb.2.2.2.1 hb.2.2.2.2 q
  self := fun A i s Q E st h => wpAny_pyIter_zip st.1 h
def iZipB (K : PySem.W.Frag) (ta : TA) : TI := fun σ H R => ta σ H fun vs H1 => ∃ b1 b2 a b xs ys, vs = [V.ref a, V.ref b] ∧ SqB K b1 H1 a xs ∧ SqB K b2 H1 b ys ∧ R (ItzB K b1 b2 a b) H1
theorem pi_zipB {X : Cx} {e e2 : Expr} {ta : TA} {p pos tpos : Pos} {elts : List Expr} {kk : Nat} (hg : Gl X "zip") (hm : X.mg "zip" = none) (ha : PA X [e, e2] ta)
    (hs : starEach [e, e2] X.env = (false, eval e X.env) :: starEach [e2] X.env := by rfl) (hpl : (backTo pos (starEach [e2] X.env)).any (·.1) = false := by rfl) : PI X (.Tuple elts kk tpos) (.Call (.Name "zip" p) [e, e2] [] pos) (iZipB X.K ta) := by
  refine ⟨fun pins s σ H R I h => Call_ (ld_blt I hg hm PyProof.Rows.boot_zip (PyProof.Rows.callWith_type1 (thn (ha.run pos pins s σ H _ I h) fun us s1 ⟨vs, H1, I1, r1, q1⟩ => ?_) hs hpl))⟩
  obtain ⟨b1, b2, a, b, xs, ys, rfl, hqx, hqy, q⟩ := q1
  cases r1 with
  | cons r rr => cases rr with
    | cons r' rr =>
      cases rr; cases r; cases r'
      obtain ⟨its, rv, p1⟩ := sqB_get I1 hqx
      obtain ⟨its2, rv2, p2⟩ := sqB_get I1 hqy
      refine callB p1 p2 fun h' hz hTI hTO h1 h2 hk => wpAny_pyIter_zip hz ?_
      have I2 : Inv X pins σ H1 { s1 with heap := h' } := I1.kept (t' := s1.toks) hk
      refine ⟨s1.heap.objs.size + 4, [s1.heap.objs.size + 4, s1.heap.objs.size + 2, s1.heap.objs.size + 3, s1.heap.objs.size, s1.heap.objs.size + 1], _, _, H1, rfl, I2, turnB (PySem.W.ktu_apart s1.heap.objs.size a b p1.lt p2.lt), ⟨hz, hTI, ⟨_, _, hTO⟩, h1, h2⟩, fun c hcm => ?_, q⟩
      have le : s1.heap.objs.size ≤ c := by
        simp only [List.mem_cons, List.not_mem_nil, or_false] at hcm
        rcases hcm with q | q | q | q | q <;> rw [q] <;> first | exact Nat.le_refl _ | exact Nat.le_add_right _ _
      exact I1.fpOk le (I1.hok.fresh le)
end DLZ
namespace DL
open PySem PySem.Spec PyProof.Rows L2 DLZ
def dZipM (x y : D) (R : List D → Prop) : Prop := dSeq x fun xs => dSeq y fun ys => R (zipD xs ys)
def sZipM (pa : TAD) : TAD := fun ρ R => pa ρ fun ds => twoD ds fun x y => dZipM x y R
theorem dSeq_iff {x : D} {R : List D → Prop} (h : dSeq x R) : ∃ xs, (x = .lst xs ∨ x = .tup xs) ∧ R xs := by
  unfold dSeq at h
  split at h
  · exact ⟨_, .inl rfl, h⟩
  · exact ⟨_, .inr rfl, h⟩
  · exact h.elim
section
variable {c : Cfg} {own : List Nat} {A : Addr → Prop} {σ : L2.St} {ρ : PEnv} {H : Hp} {v : V} {x : D} {ds : List D}
theorem RepW.seqK (h : x = .lst ds ∨ x = .tup ds) (r : RepW c own A σ ρ H v x) : ∃ b a vs, v = .ref a ∧ SqB c.K b H a vs ∧ RepL c (Avd c own A σ ρ) H vs ds ∧ ∀ c2 H2, Step c H c2 H2 → SqB c.K b H2 a vs := by
  rcases h with rfl | rfl
  · obtain ⟨a, us, e, ha, rl, k⟩ := RepW.lstK r
    exact ⟨true, a, us, e, .inl (.inl ha), rl, k⟩
  · obtain ⟨a, us, e, ha, rl, k⟩ := RepW.tupK r
    exact ⟨false, a, us, e, ha, rl, k⟩
theorem Rep.seqK (h : x = .lst ds ∨ x = .tup ds) (r : Rep c (Avd c own A σ ρ) H v x) : ∃ b a vs, v = .ref a ∧ SqB c.K b H a vs ∧ RepL c (Avd c own A σ ρ) (DL.mask own σ ρ H) vs ds ∧ ∀ c2 H2, Step c (DL.mask own σ ρ H) c2 H2 → SqB c.K b H2 a vs := by
  rcases h with rfl | rfl
  · obtain ⟨a, us, e, ha, rl, k⟩ := Rep.lstK r
    exact ⟨true, a, us, e, .inl (.inl ha), rl, k⟩
  · obtain ⟨a, us, e, ha, rl, k⟩ := Rep.tupK r
    exact ⟨false, a, us, e, ha, rl, k⟩
end
theorem itzB_ok {c : Cfg} {Av : Addr → Prop} {H0 : Hp} {a b : Addr} {xs ys : List V} {ds es : List D} {b1 b2 : Bool} (hav : ∀ b, c.S b → Av b) (ha : ∀ c2 H2, Step c H0 c2 H2 → SqB c.K b1 H2 a xs) (hb : ∀ c2 H2, Step c H0 c2 H2 → SqB c.K b2 H2 b ys) (rx : RepL c Av H0 xs ds) (ry : RepL c Av H0 ys es) : ItOk c Av (ItzB c.K b1 b2 a b) H0 (zipD ds es) :=
  itz_any hav rx ry fun c2 H2 t i => ⟨fun hl => ⟨xs, ys, ha _ _ t, hb _ _ t, hl⟩, fun x y hx hy => ⟨⟨xs, ys, x, y, ha _ _ t, hb _ _ t, hx, hy⟩, fun v H3 ⟨T, x', y', e, hT, e3, h1, h2⟩ => ⟨T, e, hT, by
    have e1 := Option.some.inj ((h1 xs (ha _ _ t)).symm.trans hx)
    have e2 := Option.some.inj ((h2 ys (hb _ _ t)).symm.trans hy)
    rw [e3, e1, e2]⟩⟩⟩
theorem lift_zipMW (K : PySem.W.Frag) {own : List Nat} {pa : TAD} : ∀ σ H Q, liftI K own .weak (sZipM pa) σ H Q → iZipB K (liftA K own .weak 2 pa) σ H Q := fun σ H Q ⟨c, A, ρ, R, hk, E, hp, f⟩ => ⟨c, A, ρ, _, hk, E, hp, fun c1 vs H1 ds t r hn g => by
  obtain ⟨x, y, rfl, g⟩ := twoD_iff g
  obtain ⟨xs, hx, g⟩ := dSeq_iff g
  obtain ⟨ys, hy, g⟩ := dSeq_iff g
  have ek := t.kk.trans hk
  match r with
  | .cons r1 (.cons r2 .nil) =>
    obtain ⟨b1, a, us, rfl, q1, rl, k1⟩ := RepW.seqK hx r1
    obtain ⟨b2, b, ws, rfl, q2, rl2, k2⟩ := RepW.seqK hy r2
    have h := itzB_ok avdS k1 k2 rl rl2
    rw [ek] at h q1 q2
    exact ⟨b1, b2, a, b, us, ws, rfl, q1, q2, f c1 _ H1 _ t h g⟩⟩
theorem lift_zipMS (K : PySem.W.Frag) {own : List Nat} {pa : TAD} : ∀ σ H Q, liftI K own .strong (sZipM pa) σ H Q → iZipB K (liftA K own .strong 2 pa) σ H Q := fun σ H Q ⟨c, A, ρ, R, hk, E, hp, f⟩ => ⟨c, A, ρ, _, hk, E, hp, fun c1 vs H1 ds t r hn g => by
  obtain ⟨x, y, rfl, g⟩ := twoD_iff g
  obtain ⟨xs, hx, g⟩ := dSeq_iff g
  obtain ⟨ys, hy, g⟩ := dSeq_iff g
  have ek := t.kk.trans hk
  match r with
  | .cons r1 (.cons r2 .nil) =>
    obtain ⟨b1, a, us, rfl, q1, rl, k1⟩ := Rep.seqK hx r1
    obtain ⟨b2, b, ws, rfl, q2, rl2, k2⟩ := Rep.seqK hy r2
    have h := itzB_ok avdS k1 k2 rl rl2
    rw [ek] at h q1 q2
    exact ⟨b1, b2, a, b, us, ws, rfl, q1, q2, f c1 _ H1 _ t h g⟩⟩
section
variable {X : Cx} {own : List Nat} {pa : TAD} {e e2 : Expr} {p pos tpos : Pos} {elts : List Expr} {kk : Nat}
theorem i_zipMW (hm : X.mg "zip" = none) (ha : PA X [e, e2] (liftA X.K own .weak 2 pa)) (hg : Gl X "zip" := by rfl) (hs : starEach [e, e2] X.env = (false, eval e X.env) :: starEach [e2] X.env := by rfl) (hpl : (backTo pos (starEach [e2] X.env)).any (·.1) = false := by rfl) :
    PI X (.Tuple elts kk tpos) (.Call (.Name "zip" p) [e, e2] [] pos) (liftI X.K own .weak (sZipM pa)) := pi_imp (pi_zipB hg hm ha hs hpl) (lift_zipMW _)
theorem i_zipMS (hm : X.mg "zip" = none) (ha : PA X [e, e2] (liftA X.K own .strong 2 pa)) (hg : Gl X "zip" := by rfl) (hs : starEach [e, e2] X.env = (false, eval e X.env) :: starEach [e2] X.env := by rfl) (hpl : (backTo pos (starEach [e2] X.env)).any (·.1) = false := by rfl) :
    PI X (.Tuple elts kk tpos) (.Call (.Name "zip" p) [e, e2] [] pos) (liftI X.K own .strong (sZipM pa)) := pi_imp (pi_zipB hg hm ha hs hpl) (lift_zipMS _)
end
theorem x_sZipM {pa : TAD} {ρ : PEnv} {R : List D → Prop} : sZipM pa ρ R = pa ρ fun ds => twoD ds fun x y => dZipM x y R := propext Iff.rfl
theorem x_zipM {x y : D} {R : List D → Prop} : dZipM x y R = dSeq x fun xs => dSeq y fun ys => R (zipD xs ys) := propext Iff.rfl
end DL

set_option Elab.async false
set_option linter.all false
set_option maxRecDepth 100000
set_option maxHeartbeats 4000000
namespace DL
open PySem PySem.Spec PyProof.Rows L2 DLS
section
variable {X : Cx}
def rInT (K : PySem.W.Frag) : R2 := fun x y H Q => ∃ d ds, Dp K H x d ∧ Dp K H y (.tuple ds) ∧ SeqAt.shaped d = true ∧ SeqAt.shaped (.tuple ds) = true ∧ Q (.bl (ds.any fun z => PyData.eqv z d)) H
def rNotInT (K : PySem.W.Frag) : R2 := fun x y H Q => ∃ d ds, Dp K H x d ∧ Dp K H y (.tuple ds) ∧ SeqAt.shaped d = true ∧ SeqAt.shaped (.tuple ds) = true ∧ Q (.bl (!ds.any fun z => PyData.eqv z d)) H
theorem op_inT (hu : X.A.units + 65 < cLine) : OpR X (compareOp .In) (rInT X.K) := by
  rintro pins s σ H x y v u Q I rx ry ⟨d, ds, hd, he, sd, se, q⟩
  obtain ⟨as, r1⟩ := Dp.reads I d x v hd rx
  obtain ⟨bs, r2⟩ := Dp.reads I (.tuple ds) y u he ry
  exact SeqAt.in_tuple_reads r2 r1 (SeqAt.canLay_of_shaped se) (SeqAt.canLay_of_shaped sd) (room_in_shaped sd hu) ⟨.bl _, H, I, rfl, q⟩
theorem op_notInT (hu : X.A.units + 65 < cLine) : OpR X (compareOp .NotIn) (rNotInT X.K) := by
  rintro pins s σ H x y v u Q I rx ry ⟨d, ds, hd, he, sd, se, q⟩
  obtain ⟨as, r1⟩ := Dp.reads I d x v hd rx
  obtain ⟨bs, r2⟩ := Dp.reads I (.tuple ds) y u he ry
  exact SeqAt.notIn_tuple_reads r2 r1 (SeqAt.canLay_of_shaped se) (SeqAt.canLay_of_shaped sd) (room_in_shaped sd hu) ⟨.bl _, H, I, rfl, q⟩
theorem o_in {k : Nat} (hr : Room k X.A) : OpR X (compareOp .In) (fun x y H Q => rInD X.K x y H Q ∨ rInT X.K x y H Q) := (op_inD (by have := hr.un; omega)).or (op_inT (by have := hr.un; omega))
theorem o_notIn {k : Nat} (hr : Room k X.A) : OpR X (compareOp .NotIn) (fun x y H Q => rNotInD X.K x y H Q ∨ rNotInT X.K x y H Q) := (op_notInD (by have := hr.un; omega)).or (op_notInT (by have := hr.un; omega))
end
def dIn (x y : D) (R : D → Prop) : Prop := match y with
  | .lst ds => (okD 60 x = true ∧ okD 60 (.lst ds) = true) ∧ R (.bl (ds.any fun z => eqD z x))
  | .tup ds => (okD 60 x = true ∧ okD 60 (.tup ds) = true) ∧ R (.bl (ds.any fun z => eqD z x))
  | _ => False
def dNotIn (x y : D) (R : D → Prop) : Prop := match y with
  | .lst ds => (okD 60 x = true ∧ okD 60 (.lst ds) = true) ∧ R (.bl (!ds.any fun z => eqD z x))
  | .tup ds => (okD 60 x = true ∧ okD 60 (.tup ds) = true) ∧ R (.bl (!ds.any fun z => eqD z x))
  | _ => False
theorem any_py {x : D} (hx : okD 60 x = true) : ∀ {ds : List D} {n : Nat}, okD.okDs n ds = true → (toPy.toPys ds).any (fun z => PyData.eqv z (toPy x)) = ds.any fun z => eqD z x
  | [], _, _ => rfl
  | d :: ds, n, h => by
    have h' : okD n d = true ∧ okD.okDs n ds = true := by simpa [okD.okDs] using h
    show (PyData.eqv (toPy d) (toPy x) || (toPy.toPys ds).any _) = _
    rw [eqv_eqD d x n 60 h'.1 hx, any_py hx h'.2]
    rfl
theorem c_in {K : PySem.W.Frag} : C2 K (fun x y H Q => rInD K x y H Q ∨ rInT K x y H Q) .strong dIn := fun c own A σ ρ H v w d e R Q hk E r1 r2 g q => by
  cases e with
  | lst ds =>
    obtain ⟨⟨o1, o2⟩, g⟩ := g
    have d1 := r1.dp o1
    have d2 := r2.dp o2
    rw [hk] at d1 d2
    refine .inl ⟨_, _, d1, d2, okD_shaped o1, okD_shaped o2, ?_⟩
    rw [any_py o1 (n := 59) o2]
    exact q c _ H _ (Step.refl E.fok) (.bl _) g
  | tup ds =>
    obtain ⟨⟨o1, o2⟩, g⟩ := g
    have d1 := r1.dp o1
    have d2 := r2.dp o2
    rw [hk] at d1 d2
    refine .inr ⟨_, _, d1, d2, okD_shaped o1, okD_shaped o2, ?_⟩
    rw [any_py o1 (n := 59) o2]
    exact q c _ H _ (Step.refl E.fok) (.bl _) g
  | _ => exact g.elim
theorem c_notIn {K : PySem.W.Frag} : C2 K (fun x y H Q => rNotInD K x y H Q ∨ rNotInT K x y H Q) .strong dNotIn := fun c own A σ ρ H v w d e R Q hk E r1 r2 g q => by
  cases e with
  | lst ds =>
    obtain ⟨⟨o1, o2⟩, g⟩ := g
    have d1 := r1.dp o1
    have d2 := r2.dp o2
    rw [hk] at d1 d2
    refine .inl ⟨_, _, d1, d2, okD_shaped o1, okD_shaped o2, ?_⟩
    rw [any_py o1 (n := 59) o2]
    exact q c _ H _ (Step.refl E.fok) (.bl _) g
  | tup ds =>
    obtain ⟨⟨o1, o2⟩, g⟩ := g
    have d1 := r1.dp o1
    have d2 := r2.dp o2
    rw [hk] at d1 d2
    refine .inr ⟨_, _, d1, d2, okD_shaped o1, okD_shaped o2, ?_⟩
    rw [any_py o1 (n := 59) o2]
    exact q c _ H _ (Step.refl E.fok) (.bl _) g
  | _ => exact g.elim
def dSum (ds : List D) (R : D → Prop) : Prop := oneD ds fun x => match x with | .lst es => ∃ ns : List Int, es = ns.map D.int ∧ R (.int ns.sum) | _ => False
def dMax (ds : List D) (R : D → Prop) : Prop := oneD ds fun x => match x with | .lst es => ∃ ns : List Int, es = ns.map D.int ∧ 0 < ns.length ∧ ∀ m ∈ ns, (∀ y ∈ ns, y ≤ m) → R (.int m) | _ => False
def dMin (ds : List D) (R : D → Prop) : Prop := oneD ds fun x => match x with | .lst es => ∃ ns : List Int, es = ns.map D.int ∧ 0 < ns.length ∧ ∀ m ∈ ns, (∀ y ∈ ns, m ≤ y) → R (.int m) | _ => False
theorem c_sum {K : PySem.W.Frag} : CL K (rSum K) .strong dSum := fun c own A σ ρ H vs ds R Q hk E r g q => by
  obtain ⟨x, rfl, g⟩ := oneD_iff g
  match r with
  | .cons r1 .nil =>
    cases x with
    | lst es =>
      obtain ⟨ns, rfl, g9⟩ := (show ∃ ns : List Int, es = ns.map D.int ∧ R (.int ns.sum) from g)
      obtain ⟨a, us, rfl, z, h, rl⟩ := RepW.lst r1
      rw [RepL.ints rl] at h
      exact ⟨a, ns, rfl, .inl (.inl h), q c _ H _ (Step.refl E.fok) (.int _) g9⟩
    | _ => exact g.elim
theorem c_max {K : PySem.W.Frag} : CL K (rMax K) .strong dMax := fun c own A σ ρ H vs ds R Q hk E r g q => by
  obtain ⟨x, rfl, g⟩ := oneD_iff g
  match r with
  | .cons r1 .nil =>
    cases x with
    | lst es =>
      obtain ⟨ns, rfl, g0, g⟩ := g
      obtain ⟨a, us, rfl, z, h, rl⟩ := RepW.lst r1
      rw [RepL.ints rl] at h
      exact ⟨a, ns, rfl, .inl (.inl h), g0, fun m m1 m2 => q c _ H _ (Step.refl E.fok) (.int _) (g m m1 m2)⟩
    | _ => exact g.elim
theorem c_min {K : PySem.W.Frag} : CL K (rMin K) .strong dMin := fun c own A σ ρ H vs ds R Q hk E r g q => by
  obtain ⟨x, rfl, g⟩ := oneD_iff g
  match r with
  | .cons r1 .nil =>
    cases x with
    | lst es =>
      obtain ⟨ns, rfl, g0, g⟩ := g
      obtain ⟨a, us, rfl, z, h, rl⟩ := RepW.lst r1
      rw [RepL.ints rl] at h
      exact ⟨a, ns, rfl, .inl (.inl h), g0, fun m m1 m2 => q c _ H _ (Step.refl E.fok) (.int _) (g m m1 m2)⟩
    | _ => exact g.elim
def rSortQ (K : PySem.W.Frag) : List V → Hp → VK → Prop := fun vs H Q => ∃ (a : Addr) (ks : List (Addr × List Int)), vs = [V.ref a] ∧ SqL K H a (ks.map fun q => V.ref q.1) ∧ (∀ q ∈ ks, SqT K H q.1 (q.2.map V.int)) ∧ (∀ q ∈ ks, q.2.length = 2) ∧
  ∀ (L : List (Addr × List Int)) (p : Addr), L.Perm ks → L.Pairwise (fun q r => SrtO.lexB (pk r.2) (pk q.2) = false) → H p = none → Q (.ref p) (upd H p (.lst (L.map fun q => V.ref q.1)))
theorem b_sorted {X : Cx} : CallR X (.builtin "sorted") (rSortQ X.K) := by
  rintro pins s σ H vs us Q I r ⟨a, ks, rfl, hs, hk, h2, q⟩
  obtain ⟨its, rv, hl, hz⟩ := I.list hs
  rw [Vals.ref1 r]
  have e := refs_of_vals rv
  subst e
  have tk : ∀ q ∈ ks, L2.IsT X.prog X.w s.heap q.2 q.1 := fun q hq => I.isT (hk q hq)
  refine SrtO.sorted_pairsO (k := kv ks) hl.isList (by rw [← rv.length]; exact hz) (fun v hv => ?_) fun h' d out h1 h3 kp hd hn => ?_
  · obtain ⟨q, hq, rfl⟩ := List.mem_map.mp hv
    rw [kv_eq tk hq]
    exact isPair_of (tk q hq) (h2 q hq)
  · obtain ⟨L, pL, e'⟩ := perm_back h3.perm ks rfl
    subst e'
    obtain ⟨n, hn⟩ := hn
    refine ⟨.ref d, _, I.laid (t' := s.toks) kp hd (show ObjOk X.prog X.w _ _ _ (.lst (L.map fun q => V.ref q.1)) from ⟨?_, _, n, vals_of_refs L, hn⟩), rfl, q L d pL ?_ (I.hok.fresh hd)⟩
    · rw [List.length_map, pL.length_eq]
      rwa [List.length_map] at hz
    · refine List.Pairwise.imp_of_mem (fun {q r} hq hr hle => ?_) (List.pairwise_map.mp h1)
      have e3 : SrtO.lexB (kv ks (Value.ref r.1)) (kv ks (Value.ref q.1)) = false := hle
      rw [kv_eq tk (pL.mem_iff.mp hq), kv_eq tk (pL.mem_iff.mp hr)] at e3
      exact e3
def dSorted (ds : List D) (R : D → Prop) : Prop := oneD ds fun x => match x with
  | .lst es => ∃ ps : List (Int × Int), es = ps.map prD ∧ ∀ ys : List (Int × Int), ys.Perm ps → ys.Pairwise (fun p q => ¬ ltI2 q p) → R (.lst (ys.map prD))
  | _ => False
theorem c_sorted {K : PySem.W.Frag} : CL K (rSortQ K) .fresh dSorted := fun c own A σ ρ H vs ds R Q hk E r g q => by
  obtain ⟨x, rfl, g⟩ := oneD_iff g
  match r with
  | .cons r1 .nil =>
    cases x with
    | lst es =>
      obtain ⟨ps, rfl, g9⟩ := (show ∃ ps : List (Int × Int), es = ps.map prD ∧ ∀ ys : List (Int × Int), ys.Perm ps → ys.Pairwise (fun p q => ¬ ltI2 q p) → R (.lst (ys.map prD)) from g)
      obtain ⟨a, us, rfl, z, h, rl⟩ := RepW.lst r1
      obtain ⟨ks, rfl, e2, hks⟩ := RepL.pairs rl
      refine ⟨a, ks, rfl, .inl (.inl h), fun q hq => hk ▸ (hks q hq).1, fun q hq => (hks q hq).2.1, fun L p pm pw hp => ?_⟩
      have e4 : ks.map (fun q => pk q.2) = ps := by
        have := congrArg (List.map pk) e2
        rw [List.map_map, List.map_map] at this
        rw [show (fun q : Addr × List Int => pk q.2) = pk ∘ (fun x => x.2) from rfl, this]
        exact (List.map_congr_left fun x _ => rfl).trans (List.map_id _)
      refine q c (.ref p) _ (.lst ((L.map fun q => pk q.2).map prD)) (.one E.fok hp) (Fr.newL E hp (by rw [List.length_map, pm.length_eq]; rwa [List.length_map] at z) (RepL.refs fun q hq => (hks q (pm.mem_iff.mp hq)).2.2)) (g9 _ ?_ ?_)
      · rw [← e4]
        exact pm.map _
      · refine List.pairwise_map.mpr (pw.imp fun {q r} h z => ?_)
        rw [SrtO.lexB_iff.mpr z] at h
        cases h
    | _ => exact g.elim
section
variable {x : D} {es : List D} {R : D → Prop}
theorem x_inL : dIn x (.lst es) R = ((okD 60 x = true ∧ okD 60 (.lst es) = true) ∧ R (.bl (es.any fun z => eqD z x))) := propext Iff.rfl
theorem x_inT : dIn x (.tup es) R = ((okD 60 x = true ∧ okD 60 (.tup es) = true) ∧ R (.bl (es.any fun z => eqD z x))) := propext Iff.rfl
theorem x_niL : dNotIn x (.lst es) R = ((okD 60 x = true ∧ okD 60 (.lst es) = true) ∧ R (.bl (!es.any fun z => eqD z x))) := propext Iff.rfl
theorem x_niT : dNotIn x (.tup es) R = ((okD 60 x = true ∧ okD 60 (.tup es) = true) ∧ R (.bl (!es.any fun z => eqD z x))) := propext Iff.rfl
theorem x_sum : dSum [.lst es] R = ∃ ns : List Int, es = ns.map D.int ∧ R (.int ns.sum) := propext Iff.rfl
theorem x_max : dMax [.lst es] R = ∃ ns : List Int, es = ns.map D.int ∧ 0 < ns.length ∧ ∀ m ∈ ns, (∀ y ∈ ns, y ≤ m) → R (.int m) := propext Iff.rfl
theorem x_min : dMin [.lst es] R = ∃ ns : List Int, es = ns.map D.int ∧ 0 < ns.length ∧ ∀ m ∈ ns, (∀ y ∈ ns, m ≤ y) → R (.int m) := propext Iff.rfl
theorem x_srt : dSorted [.lst es] R = ∃ ps : List (Int × Int), es = ps.map prD ∧ ∀ ys : List (Int × Int), ys.Perm ps → ys.Pairwise (fun p q => ¬ ltI2 q p) → R (.lst (ys.map prD)) := propext Iff.rfl
theorem x_sset : dSortSet (.lst es) R = ∃ ps : List (Int × Int), es = ps.map prD ∧ ps.length < 64 ∧ R (.lst ((sortU ps).map prD)) := propext Iff.rfl
end
end DL

set_option Elab.async false
set_option linter.all false
set_option maxRecDepth 100000
set_option maxHeartbeats 4000000
namespace DL
open PySem PySem.Spec PyProof.Rows L2
section
variable {c : Cfg} {Av : Addr → Prop} {H : Hp}
theorem RepL.dropLast' : ∀ {vs : List V} {ds : List D}, RepL c Av H vs ds → RepL c Av H vs.dropLast ds.dropLast
  | _, _, .nil => .nil
  | _, _, .cons r .nil => .nil
  | _, _, .cons r (.cons r2 rl) => .cons r (RepL.dropLast' (.cons r2 rl))
theorem RepL.take' : ∀ {vs : List V} {ds : List D}, RepL c Av H vs ds → ∀ n, RepL c Av H (vs.take n) (ds.take n)
  | _, _, _, 0 => .nil
  | _, _, .nil, _ + 1 => .nil
  | _, _, .cons r rl, n + 1 => .cons r (RepL.take' rl n)
theorem RepL.drop' : ∀ {vs : List V} {ds : List D}, RepL c Av H vs ds → ∀ n, RepL c Av H (vs.drop n) (ds.drop n)
  | _, _, h, 0 => h
  | _, _, .nil, _ + 1 => .nil
  | _, _, .cons _ rl, n + 1 => RepL.drop' rl n
end
section
variable {X : Cx} {own : List Nat} {fr : Bool} {ko : Kd} {pe pk : TED}
def sPop (i : Nat) : TSD := fun DD ρ => ownL ρ i fun ds => ds ≠ [] ∧ DD.nx (ρ.set i (some (.lst ds.dropLast)))
theorem lift_pop (K : PySem.W.Frag) {i : Nat} (hi : i ∈ own) : ∀ D σ H, liftS K own fr ko (sPop i) D σ H → tDrop (tBM0 K "list" rPop (tVar i)) D σ H := by
  intro D σ H ⟨c0, H0, A, c, ρ, DD, hk, t, E, F, h, z⟩
  obtain ⟨ds, e, hne, h⟩ := ownL_iff h
  obtain ⟨a, vs, h1, h2, h3, h4, h5⟩ := ownL_at E hi e
  have l0 : 0 < vs.length := by rw [h5.len]; exact List.length_pos_iff.mpr hne
  refine ⟨.ref a, h1, .inl ⟨rfl, _, SqL.of h4⟩, a, vs, vs[vs.length - 1]'(by omega), rfl, rfl, h4, List.getElem?_eq_getElem (by omega), ?_⟩
  exact lst_mut z.nx hk t E F hi e h1 h2 (by rw [List.length_dropLast]; omega) h5.dropLast' h
theorem s_pop (i : Nat) {st : Stmt} (h : PS X st (tDrop (tBM0 X.K "list" rPop (tVar i)))) (hi : i ∈ own := by decide) : PS X st (liftS X.K own fr ko (sPop i)) := ps_imp h (lift_pop _ hi)
def sRevs (i : Nat) : TSD := fun DD ρ => ownL ρ i fun ds => DD.nx (ρ.set i (some (.lst ds.reverse)))
theorem lift_revs (K : PySem.W.Frag) {i : Nat} (hi : i ∈ own) : ∀ D σ H, liftS K own fr ko (sRevs i) D σ H → tDrop (tBM0 K "list" rReverse (tVar i)) D σ H := by
  intro D σ H ⟨c0, H0, A, c, ρ, DD, hk, t, E, F, h, z⟩
  obtain ⟨ds, e, h⟩ := ownL_iff h
  obtain ⟨a, vs, h1, h2, h3, h4, h5⟩ := ownL_at E hi e
  exact ⟨.ref a, h1, .inl ⟨rfl, _, SqL.of h4⟩, a, vs, rfl, rfl, h4, lst_mut z.nx hk t E F hi e h1 h2 (by rw [List.length_reverse]; exact h3) h5.rev h⟩
theorem s_revs (i : Nat) {st : Stmt} (h : PS X st (tDrop (tBM0 X.K "list" rReverse (tVar i)))) (hi : i ∈ own := by decide) : PS X st (liftS X.K own fr ko (sRevs i)) := ps_imp h (lift_revs _ hi)
def dLst (x : D) (f : List D → Prop) : Prop := match x with | .lst es => f es | _ => False
theorem dLst_iff {x : D} {f : List D → Prop} (h : dLst x f) : ∃ es, x = .lst es ∧ f es := by
  cases x with
  | lst es => exact ⟨es, rfl, h⟩
  | _ => exact h.elim
def sExt (i : Nat) (pe : TED) : TSD := fun DD ρ => ownL ρ i fun ds => pe ρ fun d => dLst d fun es => ds.length + es.length ≤ sizeLine ∧ DD.nx (ρ.set i (some (.lst (ds ++ es))))
theorem lift_ext (K : PySem.W.Frag) {i : Nat} (hi : i ∈ own) : ∀ D σ H, liftS K own fr ko (sExt i pe) D σ H → tDrop (tBM K "list" rExtend (tVar i) (tCons (lift K own .weak pe) tNil)) D σ H := by
  intro D σ H ⟨c0, H0, A, c, ρ, DD, hk, t, E, F, h, z⟩
  obtain ⟨ds, e, h⟩ := ownL_iff h
  obtain ⟨a, vs, h1, h2, h3, h4, h5⟩ := ownL_at E hi e
  refine ⟨.ref a, h1, .inl ⟨rfl, _, SqL.of h4⟩, c, A, ρ, _, hk, E, h, fun c1 v H1 d t1 r1 g1 => ?_⟩
  obtain ⟨es, rfl, hz, g1⟩ := dLst_iff g1
  obtain ⟨b, us, rfl, z1, hb, rl⟩ := RepW.lst r1
  have r5 := RepL.step E t1 h5
  have hl : vs.length + us.length ≤ sizeLine := by rw [h5.len, rl.len]; exact hz
  exact ⟨a, b, vs, us, rfl, rfl, t1.keep a _ h2 h4, hb, hl, lst_mut z.nx (t1.kk.trans hk) (t.trans t1) (E.step t1) F hi e h1 (t1.notS h4 h2) (by rw [List.length_append]; exact hl) (r5.append rl) g1⟩
theorem s_ext (i : Nat) {st : Stmt} (h : PS X st (tDrop (tBM X.K "list" rExtend (tVar i) (tCons (lift X.K own .weak pe) tNil)))) (hi : i ∈ own := by decide) : PS X st (liftS X.K own fr ko (sExt i pe)) := ps_imp h (lift_ext _ hi)
def rIns : V → List V → Hp → VK → Prop := fun x vs H Q => ∃ (l : Addr) (xs : List V) (i : Int) (y : V), x = .ref l ∧ vs = [.int i, y] ∧ H l = some (.lst xs) ∧ xs.length < sizeLine ∧ 0 ≤ i ∧ i < 2 ^ 63 ∧ Q .non (upd H l (.lst (xs.take i.toNat ++ [y] ++ xs.drop i.toNat)))
def sIns (i : Nat) (pk pe : TED) : TSD := fun DD ρ => ownL ρ i fun ds => pk ρ fun k => dInt k fun k => pe ρ fun d => (ds.length < sizeLine ∧ 0 ≤ k ∧ k < 2 ^ 63) ∧ DD.nx (ρ.set i (some (.lst (ds.take k.toNat ++ [d] ++ ds.drop k.toNat))))
theorem lift_ins (K : PySem.W.Frag) {i : Nat} (hi : i ∈ own) : ∀ D σ H, liftS K own fr ko (sIns i pk pe) D σ H → tDrop (tBM K "list" rIns (tVar i) (tCons (lift K own .weak pk) (tCons (lift K own .strong pe) tNil))) D σ H := by
  intro D σ H ⟨c0, H0, A, c, ρ, DD, hk, t, E, F, h, z⟩
  obtain ⟨ds, e, h⟩ := ownL_iff h
  obtain ⟨a, vs, h1, h2, h3, h4, h5⟩ := ownL_at E hi e
  refine ⟨.ref a, h1, .inl ⟨rfl, _, SqL.of h4⟩, c, A, ρ, _, hk, E, h, fun c1 v H1 d t1 r1 g1 => ?_⟩
  obtain ⟨k, rfl, g1⟩ := dInt_iff g1
  have ev := RepW.int r1
  subst ev
  refine ⟨c1, A, ρ, _, t1.kk.trans hk, E.step t1, g1, fun c2 v2 H2 d2 t2 r2 g2 => ?_⟩
  obtain ⟨⟨hz, k0, k1⟩, g2⟩ := g2
  have t12 := t1.trans t2
  have r5 := RepL.step E t12 h5
  have hl : vs.length < sizeLine := by rw [h5.len]; exact hz
  refine ⟨a, vs, k, v2, rfl, rfl, t12.keep a _ h2 h4, hl, k0, k1, lst_mut z.nx (t12.kk.trans hk) (t.trans t12) (E.step t12) F hi e h1 (t12.notS h4 h2) ?_ ((r5.take' k.toNat |>.append (.cons r2 .nil)).append (r5.drop' k.toNat)) g2⟩
  simp only [List.length_append, List.length_take, List.length_drop, List.length_singleton]
  omega
theorem s_ins (i : Nat) {st : Stmt} (h : PS X st (tDrop (tBM X.K "list" rIns (tVar i) (tCons (lift X.K own .weak pk) (tCons (lift X.K own .strong pe) tNil))))) (hi : i ∈ own := by decide) : PS X st (liftS X.K own fr ko (sIns i pk pe)) := ps_imp h (lift_ins _ hi)
theorem e_revL {e : Expr} {p : TED} {k : Nat} {q1 q2 p3 pos : Pos} (he : PE X e (lift X.K own .weak p)) : PE X (.Subscript e (.Slice none none (some (.UnaryOp .USub (.Constant (.int 1) k q1) q2)) p3) pos) (lift X.K own .fresh (p1 dRev p)) := pe_imp (pe_revL he) (lift_lstRev _)
end
section
variable {i : Nat} {a b : TED} {DD : DEnds} {ρ : PEnv} {es : List D} {f : List D → Prop}
theorem x_pop : sPop i DD ρ = ownL ρ i fun ds => ds ≠ [] ∧ DD.nx (ρ.set i (some (.lst ds.dropLast))) := propext Iff.rfl
theorem x_revs : sRevs i DD ρ = ownL ρ i fun ds => DD.nx (ρ.set i (some (.lst ds.reverse))) := propext Iff.rfl
theorem x_ext : sExt i a DD ρ = ownL ρ i fun ds => a ρ fun d => dLst d fun es => ds.length + es.length ≤ sizeLine ∧ DD.nx (ρ.set i (some (.lst (ds ++ es)))) := propext Iff.rfl
theorem x_ins : sIns i a b DD ρ = ownL ρ i fun ds => a ρ fun k => dInt k fun k => b ρ fun d => (ds.length < sizeLine ∧ 0 ≤ k ∧ k < 2 ^ 63) ∧ DD.nx (ρ.set i (some (.lst (ds.take k.toNat ++ [d] ++ ds.drop k.toNat)))) := propext Iff.rfl
theorem x_dLst : dLst (.lst es) f = f es := propext Iff.rfl
end
end DL

set_option Elab.async false
set_option linter.all false
set_option maxRecDepth 100000
set_option maxHeartbeats 4000000
namespace DLZ
open PySem PySem.Spec PyProof.Rows L2
theorem meetsET (l : Addr) (items : Array Value) (n : Nat) (dct : Option Addr) (sl : Array (Option Value)) :
    Meets (Builtin.«enumerate.__new__» ⟨[.type "enumerate", .ref l], []⟩) (fun _ R s => s.heap.get? l = some { cls := .type "tuple", dict := dct, data := .seq items n, slots := sl } ∧
      R (.ok (.ret (.ref (s.heap.push (itO false l)).objs.size))) { s with heap := (s.heap.push (itO false l)).push { cls := .type "enumerate", data := .fields #[.none, .bool false, .ref s.heap.objs.size, rawInt 0, .none, .none] } }) :=
  .of_wp fun prog w A R s h => by
    obtain ⟨hp, g, d, tk, os⟩ := s
    obtain ⟨hl, h⟩ := h
    have hsub := sub_enumerate
    have hT : Heap.IsTuple (Shared.heap ⟨hp, g, d, tk, os⟩) l items := ⟨_, hl, rfl, n, rfl⟩
    wp_walk using wpAny_loadPart' hl
    refine wpAny_stack_any fun st => (wpAny_pure (?_ : _))
    split
    · rename_i c _ _ _ _ _
      cases (c == Value.type "enumerate")
      · wp_walk using wpAny_loadPart' hl, wpAny_pyIter_tuple hT
        exact ⟨_, rfl, h⟩
      · wp_walk using wpAny_loadPart' hl, wpAny_pyIter_tuple hT
        exact ⟨_, rfl, h⟩
    · wp_walk using wpAny_loadPart' hl, wpAny_pyIter_tuple hT
      exact ⟨_, rfl, h⟩
section
variable {prog : Program} {w : World} {A : Around} {E : Value → Shared → Prop} {s : Shared}
theorem callEB {b : Bool} {l : Addr} {items : Array Value} {Q : Value → Shared → Prop} (x : IsB b s.heap l items)
    (h : ∀ h', IsEnum h' (s.heap.objs.size + 1) s.heap.objs.size 0 .none → ItB b h' s.heap.objs.size l 0 → (∀ c o, s.heap.get? c = some o → h'.get? c = some o) → Q (.ref (s.heap.objs.size + 1)) { s with heap := h' }) :
    wpAny (model prog w) A (call (.type "enumerate") [.ref l]) Q E s := by
  cases b
  · obtain ⟨⟨c, dct, dt, sl⟩, hl, hc, n, hd⟩ := (show s.heap.IsTuple l items from x)
    obtain rfl : c = .type "tuple" := hc
    obtain rfl : dt = .seq items n := hd
    refine callType_new F.called_enumerate (by decide) (F.typeCall_enumerate_1 _) (F.newCall_enumerate_1 _) (fun obj => F.args_object_init_2 obj _) F.entry_enumerate_new (meetsET l items n dct sl) ⟨hl, (?_ : _ ∧ _)⟩
    have z1 : (s.heap.push (itO false l)).objs.size = s.heap.objs.size + 1 := Heap.size_push ..
    have m2 : ((s.heap.push (itO false l)).push { cls := .type "enumerate", data := .fields #[.none, .bool false, .ref s.heap.objs.size, rawInt 0, .none, .none] }).get? (s.heap.push (itO false l)).objs.size = some _ := Heap.get?_push_size _ rfl
    have m1 : ((s.heap.push (itO false l)).push { cls := .type "enumerate", data := .fields #[.none, .bool false, .ref s.heap.objs.size, rawInt 0, .none, .none] }).get? s.heap.objs.size = some (itO false l) := Heap.get?_push_of_some _ (Heap.get?_push_size _ rfl)
    rw [z1] at m2 ⊢
    exact ⟨⟨_, m2, rfl⟩, h _ m2 (show Heap.IsTupleIter _ _ l 0 from ⟨_, m1, rfl, rfl⟩) fun c o e => Heap.get?_push_of_some _ (Heap.get?_push_of_some _ e)⟩
  · exact call_enumerate_list (show s.heap.IsList l items from x) fun h' he hi _ k => h h' he hi k
end
def IteB (K : PySem.W.Frag) (b : Bool) (a : Addr) : It :=
  ⟨fun i H => ∃ (xs : List V) (x : V), SqB K b H a xs ∧ xs[i]? = some x, fun i H v H' => ∃ T x, v = .ref T ∧ H T = none ∧ H' = upd H T (.tup [.int (i : Nat), x]) ∧ ∀ xs, SqB K b H a xs → xs[i]? = some x, fun i H => ∃ xs : List V, SqB K b H a xs ∧ xs.length ≤ i⟩
theorem turnEB {P : Program} {w : World} {K : PySem.W.Frag} {elts : List Expr} {kk : Nat} {tpos : Pos} {b : Bool} {a e it : Addr} (d1 : e ≠ it) (d2 : a ≠ it) (d3 : a ≠ e) :
    Turn P w K (.Tuple elts kk tpos) (IteB K b a) [e, it] e (fun i h => (∃ old, IsEnum h e it ((i : Nat) : Int) old) ∧ ItB b h it a i) where
  mem := List.mem_cons_self
  obj := fun i h ⟨⟨old, he⟩, hi⟩ c hc => by
    have e' : c = e ∨ c = it := by simpa using hc
    rcases e' with q | q <;> subst q
    · exact ⟨_, he, fun v q => nomatch q⟩
    · exact hi.obj
  keep := fun i h h' ⟨⟨old, he⟩, hi⟩ k => ⟨⟨old, k e (by simp) _ he⟩, hi.keep fun o q => k it (by simp) o q⟩
  item := by
    rintro X rfl rfl rfl hc i pins s σ H E I hf ⟨⟨old, he⟩, hi⟩ ⟨xs, x, hq, hx⟩
    obtain ⟨its, rv, p⟩ := sqB_get I hq
    obtain ⟨u, hu, ru⟩ := rv.get hx
    have hh : X.A.in1.handled = none := by have := I.ok.hd hc; simpa using this
    have l1 : i < its.toArray.size := by have := (List.getElem?_eq_some_iff.mp hu).1; simpa using this
    have el : e < s.heap.objs.size := Heap.lt_size he
    refine wpAny_pyNext_enum_itemD (drawsB hh b it a d2 its.toArray) he ⟨hi, p⟩ l1 d1 (by simp [d1, d3.symm]) fun v h' tk e1 ho st hT hsz hk => ?_
    obtain rfl : v = u := Option.some.inj (e1.symm.trans (by simpa using hu))
    refine ⟨_, rfl, wpAny_letOwnedTupleGo_enum (s := { s with heap := h', toks := tk + 1 }) ho fun h'' he' sb => ?_⟩
    have hT2 : h''.get? s.heap.objs.size = some { cls := .type "tuple", data := .seq #[.int i tk, v] } := (sb.2 _ (Nat.ne_of_gt el)).trans hT
    have new : ObjOk X.prog X.w (upd H s.heap.objs.size (.tup [.int (i : Nat), x])) h'' s.heap.objs.size (.tup [.int (i : Nat), x]) := ⟨by show 2 ≤ sizeLine; decide, [.int i tk, v], .cons ⟨_, rfl⟩ (.cons ru .nil), ⟨_, hT2, rfl, _, rfl⟩⟩
    have kp : ∀ c o, c ∉ [e, it] → s.heap.get? c = some o → h''.get? c = some o := fun c o hb q => by
      simp only [List.mem_cons, List.not_mem_nil, or_false, not_or] at hb
      exact (sb.2 c hb.1).trans (hk c o hb.1 hb.2 q)
    have I1 : Inv X pins σ (upd H s.heap.objs.size (.tup [.int (i : Nat), x])) { s with heap := h'', toks := tk + 1 } := I.turnedNew (t' := tk + 1) kp hf (Nat.le_refl _) new
    refine ⟨.ref s.heap.objs.size, _, I1, rfl, ⟨_, x, rfl, I.hok.fresh (Nat.le_refl _), rfl, fun l hl => by rw [sqB_inj I hl hq]; exact hx⟩, ⟨⟨v, ?_⟩, st.1.keep fun o q => (sb.2 _ d1.symm).trans q⟩, fun c hcm => ?_⟩
    · have e1 : ((i + 1 : Nat) : Int) = (i : Int) + 1 := by omega
      rw [e1]
      exact he'
    · have lt : c < s.heap.objs.size := by
        have e' : c = e ∨ c = it := by simpa using hcm
        rcases e' with q | q <;> subst q
        · exact el
        · obtain ⟨_, e1, _⟩ := hi.obj; exact Heap.lt_size e1
      rw [upd_ne (Nat.ne_of_lt lt)]
      exact (hf c hcm).1
  done := by
    rintro X rfl rfl rfl hc i pins s σ H E I hf ⟨⟨old, he⟩, hi⟩ ⟨xs, hq, hx⟩
    obtain ⟨its, rv, p⟩ := sqB_get I hq
    have l1 := rv.length
    have hh : X.A.in1.handled = none := by have := I.ok.hd hc; simpa using this
    obtain ⟨n, P1, St1, D1, s1, m1, e1⟩ := sideB (prog := X.prog) (w := X.w) hh b d2 hi p
    have en : i = n := e1 (by simp; omega)
    rw [en] at s1
    refine wpAny_pyNext_enum_endD D1 he s1 fun h' eb => ⟨rfl, I.turnedL (t' := s.toks) (ch := [e, it]) (fun c o hb q => eb c o (fun z => hb (by simp [z])) q) hf⟩
  self := fun A i s Q E st h => let ⟨⟨_, he⟩, _⟩ := st; wpAny_pyIter_enum he h
def iEnumB (K : PySem.W.Frag) (ta : TA) : TI := fun σ H R => ta σ H fun vs H1 => ∃ b a xs, vs = [V.ref a] ∧ SqB K b H1 a xs ∧ R (IteB K b a) H1
theorem pi_enumB {X : Cx} {e : Expr} {ta : TA} {p pos tpos : Pos} {elts : List Expr} {kk : Nat} (hg : Gl X "enumerate") (hm : X.mg "enumerate" = none) (ha : PA X [e] ta) (hs : starEach [e] X.env = [(false, eval e X.env)] := by rfl) :
    PI X (.Tuple elts kk tpos) (.Call (.Name "enumerate" p) [e] [] pos) (iEnumB X.K ta) := by
  refine ⟨fun pins s σ H R I h => Call_ (ld_blt I hg hm boot_enumerate (PyProof.Rows.callWith_type1 (thn (ha.run pos pins s σ H _ I h) fun us s1 ⟨vs, H1, I1, r1, q1⟩ => ?_) hs rfl))⟩
  obtain ⟨b, a, xs, rfl, hq, q⟩ := q1
  cases r1 with
  | cons r rr =>
    cases rr; cases r
    obtain ⟨its, rv, p1⟩ := sqB_get I1 hq
    have la := p1.lt
    refine callEB p1 fun h' he hi hk => wpAny_pyIter_enum he ?_
    have I2 : Inv X pins σ H1 { s1 with heap := h' } := I1.kept (t' := s1.toks) hk
    refine ⟨s1.heap.objs.size + 1, [s1.heap.objs.size + 1, s1.heap.objs.size], _, _, H1, rfl, I2, turnEB (Nat.succ_ne_self _) (Nat.ne_of_lt la) (Nat.ne_of_lt (Nat.lt_succ_of_lt la)), ⟨⟨.none, he⟩, hi⟩, fun c hcm => ?_, q⟩
    have le : s1.heap.objs.size ≤ c := by
      simp only [List.mem_cons, List.not_mem_nil, or_false] at hcm
      rcases hcm with q | q <;> rw [q] <;> first | exact Nat.le_refl _ | exact Nat.le_succ _
    exact I1.fpOk le (I1.hok.fresh le)
end DLZ
namespace DL
open PySem PySem.Spec PyProof.Rows L2 DLZ
def dEnumM (x : D) (R : List D → Prop) : Prop := dSeq x fun xs => R (enumD xs)
def sEnumM (pa : TAD) : TAD := fun ρ R => pa ρ fun ds => oneD ds fun x => dEnumM x R
theorem iteB_ok {c : Cfg} {Av : Addr → Prop} {H0 : Hp} {a : Addr} {xs : List V} {ds : List D} {b : Bool} (hav : ∀ b, c.S b → Av b) (ha : ∀ c2 H2, Step c H0 c2 H2 → SqB c.K b H2 a xs) (rx : RepL c Av H0 xs ds) : ItOk c Av (IteB c.K b a) H0 (enumD ds) := by
  refine itz_any (xs := (List.range xs.length).map fun i => V.int (0 + (i : Nat))) (ys := xs) hav ?_ rx fun c2 H2 t i => ⟨fun hl => ⟨xs, ha _ _ t, by simpa using hl⟩, fun x y hx hy => ?_⟩
  · unfold rangeD
    rw [← rx.len, show ((xs.length : Int) - 0).toNat = xs.length by omega]
    exact rangeL c Av H0 0 _
  · refine ⟨⟨xs, y, ha _ _ t, hy⟩, fun v H3 ⟨T, x', e, hT, e3, h1⟩ => ⟨T, e, hT, ?_⟩⟩
    have e1 := Option.some.inj ((h1 xs (ha _ _ t)).symm.trans hy)
    have hi : i < xs.length := (List.getElem?_eq_some_iff.mp hy).1
    rw [List.getElem?_map, List.getElem?_range hi] at hx
    have e2 : V.int (0 + (i : Nat)) = x := Option.some.inj hx
    rw [Int.zero_add] at e2
    rw [e3, e1, e2]
theorem lift_enumMW (K : PySem.W.Frag) {own : List Nat} {pa : TAD} : ∀ σ H Q, liftI K own .weak (sEnumM pa) σ H Q → iEnumB K (liftA K own .weak 1 pa) σ H Q := fun σ H Q ⟨c, A, ρ, R, hk, E, hp, f⟩ => ⟨c, A, ρ, _, hk, E, hp, fun c1 vs H1 ds t r hn g => by
  obtain ⟨x, rfl, g⟩ := oneD_iff g
  obtain ⟨xs, hx, g⟩ := dSeq_iff g
  match r with
  | .cons r1 .nil =>
    obtain ⟨b, a, us, rfl, q1, rl, k1⟩ := RepW.seqK hx r1
    have h := iteB_ok avdS k1 rl
    rw [t.kk.trans hk] at h q1
    exact ⟨b, a, us, rfl, q1, f c1 _ H1 _ t h g⟩⟩
theorem lift_enumMS (K : PySem.W.Frag) {own : List Nat} {pa : TAD} : ∀ σ H Q, liftI K own .strong (sEnumM pa) σ H Q → iEnumB K (liftA K own .strong 1 pa) σ H Q := fun σ H Q ⟨c, A, ρ, R, hk, E, hp, f⟩ => ⟨c, A, ρ, _, hk, E, hp, fun c1 vs H1 ds t r hn g => by
  obtain ⟨x, rfl, g⟩ := oneD_iff g
  obtain ⟨xs, hx, g⟩ := dSeq_iff g
  match r with
  | .cons r1 .nil =>
    obtain ⟨b, a, us, rfl, q1, rl, k1⟩ := Rep.seqK hx r1
    have h := iteB_ok avdS k1 rl
    rw [t.kk.trans hk] at h q1
    exact ⟨b, a, us, rfl, q1, f c1 _ H1 _ t h g⟩⟩
section
variable {X : Cx} {own : List Nat} {pa : TAD} {e : Expr} {p pos tpos : Pos} {elts : List Expr} {kk : Nat}
theorem i_enumMW (hm : X.mg "enumerate" = none) (ha : PA X [e] (liftA X.K own .weak 1 pa)) (hg : Gl X "enumerate" := by rfl) (hs : starEach [e] X.env = [(false, eval e X.env)] := by rfl) :
    PI X (.Tuple elts kk tpos) (.Call (.Name "enumerate" p) [e] [] pos) (liftI X.K own .weak (sEnumM pa)) := pi_imp (pi_enumB hg hm ha hs) (lift_enumMW _)
theorem i_enumMS (hm : X.mg "enumerate" = none) (ha : PA X [e] (liftA X.K own .strong 1 pa)) (hg : Gl X "enumerate" := by rfl) (hs : starEach [e] X.env = [(false, eval e X.env)] := by rfl) :
    PI X (.Tuple elts kk tpos) (.Call (.Name "enumerate" p) [e] [] pos) (liftI X.K own .strong (sEnumM pa)) := pi_imp (pi_enumB hg hm ha hs) (lift_enumMS _)
end
theorem x_sEnumM {pa : TAD} {ρ : PEnv} {R : List D → Prop} : sEnumM pa ρ R = pa ρ fun ds => oneD ds fun x => dEnumM x R := propext Iff.rfl
theorem x_enM {x : D} {R : List D → Prop} : dEnumM x R = dSeq x fun xs => R (enumD xs) := propext Iff.rfl
end DL

set_option Elab.async false
set_option linter.all false
set_option maxRecDepth 100000
set_option maxHeartbeats 4000000
namespace DSet
open PySem PySem.Spec PyProof.Rows L2
def five : Nat → Nat
  | 0 => 0
  | n + 1 => five n * 5 + 1
theorem five_pow : ∀ n, 4 * five n + 1 = 5 ^ n
  | 0 => rfl
  | n + 1 => by
    have ih := five_pow n
    rw [Nat.pow_succ, ← ih]
    show 4 * (five n * 5 + 1) + 1 = _
    omega
theorem five_add (a : Nat) : ∀ b, five (a + b) = five a * 5 ^ b + five b
  | 0 => by simp [five]
  | b + 1 => by
    show five (a + b) * 5 + 1 = five a * 5 ^ (b + 1) + (five b * 5 + 1)
    rw [five_add a b, Nat.pow_succ, Nat.add_mul, Nat.mul_assoc]
    omega
theorem five_two : ∀ k, ∃ q, five (2 ^ k) = 2 ^ k * (2 * q + 1)
  | 0 => ⟨0, rfl⟩
  | k + 1 => by
    obtain ⟨q, e⟩ := five_two k
    have e2 : (2 : Nat) ^ (k + 1) = 2 ^ k + 2 ^ k := by rw [Nat.pow_succ]; omega
    have e5 := five_pow (2 ^ k)
    refine ⟨q * (2 * five (2 ^ k) + 1) + five (2 ^ k), ?_⟩
    rw [e2, five_add, ← e5]
    generalize five (2 ^ k) = s at *
    subst e
    generalize 2 ^ k = N
    grind
theorem five_hits : ∀ k j, j < 2 ^ k → ∃ n, n < 2 ^ k ∧ five n % 2 ^ k = j
  | 0, j, h => ⟨0, by decide, by have : j = 0 := by simpa using h
                                 subst this; rfl⟩
  | k + 1, j, h => by
    have hp : 0 < 2 ^ k := Nat.pow_pos (by decide)
    obtain ⟨n, hn, e⟩ := five_hits k (j % 2 ^ k) (Nat.mod_lt _ hp)
    obtain ⟨q, eq⟩ := five_two k
    have e5 := five_pow (2 ^ k)
    have ea := five_add n (2 ^ k)
    rw [Nat.pow_succ] at h ⊢
    generalize 2 ^ k = M at *
    have hj : j = j % M + M * (j / M) := (Nat.mod_add_div j M).symm
    have hj2 : j / M < 2 := Nat.div_lt_of_lt_mul (by omega)
    have split : ∀ x, x % (M * 2) = x % M + M * (x / M % 2) := fun x => Nat.mod_mul
    by_cases c : five n / M % 2 = j / M
    · exact ⟨n, by omega, by rw [split, e, c]; exact hj.symm⟩
    · refine ⟨n + M, by omega, ?_⟩
      have e6 : five (n + M) = five n + M + (M * 2) * (2 * five n * (2 * q + 1) + q) := by
        rw [ea, ← e5, eq]
        grind
      rw [e6, Nat.add_mul_mod_self_left, split, Nat.add_mod_right, e, Nat.add_div_right _ hp]
      have : (five n / M + 1) % 2 = j / M := by
        generalize five n / M = u at c ⊢
        generalize j / M = v at c hj2 ⊢
        omega
      rw [this]
      exact hj.symm
def MaskG (m : Nat) : Prop := ∃ k, 3 ≤ k ∧ k ≤ 13 ∧ m + 1 = 2 ^ k
theorem MaskG.odd {m : Nat} (h : MaskG m) : m % 2 = 1 := by
  obtain ⟨k, h1, _, e⟩ := h
  obtain ⟨k', rfl⟩ : ∃ k', k = k' + 1 := ⟨k - 1, by omega⟩
  rw [Nat.pow_succ] at e
  omega
theorem MaskG.le {m : Nat} (h : MaskG m) : m ≤ 8191 := by
  obtain ⟨k, _, h2, e⟩ := h
  have := Nat.pow_le_pow_right (show 1 ≤ 2 by decide) h2
  have e13 : (2 : Nat) ^ 13 = 8192 := by decide
  omega
theorem lcg_five (m : Nat) : ∀ n, lcgN m n = five n % (m + 1)
  | 0 => by simp [lcgN, five]
  | n + 1 => by
    show (lcgN m n * 5 + 1) % (m + 1) = (five n * 5 + 1) % (m + 1)
    rw [lcg_five m n, Nat.add_mod, Nat.mul_mod, Nat.mod_mod, ← Nat.mul_mod, ← Nat.add_mod]
theorem ways_all {m : Nat} (hm : MaskG m) {i j : Nat} (hi : i ≤ m) (hj : j ≤ m) : ∃ k, k ≤ m ∧ lcgI m i k = j := by
  obtain ⟨k, _, _, e⟩ := hm
  obtain ⟨a, ha, ea⟩ := five_hits k i (by omega)
  obtain ⟨b, hb, eb⟩ := five_hits k j (by omega)
  rw [← e, ← lcg_five] at ea eb
  rcases Nat.lt_or_ge b a with c | c
  · refine ⟨b + (m + 1) - a, by omega, ?_⟩
    rw [← ea, lcgN_add, show a + (b + (m + 1) - a) = b + (m + 1) by omega, lcg_five, five_add]
    obtain ⟨q, eq⟩ := five_two k
    have e5 := five_pow (2 ^ k)
    rw [← e] at eq e5
    rw [← e5, eq, ← eb, lcg_five]
    have : five b * (4 * ((m + 1) * (2 * q + 1)) + 1) + (m + 1) * (2 * q + 1) = five b + (m + 1) * (five b * 4 * (2 * q + 1) + (2 * q + 1)) := by grind
    rw [this, Nat.add_mul_mod_self_left]
  · refine ⟨b - a, by omega, ?_⟩
    rw [← ea, lcgN_add, show a + (b - a) = b by omega, eb]
theorem runs_all {m : Nat} (hm : MaskG m) (h : Int) {j : Nat} (hj : j ≤ m) : ∃ n, n ≤ m + 12 ∧ runI m (SetTable.bits h) n = j := by
  obtain ⟨k, hk, e⟩ := ways_all hm (runI_le m (SetTable.bits h) 12) hj
  exact ⟨12 + k, by omega, (runI_tail (bits_lt h) k).trans e⟩
theorem meets_all {m : Nat} (hm : MaskG m) (h : Int) {j : Nat} (hj : j ≤ m) : ∃ k, k < 10 * SetTable.turns m ∧ way m h k = j := by
  obtain ⟨n, hn, e⟩ := runs_all hm h hj
  obtain ⟨k, hk, e2⟩ := run_nth m (SetTable.bits h) n
  exact ⟨k, by unfold SetTable.turns; omega, (congrArg SetTable.Probe.j e2).trans e⟩
theorem way_in {m : Nat} (h : Int) (k : Nat) : way m h k ≤ m := by
  have r := runEnd_bd (show SetTable.bits h % (m + 1) ≤ m from Nat.le_of_lt_succ (Nat.mod_lt _ (Nat.succ_pos _)))
  have q := nth_in (m := m) k (runAt m (SetTable.bits h % (m + 1)) (SetTable.bits h)) (show SetTable.bits h % (m + 1) + (SetTable.runEnd m (SetTable.bits h % (m + 1)) - SetTable.bits h % (m + 1)) ≤ m by omega)
  exact Nat.le_trans (Nat.le_add_right _ _) q
structure Tab (t : SetTable) (hs : List Int) : Prop where
  ris : Ris t.place.toList
  dm : t.dummies = #[]
  sz : t.place.size = hs.length
  mg : MaskG t.mask
  inn : ∀ x ∈ t.place.toList, x ≤ t.mask
  way : ∀ (i : Nat) (h : Int) (j : Nat), hs[i]? = some h → t.place.toList[i]? = some j → ∃ k, L2.way t.mask h k = j ∧ ∀ k', k' < k → L2.way t.mask h k' ∈ t.place.toList
theorem Tab.stop {t : SetTable} {hs : List Int} (T : Tab t hs) (hl : hs.length ≤ t.mask) (h : Int) : ∃ K, K < 10 * SetTable.turns t.mask ∧ L2.way t.mask h K ∉ t.place.toList ∧ ∀ k, k < K → L2.way t.mask h k ∈ t.place.toList := by
  obtain ⟨j, hj, hn⟩ := st_missing t.place.toList (t.mask + 1) (by rw [Array.length_toList, T.sz]; omega)
  obtain ⟨k, hk, rfl⟩ := meets_all T.mg h (Nat.le_of_lt_succ hj)
  obtain ⟨K, a, b, c⟩ := st_least (p := fun k => L2.way t.mask h k ∉ t.place.toList) k hn
  exact ⟨K, by omega, b, fun k' hk' => Classical.byContradiction fun z => c k' hk' z⟩
theorem Tab.ahead {t : SetTable} {hs : List Int} (T : Tab t hs) {h : Int} {K i j : Nat} (hK : L2.way t.mask h K ∉ t.place.toList) (hi : hs[i]? = some h) (hj : t.place.toList[i]? = some j) : ∃ k, k < K ∧ L2.way t.mask h k = j := by
  obtain ⟨k, e, hb⟩ := T.way i h j hi hj
  refine ⟨k, Classical.byContradiction fun z => ?_, e⟩
  rcases Nat.lt_or_ge K k with c | c
  · exact hK (hb K c)
  · have : k = K := by omega
    subst this
    exact hK (e ▸ List.mem_of_getElem? hj)
theorem Tab.ins {t : SetTable} {hs : List Int} (T : Tab t hs) {h : Int} {K : Nat} (hK : L2.way t.mask h K ∉ t.place.toList) (hb : ∀ k, k < K → L2.way t.mask h k ∈ t.place.toList) :
    ∃ p t', t.put (L2.way t.mask h K) = (t', p) ∧ p ≤ hs.length ∧ Tab t' (hs.take p ++ h :: hs.drop p) ∧ t'.mask = t.mask ∧ t'.led = t.led ∧ t'.plain = t.plain ∧ t'.fill = hs.length + 1 := by
  obtain ⟨c1, _, _⟩ := below_cut T.ris (L2.way t.mask h K)
  have hpl : SetTable.below t.place (L2.way t.mask h K) ≤ t.place.toList.length := by rw [Array.length_toList]; exact c1
  have hph : SetTable.below t.place (L2.way t.mask h K) ≤ hs.length := T.sz ▸ c1
  have hnp : t.place[SetTable.below t.place (L2.way t.mask h K)]? ≠ some (L2.way t.mask h K) := fun e => hK (List.mem_of_getElem? (by rw [Array.getElem?_toList]; exact e))
  have pl := put_place t (L2.way t.mask h K)
  have dm := put_dm T.dm (L2.way t.mask h K)
  have zz : (t.put (L2.way t.mask h K)).1.place.size = hs.length + 1 := by
    rw [← Array.length_toList, pl, len_ins _ hpl, Array.length_toList, T.sz]
  refine ⟨SetTable.below t.place (L2.way t.mask h K), (t.put (L2.way t.mask h K)).1, rfl, hph, ⟨ris_insert T.ris hnp, dm, by rw [zz, len_ins _ hph], T.mg, fun x hx => ?_, fun i g j e1 e2 => ?_⟩, rfl, rfl, rfl, by show _ + _ = _; rw [zz, dm]; rfl⟩
  · rw [pl] at hx
    rcases mem_ins.1 hx with rfl | z
    · exact way_in _ _
    · exact T.inn x z
  · have up : ∀ {x : Nat}, x ∈ t.place.toList → x ∈ (t.put (L2.way t.mask h K)).1.place.toList := fun hx => by rw [pl]; exact mem_ins.2 (.inr hx)
    rw [tins_get hs hph] at e1
    rw [pl, tins_get _ hpl] at e2
    split at e1
    · rename_i c
      rw [if_pos c] at e2
      obtain ⟨k, e, z⟩ := T.way i g j e1 e2
      exact ⟨k, e, fun k' hk' => up (z k' hk')⟩
    · rename_i c
      rw [if_neg c] at e2
      split at e1
      · rename_i d
        rw [if_pos d] at e2
        cases e1; cases e2
        exact ⟨K, rfl, fun k' hk' => up (hb k' hk')⟩
      · rename_i d
        rw [if_neg d] at e2
        obtain ⟨k, e, z⟩ := T.way (i - 1) g j e1 e2
        exact ⟨k, e, fun k' hk' => up (z k' hk')⟩
theorem free_at {m : Nat} (hm : MaskG m) (owner : Array (Option Nat)) (h : Int) {j : Nat} (hj : j ≤ m) (hf : oAt owner j = none) :
    ∃ K, SetTable.layClean.free m owner (SetTable.turns m) (SetTable.bits h % (m + 1)) (SetTable.bits h) = some (way m h K) ∧ oAt owner (way m h K) = none ∧ ∀ k, k < K → oAt owner (way m h k) ≠ none := by
  obtain ⟨n, hn, e⟩ := runs_all hm h hj
  have hw : way m h (off m (SetTable.bits h % (m + 1)) (SetTable.bits h) n) = j := (congrArg SetTable.Probe.j (nth_off m n _ _)).trans (by rw [itL_run]; exact e)
  obtain ⟨K, k1, k2, k3⟩ := st_least (p := fun k => oAt owner (way m h k) = none) (off m (SetTable.bits h % (m + 1)) (SetTable.bits h) n) (by rw [hw]; exact hf)
  refine ⟨K, free_spec m owner (SetTable.turns m) n _ _ K (by unfold SetTable.turns; omega) k1 (fun k hk => ?_) (by rw [show oAt owner (nth m (runAt m (SetTable.bits h % (m + 1)) (SetTable.bits h)) K).j = none from k2]; rfl), k2, k3⟩
  have q := k3 k hk
  show (oAt owner (way m h k)).isNone = false
  cases z : oAt owner (way m h k) with
  | none => exact absurd z q
  | some _ => rfl
theorem own_step {m : Nat} (hm : MaskG m) {done : List Int} {owner : Array (Option Nat)} (W : Own m done owner) (hl : done.length ≤ m) (h : Int) :
    ∃ j, SetTable.layClean.free m owner (SetTable.turns m) (SetTable.bits h % (m + 1)) (SetTable.bits h) = some j ∧ Own m (done ++ [h]) (owner.setIfInBounds j (some done.length)) := by
  obtain ⟨ps, hps, hin⟩ := W.ps
  obtain ⟨j0, h0, hn0⟩ := st_missing ps (m + 1) (by omega)
  obtain ⟨K, e1, e2, e3⟩ := free_at hm owner h (Nat.le_of_lt_succ h0) (Classical.byContradiction fun z => hn0 (hin j0 (Nat.le_of_lt_succ h0) z))
  have hjm := way_in (m := m) h K
  have self := oAt_set_self (owner := owner) (j := way m h K) (some done.length) (by rw [W.sz]; omega)
  have mono : ∀ {i}, oAt owner i ≠ none → oAt (owner.setIfInBounds (way m h K) (some done.length)) i ≠ none := fun {i} hi => by
    by_cases c : i = way m h K
    · rw [c, self]; exact Option.some_ne_none _
    · rw [oAt_set_ne _ c]; exact hi
  refine ⟨_, e1, ⟨by rw [Array.size_setIfInBounds, W.sz], fun j k hj e => ?_, fun k hk => ?_, way m h K :: ps, by simp [hps], fun j hj e => ?_⟩⟩
  · by_cases c : j = way m h K
    · rw [c, self] at e
      cases e
      exact ⟨h, K, by simp, c.symm, fun k' hk' => mono (e3 k' hk')⟩
    · rw [oAt_set_ne _ c] at e
      obtain ⟨g, K', a1, a2, a3⟩ := W.at_ j k hj e
      exact ⟨g, K', by rw [List.getElem?_append_left (List.getElem?_eq_some_iff.mp a1).1, a1], a2, fun k' hk' => mono (a3 k' hk')⟩
  · rw [List.length_append, List.length_singleton] at hk
    by_cases c : k < done.length
    · obtain ⟨j, hj, e⟩ := W.all k c
      refine ⟨j, hj, ?_⟩
      rw [oAt_set_ne _ (fun z => by rw [z, e2] at e; cases e)]
      exact e
    · have : k = done.length := by omega
      subst this
      exact ⟨_, hjm, self⟩
  · by_cases c : j = way m h K
    · rw [c]; exact List.mem_cons_self
    · rw [oAt_set_ne _ c] at e
      exact List.mem_cons_of_mem _ (hin j hj e)
theorem own_fold {m : Nat} (hm : MaskG m) : ∀ (rest done : List Int) (owner : Array (Option Nat)), Own m done owner → done.length + rest.length ≤ m →
    ∃ owner', rest.foldl (stepF m) (some (owner, done.length)) = some (owner', (done ++ rest).length) ∧ Own m (done ++ rest) owner'
  | [], done, owner, W, _ => ⟨owner, by simp, by simpa using W⟩
  | h :: rest, done, owner, W, hl => by
    rw [List.length_cons] at hl
    obtain ⟨j, e, W'⟩ := own_step hm W (by omega) h
    obtain ⟨owner', f, W2⟩ := own_fold hm rest (done ++ [h]) _ W' (by simp; omega)
    have l1 : (done ++ [h]).length = done.length + 1 := by simp
    rw [List.append_assoc, l1] at f
    rw [List.append_assoc] at W2
    exact ⟨owner', by rw [List.foldl_cons, stepF_some e]; exact f, W2⟩
theorem anew (t : SetTable) {hs : Array Int} {wanted M : Nat} (hw : SetTable.sizeAbove wanted - 1 = M) (hM : MaskG M) (hn : hs.size ≤ M) :
    ∃ t' order, t.relaid hs wanted = some (t', order) ∧ order.toList.Perm (List.range hs.size) ∧ Tab t' (order.toList.map fun i => hs.getD i 0) ∧ t'.mask = M ∧ t'.led = t.led ∧ t'.plain = t.plain := by
  obtain ⟨owner, f, W⟩ := own_fold hM hs.toList [] _ (Own.init M) (by simpa using hn)
  rw [List.nil_append] at W
  have hr : t.relaid hs wanted = some (tabOf t M owner, ((liveOf M owner).map (·.2)).toArray) := by
    rw [relaid_eq, hw, layClean_eq]
    rw [List.length_nil] at f
    rw [f]
    rfl
  obtain ⟨r1, r2⟩ := ris_live (fun j => owner.getD j none) (List.range (M + 1)) (by unfold Ris; exact List.pairwise_lt_range)
  have nd : ((liveOf M owner).map (·.1)).Nodup := List.Pairwise.imp Nat.ne_of_lt r1
  have onto : ∀ k, k < hs.size → k ∈ (liveOf M owner).map (·.2) := fun k hk => by
    obtain ⟨j, b1, b2⟩ := W.all k (by simpa using hk)
    exact List.mem_map.mpr ⟨(j, k), (mem_live W.sz).2 ⟨b1, b2⟩, rfl⟩
  have hlen : (liveOf M owner).length = hs.size := by
    obtain ⟨ps, p1, p2⟩ := W.ps
    have a := nat_nodup_len ((liveOf M owner).map (·.1)) ps nd fun x hx => by
      obtain ⟨⟨y, k⟩, hq, rfl⟩ := List.mem_map.mp hx
      obtain ⟨b1, b2⟩ := (mem_live W.sz).1 hq
      exact p2 y b1 (by rw [b2]; exact Option.some_ne_none _)
    have b := nat_nodup_len (List.range hs.size) ((liveOf M owner).map (·.2)) List.nodup_range fun k hk => onto k (List.mem_range.mp hk)
    simp only [List.length_map, List.length_range, p1, Array.length_toList] at a b
    omega
  refine ⟨_, _, hr, perm_range hs.size _ (by simpa using hlen) onto, ⟨r1, rfl, by show ((liveOf M owner).map (·.1)).toArray.size = _; simp, hM, fun x hx => Nat.le_of_lt_succ (List.mem_range.mp (r2 x hx)), fun i h j h1 h2 => ?_⟩, rfl, rfl, rfl⟩
  have h1' : (((liveOf M owner).map (·.2)).map fun i => hs.getD i 0)[i]? = some h := h1
  have h2' : ((liveOf M owner).map (·.1))[i]? = some j := h2
  simp only [List.getElem?_map] at h1' h2'
  cases hq : (liveOf M owner)[i]? with
  | none => rw [hq] at h2'; cases h2'
  | some q =>
    obtain ⟨y, k⟩ := q
    rw [hq] at h1' h2'
    have ej : y = j := Option.some.inj h2'
    have eh : hs.getD k 0 = h := Option.some.inj h1'
    subst ej
    obtain ⟨b1, b2⟩ := (mem_live W.sz).1 (List.mem_of_getElem? hq)
    obtain ⟨h0, K, a1, a2, a3⟩ := W.at_ y k b1 b2
    have e0 : hs.getD k 0 = h0 := by rw [Array.getD_eq_getD_getElem?, ← Array.getElem?_toList, a1]; rfl
    obtain rfl : h0 = h := e0.symm.trans eh
    refine ⟨K, a2, fun k' hk' => ?_⟩
    show way M h0 k' ∈ (liveOf M owner).map (·.1)
    cases z : oAt owner (way M h0 k') with
    | none => exact absurd z (a3 k' hk')
    | some k2 => exact List.mem_map.mpr ⟨(_, k2), (mem_live W.sz).2 ⟨way_in _ _, z⟩, rfl⟩
theorem above_go : ∀ f s n, (∃ k, s = 2 ^ k ∧ 3 ≤ k) → n < s * 2 ^ f → (∃ k, SetTable.sizeAbove.go n f s = 2 ^ k ∧ 3 ≤ k) ∧ n < SetTable.sizeAbove.go n f s ∧ (SetTable.sizeAbove.go n f s = s ∨ SetTable.sizeAbove.go n f s ≤ 2 * n)
  | 0, s, n, hk, h => ⟨hk, Nat.lt_of_lt_of_eq h (Nat.mul_one s), .inl rfl⟩
  | f + 1, s, n, ⟨k, e, h3⟩, h => by
    unfold SetTable.sizeAbove.go
    split
    · rename_i c
      obtain ⟨a, b, d⟩ := above_go f (s * 2) n ⟨k + 1, by rw [e, Nat.pow_succ], by omega⟩ (by rw [Nat.pow_succ] at h; rw [Nat.mul_assoc, Nat.mul_comm 2]; exact h)
      refine ⟨a, b, .inr ?_⟩
      rcases d with d | d
      · rw [d]; omega
      · exact d
    · rename_i c
      exact ⟨⟨k, e, h3⟩, by omega, .inl rfl⟩
theorem above {n : Nat} (h : n ≤ 8000) (h8 : 8 ≤ n) : MaskG (SetTable.sizeAbove n - 1) ∧ n ≤ SetTable.sizeAbove n - 1 ∧ SetTable.sizeAbove n ≤ 8192 := by
  obtain ⟨⟨k, e, h3⟩, b, d⟩ := above_go 64 8 n ⟨3, rfl, Nat.le_refl _⟩ (Nat.lt_of_le_of_lt h (by decide))
  show MaskG (SetTable.sizeAbove.go n 64 8 - 1) ∧ n ≤ SetTable.sizeAbove.go n 64 8 - 1 ∧ SetTable.sizeAbove.go n 64 8 ≤ 8192
  have hb : SetTable.sizeAbove.go n 64 8 ≤ 16000 := by
    rcases d with d | d
    · rw [d]; decide
    · omega
  have hk : k ≤ 13 := Classical.byContradiction fun z => by
    have := Nat.pow_le_pow_right (show 1 ≤ 2 by decide) (show 14 ≤ k by omega)
    have e14 : (2 : Nat) ^ 14 = 16384 := by decide
    omega
  have h2 := Nat.pow_le_pow_right (show 1 ≤ 2 by decide) hk
  have e13 : (2 : Nat) ^ 13 = 8192 := by decide
  exact ⟨⟨k, h3, hk, by omega⟩, by omega, by omega⟩
end DSet

set_option Elab.async false
set_option linter.all false
set_option maxRecDepth 100000
set_option maxHeartbeats 4000000
namespace DSet
open PySem PySem.Spec PyProof.Rows L2
mutual
def numK : NestedKey → Bool
  | .num _ => true
  | .tup ks => numKs ks
  | _ => false
def numKs : List NestedKey → Bool
  | [] => true
  | k :: ks => numK k && numKs ks
end
def IsK (h : Heap) (k : NestedKey) (b : Addr) : Prop := NestedIs h k (.ref b) ∧ k.depth ≤ 8 ∧ numK k = true
theorem IsK.inj {h : Heap} {x y : NestedKey} {b : Addr} (hx : IsK h x b) (hy : IsK h y b) : x = y := NestedIs.inj _ _ _ hx.1 hy.1
theorem IsK.keep {h h' : Heap} {k : NestedKey} {b : Addr} (x : IsK h k b) (hk : ∀ c o, h.get? c = some o → h'.get? c = some o) : IsK h' k b := ⟨NestedIs.at (fun a o vs n e _ => hk a o e) _ _ x.1, x.2⟩
theorem IsK.same {h h' : Heap} {k : NestedKey} {a b : Addr} {o : Obj} {es : Array (Int × Value)} {ep : Nat} {t : SetTable} (x : IsK h k b) (ho : h.get? a = some o) (hd : o.data = .set es ep t) (hs : Heap.SameBut a h h') : IsK h' k b :=
  ⟨NestedIs.at (fun c o' vs n e d => by
    rcases Classical.em (c = a) with z | z
    · rw [z, ho] at e
      cases e
      rw [hd] at d
      cases d
    · exact (hs.2 c z).trans e) _ _ x.1, x.2⟩
section
variable {P : Program} {w : World} {A : Around} {E : Value → Shared → Prop} {s : Shared}
def HashAt (P : Program) (w : World) (n : Nat) (s : Shared) (v : Value) : Prop := ∀ (A : Around) (E : Value → Shared → Prop) (Q : Bool → Shared → Prop), Q true s → wpAny (model P w) A (hashByValue n v) Q E s
def NoCls (P : Program) (w : World) (n : Nat) (s : Shared) (v : Value) : Prop := ∀ (A : Around) (E : Value → Shared → Prop) (Q : Bool → Shared → Prop), Q false s → wpAny (model P w) A (ofAClassStatement n v) Q E s
theorem HashAt.tuple {n m : Nat} {a : Addr} {o : Obj} {vs : Array Value} (ho : s.heap.get? a = some o) (hc : o.cls = .type "tuple") (hd : o.data = .seq vs m) (hq : ∀ v ∈ vs.toList, HashAt P w n s v) : HashAt P w (n + 1) s (.ref a) := fun A E Q h => by
  unfold hashByValue
  refine wpAny_bind (wpAny_specialOf (⟨o, ho, hc⟩ : s.TypeIs (.ref a) "tuple") F.slot_tuple_hash.lookup ?_)
  show wpAny _ _ (seqItems? (.ref a) >>= _) _ _ s
  refine wpAny_bind (wpAny_seqItems ho hd (wpAny_bind ?_))
  show wpAny _ _ (forIn vs _ _) _ _ s
  rw [← Array.forIn_toList]
  refine wpAny_forIn_list _ (fun rest r s' => r.1 = none ∧ s' = s ∧ ∀ v ∈ rest, HashAt P w n s v) _ ?_ ?_ _ _ ⟨rfl, rfl, hq⟩
  · rintro v rest r s' ⟨hr, rfl, hall⟩
    refine wpAny_bind (hall v List.mem_cons_self _ _ _ ?_)
    simp only [Bool.not_true, Bool.false_eq_true, if_false]
    exact wpAny_pure ⟨rfl, rfl, fun u hu' => hall u (List.mem_cons_of_mem _ hu')⟩
  · rintro ⟨r1, r2⟩ s' ⟨hr, rfl, _⟩
    obtain rfl : r1 = none := hr
    exact wpAny_pure h
theorem NoCls.tuple {n m : Nat} {a : Addr} {o : Obj} {vs : Array Value} (ho : s.heap.get? a = some o) (hc : o.cls = .type "tuple") (hd : o.data = .seq vs m) (hq : ∀ v ∈ vs.toList, NoCls P w n s v) : NoCls P w (n + 1) s (.ref a) := fun A E Q h => by
  unfold ofAClassStatement
  refine wpAny_bind (wpAny_typeOf (⟨o, ho, hc⟩ : s.TypeIs (.ref a) "tuple") ?_)
  dsimp only
  have e : (("tuple" : String) == "tuple") = true := by decide
  simp only [e, if_true, Bool.not_true, Bool.false_eq_true, if_false]
  try refine wpAny_bind (wpAny_pure ?_)
  try simp only [Bool.not_true, Bool.false_eq_true, if_false]
  show wpAny _ _ (seqItems? (.ref a) >>= _) _ _ s
  refine wpAny_bind (wpAny_seqItems ho hd ?_)
  dsimp only
  refine wpAny_bind ?_
  show wpAny _ _ (forIn vs _ _) _ _ s
  rw [← Array.forIn_toList]
  refine wpAny_forIn_list _ (fun rest r s' => r.1 = none ∧ s' = s ∧ ∀ v ∈ rest, NoCls P w n s v) _ ?_ ?_ _ _ ⟨rfl, rfl, hq⟩
  · rintro v rest r s' ⟨hr, rfl, hall⟩
    refine wpAny_bind (hall v List.mem_cons_self _ _ _ ?_)
    simp only [Bool.false_eq_true, if_false]
    exact wpAny_pure ⟨rfl, rfl, fun u hu' => hall u (List.mem_cons_of_mem _ hu')⟩
  · rintro ⟨r1, r2⟩ s' ⟨hr, rfl, _⟩
    obtain rfl : r1 = none := hr
    exact wpAny_pure h
mutual
theorem hash_key : ∀ (k : NestedKey) (v : Value) (n : Nat), NestedIs s.heap k v → numK k = true → k.depth ≤ n → HashAt P w n s v ∧ NoCls P w n s v
  | .none, _, _, _, h, _ => by simp [numK] at h
  | .text _, _, _, _, h, _ => by simp [numK] at h
  | .num i, v, n, x, _, _ => by
    cases x with
    | bool e => exact ⟨fun A E Q h => by cases n <;> exact wpAny_pure h, fun A E Q h => by cases n <;> exact wpAny_pure h⟩
    | int i t => exact ⟨fun A E Q h => by cases n <;> exact wpAny_pure h, fun A E Q h => by cases n <;> exact wpAny_pure h⟩
  | .tup ks, v, n, x, hk, hn => by
    cases x with
    | tup ho hc hd hi =>
      simp only [NestedKey.depth] at hn
      cases n with
      | zero => omega
      | succ n =>
        have q := hash_keys ks _ n hi (by simpa [numK] using hk) (by omega)
        exact ⟨.tuple ho hc hd fun v hv => (q v hv).1, .tuple ho hc hd fun v hv => (q v hv).2⟩
theorem hash_keys : ∀ (ks : List NestedKey) (vs : List Value) (n : Nat), NestedAll s.heap ks vs → numKs ks = true → NestedKey.depthAll ks ≤ n → ∀ v ∈ vs, HashAt P w n s v ∧ NoCls P w n s v
  | [], _, n, x, _, _, v, hv => by cases x; cases hv
  | k :: ks, _, n, x, hk, hn, v, hv => by
    cases x with
    | cons x1 x2 =>
      simp only [NestedKey.depthAll] at hn
      simp only [numKs, Bool.and_eq_true] at hk
      rcases List.mem_cons.mp hv with e | hv
      · rw [e]; exact hash_key k _ n x1 hk.1 (by omega)
      · exact hash_keys ks _ n x2 hk.2 (by omega) v hv
end
theorem IsK.quiet {k : NestedKey} {b : Addr} (x : IsK s.heap k b) {Q : Bool → Shared → Prop} (h : Q true s) : wpAny (model P w) A (eqIsQuiet 8 (.ref b)) Q E s := quiet_key k _ 8 s x.1 x.2.1 A E Q h
theorem seen_no {k : NestedKey} {b : Addr} {Q : Bool → Shared → Prop} (hk : IsK s.heap k b) {ys : List Value} (hy : ∀ y ∈ ys, ∃ k' c, y = Value.ref c ∧ IsK s.heap k' c) (h : Q false s) : wpAny (model P w) A (searchCouldBeSeen (.ref b) ys) Q E s := by
  unfold searchCouldBeSeen
  refine wpAny_bind (wpAny_forIn_list _ (fun rest r s' => r.1 = none ∧ s' = s ∧ ∀ y ∈ rest, ∃ k' c, y = Value.ref c ∧ IsK s.heap k' c) _ ?_ ?_ _ _ ⟨rfl, rfl, hy⟩)
  · rintro v rest r s' ⟨hr, rfl, hall⟩
    obtain ⟨k', c, rfl, hc⟩ := hall v List.mem_cons_self
    have more : ∀ y ∈ rest, ∃ k' c, y = Value.ref c ∧ IsK s'.heap k' c := fun u hu' => hall u (List.mem_cons_of_mem _ hu')
    dsimp only
    by_cases hv : (b == c || (carriedByValue (.ref b) && carriedByValue (.ref c))) = true
    · exact wp_if_pos hv (wpAny_pure ⟨rfl, rfl, more⟩)
    · refine wp_if_neg hv (wpAny_bind (hk.quiet ?_))
      simp only [Bool.not_true, Bool.false_eq_true, if_false]
      refine wpAny_bind (hc.quiet ?_)
      simp only [Bool.not_true, Bool.false_eq_true, if_false]
      refine wpAny_bind ((hash_key _ _ 8 hk.1 hk.2.2 hk.2.1).2 _ _ _ ?_)
      simp only [Bool.false_eq_true, if_false]
      refine wpAny_bind ((hash_key _ _ 8 hc.1 hc.2.2 hc.2.1).2 _ _ _ ?_)
      simp only [Bool.false_eq_true, if_false]
      exact wpAny_pure ⟨rfl, rfl, more⟩
  · rintro ⟨r1, r2⟩ s' ⟨hr, rfl, _⟩
    obtain rfl : r1 = none := hr
    exact wpAny_pure h
abbrev KL := List (Addr × NestedKey)
def entsOf (w : World) (L : KL) : List (Int × Value) := L.map fun p => (p.2.hash w, Value.ref p.1)
structure SetN (w : World) (h : Heap) (a : Addr) (L : KL) (es : Array (Int × Value)) (ep : Nat) (t : SetTable) : Prop where
  ob : ∃ o, h.get? a = some o ∧ o.ExactSet ∧ o.data = .set es ep t
  ents : es.toList = entsOf w L
  tab : Tab t (L.map fun p => p.2.hash w)
  nd : (L.map (·.2)).Nodup
  keys : ∀ p ∈ L, IsK h p.2 p.1
  plain : t.plain = true
  led : w.params.followText "set-order" = true ∨ t.led = true
  room : L.length * 5 < t.mask * 3
  few : L.length ≤ 2000
variable {a : Addr} {L : KL} {es : Array (Int × Value)} {ep : Nat} {t : SetTable}
theorem ents_size (h : es.toList = entsOf w L) : es.size = L.length := by
  have := congrArg List.length h
  simpa [entsOf] using this
theorem ents_at (h : es.toList = entsOf w L) {i : Nat} {p : Addr × NestedKey} (e : L[i]? = some p) : es[i]? = some (p.2.hash w, Value.ref p.1) := by
  rw [← Array.getElem?_toList, h, entsOf, List.getElem?_map, e]
  rfl
theorem fits_of {hs : List Int} (T : Tab t hs) (h1 : es.size = hs.length) (h2 : hs.length ≤ t.mask) : t.fits es.size = true := by
  have sz := T.sz
  unfold SetTable.fits SetTable.fill
  rw [T.dm, Bool.and_eq_true, beq_iff_eq, decide_eq_true_eq]
  show t.place.size = es.size ∧ t.place.size + 0 ≤ t.mask
  omega
theorem SetN.fits (R : SetN w s.heap a L es ep t) : t.fits es.size = true := fits_of R.tab (by rw [ents_size R.ents, List.length_map]) (by have := R.room; rw [List.length_map]; omega)
theorem SetN.whole (R : SetN w s.heap a L es ep t) : ¬ t.gaveWay = true := by
  unfold SetTable.gaveWay
  rw [R.tab.mg.odd]
  decide
theorem dummy_none (m : Nat) : ∀ (n : Nat) (p : SetTable.Probe), p.dummy = none → (nth m p n).dummy = none
  | 0, _, h => h
  | n + 1, p, h => dummy_none m n (adv m p) (by unfold adv; split <;> exact h)
theorem seek (R : SetN w s.heap a L es ep t) {x : Addr} {k : NestedKey} (hx : IsK s.heap k x) (hu : A.units + 8 < cLine) {K : Nat} (hKf : K < 10 * SetTable.turns t.mask)
    (hK : way t.mask (k.hash w) K ∉ t.place.toList) (hKb : ∀ c, c < K → way t.mask (k.hash w) c ∈ t.place.toList) {Q : SetFound → Shared → Prop}
    (hin : k ∈ L.map (·.2) → Q (.there none) s) (hout : k ∉ L.map (·.2) → Q (.free (way t.mask (k.hash w) K) false) s) :
    ∀ (f c : Nat) (stand : Option SetTable.Probe), stand.getD (t.probeStart (k.hash w)) = nth t.mask (runAt t.mask (SetTable.bits (k.hash w) % (t.mask + 1)) (SetTable.bits (k.hash w))) c → c ≤ K → K - c < f →
      (∀ (i : Nat) (p : Addr × NestedKey), L[i]? = some p → p.2 = k → ∃ c', c ≤ c' ∧ c' < K ∧ t.place.toList[i]? = some (way t.mask (k.hash w) c')) →
      wpAny (model P w) A (setSearchFrom a (.ref x) (k.hash w) true f stand) Q E s
  | 0, c, stand, _, _, hf, _ => absurd hf (Nat.not_lt_zero _)
  | f + 1, c, stand, hst, hc, hf, hre => by
    obtain ⟨o, ho, hex, hd⟩ := R.ob
    rw [setSearchFrom_succ]
    refine wpAny_bind (wpAny_setState_of ho hd R.fits ?_)
    dsimp only
    refine wp_if_neg R.whole ?_
    try refine wpAny_bind (wpAny_pure ?_)
    generalize hp0 : runAt t.mask (SetTable.bits (k.hash w) % (t.mask + 1)) (SetTable.bits (k.hash w)) = p0 at hst
    have w_at : ∀ n, way t.mask (k.hash w) n = (nth t.mask p0 n).j := fun n => by rw [← hp0]
    have sh : ∀ q, nth t.mask (nth t.mask p0 c) q = nth t.mask p0 (c + q) := fun q => (nth_add t.mask c p0 q).symm
    have e1 : ∀ q, (nth t.mask (nth t.mask p0 c) q).j = way t.mask (k.hash w) (c + q) := fun q => by rw [sh, w_at]
    have hashAt : ∀ (i : Nat) (p : Addr × NestedKey), L[i]? = some p → (es[i]?.map (·.1)).getD 0 = p.2.hash w := fun i p hp => by rw [ents_at R.ents hp]; rfl
    have spec := go_spec t R.tab.ris R.tab.dm (fun i => (es[i]?.map (·.1)).getD 0) (k.hash w) (10 * SetTable.turns t.mask) (K - c) (nth t.mask p0 c) (dummy_none _ c _ (by rw [← hp0]; rfl)) (by omega)
      (fun q hq => by rw [e1]; exact hKb (c + q) (by omega)) (by rw [e1, Nat.add_sub_cancel' hc]; exact hK)
    rcases spec with ⟨q, i, hq, hi, hh, hno, hpr⟩ | ⟨hno, hpr⟩
    · rw [e1] at hi hpr
      rw [sh] at hpr
      have hpr' : t.probe (fun i => (es[i]?.map (·.1)).getD 0) (k.hash w) (stand.getD (t.probeStart (k.hash w))) = some (.candidate (way t.mask (k.hash w) (c + q)) i (nth t.mask p0 (c + (q + 1)))) := by rw [hst]; exact hpr
      rw [hpr']
      dsimp only
      have hil : i < L.length := by
        have h1 := (List.getElem?_eq_some_iff.mp hi).1
        have h2 := R.tab.sz
        rw [List.length_map] at h2
        rw [Array.length_toList] at h1
        omega
      obtain ⟨p, hp⟩ : ∃ p, L[i]? = some p := ⟨_, List.getElem?_eq_getElem hil⟩
      have hmem : p ∈ L := List.mem_of_getElem? hp
      have tail : wpAny (model P w) A (searchRest a (.ref x) (k.hash w) true f es t (way t.mask (k.hash w) (c + q)) i (nth t.mask p0 (c + (q + 1)))) Q E s := by
        unfold searchRest
        rw [ents_at R.ents hp]
        dsimp only
        refine wpAny_bind (wpAny_holding (eqAt_key p.2 k A s _ _ (R.keys p hmem).1 hx.1 (by have := (R.keys p hmem).2.1; omega) _ _ _ _ ?_))
        rw [← NestedKey.decide_eq]
        refine wpAny_bind (wpAny_setState_of ho hd R.fits ?_)
        dsimp only
        by_cases hkk : p.2 = k
        · refine wp_if_pos (by simp [hkk]) ?_
          exact wpAny_pure (hin (List.mem_map.mpr ⟨p, hmem, hkk⟩))
        · refine wp_if_neg (by simp [hkk]) ?_
          try refine wpAny_bind (wpAny_pure ?_)
          rw [sameMem]
          dsimp only
          have hsl := slot_live R.tab.ris hi
          simp only [if_true, hsl, ents_at R.ents hp]
          refine wpAny_bind (wpAny_isSame_ref_self (wpAny_bind (wpAny_pure ?_)))
          simp only [if_true]
          refine wp_if_neg (by simp [hkk]) ?_
          refine seek R hx hu hKf hK hKb hin hout f (c + (q + 1)) _ (by rw [hp0]; rfl) (by omega) (by omega) fun i0 p1 h0 hk0 => ?_
          obtain ⟨c', a1, a2, a3⟩ := hre i0 p1 h0 hk0
          refine ⟨c', ?_, a2, a3⟩
          rcases Nat.lt_trichotomy c' (c + q) with z | z | z
          · exact absurd ((hashAt i0 p1 h0).trans (congrArg (NestedKey.hash w) hk0)) (hno (c' - c) i0 (by omega) (by rw [e1, Nat.add_sub_cancel' a1]; exact a3))
          · rw [z] at a3
            have s0 := slot_live R.tab.ris a3
            rw [hsl] at s0
            injection s0 with s0
            rw [← s0, hp] at h0
            cases h0
            exact absurd hk0 hkk
          · omega
      by_cases hl : t.led = true
      · refine wp_if_neg (by simp [hl]) ?_
        try refine wpAny_bind (wpAny_pure ?_)
        exact tail
      · refine wp_if_pos (by simp [hl]) ?_
        refine wpAny_bind (seen_no hx (fun y hy => ?_) ?_)
        · obtain ⟨e, he, rfl⟩ := List.mem_map.mp hy
          have he2 : e ∈ es.toList := by
            have : e ∈ es ∧ e.1 = k.hash w := by simpa using he
            simpa using this.1
          rw [R.ents] at he2
          obtain ⟨p2, hp2, rfl⟩ := List.mem_map.mp he2
          exact ⟨_, _, rfl, R.keys p2 hp2⟩
        · refine wp_if_neg (by decide) ?_
          try refine wpAny_bind (wpAny_pure ?_)
          exact tail
    · rw [e1, Nat.add_sub_cancel' hc] at hpr
      have hpr' : t.probe (fun i => (es[i]?.map (·.1)).getD 0) (k.hash w) (stand.getD (t.probeStart (k.hash w))) = some (.empty (way t.mask (k.hash w) K) none) := by rw [hst]; exact hpr
      rw [hpr']
      dsimp only
      refine wpAny_pure (hout fun hm => ?_)
      obtain ⟨p1, h0, hk0⟩ := List.mem_map.mp hm
      obtain ⟨i0, hi0, e0⟩ := List.getElem_of_mem h0
      have h00 : L[i0]? = some p1 := by rw [List.getElem?_eq_getElem hi0, e0]
      obtain ⟨c', a1, a2, a3⟩ := hre i0 p1 h00 hk0
      exact hno (c' - c) i0 (by omega) (by rw [e1, Nat.add_sub_cancel' a1]; exact a3) ((hashAt i0 p1 h00).trans (congrArg (NestedKey.hash w) hk0))
theorem seek_all (R : SetN w s.heap a L es ep t) {x : Addr} {k : NestedKey} (hx : IsK s.heap k x) (hu : A.units + 8 < cLine) {Q : SetFound → Shared → Prop}
    (hin : k ∈ L.map (·.2) → Q (.there none) s)
    (hout : ∀ K, k ∉ L.map (·.2) → way t.mask (k.hash w) K ∉ t.place.toList → (∀ c, c < K → way t.mask (k.hash w) c ∈ t.place.toList) → Q (.free (way t.mask (k.hash w) K) false) s) :
    wpAny (model P w) A (setSearch a (.ref x) (k.hash w) true) Q E s := by
  have hroom := R.room
  obtain ⟨K, hKf, hK, hKb⟩ := R.tab.stop (by rw [List.length_map]; omega) (k.hash w)
  have ml := R.tab.mg.le
  have sz := R.tab.sz
  rw [List.length_map] at sz
  refine seek R hx hu hKf hK hKb hin (fun hn => hout K hn hK hKb) 100000 0 none rfl (Nat.zero_le _) (by unfold SetTable.turns at hKf; omega) fun i p hp hk => ?_
  have hil : i < t.place.toList.length := by
    have := (List.getElem?_eq_some_iff.mp hp).1
    rw [Array.length_toList]
    omega
  obtain ⟨c, hc, e⟩ := R.tab.ahead (i := i) hK (by rw [List.getElem?_map, hp, ← hk]; rfl) (List.getElem?_eq_getElem hil)
  exact ⟨c, Nat.zero_le _, hc, by rw [e]; exact List.getElem?_eq_getElem hil⟩
theorem ents_ins (L : KL) (p : Nat) (x : Addr) (k : NestedKey) : entsOf w (L.take p ++ (x, k) :: L.drop p) = (entsOf w L).take p ++ (k.hash w, Value.ref x) :: (entsOf w L).drop p := by
  unfold entsOf
  rw [List.map_append, List.map_cons, List.map_take, List.map_drop]
theorem fm_get {α : Type} (l : List α) : ∀ n, n ≤ l.length → (List.range n).filterMap (fun i => l[i]?) = l.take n
  | 0, _ => rfl
  | n + 1, h => by
    rw [List.range_succ, List.filterMap_append, fm_get l n (by omega), List.take_succ, List.filterMap_cons_some (List.getElem?_eq_getElem h), List.getElem?_eq_getElem h]
    rfl
theorem ents_order (hr : es.toList = entsOf w L) : ∀ l : List Nat, (∀ i ∈ l, i < L.length) → l.filterMap (fun i => es[i]?) = entsOf w (l.filterMap fun i => L[i]?) ∧ ((l.filterMap fun i => L[i]?).map fun p => p.2.hash w) = l.map fun i => (es.map (·.1)).getD i 0
  | [], _ => ⟨rfl, rfl⟩
  | i :: l, h => by
    have hi := h i List.mem_cons_self
    have eL := List.getElem?_eq_getElem hi
    obtain ⟨e1, e2⟩ := ents_order hr l fun j hj => h j (List.mem_cons_of_mem _ hj)
    have ee := ents_at hr eL
    refine ⟨?_, ?_⟩
    · rw [List.filterMap_cons_some ee, List.filterMap_cons_some eL, e1]
      rfl
    · rw [List.filterMap_cons_some eL, List.map_cons, List.map_cons, e2]
      have e5 : (es.map (·.1))[i]? = some ((L[i]).2.hash w) := by rw [Array.getElem?_map, ee]; rfl
      rw [Array.getD_eq_getD_getElem?, e5]
      rfl
theorem grow {o : Obj} (ho : s.heap.get? a = some o) (hex : o.ExactSet) (hd : o.data = .set es ep t) (hr : es.toList = entsOf w L) (hf : t.fits es.size = true) (nd : (L.map (·.2)).Nodup) (keys : ∀ p ∈ L, IsK s.heap p.2 p.1) (pl : t.plain = true)
    (ld : w.params.followText "set-order" = true ∨ t.led = true) (few : L.length ≤ 2000) (h5 : 5 ≤ L.length) {Q : Unit → Shared → Prop}
    (hQ : ∀ h' L' es' ep' t', Heap.SameBut a s.heap h' → SetN w h' a L' es' ep' t' → L'.Perm L → Q () { s with heap := h' }) : wpAny (model P w) A (setRelay a (SetTable.grown L.length)) Q E s := by
  have hsl := ents_size hr
  have eg : SetTable.grown L.length = L.length * 4 := by unfold SetTable.grown; rw [if_neg (by omega)]
  obtain ⟨hM, hge, hle⟩ := above (n := SetTable.grown L.length) (by omega) (by omega)
  obtain ⟨t', order, e, hp, T, em, el, ep'⟩ := anew t (hs := es.map (·.1)) rfl hM (by rw [Array.size_map, hsl]; omega)
  rw [Array.size_map, hsl] at hp
  obtain ⟨r1, r3⟩ := ents_order hr order.toList fun i hi => List.mem_range.mp (hp.mem_iff.mp hi)
  have r2 : (order.toList.filterMap fun i => L[i]?).Perm L := by
    have q := hp.filterMap fun i => L[i]?
    rw [fm_get L L.length (Nat.le_refl _), List.take_length] at q
    exact q
  rw [← r3] at T
  generalize order.toList.filterMap (fun i => L[i]?) = L2 at r1 r2 T
  have r1' : (order.filterMap (es[·]?)).toList = entsOf w L2 := by rw [Array.toList_filterMap]; exact r1
  have hs2 : (order.filterMap (es[·]?)).size = es.size := by rw [ents_size r1', r2.length_eq, hsl]
  rw [setRelay_eq]
  refine wpAny_bind (wpAny_setState_of ho hd hf ?_)
  dsimp only
  refine wp_if_neg (by rw [sizeLine_eq]; omega) ?_
  try refine wpAny_bind (wpAny_pure ?_)
  rw [e]
  dsimp only
  refine wpAny_bind (wp_if_neg (by rw [hs2]; simp) ?_)
  try refine wpAny_bind (wpAny_pure ?_)
  refine wpAny_pure ?_
  dsimp only
  refine wpAny_storeSet_of ho hd ?_ (by rw [hs2, hsl, sizeLine_eq]; omega)
  have sb : Heap.SameBut a s.heap (s.heap.update a (Obj.putSet (order.filterMap (es[·]?)) t')) := Heap.SameBut.update ..
  exact hQ _ L2 (order.filterMap (es[·]?)) (ep + 1) t' sb ⟨⟨_, store_at ho hd, ⟨hex.1, hex.2.1, hex.2.2⟩, rfl⟩, r1', T, (r2.map (·.2)).nodup_iff.mpr nd, fun p hpm => (keys p (r2.mem_iff.mp hpm)).same ho hd sb, ep'.trans pl, by rw [el]; exact ld, by rw [r2.length_eq, em]; omega, by rw [r2.length_eq]; exact few⟩ r2
theorem adds (R : SetN w s.heap a L es ep t) {x : Addr} {k : NestedKey} (hx : IsK s.heap k x) (hu : A.units + 8 < cLine) (hfew : L.length + 1 ≤ 2000) {Q : Bool → Shared → Prop}
    (hQ : ∀ b h' L' es' ep' t', Heap.SameBut a s.heap h' → SetN w h' a L' es' ep' t' → (k ∈ L.map (·.2) → L' = L) → (k ∉ L.map (·.2) → L'.Perm ((x, k) :: L)) → Q b { s with heap := h' }) :
    wpAny (model P w) A (setAddHashed a (.ref x) (k.hash w)) Q E s := by
  obtain ⟨o, ho, hex, hd⟩ := R.ob
  have hsl := ents_size R.ents
  have hroom := R.room
  unfold setAddHashed
  refine wpAny_holding ?_
  rw [show (100000 : Nat) = 99999 + 1 from rfl, setAddHashedIn_succ]
  refine wpAny_bind (wpAny_setState_of ho hd R.fits ?_)
  dsimp only
  refine wp_if_neg (by simp [byScan, Value.scannable]) ?_
  try refine wpAny_bind (wpAny_pure ?_)
  refine wpAny_bind (seek_all R hx hu (fun hm => ?_) fun K hm hK hb => ?_)
  · dsimp only
    exact wpAny_pure (hQ false s.heap L es ep t (Heap.SameBut.refl a s.heap) R (fun _ => rfl) fun z => absurd hm z)
  · dsimp only
    refine wpAny_bind (wpAny_setState_of ho hd R.fits ?_)
    dsimp only
    obtain ⟨p, t1, e1, hp, T1, em, el, epl, efl⟩ := R.tab.ins hK hb
    rw [List.length_map] at hp efl
    rw [e1]
    dsimp only
    have hp1 : t1.plain = true := epl.trans R.plain
    first
      | (refine wpAny_bind ?_; refine wp_if_pos hp1 ?_; refine (hash_key _ _ 8 hx.1 hx.2.2 hx.2.1).1 _ _ _ ?_)
      | refine wp_if_pos hp1 (wpAny_bind ((hash_key _ _ 8 hx.1 hx.2.2 hx.2.1).1 _ _ _ ?_))
    simp only [if_true]
    have hin : (SetTable.insertAt es p (k.hash w, Value.ref x)).toList = entsOf w (L.take p ++ (x, k) :: L.drop p) := by rw [SetTable.toList_insertAt, ents_ins, R.ents]
    have pm := put_perm L p (x, k)
    have hhs : (L.take p ++ (x, k) :: L.drop p).map (fun p => p.2.hash w) = (L.map fun p => p.2.hash w).take p ++ k.hash w :: (L.map fun p => p.2.hash w).drop p := by rw [List.map_append, List.map_cons, List.map_take, List.map_drop]
    rw [← hhs] at T1
    have nd1 : ((L.take p ++ (x, k) :: L.drop p).map (·.2)).Nodup := (pm.map (·.2)).nodup_iff.mpr (List.nodup_cons.mpr ⟨hm, R.nd⟩)
    generalize SetTable.insertAt es p (k.hash w, Value.ref x) = es1 at hin ⊢
    generalize L.take p ++ (x, k) :: L.drop p = L1 at pm T1 nd1 hin
    have hlen : L1.length = L.length + 1 := pm.length_eq
    have hes := ents_size hin
    refine wpAny_bind (wpAny_storeSet_of ho hd ?_ (by rw [hes, sizeLine_eq]; omega))
    have sb : Heap.SameBut a s.heap (s.heap.update a (Obj.putSet es1 t1)) := Heap.SameBut.update ..
    have ho1 := store_at (es' := es1) (t' := t1) ho hd
    generalize s.heap.update a (Obj.putSet es1 t1) = h1 at sb ho1 ⊢
    have keys1 : ∀ p ∈ L1, IsK h1 p.2 p.1 := fun p hp => by
      rcases List.mem_cons.mp (pm.mem_iff.mp hp) with e | hp
      · rw [e]; exact hx.same ho hd sb
      · exact (R.keys p hp).same ho hd sb
    have ld1 : w.params.followText "set-order" = true ∨ t1.led = true := by rw [el]; exact R.led
    have eTF : t1.tooFull = decide (t1.mask * 3 ≤ (L.length + 1) * 5) := by unfold SetTable.tooFull; rw [efl]
    by_cases hf : t1.tooFull = true
    · first
        | (refine wpAny_bind ?_; refine wp_if_pos (by simp [hf]) ?_)
        | (refine wp_if_pos (by simp [hf]) ?_; refine wpAny_bind ?_)
      rw [eTF, decide_eq_true_eq] at hf
      have m7 : 7 ≤ t.mask := by
        obtain ⟨q, q3, _, qe⟩ := R.tab.mg
        have := Nat.pow_le_pow_right (show 1 ≤ 2 by decide) q3
        omega
      rw [hsl, ← hlen]
      refine grow (s := { s with heap := h1 }) ho1 ⟨hex.1, hex.2.1, hex.2.2⟩ rfl hin (fits_of T1 (by rw [hes, List.length_map]) (by rw [List.length_map, em]; omega)) nd1 keys1 hp1 ld1 (by omega) (by rw [em] at hf; omega) ?_
      intro h2 L2 es2 ep2 t2 sb2 R2 pm2
      exact wpAny_pure (hQ true h2 L2 es2 ep2 t2 (sb.trans sb2) R2 (fun z => absurd z hm) fun _ => pm2.trans pm)
    · first
        | refine wp_if_neg (by simp [hf]) ?_
        | (refine wpAny_bind ?_; refine wp_if_neg (by simp [hf]) ?_; refine wpAny_pure ?_)
      rw [eTF, decide_eq_true_eq] at hf
      exact wpAny_pure (hQ true h1 L1 es1 (ep + 1) t1 sb ⟨⟨_, ho1, ⟨hex.1, hex.2.1, hex.2.2⟩, rfl⟩, hin, T1, nd1, keys1, hp1, ld1, by omega, by omega⟩ (fun z => absurd z hm) fun _ => pm)
structure GotN (ks : KL) (i : Nat) (L : KL) : Prop where
  sub : ∀ p ∈ L, p ∈ ks.take i
  all : ∀ p ∈ ks.take i, p.2 ∈ L.map (·.2)
  len : L.length ≤ i
theorem GotN.next {ks L L' : KL} {i : Nat} {x : Addr × NestedKey} (g : GotN ks i L) (h : ks[i]? = some x) (c1 : x.2 ∈ L.map (·.2) → L' = L) (c2 : x.2 ∉ L.map (·.2) → L'.Perm (x :: L)) : GotN ks (i + 1) L' := by
  have et := take_next h
  rcases Classical.em (x.2 ∈ L.map (·.2)) with c | c
  · rw [c1 c]
    refine ⟨fun p hp => by rw [et]; exact List.mem_append_left _ (g.sub p hp), fun p hp => ?_, Nat.le_succ_of_le g.len⟩
    rw [et] at hp
    rcases List.mem_append.mp hp with z | z
    · exact g.all p z
    · rw [List.mem_singleton.mp z]; exact c
  · have pm := c2 c
    refine ⟨fun p hp => ?_, fun p hp => ?_, by rw [pm.length_eq]; exact Nat.succ_le_succ g.len⟩
    · rw [et]
      rcases List.mem_cons.mp (pm.mem_iff.mp hp) with e | z
      · rw [e]; simp
      · exact List.mem_append_left _ (g.sub p z)
    · rw [(pm.map (·.2)).mem_iff, List.map_cons]
      rw [et] at hp
      rcases List.mem_append.mp hp with z | z
      · exact List.mem_cons_of_mem _ (g.all p z)
      · rw [List.mem_singleton.mp z]; exact List.mem_cons_self
theorem SetN.keep {h h' : Heap} (R : SetN w h a L es ep t) (ha : ∀ o, h.get? a = some o → h'.get? a = some o) (ht : ∀ p ∈ L, IsK h' p.2 p.1) : SetN w h' a L es ep t := by
  obtain ⟨o, ho, r⟩ := R.ob
  exact ⟨⟨o, ha o ho, r⟩, R.ents, R.tab, R.nd, ht, R.plain, R.led, R.room, R.few⟩
def newS (w : World) : Obj := { cls := .type "set", dict := none, data := .set #[] 0 (.fresh 0 0 (!w.params.followText "set-order")) }
theorem SetN.new {h : Heap} {a : Addr} (ho : h.get? a = some (newS w)) : SetN w h a [] #[] 0 (.fresh 0 0 (!w.params.followText "set-order")) where
  ob := ⟨_, ho, ⟨rfl, rfl, rfl⟩, rfl⟩
  ents := rfl
  tab := ⟨List.Pairwise.nil, rfl, rfl, ⟨3, by decide, by decide, rfl⟩, fun x hx => (by cases hx), fun i h j hi => (by simp at hi)⟩
  nd := List.nodup_nil
  keys := fun p hp => (by cases hp)
  plain := rfl
  led := by
    show _ ∨ (!w.params.followText "set-order") = true
    cases w.params.followText "set-order"
    · exact .inr rfl
    · exact .inl rfl
  room := by show 0 * 5 < 7 * 3; decide
  few := Nat.zero_le _
theorem fill {I : Addr} {fp wr : List Addr} {G : Array GenState → Array GenState → Prop} {n : Nat} {Pv : Nat → Value → Prop} {St : Nat → Shared → Prop} {R : Result → Shared → Prop}
    (W : WalksS P w A.in1 I fp wr G n Pv St) (S : Addr) (hSf : S ∉ fp) (ks : KL) (hn : n = ks.length) (hfew : ks.length ≤ 2000) (hval : ∀ i v, Pv i v → ∃ p, ks[i]? = some p ∧ v = .ref p.1)
    (h0 : Heap) (hk : ∀ p ∈ ks, IsK h0 p.2 p.1) (hS0 : h0.get? S = none) (hw0 : ∀ b ∈ wr, h0.get? b = none) (hu : A.in1.units + 8 < cLine) :
    ∀ (k i : Nat) (s : Shared), n - i = k → i ≤ n → St i s → (∀ b o, h0.get? b = some o → s.heap.get? b = some o) → (∃ L es ep t, SetN w s.heap S L es ep t ∧ GotN ks i L) →
      (∀ s' L es ep t, Moved (S :: wr) G s s' → SetN w s'.heap S L es ep t → GotN ks n L → (∀ b o, h0.get? b = some o → s'.heap.get? b = some o) → R (.ok (.ret .none)) s') →
      codeAny (model P w) A (.builtin "set.update.loop" ⟨[.ref S, .ref I], []⟩) R s := by
  have hSw : S ∉ wr := fun h => hSf (W.sub _ h)
  have hsub : ∀ b ∈ wr, b ∈ S :: wr := fun b hb => List.mem_cons_of_mem _ hb
  have keepM : ∀ {s s' : Shared}, Moved wr G s s' → (∀ b o, h0.get? b = some o → s.heap.get? b = some o) → ∀ b o, h0.get? b = some o → s'.heap.get? b = some o := fun hm hkp b o e => hm.heap b o (fun hb => by rw [hw0 b hb] at e; cases e) (hkp b o e)
  intro k
  induction k with
  | zero =>
    intro i s hk' hi hst hkp ⟨L, es, ep, t, hS, g⟩ hR
    obtain rfl : i = n := by omega
    refine codeAny_builtin F.entry_set_update_loop ?_
    rw [Around.under_plainId F.plain_set_update_loop _]
    show wpAny _ A.in1 (pyNext (.ref I) >>= _) _ _ s
    refine wpAny_bind (W.done s _ _ hst fun s' hm => ?_)
    show wpAny _ A.in1 (ret Value.none) _ _ s'
    have hkp' := keepM hm hkp
    exact wpAny_pure (hR s' L es ep t (hm.mono hsub) (hS.keep (fun o e => hm.heap S o hSw e) fun p hp => (hk p (List.mem_of_mem_take (g.sub p hp))).keep hkp') g hkp')
  | succ k ih =>
    intro i s hk' hi hst hkp ⟨L, es, ep, t, hS, g⟩ hR
    refine codeAny_builtin F.entry_set_update_loop ?_
    rw [Around.under_plainId F.plain_set_update_loop _]
    show wpAny _ A.in1 (pyNext (.ref I) >>= _) _ _ s
    refine wpAny_bind (W.item i s _ _ (by omega) hst fun v s' hP hst' hm => ?_)
    obtain ⟨p, hp, rfl⟩ := hval i v hP
    have hkp' := keepM hm hkp
    have hS' : SetN w s'.heap S L es ep t := hS.keep (fun o e => hm.heap S o hSw e) fun q hq => (hk q (List.mem_of_mem_take (g.sub q hq))).keep hkp'
    have hx : IsK s'.heap p.2 p.1 := (hk p (List.mem_of_getElem? hp)).keep hkp'
    show wpAny _ A.in1 (holding [Value.ref p.1] (setAdd S (.ref p.1)) >>= _) _ _ s'
    refine wpAny_bind (wpAny_holding ?_)
    unfold setAdd
    refine wpAny_holding (wpAny_bind (pyHash_key p.2 _ _ _ _ hx.1 (by have := hx.2.1; omega) ?_))
    refine adds (s := { s' with toks := s'.toks + p.2.draws }) hS' hx hu (by have := g.len; omega) fun b h' L' es' ep' t' hsb hS2 c1 c2 => ?_
    have hkp2 : ∀ b o, h0.get? b = some o → h'.get? b = some o := fun b o e => (hsb.2 b (fun z => by rw [z, hS0] at e; cases e)).trans (hkp' b o e)
    refine wpAny_pure ⟨plainId_quiet F.plain_set_update_loop _, ih (i + 1) _ (by omega) (by omega) (W.frame _ s' _ _ hst' (Nat.le_add_right _ _) fun b hb o e => ?_) hkp2 ⟨L', es', ep', t', hS2, g.next hp c1 c2⟩ fun s'' L2 es2 ep2 t2 hm'' hS'' g'' hkp'' => ?_⟩
    · rw [hsb.2 b (fun h : b = S => hSf (by rw [← h]; exact hb))]; exact e
    · refine hR s'' L2 es2 ep2 t2 (Moved.trans W.gtrans ((hm.mono hsub).then_heap (Nat.le_add_right _ _) fun b o hb e => ?_) hm'') hS'' g'' hkp''
      rw [hsb.2 b (fun h : b = S => hb (by rw [h]; exact List.mem_cons_self))]; exact e
end
end DSet

set_option Elab.async false
set_option linter.all false
set_option maxRecDepth 100000
set_option maxHeartbeats 4000000
namespace DL
open PySem PySem.Spec PyProof.Rows L2 DSet
def numD : Nat → D → Bool
  | _, .int _ => true
  | n, .tup ds => match n with | 0 => false | n + 1 => numDs n ds
  | _, _ => false
where numDs : Nat → List D → Bool
  | _, [] => true
  | n, d :: ds => numD n d && numDs n ds
theorem numDs_iff {n : Nat} : ∀ {ds : List D}, numD.numDs n ds = true ↔ ∀ d ∈ ds, numD n d = true
  | [] => by simp [numD.numDs]
  | d :: ds => by simp [numD.numDs, numDs_iff (ds := ds)]
theorem numD_cases {n : Nat} {d : D} (h : numD n d = true) : (∃ i, d = .int i) ∨ ∃ m ds, n = m + 1 ∧ d = .tup ds ∧ ∀ e ∈ ds, numD m e = true := by
  cases d with
  | int i => exact .inl ⟨i, rfl⟩
  | tup ds =>
    match n, h with
    | 0, h => simp [numD] at h
    | m + 1, h => exact .inr ⟨m, ds, rfl, rfl, numDs_iff.mp (by simpa [numD] using h)⟩
  | _ => simp [numD] at h
theorem numD_tup {n : Nat} {ds : List D} : numD (n + 1) (.tup ds) = true ↔ ∀ e ∈ ds, numD n e = true := by
  rw [← numDs_iff]
  simp [numD]
theorem numD_int {n : Nat} {i : Int} : numD n (.int i) = true := by cases n <;> rfl
theorem numD_mono : ∀ {n m : Nat} {d : D}, n ≤ m → numD n d = true → numD m d = true
  | n, m, d, h, g => by
    induction n generalizing m d with
    | zero =>
      rcases numD_cases g with ⟨i, rfl⟩ | ⟨k, ds, e, _⟩
      · exact numD_int
      · cases e
    | succ n ih =>
      rcases numD_cases g with ⟨i, rfl⟩ | ⟨k, ds, e, rfl, h2⟩
      · exact numD_int
      · cases e
        obtain ⟨m', rfl⟩ : ∃ m', m = m' + 1 := ⟨m - 1, by omega⟩
        exact numD_tup.mpr fun x hx => ih _ _ (by omega) (h2 x hx)
theorem okDs_iff {n : Nat} : ∀ {ds : List D}, okD.okDs n ds = true ↔ ∀ d ∈ ds, okD n d = true
  | [] => by simp [okD.okDs]
  | d :: ds => by simp [okD.okDs, okDs_iff (ds := ds)]
theorem okD_tup {n : Nat} {ds : List D} : okD (n + 1) (.tup ds) = true ↔ ∀ e ∈ ds, okD n e = true := by
  rw [← okDs_iff]
  simp [okD]
theorem okD_lst {n : Nat} {ds : List D} : okD (n + 1) (.lst ds) = true ↔ ∀ e ∈ ds, okD n e = true := by
  rw [← okDs_iff]
  simp [okD]
theorem numD_ok : ∀ {n : Nat} {d : D}, numD n d = true → okD n d = true
  | n, d, g => by
    induction n generalizing d with
    | zero =>
      rcases numD_cases g with ⟨i, rfl⟩ | ⟨k, ds, e, _⟩
      · rfl
      · cases e
    | succ n ih =>
      rcases numD_cases g with ⟨i, rfl⟩ | ⟨k, ds, e, rfl, h2⟩
      · rfl
      · cases e
        exact okD_tup.mpr fun x hx => ih _ (h2 x hx)
theorem eqDs_iff {P : D → D → Prop} : ∀ {xs ys : List D}, (∀ x ∈ xs, ∀ y ∈ ys, (eqD x y = true ↔ x = y)) → (eqD.eqDs xs ys = true ↔ xs = ys)
  | [], [], _ => by simp [eqD.eqDs]
  | [], y :: ys, _ => by simp [eqD.eqDs]
  | x :: xs, [], _ => by simp [eqD.eqDs]
  | x :: xs, y :: ys, h => by
    simp only [eqD.eqDs, Bool.and_eq_true, List.cons.injEq]
    rw [h x (by simp) y (by simp), eqDs_iff (P := P) fun a ha b hb => h a (by simp [ha]) b (by simp [hb])]
theorem eqD_num : ∀ {n m : Nat} {d e : D}, numD n d = true → numD m e = true → (eqD d e = true ↔ d = e)
  | n, m, d, e, g, k => by
    induction n generalizing m d e with
    | zero =>
      rcases numD_cases g with ⟨i, rfl⟩ | ⟨_, ds, z, _⟩
      · rcases numD_cases k with ⟨j, rfl⟩ | ⟨_, es, _, rfl, _⟩ <;> simp [eqD]
      · cases z
    | succ n ih =>
      rcases numD_cases g with ⟨i, rfl⟩ | ⟨_, ds, z, rfl, h2⟩
      · rcases numD_cases k with ⟨j, rfl⟩ | ⟨_, es, _, rfl, _⟩ <;> simp [eqD]
      · cases z
        rcases numD_cases k with ⟨j, rfl⟩ | ⟨_, es, _, rfl, k2⟩
        · simp [eqD]
        · simp only [eqD, D.tup.injEq]
          exact eqDs_iff (P := Eq) fun x hx y hy => ih _ _ _ (h2 x hx) (k2 y hy)
theorem Reads.num {h : Heap} : ∀ {n : Nat} {d : D} {v : Value} {as : List Addr}, numD n d = true → Reads h v (toPy d) as → as = []
  | n, d, v, as, g, r => by
    induction n generalizing d v as with
    | zero =>
      rcases numD_cases g with ⟨i, rfl⟩ | ⟨_, ds, z, _⟩
      · cases r; rfl
      · cases z
    | succ n ih =>
      rcases numD_cases g with ⟨i, rfl⟩ | ⟨_, ds, z, rfl, h2⟩
      · cases r; rfl
      · cases z
        simp only [toPy] at r
        cases r with
        | tuple ho hc hd hr =>
          have all : ∀ (ds : List D) (vs : List Value) (as : List Addr), (∀ d ∈ ds, numD n d = true) → ReadsAll h vs (toPy.toPys ds) as → as = [] := by
            intro ds
            induction ds with
            | nil => intro vs as _ r; cases r; rfl
            | cons d ds ihd =>
              intro vs as hn r
              cases r with
              | cons r1 r2 => rw [ih _ _ _ (hn d (by simp)) r1, ihd _ _ (fun e he => hn e (by simp [he])) r2]; rfl
          exact all ds _ _ h2 hr
def nkD : D → NestedKey
  | .int i => .num i
  | .tup ds => .tup (nkDs ds)
  | _ => .none
where nkDs : List D → List NestedKey
  | [] => []
  | d :: ds => nkD d :: nkDs ds
theorem nkD_inj : ∀ {n m : Nat} {d e : D}, numD n d = true → numD m e = true → nkD d = nkD e → d = e
  | n, m, d, e, g, k => by
    induction n generalizing m d e with
    | zero =>
      rcases numD_cases g with ⟨i, rfl⟩ | ⟨_, ds, z, _⟩
      · rcases numD_cases k with ⟨j, rfl⟩ | ⟨_, es, _, rfl, _⟩ <;> simp [nkD]
      · cases z
    | succ n ih =>
      rcases numD_cases g with ⟨i, rfl⟩ | ⟨_, ds, z, rfl, h2⟩
      · rcases numD_cases k with ⟨j, rfl⟩ | ⟨_, es, _, rfl, _⟩ <;> simp [nkD]
      · cases z
        rcases numD_cases k with ⟨j, rfl⟩ | ⟨m', es, _, rfl, k2⟩
        · simp [nkD]
        · simp only [nkD, NestedKey.tup.injEq, D.tup.injEq]
          have all : ∀ (ds es : List D), (∀ d ∈ ds, numD n d = true) → (∀ d ∈ es, numD m' d = true) → nkD.nkDs ds = nkD.nkDs es → ds = es := by
            intro ds
            induction ds with
            | nil => intro es _ _ h; cases es with
              | nil => rfl
              | cons _ _ => simp [nkD.nkDs] at h
            | cons d ds ihd =>
              intro es h1 h2 h
              cases es with
              | nil => simp [nkD.nkDs] at h
              | cons e es =>
                simp only [nkD.nkDs, List.cons.injEq] at h
                rw [ih _ _ _ (h1 d (by simp)) (h2 e (by simp)) h.1, ihd es (fun x hx => h1 x (by simp [hx])) (fun x hx => h2 x (by simp [hx])) h.2]
          exact all ds es h2 k2
theorem reads_key {h : Heap} : ∀ {n : Nat} {d : D} {v : Value} {as : List Addr}, numD n d = true → Reads h v (toPy d) as → NestedIs h (nkD d) v ∧ (nkD d).depth ≤ n ∧ numK (nkD d) = true
  | n, d, v, as, g, r => by
    induction n generalizing d v as with
    | zero =>
      rcases numD_cases g with ⟨i, rfl⟩ | ⟨_, ds, z, _⟩
      · cases r; exact ⟨.int i _, Nat.le_refl _, rfl⟩
      · cases z
    | succ n ih =>
      rcases numD_cases g with ⟨i, rfl⟩ | ⟨_, ds, z, rfl, h2⟩
      · cases r; exact ⟨.int i _, Nat.zero_le _, rfl⟩
      · cases z
        simp only [toPy] at r
        cases r with
        | tuple ho hc hd hr =>
          have all : ∀ (ds : List D) (vs : List Value) (as : List Addr), (∀ d ∈ ds, numD n d = true) → ReadsAll h vs (toPy.toPys ds) as → NestedAll h (nkD.nkDs ds) vs ∧ NestedKey.depthAll (nkD.nkDs ds) ≤ n ∧ numKs (nkD.nkDs ds) = true := by
            intro ds
            induction ds with
            | nil => intro vs as _ r; cases r; exact ⟨.nil, Nat.zero_le _, rfl⟩
            | cons d ds ihd =>
              intro vs as hn r
              cases r with
              | cons r1 r2 =>
                obtain ⟨a1, a2, a3⟩ := ih _ _ _ (hn d (by simp)) r1
                obtain ⟨b1, b2, b3⟩ := ihd _ _ (fun e he => hn e (by simp [he])) r2
                exact ⟨.cons a1 b1, by simp only [nkD.nkDs, NestedKey.depthAll]; omega, by simp only [nkD.nkDs, numKs, a3, b3]; rfl⟩
          obtain ⟨a1, a2, a3⟩ := all ds _ _ h2 hr
          exact ⟨.tup ho hc hd a1, by simp only [nkD, NestedKey.depth]; omega, by simpa [nkD, numK] using a3⟩
class OD (α : Type) where
  enc : α → D
  lt : α → α → Prop
  dec : ∀ a b, Decidable (lt a b)
  irr : ∀ a, ¬ lt a a
  tr : ∀ {a b c}, lt a b → lt b c → lt a c
  tri : ∀ a b, lt a b ∨ a = b ∨ lt b a
  dp : Nat
  num : ∀ a, numD dp (enc a) = true
  inj : ∀ {a b}, enc a = enc b → a = b
  al : ∀ a b, PySem.W.alike (toPy (enc a)) (toPy (enc b)) = true
  plt : ∀ a b, PySem.W.dataLt (toPy (enc a)) (toPy (enc b)) = @decide (lt a b) (dec a b)
  ok : α → Prop
  srt : ∀ xs : List α, (∀ a ∈ xs, ok a) → PySem.W.Sortable (xs.map fun a => toPy (enc a))
instance {α : Type} [OD α] (a b : α) : Decidable (OD.lt a b) := OD.dec a b
section
variable {α β : Type} [OD α] [OD β]
theorem OD.asym {a b : α} (h : OD.lt a b) : ¬ OD.lt b a := fun z => OD.irr _ (OD.tr h z)
theorem OD.eq_iff {a b : α} : a = b ↔ ¬ OD.lt a b ∧ ¬ OD.lt b a := ⟨fun e => by subst e; exact ⟨OD.irr _, OD.irr _⟩, fun h => by
  rcases OD.tri a b with z | z | z
  · exact absurd z h.1
  · exact z
  · exact absurd z h.2⟩
def OD.eqDec (a b : α) : Decidable (a = b) := decidable_of_iff _ OD.eq_iff.symm
theorem OD.eqv (a b : α) : PyData.eqv (toPy (enc a)) (toPy (enc b)) = @decide (a = b) (OD.eqDec a b) := by
  have n1 := OD.num a
  have n2 := OD.num b
  rw [eqv_eqD _ _ _ _ (numD_ok n1) (numD_ok n2)]
  have h := eqD_num n1 n2
  by_cases e : a = b
  · rw [@decide_eq_true _ (OD.eqDec a b) e]
    exact h.mpr (congrArg _ e)
  · rw [@decide_eq_false _ (OD.eqDec a b) e]
    exact Bool.eq_false_iff.mpr fun z => e (OD.inj (h.mp z))
end
instance : OD Int where
  enc := .int
  lt a b := a < b
  dec := inferInstance
  irr a := by omega
  tr h g := by omega
  tri a b := by omega
  dp := 0
  num _ := rfl
  inj h := by cases h; rfl
  al a b := by simp [toPy, PySem.W.alike]
  plt a b := by simp only [toPy]; exact PySem.W.dataLt_int a b
  ok _ := True
  srt xs _ := .inr fun d hd => by
    obtain ⟨a, _, rfl⟩ := List.mem_map.mp hd
    simp [toPy]
def ltP {α β : Type} [OD α] [OD β] (p q : α × β) : Prop := OD.lt p.1 q.1 ∨ (p.1 = q.1 ∧ OD.lt p.2 q.2)
def ltP_dec {α β : Type} [OD α] [OD β] (p q : α × β) : Decidable (ltP p q) := by
  have : Decidable (p.1 = q.1) := OD.eqDec _ _
  have : Decidable (OD.lt p.1 q.1) := OD.dec _ _
  have : Decidable (OD.lt p.2 q.2) := OD.dec _ _
  unfold ltP
  exact inferInstance
instance {α β : Type} [OD α] [OD β] : OD (α × β) where
  enc p := .tup [OD.enc p.1, OD.enc p.2]
  lt := ltP
  dec := ltP_dec
  irr p h := by
    rcases h with h | h
    · exact OD.irr _ h
    · exact OD.irr _ h.2
  tr := by
    rintro ⟨a, b⟩ ⟨c, d⟩ ⟨e, f⟩ h g
    unfold ltP at *
    dsimp only at *
    rcases h with h | ⟨rfl, h⟩
    · rcases g with g | ⟨rfl, g⟩
      · exact .inl (OD.tr h g)
      · exact .inl h
    · rcases g with g | ⟨rfl, g⟩
      · exact .inl g
      · exact .inr ⟨rfl, OD.tr h g⟩
  tri := by
    rintro ⟨a, b⟩ ⟨c, d⟩
    unfold ltP
    dsimp only
    rcases OD.tri a c with h | rfl | h
    · exact .inl (.inl h)
    · rcases OD.tri b d with g | rfl | g
      · exact .inl (.inr ⟨rfl, g⟩)
      · exact .inr (.inl rfl)
      · exact .inr (.inr (.inr ⟨rfl, g⟩))
    · exact .inr (.inr (.inl h))
  dp := max (OD.dp α) (OD.dp β) + 1
  num p := by
    rw [numD_tup]
    intro e he
    rcases List.mem_cons.mp he with z | z
    · rw [z]; exact numD_mono (by omega) (OD.num p.1)
    · rw [List.mem_singleton.mp z]; exact numD_mono (by omega) (OD.num p.2)
  inj h := by
    simp only [D.tup.injEq, List.cons.injEq, and_true] at h
    exact Prod.ext (OD.inj h.1) (OD.inj h.2)
  al p q := by
    simp only [toPy, toPy.toPys, PySem.W.alike, PySem.W.alikeAll, OD.al]
    rfl
  plt p q := by
    simp only [toPy, toPy.toPys]
    rw [PySem.W.dataLt_pair (OD.al _ _) (OD.al _ _), OD.eqv, OD.eqv, OD.plt, OD.plt]
    by_cases h : p.1 = q.1
    · rw [@decide_eq_true _ (OD.eqDec _ _) h, if_pos rfl]
      by_cases g : p.2 = q.2
      · rw [@decide_eq_true _ (OD.eqDec _ _) g, if_pos rfl]
        refine Eq.symm (@decide_eq_false _ (ltP_dec _ _) ?_)
        unfold ltP
        rw [h, g]
        rintro (z | z)
        · exact OD.irr _ z
        · exact OD.irr _ z.2
      · rw [@decide_eq_false _ (OD.eqDec _ _) g, if_neg (by decide)]
        refine (@decide_eq_decide _ _ _ _).mpr ⟨fun z => .inr ⟨h, z⟩, fun z => ?_⟩
        rcases z with z | z
        · rw [h] at z; exact absurd z (OD.irr _)
        · exact z.2
    · rw [@decide_eq_false _ (OD.eqDec _ _) h, if_neg (by decide)]
      exact (@decide_eq_decide _ _ _ _).mpr ⟨.inl, fun z => z.resolve_right fun y => h y.1⟩
  ok _ := True
  srt xs _ := .inl fun d hd => by
    obtain ⟨a, _, rfl⟩ := List.mem_map.mp hd
    exact ⟨_, _, rfl⟩
section
variable {α : Type} [OD α]
def ltL : List α → List α → Prop
  | [], [] => False
  | [], _ :: _ => True
  | _ :: _, [] => False
  | x :: xs, y :: ys => OD.lt x y ∨ (x = y ∧ ltL xs ys)
def ltL_dec : ∀ xs ys : List α, Decidable (ltL xs ys)
  | [], [] => isFalse id
  | [], _ :: _ => isTrue trivial
  | _ :: _, [] => isFalse id
  | x :: xs, y :: ys => by
    have := OD.eqDec x y
    have := ltL_dec xs ys
    unfold ltL
    infer_instance
theorem ltL_irr : ∀ xs : List α, ¬ ltL xs xs
  | [] => id
  | x :: xs => by
    rintro (h | h)
    · exact OD.irr _ h
    · exact ltL_irr xs h.2
theorem ltL_tr : ∀ {xs ys zs : List α}, ltL xs ys → ltL ys zs → ltL xs zs
  | [], [], _, h, _ => h.elim
  | [], _ :: _, [], _, g => g.elim
  | [], _ :: _, _ :: _, _, _ => trivial
  | _ :: _, [], _, h, _ => h.elim
  | _ :: _, _ :: _, [], _, g => g.elim
  | x :: xs, y :: ys, z :: zs, h, g => by
    rcases h with h | ⟨rfl, h⟩
    · rcases g with g | ⟨rfl, g⟩
      · exact .inl (OD.tr h g)
      · exact .inl h
    · rcases g with g | ⟨rfl, g⟩
      · exact .inl g
      · exact .inr ⟨rfl, ltL_tr h g⟩
theorem ltL_tri : ∀ xs ys : List α, ltL xs ys ∨ xs = ys ∨ ltL ys xs
  | [], [] => .inr (.inl rfl)
  | [], _ :: _ => .inl trivial
  | _ :: _, [] => .inr (.inr trivial)
  | x :: xs, y :: ys => by
    rcases OD.tri x y with h | rfl | h
    · exact .inl (.inl h)
    · rcases ltL_tri xs ys with g | rfl | g
      · exact .inl (.inr ⟨rfl, g⟩)
      · exact .inr (.inl rfl)
      · exact .inr (.inr (.inr ⟨rfl, g⟩))
    · exact .inr (.inr (.inl h))
theorem toPys_map (xs : List α) : toPy.toPys (xs.map OD.enc) = xs.map fun a => toPy (OD.enc a) := by
  induction xs with
  | nil => rfl
  | cons x xs ih => rw [List.map_cons, List.map_cons, toPy.toPys, ih]
theorem ltL_toks : ∀ xs ys : List α, PyProof.Rows.lexLt itemOrd (PySem.W.keyToksAll (toPy.toPys (xs.map OD.enc))) (PySem.W.keyToksAll (toPy.toPys (ys.map OD.enc))) = @decide (ltL xs ys) (ltL_dec xs ys)
  | [], [] => lex_irrefl _
  | [], y :: ys => by
    rw [@decide_eq_true _ (ltL_dec _ _) (show ltL [] (y :: ys) from trivial)]
    simp only [List.map_nil, List.map_cons, toPy.toPys]
    rw [PySem.W.toks_all_cons]
    simp only [PySem.W.keyToksAll]
    rw [lex_diff (O := itemOrd) (by simp)]
    rfl
  | x :: xs, [] => by
    rw [@decide_eq_false _ (ltL_dec _ _) (show ¬ ltL (x :: xs) [] from id)]
    simp only [List.map_nil, List.map_cons, toPy.toPys]
    rw [PySem.W.toks_all_cons]
    simp only [PySem.W.keyToksAll]
    rw [lex_diff (O := itemOrd) (by simp)]
    rfl
  | x :: xs, y :: ys => by
    simp only [List.map_cons, toPy.toPys]
    rw [PySem.W.dataLt_cons (OD.al x y), OD.eqv, OD.plt, ltL_toks xs ys]
    by_cases h : x = y
    · rw [@decide_eq_true _ (OD.eqDec _ _) h, if_pos rfl]
      refine (@decide_eq_decide _ _ _ _).mpr ⟨fun z => .inr ⟨h, z⟩, fun z => ?_⟩
      rcases z with z | z
      · rw [h] at z; exact absurd z (OD.irr _)
      · exact z.2
    · rw [@decide_eq_false _ (OD.eqDec _ _) h, if_neg (by decide)]
      exact (@decide_eq_decide _ _ _ _).mpr ⟨.inl, fun z => z.resolve_right fun y => h y.1⟩
theorem alikeAll_enc : ∀ xs ys : List α, PySem.W.alikeAll (toPy.toPys (xs.map OD.enc)) (toPy.toPys (ys.map OD.enc)) = true
  | [], _ => by simp [toPy.toPys, PySem.W.alikeAll]
  | _ :: _, [] => by simp [toPy.toPys, PySem.W.alikeAll]
  | x :: xs, y :: ys => by
    simp only [List.map_cons, toPy.toPys, PySem.W.alikeAll, OD.al x y, alikeAll_enc xs ys]
    rfl
end
instance {α : Type} [OD α] : OD (List α) where
  enc xs := .tup (xs.map OD.enc)
  lt := ltL
  dec := ltL_dec
  irr := ltL_irr
  tr := ltL_tr
  tri := ltL_tri
  dp := OD.dp α + 1
  num xs := by
    rw [numD_tup]
    intro e he
    obtain ⟨a, _, rfl⟩ := List.mem_map.mp he
    exact OD.num a
  inj {a b} h := by
    simp only [D.tup.injEq] at h
    exact (List.map_inj_right fun x y z => OD.inj z).mp h
  al xs ys := by
    simp only [toPy, PySem.W.alike]
    exact alikeAll_enc xs ys
  plt xs ys := by
    simp only [toPy]
    rw [PySem.W.dataLt_tuple]
    exact ltL_toks xs ys
  ok xs := xs ≠ []
  srt xss h := .inl fun d hd => by
    obtain ⟨a, ha, rfl⟩ := List.mem_map.mp hd
    have := h a ha
    cases a with
    | nil => exact absurd rfl this
    | cons x xs => exact ⟨_, _, rfl⟩
section
variable {α : Type} [OD α]
def oins (p : α) : List α → List α
  | [] => [p]
  | q :: r => if OD.lt q p then q :: oins p r else p :: q :: r
def osrt (l : List α) : List α := l.foldr oins []
def oinsU (p : α) : List α → List α
  | [] => [p]
  | q :: r => if OD.lt p q then p :: q :: r else if OD.lt q p then q :: oinsU p r else q :: r
def osrtU (l : List α) : List α := l.foldr oinsU []
def LeO (a b : α) : Prop := ¬ OD.lt b a
theorem oins_perm (p : α) : ∀ l, (oins p l).Perm (p :: l)
  | [] => .refl _
  | q :: r => by
    unfold oins
    split
    · exact ((oins_perm p r).cons q).trans (.swap _ _ _)
    · exact .refl _
theorem osrt_perm : ∀ l : List α, (osrt l).Perm l
  | [] => .refl _
  | p :: l => (oins_perm p (osrt l)).trans ((osrt_perm l).cons p)
theorem oins_srt {p : α} : ∀ {l : List α}, l.Pairwise LeO → (oins p l).Pairwise LeO
  | [], _ => by simp [oins]
  | q :: r, h => by
    obtain ⟨h1, h2⟩ := List.pairwise_cons.mp h
    unfold oins
    split
    · rename_i c
      refine List.pairwise_cons.mpr ⟨fun x hx => ?_, oins_srt h2⟩
      rcases List.mem_cons.mp ((oins_perm p r).mem_iff.mp hx) with z | z
      · rw [z]; exact OD.asym c
      · exact h1 x z
    · rename_i c
      refine List.pairwise_cons.mpr ⟨fun x hx => ?_, h⟩
      rcases List.mem_cons.mp hx with z | z
      · rw [z]; exact c
      · intro y
        rcases OD.tri p q with a | a | a
        · exact h1 x z (OD.tr y a)
        · exact h1 x z (a ▸ y)
        · exact c a
theorem osrt_srt : ∀ l : List α, (osrt l).Pairwise LeO
  | [] => .nil
  | p :: l => oins_srt (osrt_srt l)
theorem le_uniq : ∀ {l m : List α}, l.Perm m → l.Pairwise LeO → m.Pairwise LeO → l = m
  | [], m, p, _, _ => (List.Perm.nil_eq p)
  | x :: l, [], p, _, _ => absurd p.length_eq (by simp)
  | x :: l, y :: m, p, hl, hm => by
    obtain ⟨l1, l2⟩ := List.pairwise_cons.mp hl
    obtain ⟨m1, m2⟩ := List.pairwise_cons.mp hm
    have e : x = y := by
      refine OD.eq_iff.mpr ⟨?_, ?_⟩
      · rcases List.mem_cons.mp (p.mem_iff.mp (List.mem_cons_self (a := x))) with z | z
        · rw [z]; exact OD.irr _
        · exact m1 x z
      · rcases List.mem_cons.mp (p.mem_iff.mpr (List.mem_cons_self (a := y))) with z | z
        · rw [z]; exact OD.irr _
        · exact l1 y z
    subst e
    rw [le_uniq (List.Perm.cons_inv p) l2 m2]
theorem osrt_uniq {l m : List α} (p : l.Perm m) (h : l.Pairwise LeO) : l = osrt m := le_uniq (p.trans (osrt_perm m).symm) h (osrt_srt m)
theorem osrt_congr {l m : List α} (p : l.Perm m) : osrt l = osrt m := osrt_uniq ((osrt_perm l).trans p) (osrt_srt l)
theorem mem_osrt {x : α} {l : List α} : x ∈ osrt l ↔ x ∈ l := (osrt_perm l).mem_iff
theorem osrt_len (l : List α) : (osrt l).length = l.length := (osrt_perm l).length_eq
theorem lt_le {l : List α} (h : l.Pairwise OD.lt) : l.Pairwise LeO := h.imp fun z => OD.asym z
theorem osrt_id {l : List α} (h : l.Pairwise LeO) : osrt l = l := (osrt_uniq (.refl _) h).symm
theorem lt_nodup {l : List α} (h : l.Pairwise OD.lt) : l.Nodup := List.Pairwise.imp (fun {a b} (z : OD.lt a b) (e : a = b) => OD.irr b (by rw [e] at z; exact z)) h
theorem osrt_lt {l : List α} (h : l.Nodup) : (osrt l).Pairwise OD.lt := by
  have h1 : (osrt l).Pairwise (fun a b => LeO a b ∧ a ≠ b) := (osrt_srt l).and ((osrt_perm l).nodup_iff.mpr h)
  refine h1.imp fun {a b} z => ?_
  rcases OD.tri a b with y | y | y
  · exact y
  · exact absurd y z.2
  · exact absurd y z.1
theorem mem_oinsU {p x : α} : ∀ {l : List α}, x ∈ oinsU p l ↔ x = p ∨ x ∈ l
  | [] => by simp [oinsU]
  | q :: r => by
    unfold oinsU
    split
    · simp
    · split
      · rw [List.mem_cons, mem_oinsU, List.mem_cons]
        exact ⟨fun h => by rcases h with h | h | h <;> simp [h], fun h => by rcases h with h | h | h <;> simp [h]⟩
      · rename_i c d
        rw [OD.eq_iff.mpr ⟨c, d⟩]
        simp
theorem oinsU_srt {p : α} : ∀ {l : List α}, l.Pairwise OD.lt → (oinsU p l).Pairwise OD.lt
  | [], _ => by simp [oinsU]
  | q :: r, h => by
    obtain ⟨h1, h2⟩ := List.pairwise_cons.mp h
    unfold oinsU
    split
    · rename_i c
      refine List.pairwise_cons.mpr ⟨fun x hx => ?_, h⟩
      rcases List.mem_cons.mp hx with z | z
      · rw [z]; exact c
      · exact OD.tr c (h1 x z)
    · split
      · rename_i c
        refine List.pairwise_cons.mpr ⟨fun x hx => ?_, oinsU_srt h2⟩
        rcases mem_oinsU.mp hx with z | z
        · rw [z]; exact c
        · exact h1 x z
      · exact h
theorem mem_osrtU {x : α} : ∀ {l : List α}, x ∈ osrtU l ↔ x ∈ l
  | [] => by simp [osrtU]
  | p :: l => by
    show x ∈ oinsU p (osrtU l) ↔ _
    rw [mem_oinsU, mem_osrtU, List.mem_cons]
theorem osrtU_srt : ∀ l : List α, (osrtU l).Pairwise OD.lt
  | [] => .nil
  | p :: l => oinsU_srt (osrtU_srt l)
theorem lt_uniq : ∀ {l m : List α}, l.Pairwise OD.lt → m.Pairwise OD.lt → (∀ x, x ∈ l ↔ x ∈ m) → l = m
  | [], [], _, _, _ => rfl
  | [], y :: m, _, _, h => absurd ((h y).mpr List.mem_cons_self) (by simp)
  | x :: l, [], _, _, h => absurd ((h x).mp List.mem_cons_self) (by simp)
  | x :: l, y :: m, hl, hm, h => by
    obtain ⟨l1, l2⟩ := List.pairwise_cons.mp hl
    obtain ⟨m1, m2⟩ := List.pairwise_cons.mp hm
    have e : x = y := by
      rcases List.mem_cons.mp ((h x).mp List.mem_cons_self) with z | z
      · exact z
      · rcases List.mem_cons.mp ((h y).mpr List.mem_cons_self) with w | w
        · exact w.symm
        · exact absurd (OD.tr (m1 x z) (l1 y w)) (OD.irr y)
    subst e
    refine congrArg _ (lt_uniq l2 m2 fun z => ⟨fun hz => ?_, fun hz => ?_⟩)
    · rcases List.mem_cons.mp ((h z).mp (List.mem_cons_of_mem _ hz)) with w | w
      · subst w; exact absurd (l1 z hz) (OD.irr z)
      · exact w
    · rcases List.mem_cons.mp ((h z).mpr (List.mem_cons_of_mem _ hz)) with w | w
      · subst w; exact absurd (m1 z hz) (OD.irr z)
      · exact w
theorem osrtU_uniq {l m : List α} (h : l.Pairwise OD.lt) (e : ∀ x, x ∈ l ↔ x ∈ m) : l = osrtU m := lt_uniq h (osrtU_srt m) fun x => (e x).trans mem_osrtU.symm
theorem osrtU_id {l : List α} (h : l.Pairwise OD.lt) : osrtU l = l := (osrtU_uniq h fun _ => Iff.rfl).symm
theorem osrtU_congr {l m : List α} (h : ∀ x, x ∈ l ↔ x ∈ m) : osrtU l = osrtU m := osrtU_uniq (osrtU_srt l) fun x => mem_osrtU.trans (h x)
theorem osrtU_nd {l : List α} (h : l.Nodup) : osrtU l = osrt l := (osrtU_uniq (osrt_lt h) fun _ => mem_osrt).symm
theorem oinsU_len {p : α} : ∀ {l : List α}, (oinsU p l).length ≤ l.length + 1
  | [] => Nat.le_refl _
  | q :: r => by
    have ih := oinsU_len (p := p) (l := r)
    unfold oinsU
    split
    · exact Nat.le_refl _
    · split
      · exact Nat.succ_le_succ ih
      · exact Nat.le_succ _
theorem osrtU_len : ∀ (l : List α), (osrtU l).length ≤ l.length
  | [] => Nat.le_refl _
  | p :: l => Nat.le_trans (oinsU_len (p := p) (l := osrtU l)) (Nat.succ_le_succ (osrtU_len l))
end
end DL

set_option Elab.async false
set_option linter.all false
set_option maxRecDepth 100000
set_option maxHeartbeats 4000000
namespace DSet
open PySem PySem.Spec PyProof.Rows L2 DL PySem.W
section
variable {P : Program} {w : World} {A : Around} {E : Value → Shared → Prop} {s : Shared}
theorem eachIs_len {α β : Type} {R : α → β → Prop} {as : List α} {bs : List β} (h : EachIs R as bs) : as.length = bs.length := h.length
def ItIs {α : Type} [OD α] (G : V × α → Prop) (h : Heap) (u : Value) (b : V × α) : Prop := (RelV b.1 u ∧ G b) ∧ ∃ as, Reads h u (toPy (OD.enc b.2)) as
theorem eachIs_keep {α : Type} [OD α] {G : V × α → Prop} {h h' : Heap} (k : ∀ b o, h.get? b = some o → h'.get? b = some o) {us : List Value} {bs : List (V × α)} (e : EachIs (ItIs G h) us bs) : EachIs (ItIs G h') us bs := e.mono fun u b ⟨r, as, d⟩ => ⟨r, as, PyProof.Rows.Reads.keeps k d⟩
theorem sorted_col {α : Type} [OD α] {G : V × α → Prop} {x : Value} {Q : Value → Shared → Prop} (xs : List α) (hz : xs.length ≤ sizeLine) (hok : ∀ a ∈ xs, OD.ok a) (hu : A.units + 64 < cLine) (hdp : OD.dp α ≤ 8)
    (hcol : ∀ Q' : List Value → Shared → Prop, (∀ s' vs (bs : List (V × α)), (bs.map (·.2)).Perm xs → (∀ b o, s.heap.get? b = some o → s'.heap.get? b = some o) → s'.gens = s.gens → s'.os = s.os → EachIs (ItIs G s'.heap) vs bs → Q' vs s') → wpAny (model P w) A.in1 (collect x) Q' E s)
    (hQ : ∀ s' d out (bs : List (V × α)), bs.map (·.2) = osrt xs → (∀ b o, s.heap.get? b = some o → s'.heap.get? b = some o) → (∃ h1 : Heap, (∀ b o, s.heap.get? b = some o → h1.get? b = some o) ∧ h1.objs.size ≤ d) → s'.gens = s.gens → s'.os = s.os → EachIs (ItIs G s'.heap) out bs → (∃ n, s'.heap.get? d = some (seqObj "list" out.toArray n)) → Q (.ref d) s') :
    wpAny (model P w) A (call (.builtin "sorted") [x]) Q E s := by
  refine Calls.call_function_entry kind_sorted plain_sorted entry_sorted (args_sorted1 _) (?_ : wpAny _ _ _ _ _ _)
  unfold Builtin.«sorted»
  refine wpAny_bind (m := checkCount "sorted" 1 1 _) (wpAny_pure ?_)
  refine wpAny_bind (hcol _ fun s1 vs bs pm k1 g1 o1 e1 => (?_ : wpAny _ _ _ _ _ _))
  have hl : vs.length = xs.length := by rw [e1.length, ← pm.length_eq, List.length_map]
  refine wpAny_bind (wpAny_newList (?_ : wpAny _ _ _ _ _ _) (by rw [hl]; exact hz))
  have hoL : (s1.heap.push (seqObj "list" vs.toArray 0)).get? s1.heap.objs.size = some (seqObj "list" vs.toArray 0) := Heap.get?_push_size _ rfl
  have kp : ∀ b o, s1.heap.get? b = some o → (s1.heap.push (seqObj "list" vs.toArray 0)).get? b = some o := fun b o e => Heap.get?_push_of_some _ e
  have e2 := eachIs_keep kp e1
  have inx : ∀ b ∈ bs, OD.ok b.2 := fun b hb => hok _ (pm.mem_iff.mp (List.mem_map.mpr ⟨b, hb, rfl⟩))
  have dpt : ∀ a : α, (toPy (OD.enc a)).depth ≤ 8 := fun a => (okD_lay _ _ (numD_ok (numD_mono hdp (OD.num a)))).2
  refine wpAny_bind (wpAny_holding (list_sort_data (enc := fun b : V × α => toPy (OD.enc b.2)) (R := ItIs G s1.heap) (bs := bs) hoL e1
    (e2.mono fun u b ⟨_, as, r⟩ => ⟨as, r, by rw [Reads.num (OD.num b.2) r]; simp⟩) (AllAlike.of fun b b' => OD.al _ _) ?_ (by rw [← e1.length, hl]; exact hz) (fun b _ => by have := dpt b.2; simp only [Around.in1_units] at *; omega) fun out ho he => ?_))
  · have q := OD.srt (bs.map (·.2)) fun a ha => by
      obtain ⟨b, hb, rfl⟩ := List.mem_map.mp ha
      exact inx b hb
    rw [List.map_map] at q
    exact q
  · obtain ⟨n, hn⟩ := sortedHeap_at (vs := vs) (out := out.toArray) hoL
    have k2 : ∀ b o, s1.heap.get? b = some o → (sortedHeap (s1.heap.push (seqObj "list" vs.toArray 0)) s1.heap.objs.size vs out.toArray).get? b = some o := fun b o e => by
      have lt := Heap.lt_size e
      rw [sortedHeap_old (Nat.ne_of_lt lt) (by rw [size_push']; exact Nat.lt_succ_of_lt lt)]
      exact kp b o e
    refine wpAny_pure ⟨_, rfl, hQ { s1 with heap := sortedHeap (s1.heap.push (seqObj "list" vs.toArray 0)) s1.heap.objs.size vs out.toArray } s1.heap.objs.size out (bs.mergeSort (dataLe false fun b : V × α => toPy (OD.enc b.2))) ?_ (fun b o e => k2 b o (k1 b o e)) ⟨s1.heap, k1, Nat.le_refl _⟩ g1 o1 (eachIs_keep k2 he) ⟨n, hn⟩⟩
    · refine osrt_uniq (((List.mergeSort_perm _ _).map _).trans pm) ?_
      refine List.pairwise_map.mpr ?_
      have tot : ∀ a b : V × α, (dataLe false (fun b : V × α => toPy (OD.enc b.2)) a b) = !@decide (OD.lt b.2 a.2) (OD.dec _ _) := fun a b => by
        show (!dataLt _ _) = _
        rw [OD.plt]
      refine List.Pairwise.imp (fun {a b} h => ?_) (List.pairwise_mergeSort (fun a b c h1 h2 => ?_) (fun a b => ?_) bs)
      · rw [tot] at h
        exact (by simpa using h : ¬ OD.lt b.2 a.2)
      · rw [tot] at h1 h2 ⊢
        simp only [Bool.not_eq_true', decide_eq_false_iff_not] at h1 h2 ⊢
        intro h
        rcases OD.tri b.2 a.2 with y | y | y
        · exact h1 y
        · exact h2 (y ▸ h)
        · exact h2 (OD.tr h y)
      · rw [tot, tot]
        rcases OD.tri a.2 b.2 with y | y | y
        · simp [OD.asym y]
        · simp [y, OD.irr]
        · simp [OD.asym y]
theorem call_setN {l : Addr} {items : Array Value} (ks : KL) {Q : Value → Shared → Prop} (hh : A.handled = none) (hl : s.heap.IsList l items ∨ s.heap.IsTuple l items) (hit : items.toList = ks.map fun p => Value.ref p.1)
    (hk : ∀ p ∈ ks, IsK s.heap p.2 p.1) (hfew : ks.length ≤ 2000) (hu : A.units + 32 < cLine)
    (h : ∀ (h' : Heap) (tk : Nat) L es ep t, SetN w h' s.heap.objs.size L es ep t → GotN ks ks.length L → (∀ b o, s.heap.get? b = some o → h'.get? b = some o) → Q (.ref s.heap.objs.size) { s with heap := h', toks := tk }) :
    wpAny (model P w) A (call (.type "set") [.ref l]) Q E s := by
  have hisz : items.size = ks.length := by
    have q := congrArg List.length hit
    rwa [Array.length_toList, List.length_map] at q
  obtain ⟨c, tl, hmro⟩ := F.called_set.mro
  have hmade := F.called_set.made
  have hsub := F.called_set.sub
  refine wpAny_call (codeAny_of_tree ?_)
  show wpAny _ _ (callAny (.type "set") _) _ _ _
  refine wpAny_pure ⟨Code.quiet_builtin _ (by decide +kernel), codeAny_builtin F.entry_type_call ?_⟩
  rw [Around.under_plain (weight_type_call_type "set" [.ref l] []) rfl]
  have h1 := F.called_set.notType
  have h2 := F.called_set.canCreate
  have hct := F.typeCall_set_1 (.ref l)
  repeat (any_goals (first | assumption | wp_step))
  refine codeAny_mono (code_set_led1 (.ref l) (E := E) (Q₁ := fun obj s₁ => obj = .ref s.heap.objs.size ∧ s₁ = { s with heap := s.heap.push (newS w) }) ⟨rfl, rfl⟩) fun r s₁ hr => ?_
  rcases r with e | fl
  · exact hr
  cases fl with
  | ret obj =>
    obtain ⟨rfl, rfl⟩ := hr
    have hS : (s.heap.push (newS w)).get? s.heap.objs.size = some (newS w) := Heap.get?_push_size _ rfl
    have hT : Shared.TypeIs { s with heap := s.heap.push (newS w) } (.ref s.heap.objs.size) "set" := ⟨_, hS, rfl⟩
    have hli := F.called_set.init.lookup
    have hbi := F.called_set.init.bind (.ref s.heap.objs.size)
    repeat (any_goals (first | assumption | wp_step))
    refine codeAny_mono (codeAny_call_builtin (R := wants (fun r s₂ => r = .none ∧ ∃ h' tk L es ep t, s₂ = { s with heap := h', toks := tk } ∧ SetN w h' s.heap.objs.size L es ep t ∧ GotN ks ks.length L ∧
        (∀ b o, s.heap.get? b = some o → h'.get? b = some o)) E) F.called_set.init.plain F.entry_set_init (check_set_init_1 hT ?_)) fun r₂ s₂ hr₂ => ?_
    · have none_of : ∀ b, s.heap.objs.size ≤ b → s.heap.get? b = none := fun b hb => by
        cases q : s.heap.get? b with
        | none => rfl
        | some o => exact absurd (Nat.lt_of_lt_of_le (Heap.lt_size q) hb) (Nat.lt_irrefl _)
      have hval : ∀ (i : Nat) (v : Value), items[i]? = some v → ∃ p, ks[i]? = some p ∧ v = .ref p.1 := fun i v hv => by
        have q : items.toList[i]? = some v := by rw [Array.getElem?_toList]; exact hv
        rw [hit, List.getElem?_map] at q
        obtain ⟨p, hp, e⟩ := Option.map_eq_some_iff.mp q
        exact ⟨p, hp, e.symm⟩
      have hh3 : A.in1.in1.in1.handled = none := by simp [hh]
      have sz1 : (s.heap.push (newS w)).objs.size = s.heap.objs.size + 1 := Heap.size_push ..
      have hnil : GotN ks 0 [] := ⟨fun p hp => (by cases hp), fun p hp => (by simp at hp), Nat.le_refl _⟩
      rcases hl with hl | hl
      · obtain ⟨⟨ocls, odict, odata, oslots⟩, hol, hcl, nl, hdl⟩ := hl
        simp only at hcl hdl
        subst hcl; subst hdl
        have hol' : (s.heap.push (newS w)).get? l = some { cls := .type "list", dict := odict, data := .seq items nl, slots := oslots } := Heap.get?_push_of_some _ hol
        have hsls := F.sub_list_set
        have hslf := F.sub_list_frozenset
        have hne : (Value.type "list" == Value.type "dict") = false := by decide
        have hl1 : (s.heap.push (newS w)).IsList l items := ⟨_, hol', rfl, nl, rfl⟩
        have hlS : l < s.heap.objs.size := Heap.lt_size hol
        have hlne : l ≠ (s.heap.push (newS w)).objs.size := by rw [sz1]; exact Nat.ne_of_lt (Nat.lt_succ_of_lt hlS)
        have hSf : s.heap.objs.size ∉ [(s.heap.push (newS w)).objs.size, l] := by
          rw [sz1]
          simp only [List.mem_cons, List.not_mem_nil, or_false, not_or]
          exact ⟨Nat.ne_of_lt (Nat.lt_succ_self _), Nat.ne_of_gt hlS⟩
        unfold Builtin.«set.__init__» noKeywords Builtin.Frozenset.updateFrom
        generalize hPI : pyIter = PI
        wp_walk
        subst hPI
        refine wpAny_pyIter_list hl1 (wpAny_bind (wpAny_runValue ?_))
        refine fill ((Walks.list hh3 _ l hlne items).toS) s.heap.objs.size hSf ks hisz hfew hval s.heap hk (none_of _ (Nat.le_refl _)) (fun b hb => none_of b (by
            rw [List.mem_singleton.mp hb, sz1]
            exact Nat.le_succ _)) (by simp only [Around.in1_units]; omega) (items.size - 0) 0 _ (by omega) (Nat.zero_le _)
          ⟨⟨_, Heap.get?_push_size _ rfl, rfl, rfl⟩, (hl1.push _)⟩ (fun b o e => Heap.get?_push_of_some _ (Heap.get?_push_of_some _ e)) ⟨[], #[], 0, _, SetN.new (Heap.get?_push_of_some _ hS), hnil⟩ ?_
        rintro ⟨h', g2, d', tk', os'⟩ L es ep t hm hS' g' hkp
        obtain rfl : g2 = s.gens := hm.gens
        obtain rfl : d' = s.drawn := hm.drawn
        obtain rfl : os' = s.os := hm.os
        show wpAny _ _ _ _ _ _
        refine wpAny_pure ?_
        show wpAny _ _ (ret Value.none) _ _ _
        rw [hisz] at g'
        exact wpAny_pure ⟨rfl, h', tk', L, es, ep, t, rfl, hS', g', hkp⟩
      · obtain ⟨⟨ocls, odict, odata, oslots⟩, hol, hcl, nl, hdl⟩ := hl
        simp only at hcl hdl
        subst hcl; subst hdl
        have hol' : (s.heap.push (newS w)).get? l = some { cls := .type "tuple", dict := odict, data := .seq items nl, slots := oslots } := Heap.get?_push_of_some _ hol
        have hsls := F.sub_tuple_set
        have hslf := F.sub_tuple_frozenset
        have hne : (Value.type "tuple" == Value.type "dict") = false := by decide
        have hl1 : (s.heap.push (newS w)).IsTuple l items := ⟨_, hol', rfl, nl, rfl⟩
        have hlS : l < s.heap.objs.size := Heap.lt_size hol
        have hlne : l ≠ (s.heap.push (newS w)).objs.size := by rw [sz1]; exact Nat.ne_of_lt (Nat.lt_succ_of_lt hlS)
        have hSf : s.heap.objs.size ∉ [(s.heap.push (newS w)).objs.size, l] := by
          rw [sz1]
          simp only [List.mem_cons, List.not_mem_nil, or_false, not_or]
          exact ⟨Nat.ne_of_lt (Nat.lt_succ_self _), Nat.ne_of_gt hlS⟩
        unfold Builtin.«set.__init__» noKeywords Builtin.Frozenset.updateFrom
        generalize hPI : pyIter = PI
        wp_walk
        subst hPI
        refine wpAny_pyIter_tuple hl1 (wpAny_bind (wpAny_runValue ?_))
        refine fill ((Walks.tuple hh3 _ l hlne items).toS) s.heap.objs.size hSf ks hisz hfew hval s.heap hk (none_of _ (Nat.le_refl _)) (fun b hb => none_of b (by
            rw [List.mem_singleton.mp hb, sz1]
            exact Nat.le_succ _)) (by simp only [Around.in1_units]; omega) (items.size - 0) 0 _ (by omega) (Nat.zero_le _)
          ⟨⟨_, Heap.get?_push_size _ rfl, rfl, rfl⟩, (hl1.push _)⟩ (fun b o e => Heap.get?_push_of_some _ (Heap.get?_push_of_some _ e)) ⟨[], #[], 0, _, SetN.new (Heap.get?_push_of_some _ hS), hnil⟩ ?_
        rintro ⟨h', g2, d', tk', os'⟩ L es ep t hm hS' g' hkp
        obtain rfl : g2 = s.gens := hm.gens
        obtain rfl : d' = s.drawn := hm.drawn
        obtain rfl : os' = s.os := hm.os
        show wpAny _ _ _ _ _ _
        refine wpAny_pure ?_
        show wpAny _ _ (ret Value.none) _ _ _
        rw [hisz] at g'
        exact wpAny_pure ⟨rfl, h', tk', L, es, ep, t, rfl, hS', g', hkp⟩
    · rcases r₂ with e | fl₂
      · exact hr₂
      cases fl₂ with
      | ret r =>
        obtain ⟨rfl, h', tk, L, es, ep, t, rfl, hS', g', hk'⟩ := hr₂
        repeat (any_goals (first | assumption | wp_step))
        exact h _ _ _ _ _ _ hS' g' hk'
      | _ => exact hr₂.elim
  | _ => exact hr.elim
end
end DSet

set_option Elab.async false
set_option linter.all false
set_option maxRecDepth 100000
set_option maxHeartbeats 4000000
namespace DL
open PySem PySem.Spec PyProof.Rows L2 DSet
def SrtQ {α : Type} [OD α] (H : Hp) (xs : List α) (G : V × α → Prop) (Q : VK) : Prop := xs.length ≤ sizeLine ∧ (∀ a ∈ xs, OD.ok a) ∧ OD.dp α ≤ 8 ∧
  ∀ (bs : List (V × α)) (p : Addr), bs.map (·.2) = osrt xs → (∀ b ∈ bs, G b) → H p = none → Q (.ref p) (upd H p (.lst (bs.map (·.1))))
def rSrtS (K : PySem.W.Frag) : List V → Hp → VK → Prop := fun vs H Q => ∃ (α : Type) (_ : OD α) (l : Addr) (bs : List (V × α)), vs = [.ref l] ∧ (SqL K H l (bs.map (·.1)) ∨ SqT K H l (bs.map (·.1))) ∧ (∀ b ∈ bs, Dp K H b.1 (toPy (OD.enc b.2))) ∧ SrtQ H (bs.map (·.2)) (· ∈ bs) Q
def keyD : Key → D
  | .inl i => .int i
  | .inr x => .str x
def rSrtT : List V → Hp → VK → Prop := fun vs H Q => ∃ (α : Type) (_ : OD α) (d : Addr) (kvs : List (List Key × V)) (xs : List α), vs = [.ref d] ∧ Rd H d (.dT kvs) ∧ (kvs.map fun p => D.tup (p.1.map keyD)) = xs.map OD.enc ∧
  (xs.length ≤ sizeLine → SrtQ H xs (fun b => ∃ (a : Addr) (k : List Key), b.1 = .ref a ∧ H a = some (.tup (k.map kV)) ∧ k.length ≤ sizeLine ∧ D.tup (k.map keyD) = OD.enc b.2) Q)
def SetNO (w : World) (a : Addr) (L : KL) : HO := .ext fun h => ∃ (es : Array (Int × Value)) (ep : Nat) (t : SetTable), (∃ o, h.get? a = some o ∧ o.ExactSet ∧ o.data = .set es ep t) ∧ es.toList = entsOf w L ∧ Tab t (L.map fun p => p.2.hash w) ∧ (L.map (·.2)).Nodup ∧ t.plain = true ∧
  (w.params.followText "set-order" = true ∨ t.led = true) ∧ L.length * 5 < t.mask * 3 ∧ L.length ≤ 2000
def rSrtN (K : PySem.W.Frag) (w : World) : List V → Hp → VK → Prop := fun vs H Q => ∃ (α : Type) (_ : OD α) (a : Addr) (L : List (Addr × α)), vs = [.ref a] ∧ H a = some (SetNO w a (L.map fun p => (p.1, nkD (OD.enc p.2)))) ∧
  (∀ p ∈ L, Dp K H (.ref p.1) (toPy (OD.enc p.2))) ∧ SrtQ H (L.map (·.2)) (fun b => ∃ p ∈ L, b = (V.ref p.1, p.2)) Q
def rSetN (K : PySem.W.Frag) (w : World) : List V → Hp → VK → Prop := fun vs H Q => ∃ (α : Type) (_ : OD α) (l : Addr) (ks : List (Addr × α)), vs = [.ref l] ∧ (SqL K H l (ks.map fun p => V.ref p.1) ∨ SqT K H l (ks.map fun p => V.ref p.1)) ∧
  (∀ p ∈ ks, Dp K H (.ref p.1) (toPy (OD.enc p.2))) ∧ OD.dp α ≤ 8 ∧ ks.length ≤ 2000 ∧
  ∀ a (L : List (Addr × α)), H a = none → (∀ p ∈ L, p ∈ ks) → (∀ p ∈ ks, p.2 ∈ L.map (·.2)) → (L.map (·.2)).Nodup → Q (.ref a) (upd H a (SetNO w a (L.map fun p => (p.1, nkD (OD.enc p.2)))))
def rLenN (w : World) : List V → Hp → VK → Prop := fun vs H Q => ∃ (a : Addr) (L : KL), vs = [.ref a] ∧ H a = some (SetNO w a L) ∧ Q (.int L.length) H
section
variable {X : Cx}
theorem vals_of_each {α : Type} [OD α] {G : V × α → Prop} {h : Heap} : ∀ {us : List Value} {bs : List (V × α)}, PySem.W.EachIs (ItIs G h) us bs → Vals (bs.map (·.1)) us ∧ ∀ b ∈ bs, G b
  | _, _, .nil => ⟨.nil, fun _ h => nomatch h⟩
  | _, _, .cons r t => by
    obtain ⟨a, b⟩ := vals_of_each t
    refine ⟨.cons r.1.1 a, fun x hx => ?_⟩
    rcases List.mem_cons.mp hx with z | z
    · rw [z]; exact r.1.2
    · exact b x z
theorem refs_ofA {α : Type} : ∀ {ks : List (Addr × α)} {us : List Value}, Vals (ks.map fun p => V.ref p.1) us → us = ks.map fun p => Value.ref p.1
  | [], _, .nil => rfl
  | p :: ks, _, .cons r t => by
    cases r
    rw [refs_ofA t]
    rfl
theorem srt_fin {α : Type} [OD α] {pins : List (Addr × Obj)} {σ : L2.St} {H : Hp} {s s' : Shared} {xs : List α} {G : V × α → Prop} {Q : VK} {d : Addr} {out : List Value} {bs : List (V × α)} (I : Inv X pins σ H s) (q : SrtQ H xs G Q) (e : bs.map (·.2) = osrt xs)
    (k : ∀ b o, s.heap.get? b = some o → s'.heap.get? b = some o) (hp : ∃ h1 : Heap, (∀ b o, s.heap.get? b = some o → h1.get? b = some o) ∧ h1.objs.size ≤ d) (g : s'.gens = s.gens) (o : s'.os = s.os) (r : PySem.W.EachIs (ItIs G s'.heap) out bs) (hn : ∃ n, s'.heap.get? d = some (seqObj "list" out.toArray n)) :
    ∃ v' H', Inv X pins σ H' s' ∧ RelV v' (.ref d) ∧ Q v' H' := by
  obtain ⟨rv, hG⟩ := vals_of_each r
  obtain ⟨n, hn⟩ := hn
  have hl : (bs.map (·.1)).length ≤ sizeLine := by
    have := congrArg List.length e
    rw [osrt_len, List.length_map] at this
    rw [List.length_map, this]
    exact q.1
  obtain ⟨h1, k1, hp⟩ := hp
  have fr : H d = none := (I.hok.kept k1).fresh hp
  have nd : s.heap.get? d = none := by
    cases z : s.heap.get? d with
    | none => rfl
    | some u => exact absurd (Nat.lt_of_lt_of_le (Heap.lt_size (k1 d u z)) hp) (Nat.lt_irrefl _)
  have J : Inv X pins σ (upd H d (.lst (bs.map (·.1)))) { s with heap := s'.heap, gens := s'.gens, drawn := s'.drawn, toks := s'.toks } :=
    I.call (ch := []) (Un.laidN k nd fr) (I.hok.laidN k fr ⟨hl, out, n, rv, hn⟩) (by rw [g]; exact I.bare) (fun _ z => nomatch z)
  obtain ⟨h', g', d', t', o'⟩ := s'
  cases o
  exact ⟨.ref d, _, J, rfl, q.2.2.2 bs d e hG fr⟩
theorem each_of {α : Type} [OD α] {pins : List (Addr × Obj)} {σ : L2.St} {H : Hp} {s : Shared} (I : Inv X pins σ H s) : ∀ {bs cs : List (V × α)} {us : List Value}, Vals (bs.map (·.1)) us → (∀ b ∈ bs, b ∈ cs ∧ Dp X.K H b.1 (toPy (OD.enc b.2))) → PySem.W.EachIs (ItIs (· ∈ cs) s.heap) us bs
  | [], _, _, .nil, _ => .nil
  | b :: bs, cs, u :: us, .cons r t, h => .cons ⟨⟨r, (h b (by simp)).1⟩, Dp.reads I _ _ _ (h b (by simp)).2 r⟩ (each_of I t fun x hx => h x (by simp [hx]))
theorem cr_srtS (hu : X.A.units + 64 < cLine) : CallR X (.builtin "sorted") (rSrtS X.K) := by
  rintro pins s σ H vs us Q I r ⟨α, _, l, bs, rfl, hs, hd, q⟩
  rw [Vals.ref1 r]
  refine sorted_col (G := (· ∈ bs)) (bs.map (·.2)) q.1 q.2.1 hu q.2.2.1 (fun Q' hQ' => ?_) fun s' d out cs e k hp g o r hn => srt_fin I q e k hp g o r hn
  rcases hs with hs | hs
  · obtain ⟨its, rv, ⟨o, n, ho, hc, _, hd2⟩, hz⟩ := I.list hs
    have rl := rv.length
    refine wpAny_collect_seq l (.inl rfl) ho hc hd2 (fun h' k => hQ' { s with heap := h' } _ bs (.refl _) k rfl rfl (eachIs_keep k (each_of I (by simpa using rv) fun b hb => ⟨hb, hd b hb⟩))) (by rw [List.size_toArray]; omega)
  · obtain ⟨its, rv, ⟨o, ho, hc, n, hd2⟩, hz⟩ := I.tuple hs
    have rl := rv.length
    refine wpAny_collect_seq l (.inr rfl) ho hc hd2 (fun h' k => hQ' { s with heap := h' } _ bs (.refl _) k rfl rfl (eachIs_keep k (each_of I (by simpa using rv) fun b hb => ⟨hb, hd b hb⟩))) (by rw [List.size_toArray]; omega)
theorem cr_srtT (hc : X.calm = true) (hu : X.A.units + 64 < cLine) : CallR X (.builtin "sorted") rSrtT := by
  rintro pins s σ H vs us Q I r ⟨α, _, d, kvs, xs, rfl, hd, ek, q⟩
  rw [Vals.ref1 r]
  have q := q (by
    have z := (show ObjOk X.prog X.w H s.heap d (.dT kvs) from hd.ok I.hok).1
    have := congrArg List.length ek
    rw [List.length_map, List.length_map] at this
    omega)
  refine sorted_col xs q.1 q.2.1 hu q.2.2.1 (fun Q' hQ' => ?_) fun s' d out cs e k hp g o r hn => srt_fin I q e k hp g o r hn
  obtain ⟨z, lo, ks, pr, o, es, ep, ho, hx, hdt, he, hn⟩ := (show ObjOk X.prog X.w H s.heap d (.dT kvs) from hd.ok I.hok)
  have l1 : es.size = ks.length := size_of_entries he
  have l2 : kvs.length = ks.length := Paired.length pr
  refine PySem.W.kdu_collect (A := X.A.in1) (kdl_raw lo hx hdt) (I.ok.hd hc) ho (by omega) fun h' tk acc k it => ?_
  have I1 : Inv X pins σ H { s with heap := h', toks := tk } := I.kept k
  have ea : acc.toList = ks.map fun x => Value.ref x.2.1 := by
    refine List.ext_getElem? fun j => ?_
    rw [List.getElem?_map, Array.getElem?_toList]
    cases hj : acc[j]? with
    | none =>
      have h1 := Array.getElem?_eq_none_iff.mp hj
      have := it.1
      rw [List.getElem?_eq_none (by omega)]
      rfl
    | some v =>
      obtain ⟨en, hen, hv⟩ := it.2 j v hj
      have qe := entry_at he j
      rw [hen] at qe
      obtain ⟨b, hb, e2⟩ := Option.map_eq_some_iff.mp qe.symm
      rw [hb, hv, ← e2]
      rfl
  have step : ∀ {kvs : List (List Key × V)} {ks : List (List Key × Addr × Value)} {xs : List α}, KT H kvs ks → (kvs.map fun p => D.tup (p.1.map keyD)) = xs.map OD.enc →
      ∃ bs : List (V × α), bs.map (·.2) = xs ∧ PySem.W.EachIs (ItIs (fun b => ∃ (a : Addr) (k : List Key), b.1 = .ref a ∧ H a = some (.tup (k.map kV)) ∧ k.length ≤ sizeLine ∧ D.tup (k.map keyD) = OD.enc b.2) h') (ks.map fun x => Value.ref x.2.1) bs := by
    intro kvs ks xs pr
    induction pr generalizing xs with
    | nil =>
      intro e
      cases xs with
      | nil => exact ⟨[], rfl, .nil⟩
      | cons _ _ => cases e
    | @cons p y ps ys h t ih =>
      intro e
      cases xs with
      | nil => cases e
      | cons x xs =>
        obtain ⟨bs, e1, e2⟩ := ih (List.cons.inj e).2
        have e0 : D.tup (p.1.map keyD) = OD.enc x := (List.cons.inj e).1
        obtain ⟨h1, h2, h3⟩ := h
        refine ⟨(V.ref y.2.1, x) :: bs, by rw [List.map_cons, e1], .cons ⟨⟨rfl, y.2.1, p.1, rfl, h2, by have := (show ObjOk X.prog X.w H h' y.2.1 (.tup (p.1.map kV)) from I1.hok _ _ h2).1; rwa [List.length_map] at this, e0⟩, ?_⟩ e2⟩
        obtain ⟨zz, its, rv, o', g1, g2, n', g3⟩ := (show ObjOk X.prog X.w H h' y.2.1 (.tup (p.1.map kV)) from I1.hok _ _ h2)
        have all : ∀ {l : List Key} {us : List Value}, Vals (l.map kV) us → ∃ as, ReadsAll h' us (toPy.toPys (l.map keyD)) as := by
          intro l
          induction l with
          | nil => intro us r; cases r; exact ⟨[], .nil⟩
          | cons k l ihl =>
            intro us r
            cases r with
            | cons r1 r2 =>
              obtain ⟨as, ra⟩ := ihl r2
              cases k with
              | inl i => obtain ⟨tk, rfl⟩ := r1; exact ⟨_, .cons (.int i tk) ra⟩
              | inr x => obtain ⟨tk, rfl⟩ := r1; exact ⟨_, .cons (.str x tk) ra⟩
        obtain ⟨as, ra⟩ := all rv
        refine ⟨as, ?_⟩
        dsimp only
        rw [← e0]
        simp only [toPy]
        exact .tuple g1 g2 g3 (by simpa using ra)
  obtain ⟨bs, e1, e2⟩ := step pr ek
  rw [ea]
  exact hQ' { s with heap := h', toks := tk } _ bs (by rw [e1]) k rfl rfl e2
theorem cr_srtN (hc : X.calm = true) (hu : X.A.units + 64 < cLine) : CallR X (.builtin "sorted") (rSrtN X.K X.w) := by
  rintro pins s σ H vs us Q I r ⟨α, _, a, L, rfl, ha, hd, q⟩
  rw [Vals.ref1 r]
  refine sorted_col (G := fun b => ∃ p ∈ L, b = (V.ref p.1, p.2)) (L.map (·.2)) q.1 q.2.1 hu q.2.2.1 (fun Q' hQ' => ?_) fun s' d out cs e k hp g o r hn => srt_fin I q e k hp g o r hn
  obtain ⟨es, ep, t, ⟨o, ho, hex, hdat⟩, he, T, nd, pl, ld, rm, few⟩ := (I.hok a _ ha).1
  have sz := ents_size he
  rw [List.length_map] at sz few rm
  refine collect_set (A := X.A.in1) (I.ok.hd hc) ⟨o, ho, hex.1, hdat⟩ (fits_of T (by rw [sz, List.length_map, List.length_map]) (by rw [List.length_map, List.length_map]; omega)) (by unfold scanBound; omega) T.ris ld fun s1 vs k1 z1 g1 o1 pm => ?_
  have hes : es.toList.map (·.2) = L.map fun p => Value.ref p.1 := by
    rw [he, entsOf, List.map_map, List.map_map]
    rfl
  rw [hes] at pm
  obtain ⟨L', pL, rfl⟩ := DLS.perm_back pm L rfl
  refine hQ' s1 _ (L'.map fun p => (V.ref p.1, p.2)) (by rw [List.map_map]; exact pL.map _) k1 g1 o1 (eachIs_keep k1 ?_)
  have all : ∀ M : List (Addr × α), (∀ p ∈ M, p ∈ L) → PySem.W.EachIs (ItIs (fun b => ∃ p ∈ L, b = (V.ref p.1, p.2)) s.heap) (M.map fun p => Value.ref p.1) (M.map fun p => (V.ref p.1, p.2)) := by
    intro M
    induction M with
    | nil => intro _; exact .nil
    | cons p M ih => exact fun h => .cons ⟨⟨rfl, p, h p (by simp), rfl⟩, Dp.reads I _ _ _ (hd p (h p (by simp))) rfl⟩ (ih fun x hx => h x (by simp [hx]))
  exact all L' fun p hp => pL.mem_iff.mp hp
theorem cr_setN (hc : X.calm = true) (hu : X.A.units + 64 < cLine) : CallR X (.type "set") (rSetN X.K X.w) := by
  rintro pins s σ H vs us Q I r ⟨α, _, l, ks, rfl, hs, hd, dp8, hz, q⟩
  rw [Vals.ref1 r]
  have inj : ∀ {p q : Addr × α}, nkD (OD.enc p.2) = nkD (OD.enc q.2) → p.2 = q.2 := fun h => OD.inj (nkD_inj (OD.num _) (OD.num _) h)
  have isk : ∀ p ∈ ks.map (fun p => (p.1, nkD (OD.enc p.2))), IsK s.heap p.2 p.1 := fun p hp => by
    obtain ⟨x, hx, rfl⟩ := List.mem_map.mp hp
    obtain ⟨as, rd⟩ := Dp.reads I _ _ _ (hd x hx) (show RelV (.ref x.1) (.ref x.1) from rfl)
    obtain ⟨a1, a2, a3⟩ := reads_key (numD_mono dp8 (OD.num x.2)) rd
    exact ⟨a1, a2, a3⟩
  have seq : ∃ items : Array Value, (s.heap.IsList l items ∨ s.heap.IsTuple l items) ∧ items.toList = ks.map fun p => Value.ref p.1 := by
    rcases hs with hs | hs
    · obtain ⟨its, rv, pl, _⟩ := I.list hs
      exact ⟨its.toArray, .inl pl.isList, by simpa using refs_ofA rv⟩
    · obtain ⟨its, rv, ⟨o, ho, hc, n, hd2⟩, _⟩ := I.tuple hs
      exact ⟨its.toArray, .inr ⟨o, ho, hc, n, hd2⟩, by simpa using refs_ofA rv⟩
  obtain ⟨items, hl, hit⟩ := seq
  refine call_setN (ks.map fun p => (p.1, nkD (OD.enc p.2))) (I.ok.hd hc) hl (by rw [hit, List.map_map]; rfl) isk (by rw [List.length_map]; exact hz) (by omega) fun h' tk L es ep t R g k => ?_
  obtain ⟨L', hL', hsub⟩ : ∃ L' : List (Addr × α), L = L'.map (fun p => (p.1, nkD (OD.enc p.2))) ∧ ∀ p ∈ L', p ∈ ks := by
    have sub : ∀ p ∈ L, p ∈ ks.map (fun p => (p.1, nkD (OD.enc p.2))) := fun p hp => List.mem_of_mem_take (g.sub p hp)
    clear g R
    induction L with
    | nil => exact ⟨[], rfl, fun _ h => nomatch h⟩
    | cons p L ih =>
      obtain ⟨M, e, hm⟩ := ih fun x hx => sub x (by simp [hx])
      obtain ⟨x, hx, ex⟩ := List.mem_map.mp (sub p (by simp))
      exact ⟨x :: M, by rw [List.map_cons, ← e, ex], fun y hy => by
        rcases List.mem_cons.mp hy with z | z
        · rw [z]; exact hx
        · exact hm y z⟩
  subst hL'
  have hn : H s.heap.objs.size = none := I.hok.fresh (Nat.le_refl _)
  refine ⟨.ref s.heap.objs.size, upd H s.heap.objs.size (SetNO X.w s.heap.objs.size (L'.map fun p => (p.1, nkD (OD.enc p.2)))), I.laid (t' := tk) k (Nat.le_refl _) ?_, rfl, q _ L' hn hsub (fun p hp => ?_) ?_⟩
  · have obk : ∃ o, h'.get? s.heap.objs.size = some o ∧ o.ExactSet ∧ o.data = .set es ep t := R.ob
    refine ⟨⟨es, ep, t, R.ob, R.ents, R.tab, R.nd, R.plain, R.led, R.room, R.few⟩, ⟨_, obk.choose_spec.1⟩, fun h1 h2 p k => ?_⟩
    obtain ⟨es', ep', t', ⟨o', ho', r'⟩, q'⟩ := p
    exact ⟨es', ep', t', ⟨o', k o' ho', r'⟩, q'⟩
  · have q := g.all (p.1, nkD (OD.enc p.2)) (by rw [List.take_length]; exact List.mem_map.mpr ⟨p, hp, rfl⟩)
    rw [List.map_map] at q
    obtain ⟨y, hy, e⟩ := List.mem_map.mp q
    exact List.mem_map.mpr ⟨y, hy, inj e⟩
  · have nd := R.nd
    rw [List.map_map] at nd
    refine List.Pairwise.map _ (fun a b h e => ?_) (List.pairwise_map.mp nd)
    exact h (congrArg (fun z => nkD (OD.enc z)) e)
theorem cr_lenN : CallR X (.builtin "len") (rLenN X.w) := by
  rintro pins s σ H vs us Q I r ⟨a, L, rfl, ha, q⟩
  rw [Vals.ref1 r]
  obtain ⟨es, ep, t, ⟨o, ho, hex, hdat⟩, he, T, nd, pl, ld, rm, few⟩ := (I.hok a _ ha).1
  have sz := ents_size he
  exact call_len_set ho hex hdat (fits_of T (by rw [sz, List.length_map]) (by rw [List.length_map]; omega)) (by rw [sz]; omega) ⟨.int L.length, H, I.tok _, ⟨_, by rw [sz]⟩, q⟩
end
section
variable {c : Cfg} {Av : Addr → Prop} {H : Hp}
theorem RepL.zipO {α : Type} [OD α] : ∀ {xs : List α} {vs : List V}, RepL c Av H vs (xs.map OD.enc) → ∃ bs : List (V × α), vs = bs.map (·.1) ∧ bs.map (·.2) = xs ∧ ∀ b ∈ bs, Rep c Av H b.1 (OD.enc b.2)
  | [], _, .nil => ⟨[], rfl, rfl, fun _ h => nomatch h⟩
  | x :: xs, _, .cons (v := v) r t => by
    obtain ⟨bs, e1, e2, h⟩ := RepL.zipO t
    exact ⟨(v, x) :: bs, by rw [e1]; rfl, by rw [List.map_cons, e2], fun b hb => by
      rcases List.mem_cons.mp hb with z | z
      · rw [z]; exact r
      · exact h b z⟩
theorem RepL.ofO {α : Type} [OD α] : ∀ {bs : List (V × α)}, (∀ b ∈ bs, Rep c Av H b.1 (OD.enc b.2)) → RepL c Av H (bs.map (·.1)) ((bs.map (·.2)).map OD.enc)
  | [], _ => .nil
  | b :: bs, h => .cons (h b (by simp)) (RepL.ofO fun x hx => h x (by simp [hx]))
theorem RepL.keys : ∀ (k : List Key), RepL c Av H (k.map kV) (k.map keyD)
  | [] => .nil
  | .inl i :: k => .cons (.int i) (RepL.keys k)
  | .inr x :: k => .cons (.str x) (RepL.keys k)
theorem Rep.dpO {α : Type} [OD α] {v : V} {a : α} (r : Rep c Av H v (OD.enc a)) : Dp c.K H v (toPy (OD.enc a)) := Rep.dp _ _ _ (numD_ok (OD.num a)) r
end
def dSrt (ds : List D) (R : D → Prop) : Prop := oneD ds fun x => ∃ (α : Type) (_ : OD α) (xs : List α), (x = .lst (xs.map OD.enc) ∨ x = .tup (xs.map OD.enc) ∨ ∃ ks es, x = .dT ks es ∧ (ks.map fun k => D.tup (k.map keyD)) = xs.map OD.enc) ∧ (∀ a ∈ xs, OD.ok a) ∧ OD.dp α ≤ 8 ∧ R (.lst ((osrt xs).map OD.enc))
theorem c_srt {K : PySem.W.Frag} : CL K (fun vs H Q => rSrtS K vs H Q ∨ rSrtT vs H Q) .fresh dSrt := fun c own A σ ρ H vs ds R Q hk E r g q => by
  obtain ⟨x, rfl, g⟩ := oneD_iff g
  obtain ⟨α, _, xs, g, ok, dp8, g9⟩ := g
  match r with
  | .cons r1 .nil =>
    have fin : ∀ (bs : List (V × α)) (p : Addr), bs.map (·.2) = osrt xs → xs.length ≤ sizeLine → (∀ b ∈ bs, Rep c (Avd c own A σ ρ) H b.1 (OD.enc b.2)) → H p = none → Q (.ref p) (upd H p (.lst (bs.map (·.1)))) := fun bs p e hz hr hp => by
      refine q c (.ref p) _ (.lst ((osrt xs).map OD.enc)) (.one E.fok hp) (Fr.newL E hp ?_ ?_) g9
      · have := congrArg List.length e
        rw [osrt_len, List.length_map] at this
        rw [List.length_map, this]
        exact hz
      · rw [← e]
        exact RepL.ofO hr
    rcases g with rfl | rfl | ⟨ks, es, rfl, ek⟩
    · obtain ⟨a, us, rfl, z, h, rl⟩ := RepW.lst r1
      obtain ⟨bs, rfl, rfl, hr⟩ := RepL.zipO rl
      rw [List.length_map] at z
      exact .inl ⟨α, _, a, bs, rfl, .inl (.inl (.inl h)), fun b hb => hk ▸ (hr b hb).dpO, by rwa [List.length_map], ok, dp8, fun cs p e hG hp => fin cs p e (by rwa [List.length_map]) (fun b hb => hr b (hG b hb)) hp⟩
    · obtain ⟨a, us, rfl, n, rl⟩ := RepW.tup r1
      obtain ⟨bs, rfl, rfl, hr⟩ := RepL.zipO rl
      have z := n.1
      rw [List.length_map] at z
      exact .inl ⟨α, _, a, bs, rfl, .inr (hk ▸ n.sq), fun b hb => hk ▸ (hr b hb).dpO, by rwa [List.length_map], ok, dp8, fun cs p e hG hp => fin cs p e (by rwa [List.length_map]) (fun b hb => hr b (hG b hb)) hp⟩
    · obtain ⟨a, us, rfl, el, h, rl⟩ := RepW.dT r1
      refine .inr ⟨α, _, a, ks.zip us, xs, rfl, .inl h, ?_, fun hz => ⟨hz, ok, dp8, fun cs p e hG hp => fin cs p e hz (fun b hb => ?_) hp⟩⟩
      · rw [← ek]
        rw [show (fun p : List Key × V => D.tup (p.1.map keyD)) = (fun k : List Key => D.tup (k.map keyD)) ∘ (fun p => p.1) from rfl, ← List.map_map, List.map_fst_zip (by omega)]
      · obtain ⟨b', k, e1, e2, e3, e4⟩ := hG b hb
        rw [e1, ← e4]
        exact .tup ⟨by rw [List.length_map]; exact e3, E.tup_free e2, e2⟩ (RepL.keys k)
theorem b_srt {X : Cx} {k : Nat} (hc : X.calm = true) (hr : Room k X.A) : CallR X (.builtin "sorted") (fun vs H Q => rSrtS X.K vs H Q ∨ rSrtT vs H Q) := (cr_srtS hr.units).or (cr_srtT hc hr.units)
def setSrc (x : D) (f : ∀ (α : Type) [OD α], List α → Prop) : Prop := ∃ (α : Type) (_ : OD α) (xs : List α), (x = .lst (xs.map OD.enc) ∨ x = .tup (xs.map OD.enc)) ∧ (∀ a ∈ xs, ∃ ds, OD.enc a = .tup ds) ∧ OD.dp α ≤ 8 ∧ xs.length ≤ 2000 ∧ f α xs
def dSrtU (x : D) (R : D → Prop) : Prop := setSrc x fun α _ xs => (∀ a ∈ xs, OD.ok a) ∧ R (.lst ((osrtU xs).map OD.enc))
def dLenU (x : D) (R : D → Prop) : Prop := setSrc x fun α _ xs => R (.int (osrtU xs).length)
section
variable {c : Cfg} {Av : Addr → Prop} {H : Hp}
theorem RepL.zipR {α : Type} [OD α] : ∀ {xs : List α} {vs : List V}, (∀ a ∈ xs, ∃ ds, OD.enc a = D.tup ds) → RepL c Av H vs (xs.map OD.enc) → ∃ bs : List (Addr × α), vs = bs.map (fun p => V.ref p.1) ∧ bs.map (·.2) = xs ∧ ∀ b ∈ bs, Rep c Av H (.ref b.1) (OD.enc b.2)
  | [], _, _, .nil => ⟨[], rfl, rfl, fun _ h => nomatch h⟩
  | x :: xs, _, ht, .cons (v := v) r t => by
    obtain ⟨bs, e1, e2, h⟩ := RepL.zipR (fun a ha => ht a (by simp [ha])) t
    obtain ⟨ds, ed⟩ := ht x (by simp)
    have ⟨a, ea⟩ : ∃ a, v = .ref a := by
      rw [ed] at r
      cases r
      exact ⟨_, rfl⟩
    subst ea
    exact ⟨(a, x) :: bs, by rw [e1]; rfl, by rw [List.map_cons, e2], fun b hb => by
      rcases List.mem_cons.mp hb with z | z
      · rw [z]; exact r
      · exact h b z⟩
end
theorem set_src {X : Cx} {own : List Nat} {c1 : Cfg} {A : Addr → Prop} {σ : L2.St} {ρ : PEnv} {H1 : Hp} {v : V} {x : D} {f : ∀ (α : Type) [OD α], List α → Prop} {Q : VK} (ek : c1.K = X.K) (r1 : RepW c1 own A σ ρ H1 v x) (g : setSrc x f)
    (hQ : ∀ (α : Type) (_ : OD α) (xs : List α) (S : Addr) (L : List (Addr × α)), OD.dp α ≤ 8 → f α xs → xs.length ≤ 2000 → H1 S = none → (∀ p ∈ L, Rep c1 (Avd c1 own A σ ρ) H1 (.ref p.1) (OD.enc p.2)) → (L.map (·.2)).Nodup → (∀ y, y ∈ L.map (·.2) ↔ y ∈ xs) → Q (.ref S) (upd H1 S (SetNO X.w S (L.map fun p => (p.1, nkD (OD.enc p.2)))))) : rSetN X.K X.w [v] H1 Q := by
  obtain ⟨α, _, xs, g, ht, dp8, hz, gf⟩ := g
  have out : ∀ bs : List (Addr × α), bs.map (·.2) = xs → (∀ b ∈ bs, Rep c1 (Avd c1 own A σ ρ) H1 (.ref b.1) (OD.enc b.2)) → ∀ (a : Addr) (L : List (Addr × α)), H1 a = none → (∀ p ∈ L, p ∈ bs) → (∀ p ∈ bs, p.2 ∈ L.map (·.2)) → (L.map (·.2)).Nodup → Q (.ref a) (upd H1 a (SetNO X.w a (L.map fun p => (p.1, nkD (OD.enc p.2))))) := fun bs e hr a L ha hs hall nd =>
    hQ α _ xs a L dp8 gf hz ha (fun p hp => hr p (hs p hp)) nd fun y => ⟨fun hy => by
      obtain ⟨p, hp, rfl⟩ := List.mem_map.mp hy
      rw [← e]
      exact List.mem_map.mpr ⟨p, hs p hp, rfl⟩, fun hy => by
      rw [← e] at hy
      obtain ⟨p, hp, rfl⟩ := List.mem_map.mp hy
      exact hall p hp⟩
  rcases g with rfl | rfl
  · obtain ⟨a, us, rfl, z, h, rl⟩ := RepW.lst r1
    obtain ⟨bs, rfl, e, hr⟩ := RepL.zipR ht rl
    have hz' : bs.length ≤ 2000 := by rw [← e, List.length_map] at hz; exact hz
    exact ⟨α, _, a, bs, rfl, .inl (.inl (.inl h)), fun p hp => ek ▸ (hr p hp).dpO, dp8, hz', out bs e hr⟩
  · obtain ⟨a, us, rfl, n, rl⟩ := RepW.tup r1
    obtain ⟨bs, rfl, e, hr⟩ := RepL.zipR ht rl
    have hz' : bs.length ≤ 2000 := by rw [← e, List.length_map] at hz; exact hz
    exact ⟨α, _, a, bs, rfl, .inr (ek ▸ n.sq), fun p hp => ek ▸ (hr p hp).dpO, dp8, hz', out bs e hr⟩
theorem osrt_nd {α : Type} [OD α] {L xs : List α} (nd : L.Nodup) (h : ∀ y, y ∈ L ↔ y ∈ xs) : osrt L = osrtU xs := osrtU_uniq (osrt_lt nd) fun y => mem_osrt.trans (h y)
theorem lift_srtU {X : Cx} {own : List Nat} {p : TED} : ∀ σ H Q, lift X.K own .fresh (p1 dSrtU p) σ H Q → tCB (rSrtN X.K X.w) (tCons (tCB (rSetN X.K X.w) (tCons (lift X.K own .weak p) tNil)) tNil) σ H Q := fun σ H Q ⟨c, A, ρ, R, hk, E, hp, f⟩ => ⟨c, A, ρ, _, hk, E, hp, fun c1 v H1 d t1 r1 g1 => by
  have ek : c1.K = X.K := t1.kk.trans hk
  show rSetN X.K X.w [v] H1 (fun x H2 => rSrtN X.K X.w [x] H2 Q)
  refine set_src ek r1 g1 fun α _ xs S L dp8 ⟨ok, g⟩ hz hS hr nd hm => ?_
  have t2 : Step c H c1 (upd H1 S (SetNO X.w S (L.map fun p => (p.1, nkD (OD.enc p.2))))) := t1.more hS
  have mv : ∀ b o, ¬ Avd c1 own A σ ρ b → H1 b = some o → ¬ Avd c1 own A σ ρ b ∧ upd H1 S (SetNO X.w S (L.map fun p => (p.1, nkD (OD.enc p.2)))) b = some o := fun b o n e => ⟨n, by rw [upd_ne (ne_of_none e hS)]; exact e⟩
  have hr2 : ∀ p ∈ L, Rep c1 (Avd c1 own A σ ρ) (upd H1 S (SetNO X.w S (L.map fun p => (p.1, nkD (OD.enc p.2))))) (.ref p.1) (OD.enc p.2) := fun p hp => Rep.mv rfl (fun _ _ z => z) mv _ _ (hr p hp)
  have e := osrt_nd nd hm
  have hl : (osrtU xs).length ≤ 2000 := Nat.le_trans (osrtU_len xs) hz
  have hL : L.length = (osrtU xs).length := by rw [← e, osrt_len, List.length_map]
  refine ⟨α, _, S, L, rfl, upd_same, fun p hp => ek ▸ (hr2 p hp).dpO, (by rw [List.length_map, sizeLine_eq]; omega), fun a ha => ok a ((hm a).mp ha), dp8, fun bs q eb hG hq => ?_⟩
  rw [e] at eb
  refine f c1 (.ref q) _ (.lst ((osrtU xs).map OD.enc)) (t2.more hq) (Fr.back t2 (Fr.newL (E.step t2) hq ?_ ?_)) g
  · have := congrArg List.length eb
    rw [List.length_map] at this ⊢
    rw [sizeLine_eq]; omega
  · rw [← eb]
    refine RepL.ofO fun b hb => ?_
    obtain ⟨p, hp, rfl⟩ := hG b hb
    exact hr2 p hp⟩
theorem lift_lenU {X : Cx} {own : List Nat} {p : TED} : ∀ σ H Q, lift X.K own .strong (p1 dLenU p) σ H Q → tCB (rLenN X.w) (tCons (tCB (rSetN X.K X.w) (tCons (lift X.K own .weak p) tNil)) tNil) σ H Q := fun σ H Q ⟨c, A, ρ, R, hk, E, hp, f⟩ => ⟨c, A, ρ, _, hk, E, hp, fun c1 v H1 d t1 r1 g1 => by
  have ek : c1.K = X.K := t1.kk.trans hk
  show rSetN X.K X.w [v] H1 (fun x H2 => rLenN X.w [x] H2 Q)
  refine set_src ek r1 g1 fun α _ xs S L dp8 g hz hS hr nd hm => ?_
  refine ⟨S, _, rfl, upd_same, ?_⟩
  have e := osrt_nd nd hm
  have hL : ((L.map fun p => (p.1, nkD (OD.enc p.2))).length : Int) = (osrtU xs).length := by rw [List.length_map, ← e, osrt_len, List.length_map]
  rw [hL]
  exact f c1 _ _ _ (t1.more hS) (.int _) g⟩
section
variable {X : Cx} {own : List Nat} {e : Expr} {p : TED} {k : Nat} {pn p2 pos pos2 : Pos}
theorem e_srtU (hc : X.calm = true) (hr : Room k X.A) (hm : X.mg "sorted" = none) (hm2 : X.mg "set" = none) (he : PE X e (lift X.K own .weak p)) (hg : Gl X "sorted" := by rfl) (hg2 : Gl X "set" := by rfl)
    (hs : starEach [e] X.env = (false, eval e X.env) :: starEach [] X.env := by rfl)
    (hs2 : starEach [.Call (.Name "set" p2) [e] [] pos2] X.env = (false, eval (.Call (.Name "set" p2) [e] [] pos2) X.env) :: starEach [] X.env := by rfl) :
    PE X (.Call (.Name "sorted" pn) [.Call (.Name "set" p2) [e] [] pos2] [] pos) (lift X.K own .fresh (p1 dSrtU p)) :=
  pe_imp (pe_callB (cr_srtN hc hr.units) hg hm (by decide +kernel) (pa_cons (pe_callTy (cr_setN hc hr.units) hg2 hm2 (by decide +kernel) (pa_cons he pa_nil hs) (by decide) (by decide) hs rfl) pa_nil hs2) (by decide) (by decide) hs2 rfl) lift_srtU
theorem e_lenU (hc : X.calm = true) (hr : Room k X.A) (hm : X.mg "len" = none) (hm2 : X.mg "set" = none) (he : PE X e (lift X.K own .weak p)) (hg : Gl X "len" := by rfl) (hg2 : Gl X "set" := by rfl)
    (hs : starEach [e] X.env = (false, eval e X.env) :: starEach [] X.env := by rfl)
    (hs2 : starEach [.Call (.Name "set" p2) [e] [] pos2] X.env = (false, eval (.Call (.Name "set" p2) [e] [] pos2) X.env) :: starEach [] X.env := by rfl) :
    PE X (.Call (.Name "len" pn) [.Call (.Name "set" p2) [e] [] pos2] [] pos) (lift X.K own .strong (p1 dLenU p)) :=
  pe_imp (pe_callB cr_lenN hg hm (by decide +kernel) (pa_cons (pe_callTy (cr_setN hc hr.units) hg2 hm2 (by decide +kernel) (pa_cons he pa_nil hs) (by decide) (by decide) hs rfl) pa_nil hs2) (by decide) (by decide) hs2 rfl) lift_lenU
end
end DL

set_option Elab.async false
set_option linter.all false
set_option maxRecDepth 100000
set_option maxHeartbeats 4000000
namespace DL
open PySem PySem.Spec PyProof.Rows L2
section
variable {κ : Type} [DecidableEq κ]
def putKs (ks : List κ) (k : κ) : List κ := if k ∈ ks then ks else ks ++ [k]
def putVs {α : Type} (ks : List κ) (vs : List α) (k : κ) (v : α) : List α := if k ∈ ks then (ks.zip vs).map fun p => if p.1 = k then v else p.2 else vs ++ [v]
def lookK {α : Type} (ks : List κ) (vs : List α) (k : κ) : Option α := ((ks.zip vs).find? fun p => decide (p.1 = k)).map (·.2)
def memK (ks : List κ) (k : κ) : Bool := decide (k ∈ ks)
theorem memK_iff {ks : List κ} {k : κ} : memK ks k = true ↔ k ∈ ks := decide_eq_true_iff
theorem putVs_len {α : Type} {ks : List κ} {vs : List α} {k : κ} {v : α} (h : ks.length = vs.length) : (putKs ks k).length = (putVs ks vs k v).length := by
  unfold putKs putVs
  split
  · rw [List.length_map, List.length_zip]; omega
  · simp [h]
theorem any_mem {ks : List κ} {vs : List V} {k : κ} (h : ks.length = vs.length) : ((ks.zip vs).any fun kv => decide (kv.1 = k)) = decide (k ∈ ks) := by
  induction ks generalizing vs with
  | nil => rfl
  | cons a ks ih =>
    cases vs with
    | nil => cases h
    | cons v vs =>
      rw [List.zip_cons_cons, List.any_cons, ih (Nat.succ.inj h)]
      by_cases e : a = k
      · subst e; simp
      · have : k ≠ a := fun z => e z.symm
        simp [e, this]
theorem putK_zip {ks : List κ} {vs : List V} {k : κ} {v : V} (h : ks.length = vs.length) : putK (ks.zip vs) k v = (putKs ks k).zip (putVs ks vs k v) := by
  unfold putK putKs putVs
  rw [any_mem h]
  by_cases e : k ∈ ks
  · simp only [e, decide_true, if_true]
    clear e
    induction ks generalizing vs with
    | nil => rfl
    | cons a ks ih =>
      cases vs with
      | nil => cases h
      | cons w vs =>
        simp only [List.zip_cons_cons, List.map_cons]
        rw [ih (Nat.succ.inj h)]
        by_cases e : a = k <;> simp [e]
  · simp only [e, decide_false, Bool.false_eq_true, if_false]
    rw [List.zip_append h]
    rfl
end
def kT (ks : List Key) : D := .tup (ks.map keyD)
section
variable {c : Cfg} {Av : Addr → Prop} {H : Hp}
theorem RepL.keysOf : ∀ {k : List Key} {vs : List V}, RepL c Av H vs (k.map keyD) → vs = k.map kV
  | [], _, .nil => rfl
  | .inl i :: k, _, .cons r t => by cases r; rw [RepL.keysOf t]; rfl
  | .inr x :: k, _, .cons r t => by cases r; rw [RepL.keysOf t]; rfl
theorem RepL.look {κ : Type} [DecidableEq κ] {k : κ} : ∀ {ks : List κ} {vs : List V} {ds : List D} {d : D}, RepL c Av H vs ds → lookK ks ds k = some d → ∃ v, valV (ks.zip vs) k = some v ∧ Rep c Av H v d
  | [], _, _, _, _, h => by simp [lookK] at h
  | a :: ks, _, _, _, .nil, h => by simp [lookK] at h
  | a :: ks, _, _, d, .cons (v := v) r t, h => by
    by_cases e : a = k
    · have h' := (by simpa [lookK, e] using h : _ = d)
      subst h'
      exact ⟨v, by rw [List.zip_cons_cons]; exact valV_pos e, r⟩
    · obtain ⟨u, h1, h2⟩ := RepL.look (k := k) (ks := ks) t (by simpa [lookK, e] using h)
      exact ⟨u, by rw [List.zip_cons_cons, valV_neg e]; exact h1, h2⟩
theorem valV_some {κ : Type} [DecidableEq κ] {ks : List κ} {vs : List V} {k : κ} (h : ks.length = vs.length) : (valV (ks.zip vs) k).isSome = memK ks k := by rw [← valV_any, any_mem h]; rfl
theorem RepL.put {κ : Type} [DecidableEq κ] {k : κ} {v : V} {d : D} (r : Rep c Av H v d) : ∀ {ks : List κ} {vs : List V} {ds : List D}, RepL c Av H vs ds → RepL c Av H (putVs ks vs k v) (putVs ks ds k d) := by
  intro ks vs ds t
  unfold putVs
  split
  · rename_i hk
    clear hk
    induction vs generalizing ks ds with
    | nil => cases t; rw [List.zip_nil_right, List.zip_nil_right]; exact .nil
    | cons u us ih =>
      cases t with
      | cons r1 t =>
        cases ks with
        | nil => exact .nil
        | cons a ks =>
          simp only [List.zip_cons_cons, List.map_cons]
          refine .cons ?_ (ih t)
          split
          · exact r
          · exact r1
  · exact t.append (.cons r .nil)
end
def rDIn : R2 := fun x y H Q => ∃ a o, y = .ref a ∧ DGet H a x o ∧ Q (.bl o.isSome) H
def rDNotIn : R2 := fun x y H Q => ∃ a o, y = .ref a ∧ DGet H a x o ∧ Q (.bl (!o.isSome)) H
def rDIx : R2 := fun x y H Q => ∃ a v, x = .ref a ∧ DGet H a y (some v) ∧ Q v H
section
variable {X : Cx}
theorem op_din (hu : X.A.units + 1 < cLine) : OpR X (compareOp .In) rDIn := by
  rintro pins s σ H x y v u Q I rx ry ⟨a, o, rfl, g, q⟩
  cases ry
  exact d_in hu I g rx fun s' I' => ⟨.bl _, H, I', rfl, q⟩
theorem op_dnotIn (hu : X.A.units + 1 < cLine) : OpR X (compareOp .NotIn) rDNotIn := by
  rintro pins s σ H x y v u Q I rx ry ⟨a, o, rfl, g, q⟩
  cases ry
  exact d_notIn hu I g rx fun s' I' => ⟨.bl _, H, I', rfl, q⟩
theorem ix_dict (hu : X.A.units + 1 < cLine) : IxR X rDIx := by
  rintro value slice pins s σ H x y v u Q I rx ry ⟨a, w, rfl, g, q⟩ hs
  cases rx
  have ht : s.TypeIs (.ref a) "dict" := by
    rcases g with ⟨kvs, k, e, _⟩ | ⟨kvs, k, b, e, _⟩
    · obtain ⟨z, hd, vs, rel, dd⟩ := dk_rd I.hok e
      exact dd.mapOf.typeIs
    · obtain ⟨z, hd, xs, rel, dd⟩ := dt_rd I.hok e
      exact dd.typeIs
  exact tail_any ht slot_dict_getitem.lookup (d_getItem hu I g ry fun w' s' I' r' => ⟨w, H, I', r', q⟩) hs
end
def dHas (x y : D) (f : Bool → Prop) : Prop := match y with
  | .dT ks _ => ∃ k : List Key, x = kT k ∧ f (memK ks k)
  | .dK ks _ => ∃ k : Key, x = keyD k ∧ f (memK ks k)
  | _ => False
def dGetD (x y : D) (R : D → Prop) : Prop := match x with
  | .dT ks ds => ∃ (k : List Key) (d : D), y = kT k ∧ lookK ks ds k = some d ∧ R d
  | .dK ks ds => ∃ (k : Key) (d : D), y = keyD k ∧ lookK ks ds k = some d ∧ R d
  | _ => False
section
variable {c : Cfg} {own : List Nat} {A : Addr → Prop} {σ : L2.St} {ρ : PEnv} {H : Hp} {v w : V} {d e : D}
theorem RepW.key {k : Key} (r : RepW c own A σ ρ H v (keyD k)) : v = kV k := by
  cases k with
  | inl i => exact RepW.int r
  | inr x => exact RepW.str r
theorem RepW.kT {k : List Key} (r : RepW c own A σ ρ H v (kT k)) : ∃ b, v = .ref b ∧ H b = some (.tup (k.map kV)) := by
  obtain ⟨a, vs, rfl, n, rl⟩ := RepW.tup r
  have := RepL.keysOf rl
  subst this
  exact ⟨a, rfl, n.2.2⟩
theorem RepW.has {f : Bool → Prop} (r1 : RepW c own A σ ρ H v d) (r2 : RepW c own A σ ρ H w e) (g : dHas d e f) : ∃ a o, w = .ref a ∧ DGet H a v o ∧ f o.isSome := by
  cases e with
  | dT ks es =>
    obtain ⟨k, ed, g'⟩ := (show ∃ k : List Key, d = DL.kT k ∧ f (memK ks k) from g)
    subst ed
    obtain ⟨a, us, rfl, hl, h, rl⟩ := RepW.dT r2
    obtain ⟨b, rfl, hb⟩ := RepW.kT r1
    exact ⟨a, _, rfl, DGet.t h hb, by rw [valV_some hl]; exact g'⟩
  | dK ks es =>
    obtain ⟨k, ed, g'⟩ := (show ∃ k : Key, d = keyD k ∧ f (memK ks k) from g)
    subst ed
    obtain ⟨a, us, rfl, hl, h, rl⟩ := RepW.dK r2
    have e := RepW.key r1
    subst e
    exact ⟨a, _, rfl, DGet.k h, by rw [valV_some hl]; exact g'⟩
  | _ => exact g.elim
theorem RepW.getD {R : D → Prop} (r1 : RepW c own A σ ρ H v d) (r2 : RepW c own A σ ρ H w e) (g : dGetD d e R) : ∃ a u d', v = .ref a ∧ DGet H a w (some u) ∧ Rep c (Avd c own A σ ρ) H u d' ∧ R d' := by
  cases d with
  | dT ks ds =>
    obtain ⟨k, d', rfl, hl, g⟩ := (show ∃ (k : List Key) (d' : D), e = DL.kT k ∧ lookK ks ds k = some d' ∧ R d' from g)
    obtain ⟨a, us, rfl, _, h, rl⟩ := RepW.dT r1
    obtain ⟨b, rfl, hb⟩ := RepW.kT r2
    obtain ⟨u, h1, h2⟩ := RepL.look rl hl
    exact ⟨a, u, d', rfl, by rw [← h1]; exact DGet.t h hb, h2, g⟩
  | dK ks ds =>
    obtain ⟨k, d', rfl, hl, g⟩ := (show ∃ (k : Key) (d' : D), e = keyD k ∧ lookK ks ds k = some d' ∧ R d' from g)
    obtain ⟨a, us, rfl, _, h, rl⟩ := RepW.dK r1
    have e := RepW.key r2
    subst e
    obtain ⟨u, h1, h2⟩ := RepL.look rl hl
    exact ⟨a, u, d', rfl, by rw [← h1]; exact DGet.k h, h2, g⟩
  | _ => exact g.elim
end
def dInA (x y : D) (R : D → Prop) : Prop := match y with
  | .lst ds => (okD 60 x = true ∧ okD 60 (.lst ds) = true) ∧ R (.bl (ds.any fun z => eqD z x))
  | .tup ds => (okD 60 x = true ∧ okD 60 (.tup ds) = true) ∧ R (.bl (ds.any fun z => eqD z x))
  | .str j => ∃ i, x = .str i ∧ R (.bl (!(Builtin.Str.occurrences j i 0 j.length 1).isEmpty))
  | y => dHas x y fun b => R (.bl b)
def dNotInA (x y : D) (R : D → Prop) : Prop := match y with
  | .lst ds => (okD 60 x = true ∧ okD 60 (.lst ds) = true) ∧ R (.bl (!ds.any fun z => eqD z x))
  | .tup ds => (okD 60 x = true ∧ okD 60 (.tup ds) = true) ∧ R (.bl (!ds.any fun z => eqD z x))
  | .str j => ∃ i, x = .str i ∧ R (.bl (!(!(Builtin.Str.occurrences j i 0 j.length 1).isEmpty)))
  | y => dHas x y fun b => R (.bl (!b))
def rInA (K : PySem.W.Frag) : R2 := fun x y H Q => ((rInD K x y H Q ∨ rInT K x y H Q) ∨ rDIn x y H Q) ∨ (∃ i j, x = .str i ∧ y = .str j ∧ Q (.bl (!(Builtin.Str.occurrences j i 0 j.length 1).isEmpty)) H)
def rNotInA (K : PySem.W.Frag) : R2 := fun x y H Q => ((rNotInD K x y H Q ∨ rNotInT K x y H Q) ∨ rDNotIn x y H Q) ∨ (∃ i j, x = .str i ∧ y = .str j ∧ Q (.bl (!(!(Builtin.Str.occurrences j i 0 j.length 1).isEmpty))) H)
theorem o_inA {X : Cx} {k : Nat} (hr : Room k X.A) : OpR X (compareOp .In) (rInA X.K) := ((o_in hr).or (op_din (by have := hr.units; omega))).or op_in_str
theorem o_notInA {X : Cx} {k : Nat} (hr : Room k X.A) : OpR X (compareOp .NotIn) (rNotInA X.K) := ((o_notIn hr).or (op_dnotIn (by have := hr.units; omega))).or op_notin_str
theorem c_inA {K : PySem.W.Frag} : C2 K (rInA K) .strong dInA := fun c own A σ ρ H v w d e R Q hk E r1 r2 g q => by
  cases e with
  | lst ds => exact .inl (.inl (c_in c own A σ ρ H v w d (.lst ds) R Q hk E r1 r2 g q))
  | tup ds => exact .inl (.inl (c_in c own A σ ρ H v w d (.tup ds) R Q hk E r1 r2 g q))
  | str j =>
    obtain ⟨i, ed, g'⟩ := (show ∃ i, d = .str i ∧ R (.bl (!(Builtin.Str.occurrences j i 0 j.length 1).isEmpty)) from g)
    subst ed
    have e1 := RepW.str r1
    have e2 := RepW.str r2
    subst e1; subst e2
    exact .inr ⟨i, j, rfl, rfl, q c _ H _ (Step.refl E.fok) (.bl _) g'⟩
  | dT ks es =>
    obtain ⟨a, o, rfl, h, g⟩ := RepW.has r1 r2 (show dHas d (.dT ks es) (fun b => R (.bl b)) from g)
    exact .inl (.inr ⟨a, o, rfl, h, q c _ H _ (Step.refl E.fok) (.bl _) g⟩)
  | dK ks es =>
    obtain ⟨a, o, rfl, h, g⟩ := RepW.has r1 r2 (show dHas d (.dK ks es) (fun b => R (.bl b)) from g)
    exact .inl (.inr ⟨a, o, rfl, h, q c _ H _ (Step.refl E.fok) (.bl _) g⟩)
  | _ => exact g.elim
theorem c_notInA {K : PySem.W.Frag} : C2 K (rNotInA K) .strong dNotInA := fun c own A σ ρ H v w d e R Q hk E r1 r2 g q => by
  cases e with
  | lst ds => exact .inl (.inl (c_notIn c own A σ ρ H v w d (.lst ds) R Q hk E r1 r2 g q))
  | tup ds => exact .inl (.inl (c_notIn c own A σ ρ H v w d (.tup ds) R Q hk E r1 r2 g q))
  | str j =>
    obtain ⟨i, ed, g'⟩ := (show ∃ i, d = .str i ∧ R (.bl (!(!(Builtin.Str.occurrences j i 0 j.length 1).isEmpty))) from g)
    subst ed
    have e1 := RepW.str r1
    have e2 := RepW.str r2
    subst e1; subst e2
    exact .inr ⟨i, j, rfl, rfl, q c _ H _ (Step.refl E.fok) (.bl _) g'⟩
  | dT ks es =>
    obtain ⟨a, o, rfl, h, g⟩ := RepW.has r1 r2 (show dHas d (.dT ks es) (fun b => R (.bl (!b))) from g)
    exact .inl (.inr ⟨a, o, rfl, h, q c _ H _ (Step.refl E.fok) (.bl _) g⟩)
  | dK ks es =>
    obtain ⟨a, o, rfl, h, g⟩ := RepW.has r1 r2 (show dHas d (.dK ks es) (fun b => R (.bl (!b))) from g)
    exact .inl (.inr ⟨a, o, rfl, h, q c _ H _ (Step.refl E.fok) (.bl _) g⟩)
  | _ => exact g.elim
def dIxA (x y : D) (R : D → Prop) : Prop := match x with
  | .dT ks ds => dGetD (.dT ks ds) y R
  | .dK ks ds => dGetD (.dK ks ds) y R
  | x => dIx x y R
def rIxA (K : PySem.W.Frag) : R2 := fun x y H Q => rIx K x y H Q ∨ rDIx x y H Q
theorem IxR.or {X : Cx} {r r' : R2} (h : IxR X r) (h' : IxR X r') : IxR X (fun x y H Q => r x y H Q ∨ r' x y H Q) := fun value slice pins s σ H x y v u Q I rx ry q hs => q.elim (fun q => h value slice pins s σ H x y v u Q I rx ry q hs) (fun q => h' value slice pins s σ H x y v u Q I rx ry q hs)
theorem ix_all {X : Cx} {k : Nat} (hr : Room k X.A) : IxR X (rIxA X.K) := ix_seq.or (ix_dict (by have := hr.units; omega))
theorem c_ixA {K : PySem.W.Frag} : C2 K (rIxA K) .strong dIxA := fun c own A σ ρ H v w d e R Q hk E r1 r2 g q => by
  cases d with
  | dT ks ds =>
    obtain ⟨a, u, d', rfl, h, h2, g⟩ := RepW.getD r1 r2 (show dGetD (.dT ks ds) e R from g)
    exact .inr ⟨a, u, rfl, h, q c u H d' (Step.refl E.fok) h2 g⟩
  | dK ks ds =>
    obtain ⟨a, u, d', rfl, h, h2, g⟩ := RepW.getD r1 r2 (show dGetD (.dK ks ds) e R from g)
    exact .inr ⟨a, u, rfl, h, q c u H d' (Step.refl E.fok) h2 g⟩
  | _ => exact .inl (c_ix c own A σ ρ H v w _ e R Q hk E r1 r2 g q)
end DL

set_option Elab.async false
set_option linter.all false
set_option maxRecDepth 100000
set_option maxHeartbeats 4000000
namespace DL
open PySem PySem.Spec PyProof.Rows L2
theorem pe_or2 {X : Cx} {e : Expr} {t t' : TE} (h : PE X e t) (h' : PE X e t') : PE X e (fun σ H Q => t σ H Q ∨ t' σ H Q) := ⟨fun pins s σ H Q I q => q.elim (h.run pins s σ H Q I) (h'.run pins s σ H Q I)⟩
theorem PSet.or {X : Cx} {r r' : TSet} (h : PSet X r) (h' : PSet X r') : PSet X (fun o i v H Q => r o i v H Q ∨ r' o i v H Q) := fun pins s σ H o i v ov iv u Q I ro ri rv q => q.elim (h pins s σ H o i v ov iv u Q I ro ri rv) (h' pins s σ H o i v ov iv u Q I ro ri rv)
def pNewD : TED := fun _ R => R (.dT [] []) ∨ R (.dK [] [])
theorem e_newD {X : Cx} {own : List Nat} {pos : Pos} : PE X (.Dict [] [] pos) (lift X.K own .fresh pNewD) := pe_imp (pe_or2 pe_dnewT pe_dnewK) fun σ H Q ⟨c, A, ρ, R, hk, E, hp, f⟩ => by
  rcases hp with hp | hp
  · exact .inl fun p np => f c (.ref p) _ _ (.one E.fok np) ⟨p, rfl, np, E.fok.fresh np, .dT (vs := []) rfl upd_same .nil⟩ hp
  · exact .inr fun p np => f c (.ref p) _ _ (.one E.fok np) ⟨p, rfl, np, E.fok.fresh np, .dK (vs := []) rfl upd_same .nil⟩ hp
def sStore (i : Nat) (pk pe : TED) : TSD := fun DD ρ => match ρ[i]? with
  | some (some (.lst ds)) => pe ρ fun d => pk ρ fun k => dInt k fun k => ∃ j, ixN ds.length k = some j ∧ DD.nx (ρ.set i (some (.lst (ds.set j d))))
  | some (some (.dT ks ds)) => pe ρ fun d => pk ρ fun k => ∃ q : List Key, k = kT q ∧ ks.length < sizeLine ∧ DD.nx (ρ.set i (some (.dT (putKs ks q) (putVs ks ds q d))))
  | some (some (.dK ks ds)) => pe ρ fun d => pk ρ fun k => ∃ q : Key, k = keyD q ∧ ks.length < sizeLine ∧ DD.nx (ρ.set i (some (.dK (putKs ks q) (putVs ks ds q d))))
  | _ => False
def rSetA : TSet := fun o i v H Q => rSetL o i v H Q ∨ rSetD o i v H Q
theorem set_all {X : Cx} {k : Nat} (hr : Room k X.A) : PSet X rSetA   := PSet.or set_list (set_dict (by have := hr.units; omega))
section
variable {own : List Nat} {fr : Bool} {ko : Kd} {K : PySem.W.Frag} {pk pe : TED}
theorem own_mut {c c0 : Cfg} {A : Addr → Prop} {σ : L2.St} {ρ : PEnv} {H H0 : Hp} {i : Nat} {a : Addr} {o : HO} {d d' : D} {P : PEnv → Prop} {Q : L2.St → Hp → Prop} (n : Nxt K own fr c0 H0 A P Q) (hk : c.K = K) (t : Step c0 H0 c H) (E : EnvR c own A σ ρ H) (F : OwnF own σ ρ H0)
    (hi : i ∈ own) (e : ρ[i]? = some (some d)) (ha : σ[i]? = some (some (.ref a))) (hs : ¬ c.S a) (r : OwnR c (Avd c own A σ ρ) (upd H a o) a d') (p : P (ρ.set i (some d'))) : Q σ (upd H a o) :=
  n.here hk (t.upd (F a ⟨i, d, hi, e, ha⟩) hs) (E.mutO hi e ha r) (F.mutO e) p
theorem lift_store {i : Nat} (hi : i ∈ own) : ∀ D σ H, liftS K own fr ko (sStore i pk pe) D σ H → tAsg (lift K own .strong pe) (gSub (tVar i) (lift K own .weak pk) rSetA) D σ H := by
  intro DD σ H ⟨c0, H0, A, c, ρ, DD', hk, t, E, F, h, z⟩
  unfold sStore at h
  split at h
  · rename_i ds e
    obtain ⟨a, vs, h1, h2, h3, h4, h5⟩ := ownL_at E hi e
    refine ⟨c, A, ρ, _, hk, E, h, fun c1 v H1 d t1 r1 g1 => ⟨.ref a, h1, c1, A, ρ, _, t1.kk.trans hk, E.step t1, g1, fun c2 w H2 d2 t2 r2 g2 => ?_⟩⟩
    have E1 := E.step t1
    have t12 := t1.trans t2
    obtain ⟨j, ej, k, hj, g3⟩ := dInt_iff g2
    rw [ej] at r2
    have e2 := RepW.int r2
    subst e2
    refine .inl ⟨a, vs, j, k, rfl, rfl, t12.keep a _ h2 h4, by rw [h5.len]; exact hj, ?_⟩
    exact lst_mut z.nx (t12.kk.trans hk) (t.trans t12) (E1.step t2) F hi e h1 (t12.notS h4 h2) (by rw [List.length_set]; exact h3) (RepL.set (Rep.step E1 t2 r1) k (RepL.step E t12 h5)) g3
  · rename_i ks ds e
    obtain ⟨a, h1, h2, h3, h4⟩ := E.ownS i _ e hi
    cases h4 with
    | @dT _ vs _ el hh r =>
      refine ⟨c, A, ρ, _, hk, E, h, fun c1 v H1 d t1 r1 g1 => ⟨.ref a, h1, c1, A, ρ, _, t1.kk.trans hk, E.step t1, g1, fun c2 w H2 d2 t2 r2 g2 => ?_⟩⟩
      have E1 := E.step t1
      have E2 := E1.step t2
      have t12 := t1.trans t2
      obtain ⟨q, rfl, hl, g3⟩ := g2
      obtain ⟨b, rfl, hb⟩ := RepW.kT r2
      have ha2 : H2 a = some (.dT (ks.zip vs)) := t12.keep a _ h3 hh
      have pz := putK_zip (k := q) (v := v) el
      refine .inr ⟨a, _, rfl, DPut.t ha2 hb (by rw [List.length_zip]; omega), ?_⟩
      have m : ∀ x u, ¬ Avd c2 own A σ ρ x → H2 x = some u → ¬ Avd c2 own A σ ρ x ∧ (upd H2 a (.dT (putK (ks.zip vs) q v))) x = some u := fun x u n ex => ⟨n, by rw [upd_ne (fun z => n (by rw [z]; exact .inr (.inr ⟨i, _, hi, e, h1⟩)))]; exact ex⟩
      exact own_mut z.nx (t12.kk.trans hk) (t.trans t12) E2 F hi e h1 (t12.notS hh h3) (.dT (putVs_len el) (by rw [upd_same, pz]) (RepL.mv rfl (fun _ _ z => z) m _ _ (RepL.put (Rep.step E1 t2 r1) (RepL.step E t12 r)))) g3
  · rename_i ks ds e
    obtain ⟨a, h1, h2, h3, h4⟩ := E.ownS i _ e hi
    cases h4 with
    | @dK _ vs _ el hh r =>
      refine ⟨c, A, ρ, _, hk, E, h, fun c1 v H1 d t1 r1 g1 => ⟨.ref a, h1, c1, A, ρ, _, t1.kk.trans hk, E.step t1, g1, fun c2 w H2 d2 t2 r2 g2 => ?_⟩⟩
      have E1 := E.step t1
      have E2 := E1.step t2
      have t12 := t1.trans t2
      obtain ⟨q, rfl, hl, g3⟩ := g2
      have ew := RepW.key r2
      subst ew
      have ha2 : H2 a = some (.dK (ks.zip vs)) := t12.keep a _ h3 hh
      have pz := putK_zip (k := q) (v := v) el
      refine .inr ⟨a, _, rfl, DPut.k ha2 (by rw [List.length_zip]; omega), ?_⟩
      have m : ∀ x u, ¬ Avd c2 own A σ ρ x → H2 x = some u → ¬ Avd c2 own A σ ρ x ∧ (upd H2 a (.dK (putK (ks.zip vs) q v))) x = some u := fun x u n ex => ⟨n, by rw [upd_ne (fun z => n (by rw [z]; exact .inr (.inr ⟨i, _, hi, e, h1⟩)))]; exact ex⟩
      exact own_mut z.nx (t12.kk.trans hk) (t.trans t12) E2 F hi e h1 (t12.notS hh h3) (.dK (putVs_len el) (by rw [upd_same, pz]) (RepL.mv rfl (fun _ _ z => z) m _ _ (RepL.put (Rep.step E1 t2 r1) (RepL.step E t12 r)))) g3
  · exact h.elim
theorem s_store {X : Cx} (i : Nat) {st : Stmt} (h : PS X st (tAsg (lift X.K own .strong pe) (gSub (tVar i) (lift X.K own .weak pk) rSetA))) (hi : i ∈ own := by decide) : PS X st (liftS X.K own fr ko (sStore i pk pe)) := ps_imp h (lift_store hi)
end
def mergeT (kvs : List (Addr × List Key × V)) : List (List Key × V) := kvs.foldl (fun acc p => putK acc p.2.1 p.2.2) []
section
variable {X : Cx}
theorem kt_merge {H : Hp} : ∀ (kvs : List (Addr × List Key × V)) (us : List Value) (acc : List (List Key × V)) (xs : List (List Key × Addr × Value)), KT H acc xs → (∀ p ∈ kvs, H p.1 = some (.tup (p.2.1.map kV))) → Vals (kvs.map fun p => p.2.2) us →
    KT H (kvs.foldl (fun acc p => putK acc p.2.1 p.2.2) acc) (PySem.storedAllH xs ((kvs.zip us).map fun z => (z.1.2.1, z.1.1, z.2)))
  | [], _, _, _, k, _, .nil => k
  | p :: kvs, u :: us, acc, xs, k, h, .cons r t => kt_merge kvs us (putK acc p.2.1 p.2.2) (storedH xs p.2.1 p.1 u) (KT.put k p.2.1 (h p (by simp)) r) (fun q hq => h q (by simp [hq])) t
def rDictT (K : PySem.W.Frag) : List V → Hp → VK → Prop := fun vs H Q => ∃ (a : Addr) (ps : List Addr) (kvs : List (Addr × List Key × V)), vs = [.ref a] ∧ SqL K H a (ps.map V.ref) ∧ Paired (fun p kv => SqT K H p [.ref kv.1, kv.2.2] ∧ H kv.1 = some (.tup (kv.2.1.map kV))) ps kvs ∧
  ∀ p, H p = none → Q (.ref p) (upd H p (.dT (mergeT kvs)))
theorem call_dictT (hc : X.calm = true) (hu : X.A.units + 64 < cLine) : CallR X (.type "dict") (rDictT X.K) := by
  rintro pins s σ H vs us Q I r ⟨a, ps, kvs, rfl, hq, hp, q⟩
  rw [Vals.ref1 r]
  obtain ⟨its, rv, ⟨o, n, ho, hcl, hd, hdat⟩, hz⟩ := I.list hq
  have ei := refs_at rv
  subst ei
  rw [List.length_map] at hz
  have pr : ∀ {ps : List Addr} {kvs : List (Addr × List Key × V)}, Paired (fun p kv => SqT X.K H p [.ref kv.1, kv.2.2] ∧ H kv.1 = some (.tup (kv.2.1.map kV))) ps kvs →
      ∃ us, Vals (kvs.map fun p => p.2.2) us ∧ us.length = ps.length ∧ ps.length = kvs.length ∧ (∀ p ∈ kvs, H p.1 = some (.tup (p.2.1.map kV))) ∧ ∀ (j : Nat) (b : Addr) (kv : Addr × List Key × V) (u : Value), ps[j]? = some b → kvs[j]? = some kv → us[j]? = some u → IsTup s.heap b #[.ref kv.1, u] := by
    intro ps kvs hp
    induction hp with
    | nil => exact ⟨[], .nil, rfl, rfl, fun _ h => (nomatch h), fun j _ _ _ h => by simp at h⟩
    | @cons p kv ps kvs h t ih =>
      obtain ⟨us, r1, l1, l2, hk, hj⟩ := ih
      obtain ⟨its, rv, ht, _⟩ := I.tuple h.1
      obtain ⟨u, y, rfl, ru, ry⟩ := vals2 rv
      cases ru
      refine ⟨y :: us, .cons ry r1, by simp [l1], by simp [l2], fun q hq => ?_, fun j b kv' u' e1 e2 e3 => ?_⟩
      · rcases List.mem_cons.mp hq with z | z
        · rw [z]; exact h.2
        · exact hk q z
      · cases j with
        | zero =>
          simp only [List.getElem?_cons_zero, Option.some.injEq] at e1 e2 e3
          subst e1; subst e2; subst e3
          exact ht
        | succ j => exact hj j b kv' u' (by simpa using e1) (by simpa using e2) (by simpa using e3)
  obtain ⟨us', rvs, l1, l2, hk, hj⟩ := pr hp
  have P := PySem.PairArg.list (prog := X.prog) (w := X.w) a (ps.map Value.ref).toArray (fun j => ps.getD j 0) ((kvs.zip us').map fun z => (Value.ref z.1.1, z.2))
  have hm : (s.heap.objs.size == sysModules) = false := beq_eq_false_iff_ne.mpr (Nat.ne_of_gt I.big)
  have lz : ((kvs.zip us').map fun z => (Value.ref z.1.1, z.2)).length = ps.length := by simp; omega
  have at3 : ∀ j, j < ps.length → ∃ b kv u, ps[j]? = some b ∧ kvs[j]? = some kv ∧ us'[j]? = some u := fun j hj => ⟨_, _, _, List.getElem?_eq_getElem hj, List.getElem?_eq_getElem (by omega), List.getElem?_eq_getElem (by omega)⟩
  refine PySem.call_dict_pairsH (knd := tupleKind (mixKind X.prog X.w)) (ps := (kvs.zip us').map fun z => (z.1.2.1, z.1.1, z.2)) P (I.ok.hd hc) (tupleKind_room_in1 (by simp only [Around.in1_units]; omega)) ⟨⟨o, n, ho, hcl, hd, hdat⟩, ?_, ?_⟩ ⟨by simp, ?_⟩ ?_ (by rw [lz]; exact hz) fun h' tk hd' k => ?_
  · rw [lz]; simp
  · intro j k v e
    have hjl : j < ps.length := by rw [← lz]; exact (List.getElem?_eq_some_iff.mp e).1
    obtain ⟨b, kv, u, e1, e2, e3⟩ := at3 j hjl
    have ez : (kvs.zip us')[j]? = some (kv, u) := by rw [List.getElem?_zip_eq_some]; exact ⟨e2, e3⟩
    rw [List.getElem?_map, ez] at e
    have e' : (Value.ref kv.1, u) = (k, v) := Option.some.inj e
    cases e'
    refine ⟨by simp [e1], .inl ?_⟩
    obtain ⟨o', ho', hc', n', hd'⟩ := hj j b kv _ e1 e2 e3
    show s.heap.IsTuple (ps.getD j 0) _
    rw [List.getD_eq_getElem?_getD, e1]
    exact ⟨o', ho', hc', n', hd'⟩
  · intro i key v e
    have e : ((kvs.zip us').map fun z => (Value.ref z.1.1, z.2))[i]? = some (key, v) := e
    rw [List.getElem?_map] at e
    obtain ⟨z, ez, e'⟩ := Option.map_eq_some_iff.mp e
    cases e'
    exact ⟨z.1.2.1, z.1.1, by rw [List.getElem?_map, ez]; rfl, rfl⟩
  · intro h' kp x hx
    obtain ⟨z, hz, rfl⟩ := List.mem_map.mp hx
    have hmem : z.1 ∈ kvs := (List.of_mem_zip hz).1
    refine PySem.tupleKind_stays.stays (h := s.heap) (fun b o' vs n' e1 _ => kp b o' (Nat.ne_of_lt (Heap.lt_size e1)) (by simp) e1) (key_of I.hok (hk z.1 hmem))
  · have kp : ∀ b o, s.heap.get? b = some o → h'.get? b = some o := fun b o e => k b o (by simp) e
    have fr := I.hok.fresh (Nat.le_refl s.heap.objs.size)
    have kt := kt_merge (H := H) kvs us' [] [] .nil hk rvs
    obtain ⟨q1, es, ep, hq1, h2, h3, h4, hx5, h5⟩ := hd'
    have lm : ∀ (l : List (Addr × List Key × V)) (acc : List (List Key × V)), (l.foldl (fun acc p => putK acc p.2.1 p.2.2) acc).length ≤ acc.length + l.length := by
      intro l
      induction l with
      | nil => intro acc; simp
      | cons p l ih =>
        intro acc
        rw [List.foldl_cons, List.length_cons]
        have := ih (putK acc p.2.1 p.2.2)
        have := length_putK acc p.2.1 p.2.2
        omega
    have hlen : (DL.mergeT kvs).length ≤ sizeLine := by
      have := lm kvs []
      rw [List.length_nil] at this
      show (kvs.foldl _ []).length ≤ _
      omega
    refine ⟨.ref s.heap.objs.size, upd H s.heap.objs.size (.dT (DL.mergeT kvs)), I.laid (t' := tk) kp (Nat.le_refl _) ⟨hlen, hm, _, kt.keeps fun c ys ec => by rw [upd_ne (ne_of_none ec fr)]; exact ec, q1, es, ep, hq1, h2, h3, h4, h5⟩, rfl, q _ fr⟩
end
end DL

set_option Elab.async false
set_option linter.all false
set_option maxRecDepth 100000
set_option maxHeartbeats 4000000
namespace DL
open PySem PySem.Spec PyProof.Rows L2
def foldD {κ : Type} [DecidableEq κ] {α : Type} (ps : List (κ × α)) : List κ × List α := ps.foldl (fun acc p => (putKs acc.1 p.1, putVs acc.1 acc.2 p.1 p.2)) ([], [])
theorem foldD_len {κ : Type} [DecidableEq κ] {α : Type} : ∀ (ps : List (κ × α)) (acc : List κ × List α), acc.1.length = acc.2.length → (ps.foldl (fun acc p => (putKs acc.1 p.1, putVs acc.1 acc.2 p.1 p.2)) acc).1.length = (ps.foldl (fun acc p => (putKs acc.1 p.1, putVs acc.1 acc.2 p.1 p.2)) acc).2.length
  | [], _, h => h
  | p :: ps, acc, h => by
    rw [List.foldl_cons]
    exact foldD_len ps _ (putVs_len h)
theorem mem_putKs {κ : Type} [DecidableEq κ] {ks : List κ} {k x : κ} : x ∈ putKs ks k ↔ x = k ∨ x ∈ ks := by
  unfold putKs
  split
  · exact ⟨.inr, fun h => h.elim (fun e => e ▸ by assumption) id⟩
  · simp [or_comm]
theorem mem_foldD {κ : Type} [DecidableEq κ] {α : Type} {x : κ} : ∀ (ps : List (κ × α)) (acc : List κ × List α), x ∈ (ps.foldl (fun acc p => (putKs acc.1 p.1, putVs acc.1 acc.2 p.1 p.2)) acc).1 ↔ x ∈ acc.1 ∨ x ∈ ps.map (·.1)
  | [], _ => by simp
  | p :: ps, acc => by
    rw [List.foldl_cons, mem_foldD ps, mem_putKs]
    simp only [List.map_cons, List.mem_cons]
    exact ⟨fun h => by rcases h with (h | h) | h <;> simp [h], fun h => by rcases h with h | h | h <;> simp [h]⟩
theorem mem_foldDk {κ : Type} [DecidableEq κ] {α : Type} {x : κ} {ps : List (κ × α)} : x ∈ (foldD ps).1 ↔ x ∈ ps.map (·.1) := by
  unfold foldD
  rw [mem_foldD]
  simp
theorem putKs_nd {κ : Type} [DecidableEq κ] {ks : List κ} {k : κ} (h : ks.Nodup) : (putKs ks k).Nodup := by
  unfold putKs
  split
  · exact h
  · rename_i n
    exact List.nodup_append.mpr ⟨h, by simp, fun a ha b hb e => n (by rw [List.mem_singleton.mp hb] at e; rw [← e]; exact ha)⟩
theorem foldD_nd0 {κ : Type} [DecidableEq κ] {α : Type} : ∀ (ps : List (κ × α)) (acc : List κ × List α), acc.1.Nodup → (ps.foldl (fun acc p => (putKs acc.1 p.1, putVs acc.1 acc.2 p.1 p.2)) acc).1.Nodup
  | [], _, h => h
  | p :: ps, acc, h => by rw [List.foldl_cons]; exact foldD_nd0 ps _ (putKs_nd h)
theorem foldD_nd {κ : Type} [DecidableEq κ] {α : Type} (ps : List (κ × α)) : (foldD ps).1.Nodup := foldD_nd0 ps _ List.nodup_nil
section
variable {c : Cfg} {Av : Addr → Prop} {H : Hp}
theorem foldT {κ : Type} [DecidableEq κ] : ∀ (kvs : List (κ × V)) (ps : List (κ × D)) (ks : List κ) (vs : List V) (ds : List D), kvs.map (·.1) = ps.map (·.1) → RepL c Av H (kvs.map (·.2)) (ps.map (·.2)) → RepL c Av H vs ds → ks.length = vs.length →
    ∃ vs', kvs.foldl (fun acc p => putK acc p.1 p.2) (ks.zip vs) = (ps.foldl (fun acc p => (putKs acc.1 p.1, putVs acc.1 acc.2 p.1 p.2)) (ks, ds)).1.zip vs' ∧ RepL c Av H vs' (ps.foldl (fun acc p => (putKs acc.1 p.1, putVs acc.1 acc.2 p.1 p.2)) (ks, ds)).2 ∧ (ps.foldl (fun acc p => (putKs acc.1 p.1, putVs acc.1 acc.2 p.1 p.2)) (ks, ds)).1.length = vs'.length
  | [], [], ks, vs, ds, _, _, r, h => ⟨vs, rfl, r, h⟩
  | [], _ :: _, _, _, _, e, _, _, _ => by simp at e
  | _ :: _, [], _, _, _, e, _, _, _ => by simp at e
  | p :: kvs, q :: ps, ks, vs, ds, e, r, r0, h => by
    simp only [List.map_cons, List.cons.injEq] at e
    rw [List.map_cons, List.map_cons] at r
    cases r with
    | cons r1 r2 =>
      rw [List.foldl_cons, List.foldl_cons, putK_zip h, e.1]
      exact foldT kvs ps _ _ _ e.2 r2 (RepL.put r1 r0) (putVs_len h)
end
def rDictA (K : PySem.W.Frag) : List V → Hp → VK → Prop := fun vs H Q => rDictT K vs H Q ∨ (∃ (a : Addr) (ps : List Addr) (kvs : List (Key × V)), vs = [.ref a] ∧ SqL K H a (ps.map V.ref) ∧ Paired (fun p kv => SqT K H p [kV kv.1, kv.2]) ps kvs ∧ ∀ p, H p = none → Q (.ref p) (upd H p (.dK (mergeK [] kvs))))
def dDict (xs : List D) (R : D → Prop) : Prop := oneD xs fun x => (∃ ps : List (List Key × D), x = .lst (ps.map fun p => .tup [kT p.1, p.2]) ∧ R (.dT (foldD ps).1 (foldD ps).2)) ∨ (∃ ps : List (Key × D), x = .lst (ps.map fun p => .tup [keyD p.1, p.2]) ∧ R (.dK (foldD ps).1 (foldD ps).2))
section
variable {c : Cfg} {Av : Addr → Prop} {H : Hp}
theorem RepL.kvT : ∀ {ps : List (List Key × D)} {vs : List V}, RepL c Av H vs (ps.map fun p => .tup [kT p.1, p.2]) → ∃ (as : List Addr) (kvs : List (Addr × List Key × V)), vs = as.map V.ref ∧ Paired (fun p kv => SqT c.K H p [.ref kv.1, kv.2.2] ∧ H kv.1 = some (.tup (kv.2.1.map kV))) as kvs ∧
    kvs.map (fun q => q.2.1) = ps.map (·.1) ∧ RepL c Av H (kvs.map fun q => q.2.2) (ps.map (·.2))
  | [], _, .nil => ⟨[], [], rfl, .nil, rfl, .nil⟩
  | p :: ps, _, .cons r t => by
    obtain ⟨as, kvs, e1, hp, e2, r2⟩ := RepL.kvT t
    have r' : Rep c Av H _ (.tup [kT p.1, p.2]) := r
    cases r' with
    | @tup a us _ n rl =>
      cases rl with
      | cons rk rl => cases rl with
        | cons rv rl =>
          cases rl
          have rk' : Rep c Av H _ (.tup (p.1.map keyD)) := rk
          cases rk' with
          | @tup b ks _ m rk2 =>
            have := RepL.keysOf rk2
            subst this
            exact ⟨a :: as, (b, p.1, _) :: kvs, by rw [e1]; rfl, .cons ⟨n.sq, m.2.2⟩ hp, by rw [List.map_cons, e2]; rfl, .cons rv r2⟩
theorem RepL.kvK : ∀ {ps : List (Key × D)} {vs : List V}, RepL c Av H vs (ps.map fun p => .tup [keyD p.1, p.2]) → ∃ (as : List Addr) (kvs : List (Key × V)), vs = as.map V.ref ∧ Paired (fun p kv => SqT c.K H p [kV kv.1, kv.2]) as kvs ∧
    kvs.map (·.1) = ps.map (·.1) ∧ RepL c Av H (kvs.map (·.2)) (ps.map (·.2))
  | [], _, .nil => ⟨[], [], rfl, .nil, rfl, .nil⟩
  | p :: ps, _, .cons r t => by
    obtain ⟨as, kvs, e1, hp, e2, r2⟩ := RepL.kvK t
    have r' : Rep c Av H _ (.tup [keyD p.1, p.2]) := r
    cases r' with
    | @tup a us _ n rl =>
      cases rl with
      | @cons v _ _ _ rk rl => cases rl with
        | cons rv rl =>
          cases rl
          have ek : v = kV p.1 := by
            obtain ⟨k, d⟩ := p
            cases k with
            | inl i => cases rk; rfl
            | inr x => cases rk; rfl
          subst ek
          exact ⟨a :: as, (p.1, _) :: kvs, by rw [e1]; rfl, .cons n.sq hp, by rw [List.map_cons, e2]; rfl, .cons rv r2⟩
end
theorem c_dict {K : PySem.W.Frag} : CL K (rDictA K) .fresh dDict := fun c own A σ ρ H vs ds R Q hk E r g q => by
  obtain ⟨x, rfl, g⟩ := oneD_iff g
  match r with
  | .cons r1 .nil =>
    rcases g with ⟨ps, rfl, g1⟩ | ⟨ps, rfl, g1⟩
    · obtain ⟨a, us, rfl, z, h, rl⟩ := RepW.lst r1
      obtain ⟨as, kvs, rfl, hp, e, rv⟩ := RepL.kvT rl
      rw [hk] at hp
      refine .inl ⟨a, as, kvs, rfl, .inl (.inl h), hp, fun p np => ?_⟩
      obtain ⟨vs', e1, r2, el⟩ := foldT (c := c) (Av := Avd c own A σ ρ) (H := H) (kvs.map fun q => (q.2.1, q.2.2)) ps [] [] [] (by rw [List.map_map]; exact e) (by rw [List.map_map]; exact rv) .nil rfl
      rw [List.foldl_map] at e1
      refine q c (.ref p) _ (.dT (foldD ps).1 (foldD ps).2) (.one E.fok np) ⟨p, rfl, np, E.fok.fresh np, .dT (vs := vs') el ?_ ?_⟩ g1
      · rw [upd_same]
        exact congrArg (fun z => some (HO.dT z)) e1
      · exact RepL.mv rfl (fun _ _ z => z) (fun b o n e => by
          have hb : b ≠ p := ne_of_none e np
          exact ⟨fun z => z.elim n hb, by rw [upd_ne hb]; exact e⟩) _ _ r2
    · obtain ⟨a, us, rfl, z, h, rl⟩ := RepW.lst r1
      obtain ⟨as, kvs, rfl, hp, e, rv⟩ := RepL.kvK rl
      rw [hk] at hp
      refine .inr ⟨a, as, kvs, rfl, .inl (.inl h), hp, fun p np => ?_⟩
      obtain ⟨vs', e1, r2, el⟩ := foldT (c := c) (Av := Avd c own A σ ρ) (H := H) kvs ps [] [] [] e rv .nil rfl
      refine q c (.ref p) _ (.dK (foldD ps).1 (foldD ps).2) (.one E.fok np) ⟨p, rfl, np, E.fok.fresh np, .dK (vs := vs') el ?_ ?_⟩ g1
      · rw [upd_same]
        exact congrArg (fun z => some (HO.dK z)) e1
      · exact RepL.mv rfl (fun _ _ z => z) (fun b o n e => by
          have hb : b ≠ p := ne_of_none e np
          exact ⟨fun z => z.elim n hb, by rw [upd_ne hb]; exact e⟩) _ _ r2
theorem call_dictA {X : Cx} {k : Nat} (hc : X.calm = true) (hr : Room k X.A) : CallR X (.type "dict") (rDictA X.K) := (call_dictT hc hr.units).or (call_dictP hc)
def dListA (xs : List D) (R : D → Prop) : Prop := oneD xs fun x => match x with
  | .lst ds => R (.lst ds)
  | .tup ds => R (.lst ds)
  | .dT ks _ => (ks.length ≤ sizeLine ∧ ∀ k ∈ ks, k.length ≤ sizeLine) ∧ R (.lst (ks.map kT))
  | _ => False
def rListA (K : PySem.W.Frag) : List V → Hp → VK → Prop := fun xs H Q => (∃ p ys, xs = [.ref p] ∧ (SqL K H p ys ∨ SqT K H p ys) ∧ ∀ l, H l = none → Q (.ref l) (upd H l (.lst ys))) ∨ (∃ d kvs, xs = [V.ref d] ∧ Rd H d (.dT kvs) ∧ ∀ p bs, H p = none → IsKeys H kvs bs → Q (.ref p) (upd H p (.lst (bs.map V.ref))))
theorem call_listA {X : Cx} (hc : X.calm = true) : CallR X (.type "list") (rListA X.K) := call_list_of.or (call_list_dT hc)
theorem c_listA {K : PySem.W.Frag} : CL K (rListA K) .fresh dListA := fun c own A σ ρ H vs ds R Q hk E r g q => by
  obtain ⟨x, rfl, g⟩ := oneD_iff g
  cases x with
  | lst es => exact .inl (c_list c own A σ ρ H vs [.lst es] R Q hk E r g q)
  | tup es => exact .inl (c_list c own A σ ρ H vs [.tup es] R Q hk E r g q)
  | dT ks es =>
    match r with
    | .cons r1 .nil =>
      obtain ⟨a, us, rfl, el, h, rl⟩ := RepW.dT r1
      refine .inr ⟨a, ks.zip us, rfl, .inl h, fun p bs np hb => ?_⟩
      obtain ⟨⟨z1, z2⟩, g1⟩ := (show (ks.length ≤ sizeLine ∧ ∀ k ∈ ks, k.length ≤ sizeLine) ∧ R (.lst (ks.map kT)) from g)
      have hz : (bs.map V.ref).length ≤ sizeLine := by
        have := Paired.length hb
        rw [List.length_zip] at this
        rw [List.length_map]
        omega
      refine q c (.ref p) _ (.lst (ks.map kT)) (.one E.fok np) (Fr.newL E np hz ?_) g1
      have all : ∀ {ks : List (List Key)} {us : List V} {bs : List Addr}, (∀ k ∈ ks, k.length ≤ sizeLine) → ks.length = us.length → IsKeys H (ks.zip us) bs → RepL c (Avd c own A σ ρ) H (bs.map V.ref) (ks.map kT) := by
        intro ks
        induction ks with
        | nil =>
          intro us bs _ _ hb
          rw [List.zip_nil_left] at hb
          cases hb
          exact .nil
        | cons k ks ih =>
          intro us bs z2 el hb
          cases us with
          | nil => cases el
          | cons u us =>
            rw [List.zip_cons_cons] at hb
            cases hb with
            | cons h1 h2 => exact .cons (.tup ⟨by rw [List.length_map]; exact z2 k (by simp), E.tup_free h1, h1⟩ (RepL.keys k)) (ih (fun x hx => z2 x (by simp [hx])) (Nat.succ.inj el) h2)
      exact all z2 el hb
  | _ => exact g.elim
def dOrd (f : ∀ (α : Type) [OD α], α → α → Bool) (x y : D) (R : D → Prop) : Prop := ∃ (α : Type) (_ : OD α) (a b : α), x = OD.enc a ∧ y = OD.enc b ∧ OD.dp α ≤ 8 ∧ R (.bl (f α a b))
def fLt (α : Type) [OD α] (a b : α) : Bool := decide (OD.lt a b)
def fGt (α : Type) [OD α] (a b : α) : Bool := decide (OD.lt b a)
def fLe (α : Type) [OD α] (a b : α) : Bool := !decide (OD.lt b a)
def fGe (α : Type) [OD α] (a b : α) : Bool := !decide (OD.lt a b)
def rOrd (K : PySem.W.Frag) (f : ∀ (α : Type) [OD α], α → α → Bool) : R2 := fun x y H Q => ∃ (α : Type) (_ : OD α) (a b : α), Dp K H x (toPy (OD.enc a)) ∧ Dp K H y (toPy (OD.enc b)) ∧ OD.dp α ≤ 8 ∧ Q (.bl (f α a b)) H
theorem OD.notNone {α : Type} [OD α] (a : α) : toPy (OD.enc a) ≠ .none := by
  have h := OD.al a a
  have n := OD.num a
  intro e
  rcases numD_cases n with ⟨i, e2⟩ | ⟨m, ds, _, e2, _⟩
  · rw [e2] at e; simp [toPy] at e
  · rw [e2] at e; simp [toPy] at e
theorem OD.depth {α : Type} [OD α] (a : α) (h : OD.dp α ≤ 8) : (toPy (OD.enc a)).depth ≤ 8 := (okD_lay _ _ (numD_ok (numD_mono h (OD.num a)))).2
section
variable {X : Cx}
theorem op_ltO (hu : X.A.units + 64 < cLine) : OpR X (compareOp .Lt) (rOrd X.K fLt) := by
  rintro pins s σ H x y v u Q I rx ry ⟨α, _, a, b, hx, hy, d8, q⟩
  obtain ⟨as, r1⟩ := Dp.reads I _ _ _ hx rx
  obtain ⟨bs, r2⟩ := Dp.reads I _ _ _ hy ry
  refine PySem.W.lt_data r1 r2 (OD.al a b) (OD.notNone a) (by have := OD.depth a d8; have := OD.depth b d8; omega) ?_
  rw [OD.plt]
  exact ⟨.bl _, H, I, rfl, q⟩
theorem op_gtO (hu : X.A.units + 64 < cLine) : OpR X (compareOp .Gt) (rOrd X.K fGt) := by
  rintro pins s σ H x y v u Q I rx ry ⟨α, _, a, b, hx, hy, d8, q⟩
  obtain ⟨as, r1⟩ := Dp.reads I _ _ _ hx rx
  obtain ⟨bs, r2⟩ := Dp.reads I _ _ _ hy ry
  refine PySem.W.gt_data r1 r2 (OD.al a b) (OD.notNone a) (by have := OD.depth a d8; have := OD.depth b d8; omega) ?_
  rw [OD.plt]
  exact ⟨.bl _, H, I, rfl, q⟩
theorem op_leO (hu : X.A.units + 64 < cLine) : OpR X (compareOp .LtE) (rOrd X.K fLe) := by
  rintro pins s σ H x y v u Q I rx ry ⟨α, _, a, b, hx, hy, d8, q⟩
  obtain ⟨as, r1⟩ := Dp.reads I _ _ _ hx rx
  obtain ⟨bs, r2⟩ := Dp.reads I _ _ _ hy ry
  refine PySem.W.le_data r1 r2 (OD.al a b) (OD.notNone a) (by have := OD.depth a d8; have := OD.depth b d8; omega) ?_
  rw [OD.plt]
  exact ⟨.bl _, H, I, rfl, q⟩
theorem op_geO (hu : X.A.units + 64 < cLine) : OpR X (compareOp .GtE) (rOrd X.K fGe) := by
  rintro pins s σ H x y v u Q I rx ry ⟨α, _, a, b, hx, hy, d8, q⟩
  obtain ⟨as, r1⟩ := Dp.reads I _ _ _ hx rx
  obtain ⟨bs, r2⟩ := Dp.reads I _ _ _ hy ry
  refine PySem.W.ge_data r1 r2 (OD.al a b) (OD.notNone a) (by have := OD.depth a d8; have := OD.depth b d8; omega) ?_
  rw [OD.plt]
  exact ⟨.bl _, H, I, rfl, q⟩
end
theorem RepW.dpO {α : Type} [OD α] {c : Cfg} {own : List Nat} {A : Addr → Prop} {σ : L2.St} {ρ : PEnv} {H : Hp} {v : V} {a : α} (r : RepW c own A σ ρ H v (OD.enc a)) : Dp c.K H v (toPy (OD.enc a)) := RepW.dp (numD_ok (OD.num a)) r
theorem c_ord {K : PySem.W.Frag} {f : ∀ (α : Type) [OD α], α → α → Bool} : C2 K (rOrd K f) .strong (dOrd f) := fun c own A σ ρ H v w d e R Q hk E r1 r2 g q => by
  obtain ⟨α, _, a, b, rfl, rfl, d8, g⟩ := g
  exact ⟨α, _, a, b, hk ▸ r1.dpO, hk ▸ r2.dpO, d8, q c _ H _ (Step.refl E.fok) (.bl _) g⟩
def dAnd : D → D → (D → Prop) → Prop := dI2 fun i j R => R (.int (Builtin.bitAnd i j))
def dOr : D → D → (D → Prop) → Prop := dI2 fun i j R => R (.int (Builtin.bitOr i j))
def dXor : D → D → (D → Prop) → Prop := dI2 fun i j R => R (.int (Builtin.bitXor i j))
def dShl : D → D → (D → Prop) → Prop := dI2 fun i j R => (0 ≤ j ∧ j ≤ 1000000 ∧ i.natAbs < 2 ^ 64) ∧ R (.int (i * 2 ^ j.toNat))
def dShr : D → D → (D → Prop) → Prop := dI2 fun i j R => 0 ≤ j ∧ R (.int (i / 2 ^ j.toNat))
section
variable {K : PySem.W.Frag}
theorem c_and : C2 K (rI0 fun i j => .int (Builtin.bitAnd i j)) .strong dAnd := c_I0 fun i j R h => ⟨_, h, fun _ _ _ => .int _⟩
theorem c_or : C2 K (rI0 fun i j => .int (Builtin.bitOr i j)) .strong dOr := c_I0 fun i j R h => ⟨_, h, fun _ _ _ => .int _⟩
theorem c_xor : C2 K (rI0 fun i j => .int (Builtin.bitXor i j)) .strong dXor := c_I0 fun i j R h => ⟨_, h, fun _ _ _ => .int _⟩
theorem c_shl : C2 K (rI CPow fun i j => .int (i * 2 ^ j.toNat)) .strong dShl := c_I fun i j R h => ⟨h.1, _, h.2, fun _ _ _ => .int _⟩
theorem c_shr : C2 K (rI (fun _ j => 0 ≤ j) fun i j => .int (i / 2 ^ j.toNat)) .strong dShr := c_I fun i j R h => ⟨h.1, _, h.2, fun _ _ _ => .int _⟩
end
end DL

set_option Elab.async false
set_option linter.all false
set_option maxRecDepth 100000
set_option maxHeartbeats 4000000
namespace DL
open PySem PySem.Spec PyProof.Rows L2
def ck (p : Int × Int) : List Key := [.inl p.1, .inl p.2]
theorem ck_inj {p q : Int × Int} (h : ck p = ck q) : p = q := by
  simp only [ck, List.cons.injEq, Sum.inl.injEq, and_true] at h
  exact Prod.ext h.1 h.2
theorem kT_inj {k l : List Key} (h : kT k = kT l) : k = l := by
  have hk : ∀ a b : Key, keyD a = keyD b → a = b := fun a b e => by
    cases a <;> cases b <;> simp [keyD] at e
    · rw [e]
    · rw [e]
  simp only [kT, D.tup.injEq] at h
  exact (List.map_inj_right (fun x y e => hk x y e)).mp h
theorem kT_ck {x y : Int} {k : List Key} : D.tup [.int x, .int y] = kT k ↔ k = ck (x, y) := ⟨fun h => (kT_inj (l := k) (k := ck (x, y)) h).symm, fun h => by rw [h]; rfl⟩
theorem mem_ck {p : Int × Int} {cs : List (Int × Int)} : ck p ∈ cs.map ck ↔ p ∈ cs := ⟨fun h => by
  obtain ⟨q, hq, e⟩ := List.mem_map.mp h
  rw [← ck_inj e]
  exact hq, fun h => List.mem_map.mpr ⟨p, h, rfl⟩⟩
theorem memK_ck {p : Int × Int} {cs : List (Int × Int)} : memK (cs.map ck) (ck p) = decide (p ∈ cs) := by
  by_cases h : p ∈ cs
  · rw [memK_iff.mpr (mem_ck.mpr h)]; simp [h]
  · rw [decide_eq_false h]
    exact Bool.eq_false_iff.mpr fun z => h (mem_ck.mp (memK_iff.mp z))
def addC (cs : List (Int × Int)) (p : Int × Int) : List (Int × Int) := if p ∈ cs then cs else cs ++ [p]
theorem mem_addC {cs : List (Int × Int)} {p x : Int × Int} : x ∈ addC cs p ↔ x ∈ cs ∨ x = p := by
  unfold addC
  split
  · exact ⟨.inl, fun h => h.elim id fun e => e ▸ by assumption⟩
  · simp
theorem addC_nd {cs : List (Int × Int)} {p : Int × Int} (h : cs.Nodup) : (addC cs p).Nodup := by
  unfold addC
  split
  · exact h
  · rename_i n
    exact List.nodup_append.mpr ⟨h, by simp, fun a ha b hb e => n (by rw [List.mem_singleton.mp hb] at e; rw [← e]; exact ha)⟩
theorem addC_len {cs : List (Int × Int)} {p : Int × Int} : (addC cs p).length ≤ cs.length + 1 := by
  unfold addC
  split <;> simp
def tD (cs : List (Int × Int)) : D := .dT (cs.map ck) (List.replicate cs.length (.bl true))
theorem put_ck {cs : List (Int × Int)} {p : Int × Int} : putKs (cs.map ck) (ck p) = (addC cs p).map ck ∧ putVs (cs.map ck) (List.replicate cs.length (D.bl true)) (ck p) (.bl true) = List.replicate (addC cs p).length (.bl true) := by
  unfold putKs putVs addC
  by_cases h : p ∈ cs
  · rw [if_pos (mem_ck.mpr h), if_pos (mem_ck.mpr h), if_pos h]
    refine ⟨rfl, ?_⟩
    refine List.eq_replicate_iff.mpr ⟨by simp, fun b hb => ?_⟩
    obtain ⟨q, hq, rfl⟩ := List.mem_map.mp hb
    split
    · rfl
    · exact (List.mem_replicate.mp (List.of_mem_zip hq).2).2
  · rw [if_neg (fun z => h (mem_ck.mp z)), if_neg (fun z => h (mem_ck.mp z)), if_neg h]
    exact ⟨by simp, by simp [List.replicate_succ']⟩
def addAll (cs : List (Int × Int)) (ps : List (Int × Int)) : List (Int × Int) := ps.foldl addC cs
theorem mem_addAll {x : Int × Int} : ∀ {ps cs : List (Int × Int)}, x ∈ addAll cs ps ↔ x ∈ cs ∨ x ∈ ps
  | [], _ => by simp [addAll]
  | p :: ps, cs => by
    show x ∈ addAll (addC cs p) ps ↔ _
    rw [mem_addAll, mem_addC, List.mem_cons]
    exact ⟨fun h => by rcases h with (h | h) | h <;> simp [h], fun h => by rcases h with h | h | h <;> simp [h]⟩
theorem foldD_ck : ∀ (ps : List (Int × Int)) (cs : List (Int × Int)), (ps.map fun p => (ck p, D.bl true)).foldl (fun acc p => (putKs acc.1 p.1, putVs acc.1 acc.2 p.1 p.2)) (cs.map ck, List.replicate cs.length (.bl true)) = ((addAll cs ps).map ck, List.replicate (addAll cs ps).length (.bl true))
  | [], _ => rfl
  | p :: ps, cs => by
    rw [List.map_cons, List.foldl_cons]
    simp only [put_ck.1, put_ck.2]
    exact foldD_ck ps (addC cs p)
def putT (ks : List (List Key)) (ds : List D) (k d : D) (f : List (List Key) → List D → Prop) : Prop := ∃ q : List Key, k = kT q ∧ ks.length < sizeLine ∧ f (putKs ks q) (putVs ks ds q d)
def putKD (ks : List Key) (ds : List D) (k d : D) (f : List Key → List D → Prop) : Prop := ∃ q : Key, k = keyD q ∧ ks.length < sizeLine ∧ f (putKs ks q) (putVs ks ds q d)
def stoR (o : Option (Option D)) (i : Nat) (pk pe : TED) (DD : DEnds) (ρ : PEnv) : Prop := match o with
  | some (some (.lst ds)) => pe ρ fun d => pk ρ fun k => dInt k fun k => ∃ j, ixN ds.length k = some j ∧ DD.nx (ρ.set i (some (.lst (ds.set j d))))
  | some (some (.dT ks ds)) => pe ρ fun d => pk ρ fun k => putT ks ds k d fun ks' ds' => DD.nx (ρ.set i (some (.dT ks' ds')))
  | some (some (.dK ks ds)) => pe ρ fun d => pk ρ fun k => putKD ks ds k d fun ks' ds' => DD.nx (ρ.set i (some (.dK ks' ds')))
  | _ => False
section
variable {x y i j : Int} {d e : D} {ds es : List D} {ks : List (List Key)} {kk : List Key} {cs : List (Int × Int)} {R : D → Prop} {n : Nat} {pk pe : TED} {DD : DEnds} {ρ : PEnv} {a b : TED}
theorem x_newD : pNewD ρ R = (R (.dT [] []) ∨ R (.dK [] [])) := propext Iff.rfl
theorem x_store : sStore n pk pe DD ρ = stoR ρ[n]? n pk pe DD ρ := by
  unfold sStore stoR
  rcases ρ[n]? with _ | _ | d
  · rfl
  · rfl
  · cases d <;> rfl
theorem x_stoL : stoR (some (some (.lst ds))) n pk pe DD ρ = pe ρ fun d => pk ρ fun k => dInt k fun k => ∃ j, ixN ds.length k = some j ∧ DD.nx (ρ.set n (some (.lst (ds.set j d)))) := propext Iff.rfl
theorem x_stoT : stoR (some (some (.dT ks ds))) n pk pe DD ρ = pe ρ fun d => pk ρ fun k => putT ks ds k d fun ks' ds' => DD.nx (ρ.set n (some (.dT ks' ds'))) := propext Iff.rfl
theorem x_stoK : stoR (some (some (.dK kk ds))) n pk pe DD ρ = pe ρ fun d => pk ρ fun k => putKD kk ds k d fun ks' ds' => DD.nx (ρ.set n (some (.dK ks' ds'))) := propext Iff.rfl
theorem x_sto2 : stoR (some (some (tD cs))) n pk pe DD ρ = pe ρ fun d => pk ρ fun k => putT (cs.map ck) (List.replicate cs.length (.bl true)) k d fun ks' ds' => DD.nx (ρ.set n (some (.dT ks' ds'))) := propext Iff.rfl
theorem x_putT {f : List (List Key) → List D → Prop} : putT (cs.map ck) (List.replicate cs.length (.bl true)) (.tup [.int x, .int y]) (.bl true) f = (cs.length < sizeLine ∧ f ((addC cs (x, y)).map ck) (List.replicate (addC cs (x, y)).length (.bl true))) := by
  refine propext ⟨fun ⟨q, e, h1, h2⟩ => ?_, fun ⟨h1, h2⟩ => ⟨ck (x, y), rfl, by rwa [List.length_map], by rw [put_ck.1, put_ck.2]; exact h2⟩⟩
  rw [kT_ck.mp e, put_ck.1, put_ck.2] at h2
  rw [List.length_map] at h1
  exact ⟨h1, h2⟩
theorem x_inAL : dInA d (.lst es) R = ((okD 60 d = true ∧ okD 60 (.lst es) = true) ∧ R (.bl (es.any fun z => eqD z d))) := propext Iff.rfl
theorem x_inAT : dInA d (.tup es) R = ((okD 60 d = true ∧ okD 60 (.tup es) = true) ∧ R (.bl (es.any fun z => eqD z d))) := propext Iff.rfl
theorem x_niAL : dNotInA d (.lst es) R = ((okD 60 d = true ∧ okD 60 (.lst es) = true) ∧ R (.bl (!es.any fun z => eqD z d))) := propext Iff.rfl
theorem x_niAT : dNotInA d (.tup es) R = ((okD 60 d = true ∧ okD 60 (.tup es) = true) ∧ R (.bl (!es.any fun z => eqD z d))) := propext Iff.rfl
theorem x_inA2 : dInA (.tup [.int x, .int y]) (tD cs) R = R (.bl (decide ((x, y) ∈ cs))) := by
  refine propext ⟨fun h => ?_, fun h => ⟨ck (x, y), rfl, by rw [memK_ck]; exact h⟩⟩
  obtain ⟨k, e, h⟩ := (show ∃ k : List Key, D.tup [.int x, .int y] = kT k ∧ R (.bl (memK (cs.map ck) k)) from h)
  rw [kT_ck.mp e, memK_ck] at h
  exact h
theorem x_niA2 : dNotInA (.tup [.int x, .int y]) (tD cs) R = R (.bl (!decide ((x, y) ∈ cs))) := by
  refine propext ⟨fun h => ?_, fun h => ⟨ck (x, y), rfl, by rw [memK_ck]; exact h⟩⟩
  obtain ⟨k, e, h⟩ := (show ∃ k : List Key, D.tup [.int x, .int y] = kT k ∧ R (.bl (!memK (cs.map ck) k)) from h)
  rw [kT_ck.mp e, memK_ck] at h
  exact h
theorem x_ixAT : dIxA (.tup ds) (.int i) R = dIx (.tup ds) (.int i) R := propext Iff.rfl
theorem x_ixAL : dIxA (.lst ds) (.int i) R = dIx (.lst ds) (.int i) R := propext Iff.rfl
theorem x_ixAS {z : Str} : dIxA (.str z) (.int i) R = dIx (.str z) (.int i) R := propext Iff.rfl
theorem x_liAL : dListA [.lst ds] R = R (.lst ds) := propext Iff.rfl
theorem x_liAT : dListA [.tup ds] R = R (.lst ds) := propext Iff.rfl
theorem x_liA2 : dListA [tD cs] R = (cs.length ≤ sizeLine ∧ R (.lst (cs.map prD))) := by
  have e : (cs.map ck).map kT = cs.map prD := by rw [List.map_map]; rfl
  refine propext ⟨fun h => ?_, fun h => ⟨⟨by rw [List.length_map]; exact h.1, fun k hk => ?_⟩, by rw [e]; exact h.2⟩⟩
  · obtain ⟨⟨h1, _⟩, h2⟩ := (show (((cs.map ck).length ≤ sizeLine ∧ ∀ k ∈ cs.map ck, k.length ≤ sizeLine) ∧ R (.lst ((cs.map ck).map kT))) from h)
    rw [e] at h2
    rw [List.length_map] at h1
    exact ⟨h1, h2⟩
  · obtain ⟨p, _, rfl⟩ := List.mem_map.mp hk
    exact sz_small (by show 2 ≤ 1000; decide)
theorem x_band : dAnd (.int i) (.int j) R = R (.int (Builtin.bitAnd i j)) := propext Iff.rfl
theorem x_bor : dOr (.int i) (.int j) R = R (.int (Builtin.bitOr i j)) := propext Iff.rfl
theorem x_bxor : dXor (.int i) (.int j) R = R (.int (Builtin.bitXor i j)) := propext Iff.rfl
theorem x_shl : dShl (.int i) (.int j) R = ((0 ≤ j ∧ j ≤ 1000000 ∧ i.natAbs < 2 ^ 64) ∧ R (.int (i * 2 ^ j.toNat))) := propext Iff.rfl
theorem x_shr : dShr (.int i) (.int j) R = (0 ≤ j ∧ R (.int (i / 2 ^ j.toNat))) := propext Iff.rfl
end
section
variable {R : D → Prop} {α : Type} [OD α]
theorem srtL {xs : List α} (ok : ∀ a ∈ xs, OD.ok a) (h : R (.lst ((osrt xs).map OD.enc))) (d8 : OD.dp α ≤ 8 := by decide) : dSrt [.lst (xs.map OD.enc)] R := ⟨α, _, xs, .inl rfl, ok, d8, h⟩
theorem srtT {xs : List α} (ok : ∀ a ∈ xs, OD.ok a) (h : R (.lst ((osrt xs).map OD.enc))) (d8 : OD.dp α ≤ 8 := by decide) : dSrt [.tup (xs.map OD.enc)] R := ⟨α, _, xs, .inr (.inl rfl), ok, d8, h⟩
theorem srtU_L {xs : List α} (ok : ∀ a ∈ xs, OD.ok a) (hz : xs.length ≤ 2000) (h : R (.lst ((osrtU xs).map OD.enc))) (ht : ∀ a ∈ xs, ∃ ds, OD.enc a = .tup ds := by exact fun _ _ => ⟨_, rfl⟩) (d8 : OD.dp α ≤ 8 := by decide) : dSrtU (.lst (xs.map OD.enc)) R := ⟨α, _, xs, .inl rfl, ht, d8, hz, ok, h⟩
theorem srtU_T {xs : List α} (ok : ∀ a ∈ xs, OD.ok a) (hz : xs.length ≤ 2000) (h : R (.lst ((osrtU xs).map OD.enc))) (ht : ∀ a ∈ xs, ∃ ds, OD.enc a = .tup ds := by exact fun _ _ => ⟨_, rfl⟩) (d8 : OD.dp α ≤ 8 := by decide) : dSrtU (.tup (xs.map OD.enc)) R := ⟨α, _, xs, .inr rfl, ht, d8, hz, ok, h⟩
theorem lenU_L {xs : List α} (hz : xs.length ≤ 2000) (h : R (.int (osrtU xs).length)) (ht : ∀ a ∈ xs, ∃ ds, OD.enc a = .tup ds := by exact fun _ _ => ⟨_, rfl⟩) (d8 : OD.dp α ≤ 8 := by decide) : dLenU (.lst (xs.map OD.enc)) R := ⟨α, _, xs, .inl rfl, ht, d8, hz, h⟩
theorem lenU_T {xs : List α} (hz : xs.length ≤ 2000) (h : R (.int (osrtU xs).length)) (ht : ∀ a ∈ xs, ∃ ds, OD.enc a = .tup ds := by exact fun _ _ => ⟨_, rfl⟩) (d8 : OD.dp α ≤ 8 := by decide) : dLenU (.tup (xs.map OD.enc)) R := ⟨α, _, xs, .inr rfl, ht, d8, hz, h⟩
theorem ordL {a b : α} (h : R (.bl (decide (OD.lt a b)))) (d8 : OD.dp α ≤ 8 := by decide) : dOrd fLt (OD.enc a) (OD.enc b) R := ⟨α, _, a, b, rfl, rfl, d8, h⟩
theorem ordG {a b : α} (h : R (.bl (decide (OD.lt b a)))) (d8 : OD.dp α ≤ 8 := by decide) : dOrd fGt (OD.enc a) (OD.enc b) R := ⟨α, _, a, b, rfl, rfl, d8, h⟩
theorem ordLe {a b : α} (h : R (.bl (!decide (OD.lt b a)))) (d8 : OD.dp α ≤ 8 := by decide) : dOrd fLe (OD.enc a) (OD.enc b) R := ⟨α, _, a, b, rfl, rfl, d8, h⟩
theorem ordGe {a b : α} (h : R (.bl (!decide (OD.lt a b)))) (d8 : OD.dp α ≤ 8 := by decide) : dOrd fGe (OD.enc a) (OD.enc b) R := ⟨α, _, a, b, rfl, rfl, d8, h⟩
theorem srtD {cs : List (Int × Int)} (h : R (.lst ((osrt cs).map prD))) : dSrt [tD cs] R := ⟨Int × Int, inferInstance, cs, .inr (.inr ⟨_, _, rfl, by rw [List.map_map]; rfl⟩), fun _ _ => trivial, by decide, h⟩
theorem dictC {cs : List (Int × Int)} (h : R (tD (addAll [] cs))) : dDict [.lst (cs.map fun p => .tup [prD p, .bl true])] R := by
  refine .inl ⟨cs.map fun p => (ck p, .bl true), by rw [List.map_map]; rfl, ?_⟩
  have e := foldD_ck cs []
  unfold foldD
  rw [show (([] : List (List Key)), ([] : List D)) = (([] : List (Int × Int)).map ck, List.replicate ([] : List (Int × Int)).length (D.bl true)) from rfl, e]
  exact h
end
end DL

set_option Elab.async false
set_option linter.all false
set_option maxRecDepth 100000
set_option maxHeartbeats 4000000
namespace DL
open PySem PySem.Spec PyProof.Rows L2
theorem bnd_lit (n : Nat) : bnd (n.log2 + 1) (OfNat.ofNat n : Int) := by
  show (Int.natAbs (n : Int)) < _
  rw [Int.natAbs_natCast]
  exact Nat.lt_log2_self
theorem bnd_pos {k : Nat} {i j : Int} (h : bnd k j) (h0 : 0 ≤ i) (h1 : i ≤ j) : bnd k i := by unfold bnd at *; omega
theorem drawK {m : Int} (hm : 0 < m) (hb : bnd 8000 m) : 0 < m ∧ m.natAbs.log2 < 9000 := ⟨hm, bnd_log hb⟩
theorem cut_ints (ns : List Int) (lo hi : Option Int) : ∃ ms : List Int, cutD (ns.map D.int) lo hi = ms.map D.int ∧ ms.length ≤ ns.length := by
  unfold cutD
  refine ⟨_, by rw [← List.map_drop, ← List.map_take], ?_⟩
  rw [List.length_take, List.length_drop]
  omega
def absI (i : Int) : Int := if 0 - i > i then 0 - i else i
theorem pick {xs : List D} {r : Int} {P : D → Prop} (h0 : 0 ≤ r) (h1 : r < xs.length) (h : ∀ d ∈ xs, P d) : ∃ d, L2.atI xs r = some d ∧ P d := ⟨_, atI_get h0 h1, h _ (List.getElem_mem _)⟩
theorem pick2 {a b : D} {r : Int} {P : D → Prop} (h0 : 0 ≤ r) (h1 : r < 2) (pa : P a) (pb : P b) : ∃ d, L2.atI [a, b] r = some d ∧ P d := pick h0 h1 (by simp [pa, pb])
theorem pick3 {a b c : D} {r : Int} {P : D → Prop} (h0 : 0 ≤ r) (h1 : r < 3) (pa : P a) (pb : P b) (pc : P c) : ∃ d, L2.atI [a, b, c] r = some d ∧ P d := pick h0 h1 (by simp [pa, pb, pc])
theorem pick4 {a b c e : D} {r : Int} {P : D → Prop} (h0 : 0 ≤ r) (h1 : r < 4) (pa : P a) (pb : P b) (pc : P c) (pe : P e) : ∃ d, L2.atI [a, b, c, e] r = some d ∧ P d := pick h0 h1 (by simp [pa, pb, pc, pe])
theorem paired4 {F : D → D → Prop} {a b c d : D} {ys : List D} (h : Paired F [a, b, c, d] ys) : ∃ p q r s, ys = [p, q, r, s] ∧ F a p ∧ F b q ∧ F c r ∧ F d s := by
  cases h with
  | cons h1 h => cases h with
    | cons h2 h => cases h with
      | cons h3 h => cases h with
        | cons h4 h => cases h; exact ⟨_, _, _, _, rfl, h1, h2, h3, h4⟩
theorem pairedD2 {F : D → D → Prop} {a b : D} {ys : List D} (h : Paired F [a, b] ys) : ∃ p q, ys = [p, q] ∧ F a p ∧ F b q := by
  cases h with
  | cons h1 h => cases h with
    | cons h2 h => cases h; exact ⟨_, _, rfl, h1, h2⟩
theorem pairedD3 {F : D → D → Prop} {a b c : D} {ys : List D} (h : Paired F [a, b, c] ys) : ∃ p q r, ys = [p, q, r] ∧ F a p ∧ F b q ∧ F c r := by
  cases h with
  | cons h1 h => cases h with
    | cons h2 h => cases h with
      | cons h3 h => cases h; exact ⟨_, _, _, rfl, h1, h2, h3⟩
theorem compG {α : Type} (g f : α → D) {tg : TGD} {te : TED} {ρ : PEnv} : ∀ (l : List α) (acc : List D) (R : List D → Prop), (∀ p ∈ l, ∀ R : D → Prop, R (f p) → tg (g p) ρ fun ρ1 => te ρ1 R) → R (acc ++ l.map f) → compR tg tYesD te ρ (l.map g) acc R
  | [], acc, R, _, h => by rw [List.map_nil, List.append_nil] at h; exact h
  | p :: l, acc, R, hs, h => by
    have e : ∀ (R' : D → Prop) (K2 : Prop), (fun ρ1 => tYesD ρ1 fun b => if b = true then te ρ1 R' else K2) = fun ρ1 => te ρ1 R' := fun _ _ => by funext ρ1; simp [tYesD]
    show tg (g p) ρ (fun ρ1 => tYesD ρ1 fun b => if b = true then te ρ1 (fun y => compR tg tYesD te ρ (l.map g) (acc ++ [y]) R) else compR tg tYesD te ρ (l.map g) acc R)
    rw [e]
    refine hs p List.mem_cons_self _ (compG g f l _ R (fun q hq => hs q (List.mem_cons_of_mem _ hq)) ?_)
    rw [List.map_cons] at h
    rw [List.append_assoc]
    exact h
theorem compGF {α : Type} (g f : α → D) (c : α → Bool) {tg : TGD} {tt : TTD} {te : TED} {ρ : PEnv} : ∀ (l : List α) (acc : List D) (R : List D → Prop),
    (∀ p ∈ l, ∀ (K1 : D → Prop) (K2 : Prop), (c p = true → K1 (f p)) → (c p = false → K2) → tg (g p) ρ fun ρ1 => tt ρ1 fun b => if b = true then te ρ1 K1 else K2) → R (acc ++ (l.filter c).map f) → compR tg tt te ρ (l.map g) acc R
  | [], acc, R, _, h => by rw [List.filter_nil, List.map_nil, List.append_nil] at h; exact h
  | p :: l, acc, R, hs, h => by
    refine hs p List.mem_cons_self _ _ (fun hc => ?_) fun hc => ?_
    · refine compGF g f c l _ R (fun q hq => hs q (List.mem_cons_of_mem _ hq)) ?_
      rw [List.filter_cons_of_pos hc] at h
      rw [List.append_assoc]
      exact h
    · refine compGF g f c l _ R (fun q hq => hs q (List.mem_cons_of_mem _ hq)) ?_
      rw [List.filter_cons_of_neg (by rw [hc]; exact Bool.false_ne_true)] at h
      exact h
theorem zipD_map {α : Type} (g f : α → D) : ∀ l : List α, zipD (l.map g) (l.map f) = l.map fun p => D.tup [g p, f p]
  | [] => rfl
  | p :: l => by
    show D.tup [g p, f p] :: zipD (l.map g) (l.map f) = _
    rw [zipD_map g f l] <;> rfl
theorem ok_prs : ∀ (l : List (Int × Int)) (n : Nat), okD.okDs (n + 1) (l.map prD) = true
  | [], n => by simp [okD.okDs]
  | p :: l, n => by
    show (okD (n + 1) (prD p) && okD.okDs (n + 1) (l.map prD)) = true
    rw [ok_prs l n]
    simp [prD, okD, okD.okDs]
theorem ok_p59 (l : List (Int × Int)) : okD.okDs 59 (l.map prD) = true := ok_prs l 58
theorem ok_tprs (l : List (Int × Int)) : okD 60 (.tup (l.map prD)) = true := ok_prs l 58
theorem eq_prs : ∀ l : List (Int × Int), eqD.eqDs (l.map prD) (l.map prD) = true
  | [] => by simp [eqD.eqDs]
  | p :: l => by
    show (eqD (prD p) (prD p) && eqD.eqDs (l.map prD) (l.map prD)) = true
    rw [eq_prs l]
    simp [prD, eqD, eqD.eqDs]
theorem eq_tprs (l : List (Int × Int)) : eqD (.tup (l.map prD)) (.tup (l.map prD)) = true := eq_prs l
theorem eq_tnil (l : List (Int × Int)) : eqD (.tup (l.map prD)) (.tup []) = decide (l = []) := by
  cases l with
  | nil => simp [eqD, eqD.eqDs]
  | cons p l => simp [eqD, eqD.eqDs]
theorem eq_pnil (l : List (Int × Int)) : eqD.eqDs (l.map prD) [] = decide (l = []) := by
  cases l with
  | nil => simp [eqD.eqDs]
  | cons p l => simp [eqD.eqDs]

theorem forG {α : Type} (g : α → D) {tg : TGD} {p : TSD} {DD : DEnds} (I : List α → PEnv → Prop) (step : ∀ a rest ρ (N : PEnv → Prop), I (a :: rest) ρ → (∀ ρ', I rest ρ' → N ρ') → tg (g a) ρ fun ρ1 => p ⟨N, DD.rt, DD.nx, N⟩ ρ1) (done : ∀ ρ, I [] ρ → DD.nx ρ) : ∀ (l : List α) (ρ : PEnv), I l ρ → forR tg p DD (l.map g) ρ
  | [], ρ, h => done ρ h
  | a :: l, ρ, h => step a l ρ _ h fun ρ' h' => forG g I step done l ρ' h'
section
variable {α : Type} [OD α]
theorem eq_enc (a b : α) : eqD (OD.enc a) (OD.enc b) = true ↔ a = b := by
  rw [eqD_num (OD.num a) (OD.num b)]
  exact ⟨OD.inj, fun h => by rw [h]⟩
theorem eqs_enc : ∀ (l m : List α), eqD.eqDs (l.map OD.enc) (m.map OD.enc) = true ↔ l = m
  | [], [] => by simp [eqD.eqDs]
  | [], _ :: _ => by simp [eqD.eqDs]
  | _ :: _, [] => by simp [eqD.eqDs]
  | a :: l, b :: m => by
    simp only [List.map_cons, eqD.eqDs, Bool.and_eq_true, List.cons.injEq]
    rw [eq_enc, eqs_enc l m]
theorem any_enc (l : List α) (a : α) : ((l.map OD.enc).any fun z => eqD z (OD.enc a)) = true ↔ a ∈ l := by
  rw [List.any_map, List.any_eq_true]
  constructor
  · rintro ⟨x, hx, h⟩
    rw [← (eq_enc x a).mp h]
    exact hx
  · exact fun h => ⟨a, h, (eq_enc a a).mpr rfl⟩
theorem okE (a : α) {n : Nat} (h : OD.dp α ≤ n) : okD n (OD.enc a) = true := numD_ok (numD_mono h (OD.num a))
theorem okEs (l : List α) {n : Nat} (h : OD.dp α ≤ n) : okD.okDs n (l.map OD.enc) = true := okDs_iff.mpr fun d hd => by
  obtain ⟨a, _, rfl⟩ := List.mem_map.mp hd
  exact okE a h
end
theorem eqp (p q : Int × Int) : eqD (prD p) (prD q) = decide (p = q) := by
  rw [Bool.eq_iff_iff, decide_eq_true_iff]
  exact eq_enc p q
theorem eqps (l m : List (Int × Int)) : eqD.eqDs (l.map prD) (m.map prD) = decide (l = m) := by
  rw [Bool.eq_iff_iff, decide_eq_true_iff]
  exact eqs_enc l m
theorem anyp (l : List (Int × Int)) (p : Int × Int) : ((l.map prD).any fun z => eqD z (prD p)) = decide (p ∈ l) := by
  rw [Bool.eq_iff_iff, decide_eq_true_iff]
  exact any_enc l p
theorem okp (p : Int × Int) : okD 60 (prD p) = true := rfl
theorem okps (l : List (Int × Int)) : okD.okDs 59 (l.map prD) = true := okEs l (by decide)
theorem okpt (l : List (Int × Int)) : okD 60 (.tup (l.map prD)) = true := okps l
theorem okpl (l : List (Int × Int)) : okD 60 (.lst (l.map prD)) = true := okps l
def rwD (r : List (Int × Int)) : D := .tup (r.map prD)
theorem eqr (p q : List (Int × Int)) : eqD (rwD p) (rwD q) = decide (p = q) := by
  rw [Bool.eq_iff_iff, decide_eq_true_iff]
  exact eq_enc p q
theorem eqrs (l m : List (List (Int × Int))) : eqD.eqDs (l.map rwD) (m.map rwD) = decide (l = m) := by
  rw [Bool.eq_iff_iff, decide_eq_true_iff]
  exact eqs_enc l m
theorem anyr (l : List (List (Int × Int))) (p : List (Int × Int)) : ((l.map rwD).any fun z => eqD z (rwD p)) = decide (p ∈ l) := by
  rw [Bool.eq_iff_iff, decide_eq_true_iff]
  exact any_enc l p
theorem okr (p : List (Int × Int)) : okD 60 (rwD p) = true := okps p
theorem okrs (l : List (List (Int × Int))) : okD.okDs 59 (l.map rwD) = true := okEs l (by decide)
theorem okrt (l : List (List (Int × Int))) : okD 60 (.tup (l.map rwD)) = true := okrs l
theorem okrl (l : List (List (Int × Int))) : okD 60 (.lst (l.map rwD)) = true := okrs l
theorem all_bl : ∀ (bs : List Bool), (bs.map D.bl) = bs.map D.bl := fun _ => rfl
theorem lt_iff {p q : Int × Int} : OD.lt p q ↔ ltI2 p q := Iff.rfl
def cutA {α : Type} (l : List α) (lo hi : Option Int) : List α := (l.drop (HT.sIx l.length 0 lo)).take (HT.sIx l.length l.length hi - HT.sIx l.length 0 lo)
theorem cut_map {α : Type} (g : α → D) (l : List α) (lo hi : Option Int) : cutD (l.map g) lo hi = (cutA l lo hi).map g := by
  unfold cutD cutA
  rw [List.length_map, ← List.map_drop, ← List.map_take]
theorem cutA_from {α : Type} (l : List α) (k : Nat) : cutA l (some (k : Int)) none = l.drop k := by
  unfold cutA
  rw [HT.sIx_nat, HT.sIx_none]
  by_cases h : k ≤ l.length
  · rw [Nat.min_eq_left h]
    exact List.take_of_length_le (by rw [List.length_drop]; omega)
  · rw [Nat.min_eq_right (by omega), List.drop_eq_nil_of_le (Nat.le_refl _), List.drop_eq_nil_of_le (by omega)]
    simp
theorem cutA_to {α : Type} (l : List α) (k : Nat) : cutA l none (some (k : Int)) = l.take k := by
  unfold cutA
  rw [HT.sIx_nat, HT.sIx_none]
  by_cases h : k ≤ l.length
  · rw [Nat.min_eq_left h]; simp
  · rw [Nat.min_eq_right (by omega)]
    simp [List.take_of_length_le (show l.length ≤ k by omega)]
theorem cutA_fromI {α : Type} (l : List α) {i : Int} (h : 0 ≤ i) : cutA l (some i) none = l.drop i.toNat := by
  have := cutA_from l i.toNat
  rwa [Int.toNat_of_nonneg h] at this
theorem cutA_toI {α : Type} (l : List α) {i : Int} (h : 0 ≤ i) : cutA l none (some i) = l.take i.toNat := by
  have := cutA_to l i.toNat
  rwa [Int.toNat_of_nonneg h] at this
theorem zip_tl {α : Type} (g : α → D) : ∀ l : List α, zipD (l.map g) ((l.drop 1).map g) = (l.zip (l.drop 1)).map fun p => D.tup [g p.1, g p.2] := by
  have key : ∀ (l m : List α), zipD (l.map g) (m.map g) = (l.zip m).map fun p => D.tup [g p.1, g p.2] := by
    intro l
    induction l with
    | nil => intro m; cases m <;> rfl
    | cons a l ih =>
      intro m
      cases m with
      | nil => rfl
      | cons b m =>
        show D.tup [g a, g b] :: zipD (l.map g) (m.map g) = _
        rw [ih]
        rfl
  exact fun l => key l _
theorem all_next {α : Type} {r : α → α → Prop} [DecidableRel r] : ∀ {l : List α}, l.Pairwise r → ((l.zip (l.drop 1)).map fun p => decide (r p.1 p.2)).all id = true
  | [], _ => rfl
  | [_], _ => rfl
  | a :: b :: l, h => by
    obtain ⟨h1, h2⟩ := List.pairwise_cons.mp h
    have ih := all_next h2
    show (decide (r a b) && (((b :: l).zip ((b :: l).drop 1)).map fun p => decide (r p.1 p.2)).all id) = true
    rw [ih, decide_eq_true (h1 b (by simp))]
    rfl
theorem all_map {α : Type} (l : List α) (f : α → Bool) : (l.map f).all id = l.all f := by rw [List.all_map]; rfl
theorem any_map {α : Type} (l : List α) (f : α → Bool) : (l.map f).any id = l.any f := by rw [List.any_map]; rfl
end DL

set_option Elab.async false
set_option linter.all false
set_option maxRecDepth 100000
set_option maxHeartbeats 4000000
namespace DL
open PySem PySem.Spec PyProof.Rows L2
theorem rgV_rep {c : Cfg} {Av : Addr → Prop} {H : Hp} (a b : Int) : RepL c Av H (rgV a b) (rangeD a b) := by
  unfold rgV rangeD
  generalize List.range (b - a).toNat = l
  induction l with
  | nil => exact .nil
  | cons x l ih => exact .cons (.int _) ih
def rgOk (a b : Int) : Prop := 0 ≤ a ∧ b ≤ 16777216 ∧ a ≤ 16777216 ∧ 0 ≤ b
def pLRg1 (p : TED) : TED := fun ρ R => p ρ fun x => dInt x fun n => rgOk 0 n ∧ R (.lst (rangeD 0 n))
def pLRg2 (p q : TED) : TED := fun ρ R => p ρ fun x => q ρ fun y => dInt x fun a => dInt y fun b => rgOk a b ∧ R (.lst (rangeD a b))
theorem rg_len {a b : Int} (h : rgOk a b) : (rgV a b).length ≤ sizeLine := by
  rw [rgV_length, sizeLine_eq]
  unfold rgOk at h
  omega
section
variable {X : Cx} {own : List Nat} {p q : TED} {a b : Expr} {pn p2 pos pos2 : Pos}
theorem e_lrg1 (hc : X.calm = true) (hm : X.mg "list" = none) (hm2 : X.mg "range" = none) (ha : PE X a (lift X.K own .weak p)) (hg : Gl X "list" := by rfl) (hg2 : Gl X "range" := by rfl)
    (na : starEach [a] X.env = (false, eval a X.env) :: starEach [] X.env := by rfl) (nb : starEach [.Call (.Name "range" p2) [a] [] pos2] X.env = (false, eval (.Call (.Name "range" p2) [a] [] pos2) X.env) :: starEach [] X.env := by rfl) :
    PE X (.Call (.Name "list" pn) [.Call (.Name "range" p2) [a] [] pos2] [] pos) (lift X.K own .fresh (pLRg1 p)) :=
  pe_imp (pe_listRg hc hg hm (prg_1 hg2 hm2 ha na) nb) fun σ H Q ⟨c, A, ρ, R, hk, E, hp, f⟩ => ⟨c, A, ρ, _, hk, E, hp, fun c1 v H1 d t1 r1 g => by
    obtain ⟨n, rfl, ok, g⟩ := dInt_iff g
    have e := RepW.int r1
    subst e
    exact ⟨n, rfl, RgOk.of_le ok.1 ok.2.1 ok.2.2.1 ok.2.2.2, fun z np => f c1 (.ref z) _ _ (t1.more np) (Fr.back t1 (Fr.newL (E.step t1) np (rg_len ok) (rgV_rep 0 n))) g⟩⟩
theorem e_lrg2 (hc : X.calm = true) (hm : X.mg "list" = none) (hm2 : X.mg "range" = none) (ha : PE X a (lift X.K own .weak p)) (hb : PE X b (lift X.K own .weak q)) (hg : Gl X "list" := by rfl) (hg2 : Gl X "range" := by rfl)
    (na : starEach [a, b] X.env = (false, eval a X.env) :: starEach [b] X.env := by rfl) (nc : starEach [b] X.env = (false, eval b X.env) :: starEach [] X.env := by rfl)
    (hpl : (backTo pos2 (starEach [b] X.env)).any (·.1) = false := by rfl) (nb : starEach [.Call (.Name "range" p2) [a, b] [] pos2] X.env = (false, eval (.Call (.Name "range" p2) [a, b] [] pos2) X.env) :: starEach [] X.env := by rfl) :
    PE X (.Call (.Name "list" pn) [.Call (.Name "range" p2) [a, b] [] pos2] [] pos) (lift X.K own .fresh (pLRg2 p q)) :=
  pe_imp (pe_listRg hc hg hm (prg_2 hg2 hm2 ha hb na nc hpl) nb) fun σ H Q ⟨c, A, ρ, R, hk, E, hp, f⟩ => ⟨c, A, ρ, _, hk, E, hp, fun c1 v H1 d t1 r1 g => ⟨c1, A, ρ, _, t1.kk.trans hk, E.step t1, g, fun c2 w H2 e t2 r2 g => by
    obtain ⟨i, rfl, ga⟩ := dInt_iff g
    obtain ⟨j, rfl, ok, gb⟩ := dInt_iff ga
    have e1 := RepW.int r1
    have e2 := RepW.int r2
    subst e1; subst e2
    exact ⟨i, j, rfl, rfl, RgOk.of_le ok.1 ok.2.1 ok.2.2.1 ok.2.2.2, fun z np => f c2 (.ref z) _ _ ((t1.trans t2).more np) (Fr.back (t1.trans t2) (Fr.newL ((E.step t1).step t2) np (rg_len ok) (rgV_rep i j))) gb⟩⟩⟩
def dIndex (x y : D) (R : D → Prop) : Prop := match x with
  | .lst ds => (okD 60 y = true ∧ okD 60 (.lst ds) = true) ∧ ∃ (j : Nat) (d : D), ds[j]? = some d ∧ eqD d y = true ∧ (∀ m d', m < j → ds[m]? = some d' → eqD d' y = false) ∧ R (.int j)
  | _ => False
def lstOf (x : D) (f : List D → Prop) : Prop := match x with | .lst ds => f ds | _ => False
theorem lstOf_iff {x : D} {f : List D → Prop} (h : lstOf x f) : ∃ ds, x = .lst ds ∧ f ds := by
  cases x with
  | lst ds => exact ⟨ds, rfl, h⟩
  | _ => exact False.elim h
def pIndex (p q : TED) : TED := fun ρ R => p ρ fun x => lstOf x fun ds => q ρ fun y => dIndex (.lst ds) y R
theorem toPys_get : ∀ {ds : List D} {j : Nat} {d : D}, ds[j]? = some d → (toPy.toPys ds)[j]? = some (toPy d)
  | [], _, _, h => by simp at h
  | _ :: _, 0, _, h => by simp only [List.getElem?_cons_zero, Option.some.injEq] at h; subst h; rfl
  | _ :: ds, j + 1, d, h => by
    show (toPy.toPys ds)[j]? = _
    exact toPys_get (by simpa using h)
theorem toPys_len : ∀ ds : List D, (toPy.toPys ds).length = ds.length
  | [] => rfl
  | _ :: ds => congrArg (· + 1) (toPys_len ds)
theorem e_index {o e : Expr} {apos : Pos} {k : Nat} (hr : Room k X.A) (ho : PE X o (lift X.K own .weak p)) (he : PE X e (lift X.K own .weak q))
    (hbase : attributeBase o "index" X.env (eval o X.env) = eval o X.env := by rfl)
    (hfew : ((backTo pos (starEach [e] X.env)).all (fun x => !x.1) && (backToKw pos (keywordEach [] X.env)).all (fun x => x.1.isSome)
      && decide ([e].length + ([] : List Keyword).length + (if ([] : List Keyword).isEmpty then 0 else 1) < 30)) = true := by rfl)
    (hline : (apos.endLine == pos.line) = true := by rfl) (hs : starEach [e] X.env = (false, eval e X.env) :: starEach [] X.env := by rfl) (hplain : (backTo pos (starEach [] X.env)).any (·.1) = false := by rfl) :
    PE X (.Call (.Attribute o "index" apos) [e] [] pos) (lift X.K own .strong (pIndex p q)) :=
  pe_imp (pe_bm PySem.F.plainAttrs_list PySem.F.slot_list_index PySem.F.type_list_index (mt_indexD (by have := hr.un; omega)) ho (L2.pa_cons he L2.pa_nil hs) hbase hfew hline hs hplain) fun σ H Q ⟨c, A, ρ, R, hk, E, hp, f⟩ => ⟨c, A, ρ, _, hk, E, hp, fun c1 v H1 d t1 r1 g => by
    obtain ⟨ds, rfl, g⟩ := lstOf_iff g
    obtain ⟨a, us, rfl, z, h, rl⟩ := RepW.lst r1
    refine ⟨.inl ⟨rfl, _, .inl (.inl h)⟩, c1, A, ρ, _, t1.kk.trans hk, E.step t1, g, fun c2 w H2 e2 t2 r2 g2 => ?_⟩
    obtain ⟨⟨o1, o2⟩, j, d, hj, he, hb, g3⟩ := (show (okD 60 e2 = true ∧ okD 60 (.lst ds) = true) ∧ ∃ (j : Nat) (d : D), ds[j]? = some d ∧ eqD d e2 = true ∧ (∀ m d', m < j → ds[m]? = some d' → eqD d' e2 = false) ∧ R (.int j) from g2)
    have r1' := RepW.step (E.step t1) t2 r1
    have ek : c2.K = X.K := t2.kk.trans (t1.kk.trans hk)
    have ods : okD.okDs 59 ds = true := o2
    have okj : ∀ m d', ds[m]? = some d' → okD 59 d' = true := fun m d' hm => okDs_iff.mp ods d' (List.mem_of_getElem? hm)
    refine ⟨a, w, toPy e2, toPy.toPys ds, j, toPy d, rfl, rfl, ek ▸ r1'.dp o2, ek ▸ r2.dp o1, okD_shaped o2, okD_shaped o1, toPys_get hj, by rw [eqv_eqD _ _ 59 60 (okj j d hj) o1]; exact he, fun m z hm hz => ?_, f c2 _ H2 _ (t1.trans t2) (.int _) g3⟩
    have hml : m < ds.length := by
      have := (List.getElem?_eq_some_iff.mp hz).1
      rwa [toPys_len] at this
    have e3 := List.getElem?_eq_getElem hml
    have e4 := toPys_get e3
    rw [hz] at e4
    rw [Option.some.inj e4, eqv_eqD _ _ 59 60 (okj m _ e3) o1]
    exact hb m _ hm e3⟩
end
def sAug (i : Nat) (f : Int → Int → Int) (pe : TED) : TSD := fun DD ρ => pV i ρ fun x => dInt x fun a => pe ρ fun y => dInt y fun b => DD.nx (ρ.set i (some (.int (f a b))))
section
variable {own : List Nat} {fr : Bool} {ko : Kd} {pe : TED} {f : Int → Int → Int}
theorem lift_aug (K : PySem.W.Frag) {i : Nat} (hi : i ∉ own) : ∀ D σ H, liftS K own fr ko (sAug i f pe) D σ H → tAug i (lift K own .weak pe) (ipI f) D σ H := by
  intro DD σ H ⟨c0, H0, A, c, ρ, DD', hk, t, E, F, h, z⟩
  unfold sAug pV at h
  split at h
  · rename_i d e
    obtain ⟨a, rfl, h'⟩ := dInt_iff h
    obtain ⟨v, h1, h2⟩ := E.slot i _ e hi
    cases h2
    refine ⟨_, h1, c, A, ρ, _, hk, E, h', fun c1 w H1 d t1 r1 g => ?_⟩
    obtain ⟨k, rfl, g'⟩ := dInt_iff g
    have e1 := RepW.int r1
    subst e1
    have oc : ∀ b, OwnA own (σ.set i (some (.int (f a k)))) (ρ.set i (some (.int (f a k)))) b ↔ OwnA own σ ρ b := ownA_congr fun j hj => by
      have hne : i ≠ j := fun z => hi (z ▸ hj)
      rw [List.getElem?_set_ne hne, List.getElem?_set_ne hne]
      exact ⟨rfl, rfl⟩
    exact ⟨a, k, rfl, rfl, z.nx.here (t1.kk.trans hk) (t.trans t1) ((E.step t1).set hi (.int _)) (fun b o => F b ((oc b).mp o)) g'⟩
  · exact h.elim
theorem s_aug {X : Cx} (i : Nat) {st : Stmt} (h : PS X st (tAug i (lift X.K own .weak pe) (ipI f))) (hi : i ∉ own := by decide) : PS X st (liftS X.K own fr ko (sAug i f pe)) := ps_imp h (lift_aug _ hi)
end
section
variable {R : D → Prop} {ρ : PEnv} {p q : TED} {i : Nat} {DD : DEnds} {ds : List D} {d : D} {f : Int → Int → Int}
theorem x_lrg1 : pLRg1 p ρ R = p ρ fun x => dInt x fun n => rgOk 0 n ∧ R (.lst (rangeD 0 n)) := propext Iff.rfl
theorem x_lrg2 : pLRg2 p q ρ R = p ρ fun x => q ρ fun y => dInt x fun a => dInt y fun b => rgOk a b ∧ R (.lst (rangeD a b)) := propext Iff.rfl
theorem x_index : pIndex p q ρ R = p ρ fun x => lstOf x fun ds => q ρ fun y => dIndex (.lst ds) y R := propext Iff.rfl
theorem x_lstOf {f : List D → Prop} : lstOf (.lst ds) f = f ds := propext Iff.rfl
theorem x_aug : sAug i f p DD ρ = pV i ρ fun x => dInt x fun a => p ρ fun y => dInt y fun b => DD.nx (ρ.set i (some (.int (f a b)))) := propext Iff.rfl
end
theorem indexL {α : Type} [OD α] {xs : List α} {a : α} {j : Nat} {R : D → Prop} (hj : xs[j]? = some a) (hb : ∀ m, m < j → xs[m]? ≠ some a) (h : R (.int j)) (d8 : OD.dp α ≤ 8 := by decide) : dIndex (.lst (xs.map OD.enc)) (OD.enc a) R := by
  refine ⟨⟨okE a (n := 60) (by omega), okEs xs (n := 59) (by omega)⟩, j, OD.enc a, by rw [List.getElem?_map, hj]; rfl, (eq_enc a a).mpr rfl, fun m d' hm e => ?_, h⟩
  rw [List.getElem?_map] at e
  obtain ⟨b, e1, e2⟩ := Option.map_eq_some_iff.mp e
  rw [← e2]
  refine Bool.eq_false_iff.mpr fun z => hb m hm ?_
  rw [e1, (eq_enc b a).mp z]
end DL

set_option Elab.async false
set_option linter.all false
set_option maxRecDepth 100000
set_option maxHeartbeats 4000000
namespace DL
open PySem PySem.Spec PyProof.Rows L2
section
variable {c c' : Cfg} {own : List Nat} {A : Addr → Prop} {σ : L2.St} {ρ : PEnv} {H H1 H' : Hp} {v : V} {d : D} {p : Addr}
theorem EnvR.stepA (E : EnvR c own A σ ρ H) (t : Step c H c' H') (hp : H p = none) (ns : ¬ c'.S p) (av : AvOk H' p) : EnvR c' own (fun b => A b ∨ b = p) σ ρ H' := by
  have m : ∀ b o, ¬ Avd c own A σ ρ b → H b = some o → ¬ Avd c' own (fun b => A b ∨ b = p) σ ρ b ∧ H' b = some o := fun b o n e => by
    obtain ⟨n', e'⟩ := E.mv t b o n e
    refine ⟨fun z => ?_, e'⟩
    rcases z with (z | z) | z | z
    · exact n' (.inl z)
    · rw [z, hp] at e; cases e
    · exact n' (.inr (.inl z))
    · exact n' (.inr (.inr z))
  refine ⟨t.fok, E.len, fun a h => h.elim (fun h => t.avOk (E.avA a h)) fun h => h ▸ av, fun i d h hi => ?_, fun i d h hi => ?_, E.dist⟩
  · obtain ⟨v, h1, h2⟩ := E.slot i d h hi
    exact ⟨v, h1, Rep.mv t.kk t.sub m d v h2⟩
  · obtain ⟨a, h1, h2, h3, h4⟩ := E.ownS i d h hi
    have ha : a ≠ p := fun z => h4.some (z ▸ hp)
    refine ⟨a, h1, fun z => z.elim h2 ha, fun z => ?_, h4.mv t.kk t.sub m fun o e => t.keep a o h3 e⟩
    rcases t.new a z with z | z
    · exact h3 z
    · exact h4.some z
theorem Fr.avOk (r : Fr c own A σ ρ H H' v d) : ∃ p, v = .ref p ∧ H p = none ∧ ¬ c.S p ∧ AvOk H' p := by
  obtain ⟨p, e, h, ns, r⟩ := r
  refine ⟨p, e, h, ns, r.some, fun vs z => ?_⟩
  cases r with
  | lst _ h _ => rw [h] at z; cases z
  | dT _ h _ => rw [h] at z; cases z
  | dK _ h _ => rw [h] at z; cases z
theorem own_in {i : Nat} {a : Addr} (h : OwnA own (σ.set i (some (.ref p))) (ρ.set i (some d)) a) : OwnA own σ ρ a ∨ a = p := by
  obtain ⟨j, e, hj, h1, h2⟩ := h
  by_cases e1 : i = j
  · subst e1
    by_cases hl : i < σ.length
    · rw [List.getElem?_set_self hl] at h2
      cases h2
      exact .inr rfl
    · rw [List.getElem?_eq_none (by rw [List.length_set]; omega)] at h2
      cases h2
  · rw [List.getElem?_set_ne e1] at h1 h2
    exact .inl ⟨j, e, hj, h1, h2⟩
theorem avd_in {i : Nat} : ∀ b, ¬ Avd c own (fun b => A b ∨ b = p) σ ρ b → ¬ Avd c own A (σ.set i (some (.ref p))) (ρ.set i (some d)) b := fun b n z => by
  rcases z with z | z | z
  · exact n (.inl (.inl z))
  · exact n (.inr (.inl z))
  · rcases own_in z with y | y
    · exact n (.inr (.inr y))
    · exact n (.inl (.inr y))
end
section
variable {X : Cx} {own : List Nat} {fr : Bool} {ko : Kd} {pos : Pos} {p q : TED}
theorem lift_parOS (K : PySem.W.Frag) {i j : Nat} (hi : i ∈ own) (hj : j ∉ own) : ∀ D σ H, liftS K own fr ko (sPar i j (paC p (paC q paN))) D σ H → tPar i j (tCons (lift K own .fresh p) (tCons (lift K own .strong q) tNil)) D σ H := fun D σ H ⟨c0, H0, A, c, ρ, DD, hk, t, E, F, h, z⟩ => ⟨c, A, ρ, _, hk, E, h, fun c1 v H1 d t1 r1 g1 => by
  obtain ⟨a, rfl, ha, ns, av⟩ := Fr.avOk r1
  have EA := E.stepA t1 ha ns av
  refine ⟨c1, _, ρ, _, t1.kk.trans hk, EA, g1, fun c2 w H2 e t2 r2 g2 => ⟨_, _, rfl, ?_⟩⟩
  have E1 := E.setO t1 hi r1
  have E2 := (E1.step t2).set hj (Rep.mv rfl (fun _ _ z => z) (fun b o n e => ⟨avd_in b n, e⟩) _ _ r2)
  exact z.nx.here (t2.kk.trans (t1.kk.trans hk)) ((t.trans t1).trans t2) E2 ((F.setO t ha).congr (set_own hj)) g2⟩
theorem lift_parOO (K : PySem.W.Frag) {i j : Nat} (hi : i ∈ own) (hj : j ∈ own) : ∀ D σ H, liftS K own fr ko (sPar i j (paC p (paC q paN))) D σ H → tPar i j (tCons (lift K own .fresh p) (tCons (lift K own .fresh q) tNil)) D σ H := fun D σ H ⟨c0, H0, A, c, ρ, DD, hk, t, E, F, h, z⟩ => ⟨c, A, ρ, _, hk, E, h, fun c1 v H1 d t1 r1 g1 => by
  obtain ⟨a, rfl, ha, ns, av⟩ := Fr.avOk r1
  have EA := E.stepA t1 ha ns av
  refine ⟨c1, _, ρ, _, t1.kk.trans hk, EA, g1, fun c2 w H2 e t2 r2 g2 => ⟨_, _, rfl, ?_⟩⟩
  have E1 := E.setO t1 hi r1
  obtain ⟨b, rfl, hb, ns2, r2⟩ := r2
  have E2 := E1.setO t2 hj ⟨b, rfl, hb, ns2, r2.mv rfl (fun _ _ z => z) (fun x o n e => ⟨fun z => z.elim (avd_in x fun y => n (.inl y)) fun y => n (.inr y), e⟩) fun _ e => e⟩
  exact z.nx.here (t2.kk.trans (t1.kk.trans hk)) ((t.trans t1).trans t2) E2 ((F.setO t ha).setO (t.trans t1) hb) g2⟩
theorem lift_parSO (K : PySem.W.Frag) {i j : Nat} (hi : i ∉ own) (hj : j ∈ own) : ∀ D σ H, liftS K own fr ko (sPar i j (paC p (paC q paN))) D σ H → tPar i j (tCons (lift K own .strong p) (tCons (lift K own .fresh q) tNil)) D σ H := fun D σ H ⟨c0, H0, A, c, ρ, DD, hk, t, E, F, h, z⟩ => ⟨c, A, ρ, _, hk, E, h, fun c1 v H1 d t1 r1 g1 => by
  refine ⟨c1, A, ρ, _, t1.kk.trans hk, E.step t1, g1, fun c2 w H2 e t2 r2 g2 => ⟨_, _, rfl, ?_⟩⟩
  have E1 := (E.step t1).set hi r1
  obtain ⟨b, rfl, hb, ns2, r2⟩ := r2
  have E2 := E1.setO t2 hj ⟨b, rfl, hb, ns2, by rw [avd_set hi]; exact r2⟩
  exact z.nx.here (t2.kk.trans (t1.kk.trans hk)) ((t.trans t1).trans t2) E2 ((F.congr (set_own hi)).setO (t.trans t1) hb) g2⟩
variable {x y : Str} {a b : Expr} {px py pt : Pos} {k2 : Nat} {pt2 : Pos} {kt : Nat}
theorem s_parOS (i j : Nat) (hc : X.calm = true) (hN : X.N.Nodup) (ha : PE X a (lift X.K own .fresh p)) (hb : PE X b (lift X.K own .strong q)) (hi : X.N[i]? = some x := by rfl) (hj : X.N[j]? = some y := by rfl) (hij : i ≠ j := by decide)
    (hx : X.env.scope.names.lookup x = some .local := by rfl) (hy : X.env.scope.names.lookup y = some .local := by rfl) (ho : i ∈ own := by decide) (ho2 : j ∉ own := by decide)
    (h1 : starEach [a, b] X.env = (false, eval a X.env) :: starEach [b] X.env := by rfl) (h2 : starEach [b] X.env = (false, eval b X.env) :: starEach [] X.env := by rfl)
    (hw : swappedStores [.Tuple [.Name x px, .Name y py] kt pt] (.Tuple [a, b] k2 pt2) X.env = pure (some [x, y]) := by rfl)
    (hs : swapsWithSole [.Tuple [.Name x px, .Name y py] kt pt] (.Tuple [a, b] k2 pt2) pos.line X.env = pure false := by rfl) :
    PS X (.Assign [.Tuple [.Name x px, .Name y py] kt pt] (.Tuple [a, b] k2 pt2) pos) (liftS X.K own fr ko (sPar i j (paC p (paC q paN)))) := ps_imp (ps_par hc hN hi hj hij hx hy (L2.pa_cons ha (L2.pa_cons hb L2.pa_nil h2) h1) hw hs) (lift_parOS _ ho ho2)
theorem s_parOO (i j : Nat) (hc : X.calm = true) (hN : X.N.Nodup) (ha : PE X a (lift X.K own .fresh p)) (hb : PE X b (lift X.K own .fresh q)) (hi : X.N[i]? = some x := by rfl) (hj : X.N[j]? = some y := by rfl) (hij : i ≠ j := by decide)
    (hx : X.env.scope.names.lookup x = some .local := by rfl) (hy : X.env.scope.names.lookup y = some .local := by rfl) (ho : i ∈ own := by decide) (ho2 : j ∈ own := by decide)
    (h1 : starEach [a, b] X.env = (false, eval a X.env) :: starEach [b] X.env := by rfl) (h2 : starEach [b] X.env = (false, eval b X.env) :: starEach [] X.env := by rfl)
    (hw : swappedStores [.Tuple [.Name x px, .Name y py] kt pt] (.Tuple [a, b] k2 pt2) X.env = pure (some [x, y]) := by rfl)
    (hs : swapsWithSole [.Tuple [.Name x px, .Name y py] kt pt] (.Tuple [a, b] k2 pt2) pos.line X.env = pure false := by rfl) :
    PS X (.Assign [.Tuple [.Name x px, .Name y py] kt pt] (.Tuple [a, b] k2 pt2) pos) (liftS X.K own fr ko (sPar i j (paC p (paC q paN)))) := ps_imp (ps_par hc hN hi hj hij hx hy (L2.pa_cons ha (L2.pa_cons hb L2.pa_nil h2) h1) hw hs) (lift_parOO _ ho ho2)
theorem s_parSO (i j : Nat) (hc : X.calm = true) (hN : X.N.Nodup) (ha : PE X a (lift X.K own .strong p)) (hb : PE X b (lift X.K own .fresh q)) (hi : X.N[i]? = some x := by rfl) (hj : X.N[j]? = some y := by rfl) (hij : i ≠ j := by decide)
    (hx : X.env.scope.names.lookup x = some .local := by rfl) (hy : X.env.scope.names.lookup y = some .local := by rfl) (ho : i ∉ own := by decide) (ho2 : j ∈ own := by decide)
    (h1 : starEach [a, b] X.env = (false, eval a X.env) :: starEach [b] X.env := by rfl) (h2 : starEach [b] X.env = (false, eval b X.env) :: starEach [] X.env := by rfl)
    (hw : swappedStores [.Tuple [.Name x px, .Name y py] kt pt] (.Tuple [a, b] k2 pt2) X.env = pure (some [x, y]) := by rfl)
    (hs : swapsWithSole [.Tuple [.Name x px, .Name y py] kt pt] (.Tuple [a, b] k2 pt2) pos.line X.env = pure false := by rfl) :
    PS X (.Assign [.Tuple [.Name x px, .Name y py] kt pt] (.Tuple [a, b] k2 pt2) pos) (liftS X.K own fr ko (sPar i j (paC p (paC q paN)))) := ps_imp (ps_par hc hN hi hj hij hx hy (L2.pa_cons ha (L2.pa_cons hb L2.pa_nil h2) h1) hw hs) (lift_parSO _ ho ho2)
end
end DL

set_option Elab.async false
set_option linter.all false
set_option maxRecDepth 100000
set_option maxHeartbeats 4000000
namespace DL
open PySem PySem.Spec PyProof.Rows L2
theorem band_nat (a b : Nat) : Builtin.bitAnd (a : Int) (b : Int) = ((a &&& b : Nat) : Int) := by
  unfold Builtin.bitAnd
  rw [decide_eq_true (Int.natCast_nonneg a), decide_eq_true (Int.natCast_nonneg b)]
  rfl
theorem bnot_nat (a : Nat) : Builtin.bitNot (Builtin.bitNot (a : Int)) = a := by unfold Builtin.bitNot; omega
theorem bor_nat (a b : Nat) : Builtin.bitOr (a : Int) (b : Int) = ((a ||| b : Nat) : Int) := by
  unfold Builtin.bitOr Builtin.bitAnd
  rw [decide_eq_false (show ¬ 0 ≤ Builtin.bitNot (a : Int) by unfold Builtin.bitNot; omega), decide_eq_false (show ¬ 0 ≤ Builtin.bitNot (b : Int) by unfold Builtin.bitNot; omega)]
  simp only [bnot_nat, Int.toNat_natCast]
theorem bxor_nat (a b : Nat) : Builtin.bitXor (a : Int) (b : Int) = ((a ^^^ b : Nat) : Int) := by
  have key : ∀ n, ∀ a b : Nat, a < 2 ^ n → b < 2 ^ n → (a &&& b) + (a ^^^ b) = a ||| b := by
    intro n
    induction n with
    | zero => intro a b ha hb; have : a = 0 := by omega
              have : b = 0 := by omega
              subst_vars; rfl
    | succ n ih =>
      intro a b ha hb
      rw [Nat.pow_succ] at ha hb
      have h := ih (a / 2) (b / 2) (by omega) (by omega)
      have e1 := Nat.div_add_mod (a &&& b) 2
      have e2 := Nat.div_add_mod (a ^^^ b) 2
      have e3 := Nat.div_add_mod (a ||| b) 2
      rw [Nat.and_div_two] at e1
      rw [Nat.xor_div_two] at e2
      rw [Nat.or_div_two] at e3
      have m1 : (a &&& b) % 2 = (a % 2) &&& (b % 2) := by rw [show 2 = 2 ^ 1 from rfl, Nat.and_mod_two_pow]
      have m2 : (a ^^^ b) % 2 = (a % 2) ^^^ (b % 2) := by rw [show 2 = 2 ^ 1 from rfl, Nat.xor_mod_two_pow]
      have m3 : (a ||| b) % 2 = (a % 2) ||| (b % 2) := by rw [show 2 = 2 ^ 1 from rfl, Nat.or_mod_two_pow]
      have : (a % 2 &&& b % 2) + (a % 2 ^^^ b % 2) = (a % 2 ||| b % 2) := by
        rcases Nat.mod_two_eq_zero_or_one a with x | x <;> rcases Nat.mod_two_eq_zero_or_one b with y | y <;> rw [x, y] <;> rfl
      omega
  have h := key (a + b) a b (Nat.lt_of_lt_of_le Nat.lt_two_pow_self (Nat.pow_le_pow_right (by decide) (by omega))) (Nat.lt_of_lt_of_le Nat.lt_two_pow_self (Nat.pow_le_pow_right (by decide) (by omega)))
  unfold Builtin.bitXor
  rw [bor_nat, band_nat]
  omega
theorem shr_nat (a k : Nat) : (a : Int) / 2 ^ (k : Int).toNat = ((a / 2 ^ k : Nat) : Int) := by
  rw [Int.toNat_natCast, Int.natCast_ediv, Int.natCast_pow]
  rfl
theorem band_one (a : Nat) : Builtin.bitAnd (a : Int) 1 = ((a % 2 : Nat) : Int) := by rw [bitAnd_m1]; rfl
section
variable {α : Type}
def rowM : List α → Nat → List α
  | [], _ => []
  | c :: cs, m => if m % 2 = 1 then c :: rowM cs (m / 2) else rowM cs (m / 2)
theorem rowM_sub : ∀ (cs : List α) (m : Nat), (rowM cs m).Sublist cs
  | [], _ => .slnil
  | c :: cs, m => by
    unfold rowM
    split
    · exact (rowM_sub cs _).cons₂ c
    · exact (rowM_sub cs _).cons c
theorem mem_rowM {cs : List α} {m : Nat} {x : α} (h : x ∈ rowM cs m) : x ∈ cs := (rowM_sub cs m).subset h
theorem rowM_nd {cs : List α} (h : cs.Nodup) (m : Nat) : (rowM cs m).Nodup := (rowM_sub cs m).nodup h
theorem rowM_len (cs : List α) (m : Nat) : (rowM cs m).length ≤ cs.length := (rowM_sub cs m).length_le
theorem rowM_inj : ∀ {cs : List α}, cs.Nodup → ∀ m m', m < 2 ^ cs.length → m' < 2 ^ cs.length → rowM cs m = rowM cs m' → m = m'
  | [], _, m, m', h, h', _ => by simp at h h'; omega
  | c :: cs, nd, m, m', h, h', e => by
    obtain ⟨n1, n2⟩ := List.nodup_cons.mp nd
    rw [List.length_cons, Nat.pow_succ] at h h'
    unfold rowM at e
    have ih := rowM_inj n2 (m / 2) (m' / 2) (by omega) (by omega)
    split at e <;> split at e
    · have := ih (List.cons.inj e).2
      omega
    · exact absurd (mem_rowM (by rw [← e]; exact List.mem_cons_self)) n1
    · exact absurd (mem_rowM (by rw [e]; exact List.mem_cons_self)) n1
    · have := ih e
      omega
theorem rowM_ne : ∀ {cs : List α} {m : Nat}, m ≠ 0 → m < 2 ^ cs.length → rowM cs m ≠ []
  | [], m, h0, h => by simp at h; omega
  | c :: cs, m, h0, h => by
    unfold rowM
    split
    · exact List.cons_ne_nil _ _
    · rw [List.length_cons, Nat.pow_succ] at h
      exact rowM_ne (by omega) (by omega)
theorem rowM_of (p : α → Bool) : ∀ cs : List α, ∃ m, m < 2 ^ cs.length ∧ rowM cs m = cs.filter p
  | [] => ⟨0, by simp, rfl⟩
  | c :: cs => by
    obtain ⟨m, h, e⟩ := rowM_of p cs
    rw [List.length_cons, Nat.pow_succ]
    by_cases hp : p c = true
    · refine ⟨2 * m + 1, by omega, ?_⟩
      unfold rowM
      rw [if_pos (by omega), show (2 * m + 1) / 2 = m by omega, e, List.filter_cons_of_pos hp]
    · refine ⟨2 * m, by omega, ?_⟩
      unfold rowM
      rw [if_neg (by omega), show (2 * m) / 2 = m by omega, e, List.filter_cons_of_neg hp]
theorem zipIdx_row (m : Nat) : ∀ (cs : List α) (k : Nat), ((cs.zipIdx k).filter fun p => decide (m / 2 ^ p.2 % 2 = 1)).map (·.1) = rowM cs (m / 2 ^ k)
  | [], _ => rfl
  | c :: cs, k => by
    have ih := zipIdx_row m cs (k + 1)
    rw [Nat.pow_succ, ← Nat.div_div_eq_div_mul] at ih
    rw [List.zipIdx_cons]
    unfold rowM
    by_cases h : m / 2 ^ k % 2 = 1
    · rw [if_pos h, List.filter_cons_of_pos (by simp [h]), List.map_cons, ih]
    · rw [if_neg h, List.filter_cons_of_neg (by simp [h]), ih]
theorem enumD_map (g : α → D) (cs : List α) : enumD (cs.map g) = (cs.zipIdx 0).map fun p => D.tup [.int (p.2 : Int), g p.1] := by
  have key : ∀ (cs : List α) (k n : Nat), n = cs.length → zipD ((List.range' k n).map fun i => D.int (0 + (i : Nat))) (cs.map g) = (cs.zipIdx k).map fun p => D.tup [.int (p.2 : Int), g p.1] := by
    intro cs
    induction cs with
    | nil => intro k n h; subst h; rfl
    | cons c cs ih =>
      intro k n h
      subst h
      rw [List.length_cons, List.range'_succ]
      show D.tup [.int (0 + (k : Nat)), g c] :: zipD _ (cs.map g) = _
      rw [ih (k + 1) cs.length rfl, List.zipIdx_cons, List.map_cons]
      simp
  unfold enumD rangeD
  rw [← key cs 0 cs.length rfl, List.length_map, ← List.range_eq_range']
  simp
end
abbrev Cell := Int × Int
def lsD (r : List Cell) : D := .lst (r.map prD)
def subR (o r : List Cell) : Bool := o.all fun c => decide (c ∈ r)
theorem subR_iff {o r : List Cell} : subR o r = true ↔ ∀ c ∈ o, c ∈ r := by simp [subR]
def keepR (u : List (List Cell)) (r : List Cell) : Bool := !(u.any fun o => (!decide (o = r)) && subR o r)
theorem keepR_iff {u : List (List Cell)} {r : List Cell} : keepR u r = true ↔ ∀ o ∈ u, (∀ c ∈ o, c ∈ r) → o = r := by
  unfold keepR
  rw [Bool.not_eq_true', List.any_eq_false]
  constructor
  · intro h o ho hs
    have := h o ho
    simp only [Bool.and_eq_true, Bool.not_eq_true', decide_eq_false_iff_not, subR_iff, not_and] at this
    exact Classical.byContradiction fun z => this z hs
  · intro h o ho
    simp only [Bool.and_eq_true, Bool.not_eq_true', decide_eq_false_iff_not, subR_iff, not_and]
    exact fun n s => n (h o ho s)
def leastU (u : List (List Cell)) : List (List Cell) := u.filter (keepR u)
def leastR (rows : List (List Cell)) : List (List Cell) := leastU (osrtU (rows.map osrt))
theorem row_eq {r s : List Cell} (hr : r.Pairwise OD.lt) (hs : s.Pairwise OD.lt) (h1 : ∀ c ∈ r, c ∈ s) (h2 : ∀ c ∈ s, c ∈ r) : r = s := lt_uniq hr hs fun x => ⟨h1 x, h2 x⟩
theorem sub_len {α : Type} {r s : List α} (hr : r.Nodup) (h : ∀ c ∈ r, c ∈ s) : r.length ≤ s.length := by
  induction r generalizing s with
  | nil => exact Nat.zero_le _
  | cons a r ih =>
    classical
    obtain ⟨n1, n2⟩ := List.nodup_cons.mp hr
    have ha : a ∈ s := h a (by simp)
    have := ih (s := s.erase a) n2 fun c hc => (List.mem_erase_of_ne (fun e => n1 (by rw [← e]; exact hc))).2 (h c (by simp [hc]))
    rw [List.length_erase_of_mem ha] at this
    have := List.length_pos_of_mem ha
    rw [List.length_cons]
    omega
theorem sub_eq {r s : List Cell} (hr : r.Pairwise OD.lt) (hs : s.Pairwise OD.lt) (h : ∀ c ∈ r, c ∈ s) (hl : s.length ≤ r.length) : r = s := by
  refine row_eq hr hs h fun c hc => Classical.byContradiction fun n => ?_
  have : (c :: r).length ≤ s.length := sub_len (List.nodup_cons.mpr ⟨n, lt_nodup hr⟩) fun x hx => by
    rcases List.mem_cons.mp hx with z | z
    · rw [z]; exact hc
    · exact h x z
  rw [List.length_cons] at this
  omega
structure Rows (rows : List (List Cell)) : Prop where
  srt : rows.Pairwise OD.lt
  row : ∀ r ∈ rows, r ≠ [] ∧ r.Pairwise OD.lt
  anti : ∀ r ∈ rows, ∀ s ∈ rows, (∀ c ∈ r, c ∈ s) → r = s
theorem leastU_rows {u : List (List Cell)} (hs : u.Pairwise OD.lt) (hr : ∀ r ∈ u, r ≠ [] ∧ r.Pairwise OD.lt) : Rows (leastU u) := by
  have mem : ∀ r ∈ leastU u, r ∈ u ∧ keepR u r = true := fun r h => List.mem_filter.mp h
  refine ⟨hs.filter _, fun r h => hr r (mem r h).1, fun r h s h' hsub => ?_⟩
  exact keepR_iff.mp (mem s h').2 r (mem r h).1 hsub
theorem least_within {u : List (List Cell)} (hr : ∀ r ∈ u, r.Pairwise OD.lt) : ∀ (n : Nat) (r : List Cell), r.length ≤ n → r ∈ u → ∃ s ∈ leastU u, ∀ c ∈ s, c ∈ r
  | 0, r, hn, h => ⟨r, List.mem_filter.mpr ⟨h, keepR_iff.mpr fun o ho hs => by
      have e : r = [] := List.eq_nil_of_length_eq_zero (by omega)
      subst e
      cases o with
      | nil => rfl
      | cons c o => exact absurd (hs c (by simp)) (by simp)⟩, fun _ h => h⟩
  | n + 1, r, hn, h => by
    by_cases hk : keepR u r = true
    · exact ⟨r, List.mem_filter.mpr ⟨h, hk⟩, fun _ h => h⟩
    · have : ∃ o ∈ u, (∀ c ∈ o, c ∈ r) ∧ o ≠ r := Classical.byContradiction fun z => hk (keepR_iff.mpr fun o ho hs => Classical.byContradiction fun y => z ⟨o, ho, hs, y⟩)
      obtain ⟨o, ho, hs, ne⟩ := this
      have hl : o.length ≤ n := Classical.byContradiction fun z => ne (sub_eq (hr o ho) (hr r h) hs (by omega))
      obtain ⟨s, h1, h2⟩ := least_within hr n o hl ho
      exact ⟨s, h1, fun c hc => hs c (h2 c hc)⟩
theorem osrt_ne {α : Type} [OD α] {r : List α} (h : r ≠ []) : osrt r ≠ [] := fun e => h (by
  have := osrt_len r
  rw [e] at this
  exact List.eq_nil_of_length_eq_zero this.symm)
theorem leastR_u {rows : List (List Cell)} (h : ∀ r ∈ rows, r ≠ [] ∧ r.Nodup) : (osrtU (rows.map osrt)).Pairwise OD.lt ∧ ∀ r ∈ osrtU (rows.map osrt), (r ≠ [] ∧ r.Pairwise OD.lt) ∧ ∃ s ∈ rows, r = osrt s := ⟨osrtU_srt _, fun r hr => by
  obtain ⟨s, hs, rfl⟩ := List.mem_map.mp (mem_osrtU.mp hr)
  exact ⟨⟨osrt_ne (h s hs).1, osrt_lt (h s hs).2⟩, s, hs, rfl⟩⟩
theorem leastR_rows {rows : List (List Cell)} (h : ∀ r ∈ rows, r ≠ [] ∧ r.Nodup) : Rows (leastR rows) := leastU_rows (leastR_u h).1 fun r hr => ((leastR_u h).2 r hr).1
theorem leastR_mem {rows : List (List Cell)} {r : List Cell} (h : r ∈ leastR rows) : ∃ s ∈ rows, r = osrt s := by
  obtain ⟨s, hs, e⟩ := List.mem_map.mp (mem_osrtU.mp (List.mem_filter.mp h).1)
  exact ⟨s, hs, e.symm⟩
theorem leastR_within {rows : List (List Cell)} (h : ∀ r ∈ rows, r ≠ [] ∧ r.Nodup) {r : List Cell} (hr : r ∈ rows) : ∃ s ∈ leastR rows, ∀ c ∈ s, c ∈ r := by
  have hu := leastR_u h
  obtain ⟨s, h1, h2⟩ := least_within (fun r hr => (hu.2 r hr).1.2) _ (osrt r) (Nat.le_refl _) (mem_osrtU.mpr (List.mem_map.mpr ⟨r, hr, rfl⟩))
  exact ⟨s, h1, fun c hc => mem_osrt.mp (h2 c hc)⟩
structure Pln (most : Nat) (P : Cell → Prop) (rows : List (List Cell)) : Prop extends Rows rows where
  ne : rows ≠ []
  cells : ∃ cs : List Cell, cs.length ≤ most ∧ cs.Nodup ∧ (∀ c ∈ cs, P c) ∧ ∀ r ∈ rows, ∀ c ∈ r, c ∈ cs
theorem Pln.rlen {most : Nat} {P : Cell → Prop} {rows : List (List Cell)} (h : Pln most P rows) : ∀ r ∈ rows, r.length ≤ most := fun r hr => by
  obtain ⟨cs, h1, h2, h3, h4⟩ := h.cells
  exact Nat.le_trans (sub_len (lt_nodup (h.row r hr).2) (h4 r hr)) h1
theorem Pln.len {most : Nat} {P : Cell → Prop} {rows : List (List Cell)} (h : Pln most P rows) : rows.length ≤ 2 ^ most := by
  obtain ⟨cs, h1, h2, h3, h4⟩ := h.cells
  have hf : ∀ r ∈ rows, ∃ m, m < 2 ^ most ∧ ∀ c, c ∈ rowM cs m ↔ c ∈ r := fun r hr => by
    obtain ⟨m, e1, e2⟩ := rowM_of (fun c => decide (c ∈ r)) cs
    refine ⟨m, Nat.lt_of_lt_of_le e1 (Nat.pow_le_pow_right (by decide) h1), fun c => ?_⟩
    rw [e2, List.mem_filter, decide_eq_true_iff]
    exact ⟨fun h => h.2, fun h => ⟨h4 r hr c h, h⟩⟩
  classical
  let f : List Cell → Nat := fun r => if h : r ∈ rows then (hf r h).choose else 0
  have fs : ∀ r (h : r ∈ rows), f r < 2 ^ most ∧ ∀ c, c ∈ rowM cs (f r) ↔ c ∈ r := fun r h => by
    show (if h : r ∈ rows then (hf r h).choose else 0) < _ ∧ _
    have e : f r = (hf r h).choose := dif_pos h
    rw [e]
    rw [dif_pos h]
    exact (hf r h).choose_spec
  have nd : (rows.map f).Nodup := by
    refine List.Pairwise.map f (R := fun r s => r ∈ rows ∧ s ∈ rows ∧ OD.lt r s) (fun r s hrs e => ?_) ?_
    · obtain ⟨h1, h2, h3⟩ := hrs
      have e' : r = s := row_eq (h.row r h1).2 (h.row s h2).2 (fun c hc => ((fs s h2).2 c).mp (by rw [← e]; exact ((fs r h1).2 c).mpr hc)) fun c hc => ((fs r h1).2 c).mp (by rw [e]; exact ((fs s h2).2 c).mpr hc)
      rw [e'] at h3
      exact OD.irr _ h3
    · exact List.Pairwise.imp_of_mem (fun {a b} ha hb hl => ⟨ha, hb, hl⟩) h.srt
  have := sub_len (s := List.range (2 ^ most)) nd fun x hx => by
    obtain ⟨r, hr, rfl⟩ := List.mem_map.mp hx
    exact List.mem_range.mpr (fs r hr).1
  rwa [List.length_map, List.length_range] at this
theorem pln_least {most : Nat} {P : Cell → Prop} {rows : List (List Cell)} {cs : List Cell} (hl : cs.length ≤ most) (nd : cs.Nodup) (hP : ∀ c ∈ cs, P c) (hr : ∀ r ∈ rows, r ≠ [] ∧ r.Nodup ∧ ∀ c ∈ r, c ∈ cs) (ne : rows ≠ []) : Pln most P (leastR rows) := by
  have h2 : ∀ r ∈ rows, r ≠ [] ∧ r.Nodup := fun r h => ⟨(hr r h).1, (hr r h).2.1⟩
  refine { toRows := leastR_rows h2, ne := ?_, cells := ⟨cs, hl, nd, hP, fun r h c hc => ?_⟩ }
  · obtain ⟨r, hm⟩ := List.exists_mem_of_ne_nil _ ne
    obtain ⟨s, h1, _⟩ := leastR_within h2 hm
    exact List.ne_nil_of_mem h1
  · obtain ⟨s, hs, rfl⟩ := leastR_mem h
    exact (hr s hs).2.2 c (mem_osrt.mp hc)
theorem pln_all {most : Nat} {P : Cell → Prop} {rows : List (List Cell)} {cs : List Cell} {k : Nat} (hl : cs.length ≤ most) (nd : cs.Nodup) (hP : ∀ c ∈ cs, P c) (hr : ∀ r ∈ rows, r ≠ [] ∧ r.Nodup ∧ (∀ c ∈ r, c ∈ cs) ∧ r.length = k) (ne : rows ≠ []) (hd : (rows.map osrt).Nodup) : Pln most P (osrt (rows.map osrt)) := by
  have mem : ∀ r ∈ osrt (rows.map osrt), ∃ s ∈ rows, r = osrt s := fun r h => by
    obtain ⟨s, hs, e⟩ := List.mem_map.mp (mem_osrt.mp h)
    exact ⟨s, hs, e.symm⟩
  have rw_ : ∀ r ∈ osrt (rows.map osrt), (r ≠ [] ∧ r.Pairwise OD.lt) ∧ r.length = k := fun r h => by
    obtain ⟨s, hs, rfl⟩ := mem r h
    exact ⟨⟨osrt_ne (hr s hs).1, osrt_lt (hr s hs).2.1⟩, by rw [osrt_len]; exact (hr s hs).2.2.2⟩
  refine { toRows := ⟨osrt_lt hd, fun r h => (rw_ r h).1, fun r h s h' hs => sub_eq (rw_ r h).1.2 (rw_ s h').1.2 hs (by rw [(rw_ r h).2, (rw_ s h').2]; exact Nat.le_refl _)⟩, ne := osrt_ne (by simpa using ne), cells := ⟨cs, hl, nd, hP, fun r h c hc => ?_⟩ }
  obtain ⟨s, hs, rfl⟩ := mem r h
  exact (hr s hs).2.2.1 c (mem_osrt.mp hc)
end DL

set_option Elab.async false
set_option linter.all false
set_option maxRecDepth 100000
set_option maxHeartbeats 4000000
namespace DL
open PySem PySem.Spec PyProof.Rows L2
def cp (c p : Cell) : Cell := (c.1 + p.1, c.2 + p.2)
def Br (is r : List Cell) (p : Cell) : Prop := ∀ c ∈ r, cp c p ∈ is
instance (is r : List Cell) (p : Cell) : Decidable (Br is r p) := inferInstanceAs (Decidable (∀ c ∈ r, cp c p ∈ is))
structure Beat (rows : List (List Cell)) (is bs : List Cell) : Prop where
  srt : bs.Pairwise OD.lt
  mem : ∀ p, p ∈ bs ↔ ∃ r ∈ rows, Br is r p
theorem Beat.uniq {rows : List (List Cell)} {is bs bs' : List Cell} (h : Beat rows is bs) (h' : Beat rows is bs') : bs = bs' := lt_uniq h.srt h'.srt fun p => by rw [h.mem, h'.mem]
theorem Br_mem {is is' r : List Cell} {p : Cell} (h : ∀ c, c ∈ is ↔ c ∈ is') : Br is r p ↔ Br is' r p := ⟨fun z c hc => (h _).mp (z c hc), fun z c hc => (h _).mpr (z c hc)⟩
theorem sz16 {n : Nat} (h : n ≤ 10000000) : n < sizeLine ∧ n ≤ sizeLine := by
  rw [sizeLine_eq]
  omega
theorem cp_back (c d p : Cell) : p = cp c (0 - d.1, 0 - d.2) ↔ cp d p = c := by
  unfold cp
  constructor
  · rintro rfl; exact Prod.ext (by show d.1 + (c.1 + (0 - d.1)) = c.1; omega) (by show d.2 + (c.2 + (0 - d.2)) = c.2; omega)
  · rintro rfl; exact Prod.ext (by show p.1 = d.1 + p.1 + (0 - d.1); omega) (by show p.2 = d.2 + p.2 + (0 - d.2); omega)
def bkR (r : List Cell) : Cell := match r with | [] => (0, 0) | d :: _ => (0 - d.1, 0 - d.2)
def Ne (rows : List (List Cell)) : Prop := ∀ r ∈ rows, r ≠ []
def bt (rows : List (List Cell)) (is : List Cell) : List Cell := osrtU ((rows.flatMap fun r => is.map fun c => cp c (bkR r)).filter fun p => decide (∃ r ∈ rows, Br is r p))
theorem bt_beat {rows : List (List Cell)} (hne : Ne rows) (is : List Cell) : Beat rows is (bt rows is) := ⟨osrtU_srt _, fun p => by
  unfold bt
  rw [mem_osrtU, List.mem_filter, decide_eq_true_iff]
  refine ⟨fun h => h.2, fun h => ⟨?_, h⟩⟩
  obtain ⟨r, hr, z⟩ := h
  refine List.mem_flatMap.mpr ⟨r, hr, ?_⟩
  cases r with
  | nil => exact absurd rfl (hne _ hr)
  | cons d r => exact List.mem_map.mpr ⟨cp d p, z d (by simp), ((cp_back _ _ _).mpr rfl).symm⟩⟩
theorem Beat.bt {rows : List (List Cell)} (hne : Ne rows) {is bs : List Cell} (h : Beat rows is bs) : bs = bt rows is := h.uniq (bt_beat hne is)
theorem bt_srt (rows : List (List Cell)) (is : List Cell) : (bt rows is).Pairwise OD.lt := osrtU_srt _
theorem bt_nil (rows : List (List Cell)) : bt rows [] = [] := by
  unfold bt
  rw [show (rows.flatMap fun r => ([] : List Cell).map fun c => cp c (bkR r)) = [] by simp]
  rfl
theorem bt_mem (rows : List (List Cell)) (is is' : List Cell) (hne : Ne rows) (h : ∀ c, c ∈ is ↔ c ∈ is') : bt rows is = bt rows is' := by
  refine Beat.uniq (bt_beat hne is) ⟨bt_srt _ _, fun p => ?_⟩
  rw [(bt_beat hne is').mem]
  exact ⟨fun ⟨r, h1, h2⟩ => ⟨r, h1, (Br_mem h).mpr h2⟩, fun ⟨r, h1, h2⟩ => ⟨r, h1, (Br_mem h).mp h2⟩⟩
theorem bt_mono {rows : List (List Cell)} {is is' : List Cell} (hne : Ne rows) (h : ∀ c ∈ is, c ∈ is') : ∀ c ∈ bt rows is, c ∈ bt rows is' := fun p hp => by
  obtain ⟨r, h1, h2⟩ := ((bt_beat hne is).mem p).mp hp
  exact ((bt_beat hne is').mem p).mpr ⟨r, h1, fun c hc => h _ (h2 c hc)⟩
def itB (rows : List (List Cell)) (is : List Cell) : Nat → List Cell
  | 0 => is
  | n + 1 => bt rows (itB rows is n)
theorem itB_nil (rows : List (List Cell)) : ∀ n, itB rows [] n = []
  | 0 => rfl
  | n + 1 => by
    show bt rows (itB rows [] n) = []
    rw [itB_nil rows n, bt_nil]
def InB (x y W : Int) (is : List Cell) : Prop := ∀ c ∈ is, (x ≤ c.1 ∧ c.1 < x + W) ∧ (y ≤ c.2 ∧ c.2 < y + W)
theorem InB.len {x y W : Int} {is : List Cell} (h : InB x y W is) (nd : is.Nodup) (hW : 0 ≤ W) : is.length ≤ W.toNat * W.toNat := by
  have key : ∀ (l : List Nat) (f : Nat → List Cell) (k : Nat), (∀ a ∈ l, (f a).length = k) → (l.flatMap f).length = l.length * k := by
    intro l f k
    induction l with
    | nil => intro _; simp
    | cons a l ih =>
      intro hf
      rw [List.flatMap_cons, List.length_append, hf a (by simp), ih fun b hb => hf b (by simp [hb]), List.length_cons, Nat.succ_mul]
      omega
  have : is.length ≤ _ := sub_len (s := (List.range W.toNat).flatMap fun a : Nat => (List.range W.toNat).map fun b : Nat => ((x + (a : Int), y + (b : Int)) : Cell)) nd fun c hc => by
    obtain ⟨⟨h1, h2⟩, h3, h4⟩ := h c hc
    refine List.mem_flatMap.mpr ⟨(c.1 - x).toNat, List.mem_range.mpr (by omega), List.mem_map.mpr ⟨(c.2 - y).toNat, List.mem_range.mpr (by omega), ?_⟩⟩
    exact Prod.ext (by show x + ((c.1 - x).toNat : Int) = c.1; omega) (by show y + ((c.2 - y).toNat : Int) = c.2; omega)
  rw [key _ _ W.toNat (fun a _ => by rw [List.length_map, List.length_range]), List.length_range] at this
  exact this
def Mid (rows : List (List Cell)) (m : Cell) : Prop := ∀ r ∈ rows, ((∃ c ∈ r, c.1 ≤ m.1) ∧ ∃ c ∈ r, m.1 ≤ c.1) ∧ (∃ c ∈ r, c.2 ≤ m.2) ∧ ∃ c ∈ r, m.2 ≤ c.2
theorem InB.mid {rows : List (List Cell)} {m : Cell} {x y W : Int} {is : List Cell} (hne : Ne rows) (hm : Mid rows m) (h : InB x y W is) : InB (x - m.1) (y - m.2) W (bt rows is) := fun p hp => by
  obtain ⟨r, hr, z⟩ := ((bt_beat hne is).mem p).mp hp
  obtain ⟨⟨⟨a, a1, a2⟩, ⟨b, b1, b2⟩⟩, ⟨c, c1, c2⟩, ⟨d, d1, d2⟩⟩ := hm r hr
  have ha := (h _ (z a a1)).1.1
  have hb := (h _ (z b b1)).1.2
  have hc := (h _ (z c c1)).2.1
  have hd := (h _ (z d d1)).2.2
  simp only [cp] at ha hb hc hd
  omega
theorem InB.grow {rows : List (List Cell)} {w x y W : Int} {is : List Cell} (hne : Ne rows) (hm : ∀ r ∈ rows, ∀ c ∈ r, (-w ≤ c.1 ∧ c.1 ≤ w) ∧ (-w ≤ c.2 ∧ c.2 ≤ w)) (h : InB x y W is) : InB (x - w) (y - w) (W + 2 * w) (bt rows is) := fun p hp => by
  obtain ⟨r, hr, z⟩ := ((bt_beat hne is).mem p).mp hp
  obtain ⟨c, hc⟩ := List.exists_mem_of_ne_nil _ (hne r hr)
  have h1 := h _ (z c hc)
  have h2 := hm r hr c hc
  simp only [cp] at h1
  omega
theorem bt_com {rows : List (List Cell)} {d : Cell} {is : List Cell} (hne : Ne rows) (hd : ∀ r ∈ rows, d ∈ r) : (bt rows is).length ≤ is.length := by
  have : ((bt rows is).map (cp d)).length ≤ is.length := sub_len (List.Pairwise.map _ (fun a b hab e => hab (by
      simp only [cp, Prod.mk.injEq] at e
      exact Prod.ext (by omega) (by omega))) (lt_nodup (bt_srt rows is))) fun x hx => by
    obtain ⟨p, hp, rfl⟩ := List.mem_map.mp hx
    obtain ⟨r, hr, z⟩ := ((bt_beat hne is).mem p).mp hp
    exact z d (hd r hr)
  rwa [List.length_map] at this
def Fit (rows : List (List Cell)) (is : List Cell) (N : Nat) : Prop := ∀ n, n ≤ N → (itB rows is n).length ≤ 1000
theorem fit_mid {rows : List (List Cell)} {m : Cell} {x y W : Int} {is : List Cell} (hne : Ne rows) (hm : Mid rows m) (h : InB x y W is) (hW : 0 ≤ W) (hw : W.toNat * W.toNat ≤ 1000) (hl : is.length ≤ 1000) (N : Nat) : Fit rows is N := by
  have hb : ∀ n, ∃ x y, InB x y W (itB rows is n) := fun n => by
    induction n with
    | zero => exact ⟨x, y, h⟩
    | succ n ih =>
      obtain ⟨x, y, h⟩ := ih
      exact ⟨_, _, h.mid hne hm⟩
  intro n _
  cases n with
  | zero => exact hl
  | succ n =>
    obtain ⟨x, y, h⟩ := hb (n + 1)
    exact Nat.le_trans (h.len (lt_nodup (bt_srt _ _)) hW) hw
theorem fit_com {rows : List (List Cell)} {d : Cell} {is : List Cell} (hne : Ne rows) (hd : ∀ r ∈ rows, d ∈ r) (hl : is.length ≤ 1000) (N : Nat) : Fit rows is N := by
  intro n _
  induction n with
  | zero => exact hl
  | succ n ih => exact Nat.le_trans (bt_com hne hd) (ih (by omega))
theorem fit_grow {rows : List (List Cell)} {w x y W : Int} {is : List Cell} (N : Nat) (hne : Ne rows) (hm : ∀ r ∈ rows, ∀ c ∈ r, (-w ≤ c.1 ∧ c.1 ≤ w) ∧ (-w ≤ c.2 ∧ c.2 ≤ w)) (h : InB x y W is) (hW : 0 ≤ W) (hw0 : 0 ≤ w) (hw : (W + 2 * w * N).toNat * (W + 2 * w * N).toNat ≤ 1000) (hl : is.length ≤ 1000) : Fit rows is N := by
  have hb : ∀ n : Nat, ∃ x y, InB x y (W + 2 * w * n) (itB rows is n) := fun n => by
    induction n with
    | zero => exact ⟨x, y, by rw [show W + 2 * w * ((0 : Nat) : Int) = W by simp]; exact h⟩
    | succ n ih =>
      obtain ⟨x, y, h⟩ := ih
      have := h.grow hne hm
      rw [show W + 2 * w * n + 2 * w = W + 2 * w * ((n + 1 : Nat) : Int) by rw [Int.natCast_add, Int.mul_add]; omega] at this
      exact ⟨_, _, this⟩
  intro n hn
  cases n with
  | zero => exact hl
  | succ n =>
    obtain ⟨x, y, h⟩ := hb (n + 1)
    have h0 : 0 ≤ 2 * w * ((n + 1 : Nat) : Int) := Int.mul_nonneg (by omega) (by omega)
    have h1 : 2 * w * ((n + 1 : Nat) : Int) ≤ 2 * w * (N : Int) := Int.mul_le_mul_of_nonneg_left (by omega) (by omega)
    exact Nat.le_trans (h.len (lt_nodup (bt_srt _ _)) (by omega)) (Nat.le_trans (Nat.mul_le_mul (by omega) (by omega)) hw)
theorem Fit.mono {rows : List (List Cell)} {is : List Cell} {N M : Nat} (h : Fit rows is N) (hm : M ≤ N) : Fit rows is M := fun n hn => h n (by omega)
def fw : List (List Cell) → Nat → Option Nat
  | [], _ => none
  | x :: l, k => if x = [] then some k else fw l (k + 1)
def oD : Option Nat → D
  | none => .non
  | some k => .int (k : Int)
theorem fw_nil (k : Nat) : fw [] k = none := rfl
theorem fw_hit {l : List (List Cell)} {k : Nat} : fw ([] :: l) k = some k := by simp [fw]
theorem fw_step {x : List Cell} {l : List (List Cell)} {k : Nat} (h : x ≠ []) : fw (x :: l) k = fw l (k + 1) := by simp [fw, h]
end DL

set_option Elab.async false
set_option linter.all false
set_option maxRecDepth 100000
set_option maxHeartbeats 4000000
namespace DL
open PySem PySem.Spec PyProof.Rows L2
theorem itB_mono {rows : List (List Cell)} {is is' : List Cell} (hne : Ne rows) (h : ∀ c ∈ is, c ∈ is') : ∀ n, ∀ c ∈ itB rows is n, c ∈ itB rows is' n
  | 0 => h
  | n + 1 => bt_mono hne (itB_mono hne h n)
def mv (b : Cell) (is : List Cell) : List Cell := is.map fun c => cp c b
theorem mem_mv {b p : Cell} {is : List Cell} : cp p b ∈ mv b is ↔ p ∈ is := by
  unfold mv
  rw [List.mem_map]
  constructor
  · rintro ⟨q, hq, e⟩
    have : q = p := by
      simp only [cp, Prod.mk.injEq] at e
      exact Prod.ext (by omega) (by omega)
    rwa [← this]
  · exact fun h => ⟨p, h, rfl⟩
theorem lt_cp {p q b : Cell} (h : OD.lt p q) : OD.lt (cp p b) (cp q b) := by
  rw [lt_iff] at *
  unfold ltI2 at *
  unfold cp
  simp only
  omega
theorem mv_srt {b : Cell} {is : List Cell} (h : is.Pairwise OD.lt) : (mv b is).Pairwise OD.lt := List.Pairwise.map _ (fun _ _ => lt_cp) h
theorem bt_mv {rows : List (List Cell)} (hne : Ne rows) (b : Cell) (is : List Cell) : bt rows (mv b is) = mv b (bt rows is) := by
  refine Beat.uniq (bt_beat hne _) ⟨mv_srt (bt_srt _ _), fun p => ?_⟩
  obtain ⟨q, rfl⟩ : ∃ q, p = cp q b := ⟨(p.1 - b.1, p.2 - b.2), Prod.ext (by show p.1 = p.1 - b.1 + b.1; omega) (by show p.2 = p.2 - b.2 + b.2; omega)⟩
  rw [mem_mv, (bt_beat hne is).mem]
  have e : ∀ r : List Cell, Br (mv b is) r (cp q b) ↔ Br is r q := fun r => by
    have e2 : ∀ c : Cell, cp c (cp q b) = cp (cp c q) b := fun c => Prod.ext (by show c.1 + (q.1 + b.1) = c.1 + q.1 + b.1; omega) (by show c.2 + (q.2 + b.2) = c.2 + q.2 + b.2; omega)
    exact ⟨fun h c hc => by have := h c hc; rw [e2, mem_mv] at this; exact this, fun h c hc => by rw [e2, mem_mv]; exact h c hc⟩
  exact ⟨fun ⟨r, h1, h2⟩ => ⟨r, h1, (e r).mpr h2⟩, fun ⟨r, h1, h2⟩ => ⟨r, h1, (e r).mp h2⟩⟩
theorem itB_mv {rows : List (List Cell)} (hne : Ne rows) (b : Cell) (is : List Cell) : ∀ n, itB rows (mv b is) n = mv b (itB rows is n)
  | 0 => rfl
  | n + 1 => by
    show bt rows (itB rows (mv b is) n) = mv b (bt rows (itB rows is n))
    rw [itB_mv hne b is n, bt_mv hne]
def loneL (rows : List (List Cell)) (c : Cell) : List Cell := (rows.filter fun r => decide (r.length = 1)).map fun r => (c.1 + (bkR r).1, c.2 + (bkR r).2)
theorem bt_one {rows : List (List Cell)} (h : Rows rows) (c : Cell) : bt rows [c] = osrt (loneL rows c) := by
  have hne : Ne rows := fun r hr => (h.row r hr).1
  have one : ∀ r ∈ rows, r.length = 1 → ∃ d, r = [d] := fun r _ hl => by
    match r, hl with
    | [d], _ => exact ⟨d, rfl⟩
  refine Beat.uniq (bt_beat hne _) ⟨osrt_lt ?_, fun p => ?_⟩
  · unfold loneL
    refine List.Pairwise.map (R := fun r s => (r ∈ rows ∧ r.length = 1) ∧ (s ∈ rows ∧ s.length = 1) ∧ r ≠ s) _ (fun r s ⟨⟨a1, a2⟩, ⟨b1, b2⟩, ne⟩ e => ne ?_) (List.Pairwise.imp_of_mem (fun {a b} ha hb hab => ⟨by simpa using List.mem_filter.mp ha, by simpa using List.mem_filter.mp hb, hab⟩) ((lt_nodup h.srt).filter _))
    obtain ⟨d, rfl⟩ := one r a1 a2
    obtain ⟨d', rfl⟩ := one s b1 b2
    simp only [bkR, Prod.mk.injEq] at e
    rw [show d = d' from Prod.ext (by omega) (by omega)]
  · rw [mem_osrt]
    unfold loneL
    rw [List.mem_map]
    constructor
    · rintro ⟨r, hr, rfl⟩
      obtain ⟨h1, h2⟩ := List.mem_filter.mp hr
      obtain ⟨d, rfl⟩ := one r h1 (by simpa using h2)
      refine ⟨[d], h1, fun x hx => ?_⟩
      rw [List.mem_singleton.mp hx]
      simp only [List.mem_singleton, bkR, cp]
      exact Prod.ext (by show d.1 + (c.1 + (0 - d.1)) = c.1; omega) (by show d.2 + (c.2 + (0 - d.2)) = c.2; omega)
    · rintro ⟨r, hr, z⟩
      have all : ∀ x ∈ r, ∀ y ∈ r, x = y := fun x hx y hy => by
        have h1 := List.mem_singleton.mp (z x hx)
        have h2 := List.mem_singleton.mp (z y hy)
        rw [← h2] at h1
        simp only [cp, Prod.mk.injEq] at h1
        exact Prod.ext (by omega) (by omega)
      match r, hr, z, all with
      | [], hr, _, _ => exact absurd rfl (hne _ hr)
      | [d], hr, z, _ =>
        refine ⟨[d], List.mem_filter.mpr ⟨hr, rfl⟩, ?_⟩
        have h1 := List.mem_singleton.mp (z d (by simp))
        have h2 := congrArg Prod.fst h1
        have h3 := congrArg Prod.snd h1
        simp only [cp] at h2 h3
        exact Prod.ext (by show c.1 + (0 - d.1) = p.1; omega) (by show c.2 + (0 - d.2) = p.2; omega)
      | d :: e :: r, hr, _, all =>
        have := (h.row _ hr).2
        have e1 : d = e := all d (by simp) e (by simp)
        subst e1
        exact absurd ((List.pairwise_cons.mp this).1 d (by simp)) (OD.irr _)
def XB (a b : Int) (is : List Cell) : Prop := ∀ c ∈ is, a ≤ c.1 ∧ c.1 ≤ b
theorem bt_xb {rows : List (List Cell)} {w a b : Int} {is : List Cell} (hne : Ne rows) (hm : ∀ r ∈ rows, ∀ c ∈ r, -w ≤ c.1 ∧ c.1 ≤ w) (h : XB a b is) : XB (a - w) (b + w) (bt rows is) := fun p hp => by
  obtain ⟨r, hr, z⟩ := ((bt_beat hne is).mem p).mp hp
  obtain ⟨c, hc⟩ := List.exists_mem_of_ne_nil _ (hne r hr)
  have h1 := h _ (z c hc)
  have h2 := hm r hr c hc
  simp only [cp] at h1
  omega
theorem bt_sep {rows : List (List Cell)} {w a b a' b' : Int} {A B : List Cell} (hne : Ne rows) (hm : ∀ r ∈ rows, ∀ c ∈ r, -w ≤ c.1 ∧ c.1 ≤ w) (hA : XB a b A) (hB : XB a' b' B) (hs : b + 2 * w < a') : bt rows (osrtU (A ++ B)) = osrtU (bt rows A ++ bt rows B) := by
  refine Beat.uniq (bt_beat hne _) ⟨osrtU_srt _, fun p => ?_⟩
  have mm : ∀ c, c ∈ osrtU (A ++ B) ↔ c ∈ A ∨ c ∈ B := fun c => by rw [mem_osrtU, List.mem_append]
  rw [mem_osrtU, List.mem_append, (bt_beat hne A).mem, (bt_beat hne B).mem]
  constructor
  · rintro (⟨r, h1, h2⟩ | ⟨r, h1, h2⟩)
    · exact ⟨r, h1, fun c hc => (mm _).mpr (.inl (h2 c hc))⟩
    · exact ⟨r, h1, fun c hc => (mm _).mpr (.inr (h2 c hc))⟩
  · rintro ⟨r, h1, h2⟩
    obtain ⟨d, hd⟩ := List.exists_mem_of_ne_nil _ (hne r h1)
    have bd := hm r h1 d hd
    rcases (mm _).mp (h2 d hd) with z | z
    · refine .inl ⟨r, h1, fun c hc => ((mm _).mp (h2 c hc)).resolve_right fun y => ?_⟩
      have bc := hm r h1 c hc
      have h3 := (hA _ z).2
      have h4 := (hB _ y).1
      simp only [cp] at h3 h4
      omega
    · refine .inr ⟨r, h1, fun c hc => ((mm _).mp (h2 c hc)).resolve_left fun y => ?_⟩
      have bc := hm r h1 c hc
      have h3 := (hA _ y).2
      have h4 := (hB _ z).1
      simp only [cp] at h3 h4
      omega
theorem itB_sep {rows : List (List Cell)} {w : Int} (hne : Ne rows) (hw : 0 ≤ w) (hm : ∀ r ∈ rows, ∀ c ∈ r, -w ≤ c.1 ∧ c.1 ≤ w) {a b a' b' : Int} {A B : List Cell} (hA : XB a b A) (hB : XB a' b' B) : ∀ n : Nat, b + 2 * w * (n + 1) < a' → itB rows (osrtU (A ++ B)) n = osrtU (itB rows A n ++ itB rows B n) ∧ XB (a - w * n) (b + w * n) (itB rows A n) ∧ XB (a' - w * n) (b' + w * n) (itB rows B n)
  | 0, _ => by
    refine ⟨rfl, ?_, ?_⟩
    · rw [show a - w * ((0 : Nat) : Int) = a by simp, show b + w * ((0 : Nat) : Int) = b by simp]; exact hA
    · rw [show a' - w * ((0 : Nat) : Int) = a' by simp, show b' + w * ((0 : Nat) : Int) = b' by simp]; exact hB
  | n + 1, h => by
    have e1 : w * ((n + 1 : Nat) : Int) = w * n + w := by rw [Int.natCast_add, Int.mul_add]; simp
    have e2 : 2 * w * ((n : Int) + 1) = 2 * (w * n) + 2 * w := by rw [Int.mul_add, Int.mul_assoc]; omega
    have e3 : 2 * w * (((n + 1 : Nat) : Int) + 1) = 2 * (w * n) + 4 * w := by rw [Int.mul_add, Int.mul_assoc, e1]; omega
    rw [e3] at h
    obtain ⟨i1, i2, i3⟩ := itB_sep hne hw hm hA hB n (by rw [e2]; omega)
    refine ⟨?_, ?_, ?_⟩
    · show bt rows (itB rows (osrtU (A ++ B)) n) = _
      rw [i1]
      exact bt_sep hne hm i2 i3 (by omega)
    · rw [e1]
      have := bt_xb hne hm i2
      rw [show a - (w * n + w) = a - w * n - w by omega, show b + (w * n + w) = b + w * n + w by omega]
      exact this
    · rw [e1]
      have := bt_xb hne hm i3
      rw [show a' - (w * n + w) = a' - w * n - w by omega, show b' + (w * n + w) = b' + w * n + w by omega]
      exact this
theorem bt_len {rows : List (List Cell)} {is cs : List Cell} (hne : Ne rows) (hc : ∀ r ∈ rows, ∀ c ∈ r, c ∈ cs) : (bt rows is).length ≤ cs.length * is.length := by
  have key : ∀ cs : List Cell, (cs.flatMap fun d => is.map fun c => cp c (0 - d.1, 0 - d.2)).length = cs.length * is.length := by
    intro cs
    induction cs with
    | nil => simp
    | cons d cs ih =>
      rw [List.flatMap_cons, List.length_append, List.length_map, ih, List.length_cons, Nat.succ_mul]
      omega
  have : (bt rows is).length ≤ _ := sub_len (s := cs.flatMap fun d => is.map fun c => cp c (0 - d.1, 0 - d.2)) (lt_nodup (bt_srt _ _)) fun p hp => by
    obtain ⟨r, hr, z⟩ := ((bt_beat hne is).mem p).mp hp
    obtain ⟨d, hd⟩ := List.exists_mem_of_ne_nil _ (hne r hr)
    exact List.mem_flatMap.mpr ⟨d, hc r hr d hd, List.mem_map.mpr ⟨cp d p, z d hd, ((cp_back _ _ _).mpr rfl).symm⟩⟩
  rwa [key] at this
theorem cutA_last {α : Type} (l : List α) (x : α) : cutA (l ++ [x]) (some (-1)) none = [x] := by
  unfold cutA
  have e : HT.sIx (l ++ [x]).length 0 (some (-1)) = l.length := by
    show (if (-1 : Int) < 0 then ((-1 : Int) + ((l ++ [x]).length : Int)).toNat else min (-1 : Int).toNat (l ++ [x]).length) = l.length
    rw [if_pos (by decide), List.length_append, List.length_singleton]
    omega
  rw [HT.sIx_none, e]
  simp
end DL

set_option Elab.async false
set_option linter.all false
set_option maxRecDepth 100000
set_option maxHeartbeats 4000000
namespace DLR
open PySem PySem.Spec PyProof.Rows L2 HT
section
variable {prog : Program} {w : World} {A : Around} {E : Value → Shared → Prop} {s : Shared}
theorem adjust_rev (n : Nat) : Builtin.Slice.sliceAdjust none none (-1) (n : Int) = ((n : Int) - 1, -1) := by
  unfold Builtin.Slice.sliceAdjust
  first
  | rfl
  | simp
theorem places_rev (n : Nat) : Builtin.Slice.slicePlaces ((n : Int) - 1) (-1) (-1) = n := by
  unfold Builtin.Slice.slicePlaces
  have h1 : ¬ ((-1 : Int) > 0) := by decide
  rw [if_neg h1]
  by_cases h : (n : Int) - 1 > -1
  · rw [if_pos h, show ((n : Int) - 1 - -1 - 1) / (- -1) + 1 = (n : Int) by rw [show (- -1 : Int) = 1 by decide, Int.ediv_one]; omega, Int.toNat_natCast]
  · rw [if_neg h]
    have : n = 0 := by omega
    subst this
    rfl
theorem pick_rev (xs : Array Value) : ((List.range xs.size).filterMap fun (m : Nat) => xs[((xs.size : Int) - 1 + (m : Int) * (-1)).toNat]?).toArray = xs.toList.reverse.toArray := by
  have e : (List.range xs.size).filterMap (fun (m : Nat) => xs[((xs.size : Int) - 1 + (m : Int) * (-1)).toNat]?) = ((List.range xs.size).map fun k => xs.size - 1 - k).filterMap (xs[·]?) := by
    rw [List.filterMap_map]
    have key : ∀ l : List Nat, l.filterMap (fun (m : Nat) => xs[((xs.size : Int) - 1 + (m : Int) * (-1)).toNat]?) = l.filterMap ((fun x => xs[x]?) ∘ fun k => xs.size - 1 - k) := by
      intro l
      congr 1
      funext k
      show xs[((xs.size : Int) - 1 + (k : Int) * (-1)).toNat]? = xs[xs.size - 1 - k]?
      rw [show ((xs.size : Int) - 1 + (k : Int) * (-1)).toNat = xs.size - 1 - k by omega]
    exact key _
  rw [e, PySem.W.krv_range, List.filterMap_reverse, PySem.W.krv_all]
theorem sliceApplied_rev {sl : Addr} {vl vu vs : Value} {n : Nat} {Q : Int × Int × Nat → Shared → Prop} (hs : s.heap.IsSliceOf sl vl vu vs) (pl : IsPart vl none) (pu : IsPart vu none) (ps : IsPart vs (some (-1)))
    (h : Q ((n : Int) - 1, -1, n) s) : wpAny (model prog w) A (Builtin.Slice.sliceApplied (.ref sl) (pure (n : Int))) Q E s := by
  obtain ⟨os, hos, hcs, hds⟩ := id hs
  unfold Builtin.Slice.sliceApplied Builtin.Slice.sliceFields
  refine wpAny_bind (wpAny_bind (wpAny_field hos hds (x := vl) rfl (wpAny_bind (wpAny_field hos hds (x := vu) rfl (wpAny_bind (wpAny_field hos hds (x := vs) rfl (wpAny_pure ?_)))))))
  refine wpAny_bind (slicePart_ ps ?_)
  show wpAny _ _ (if ((-1 : Int) == 0) = true then _ else _) _ _ s
  rw [if_neg (by decide)]
  refine wpAny_bind (slicePart_ pl (wpAny_bind (slicePart_ pu (wpAny_bind (wpAny_pure ?_)))))
  show wpAny _ _ (match Builtin.Slice.sliceAdjust none none (-1) (n : Int) with | (lo, hi) => pure (lo, (-1 : Int), Builtin.Slice.slicePlaces lo hi (-1))) _ _ s
  rw [adjust_rev n]
  show wpAny _ _ (pure ((n : Int) - 1, (-1 : Int), Builtin.Slice.slicePlaces ((n : Int) - 1) (-1) (-1))) _ _ s
  rw [places_rev]
  exact wpAny_pure h
theorem getItem_tuple_rev {t sl : Addr} {items : Array Value} {vl vu vs : Value} {Q : Value → Shared → Prop} (ht : IsTup s.heap t items) (hs : s.heap.IsSliceOf sl vl vu vs) (pl : IsPart vl none) (pu : IsPart vu none) (ps : IsPart vs (some (-1)))
    (h : Q (.ref s.heap.objs.size) { s with heap := s.heap.push { cls := .type "tuple", data := .seq items.toList.reverse.toArray } })
    (hsz : items.size ≤ sizeLine) : wpAny (model prog w) A (getItem (.ref t) (.ref sl)) Q E s := by
  have hrv : sizeOk (.seq items.toList.reverse.toArray) := by
    show items.toList.reverse.toArray.size ≤ sizeLine
    rw [List.size_toArray, List.length_reverse, Array.length_toList]
    exact hsz
  obtain ⟨os, hos, hcs, hds⟩ := id hs
  have hTs : s.TypeIs (.ref sl) "slice" := ⟨os, hos, hcs⟩
  unfold getItem
  try with_reducible refine wpAny_holding ?_
  first | refine wpAny_bind (wpAny_pure ?_) | skip
  refine wpAny_bind (wpAny_sequenceKey ht.typeIs (by decide) ?_)
  refine wpAny_bind (wpAny_callSpecial?_slot (name := Str.ofString "__getitem__") ht.typeIs PyProof.Rows.slot_tuple_getitem
    (wpAny_call_entry PyProof.Rows.slot_tuple_getitem ht.typeIs entry_tuple_getitem ?_ (args_tuple_getitem _ _)))
  show wpAny _ _ (Builtin.Tuple.tupleItemsOf (.ref t) >>= _) _ _ s
  refine wpAny_bind (tupleItemsOf_ ht ?_)
  refine wpAny_bind (wpAny_typeOf hTs ?_)
  rw [if_pos (by decide)]
  refine wpAny_bind (sliceApplied_rev hs pl pu ps ?_)
  have hno : ¬ (((((items.size : Int) - 1) == 0) && ((-1 : Int) == 1) && (items.size == items.size)) = true) := by
    rw [show ((-1 : Int) == 1) = false by decide, Bool.and_false, Bool.false_and]
    exact Bool.false_ne_true
  show wpAny _ _ (if ((((items.size : Int) - 1) == 0) && ((-1 : Int) == 1) && (items.size == items.size)) = true then _ else _) _ _ s
  rw [if_neg hno, pick_rev]
  first
    | exact wpAny_bind (m := Builtin.Tuple.tupleExact _) (wpAny_newObj_type (wpAny_pure ⟨_, rfl, wpAny_pure h⟩) hrv)
    | exact wpAny_bind (m := Builtin.Tuple.tupleExact _) (wpAny_newObj_type (wpAny_bind (wpAny_pure (wpAny_pure ⟨_, rfl, wpAny_pure h⟩))) hrv)
end
section
variable {X : Cx}
def tRevA (K : PySem.W.Frag) (te : TE) : TE := fun σ H Q => te σ H fun x H1 => ∃ a xs, x = .ref a ∧ ((SqL K H1 a xs ∧ ∀ p, H1 p = none → Q (.ref p) (upd H1 p (.lst xs.reverse))) ∨ (SqT K H1 a xs ∧ ∀ p, H1 p = none → Q (.ref p) (upd H1 p (.tup xs.reverse))))
theorem pe_revA {e : Expr} {te : TE} {k : Nat} {p1 p2 p3 pos : Pos} (he : PE X e te) : PE X (.Subscript e (.Slice none none (some (.UnaryOp .USub (.Constant (.int 1) k p1) p2)) p3) pos) (tRevA X.K te) := by
  refine ⟨fun pins s σ H Q I h => ?_⟩
  refine Subscript_ (thn (he.run pins s σ H _ I h) fun v s1 ⟨x, H1, I1, r1, q1⟩ => ?_)
  obtain ⟨a, xs, ex, q⟩ := q1
  subst ex
  cases r1
  have hst : PO X (some (.UnaryOp .USub (.Constant (.int 1) k p1) p2)) (tPart (tUn (rU fun i => .int (-i)) (tC (.int 1)))) := po_some (pe_un un_neg pe_int)
  refine wpAny_Slice (thn (po_none.run pins s1 σ H1 (fun o H2 => o = none ∧ H2 = H1) I1 ⟨rfl, rfl⟩) fun vl s2 ⟨l, H2, I2, pl, el, e2⟩ => ?_)
  subst el e2
  refine thn (po_none.run pins s2 σ H2 (fun o H3 => o = none ∧ H3 = H2) I2 ⟨rfl, rfl⟩) fun vu s3 ⟨u, H3, I3, pu, eu, e3⟩ => ?_
  subst eu e3
  refine thn (hst.run pins s3 σ H3 (fun o H4 => o = some (-1) ∧ H4 = H3) I3 ⟨1, rfl, -1, rfl, rfl, rfl⟩) fun vs s4 ⟨o, H4, I4, ps, eo, e4⟩ => ?_
  subst eo e4
  have I5 : Inv X pins σ H4 { s4 with heap := s4.heap.push { cls := .type "slice", data := .fields #[vl, vu, vs] } } := I4.kept (t' := s4.toks) fun b ob q => Heap.get?_push_of_some _ q
  show wpAny (model X.prog X.w) X.A (subscriptTail e (.Slice none none (some (.UnaryOp .USub (.Constant (.int 1) k p1) p2)) p3) (.ref a) (.ref s4.heap.objs.size)) (EP X pins σ Q) X.xe { s4 with heap := s4.heap.push { cls := .type "slice", data := .fields #[vl, vu, vs] } }
  rcases q with ⟨hx, q⟩ | ⟨hx, q⟩
  · obtain ⟨its, r, ht, hz⟩ := I5.list hx
    have hlen := r.length
    refine tail_any (ops := [.ref a, .ref s4.heap.objs.size]) ht.isList.typeIs (PySem.slot_list_getitem.lookup) ?_ (by with_unfolding_all rfl)
    refine wpAny_getItem_list_slice ht.isList (Heap.IsSliceOf.new _ vl vu vs) pl pu ps (by decide) ?_ (by rw [List.size_toArray]; omega)
    rw [PySem.W.krv_pick]
    refine ⟨.ref _, _, I5.laid (t' := s4.toks) (o := .lst xs.reverse) (fun b ob q => Heap.get?_push_of_some _ q) (Nat.le_refl _) ?_, rfl, q _ (I5.hok.fresh (Nat.le_refl _))⟩
    exact ⟨by rw [List.length_reverse]; exact hz, _, 0, r.reverse, Heap.get?_push_size _ rfl⟩
  · obtain ⟨its, r, ht, hz⟩ := I5.tuple hx
    have hlen : its.toArray.size = xs.length := by rw [List.size_toArray]; exact r.length.symm
    refine tail_any (ops := [.ref a, .ref s4.heap.objs.size]) ht.typeIs (PyProof.Rows.slot_tuple_getitem.lookup) ?_ (by with_unfolding_all rfl)
    refine getItem_tuple_rev ht (Heap.IsSliceOf.new _ vl vu vs) pl pu ps ?_ (by rw [hlen]; exact hz)
    refine ⟨.ref _, _, I5.laid (t' := s4.toks) (o := .tup xs.reverse) (fun b ob q => Heap.get?_push_of_some _ q) (Nat.le_refl _) ?_, rfl, q _ (I5.hok.fresh (Nat.le_refl _))⟩
    exact ⟨by rw [List.length_reverse]; exact hz, _, r.reverse, IsTup.new _ _⟩
end
end DLR
namespace DL
open PySem PySem.Spec PyProof.Rows L2 DLR
section
variable {X : Cx} {own : List Nat} {p : TED}
def dRevA (x : D) (R : D → Prop) : Prop := match x with | .lst ds => R (.lst ds.reverse) | .tup ds => R (.tup ds.reverse) | _ => False
theorem e_revA {e : Expr} {k : Nat} {q1 q2 p3 pos : Pos} (he : PE X e (lift X.K own .weak p)) : PE X (.Subscript e (.Slice none none (some (.UnaryOp .USub (.Constant (.int 1) k q1) q2)) p3) pos) (lift X.K own .strong (p1 dRevA p)) :=
  pe_imp (pe_revA he) fun σ H Q ⟨c, A, ρ, R, hk, E, hp, f⟩ => ⟨c, A, ρ, _, hk, E, hp, fun c1 v H1 d t1 r1 g1 => by
    cases d with
    | lst ds =>
      obtain ⟨a, vs, rfl, z1, n1, rl1⟩ := RepW.lst r1
      exact ⟨a, vs, rfl, .inl ⟨.inl (.inl n1), fun p hp => f c1 (.ref p) _ _ (t1.more hp) (Fr.strong (t1.more hp) E (Fr.back t1 (Fr.newL (E.step t1) hp (by rw [List.length_reverse]; exact z1) rl1.rev))) g1⟩⟩
    | tup ds =>
      obtain ⟨a, vs, rfl, n1, rl1⟩ := RepW.tup r1
      have s1 := n1.sq
      rw [t1.kk.trans hk] at s1
      refine ⟨a, vs, rfl, .inr ⟨s1, fun p hp => f c1 (.ref p) _ _ (t1.more hp) (Res.back (k := .strong) t1 (Rep.newT (E.step t1) hp (by rw [List.length_reverse]; exact n1.1) rl1.rev)) g1⟩⟩
    | _ => exact g1.elim⟩
variable {ds : List D} {R : D → Prop}
theorem x_revAL : dRevA (.lst ds) R = R (.lst ds.reverse) := propext Iff.rfl
theorem x_revAT : dRevA (.tup ds) R = R (.tup ds.reverse) := propext Iff.rfl
end
end DL

set_option Elab.async false
set_option linter.all false
set_option maxRecDepth 100000
set_option maxHeartbeats 4000000
namespace DL
open PySem PySem.Spec PyProof.Rows L2
section
variable {X : Cx}
def rSumT (K : PySem.W.Frag) : List V → Hp → VK → Prop := fun vs H Q => ∃ (a : Addr) (ns : List Int), vs = [V.ref a] ∧ SqT K H a (ns.map V.int) ∧ Q (.int ns.sum) H
theorem cr_sumT (hc : X.calm = true) : CallR X (.builtin "sum") (rSumT X.K) := by
  intro pins s σ H vs us Q I r h
  obtain ⟨a, ns, rfl, hs, q⟩ := h
  obtain ⟨its, rv, hl, _⟩ := I.tuple hs
  rw [Vals.ref1 r]
  obtain ⟨xs, e⟩ := rv.ints.allInts.items
  have hn : numsOf (intItems xs).toList = ns := by rw [← e]; exact rv.ints.numsOf
  rw [nums_intItems] at hn
  rw [e] at hl
  refine PySem.W.ktm_sumG (I.ok.hd hc) hl fun h' tk t' hk => ?_
  rw [preSum_eq, List.take_of_length_le (by simp), hn]
  exact ⟨.int _, H, I.kept hk, ⟨_, rfl⟩, q⟩
theorem call_sumA (hc : X.calm = true) : CallR X (.builtin "sum") (fun vs H Q => rSum X.K vs H Q ∨ rSumT X.K vs H Q) := (cr_sum hc).or (cr_sumT hc)
end
def dSumA (ds : List D) (R : D → Prop) : Prop := oneD ds fun x => match x with
  | .lst es => ∃ ns : List Int, es = ns.map D.int ∧ R (.int ns.sum)
  | .tup es => ∃ ns : List Int, es = ns.map D.int ∧ R (.int ns.sum)
  | _ => False
theorem c_sumA {K : PySem.W.Frag} : CL K (fun vs H Q => rSum K vs H Q ∨ rSumT K vs H Q) .strong dSumA := fun c own A σ ρ H vs ds R Q hk E r g q => by
  obtain ⟨x, rfl, g⟩ := oneD_iff g
  match r with
  | .cons r1 .nil =>
    cases x with
    | lst es =>
      obtain ⟨ns, rfl, g9⟩ := (show ∃ ns : List Int, es = ns.map D.int ∧ R (.int ns.sum) from g)
      obtain ⟨a, us, rfl, z, h, rl⟩ := RepW.lst r1
      rw [RepL.ints rl] at h
      exact .inl ⟨a, ns, rfl, .inl (.inl h), q c _ H _ (Step.refl E.fok) (.int _) g9⟩
    | tup es =>
      obtain ⟨ns, rfl, g9⟩ := (show ∃ ns : List Int, es = ns.map D.int ∧ R (.int ns.sum) from g)
      obtain ⟨a, us, rfl, n, rl⟩ := RepW.tup r1
      rw [RepL.ints rl] at n
      exact .inr ⟨a, ns, rfl, .inl (.inl n.2.2), q c _ H _ (Step.refl E.fok) (.int _) g9⟩
    | _ => exact g.elim
section
variable {R : D → Prop} {es : List D}
theorem x_sumAL : dSumA [.lst es] R = ∃ ns : List Int, es = ns.map D.int ∧ R (.int ns.sum) := propext Iff.rfl
theorem x_sumAT : dSumA [.tup es] R = ∃ ns : List Int, es = ns.map D.int ∧ R (.int ns.sum) := propext Iff.rfl
end
end DL

set_option Elab.async false
set_option linter.all false
set_option maxRecDepth 100000
set_option maxHeartbeats 4000000
namespace DL
open PySem PySem.Spec PyProof.Rows L2
section
variable {α : Type} [OD α]
theorem toPy_inj {a b : α} (h : toPy (OD.enc a) = toPy (OD.enc b)) : a = b := by
  have e := OD.eqv a b
  rw [h] at e
  have e2 := OD.eqv b b
  rw [e] at e2
  exact @of_decide_eq_true _ (OD.eqDec a b) (e2.trans (@decide_eq_true _ (OD.eqDec b b) rfl))
theorem minO_spec : ∀ (xs : List α) (x : α), ∃ m ∈ x :: xs, PySem.W.minD (toPy (OD.enc x)) (xs.map fun a => toPy (OD.enc a)) = toPy (OD.enc m) ∧ ∀ y ∈ x :: xs, ¬ OD.lt y m
  | [], x => ⟨x, by simp, rfl, fun y h => by rw [List.mem_singleton.mp h]; exact OD.irr _⟩
  | y :: ys, x => by
    have e : ∀ z : α, PySem.W.minD (toPy (OD.enc x)) ((y :: ys).map fun a => toPy (OD.enc a)) = PySem.W.minD (if PySem.W.dataLt (toPy (OD.enc y)) (toPy (OD.enc x)) then toPy (OD.enc y) else toPy (OD.enc x)) (ys.map fun a => toPy (OD.enc a)) := fun _ => rfl
    rw [e x, OD.plt]
    by_cases c : OD.lt y x
    · rw [if_pos (decide_eq_true c)]
      obtain ⟨m, h1, h2, h3⟩ := minO_spec ys y
      refine ⟨m, List.mem_cons_of_mem _ h1, h2, fun z hz => ?_⟩
      rcases List.mem_cons.mp hz with w | w
      · rw [w]
        exact fun q => h3 y (by simp) (OD.tr c q)
      · exact h3 z w
    · rw [if_neg (by simpa using c)]
      obtain ⟨m, h1, h2, h3⟩ := minO_spec ys x
      refine ⟨m, ?_, h2, fun z hz => ?_⟩
      · rcases List.mem_cons.mp h1 with w | w
        · rw [w]; simp
        · simp [w]
      · rcases List.mem_cons.mp hz with w | w
        · rw [w]; exact h3 x (by simp)
        · rcases List.mem_cons.mp w with v | v
          · rw [v]
            intro q
            rcases OD.tri x y with t | t | t
            · exact h3 x (by simp) (OD.tr t q)
            · rw [← t] at q; exact h3 x (by simp) q
            · exact c t
          · exact h3 z (by simp [v])
theorem maxO_spec : ∀ (xs : List α) (x : α), ∃ m ∈ x :: xs, PySem.W.maxD (toPy (OD.enc x)) (xs.map fun a => toPy (OD.enc a)) = toPy (OD.enc m) ∧ ∀ y ∈ x :: xs, ¬ OD.lt m y
  | [], x => ⟨x, by simp, rfl, fun y h => by rw [List.mem_singleton.mp h]; exact OD.irr _⟩
  | y :: ys, x => by
    have e : ∀ z : α, PySem.W.maxD (toPy (OD.enc x)) ((y :: ys).map fun a => toPy (OD.enc a)) = PySem.W.maxD (if PySem.W.dataLt (toPy (OD.enc x)) (toPy (OD.enc y)) then toPy (OD.enc y) else toPy (OD.enc x)) (ys.map fun a => toPy (OD.enc a)) := fun _ => rfl
    rw [e x, OD.plt]
    by_cases c : OD.lt x y
    · rw [if_pos (decide_eq_true c)]
      obtain ⟨m, h1, h2, h3⟩ := maxO_spec ys y
      refine ⟨m, List.mem_cons_of_mem _ h1, h2, fun z hz => ?_⟩
      rcases List.mem_cons.mp hz with w | w
      · rw [w]
        exact fun q => h3 y (by simp) (OD.tr q c)
      · exact h3 z w
    · rw [if_neg (by simpa using c)]
      obtain ⟨m, h1, h2, h3⟩ := maxO_spec ys x
      refine ⟨m, ?_, h2, fun z hz => ?_⟩
      · rcases List.mem_cons.mp h1 with w | w
        · rw [w]; simp
        · simp [w]
      · rcases List.mem_cons.mp hz with w | w
        · rw [w]; exact h3 x (by simp)
        · rcases List.mem_cons.mp w with v | v
          · rw [v]
            intro q
            rcases OD.tri x y with t | t | t
            · exact c t
            · rw [← t] at q; exact h3 x (by simp) q
            · exact h3 x (by simp) (OD.tr q t)
          · exact h3 z (by simp [v])
end
def rMinO (K : PySem.W.Frag) : List V → Hp → VK → Prop := fun vs H Q => ∃ (α : Type) (_ : OD α) (a : Addr) (bs : List (V × α)), vs = [.ref a] ∧ (SqL K H a (bs.map (·.1)) ∨ SqT K H a (bs.map (·.1))) ∧ (∀ b ∈ bs, Dp K H b.1 (toPy (OD.enc b.2))) ∧ OD.dp α ≤ 8 ∧ bs ≠ [] ∧ ∀ b ∈ bs, (∀ c ∈ bs, ¬ OD.lt c.2 b.2) → Q b.1 H
def rMaxO (K : PySem.W.Frag) : List V → Hp → VK → Prop := fun vs H Q => ∃ (α : Type) (_ : OD α) (a : Addr) (bs : List (V × α)), vs = [.ref a] ∧ (SqL K H a (bs.map (·.1)) ∨ SqT K H a (bs.map (·.1))) ∧ (∀ b ∈ bs, Dp K H b.1 (toPy (OD.enc b.2))) ∧ OD.dp α ≤ 8 ∧ bs ≠ [] ∧ ∀ b ∈ bs, (∀ c ∈ bs, ¬ OD.lt b.2 c.2) → Q b.1 H
theorem dpAll_bs {K : PySem.W.Frag} {H : Hp} {α : Type} [OD α] : ∀ {bs : List (V × α)}, (∀ b ∈ bs, Dp K H b.1 (toPy (OD.enc b.2))) → DpAll K H (bs.map (·.1)) (bs.map fun b => toPy (OD.enc b.2))
  | [], _ => .nil
  | b :: bs, h => .cons (h b (by simp)) (dpAll_bs fun x hx => h x (by simp [hx]))
theorem depthAll_bs {α : Type} [OD α] (d8 : OD.dp α ≤ 8) : ∀ xs : List α, PyData.depthAll (xs.map fun a => toPy (OD.enc a)) ≤ 8
  | [] => Nat.zero_le _
  | x :: xs => by
    rw [List.map_cons, PyData.depthAll]
    exact Nat.max_le.mpr ⟨OD.depth x d8, depthAll_bs d8 xs⟩
theorem alikeAll_bs {α : Type} [OD α] (xs : List α) : PySem.W.AlikeAll (xs.map fun a => toPy (OD.enc a)) := by
  refine ⟨fun x hx y hy => ?_, fun x hx e => ?_⟩
  · obtain ⟨a, _, rfl⟩ := List.mem_map.mp hx
    obtain ⟨b, _, rfl⟩ := List.mem_map.mp hy
    exact OD.al a b
  · obtain ⟨a, _, rfl⟩ := List.mem_map.mp hx
    have h1 := OD.num a
    generalize OD.enc a = d at e h1
    rcases numD_cases h1 with ⟨i, rfl⟩ | ⟨m, ds, _, rfl, _⟩
    · simp [toPy] at e
    · simp [toPy] at e
section
variable {X : Cx}
theorem pickO {α : Type} [OD α] {s : Shared} {bs : List (V × α)} {its : List Value} {as cs : List Addr} {h' : Heap} {v : Value} {i : Nat} {d : PyData} (rv : Vals (bs.map (·.1)) its) (rs : ReadsAll s.heap its (bs.map fun b => toPy (OD.enc b.2)) as) (hv : its[i]? = some v)
    (hk : ∀ b o, s.heap.get? b = some o → h'.get? b = some o) (r : Reads h' v d cs) : ∃ b ∈ bs, RelV b.1 v ∧ d = toPy (OD.enc b.2) := by
  obtain ⟨ds, r1, hl, _, _⟩ := PySem.W.readsAll_at rs i v hv
  rw [List.length_map] at hl
  have e1 : (bs.map fun b => toPy (OD.enc b.2)).getD i .none = toPy (OD.enc (bs[i]'hl).2) := by
    rw [List.getD_eq_getElem?_getD, List.getElem?_map, List.getElem?_eq_getElem hl]
    rfl
  rw [e1] at r1
  obtain ⟨u, h1, h2⟩ := Vals.get (i := i) (x := (bs[i]'hl).1) rv (by rw [List.getElem?_map, List.getElem?_eq_getElem hl]; rfl)
  rw [hv] at h1
  cases h1
  exact ⟨bs[i]'hl, List.getElem_mem _, h2, ((Reads.unique r) _ _ (Reads.keeps hk r1)).1⟩
theorem cr_minO (hc : X.calm = true) (hu : X.A.units + 100 < cLine) : CallR X (.builtin "min") (rMinO X.K) := by
  intro pins s σ H vs us Q I r h
  obtain ⟨α, _, a, bs, rfl, hs, hd, d8, hne, q⟩ := h
  rw [Vals.ref1 r]
  obtain ⟨b, bs', rfl⟩ := List.exists_cons_of_ne_nil hne
  have key : ∀ its : List Value, Vals (((b :: bs').map (·.1)) : List V) its → ∃ as, ReadsAll s.heap its.toArray.toList (toPy (OD.enc b.2) :: (bs'.map (·.2)).map fun a => toPy (OD.enc a)) as := fun its rv => by
    obtain ⟨as, rs⟩ := Dp.readsAll I _ _ _ (dpAll_bs hd) rv
    rw [List.map_cons] at rs
    exact ⟨as, by rw [List.map_map]; exact rs⟩
  have fin : ∀ (its : List Value) (as : List Addr) (i : Nat) (v : Value) (h' : Heap) (tk : Nat) (cs : List Addr), Vals ((b :: bs').map (·.1)) its → ReadsAll s.heap its.toArray.toList (toPy (OD.enc b.2) :: (bs'.map (·.2)).map fun a => toPy (OD.enc a)) as → its.toArray[i]? = some v → Reads h' v (PySem.W.minD (toPy (OD.enc b.2)) ((bs'.map (·.2)).map fun a => toPy (OD.enc a))) cs → (∀ b o, s.heap.get? b = some o → h'.get? b = some o) → EP X pins σ Q v { s with heap := h', toks := tk } := fun its as i v h' tk cs rv rs hi r hk => by
    obtain ⟨m, _, e2, e3⟩ := minO_spec (bs'.map (·.2)) b.2
    rw [e2] at r
    obtain ⟨b', h1, h2, h3⟩ := pickO (bs := b :: bs') rv (by rw [List.map_map] at rs; exact rs) (by simpa using hi) hk r
    have em : m = b'.2 := toPy_inj h3
    subst em
    refine ⟨b'.1, H, I.kept hk, h2, q b' h1 fun c hc => e3 c.2 ?_⟩
    rw [← List.map_cons]
    exact List.mem_map.mpr ⟨c, hc, rfl⟩
  have hal := alikeAll_bs (b.2 :: bs'.map (·.2))
  have hdp := depthAll_bs d8 (b.2 :: bs'.map (·.2))
  rw [List.map_cons] at hal hdp
  rcases hs with hs | hs
  · obtain ⟨its, rv, hl, _⟩ := I.list hs
    obtain ⟨as, rs⟩ := key its rv
    exact PySem.W.min_list_data (I.ok.hd hc) hl.isList rs hal (by omega) fun i v h' tk cs hi r hk => fin its as i v h' tk cs rv rs hi r hk
  · obtain ⟨its, rv, hl, _⟩ := I.tuple hs
    obtain ⟨as, rs⟩ := key its rv
    exact PySem.W.min_tuple_data (I.ok.hd hc) (show s.heap.IsTuple a its.toArray from hl) rs hal (by omega) fun i v h' tk cs hi r hk => fin its as i v h' tk cs rv rs hi r hk
theorem cr_maxO (hc : X.calm = true) (hu : X.A.units + 100 < cLine) : CallR X (.builtin "max") (rMaxO X.K) := by
  intro pins s σ H vs us Q I r h
  obtain ⟨α, _, a, bs, rfl, hs, hd, d8, hne, q⟩ := h
  rw [Vals.ref1 r]
  obtain ⟨b, bs', rfl⟩ := List.exists_cons_of_ne_nil hne
  have key : ∀ its : List Value, Vals (((b :: bs').map (·.1)) : List V) its → ∃ as, ReadsAll s.heap its.toArray.toList (toPy (OD.enc b.2) :: (bs'.map (·.2)).map fun a => toPy (OD.enc a)) as := fun its rv => by
    obtain ⟨as, rs⟩ := Dp.readsAll I _ _ _ (dpAll_bs hd) rv
    rw [List.map_cons] at rs
    exact ⟨as, by rw [List.map_map]; exact rs⟩
  have fin : ∀ (its : List Value) (as : List Addr) (i : Nat) (v : Value) (h' : Heap) (tk : Nat) (cs : List Addr), Vals ((b :: bs').map (·.1)) its → ReadsAll s.heap its.toArray.toList (toPy (OD.enc b.2) :: (bs'.map (·.2)).map fun a => toPy (OD.enc a)) as → its.toArray[i]? = some v → Reads h' v (PySem.W.maxD (toPy (OD.enc b.2)) ((bs'.map (·.2)).map fun a => toPy (OD.enc a))) cs → (∀ b o, s.heap.get? b = some o → h'.get? b = some o) → EP X pins σ Q v { s with heap := h', toks := tk } := fun its as i v h' tk cs rv rs hi r hk => by
    obtain ⟨m, _, e2, e3⟩ := maxO_spec (bs'.map (·.2)) b.2
    rw [e2] at r
    obtain ⟨b', h1, h2, h3⟩ := pickO (bs := b :: bs') rv (by rw [List.map_map] at rs; exact rs) (by simpa using hi) hk r
    have em : m = b'.2 := toPy_inj h3
    subst em
    refine ⟨b'.1, H, I.kept hk, h2, q b' h1 fun c hc => e3 c.2 ?_⟩
    rw [← List.map_cons]
    exact List.mem_map.mpr ⟨c, hc, rfl⟩
  have hal := alikeAll_bs (b.2 :: bs'.map (·.2))
  have hdp := depthAll_bs d8 (b.2 :: bs'.map (·.2))
  rw [List.map_cons] at hal hdp
  rcases hs with hs | hs
  · obtain ⟨its, rv, hl, _⟩ := I.list hs
    obtain ⟨as, rs⟩ := key its rv
    exact PySem.W.max_list_data (I.ok.hd hc) hl.isList rs hal (by omega) fun i v h' tk cs hi r hk => fin its as i v h' tk cs rv rs hi r hk
  · obtain ⟨its, rv, hl, _⟩ := I.tuple hs
    obtain ⟨as, rs⟩ := key its rv
    exact PySem.W.max_tuple_data (I.ok.hd hc) (show s.heap.IsTuple a its.toArray from hl) rs hal (by omega) fun i v h' tk cs hi r hk => fin its as i v h' tk cs rv rs hi r hk
theorem call_minO {k : Nat} (hc : X.calm = true) (hr : Room k X.A) : CallR X (.builtin "min") (rMinO X.K) := cr_minO hc (by have := hr.un; omega)
theorem call_maxO {k : Nat} (hc : X.calm = true) (hr : Room k X.A) : CallR X (.builtin "max") (rMaxO X.K) := cr_maxO hc (by have := hr.un; omega)
end
def dMinO (xs : List D) (R : D → Prop) : Prop := oneD xs fun x => ∃ (α : Type) (_ : OD α) (l : List α), (x = .lst (l.map OD.enc) ∨ x = .tup (l.map OD.enc)) ∧ OD.dp α ≤ 8 ∧ l ≠ [] ∧ ∀ b ∈ l, (∀ c ∈ l, ¬ OD.lt c b) → R (OD.enc b)
def dMaxO (xs : List D) (R : D → Prop) : Prop := oneD xs fun x => ∃ (α : Type) (_ : OD α) (l : List α), (x = .lst (l.map OD.enc) ∨ x = .tup (l.map OD.enc)) ∧ OD.dp α ≤ 8 ∧ l ≠ [] ∧ ∀ b ∈ l, (∀ c ∈ l, ¬ OD.lt b c) → R (OD.enc b)
theorem c_minO {K : PySem.W.Frag} : CL K (rMinO K) .strong dMinO := fun c own A σ ρ H vs ds R Q hk E r g q => by
  obtain ⟨x, rfl, g⟩ := oneD_iff g
  obtain ⟨α, _, l, hx, d8, hne, g⟩ := g
  match r with
  | .cons r1 .nil =>
    have fin : ∀ (a : Addr) (us : List V), (SqL K H a us ∨ SqT K H a us) → RepL c (Avd c own A σ ρ) H us (l.map OD.enc) → rMinO K [.ref a] H Q := fun a us hs rl => by
      obtain ⟨bs, rfl, rfl, hr⟩ := RepL.zipO rl
      refine ⟨α, _, a, bs, rfl, hs, fun b hb => hk ▸ (hr b hb).dpO, d8, fun z => hne (by rw [z]; rfl), fun b hb hm => q c _ H _ (Step.refl E.fok) (hr b hb) (g b.2 (List.mem_map.mpr ⟨b, hb, rfl⟩) fun y hy => ?_)⟩
      obtain ⟨b', hb', rfl⟩ := List.mem_map.mp hy
      exact hm b' hb'
    rcases hx with rfl | rfl
    · obtain ⟨a, us, rfl, z, h, rl⟩ := RepW.lst r1
      exact fin a us (.inl (.inl (.inl h))) rl
    · obtain ⟨a, us, rfl, n, rl⟩ := RepW.tup r1
      exact fin a us (.inr (.inl (.inl n.2.2))) rl
theorem c_maxO {K : PySem.W.Frag} : CL K (rMaxO K) .strong dMaxO := fun c own A σ ρ H vs ds R Q hk E r g q => by
  obtain ⟨x, rfl, g⟩ := oneD_iff g
  obtain ⟨α, _, l, hx, d8, hne, g⟩ := g
  match r with
  | .cons r1 .nil =>
    have fin : ∀ (a : Addr) (us : List V), (SqL K H a us ∨ SqT K H a us) → RepL c (Avd c own A σ ρ) H us (l.map OD.enc) → rMaxO K [.ref a] H Q := fun a us hs rl => by
      obtain ⟨bs, rfl, rfl, hr⟩ := RepL.zipO rl
      refine ⟨α, _, a, bs, rfl, hs, fun b hb => hk ▸ (hr b hb).dpO, d8, fun z => hne (by rw [z]; rfl), fun b hb hm => q c _ H _ (Step.refl E.fok) (hr b hb) (g b.2 (List.mem_map.mpr ⟨b, hb, rfl⟩) fun y hy => ?_)⟩
      obtain ⟨b', hb', rfl⟩ := List.mem_map.mp hy
      exact hm b' hb'
    rcases hx with rfl | rfl
    · obtain ⟨a, us, rfl, z, h, rl⟩ := RepW.lst r1
      exact fin a us (.inl (.inl (.inl h))) rl
    · obtain ⟨a, us, rfl, n, rl⟩ := RepW.tup r1
      exact fin a us (.inr (.inl (.inl n.2.2))) rl
section
variable {α : Type} [OD α] {R : D → Prop} {l : List α}
theorem minO_L (hne : l ≠ []) (h : ∀ b ∈ l, (∀ c ∈ l, ¬ OD.lt c b) → R (OD.enc b)) (d8 : OD.dp α ≤ 8 := by decide) : dMinO [.lst (l.map OD.enc)] R := ⟨α, _, l, .inl rfl, d8, hne, h⟩
theorem minO_T (hne : l ≠ []) (h : ∀ b ∈ l, (∀ c ∈ l, ¬ OD.lt c b) → R (OD.enc b)) (d8 : OD.dp α ≤ 8 := by decide) : dMinO [.tup (l.map OD.enc)] R := ⟨α, _, l, .inr rfl, d8, hne, h⟩
theorem maxO_L (hne : l ≠ []) (h : ∀ b ∈ l, (∀ c ∈ l, ¬ OD.lt b c) → R (OD.enc b)) (d8 : OD.dp α ≤ 8 := by decide) : dMaxO [.lst (l.map OD.enc)] R := ⟨α, _, l, .inl rfl, d8, hne, h⟩
theorem maxO_T (hne : l ≠ []) (h : ∀ b ∈ l, (∀ c ∈ l, ¬ OD.lt b c) → R (OD.enc b)) (d8 : OD.dp α ≤ 8 := by decide) : dMaxO [.tup (l.map OD.enc)] R := ⟨α, _, l, .inr rfl, d8, hne, h⟩
end
end DL

set_option Elab.async false
set_option linter.all false
set_option maxRecDepth 100000
set_option maxHeartbeats 4000000
namespace DL
open PySem PySem.Spec PyProof.Rows L2
section
variable {X : Cx} {own : List Nat} {fr : Bool} {ko : Kd} {pos : Pos} {p q : TED}
theorem lift_tupSO (K : PySem.W.Frag) {i j : Nat} (hi : i ∉ own) (hj : j ∈ own) : ∀ D σ H, liftS K own fr ko (sPar i j (paC p (paC q paN))) D σ H → tAsg (tTup (tCons (lift K own .strong p) (tCons (lift K own .fresh q) tNil))) (gTL K 2 (gCons (gName i) (gCons (gName j) gNil))) D σ H := fun D σ H ⟨c0, H0, A, c, ρ, DD, hk, t, E, F, h, z⟩ => ⟨c, A, ρ, _, hk, E, h, fun c1 v H1 d t1 r1 g1 => by
  refine ⟨c1, A, ρ, _, t1.kk.trans hk, E.step t1, g1, fun c2 w H2 e t2 r2 g2 => ⟨sz_small (by simp), fun pt npt => ?_⟩⟩
  have E2 := (E.step t1).step t2
  have t3 : Step c2 H2 c2 (L2.upd H2 pt (.tup [v, w])) := .one E2.fok npt
  have t23 := t2.trans t3
  refine .inl ⟨pt, [v, w], rfl, .inl (.inl upd_same), rfl, _, _, rfl, _, _, rfl, rfl, ?_⟩
  have E1 := (E.step t1).set hi r1
  obtain ⟨b, rfl, hb, ns2, r2⟩ := r2
  have hbp : b ≠ pt := fun y => r2.some (by rw [y]; exact npt)
  have r3 : OwnR c2 (fun x => Avd c2 own A σ ρ x ∨ x = b) (L2.upd H2 pt (.tup [v, .ref b])) b e := r2.mv rfl (fun _ _ z => z) (fun x o n y => ⟨n, by rw [upd_ne (ne_of_none y npt)]; exact y⟩) fun o y => by rw [upd_ne hbp]; exact y
  have E3 := E1.setO t23 hj ⟨b, rfl, hb, ns2, by rw [avd_set hi]; exact r3⟩
  exact z.nx.here (t23.kk.trans (t1.kk.trans hk)) ((t.trans t1).trans t23) E3 ((F.congr (set_own hi)).setO (t.trans t1) hb) g2⟩
theorem lift_tupOS (K : PySem.W.Frag) {i j : Nat} (hi : i ∈ own) (hj : j ∉ own) : ∀ D σ H, liftS K own fr ko (sPar i j (paC p (paC q paN))) D σ H → tAsg (tTup (tCons (lift K own .fresh p) (tCons (lift K own .strong q) tNil))) (gTL K 2 (gCons (gName i) (gCons (gName j) gNil))) D σ H := fun D σ H ⟨c0, H0, A, c, ρ, DD, hk, t, E, F, h, z⟩ => ⟨c, A, ρ, _, hk, E, h, fun c1 v H1 d t1 r1 g1 => by
  obtain ⟨a, rfl, ha, ns, av⟩ := Fr.avOk r1
  have EA := E.stepA t1 ha ns av
  refine ⟨c1, _, ρ, _, t1.kk.trans hk, EA, g1, fun c2 w H2 e t2 r2 g2 => ⟨sz_small (by simp), fun pt npt => ?_⟩⟩
  have EA2 := EA.step t2
  have t3 : Step c2 H2 c2 (L2.upd H2 pt (.tup [.ref a, w])) := .one EA2.fok npt
  have t23 := t2.trans t3
  refine .inl ⟨pt, [.ref a, w], rfl, .inl (.inl upd_same), rfl, _, _, rfl, _, _, rfl, rfl, ?_⟩
  have E1 := E.setO t1 hi r1
  have r3 := Rep.step EA2 t3 r2
  have E2 := (E1.step t23).set hj (Rep.mv rfl (fun _ _ z => z) (fun b o n e => ⟨avd_in b n, e⟩) _ _ r3)
  exact z.nx.here (t23.kk.trans (t1.kk.trans hk)) ((t.trans t1).trans t23) E2 ((F.setO t ha).congr (set_own hj)) g2⟩
variable {x y : Str} {a b : Expr} {px py pt : Pos} {k2 : Nat} {pt2 : Pos} {kt : Nat}
theorem s_tupSO (i j : Nat) (hc : X.calm = true) (hN : X.N.Nodup) (ha : PE X a (lift X.K own .strong p)) (hb : PE X b (lift X.K own .fresh q)) (hi : X.N[i]? = some x := by rfl) (hj : X.N[j]? = some y := by rfl)
    (hx : Loc X.env.scope x := by first | exact Or.inl rfl | exact Or.inr rfl) (hy : Loc X.env.scope y := by first | exact Or.inl rfl | exact Or.inr rfl) (ho : i ∉ own := by decide) (ho2 : j ∈ own := by decide)
    (h1 : starEach [a, b] X.env = (false, eval a X.env) :: starEach [b] X.env := by rfl) (h2 : starEach [b] X.env = (false, eval b X.env) :: starEach [] X.env := by rfl)
    (fx : X.fn x = true ∨ X.env.scope.names.lookup x = some .local := by first | exact .inl rfl | exact .inr rfl) (fy : X.fn y = true ∨ X.env.scope.names.lookup y = some .local := by first | exact .inl rfl | exact .inr rfl)
    (hs : swapsWithSole [.Tuple [.Name x px, .Name y py] kt pt] (.Tuple [a, b] k2 pt2) pos.line X.env = pure false := by rfl) (hw : swappedStores [.Tuple [.Name x px, .Name y py] kt pt] (.Tuple [a, b] k2 pt2) X.env = pure none := by rfl)
    (h3 : (assignEach [.Tuple [.Name x px, .Name y py] kt pt] X.env).map (·.2) = [assign (.Tuple [.Name x px, .Name y py] kt pt) X.env] := by rfl)
    (hn : (assignEach [.Name x px, .Name y py] X.env).length = 2 := by rfl) (hst : (assignEach [.Name x px, .Name y py] X.env).findIdx? (·.1) = none := by rfl)
    (h4 : (assignEach [.Name x px, .Name y py] X.env).map (·.2) = assign (.Name x px) X.env :: (assignEach [.Name y py] X.env).map (·.2) := by rfl) (h5 : (assignEach [.Name y py] X.env).map (·.2) = assign (.Name y py) X.env :: (assignEach [] X.env).map (·.2) := by rfl) :
    PS X (.Assign [.Tuple [.Name x px, .Name y py] kt pt] (.Tuple [a, b] k2 pt2) pos) (liftS X.K own fr ko (sPar i j (paC p (paC q paN)))) :=
  ps_imp (ps_asg (pe_tup (L2.pa_cons ha (L2.pa_cons hb L2.pa_nil h2) h1)) (pg_tupA hc (pgs_cons (pg_name hN hi hx fx) (pgs_cons (pg_name hN hj hy fy) pgs_nil h5) h4) hn hst) hs hw h3) (lift_tupSO _ ho ho2)
theorem s_tupOS (i j : Nat) (hc : X.calm = true) (hN : X.N.Nodup) (ha : PE X a (lift X.K own .fresh p)) (hb : PE X b (lift X.K own .strong q)) (hi : X.N[i]? = some x := by rfl) (hj : X.N[j]? = some y := by rfl)
    (hx : Loc X.env.scope x := by first | exact Or.inl rfl | exact Or.inr rfl) (hy : Loc X.env.scope y := by first | exact Or.inl rfl | exact Or.inr rfl) (ho : i ∈ own := by decide) (ho2 : j ∉ own := by decide)
    (h1 : starEach [a, b] X.env = (false, eval a X.env) :: starEach [b] X.env := by rfl) (h2 : starEach [b] X.env = (false, eval b X.env) :: starEach [] X.env := by rfl)
    (fx : X.fn x = true ∨ X.env.scope.names.lookup x = some .local := by first | exact .inl rfl | exact .inr rfl) (fy : X.fn y = true ∨ X.env.scope.names.lookup y = some .local := by first | exact .inl rfl | exact .inr rfl)
    (hs : swapsWithSole [.Tuple [.Name x px, .Name y py] kt pt] (.Tuple [a, b] k2 pt2) pos.line X.env = pure false := by rfl) (hw : swappedStores [.Tuple [.Name x px, .Name y py] kt pt] (.Tuple [a, b] k2 pt2) X.env = pure none := by rfl)
    (h3 : (assignEach [.Tuple [.Name x px, .Name y py] kt pt] X.env).map (·.2) = [assign (.Tuple [.Name x px, .Name y py] kt pt) X.env] := by rfl)
    (hn : (assignEach [.Name x px, .Name y py] X.env).length = 2 := by rfl) (hst : (assignEach [.Name x px, .Name y py] X.env).findIdx? (·.1) = none := by rfl)
    (h4 : (assignEach [.Name x px, .Name y py] X.env).map (·.2) = assign (.Name x px) X.env :: (assignEach [.Name y py] X.env).map (·.2) := by rfl) (h5 : (assignEach [.Name y py] X.env).map (·.2) = assign (.Name y py) X.env :: (assignEach [] X.env).map (·.2) := by rfl) :
    PS X (.Assign [.Tuple [.Name x px, .Name y py] kt pt] (.Tuple [a, b] k2 pt2) pos) (liftS X.K own fr ko (sPar i j (paC p (paC q paN)))) :=
  ps_imp (ps_asg (pe_tup (L2.pa_cons ha (L2.pa_cons hb L2.pa_nil h2) h1)) (pg_tupA hc (pgs_cons (pg_name hN hi hx fx) (pgs_cons (pg_name hN hj hy fy) pgs_nil h5) h4) hn hst) hs hw h3) (lift_tupOS _ ho ho2)
end
end DL

set_option Elab.async false
set_option linter.all false
set_option maxRecDepth 100000
set_option maxHeartbeats 4000000
namespace DL
open PySem PySem.Spec PyProof.Rows L2
def cr (u v : Cell) : Int := u.1 * v.2 - u.2 * v.1
def lf (s c : Cell) : Int := s.1 * c.1 + s.2 * c.2
def df (a b : Cell) : Cell := (b.1 - a.1, b.2 - a.2)
def tn (a b c : Cell) : Int := (b.1 - a.1) * (c.2 - a.2) - (b.2 - a.2) * (c.1 - a.1)
theorem cr_id (s u v w : Cell) : cr u w * lf s v = cr u v * lf s w + cr v w * lf s u := by
  simp only [cr, lf]
  grind
theorem pos_of_mul {x y : Int} (h : 0 ≤ x * y) (hy : 0 < y) : 0 ≤ x := by
  refine Classical.byContradiction fun n => ?_
  have := Int.mul_le_mul_of_nonneg_right (show x ≤ -1 by omega) (show 0 ≤ y by omega)
  omega
theorem pos_of_mulS {x y : Int} (h : 0 < x * y) (hy : 0 < y) : 0 < x := by
  refine Classical.byContradiction fun n => ?_
  have := Int.mul_le_mul_of_nonneg_right (show x ≤ 0 by omega) (show 0 ≤ y by omega)
  omega
theorem cr_tr {s u v w : Cell} (hu : 0 ≤ lf s u) (hv : 0 < lf s v) (hw : 0 ≤ lf s w) (h1 : 0 ≤ cr u v) (h2 : 0 ≤ cr v w) : 0 ≤ cr u w := by
  refine pos_of_mul (y := lf s v) ?_ hv
  rw [cr_id]
  have a := Int.mul_nonneg h1 hw
  have b := Int.mul_nonneg h2 hu
  omega
theorem cr_df (a b c : Cell) : tn a b c = cr (df a b) (df a c) := rfl
theorem tn_1 (a b c : Cell) : tn a b c = cr (df a b) (df b c) := by simp only [tn, cr, df]; grind
theorem tn_2 (a b c : Cell) : tn a b c = cr (df c b) (df a b) := by simp only [tn, cr, df]; grind
theorem tn_cyc (a b c : Cell) : tn a b c = tn b c a := by simp only [tn]; grind
theorem tn_swap (a b c : Cell) : tn a b c = - tn b a c := by simp only [tn]; grind
theorem tn_same (a b : Cell) : tn a b b = 0 := by simp only [tn]; grind
theorem tn_same0 (a b : Cell) : tn a b a = 0 := by simp only [tn]; grind
theorem lf_df (s a b : Cell) : lf s (df a b) = lf s b - lf s a := by simp only [lf, df]; grind
def popH (p : Cell) : List Cell → List Cell
  | b :: a :: l => if tn a b p < 1 then popH p (a :: l) else b :: a :: l
  | [b] => [b]
  | [] => []
def chS (st l : List Cell) : List Cell := l.foldl (fun st p => p :: popH p st) st
def chn (l : List Cell) : List Cell := (chS [] l).reverse
def Edg (S : List Cell) : List Cell → Prop
  | b :: a :: l => (∀ c ∈ S, 0 ≤ tn a b c) ∧ Edg S (a :: l)
  | _ => True
def TriS : List Cell → Prop
  | c :: b :: a :: l => 0 < tn a b c ∧ TriS (b :: a :: l)
  | _ => True
def Bot (s : Cell) (S : List Cell) : List Cell → Prop
  | [a] => ∀ c ∈ S, lf s a ≤ lf s c
  | _ :: b :: l => Bot s S (b :: l)
  | [] => True
structure Stk (s : Cell) (S st : List Cell) : Prop where
  sub : ∀ c ∈ st, c ∈ S
  dec : st.Pairwise fun a b => lf s b < lf s a
  edge : Edg S st
  str : TriS st
  bot : Bot s S st
theorem Stk.tail {s : Cell} {S : List Cell} {b a : Cell} {l : List Cell} (h : Stk s S (b :: a :: l)) : Stk s S (a :: l) := by
  refine ⟨fun c hc => h.sub c (List.mem_cons_of_mem _ hc), (List.pairwise_cons.mp h.dec).2, h.edge.2, ?_, h.bot⟩
  cases l with
  | nil => trivial
  | cons z l => exact h.str.2
def Qpop (s : Cell) (S : List Cell) (p b : Cell) : Prop := ∀ c ∈ S, lf s b ≤ lf s c → 0 ≤ tn b p c
theorem popH_spec {s : Cell} {S : List Cell} {p : Cell} (hp : ∀ c ∈ S, lf s c < lf s p) : ∀ (l : List Cell) (b : Cell), Stk s S (b :: l) → Qpop s S p b → ∃ b' l', popH p (b :: l) = b' :: l' ∧ Stk s S (b' :: l') ∧ Qpop s S p b' ∧ (∀ a l'', l' = a :: l'' → 0 < tn a b' p)
  | [], b, h, q => ⟨b, [], rfl, h, q, fun _ _ e => nomatch e⟩
  | a :: l, b, h, q => by
    unfold popH
    by_cases c : tn a b p < 1
    · rw [if_pos c]
      refine popH_spec hp l a h.tail fun x hx hf => ?_
      have hab : lf s a < lf s b := (List.pairwise_cons.mp h.dec).1 a (by simp)
      have ha := h.sub a (by simp)
      have hb := h.sub b (by simp)
      have pa := hp a ha
      have pb := hp b hb
      have px := hp x hx
      have e1 := h.edge.1 x hx
      by_cases hbx : lf s b ≤ lf s x
      · have e2 := q x hx hbx
        rw [tn_2] at e2 ⊢
        refine cr_tr (s := s) (v := df b p) ?_ ?_ ?_ e2 ?_
        · rw [lf_df]; omega
        · rw [lf_df]; omega
        · rw [lf_df]; omega
        · have : cr (df b p) (df a p) = - tn a b p := by rw [tn_swap, tn_cyc, tn_cyc, tn_2]; simp only [cr, df]; grind
          omega
      · rw [cr_df]
        refine cr_tr (s := s) (v := df a b) ?_ ?_ ?_ ?_ ?_
        · rw [lf_df]; omega
        · rw [lf_df]; omega
        · rw [lf_df]; omega
        · have : cr (df a p) (df a b) = - tn a b p := by simp only [tn, cr, df]; grind
          omega
        · exact e1
    · rw [if_neg c]
      exact ⟨b, a :: l, rfl, h, q, fun a' l'' e => by cases e; omega⟩
theorem edges_p {s : Cell} {S : List Cell} {p : Cell} (hp : ∀ c ∈ S, lf s c < lf s p) : ∀ (l : List Cell) (b : Cell), Stk s S (b :: l) → (∀ a l'', l = a :: l'' → 0 ≤ tn a b p) → Edg (S ++ [p]) (b :: l)
  | [], _, _, _ => trivial
  | a :: l, b, h, q => by
    have q0 := q a l rfl
    refine ⟨fun c hc => ?_, edges_p hp l a h.tail fun z l'' e => ?_⟩
    · rcases List.mem_append.mp hc with z | z
      · exact h.edge.1 c z
      · rw [List.mem_singleton.mp z]; exact q0
    · subst e
      have hab : lf s a < lf s b := (List.pairwise_cons.mp h.dec).1 a (by simp)
      have hza : lf s z < lf s a := (List.pairwise_cons.mp (List.pairwise_cons.mp h.dec).2).1 z (by simp)
      have pb := hp b (h.sub b (by simp))
      have e1 := h.tail.edge.1 b (h.sub b (by simp))
      have c1 : 0 ≤ cr (df z a) (df b p) := by
        refine cr_tr (s := s) (v := df a b) ?_ ?_ ?_ ?_ ?_
        · rw [lf_df]; omega
        · rw [lf_df]; omega
        · rw [lf_df]; omega
        · rw [← tn_1]; exact e1
        · rw [← tn_1]; exact q0
      have : tn z a p = cr (df z a) (df b p) + tn z a b := by simp only [tn, cr, df]; grind
      omega
theorem Bot.app {s : Cell} {S : List Cell} {p : Cell} (hp : ∀ c ∈ S, lf s c < lf s p) : ∀ {st : List Cell}, (∀ c ∈ st, c ∈ S) → Bot s S st → Bot s (S ++ [p]) st
  | [], _, _ => trivial
  | [a], hs, h => fun c hc => by
    rcases List.mem_append.mp hc with z | z
    · exact h c z
    · rw [List.mem_singleton.mp z]
      have := hp a (hs a (by simp))
      omega
  | _ :: b :: l, hs, h => Bot.app (st := b :: l) hp (fun c hc => hs c (List.mem_cons_of_mem _ hc)) h
theorem stk_push {s : Cell} {S : List Cell} {p b : Cell} {l : List Cell} (hp : ∀ c ∈ S, lf s c < lf s p) (h : Stk s S (b :: l)) (ht : ∀ c ∈ S, lf s b ≤ lf s c → c = b) : Stk s (S ++ [p]) (p :: popH p (b :: l)) := by
  obtain ⟨b', l', e, h', q, hl⟩ := popH_spec hp l b h fun c hc hf => by rw [ht c hc hf, tn_same0]; exact Int.le_refl _
  rw [e]
  have hb' := h'.sub b' (by simp)
  have all : ∀ c ∈ S, 0 ≤ tn b' p c := fun c hc => by
    by_cases hf : lf s b' ≤ lf s c
    · exact q c hc hf
    · cases l' with
      | nil => exact absurd (h'.bot c hc) hf
      | cons a l'' =>
        have t1 := hl a l'' rfl
        have e1 := h'.edge.1 c hc
        have hab : lf s a < lf s b' := (List.pairwise_cons.mp h'.dec).1 a (by simp)
        have pb := hp b' hb'
        have : tn b' p c = cr (df c b') (df b' p) := by simp only [tn, cr, df]; grind
        rw [this]
        refine cr_tr (s := s) (v := df a b') ?_ ?_ ?_ ?_ ?_
        · rw [lf_df]; omega
        · rw [lf_df]; omega
        · rw [lf_df]; omega
        · rw [← tn_2]; exact e1
        · rw [← tn_1]; omega
  refine ⟨fun c hc => ?_, List.pairwise_cons.mpr ⟨fun c hc => hp c (h'.sub c hc), h'.dec⟩, ⟨fun c hc => ?_, ?_⟩, ?_, ?_⟩
  · rcases List.mem_cons.mp hc with z | z
    · rw [z]; simp
    · exact List.mem_append_left _ (h'.sub c z)
  · rcases List.mem_append.mp hc with z | z
    · exact all c z
    · rw [List.mem_singleton.mp z, tn_same]; exact Int.le_refl _
  · exact edges_p hp l' b' h' fun a l'' e => by have := hl a l'' e; omega
  · cases l' with
    | nil => trivial
    | cons a l'' => exact ⟨hl a l'' rfl, h'.str⟩
  · show Bot s (S ++ [p]) (b' :: l')
    exact Bot.app hp h'.sub h'.bot
theorem chS_spec {s : Cell} : ∀ (l pre : List Cell) (b : Cell) (st : List Cell), Stk s pre (b :: st) → (∀ c ∈ pre, lf s b ≤ lf s c → c = b) → (pre ++ l).Pairwise (fun a b => lf s a < lf s b) → ∃ b' st', chS (b :: st) l = b' :: st' ∧ Stk s (pre ++ l) (b' :: st') ∧ (∀ c ∈ pre ++ l, lf s b' ≤ lf s c → c = b')
  | [], pre, b, st, h, ht, _ => ⟨b, st, rfl, by rw [List.append_nil]; exact h, by rw [List.append_nil]; exact ht⟩
  | p :: l, pre, b, st, h, ht, hs => by
    have hp : ∀ c ∈ pre, lf s c < lf s p := fun c hc => (List.pairwise_append.mp hs).2.2 c hc p (by simp)
    have h1 := stk_push hp h ht
    have hs' : ((pre ++ [p]) ++ l).Pairwise (fun a b => lf s a < lf s b) := by rw [List.append_assoc]; exact hs
    obtain ⟨b', st', e1, e2, e3⟩ := chS_spec l (pre ++ [p]) p (popH p (b :: st)) h1 (fun c hc hf => by
      rcases List.mem_append.mp hc with z | z
      · have := hp c z; omega
      · exact List.mem_singleton.mp z) hs'
    rw [List.append_assoc] at e2 e3
    exact ⟨b', st', e1, e2, e3⟩
theorem chS_ok {s : Cell} {S : List Cell} (hne : S ≠ []) (hs : S.Pairwise (fun a b => lf s a < lf s b)) : ∃ b st, chS [] S = b :: st ∧ Stk s S (b :: st) ∧ (∀ c ∈ S, lf s b ≤ lf s c → c = b) := by
  match S, hne with
  | p :: l, _ =>
    have h0 : Stk s [p] [p] := ⟨fun c h => h, by simp, trivial, trivial, fun c hc => by rw [List.mem_singleton.mp hc]; exact Int.le_refl _⟩
    exact chS_spec l [p] p [] h0 (fun c hc _ => List.mem_singleton.mp hc) hs
def EdgF (S : List Cell) : List Cell → Prop
  | a :: b :: l => (∀ c ∈ S, 0 ≤ tn a b c) ∧ EdgF S (b :: l)
  | _ => True
def TriF : List Cell → Prop
  | a :: b :: c :: l => 0 < tn a b c ∧ TriF (b :: c :: l)
  | _ => True
theorem EdgF.app {S : List Cell} : ∀ {x : List Cell} {b : Cell} {y : List Cell}, EdgF S (x ++ [b]) → EdgF S (b :: y) → EdgF S (x ++ b :: y)
  | [], _, _, _, h => h
  | [a], b, y, h1, h2 => ⟨h1.1, h2⟩
  | a :: a' :: x, b, y, h1, h2 => ⟨h1.1, EdgF.app (x := a' :: x) h1.2 h2⟩
theorem TriF.app : ∀ {x : List Cell} {a b : Cell} {y : List Cell}, TriF (x ++ [a, b]) → TriF (a :: b :: y) → TriF (x ++ a :: b :: y)
  | [], _, _, _, _, h => h
  | [z], a, b, y, h1, h2 => ⟨h1.1, h2⟩
  | [z, z'], a, b, y, h1, h2 => ⟨h1.1, h1.2.1, h2⟩
  | z :: z' :: z'' :: x, a, b, y, h1, h2 => ⟨h1.1, TriF.app (x := z' :: z'' :: x) h1.2 h2⟩
theorem Edg.rev {S : List Cell} : ∀ {st : List Cell}, Edg S st → EdgF S st.reverse
  | [], _ => trivial
  | [_], _ => trivial
  | b :: a :: l, h => by
    have ih := Edg.rev (st := a :: l) h.2
    rw [List.reverse_cons] at ih
    rw [List.reverse_cons, List.reverse_cons, List.append_assoc]
    exact EdgF.app ih ⟨h.1, trivial⟩
theorem TriS.rev : ∀ {st : List Cell}, TriS st → TriF st.reverse
  | [], _ => trivial
  | [_], _ => trivial
  | [_, _], _ => trivial
  | c :: b :: a :: l, h => by
    have ih := TriS.rev (st := b :: a :: l) h.2
    rw [List.reverse_cons, List.reverse_cons, List.append_assoc] at ih
    rw [List.reverse_cons, List.reverse_cons, List.reverse_cons, List.append_assoc, List.append_assoc]
    exact TriF.app ih ⟨h.1, trivial⟩
theorem EdgF.get {S : List Cell} : ∀ {l : List Cell} {i : Nat} {a b : Cell}, EdgF S l → l[i]? = some a → l[i + 1]? = some b → ∀ c ∈ S, 0 ≤ tn a b c
  | a' :: b' :: l, 0, a, b, h, h1, h2 => by
    cases h1; cases h2
    exact h.1
  | a' :: b' :: l, i + 1, a, b, h, h1, h2 => EdgF.get (l := b' :: l) (i := i) h.2 (by simpa using h1) (by simpa using h2)
  | [_], 0, _, _, _, _, h2 => by simp at h2
  | [_], i + 1, _, _, _, h1, _ => by simp at h1
  | [], _, _, _, _, h1, _ => by simp at h1
theorem TriF.get : ∀ {l : List Cell} {i : Nat} {a b c : Cell}, TriF l → l[i]? = some a → l[i + 1]? = some b → l[i + 2]? = some c → 0 < tn a b c
  | a' :: b' :: c' :: l, 0, a, b, c, h, h1, h2, h3 => by
    cases h1; cases h2; cases h3
    exact h.1
  | a' :: b' :: c' :: l, i + 1, a, b, c, h, h1, h2, h3 => TriF.get (l := b' :: c' :: l) (i := i) h.2 (by simpa using h1) (by simpa using h2) (by simpa using h3)
  | [_, _], 0, _, _, _, _, _, _, h3 => by simp at h3
  | [_, _], 1, _, _, _, _, _, _, h3 => by simp at h3
  | [_, _], i + 2, _, _, _, _, h1, _, _ => by simp at h1
  | [_], 0, _, _, _, _, _, h2, _ => by simp at h2
  | [_], i + 1, _, _, _, _, h1, _, _ => by simp at h1
  | [], _, _, _, _, _, h1, _, _ => by simp at h1
theorem col_all {s : Cell} {S : List Cell} {a m : Cell} (hf : lf s a < lf s m) (h : ∀ c ∈ S, tn a m c = 0) : ∀ x ∈ S, ∀ y ∈ S, ∀ z ∈ S, tn x y z = 0 := by
  intro x hx y hy z hz
  have v : 0 < lf s (df a m) := by rw [lf_df]; omega
  have e : ∀ p ∈ S, ∀ q ∈ S, cr (df a m) (df p q) = 0 := fun p hp q hq => by
    have h1 := h p hp
    have h2 := h q hq
    have : cr (df a m) (df p q) = tn a m q - tn a m p := by simp only [tn, cr, df]; grind
    omega
  have h1 := e x hx y hy
  have h2 := e x hx z hz
  have := cr_id s (df x y) (df a m) (df x z)
  have h3 : cr (df x y) (df a m) = 0 := by have : cr (df x y) (df a m) = - cr (df a m) (df x y) := by simp only [cr]; grind
                                           omega
  rw [h3, h2, Int.zero_mul, Int.zero_mul] at this
  have : cr (df x y) (df x z) = 0 := by
    rcases Int.mul_eq_zero.mp this with z | z
    · exact z
    · omega
  rw [cr_df]
  exact this
theorem TriF.short {l : List Cell} (h : TriF l) (hz : ∀ x ∈ l, ∀ y ∈ l, ∀ z ∈ l, tn x y z = 0) : l.length ≤ 2 := by
  match l, h, hz with
  | [], _, _ => decide
  | [_], _, _ => simp
  | [_, _], _, _ => simp
  | a :: b :: c :: l, h, hz =>
    have := hz a (by simp) b (by simp) c (by simp)
    have := h.1
    omega
end DL

set_option Elab.async false
set_option linter.all false
set_option maxRecDepth 100000
set_option maxHeartbeats 4000000
namespace DL
open PySem PySem.Spec PyProof.Rows L2
theorem lex_lf (S : List Cell) : ∃ s : Cell, ∀ a ∈ S, ∀ b ∈ S, OD.lt a b → lf s a < lf s b := by
  have hN : ∃ N : Int, 0 ≤ N ∧ ∀ c ∈ S, -N ≤ c.2 ∧ c.2 ≤ N := by
    induction S with
    | nil => exact ⟨0, by decide, fun _ h => nomatch h⟩
    | cons d S ih =>
      obtain ⟨N, h0, h⟩ := ih
      refine ⟨N + d.2.natAbs, by omega, fun c hc => ?_⟩
      rcases List.mem_cons.mp hc with z | z
      · rw [z]; omega
      · have := h c z; omega
  obtain ⟨N, h0, h⟩ := hN
  refine ⟨(2 * N + 1, 1), fun a ha b hb hl => ?_⟩
  rw [lt_iff] at hl
  unfold ltI2 at hl
  have h1 := h a ha
  have h2 := h b hb
  simp only [lf]
  rcases hl with z | ⟨z, y⟩
  · have : (2 * N + 1) * (a.1 + 1) ≤ (2 * N + 1) * b.1 := Int.mul_le_mul_of_nonneg_left (by omega) (by omega)
    rw [Int.mul_add] at this
    omega
  · rw [z]; omega
def ng (s : Cell) : Cell := (-s.1, -s.2)
theorem lf_ng (s c : Cell) : lf (ng s) c = - lf s c := by simp only [lf, ng]; grind
theorem Bot.head {s : Cell} {S : List Cell} : ∀ {st : List Cell} {a : Cell} {l : List Cell}, Bot s S st → st.reverse = a :: l → ∀ c ∈ S, lf s a ≤ lf s c
  | [], _, _, _, e => by simp at e
  | [x], a, l, h, e => by
    simp at e
    rw [← e.1]
    exact h
  | x :: b :: t, a, l, h, e => by
    rw [List.reverse_cons] at e
    obtain ⟨a', l', e'⟩ := List.exists_cons_of_ne_nil (show (b :: t).reverse ≠ [] by simp)
    rw [e'] at e
    injection e with e1 _
    rw [← e1]
    exact Bot.head (st := b :: t) h e'
structure Half (s : Cell) (S L : List Cell) (f m : Cell) : Prop where
  sub : ∀ c ∈ L, c ∈ S
  inc : L.Pairwise fun a b => lf s a < lf s b
  edge : EdgF S L
  tri : TriF L
  fst : ∃ Y, L = f :: Y ∧ Y ≠ []
  lst : ∃ X, L = X ++ [m] ∧ X ≠ []
  low : ∀ c ∈ S, lf s c ≤ lf s f → c = f
  top : ∀ c ∈ S, lf s m ≤ lf s c → c = m
  fS : f ∈ S
  mS : m ∈ S
theorem half_ok {s : Cell} {S : List Cell} (h2 : 2 ≤ S.length) (hs : S.Pairwise fun a b => lf s a < lf s b) (inj : ∀ a ∈ S, ∀ b ∈ S, lf s a = lf s b → a = b) : ∃ f m, Half s S (chn S) f m := by
  obtain ⟨m, st, e, hk, ht⟩ := chS_ok (List.ne_nil_of_length_pos (by omega)) hs
  have eL : chn S = st.reverse ++ [m] := by unfold chn; rw [e, List.reverse_cons]
  have xne : st.reverse ≠ [] := fun z => by
    have z' : st = [] := by simpa using z
    subst z'
    match S, h2 with
    | a :: b :: S', _ =>
      have lt := (List.pairwise_cons.mp hs).1 b (by simp)
      have ha := ht a (by simp) (hk.bot a (by simp))
      have hb := ht b (by simp) (hk.bot b (by simp))
      rw [ha, hb] at lt
      omega
  obtain ⟨f, Y, eY⟩ := List.exists_cons_of_ne_nil xne
  have low := hk.bot.head (a := f) (l := Y ++ [m]) (by rw [List.reverse_cons, eY]; rfl)
  have fS : f ∈ S := hk.sub f (List.mem_cons_of_mem _ (List.mem_reverse.mp (by rw [eY]; simp)))
  refine ⟨f, m, ⟨fun c hc => hk.sub c ?_, ?_, ?_, ?_, ⟨Y ++ [m], by rw [eL, eY]; rfl, by simp⟩, ⟨st.reverse, eL, xne⟩, fun c hc hf => ?_, ht, fS, hk.sub m (by simp)⟩⟩
  · rw [eL, ← List.reverse_cons] at hc
    exact List.mem_reverse.mp hc
  · rw [eL, ← List.reverse_cons, List.pairwise_reverse]
    exact hk.dec
  · rw [eL, ← List.reverse_cons]
    exact hk.edge.rev
  · rw [eL, ← List.reverse_cons]
    exact hk.str.rev
  · have := low c hc
    exact inj c hc f fS (by omega)
theorem EdgF.mem {S S' : List Cell} (h : ∀ c ∈ S', c ∈ S) : ∀ {l : List Cell}, EdgF S l → EdgF S' l
  | [], _ => trivial
  | [_], _ => trivial
  | a :: b :: l, e => ⟨fun c hc => e.1 c (h c hc), EdgF.mem (l := b :: l) h e.2⟩
theorem corner {s : Cell} {S : List Cell} {a m b : Cell} (ha : lf s a < lf s m) (hb : lf s b < lf s m) (haS : a ∈ S) (hbS : b ∈ S) (top : ∀ c ∈ S, lf s c ≤ lf s m) (e1 : ∀ c ∈ S, 0 ≤ tn a m c) (e2 : ∀ c ∈ S, 0 ≤ tn m b c) : 0 < tn a m b ∨ ∀ x ∈ S, ∀ y ∈ S, ∀ z ∈ S, tn x y z = 0 := by
  by_cases c : 0 < tn a m b
  · exact .inl c
  · refine .inr (col_all ha fun x hx => ?_)
    have z0 := e1 b hbS
    have v : 0 < lf s (df a m) := by rw [lf_df]; omega
    have w : 0 < lf s (df b m) := by rw [lf_df]; omega
    have p1 := e1 x hx
    have p2 := e2 x hx
    have i := cr_id s (df a m) (df b m) (df x m)
    have t1 : cr (df a m) (df b m) = - tn a m b := by simp only [tn, cr, df]; grind
    have t2 : cr (df b m) (df x m) = tn m b x := by simp only [tn, cr, df]; grind
    have t3 : cr (df a m) (df x m) = - tn a m x := by simp only [tn, cr, df]; grind
    rw [t1, t2, t3] at i
    have z : tn a m b = 0 := by omega
    rw [z] at i
    have q := Int.mul_nonneg p2 (Int.le_of_lt v)
    have : 0 ≤ - tn a m x := pos_of_mul (y := lf s (df b m)) (by rw [i]; omega) w
    omega
theorem split_last {α : Type} {l : List α} (h : l ≠ []) : ∃ x a, l = x ++ [a] := ⟨l.dropLast, l.getLast h, (List.dropLast_concat_getLast h).symm⟩
theorem mid_of {α : Type} {l : List α} {f m c : α} (hc : c ∈ l) (h1 : ∃ Y, l = f :: Y) (h2 : ∃ X, l = X ++ [m]) (n1 : c ≠ f) (n2 : c ≠ m) : ∃ x a b y, l = x ++ a :: c :: b :: y := by
  obtain ⟨x, y, e⟩ := List.append_of_mem hc
  obtain ⟨Y, eY⟩ := h1
  obtain ⟨X, eX⟩ := h2
  have xne : x ≠ [] := fun z => by
    rw [z, List.nil_append, eY] at e
    injection e with e _
    exact n1 e.symm
  obtain ⟨x', a, rfl⟩ := split_last xne
  cases y with
  | nil =>
    rw [eX] at e
    have := congrArg List.getLast? e
    simp at this
    exact absurd this.symm n2
  | cons b y => exact ⟨x', a, b, y, by rw [e]; simp⟩
theorem Pairwise.mid {R : Cell → Cell → Prop} {x y : List Cell} {a c b : Cell} (h : (x ++ a :: c :: b :: y).Pairwise R) : R a c ∧ R c b := by
  have := (List.pairwise_append.mp h).2.1
  obtain ⟨h1, h2⟩ := List.pairwise_cons.mp this
  exact ⟨h1 c (by simp), (List.pairwise_cons.mp h2).1 b (by simp)⟩
theorem EdgF.mid {S : List Cell} : ∀ {x y : List Cell} {a c b : Cell}, EdgF S (x ++ a :: c :: b :: y) → (∀ q ∈ S, 0 ≤ tn a c q) ∧ ∀ q ∈ S, 0 ≤ tn c b q
  | [], _, _, _, _, h => ⟨h.1, h.2.1⟩
  | [_], _, _, _, _, h => ⟨h.2.1, h.2.2.1⟩
  | _ :: z :: x, y, a, c, b, h => EdgF.mid (x := z :: x) h.2
theorem TriF.mid : ∀ {x y : List Cell} {a c b : Cell}, TriF (x ++ a :: c :: b :: y) → 0 < tn a c b
  | [], _, _, _, _, h => h.1
  | [_], _, _, _, _, h => h.2.1
  | [_, _], _, _, _, _, h => h.2.2.1
  | _ :: z :: z' :: x, y, a, c, b, h => TriF.mid (x := z :: z' :: x) h.2
structure Hul (S H : List Cell) : Prop where
  len : 2 ≤ H.length
  sub : ∀ c ∈ H, c ∈ S
  head : H.head? = S.head?
  nd : H.Nodup
  edge : EdgF S (H ++ H.take 1)
  tri : 3 ≤ H.length → TriF (H ++ H.take 2)
  two : H.length = 2 → H[1]? = S.getLast?
theorem hul_ok {S : List Cell} (hS : S.Pairwise OD.lt) (h2 : 2 ≤ S.length) : Hul S ((chn S).dropLast ++ (chn S.reverse).dropLast) := by
  obtain ⟨s, hs⟩ := lex_lf S
  have inj : ∀ a ∈ S, ∀ b ∈ S, lf s a = lf s b → a = b := fun a ha b hb e => by
    rcases OD.tri a b with z | z | z
    · have := hs a ha b hb z; omega
    · exact z
    · have := hs b hb a ha z; omega
  have inc : S.Pairwise fun a b => lf s a < lf s b := List.Pairwise.imp_of_mem (fun {a b} ha hb h => hs a ha b hb h) hS
  obtain ⟨f, m, hL⟩ := half_ok h2 inc inj
  obtain ⟨m', f', hU⟩ := half_ok (s := ng s) (S := S.reverse) (by rw [List.length_reverse]; exact h2) (by
    rw [List.pairwise_reverse]
    exact inc.imp fun {a b} h => by rw [lf_ng, lf_ng]; omega) fun a ha b hb e => inj a (List.mem_reverse.mp ha) b (List.mem_reverse.mp hb) (by rw [lf_ng, lf_ng] at e; omega)
  have em : m' = m := by
    have h1 := hU.low m (List.mem_reverse.mpr hL.mS)
    rw [lf_ng, lf_ng] at h1
    by_cases q : lf s m' ≤ lf s m
    · exact (h1 (by omega)).symm
    · exact hL.top m' (List.mem_reverse.mp hU.mS |> fun _ => List.mem_reverse.mp hU.fS) (by omega)
  have ef : f' = f := by
    have h1 := hU.top f (List.mem_reverse.mpr hL.fS)
    rw [lf_ng, lf_ng] at h1
    by_cases q : lf s f ≤ lf s f'
    · exact (h1 (by omega)).symm
    · exact hL.low f' (List.mem_reverse.mp hU.mS) (by omega)
  subst em; subst ef
  have edU : EdgF S (chn S.reverse) := hU.edge.mem fun c hc => List.mem_reverse.mpr hc
  have subU : ∀ c ∈ chn S.reverse, c ∈ S := fun c hc => List.mem_reverse.mp (hU.sub c hc)
  have incU : (chn S.reverse).Pairwise fun a b => lf s b < lf s a := hU.inc.imp fun {a b} h => by rw [lf_ng, lf_ng] at h; omega
  obtain ⟨X, eX, xne⟩ := hL.lst
  obtain ⟨Y, eY, yne⟩ := hL.fst
  obtain ⟨X', eX', xne'⟩ := hU.lst
  obtain ⟨Y', eY', yne'⟩ := hU.fst
  have subL := hL.sub
  have edL := hL.edge
  have triL := hL.tri
  have triU := hU.tri
  have incL := hL.inc
  generalize chn S = L at *
  generalize chn S.reverse = U at *
  have dL : L.dropLast = X := by rw [eX]; simp
  have dU : U.dropLast = X' := by rw [eX']; simp
  rw [dL, dU]
  obtain ⟨x1, X1, e1⟩ := List.exists_cons_of_ne_nil xne
  have ex1 : x1 = f' := by
    rw [eX, e1] at eY
    injection eY with a b
  subst ex1
  obtain ⟨u1, X1', e1'⟩ := List.exists_cons_of_ne_nil xne'
  have eu1 : u1 = m' := by
    rw [eX', e1'] at eY'
    injection eY' with a b
  subst eu1
  have fm : lf s x1 < lf s u1 := by
    rw [eY] at incL
    obtain ⟨z, a, ez⟩ := split_last yne
    have : a = u1 := by
      rw [eX, ez] at eY
      have h := congrArg List.getLast? eY
      rw [show x1 :: (z ++ [a]) = (x1 :: z) ++ [a] from rfl, List.getLast?_concat, List.getLast?_concat] at h
      exact (Option.some.inj h).symm
    subst this
    exact (List.pairwise_cons.mp incL).1 a (by rw [ez]; simp)
  have topm : ∀ c ∈ S, lf s c ≤ lf s u1 := fun c hc => by
    by_cases q : lf s u1 ≤ lf s c
    · rw [hL.top c hc q]; exact Int.le_refl _
    · omega
  have lowf : ∀ c ∈ S, lf s x1 ≤ lf s c := fun c hc => by
    by_cases q : lf s c ≤ lf s x1
    · rw [hL.low c hc q]; exact Int.le_refl _
    · omega
  have hlen : (X ++ X').length = X.length + X'.length := List.length_append
  have lX : 1 ≤ X.length := List.length_pos_iff.mpr xne
  have lX' : 1 ≤ X'.length := List.length_pos_iff.mpr xne'
  have memX : ∀ c ∈ X, c ∈ L := fun c hc => by rw [eX]; simp [hc]
  have memX' : ∀ c ∈ X', c ∈ U := fun c hc => by rw [eX']; simp [hc]
  have iX : ∀ c ∈ X, lf s c < lf s u1 := fun c hc => by
    rw [eX] at incL
    exact (List.pairwise_append.mp incL).2.2 c hc u1 (by simp)
  have iX' : ∀ c ∈ X', lf s x1 < lf s c := fun c hc => by
    rw [eX'] at incU
    exact (List.pairwise_append.mp incU).2.2 c hc x1 (by simp)
  refine ⟨by omega, fun c hc => ?_, ?_, ?_, ?_, fun h3 => ?_, fun hn => ?_⟩
  · rcases List.mem_append.mp hc with z | z
    · exact subL c (memX c z)
    · exact subU c (memX' c z)
  · rw [e1]
    match S, h2 with
    | a :: S', _ =>
      have : lf s a ≤ lf s x1 := by
        rcases List.mem_cons.mp hL.fS with z | z
        · rw [z]; exact Int.le_refl _
        · exact Int.le_of_lt ((List.pairwise_cons.mp inc).1 x1 z)
      rw [hL.low a (by simp) this]
      rfl
  · refine List.nodup_append.mpr ⟨?_, ?_, fun c hc d hd e => ?_⟩
    · rw [eX] at incL
      exact (List.pairwise_append.mp incL).1.imp fun {a b} h e => by rw [e] at h; omega
    · rw [eX'] at incU
      exact (List.pairwise_append.mp incU).1.imp fun {a b} h e => by rw [e] at h; omega
    · subst e
      have n1 : c ≠ u1 := fun z => by have := iX c hc; rw [z] at this; omega
      have n2 : c ≠ x1 := fun z => by have := iX' c hd; rw [z] at this; omega
      obtain ⟨x, a, b, y, el⟩ := mid_of (memX c hc) ⟨Y, eY⟩ ⟨X, eX⟩ n2 n1
      obtain ⟨x', d, g, y', el'⟩ := mid_of (memX' c hd) ⟨Y', eY'⟩ ⟨X', eX'⟩ n1 n2
      rw [el] at edL triL incL
      rw [el'] at edU incU
      have hb : b ∈ S := subL b (by rw [el]; simp)
      have ha : a ∈ S := subL a (by rw [el]; simp)
      have hg : g ∈ S := subU g (by rw [el']; simp)
      have t := triL.mid
      have i1 := Pairwise.mid incL
      have i2 := Pairwise.mid incU
      have c1 := edL.mid.2 g hg
      have c2 := edU.mid.2 b hb
      have c3 := edU.mid.2 a ha
      have v1 : 0 < lf s (df g c) := by rw [lf_df]; omega
      have v2 : 0 < lf s (df c b) := by rw [lf_df]; omega
      have i := cr_id s (df c b) (df g c) (df c a)
      have t0 : tn c b g = - tn c g b := by simp only [tn]; grind
      have t1 : cr (df c b) (df g c) = - tn c b g := by simp only [tn, cr, df]; grind
      have t2 : cr (df g c) (df c a) = - tn c g a := by simp only [tn, cr, df]; grind
      have t3 : cr (df c b) (df c a) = tn a c b := by simp only [tn, cr, df]; grind
      rw [t1, t2, t3] at i
      have z : tn c b g = 0 := by omega
      rw [z] at i
      have p := Int.mul_nonneg c3 (Int.le_of_lt v2)
      have q : tn a c b * lf s (df g c) ≤ 0 := by
        rw [i]
        simp only [Int.neg_zero, Int.zero_mul, Int.zero_add, Int.neg_mul]
        omega
      have q2 : 0 < tn a c b * lf s (df g c) := Int.mul_pos t v1
      omega
  · have e2 : (X ++ X') ++ (X ++ X').take 1 = X ++ u1 :: Y' := by
      rw [← eY', eX', e1]
      simp
    rw [e2]
    exact EdgF.app (by rw [← eX]; exact edL) (by rw [← eY']; exact edU)
  · have notcol : ¬ ∀ x ∈ S, ∀ y ∈ S, ∀ z ∈ S, tn x y z = 0 := fun hz => by
      have l1 := triL.short fun x hx y hy z h => hz x (subL x hx) y (subL y hy) z (subL z h)
      have l2 := triU.short fun x hx y hy z h => hz x (subU x hx) y (subU y hy) z (subU z h)
      rw [eX, List.length_append, List.length_singleton] at l1
      rw [eX', List.length_append, List.length_singleton] at l2
      omega
    obtain ⟨X2, a, e2⟩ := split_last xne
    obtain ⟨b, V, eb⟩ := List.exists_cons_of_ne_nil yne'
    obtain ⟨X3, d, e3⟩ := split_last xne'
    obtain ⟨l1, Y2, el⟩ := List.exists_cons_of_ne_nil yne
    have aL : a ∈ X := by rw [e2]; simp
    have dU' : d ∈ X' := by rw [e3]; simp
    have bU : b ∈ U := by rw [eY', eb]; simp
    have lL : l1 ∈ L := by rw [eY, el]; simp
    have ib : lf s b < lf s u1 := by
      rw [eY', eb] at incU
      exact (List.pairwise_cons.mp incU).1 b (by simp)
    have il : lf s x1 < lf s l1 := by
      rw [eY, el] at incL
      exact (List.pairwise_cons.mp incL).1 l1 (by simp)
    have ed1 : ∀ c ∈ S, 0 ≤ tn a u1 c := by
      have : L = X2 ++ [a, u1] := by rw [eX, e2]; simp
      rw [this] at edL
      intro c hc
      have g : ∀ (x : List Cell), EdgF S (x ++ [a, u1]) → 0 ≤ tn a u1 c := by
        intro x
        induction x with
        | nil => exact fun h => h.1 c hc
        | cons z x ih =>
          intro h
          cases x with
          | nil => exact ih h.2
          | cons z' x => exact ih h.2
      exact g X2 edL
    have ed2 : ∀ c ∈ S, 0 ≤ tn u1 b c := by rw [eY', eb] at edU; exact edU.1
    have ed3 : ∀ c ∈ S, 0 ≤ tn d x1 c := by
      have : U = X3 ++ [d, x1] := by rw [eX', e3]; simp
      rw [this] at edU
      intro c hc
      have g : ∀ (x : List Cell), EdgF S (x ++ [d, x1]) → 0 ≤ tn d x1 c := by
        intro x
        induction x with
        | nil => exact fun h => h.1 c hc
        | cons z x ih =>
          intro h
          cases x with
          | nil => exact ih h.2
          | cons z' x => exact ih h.2
      exact g X3 edU
    have ed4 : ∀ c ∈ S, 0 ≤ tn x1 l1 c := by rw [eY, el] at edL; exact edL.1
    have j1 := (corner (iX a aL) ib (subL a (memX a aL)) (subU b bU) topm ed1 ed2).resolve_right notcol
    have j2 := (corner (s := ng s) (a := d) (m := x1) (b := l1) (by rw [lf_ng, lf_ng]; have := iX' d dU'; omega) (by rw [lf_ng, lf_ng]; omega) (subU d (memX' d dU')) (subL l1 lL) (fun c hc => by rw [lf_ng, lf_ng]; have := lowf c hc; omega) ed3 ed4).resolve_right notcol
    have t2 : (X ++ X').take 2 = [x1, l1] := by
      have : X ++ X' = x1 :: l1 :: (X ++ X').drop 2 := by
        have eL2 : X ++ [u1] = x1 :: l1 :: Y2 := by rw [← eX, eY, el]
        rw [e1] at eL2 ⊢
        cases X1 with
        | nil =>
          simp at eL2
          rw [e1', ← eL2.1]
          rfl
        | cons q X1 =>
          simp at eL2
          rw [← eL2.1]
          rfl
      rw [this]
      rfl
    have w1 : TriF (X ++ U) := by
      have h1 : X ++ U = X2 ++ a :: u1 :: (b :: V) := by rw [e2, eY', eb]; simp
      rw [h1]
      refine TriF.app ?_ ⟨j1, ?_⟩
      · have : X2 ++ [a, u1] = L := by rw [eX, e2]; simp
        rw [this]; exact triL
      · rw [← eb, ← eY']; exact triU
    have h2 : (X ++ X') ++ [x1, l1] = (X ++ X3) ++ d :: x1 :: [l1] := by rw [e3]; simp
    rw [t2, h2]
    refine TriF.app ?_ ⟨j2, trivial⟩
    have h3 : (X ++ X3) ++ [d, x1] = X ++ U := by rw [eX', e3]; simp
    rw [h3]
    exact w1
  · have lx : X = [x1] := by
      cases X1 with
      | nil => exact e1
      | cons q X1 =>
        have : X.length = X1.length + 2 := by rw [e1]; simp
        rw [hlen] at hn
        omega
    have lx' : X' = [u1] := by
      cases X1' with
      | nil => exact e1'
      | cons q X1' =>
        have : X'.length = X1'.length + 2 := by rw [e1']; simp
        rw [hlen] at hn
        omega
    rw [lx, lx']
    obtain ⟨z, a, ez⟩ := split_last (List.ne_nil_of_length_pos (show 0 < S.length by omega))
    have : a = u1 := by
      refine hL.top a (by rw [ez]; simp) ?_
      rw [ez] at inc
      have hm := hL.mS
      rw [ez] at hm
      rcases List.mem_append.mp hm with y | y
      · exact Int.le_of_lt ((List.pairwise_append.mp inc).2.2 u1 y a (by simp))
      · rw [List.mem_singleton.mp y]; exact Int.le_refl _
    rw [ez, this]
    simp
end DL

set_option Elab.async false
set_option linter.all false
set_option maxRecDepth 100000
set_option maxHeartbeats 4000000
namespace DL
open PySem PySem.Spec PyProof.Rows L2
def Tn (a b : Cell) (X Y L : Int) : Int := (b.1 - a.1) * (Y - a.2 * L) - (b.2 - a.2) * (X - a.1 * L)
theorem Tn_swap (a b : Cell) (X Y L : Int) : Tn b a X Y L = - Tn a b X Y L := by simp only [Tn]; grind
theorem Tn_same (a : Cell) (X Y L : Int) : Tn a a X Y L = 0 := by simp only [Tn]; grind
def Comb (cs : List Cell) (X Y L : Int) : Prop := ∃ a ∈ cs, ∃ b ∈ cs, ∃ c ∈ cs, ∃ α β γ m : Int, 0 ≤ α ∧ 0 ≤ β ∧ 0 ≤ γ ∧ 0 < m ∧ m * X = α * a.1 + β * b.1 + γ * c.1 ∧ m * Y = α * a.2 + β * b.2 + γ * c.2 ∧ m * L = α + β + γ
abbrev Side := Cell × Int
def Held (d : Side) (X Y L : Int) : Prop := d.2 * L ≤ d.1.1 * X + d.1.2 * Y
instance (d : Side) (X Y L : Int) : Decidable (Held d X Y L) := inferInstanceAs (Decidable (_ ≤ _))
theorem comb_pos {cs : List Cell} {X Y L : Int} {p q r : Int} (h : Comb cs X Y L) (hc : ∀ c ∈ cs, 0 ≤ p * c.1 + q * c.2 + r) : 0 ≤ p * X + q * Y + r * L := by
  obtain ⟨a, ha, b, hb, c, hc', α, β, γ, m, a0, b0, c0, m0, e1, e2, e3⟩ := h
  refine pos_of_mul (y := m) ?_ m0
  have h1 := Int.mul_nonneg a0 (hc a ha)
  have h2 := Int.mul_nonneg b0 (hc b hb)
  have h3 := Int.mul_nonneg c0 (hc c hc')
  have e : (p * X + q * Y + r * L) * m = p * (m * X) + q * (m * Y) + r * (m * L) := by grind
  rw [e, e1, e2, e3]
  have : p * (α * a.1 + β * b.1 + γ * c.1) + q * (α * a.2 + β * b.2 + γ * c.2) + r * (α + β + γ) = α * (p * a.1 + q * a.2 + r) + β * (p * b.1 + q * b.2 + r) + γ * (p * c.1 + q * c.2 + r) := by grind
  omega
theorem comb_holds {cs : List Cell} {X Y L : Int} {d : Side} (h : Comb cs X Y L) (hc : ∀ c ∈ cs, d.2 ≤ lf d.1 c) : Held d X Y L := by
  have := comb_pos (p := d.1.1) (q := d.1.2) (r := -d.2) h fun c hc' => by
    have := hc c hc'
    unfold lf at this
    omega
  unfold Held
  have e : -d.2 * L = -(d.2 * L) := by grind
  omega
def nxt (H : List Cell) : List Cell := H.tail ++ H.take 1
def waysC (H : List Cell) : List (Cell × Cell) := (H.zip (nxt H)).map fun p => (p.1, df p.1 p.2)
def sideAt (s c : Cell) : Side := (s, lf s c)
def sidesC (H : List Cell) : List Side := match H with
  | [a] => ([(1, 0), (-1, 0), (0, 1), (0, -1)] : List Cell).map fun s => sideAt s a
  | H => (waysC H).flatMap fun w => sideAt (-w.2.2, w.2.1) w.1 :: (if H.length = 2 then [sideAt w.2 w.1] else [])
def EdgZ (S : List Cell) (H : List Cell) : Prop := ∀ p ∈ H.zip (nxt H), ∀ c ∈ S, 0 ≤ tn p.1 p.2 c
theorem EdgF.zip {S : List Cell} : ∀ {l : List Cell} {x : Cell}, EdgF S (x :: l) → ∀ p ∈ (x :: l).zip l, ∀ c ∈ S, 0 ≤ tn p.1 p.2 c
  | [], _, _, _, h => nomatch h
  | y :: l, x, h, p, hp => by
    rw [List.zip_cons_cons] at hp
    rcases List.mem_cons.mp hp with z | z
    · rw [z]; exact h.1
    · exact EdgF.zip (l := l) (x := y) h.2 p z
theorem zip_app_left {α β : Type} : ∀ (l m : List α) (k : List β), k.length ≤ l.length → (l ++ m).zip k = l.zip k
  | [], m, [], _ => by simp
  | [], _, _ :: _, h => by simp at h
  | a :: l, m, [], _ => by simp
  | a :: l, m, b :: k, h => by
    rw [List.cons_append, List.zip_cons_cons, List.zip_cons_cons, zip_app_left l m k (by simpa using h)]
theorem Hul.edgZ {S H : List Cell} (h : Hul S H) : EdgZ S H := by
  have h2 := h.len
  match H, h, h2 with
  | x :: H', h, _ =>
    have e := h.edge
    have : (x :: H') ++ (x :: H').take 1 = x :: nxt (x :: H') := rfl
    rw [this] at e
    intro p hp
    refine e.zip p ?_
    have e2 : (x :: nxt (x :: H')).zip (nxt (x :: H')) = (x :: H').zip (nxt (x :: H')) := by
      rw [← this]
      exact zip_app_left _ _ _ (by unfold nxt; simp)
    rw [e2]
    exact hp
theorem lf_side (a b c : Cell) : lf (-(df a b).2, (df a b).1) c = lf (-(df a b).2, (df a b).1) a + tn a b c := by
  simp only [lf, df, tn]; grind
theorem side_Tn (a b : Cell) (X Y L : Int) : Held (sideAt (-(df a b).2, (df a b).1) a) X Y L ↔ 0 ≤ Tn a b X Y L := by
  have : (-(df a b).2) * X + (df a b).1 * Y = lf (-(df a b).2, (df a b).1) a * L + Tn a b X Y L := by simp only [lf, df, Tn]; grind
  unfold Held sideAt
  simp only
  omega
def dt (u v : Cell) : Int := u.1 * v.1 + u.2 * v.2
theorem dt_pos {u : Cell} (h : u ≠ (0, 0)) : 0 < dt u u := by
  have s0 : ∀ a : Int, 0 ≤ a * a := fun a => by rw [← Int.natAbs_mul_self]; exact Int.natCast_nonneg _
  have s1 : ∀ a : Int, a ≠ 0 → 0 < a * a := fun a ha => by
    have := Int.natAbs_pos.mpr ha
    rw [← Int.natAbs_mul_self]
    have := Nat.mul_pos this this
    omega
  obtain ⟨x, y⟩ := u
  unfold dt
  simp only
  have := s0 x
  have := s0 y
  by_cases hx : x = 0
  · by_cases hy : y = 0
    · rw [hx, hy] at h; exact absurd rfl h
    · have := s1 y hy; omega
  · have := s1 x hx; omega
theorem df_ne {a b : Cell} (h : a ≠ b) : df a b ≠ (0, 0) := fun z => h (by
  unfold df at z
  injection z with z1 z2
  exact Prod.ext (by omega) (by omega))
structure Two (cs : List Cell) (a b : Cell) : Prop where
  am : a ∈ cs
  bm : b ∈ cs
  ne : a ≠ b
  col : ∀ c ∈ cs, tn a b c = 0
  d0 : ∀ c ∈ cs, 0 ≤ dt (df a b) (df a c)
  d1 : ∀ c ∈ cs, dt (df a b) (df a c) ≤ dt (df a b) (df a b)
theorem par_dt {s v w : Cell} (hv : 0 < lf s v) (hw : 0 ≤ lf s w) (hc : cr v w = 0) : 0 ≤ dt v w := by
  refine pos_of_mul (y := lf s v) ?_ hv
  have e1 : w.1 * lf s v = v.1 * lf s w - cr v w * s.2 := by simp only [lf, cr]; grind
  have e2 : w.2 * lf s v = v.2 * lf s w + cr v w * s.1 := by simp only [lf, cr]; grind
  rw [hc] at e1 e2
  have : dt v w * lf s v = v.1 * (w.1 * lf s v) + v.2 * (w.2 * lf s v) := by simp only [dt]; grind
  rw [this, e1, e2]
  have q : v.1 * (v.1 * lf s w - 0 * s.2) + v.2 * (v.2 * lf s w + 0 * s.1) = dt v v * lf s w := by simp only [dt]; grind
  rw [q]
  have vne : v ≠ (0, 0) := fun z => by rw [z] at hv; simp [lf] at hv
  exact Int.mul_nonneg (Int.le_of_lt (dt_pos vne)) hw
theorem Hul.two_ok {S H : List Cell} (hS : S.Pairwise OD.lt) (h : Hul S H) (h2 : H.length = 2) : ∃ a b, H = [a, b] ∧ Two S a b := by
  match H, h, h2 with
  | [a, b], h, _ =>
    refine ⟨a, b, rfl, ?_⟩
    have am := h.sub a (by simp)
    have bm := h.sub b (by simp)
    have ne : a ≠ b := (List.nodup_cons.mp h.nd).1 |> fun z e => z (by rw [e]; simp)
    have ez := h.edgZ
    have e1 : ∀ c ∈ S, 0 ≤ tn a b c := ez (a, b) (by simp [nxt])
    have e2 : ∀ c ∈ S, 0 ≤ tn b a c := ez (b, a) (by simp [nxt])
    have col : ∀ c ∈ S, tn a b c = 0 := fun c hc => by
      have p := e1 c hc
      have q := e2 c hc
      have := tn_swap a b c
      omega
    obtain ⟨s, hs⟩ := lex_lf S
    have hd := h.head
    have lst := h.two rfl
    have lo : ∀ c ∈ S, lf s a ≤ lf s c := fun c hc => by
      match S, hS, hs, hd, hc with
      | x :: S', hS, hs, hd, hc =>
        simp at hd
        subst hd
        rcases List.mem_cons.mp hc with z | z
        · rw [z]; exact Int.le_refl _
        · exact Int.le_of_lt (hs a (by simp) c (by simp [z]) ((List.pairwise_cons.mp hS).1 c z))
    have hi : ∀ c ∈ S, lf s c ≤ lf s b := fun c hc => by
      obtain ⟨Z, l, ez'⟩ := split_last (List.ne_nil_of_mem hc)
      have el : b = l := by
        rw [ez', List.getLast?_concat] at lst
        simpa using lst
      subst el
      have hc' := hc
      rw [ez'] at hc'
      rcases List.mem_append.mp hc' with q | q
      · exact Int.le_of_lt (hs c hc b bm (by rw [ez'] at hS; exact (List.pairwise_append.mp hS).2.2 c q b (by simp)))
      · rw [List.mem_singleton.mp q]; exact Int.le_refl _
    have lab : lf s a < lf s b := by
      rcases OD.tri a b with z | z | z
      · exact hs a am b bm z
      · exact absurd z ne
      · have := hs b bm a am z
        have := lo b bm
        omega
    refine ⟨am, bm, ne, col, fun c hc => ?_, fun c hc => ?_⟩
    · exact par_dt (s := s) (by rw [lf_df]; omega) (by rw [lf_df]; have := lo c hc; omega) (col c hc)
    · have q := par_dt (s := s) (v := df a b) (w := df c b) (by rw [lf_df]; omega) (by rw [lf_df]; have := hi c hc; omega) (by
        have := col c hc
        have e : cr (df a b) (df c b) = - tn a b c := by simp only [tn, cr, df]; grind
        omega)
      have e : dt (df a b) (df c b) = dt (df a b) (df a b) - dt (df a b) (df a c) := by simp only [dt, df]; grind
      omega
theorem sides_lo {S H : List Cell} (hS : S.Pairwise OD.lt) (h : Hul S H) : ∀ d ∈ sidesC H, (∀ c ∈ S, d.2 ≤ lf d.1 c) ∧ ∃ c ∈ S, lf d.1 c = d.2 := by
  intro d hd
  have h2 := h.len
  have hz := h.edgZ
  have e : sidesC H = (waysC H).flatMap fun w => sideAt (-w.2.2, w.2.1) w.1 :: (if H.length = 2 then [sideAt w.2 w.1] else []) := by
    match H, h2 with
    | _ :: _ :: _, _ => rfl
  rw [e] at hd
  obtain ⟨w, hw, hd⟩ := List.mem_flatMap.mp hd
  obtain ⟨p, hp, rfl⟩ := List.mem_map.mp hw
  have p1 : p.1 ∈ S := h.sub _ (List.of_mem_zip (a := p.1) (b := p.2) hp).1
  rcases List.mem_cons.mp hd with z | z
  · rw [z]
    refine ⟨fun c hc => ?_, p.1, p1, rfl⟩
    have := hz p hp c hc
    have e2 := lf_side p.1 p.2 c
    simp only [sideAt]
    omega
  · by_cases c2 : H.length = 2
    · rw [if_pos c2] at z
      rw [List.mem_singleton.mp z]
      obtain ⟨a, b, rfl, t⟩ := h.two_ok hS c2
      refine ⟨fun c hc => ?_, p.1, p1, rfl⟩
      simp [nxt] at hp
      rcases hp with rfl | rfl
      · have := t.d0 c hc
        have e3 : lf (df a b) c = lf (df a b) a + dt (df a b) (df a c) := by simp only [lf, dt, df]; grind
        simp only [sideAt]
        omega
      · have := t.d1 c hc
        have e3 : lf (df b a) c = lf (df b a) b + (dt (df a b) (df a b) - dt (df a b) (df a c)) := by simp only [lf, dt, df]; grind
        simp only [sideAt]
        omega
    · rw [if_neg c2] at z
      exact nomatch z
def BoxC (a b c : Cell) (X Y L : Int) : Prop := ((a.1 * L ≤ X ∨ b.1 * L ≤ X ∨ c.1 * L ≤ X) ∧ (X ≤ a.1 * L ∨ X ≤ b.1 * L ∨ X ≤ c.1 * L)) ∧ (a.2 * L ≤ Y ∨ b.2 * L ≤ Y ∨ c.2 * L ≤ Y) ∧ (Y ≤ a.2 * L ∨ Y ≤ b.2 * L ∨ Y ≤ c.2 * L)
def InTri (a b c : Cell) (X Y L : Int) : Prop := ((0 ≤ Tn a b X Y L ∧ 0 ≤ Tn b c X Y L ∧ 0 ≤ Tn c a X Y L) ∨ (Tn a b X Y L ≤ 0 ∧ Tn b c X Y L ≤ 0 ∧ Tn c a X Y L ≤ 0)) ∧ (Tn a b X Y L = 0 → Tn b c X Y L = 0 → Tn c a X Y L = 0 → BoxC a b c X Y L)
theorem InTri.rot {a b c : Cell} {X Y L : Int} (h : InTri a b c X Y L) : InTri b c a X Y L := by
  unfold InTri BoxC at *
  omega
theorem InTri.flip {a b c : Cell} {X Y L : Int} (h : InTri a b c X Y L) : InTri b a c X Y L := by
  have e1 := Tn_swap a b X Y L
  have e2 := Tn_swap b c X Y L
  have e3 := Tn_swap c a X Y L
  unfold InTri BoxC at *
  rw [e1, e2, e3]
  omega
theorem bary (a b c : Cell) (X Y L : Int) : tn a b c * X = Tn b c X Y L * a.1 + Tn c a X Y L * b.1 + Tn a b X Y L * c.1 ∧ tn a b c * Y = Tn b c X Y L * a.2 + Tn c a X Y L * b.2 + Tn a b X Y L * c.2 ∧ tn a b c * L = Tn b c X Y L + Tn c a X Y L + Tn a b X Y L := by
  simp only [tn, Tn]
  refine ⟨?_, ?_, ?_⟩ <;> grind
theorem seg_x {cs : List Cell} {a b : Cell} {X Y L : Int} (ha : a ∈ cs) (hb : b ∈ cs) (hx : a.1 < b.1) (ht : Tn a b X Y L = 0) (h0 : a.1 * L ≤ X) (h1 : X ≤ b.1 * L) : Comb cs X Y L := by
  refine ⟨a, ha, b, hb, b, hb, b.1 * L - X, X - a.1 * L, 0, b.1 - a.1, by omega, by omega, Int.le_refl _, by omega, by grind, ?_, by grind⟩
  unfold Tn at ht
  grind
theorem seg_y {cs : List Cell} {a b : Cell} {X Y L : Int} (ha : a ∈ cs) (hb : b ∈ cs) (hx : a.2 < b.2) (ht : Tn a b X Y L = 0) (h0 : a.2 * L ≤ Y) (h1 : Y ≤ b.2 * L) : Comb cs X Y L := by
  refine ⟨a, ha, b, hb, b, hb, b.2 * L - Y, Y - a.2 * L, 0, b.2 - a.2, by omega, by omega, Int.le_refl _, by omega, ?_, by grind, by grind⟩
  unfold Tn at ht
  grind
theorem seg_sym {cs : List Cell} {a b : Cell} {X Y L : Int} (hL : 0 < L) (ha : a ∈ cs) (hb : b ∈ cs) (ht : Tn a b X Y L = 0) (hx : (a.1 * L ≤ X ∧ X ≤ b.1 * L) ∨ (b.1 * L ≤ X ∧ X ≤ a.1 * L)) (hne : a.1 ≠ b.1) : Comb cs X Y L := by
  rcases Int.lt_or_gt_of_ne hne with h | h
  · refine seg_x ha hb h ht ?_ ?_
    · have := Int.mul_le_mul_of_nonneg_right (Int.le_of_lt h) (Int.le_of_lt hL)
      omega
    · have := Int.mul_le_mul_of_nonneg_right (Int.le_of_lt h) (Int.le_of_lt hL)
      omega
  · refine seg_x hb ha h (by rw [Tn_swap, ht]; rfl) ?_ ?_
    · have := Int.mul_le_mul_of_nonneg_right (Int.le_of_lt h) (Int.le_of_lt hL)
      omega
    · have := Int.mul_le_mul_of_nonneg_right (Int.le_of_lt h) (Int.le_of_lt hL)
      omega
theorem seg_symy {cs : List Cell} {a b : Cell} {X Y L : Int} (hL : 0 < L) (ha : a ∈ cs) (hb : b ∈ cs) (ht : Tn a b X Y L = 0) (hx : (a.2 * L ≤ Y ∧ Y ≤ b.2 * L) ∨ (b.2 * L ≤ Y ∧ Y ≤ a.2 * L)) (hne : a.2 ≠ b.2) : Comb cs X Y L := by
  rcases Int.lt_or_gt_of_ne hne with h | h
  · refine seg_y ha hb h ht ?_ ?_
    · have := Int.mul_le_mul_of_nonneg_right (Int.le_of_lt h) (Int.le_of_lt hL)
      omega
    · have := Int.mul_le_mul_of_nonneg_right (Int.le_of_lt h) (Int.le_of_lt hL)
      omega
  · refine seg_y hb ha h (by rw [Tn_swap, ht]; rfl) ?_ ?_
    · have := Int.mul_le_mul_of_nonneg_right (Int.le_of_lt h) (Int.le_of_lt hL)
      omega
    · have := Int.mul_le_mul_of_nonneg_right (Int.le_of_lt h) (Int.le_of_lt hL)
      omega
theorem at_cell {cs : List Cell} {a : Cell} {X Y L : Int} (hL : 0 < L) (ha : a ∈ cs) (hx : X = a.1 * L) (hy : Y = a.2 * L) : Comb cs X Y L :=
  ⟨a, ha, a, ha, a, ha, L, 0, 0, 1, by omega, Int.le_refl _, Int.le_refl _, by decide, by rw [hx]; grind, by rw [hy]; grind, by omega⟩
theorem tri_comb {cs : List Cell} {a b c : Cell} {X Y L : Int} (hL : 0 < L) (ha : a ∈ cs) (hb : b ∈ cs) (hc : c ∈ cs) (h : InTri a b c X Y L) : Comb cs X Y L := by
  obtain ⟨e1, e2, e3⟩ := bary a b c X Y L
  obtain ⟨h1, h2⟩ := h
  generalize t1 : Tn a b X Y L = u1 at *
  generalize t2 : Tn b c X Y L = u2 at *
  generalize t3 : Tn c a X Y L = u3 at *
  by_cases z : u1 = 0 ∧ u2 = 0 ∧ u3 = 0
  · obtain ⟨z1, z2, z3⟩ := z
    obtain ⟨⟨b1, b2⟩, b3, b4⟩ := h2 z1 z2 z3
    rw [z1] at t1; rw [z2] at t2; rw [z3] at t3
    have t1' : Tn b a X Y L = 0 := by rw [Tn_swap, t1]; rfl
    have t2' : Tn c b X Y L = 0 := by rw [Tn_swap, t2]; rfl
    have t3' : Tn a c X Y L = 0 := by rw [Tn_swap, t3]; rfl
    -- some two of the cells that stand on either side
    have pick : ∀ p ∈ [a, b, c], ∀ q ∈ [a, b, c], Tn p q X Y L = 0 ∧ p ∈ cs := by
      intro p hp q hq
      simp only [List.mem_cons, List.not_mem_nil, or_false] at hp hq
      rcases hp with rfl | rfl | rfl <;> rcases hq with rfl | rfl | rfl <;> first | exact ⟨Tn_same _ _ _ _, by assumption⟩ | exact ⟨by assumption, by assumption⟩
    obtain ⟨p, hp, px⟩ : ∃ p ∈ [a, b, c], p.1 * L ≤ X := by
      rcases b1 with z | z | z
      · exact ⟨a, by simp, z⟩
      · exact ⟨b, by simp, z⟩
      · exact ⟨c, by simp, z⟩
    obtain ⟨q, hq, qx⟩ : ∃ q ∈ [a, b, c], X ≤ q.1 * L := by
      rcases b2 with z | z | z
      · exact ⟨a, by simp, z⟩
      · exact ⟨b, by simp, z⟩
      · exact ⟨c, by simp, z⟩
    by_cases ne : p.1 = q.1
    · -- the first numbers are the point's; go by the second ones
      have Xe : X = p.1 * L := by rw [ne] at px ⊢; omega
      -- the cells with this first number, or others
      by_cases all : a.1 = p.1 ∧ b.1 = p.1 ∧ c.1 = p.1
      · obtain ⟨r, hr, ry⟩ : ∃ r ∈ [a, b, c], r.2 * L ≤ Y := by
          rcases b3 with z | z | z
          · exact ⟨a, by simp, z⟩
          · exact ⟨b, by simp, z⟩
          · exact ⟨c, by simp, z⟩
        obtain ⟨s, hs, sy⟩ : ∃ s ∈ [a, b, c], Y ≤ s.2 * L := by
          rcases b4 with z | z | z
          · exact ⟨a, by simp, z⟩
          · exact ⟨b, by simp, z⟩
          · exact ⟨c, by simp, z⟩
        by_cases ne2 : r.2 = s.2
        · have r1 : r.1 = p.1 := by
            simp only [List.mem_cons, List.not_mem_nil, or_false] at hr
            rcases hr with rfl | rfl | rfl <;> omega
          exact at_cell hL (pick r hr r hr).2 (by rw [r1]; exact Xe) (by rw [ne2] at ry ⊢; omega)
        · exact seg_symy hL (pick r hr s hs).2 (pick s hs s hs).2 (pick r hr s hs).1 (.inl ⟨ry, sy⟩) ne2
      · obtain ⟨r, hr, hrp⟩ : ∃ r ∈ [a, b, c], r.1 ≠ p.1 := by
          refine Classical.byContradiction fun n => all ⟨?_, ?_, ?_⟩
          · exact Classical.byContradiction fun z => n ⟨a, by simp, z⟩
          · exact Classical.byContradiction fun z => n ⟨b, by simp, z⟩
          · exact Classical.byContradiction fun z => n ⟨c, by simp, z⟩
        refine seg_sym hL (pick p hp r hr).2 (pick r hr r hr).2 (pick p hp r hr).1 ?_ (fun z => hrp z.symm)
        rw [Xe]
        rcases Int.lt_or_gt_of_ne hrp with z | z
        · have := Int.mul_le_mul_of_nonneg_right (Int.le_of_lt z) (Int.le_of_lt hL)
          omega
        · have := Int.mul_le_mul_of_nonneg_right (Int.le_of_lt z) (Int.le_of_lt hL)
          omega
    · exact seg_sym hL (pick p hp q hq).2 (pick q hq q hq).2 (pick p hp q hq).1 (.inl ⟨px, qx⟩) ne
  · rcases h1 with ⟨p1, p2, p3⟩ | ⟨p1, p2, p3⟩
    · refine ⟨a, ha, b, hb, c, hc, u2, u3, u1, tn a b c, p2, p3, p1, ?_, e1, e2, e3⟩
      exact pos_of_mulS (y := L) (by omega) hL
    · refine ⟨a, ha, b, hb, c, hc, -u2, -u3, -u1, - tn a b c, by omega, by omega, by omega, ?_, ?_, ?_, ?_⟩
      · refine pos_of_mulS (y := L) ?_ hL
        have : - tn a b c * L = -(tn a b c * L) := by grind
        omega
      · rw [Int.neg_mul, e1]; grind
      · rw [Int.neg_mul, e2]; grind
      · rw [Int.neg_mul, e3]; omega
end DL

set_option Elab.async false
set_option linter.all false
set_option maxRecDepth 100000
set_option maxHeartbeats 4000000
namespace DL
open PySem PySem.Spec PyProof.Rows L2
theorem cyc_at {n j : Nat} {H : List Cell} (hn : H.length = n) (h2 : 2 ≤ n) (hj : j ≤ n + 1) : (H ++ H.take 2)[j]? = H[j % n]? := by
  by_cases c : j < n
  · rw [List.getElem?_append_left (by omega), Nat.mod_eq_of_lt c]
  · rw [List.getElem?_append_right (by omega)]
    have : j % n = j - n := by
      rw [Nat.mod_eq_sub_mod (by omega), Nat.mod_eq_of_lt (by omega)]
    rw [this, hn, List.getElem?_take, if_pos (by omega)]
theorem cyc1_at {n j : Nat} {H : List Cell} (hn : H.length = n) (h2 : 1 ≤ n) (hj : j ≤ n) : (H ++ H.take 1)[j]? = H[j % n]? := by
  by_cases c : j < n
  · rw [List.getElem?_append_left (by omega), Nat.mod_eq_of_lt c]
  · rw [List.getElem?_append_right (by omega)]
    have : j % n = j - n := by
      rw [Nat.mod_eq_sub_mod (by omega), Nat.mod_eq_of_lt (by omega)]
    rw [this, hn, List.getElem?_take, if_pos (by omega)]
theorem Hul.at {S H : List Cell} (h : Hul S H) {k : Nat} (hk : k < H.length) : ∃ a b, H[k]? = some a ∧ H[(k + 1) % H.length]? = some b ∧ ∀ c ∈ S, 0 ≤ tn a b c := by
  have h2 := h.len
  have m1 : (k + 1) % H.length < H.length := Nat.mod_lt _ (by omega)
  refine ⟨H[k], H[(k + 1) % H.length], List.getElem?_eq_getElem hk, List.getElem?_eq_getElem m1, ?_⟩
  refine EdgF.get h.edge (i := k) ?_ ?_
  · rw [cyc1_at rfl (by omega) (by omega), Nat.mod_eq_of_lt hk, List.getElem?_eq_getElem hk]
  · rw [cyc1_at rfl (by omega) (by omega), List.getElem?_eq_getElem m1]
theorem Hul.at3 {S H : List Cell} (h : Hul S H) (h3 : 3 ≤ H.length) {k : Nat} (hk : k < H.length) {a b c : Cell} (ha : H[k]? = some a) (hb : H[(k + 1) % H.length]? = some b) (hc : H[(k + 2) % H.length]? = some c) : 0 < tn a b c := by
  refine TriF.get (h.tri h3) (i := k) ?_ ?_ ?_
  · rw [cyc_at rfl (by omega) (by omega), Nat.mod_eq_of_lt hk, ha]
  · rw [cyc_at rfl (by omega) (by omega), hb]
  · rw [cyc_at rfl (by omega) (by omega), hc]
theorem mod_next {k n : Nat} (hn : 0 < n) : ((k + 1) % n + 1) % n = (k + 2) % n := by rw [Nat.mod_add_mod]
theorem mod_prev {k n : Nat} (hk : k < n) : ((k + n - 1) % n + 1) % n = k ∧ ((k + n - 1) % n + 2) % n = (k + 1) % n := by
  rw [Nat.mod_add_mod, Nat.mod_add_mod]
  refine ⟨?_, ?_⟩
  · rw [show k + n - 1 + 1 = k + n by omega, Nat.add_mod_right, Nat.mod_eq_of_lt hk]
  · rw [show k + n - 1 + 2 = (k + 1) + n by omega, Nat.add_mod_right]
theorem Hul.noncol {S H : List Cell} (h : Hul S H) (h3 : 3 ≤ H.length) {k j : Nat} (hk : k < H.length) (hj : j < H.length) {a b x : Cell} (ea : H[k]? = some a) (eb : H[(k + 1) % H.length]? = some b) (ex : H[j]? = some x) (hz : tn a b x = 0) : x = a ∨ x = b := by
  have n0 : 0 < H.length := by omega
  have get : ∀ i, ∃ z, H[i % H.length]? = some z := fun i => ⟨_, List.getElem?_eq_getElem (Nat.mod_lt _ n0)⟩
  have memS : ∀ {i : Nat} {z : Cell}, H[i]? = some z → z ∈ S := fun e => h.sub _ (List.mem_of_getElem? e)
  -- behind and ahead of the side
  obtain ⟨c, ec⟩ := get (k + 2)
  obtain ⟨z, ez⟩ := get (k + H.length - 1)
  obtain ⟨p1, p2⟩ := mod_prev hk
  have lz : (k + H.length - 1) % H.length < H.length := Nat.mod_lt _ n0
  have l1 : (k + 1) % H.length < H.length := Nat.mod_lt _ n0
  have t1 := h.at3 h3 hk ea eb ec
  have t2 := h.at3 h3 lz ez (by rw [p1]; exact ea) (by rw [p2]; exact eb)
  obtain ⟨b', c', e1, e2, edge_bc⟩ := h.at l1
  rw [eb] at e1; cases e1
  rw [mod_next n0, ec] at e2; cases e2
  obtain ⟨z', a', e1, e2, edge_za⟩ := h.at lz
  rw [ez] at e1; cases e1
  rw [p1, ea] at e2; cases e2
  -- beside the corner
  obtain ⟨y, ey⟩ := get (j + 1)
  obtain ⟨g, eg⟩ := get (j + H.length - 1)
  obtain ⟨q1, q2⟩ := mod_prev hj
  have lg : (j + H.length - 1) % H.length < H.length := Nat.mod_lt _ n0
  have t3 := h.at3 h3 lg eg (by rw [q1]; exact ex) (by rw [q2]; exact ey)
  obtain ⟨g', x', e1, e2, edge_gx⟩ := h.at lg
  rw [eg] at e1; cases e1
  rw [q1, ex] at e2; cases e2
  obtain ⟨x', y', e1, e2, edge_xy⟩ := h.at hj
  rw [ex] at e1; cases e1
  rw [ey] at e2; cases e2
  have xS := memS ex
  have aS := memS ea
  have bS := memS eb
  have nab : a ≠ b := fun z => by
    rw [z, tn_cyc, tn_same0] at t1
    omega
  have vv := dt_pos (df_ne nab)
  generalize hd : dt (df a b) (df a x) = d
  generalize hV : dt (df a b) (df a b) = V at vv
  have hx := edge_bc x xS
  have hx2 := edge_za x xS
  have i1 : tn b c x * V = (V - d) * tn a b c + tn a b x * (dt (df a b) (df b c)) := by rw [← hd, ← hV]; simp only [tn, dt, df]; grind
  have i2 : tn z a x * V = d * tn z a b + tn a b x * (dt (df a b) (df z a)) := by rw [← hd, ← hV]; simp only [tn, dt, df]; grind
  rw [hz] at i1 i2
  have d1 : 0 ≤ V - d := pos_of_mul (y := tn a b c) (by
    have := Int.mul_nonneg hx (Int.le_of_lt vv)
    omega) t1
  have d0 : 0 ≤ d := pos_of_mul (y := tn z a b) (by
    have := Int.mul_nonneg hx2 (Int.le_of_lt vv)
    omega) t2
  have c1 : V * x.1 = V * a.1 + d * (b.1 - a.1) := by
    have : V * (x.1 - a.1) = d * (b.1 - a.1) - tn a b x * (b.2 - a.2) := by rw [← hd, ← hV]; simp only [tn, dt, df]; grind
    rw [hz] at this
    grind
  have c2 : V * x.2 = V * a.2 + d * (b.2 - a.2) := by
    have : V * (x.2 - a.2) = d * (b.2 - a.2) + tn a b x * (b.1 - a.1) := by rw [← hd, ← hV]; simp only [tn, dt, df]; grind
    rw [hz] at this
    grind
  by_cases z0 : d = 0
  · refine .inl (Prod.ext ?_ ?_)
    · rw [z0] at c1
      exact Int.eq_of_mul_eq_mul_left (show V ≠ 0 by omega) (by omega)
    · rw [z0] at c2
      exact Int.eq_of_mul_eq_mul_left (show V ≠ 0 by omega) (by omega)
  · by_cases z1 : d = V
    · refine .inr (Prod.ext ?_ ?_)
      · rw [z1] at c1
        exact Int.eq_of_mul_eq_mul_left (show V ≠ 0 by omega) (by grind)
      · rw [z1] at c2
        exact Int.eq_of_mul_eq_mul_left (show V ≠ 0 by omega) (by grind)
    · exfalso
      have g1 := edge_gx a aS
      have g2 := edge_gx b bS
      have y1 := edge_xy a aS
      have y2 := edge_xy b bS
      have i3 : (V - d) * tn g x a + d * tn g x b = V * tn g x x + 0 := by
        have e : (V - d) * tn g x a + d * tn g x b - V * tn g x x = (x.1 - g.1) * (V * a.2 + d * (b.2 - a.2) - V * x.2) - (x.2 - g.2) * (V * a.1 + d * (b.1 - a.1) - V * x.1) := by simp only [tn]; grind
        rw [c1, c2] at e
        simp only [Int.sub_self, Int.mul_zero] at e
        omega
      have i4 : (V - d) * tn x y a + d * tn x y b = V * tn x y x + 0 := by
        have e : (V - d) * tn x y a + d * tn x y b - V * tn x y x = (y.1 - x.1) * (V * a.2 + d * (b.2 - a.2) - V * x.2) - (y.2 - x.2) * (V * a.1 + d * (b.1 - a.1) - V * x.1) := by simp only [tn]; grind
        rw [c1, c2] at e
        simp only [Int.sub_self, Int.mul_zero] at e
        omega
      rw [tn_same] at i3
      rw [tn_same0] at i4
      have zero : ∀ {p q u v : Int}, 0 < p → 0 < q → 0 ≤ u → 0 ≤ v → p * u + q * v = 0 → u = 0 ∧ v = 0 := by
        intro p q u v hp hq hu hv e
        have a1 := Int.mul_nonneg (Int.le_of_lt hp) hu
        have a2 := Int.mul_nonneg (Int.le_of_lt hq) hv
        refine ⟨?_, ?_⟩
        · rcases Int.mul_eq_zero.mp (show p * u = 0 by omega) with z | z <;> omega
        · rcases Int.mul_eq_zero.mp (show q * v = 0 by omega) with z | z <;> omega
      obtain ⟨g3, g4⟩ := zero (show 0 < V - d by omega) (show 0 < d by omega) g1 g2 (by omega)
      obtain ⟨y3, y4⟩ := zero (show 0 < V - d by omega) (show 0 < d by omega) y1 y2 (by omega)
      have r1 : cr (df g x) (df a b) = 0 := by
        have : cr (df g x) (df a b) = tn g x b - tn g x a := by simp only [cr, df, tn]; grind
        omega
      have r2 : cr (df a b) (df x y) = 0 := by
        have : cr (df a b) (df x y) = tn x y a - tn x y b := by simp only [cr, df, tn]; grind
        omega
      have i5 := cr_id (df a b) (df g x) (df a b) (df x y)
      rw [r1, r2, Int.zero_mul, Int.zero_mul, ← tn_1] at i5
      have : lf (df a b) (df a b) = V := by rw [← hV]; rfl
      rw [this] at i5
      have := Int.mul_pos t3 vv
      omega
def HldF (X Y L : Int) : List Cell → Prop
  | a :: b :: l => 0 ≤ Tn a b X Y L ∧ HldF X Y L (b :: l)
  | _ => True
theorem HldF.of_zip {X Y L : Int} : ∀ {l : List Cell} {x : Cell}, (∀ p ∈ (x :: l).zip l, 0 ≤ Tn p.1 p.2 X Y L) → HldF X Y L (x :: l)
  | [], _, _ => trivial
  | y :: l, x, h => ⟨h (x, y) (by simp), HldF.of_zip fun p hp => h p (by rw [List.zip_cons_cons]; exact List.mem_cons_of_mem _ hp)⟩
theorem HldF.get {X Y L : Int} : ∀ {l : List Cell} {i : Nat} {a b : Cell}, HldF X Y L l → l[i]? = some a → l[i + 1]? = some b → 0 ≤ Tn a b X Y L
  | a' :: b' :: l, 0, a, b, h, h1, h2 => by
    cases h1; cases h2
    exact h.1
  | a' :: b' :: l, i + 1, a, b, h, h1, h2 => HldF.get (l := b' :: l) (i := i) h.2 (by simpa using h1) (by simpa using h2)
  | [_], 0, _, _, _, _, h2 => by simp at h2
  | [_], i + 1, _, _, _, h1, _ => by simp at h1
  | [], _, _, _, _, h1, _ => by simp at h1
theorem sides_hld {H : List Cell} {X Y L : Int} (h2 : 2 ≤ H.length) (h : ∀ d ∈ sidesC H, Held d X Y L) : HldF X Y L (H ++ H.take 1) ∧ (H.length = 2 → ∀ p ∈ H.zip (nxt H), Held (sideAt (df p.1 p.2) p.1) X Y L) := by
  have e : sidesC H = (waysC H).flatMap fun w => sideAt (-w.2.2, w.2.1) w.1 :: (if H.length = 2 then [sideAt w.2 w.1] else []) := by
    match H, h2 with
    | _ :: _ :: _, _ => rfl
  rw [e] at h
  have hz : ∀ p ∈ H.zip (nxt H), 0 ≤ Tn p.1 p.2 X Y L := fun p hp => (side_Tn p.1 p.2 X Y L).mp (h _ (List.mem_flatMap.mpr ⟨(p.1, df p.1 p.2), List.mem_map.mpr ⟨p, hp, rfl⟩, by simp⟩))
  refine ⟨?_, fun e2 p hp => h _ (List.mem_flatMap.mpr ⟨(p.1, df p.1 p.2), List.mem_map.mpr ⟨p, hp, rfl⟩, by rw [if_pos e2]; simp⟩)⟩
  match H, h2, hz with
  | x :: H', _, hz =>
    have : (x :: H') ++ (x :: H').take 1 = x :: nxt (x :: H') := rfl
    rw [this]
    refine HldF.of_zip fun p hp => hz p ?_
    have e2 : (x :: nxt (x :: H')).zip (nxt (x :: H')) = (x :: H').zip (nxt (x :: H')) := by
      rw [← this]
      exact zip_app_left _ _ _ (by unfold nxt; simp)
    rwa [e2] at hp
theorem turn_at (g : Nat → Int) : ∀ (n i : Nat), 0 ≤ g i → g (i + n + 1) ≤ 0 → ∃ j, i ≤ j ∧ j ≤ i + n ∧ 0 ≤ g j ∧ g (j + 1) ≤ 0
  | 0, i, h0, h1 => ⟨i, Nat.le_refl _, Nat.le_refl _, h0, h1⟩
  | n + 1, i, h0, h1 => by
    by_cases c : g (i + 1) ≤ 0
    · exact ⟨i, Nat.le_refl _, by omega, h0, c⟩
    · obtain ⟨j, a, b, c, d⟩ := turn_at g n (i + 1) (by omega) (by rw [show i + 1 + n + 1 = i + (n + 1) + 1 by omega]; exact h1)
      exact ⟨j, by omega, by omega, c, d⟩
theorem Hul.tri3 {S H : List Cell} (h : Hul S H) (h3 : 3 ≤ H.length) {X Y L : Int} (hL : 0 < L) (hd : ∀ d ∈ sidesC H, Held d X Y L) : ∃ a ∈ S, ∃ b ∈ S, ∃ c ∈ S, a ≠ b ∧ b ≠ c ∧ a ≠ c ∧ InTri a b c X Y L := by
  obtain ⟨hh, _⟩ := sides_hld (by omega) hd
  let get : Nat → Cell := fun i => H.getD i (0, 0)
  have eget : ∀ i, i < H.length → H[i]? = some (get i) := fun i hi => by
    show _ = some (H.getD i (0, 0))
    rw [List.getD_eq_getElem?_getD, List.getElem?_eq_getElem hi]
    rfl
  have ed : ∀ i, i < H.length → 0 ≤ Tn (get i) (get ((i + 1) % H.length)) X Y L := fun i hi => by
    refine HldF.get hh (i := i) ?_ ?_
    · rw [cyc1_at rfl (by omega) (by omega), Nat.mod_eq_of_lt hi]; exact eget i hi
    · rw [cyc1_at rfl (by omega) (by omega)]; exact eget _ (Nat.mod_lt _ (by omega))
  have e0 := ed 0 (by omega)
  rw [Nat.mod_eq_of_lt (by omega)] at e0
  have el := ed (H.length - 1) (by omega)
  rw [show H.length - 1 + 1 = H.length by omega, Nat.mod_self, Tn_swap] at el
  obtain ⟨j, j1, j2, g1, g2⟩ := turn_at (fun i => Tn (get 0) (get i) X Y L) (H.length - 3) 1 e0 (by rw [show 1 + (H.length - 3) + 1 = H.length - 1 by omega]; omega)
  have jl : j + 1 < H.length := by omega
  have ej := ed j (by omega)
  rw [Nat.mod_eq_of_lt jl] at ej
  have mem : ∀ i, i < H.length → get i ∈ S := fun i hi => h.sub _ (List.mem_of_getElem? (eget i hi))
  have inj : ∀ i k, i < H.length → k < H.length → i ≠ k → get i ≠ get k := fun i k hi hk ne e => by
    have e1 := eget i hi
    have e2 := eget k hk
    rw [e, ← e2] at e1
    exact ne ((List.getElem?_inj hi h.nd).mp e1)
  refine ⟨get 0, mem 0 (by omega), get j, mem j (by omega), get (j + 1), mem _ jl, inj _ _ (by omega) (by omega) (by omega), inj _ _ (by omega) jl (by omega), inj _ _ (by omega) jl (by omega), .inl ⟨g1, ej, by rw [Tn_swap]; omega⟩, fun z1 z2 z3 => ?_⟩
  exfalso
  have b := (bary (get 0) (get j) (get (j + 1)) X Y L).2.2
  rw [z1, z2, z3] at b
  have b0 : tn (get 0) (get j) (get (j + 1)) = 0 := by
    rcases Int.mul_eq_zero.mp (show tn (get 0) (get j) (get (j + 1)) * L = 0 by omega) with z | z <;> omega
  rw [tn_cyc] at b0
  rcases h.noncol h3 (k := j) (j := 0) (by omega) (by omega) (eget j (by omega)) (by rw [Nat.mod_eq_of_lt jl]; exact eget _ jl) (eget 0 (by omega)) b0 with z | z
  · exact inj 0 j (by omega) (by omega) (by omega) z
  · exact inj 0 (j + 1) (by omega) jl (by omega) z
theorem Two.tri {cs : List Cell} {a b : Cell} (t : Two cs a b) {X Y L : Int} (hL : 0 < L) (h1 : 0 ≤ Tn a b X Y L) (h2 : 0 ≤ Tn b a X Y L) (h3 : Held (sideAt (df a b) a) X Y L) (h4 : Held (sideAt (df b a) b) X Y L) : ∀ c ∈ cs, InTri a b c X Y L := by
  intro c hc
  have z : Tn a b X Y L = 0 := by
    have := Tn_swap a b X Y L
    omega
  have vv := dt_pos (df_ne t.ne)
  have hcol := t.col c hc
  -- all turns are nought
  have q1 : Tn b c X Y L = 0 := by
    have i : Tn b c X Y L * dt (df a b) (df a b) = Tn a b X Y L * dt (df a b) (df b c) - tn a b c * ((b.1 - a.1) * (X - b.1 * L) + (b.2 - a.2) * (Y - b.2 * L)) := by simp only [Tn, tn, dt, df]; grind
    rw [z, hcol] at i
    rcases Int.mul_eq_zero.mp (show Tn b c X Y L * dt (df a b) (df a b) = 0 by omega) with y | y <;> omega
  have q2 : Tn c a X Y L = 0 := by
    have i : Tn c a X Y L * dt (df a b) (df a b) = Tn a b X Y L * dt (df a b) (df c a) + tn a b c * ((b.1 - a.1) * (X - a.1 * L) + (b.2 - a.2) * (Y - a.2 * L)) := by simp only [Tn, tn, dt, df]; grind
    rw [z, hcol] at i
    rcases Int.mul_eq_zero.mp (show Tn c a X Y L * dt (df a b) (df a b) = 0 by omega) with y | y <;> omega
  refine ⟨.inl ⟨by omega, by omega, by omega⟩, fun _ _ _ => ?_⟩
  generalize hV : dt (df a b) (df a b) = V at vv
  have e3 : 0 ≤ (b.1 - a.1) * (X - a.1 * L) + (b.2 - a.2) * (Y - a.2 * L) := by
    unfold Held sideAt lf df at h3
    simp only at h3
    grind
  have e4 : (b.1 - a.1) * (X - a.1 * L) + (b.2 - a.2) * (Y - a.2 * L) ≤ V * L := by
    unfold Held sideAt lf df at h4
    simp only at h4
    rw [← hV]
    simp only [dt, df]
    grind
  generalize hD : (b.1 - a.1) * (X - a.1 * L) + (b.2 - a.2) * (Y - a.2 * L) = D at e3 e4
  have x1 : V * (X - a.1 * L) = D * (b.1 - a.1) := by
    have : V * (X - a.1 * L) = D * (b.1 - a.1) - Tn a b X Y L * (b.2 - a.2) := by rw [← hD, ← hV]; simp only [Tn, dt, df]; grind
    rw [z] at this
    omega
  have y1 : V * (Y - a.2 * L) = D * (b.2 - a.2) := by
    have : V * (Y - a.2 * L) = D * (b.2 - a.2) + Tn a b X Y L * (b.1 - a.1) := by rw [← hD, ← hV]; simp only [Tn, dt, df]; grind
    rw [z] at this
    omega
  have x2 : V * (b.1 * L - X) = (V * L - D) * (b.1 - a.1) := by grind
  have y2 : V * (b.2 * L - Y) = (V * L - D) * (b.2 - a.2) := by grind
  -- between, by the sign of a way
  have btw : ∀ {p q r w : Int}, V * p = D * w → V * q = (V * L - D) * w → r = w → (0 ≤ p ∧ 0 ≤ q) ∨ (p ≤ 0 ∧ q ≤ 0) := by
    intro p q r w hp hq _
    by_cases hw : 0 ≤ w
    · refine .inl ⟨pos_of_mul (y := V) ?_ vv, pos_of_mul (y := V) ?_ vv⟩
      · rw [Int.mul_comm, hp]; exact Int.mul_nonneg e3 hw
      · rw [Int.mul_comm, hq]; exact Int.mul_nonneg (by omega) hw
    · refine .inr ⟨?_, ?_⟩
      · have : 0 ≤ -p := pos_of_mul (y := V) (by
          have e : -p * V = D * (-w) := by rw [Int.neg_mul, Int.mul_comm, hp]; grind
          rw [e]; exact Int.mul_nonneg e3 (by omega)) vv
        omega
      · have : 0 ≤ -q := pos_of_mul (y := V) (by
          have e : -q * V = (V * L - D) * (-w) := by rw [Int.neg_mul, Int.mul_comm, hq]; grind
          rw [e]; exact Int.mul_nonneg (by omega) (by omega)) vv
        omega
  have bx := btw x1 x2 rfl
  have byy := btw y1 y2 rfl
  unfold BoxC
  omega
theorem held_tri {S : List Cell} (hS : S.Pairwise OD.lt) (hne : S ≠ []) {H : List Cell} (hH : (H = S ∧ S.length = 1) ∨ Hul S H) {X Y L : Int} (hL : 0 < L) (hd : ∀ d ∈ sidesC H, Held d X Y L) :
    (∃ a, S = [a] ∧ InTri a a a X Y L) ∨ (∃ a ∈ S, ∃ b ∈ S, a ≠ b ∧ ∀ c ∈ S, InTri a b c X Y L) ∨ ∃ a ∈ S, ∃ b ∈ S, ∃ c ∈ S, a ≠ b ∧ b ≠ c ∧ a ≠ c ∧ InTri a b c X Y L := by
  rcases hH with ⟨rfl, h1⟩ | hH
  · refine .inl ?_
    match H, h1, hd with
    | [a], _, hd =>
      refine ⟨a, rfl, ?_⟩
      have q1 := hd (sideAt (1, 0) a) (by simp [sidesC])
      have q2 := hd (sideAt (-1, 0) a) (by simp [sidesC])
      have q3 := hd (sideAt (0, 1) a) (by simp [sidesC])
      have q4 := hd (sideAt (0, -1) a) (by simp [sidesC])
      unfold Held sideAt lf at q1 q2 q3 q4
      simp only [Int.one_mul, Int.zero_mul, Int.add_zero, Int.zero_add, Int.neg_mul] at q1 q2 q3 q4
      refine ⟨.inl ⟨by rw [Tn_same]; omega, by rw [Tn_same]; omega, by rw [Tn_same]; omega⟩, fun _ _ _ => ?_⟩
      unfold BoxC
      omega
  · by_cases h2 : H.length = 2
    · obtain ⟨a, b, rfl, t⟩ := hH.two_ok hS h2
      obtain ⟨hh, ht⟩ := sides_hld (by simp) hd
      have f1 := ht rfl (a, b) (by simp [nxt])
      have f2 := ht rfl (b, a) (by simp [nxt])
      exact .inr (.inl ⟨a, t.am, b, t.bm, t.ne, t.tri hL hh.1 hh.2.1 f1 f2⟩)
    · have := hH.len
      exact .inr (.inr (hH.tri3 (by omega) hL hd))
end DL

set_option Elab.async false
set_option linter.all false
set_option maxRecDepth 100000
set_option maxHeartbeats 4000000
namespace DL
open PySem PySem.Spec PyProof.Rows L2
theorem Hul.tri3H {S H : List Cell} (h : Hul S H) (h3 : 3 ≤ H.length) {X Y L : Int} (hL : 0 < L) (hd : ∀ d ∈ sidesC H, Held d X Y L) : ∃ a ∈ H, ∃ b ∈ H, ∃ c ∈ H, a ≠ b ∧ b ≠ c ∧ a ≠ c ∧ InTri a b c X Y L := by
  obtain ⟨hh, _⟩ := sides_hld (by omega) hd
  let get : Nat → Cell := fun i => H.getD i (0, 0)
  have eget : ∀ i, i < H.length → H[i]? = some (get i) := fun i hi => by
    show _ = some (H.getD i (0, 0))
    rw [List.getD_eq_getElem?_getD, List.getElem?_eq_getElem hi]
    rfl
  have ed : ∀ i, i < H.length → 0 ≤ Tn (get i) (get ((i + 1) % H.length)) X Y L := fun i hi => by
    refine HldF.get hh (i := i) ?_ ?_
    · rw [cyc1_at rfl (by omega) (by omega), Nat.mod_eq_of_lt hi]; exact eget i hi
    · rw [cyc1_at rfl (by omega) (by omega)]; exact eget _ (Nat.mod_lt _ (by omega))
  have e0 := ed 0 (by omega)
  rw [Nat.mod_eq_of_lt (by omega)] at e0
  have el := ed (H.length - 1) (by omega)
  rw [show H.length - 1 + 1 = H.length by omega, Nat.mod_self, Tn_swap] at el
  obtain ⟨j, j1, j2, g1, g2⟩ := turn_at (fun i => Tn (get 0) (get i) X Y L) (H.length - 3) 1 e0 (by rw [show 1 + (H.length - 3) + 1 = H.length - 1 by omega]; omega)
  have jl : j + 1 < H.length := by omega
  have ej := ed j (by omega)
  rw [Nat.mod_eq_of_lt jl] at ej
  have mem : ∀ i, i < H.length → get i ∈ H := fun i hi => List.mem_of_getElem? (eget i hi)
  have inj : ∀ i k, i < H.length → k < H.length → i ≠ k → get i ≠ get k := fun i k hi hk ne e => by
    have e1 := eget i hi
    have e2 := eget k hk
    rw [e, ← e2] at e1
    exact ne ((List.getElem?_inj hi h.nd).mp e1)
  refine ⟨get 0, mem 0 (by omega), get j, mem j (by omega), get (j + 1), mem _ jl, inj _ _ (by omega) (by omega) (by omega), inj _ _ (by omega) jl (by omega), inj _ _ (by omega) jl (by omega), .inl ⟨g1, ej, by rw [Tn_swap]; omega⟩, fun z1 z2 z3 => ?_⟩
  exfalso
  have b := (bary (get 0) (get j) (get (j + 1)) X Y L).2.2
  rw [z1, z2, z3] at b
  have b0 : tn (get 0) (get j) (get (j + 1)) = 0 := by
    rcases Int.mul_eq_zero.mp (show tn (get 0) (get j) (get (j + 1)) * L = 0 by omega) with z | z <;> omega
  rw [tn_cyc] at b0
  rcases h.noncol h3 (k := j) (j := 0) (by omega) (by omega) (eget j (by omega)) (by rw [Nat.mod_eq_of_lt jl]; exact eget _ jl) (eget 0 (by omega)) b0 with z | z
  · exact inj 0 j (by omega) (by omega) (by omega) z
  · exact inj 0 (j + 1) (by omega) jl (by omega) z
theorem held_comb {S : List Cell} (hS : S.Pairwise OD.lt) (hne : S ≠ []) {H : List Cell} (hH : (H = S ∧ S.length = 1) ∨ Hul S H) {X Y L : Int} (hL : 0 < L) (hd : ∀ d ∈ sidesC H, Held d X Y L) : Comb H X Y L := by
  rcases hH with ⟨rfl, h1⟩ | hH
  · rcases held_tri hS hne (.inl ⟨rfl, h1⟩) hL hd with ⟨a, ea, h⟩ | ⟨a, ha, b, hb, ne, h⟩ | ⟨a, ha, b, hb, c, hc, _, _, _, h⟩
    · have : a ∈ H := by rw [ea]; simp
      exact tri_comb hL this this this h
    · exact tri_comb hL ha hb ha (h a ha)
    · exact tri_comb hL ha hb hc h
  · by_cases h2 : H.length = 2
    · obtain ⟨a, b, rfl, t⟩ := hH.two_ok hS h2
      obtain ⟨hh, ht⟩ := sides_hld (by simp) hd
      have f1 := ht rfl (a, b) (by simp [nxt])
      have f2 := ht rfl (b, a) (by simp [nxt])
      exact tri_comb (a := a) (b := b) (c := a) hL (by simp) (by simp) (by simp) (t.tri hL hh.1 hh.2.1 f1 f2 a t.am)
    · have := hH.len
      obtain ⟨a, ha, b, hb, c, hc, _, _, _, h⟩ := hH.tri3H (by omega) hL hd
      exact tri_comb hL ha hb hc h
theorem zero_of_cr {u v w : Cell} (h : 0 < cr u v) (h1 : cr u w = 0) (h2 : cr v w = 0) : w = (0, 0) := by
  have e1 : w.1 * cr u v = v.1 * cr u w - u.1 * cr v w := by simp only [cr]; grind
  have e2 : w.2 * cr u v = v.2 * cr u w - u.2 * cr v w := by simp only [cr]; grind
  rw [h1, h2] at e1 e2
  have z1 : w.1 = 0 := by
    rcases Int.mul_eq_zero.mp (show w.1 * cr u v = 0 by omega) with z | z <;> omega
  have z2 : w.2 = 0 := by
    rcases Int.mul_eq_zero.mp (show w.2 * cr u v = 0 by omega) with z | z <;> omega
  exact Prod.ext z1 z2
theorem zero_of_dt {u w : Cell} (h : u ≠ (0, 0)) (h1 : cr u w = 0) (h2 : dt u w = 0) : w = (0, 0) := by
  have p := dt_pos h
  have e1 : w.1 * dt u u = u.1 * dt u w - u.2 * cr u w := by simp only [cr, dt]; grind
  have e2 : w.2 * dt u u = u.2 * dt u w + u.1 * cr u w := by simp only [cr, dt]; grind
  rw [h1, h2] at e1 e2
  have z1 : w.1 = 0 := by
    rcases Int.mul_eq_zero.mp (show w.1 * dt u u = 0 by omega) with z | z <;> omega
  have z2 : w.2 = 0 := by
    rcases Int.mul_eq_zero.mp (show w.2 * dt u u = 0 by omega) with z | z <;> omega
  exact Prod.ext z1 z2
theorem df_zero {a c : Cell} (h : df a c = (0, 0)) : c = a := by
  unfold df at h
  injection h with h1 h2
  exact Prod.ext (by omega) (by omega)
theorem Hul.sep {S H : List Cell} (hS : S.Pairwise OD.lt) (h : Hul S H) {x : Cell} (hx : x ∈ H) : ∃ p q r : Int, p * x.1 + q * x.2 + r = 0 ∧ ∀ c ∈ S, c ≠ x → 1 ≤ p * c.1 + q * c.2 + r := by
  by_cases h2 : H.length = 2
  · obtain ⟨a, b, rfl, t⟩ := h.two_ok hS h2
    simp only [List.mem_cons, List.not_mem_nil, or_false] at hx
    have un := df_ne t.ne
    rcases hx with rfl | rfl
    · refine ⟨(df x b).1, (df x b).2, - dt (df x b) x, by unfold dt; omega, fun c hc hne => ?_⟩
      have e : (df x b).1 * c.1 + (df x b).2 * c.2 + - dt (df x b) x = dt (df x b) (df x c) := by simp only [dt, df]; grind
      rw [e]
      have d0 := t.d0 c hc
      have : dt (df x b) (df x c) ≠ 0 := fun z => hne (df_zero (zero_of_dt un (t.col c hc) z))
      omega
    · refine ⟨-(df a x).1, -(df a x).2, dt (df a x) x, by unfold dt; grind, fun c hc hne => ?_⟩
      have e : -(df a x).1 * c.1 + -(df a x).2 * c.2 + dt (df a x) x = dt (df a x) (df a x) - dt (df a x) (df a c) := by simp only [dt, df]; grind
      rw [e]
      have d1 := t.d1 c hc
      have e2 : dt (df a x) (df x c) = dt (df a x) (df a c) - dt (df a x) (df a x) := by simp only [dt, df]; grind
      have : dt (df a x) (df x c) ≠ 0 := fun z => hne (df_zero (zero_of_dt un (by rw [← tn_1]; exact t.col c hc) z))
      omega
  · have h3 := h.len
    obtain ⟨k, hk⟩ := List.getElem?_of_mem hx
    have kl := (List.getElem?_eq_some_iff.mp hk).1
    obtain ⟨m1, m2⟩ := mod_prev kl
    have pl : (k + H.length - 1) % H.length < H.length := Nat.mod_lt _ (by omega)
    obtain ⟨a, x', ea, ex, e1⟩ := h.at pl
    rw [m1, hk] at ex
    injection ex with ex
    subst ex
    obtain ⟨x', b, ex, eb, e2⟩ := h.at kl
    rw [hk] at ex
    injection ex with ex
    subst ex
    have tp := h.at3 (by omega) pl ea (by rw [m1]; exact hk) (by rw [m2]; exact eb)
    refine ⟨a.2 - b.2, b.1 - a.1, -(x.1 - a.1) * a.2 + (x.2 - a.2) * a.1 - (b.1 - x.1) * x.2 + (b.2 - x.2) * x.1, by grind, fun c hc hne => ?_⟩
    have e : (a.2 - b.2) * c.1 + (b.1 - a.1) * c.2 + (-(x.1 - a.1) * a.2 + (x.2 - a.2) * a.1 - (b.1 - x.1) * x.2 + (b.2 - x.2) * x.1) = tn a x c + tn x b c := by simp only [tn]; grind
    rw [e]
    have p1 := e1 c hc
    have p2 := e2 c hc
    have : ¬ (tn a x c = 0 ∧ tn x b c = 0) := fun ⟨z1, z2⟩ => hne (df_zero (zero_of_cr (u := df a x) (v := df x b) (by rw [← tn_1]; exact tp) (by rw [← tn_1]; exact z1) z2))
    omega
theorem Hul.alone {S H : List Cell} (hS : S.Pairwise OD.lt) (h : Hul S H) {x : Cell} (hx : x ∈ H) {cs : List Cell} (hc : ∀ c ∈ cs, c ∈ S ∧ c ≠ x) : ¬ Comb cs x.1 x.2 1 := fun z => by
  obtain ⟨p, q, r, e, g⟩ := h.sep hS hx
  have := comb_pos (p := p) (q := q) (r := r - 1) z fun c m => by have := g c (hc c m).1 (hc c m).2; omega
  omega
theorem Hul.beyond {S H : List Cell} (hS : S.Pairwise OD.lt) (h : Hul S H) {x o : Cell} (hx : x ∈ H) (ho : o ∈ S) (hne : o ≠ x) {cs : List Cell} (hc : ∀ c ∈ cs, c ∈ S) : ¬ Comb cs (2 * x.1 - o.1) (2 * x.2 - o.2) 1 := fun z => by
  obtain ⟨p, q, r, e, g⟩ := h.sep hS hx
  have := comb_pos (p := p) (q := q) (r := r) z fun c m => by
    by_cases ec : c = x
    · rw [ec]; omega
    · have := g c (hc c m) ec; omega
  have go := g o ho hne
  have e2 : p * (2 * x.1 - o.1) + q * (2 * x.2 - o.2) + r * 1 = 2 * (p * x.1 + q * x.2 + r) - (p * o.1 + q * o.2 + r) := by grind
  omega
end DL

set_option Elab.async false
set_option linter.all false
set_option maxRecDepth 100000
set_option maxHeartbeats 4000000
namespace DL
open PySem PySem.Spec PyProof.Rows L2
def isTL (d : D) : Bool := match d with | .tup _ => true | .lst _ => true | _ => false
def reprD (d : D) : Str := (toPy d).shown
def rRepr (K : PySem.W.Frag) : List V → Hp → VK → Prop := fun vs H Q => ∃ (v : V) (d : D), vs = [v] ∧ Dp K H v (toPy d) ∧ (numD 8 d = true ∧ isTL d = true ∧ (toPy d).showable = true ∧ (reprD d).length ≤ sizeLine) ∧ Q (.str (reprD d)) H
theorem call_repr {X : Cx} {k : Nat} (hr : Room k X.A) (hg : X.A.guards = some []) : CallR X (.builtin "repr") (rRepr X.K) := by
  intro pins s σ H vs us Q I r h
  obtain ⟨v, d, rfl, hd, ⟨hn, ht, hs, hz⟩, q⟩ := h
  match r with
  | .cons rv .nil =>
    obtain ⟨as, r1⟩ := Dp.reads I _ _ _ hd rv
    have hlay := okD_lay d 8 (numD_ok hn)
    obtain ⟨a, rfl⟩ := isRef_of_reads r1 (by cases d <;> simp [isTL] at ht <;> simp [toPy, isDisplay])
    refine repr_of_reads' r1 hs (PyData.noDict_hsm (PyData.hasDict_of_canLay _ hlay.1)) hg (by have := hr.un; have := hlay.2; omega) (fun _ _ e => e) (fun h' u tk hk => ?_) hz
    exact ⟨.str (reprD d), H, I.kept hk, ⟨u, rfl⟩, q⟩
def dRepr (xs : List D) (R : D → Prop) : Prop := oneD xs fun x => (numD 8 x = true ∧ isTL x = true ∧ (toPy x).showable = true ∧ (reprD x).length ≤ sizeLine) ∧ R (.str (reprD x))
theorem c_repr {K : PySem.W.Frag} : CL K (rRepr K) .strong dRepr := fun c own A σ ρ H vs ds R Q hk E r g q => by
  obtain ⟨x, rfl, g, g2⟩ := oneD_iff g
  match r with
  | .cons r1 .nil =>
    exact ⟨_, x, rfl, hk ▸ RepW.dp (numD_ok g.1) r1, g, q c _ H _ (Step.refl E.fok) (.str _) g2⟩
theorem x_repr {d : D} {R : D → Prop} : dRepr [d] R = ((numD 8 d = true ∧ isTL d = true ∧ (toPy d).showable = true ∧ (reprD d).length ≤ sizeLine) ∧ R (.str (reprD d))) := propext Iff.rfl
structure GOk (P : Program) (w : World) (K : PySem.W.Frag) (mg : Str → Option Value) (base : Heap) (k : Nat) (f : Addr) (fd : FuncData) (ps : List Str) (sp : Sp) : Prop where
  count : ∀ vs H Q E, sp vs H Q E → vs.length = ps.length
  go : ∀ (A : Around) (out : List Env) (s : Shared) (H : Hp) (args : Args) (us : List Value) (vs : List V) (Q : VK) (E : XK), Room k A ∧ A.guards = some [] → Env0 P w K mg base A out s H → BindsTo s fd args (ps.zip us) → Vals vs us → sp vs H Q E →
    codeAny (model P w) A (.call (.ref f) args) (CR CX0 out P w H s Q E) s
theorem g_fn {P : Program} {w : World} {K : PySem.W.Frag} {mg : Str → Option Value} {base : Heap} {x q : Str} {st : Stmt} {f : Addr} {fd : FuncData} {N ps : List Str} {k : Nat} {sp : Sp} (F : Fun K x q st f fd) (S : FnScope N ps (defScope st)) (hl : ∀ vs H Q E, sp vs H Q E → vs.length = ps.length)
    (hb : ∀ (cdv : Value) (A : Around) (out : List Env) (s : Shared) (H : Hp) (vs : List V) (Q : VK) (E : XK), Room k (A.deeper (envOfC q (defScope st) s.heap.objs.size f cdv)) → A.guards = some [] → sp vs H Q E →
      ∃ t, PSs (cxOf CX0 P w K mg base N q (defScope st) f cdv A out s H E).nox (defBody st) t ∧ t { nx := fun _ H' => Q .non H', rt := Q } (L2.start N vs) H) : GOk P w K mg base (k + 1) f fd ps sp := by
  obtain ⟨oc, od, kV, doc, pm, an, cdv, ct, osl, rfl, lk, hcd⟩ := F.ex
  constructor
  · exact hl
  intro A out s H args us vs Q E hrg e0 hbd rv hsp
  have same : ∀ b o, base.get? b = some o → s.heap.get? b = some o := fun b o e => (e0.bs b o e).1
  have kin : K.In s.heap := e0.mod.kin.keeps same
  have nl : s.heap.NoLimit := e0.mod.nolimit.keeps same
  have kinds : ∀ y ∈ ps.zip us, (defScope st).names.lookup y.1 = some .local ∨ ((defScope st).names.lookup y.1 = some .cell ∧ ((cellsFrom (s.heap.objs.size + 1) (defScope st).names []).lookup y.1).isSome = true) := by
    intro y hy
    cases S.par y.1 (List.of_mem_zip (a := y.1) (b := y.2) hy).1 with
    | inl z => exact .inl z
    | inr z => exact .inr ⟨z, PySem.W.cellsFrom_some _ _ _ (.inl z)⟩
  apply codeAny_call_function hrg.1.depth (kin _ _ lk) rfl S.co S.gen rfl (PySem.W.codeRec_of kin hcd)
  apply hbd
  apply wpAny_newFunctionEnv_cells S.kind kinds
  intro env he s1 ic
  subst he
  obtain ⟨t, ht, hq⟩ := hb cdv A out s H vs Q E (hrg.1.deeper _) hrg.2 hsp
  have J := inv_start (E := E) (CX := CX0) (cd := cdv) (f := f) (qual := q) S hrg.1.hd e0 (hl _ _ _ _ hsp) rv ic
  refine ⟨nl.keeps ic.toInCall.keep, codeAny_func (wpAny_mono (ht.nox.run [] s1 (L2.start N vs) H _ J hq) (fun fl s' hs => ?_) fun e s' hs => hs)⟩
  match fl, hs with
  | .ret u, ⟨v, σ', H', L, rr, g⟩ => exact ⟨v, H', L.os, L.bare, L.base, L.hok, rr, g⟩
  | .next, ⟨σ', H', L, g⟩ => exact ⟨V.non, H', L.os, L.bare, L.base, L.hok, rfl, g⟩
  | .brk, ⟨_, _, _, g⟩ => exact g.elim
  | .cont, ⟨_, _, _, g⟩ => exact g.elim
theorem g_fnD {P : Program} {w : World} {K : PySem.W.Frag} {mg : Str → Option Value} {base : Heap} {x qual : Str} {st : Stmt} {f : Addr} {fd : FuncData} {N ps : List Str} {k n : Nat} {own : List Nat} {fr : Bool} {ko : Kd} {p : TSD} (F : Fun K x qual st f fd) (S : FnScope N ps (defScope st)) (hn : ps.length = n) (ho : ∀ i ∈ own, n ≤ i) (hN : n ≤ N.length)
    (hbody : ∀ (cdv : Value) (A : Around) (outer : List Env) (s : Shared) (H : Hp) (E : XK), Room k (A.deeper (envOfC qual (defScope st) s.heap.objs.size f cdv)) → A.guards = some [] →
      PSs (cxOf CX0 P w K mg base N qual (defScope st) f cdv A outer s H E).nox (defBody st) (liftS K own fr ko p)) : GOk P w K mg base (k + 1) f fd ps (spD K n ko (fnW ko N.length p)) := by
  refine g_fn F S (fun vs H Q E h => h.1.trans hn.symm) fun cdv A outer s H vs Q E hr hg h => ⟨_, hbody cdv A outer s H E hr hg, ?_⟩
  obtain ⟨hl, c, A', ds, R, hk, fo, hA, r, hw, q⟩ := h
  obtain ⟨E0, no⟩ := start_env (own := own) (N := N) fo hA r (fun i hi => by rw [hl]; exact ho i hi) (by rw [hl]; exact hN)
  refine ⟨c, H, A', c, _, _, hk, Step.refl fo, E0, fun a h => (no a h).elim, hw, ⟨?_, fun c' v H' d k' t' r' g => q c' v H' d t' r' g, fun _ _ _ _ _ _ _ _ _ _ _ h => h.elim, fun _ _ _ _ _ _ _ _ _ _ _ h => h.elim⟩⟩
  intro c' o' σ' ρ' H' k' s1 s2 t' E' F' h'
  cases ko with
  | fresh => exact h'.elim
  | weak => exact q c' .non H' .non t' .non h'
  | strong => exact q c' .non H' .non t' .non h'
theorem g_run {X : Cx} {k : Nat} {f : Addr} {fd : FuncData} {ps : List Str} {sp : Sp} {pins : List (Addr × Obj)} {σ : L2.St} {H : Hp} {s : Shared} {Q : VK} {us : List Value} {vs : List V} (F : GOk X.prog X.w X.K X.mg X.base k f fd ps sp) (hr : Room k X.A) (hg : X.A.guards = some []) (hb : Binds X.K fd ps [])
    (I : Inv X pins σ H s) (r : Vals vs us) (h : sp vs H Q E0) : wpAny (model X.prog X.w) X.A (call (.ref f) us) (EP X pins σ Q) X.xe s := by
  have cnt : (us ++ []).length = ps.length := by rw [List.append_nil, ← r.length]; exact F.count _ _ _ _ h
  have B := hb s us I.kIn cnt
  rw [List.append_nil] at B
  apply wpAny_call
  refine codeAny_mono (F.go X.A X.stack s H ⟨us, []⟩ us vs Q E0 ⟨hr, hg⟩ I.env0 B r h) fun res s' hq => ?_
  match res, hq with
  | .ok (.ret u), hq => exact I.after hq
  | .ok .next, hq => exact False.elim hq
  | .ok .brk, hq => exact False.elim hq
  | .ok .cont, hq => exact False.elim hq
  | .error e, hq => exact False.elim hq
theorem g_call {X : Cx} {k : Nat} {f : Addr} {fd : FuncData} {ps : List Str} {sp : Sp} {x : Str} {p pos : Pos} {e : Expr} {es : List Expr} {t : TA} (F : GOk X.prog X.w X.K X.mg X.base k f fd ps sp) (hr : Room k X.A) (hg : X.A.guards = some []) (hgl : Gl X x) (hm : X.mg x = some (.ref f)) (hk : PySem.W.keepIn X.K (.ref f) = true) (hb : Binds X.K fd ps [])
    (ha : PA X (e :: es) t) (hdb : (x == ("__debug__" : Str)) = false := by decide) (he : starEach (e :: es) X.env = (false, eval e X.env) :: starEach es X.env := by rfl) (hpl : (backTo pos (starEach es X.env)).any (·.1) = false := by rfl) :
    PE X (.Call (.Name x p) (e :: es) [] pos) (tCall sp [] E0 t) := by
  constructor
  intro pins s σ H Q I h
  apply wpAny_Call_Name_kw
  apply ld_glob I hgl hm _ hdb
  apply PySem.W.callWith_K (h₀ := X.base) I.ok.mod.kin hk _ he hpl
  refine thn (ha.run pos pins s σ H _ I h) fun us s1 ⟨vs, H1, J, r, g⟩ => ⟨J.kIn, ?_⟩
  have g1 : sp vs H1 Q E0 := by
    have z : sp (vs ++ []) H1 Q E0 := g
    rw [List.append_nil] at z
    exact z
  exact g_run F hr hg hb J r g1
end DL

set_option Elab.async false
set_option linter.all false
set_option maxRecDepth 100000
set_option maxHeartbeats 4000000
namespace DL
open PySem PySem.Spec PyProof.Rows L2
def scrO (vs : List Value) : Obj := { cls := .type "list", data := .seq vs.toArray }
theorem g_heap {P : Program} {w : World} {K : PySem.W.Frag} {a : Addr} {s : Shared} {vs : List Value} {ns : List Int} (kin : K.In s.heap) (ob : s.heap.get? a = some (scrO vs)) (hi : IntsAre vs ns) (len : ns.length ≤ sizeLine) :
    ∃ H : Hp, SqL K H a (ns.map V.int) ∧ HOk P w H s.heap ∧ (∀ b u, H b = some u → b = a ∧ K.lookup b = none ∧ ∃ xs, u = .frz (scrO vs) (.lst xs)) := by
  have rv := vals_ints hi
  have lv := hi.length
  cases hk : K.lookup a with
  | some o =>
    have e := kin a o hk
    rw [ob] at e
    cases e
    exact ⟨fun _ => none, .inr ⟨_, vs.toArray, _, hk, rfl, rfl, rfl, by rw [List.size_toArray, lv]; exact len, by simpa using rv⟩, fun b u z => (by cases (show (none : Option HO) = some u from z)), fun b u z => (by cases (show (none : Option HO) = some u from z))⟩
  | none =>
    have at_ : ∀ b u, (if b = a then some (HO.frz (scrO vs) (.lst (ns.map V.int))) else none) = some u → b = a ∧ u = .frz (scrO vs) (.lst (ns.map V.int)) := fun b u z => by
      by_cases c : b = a
      · rw [if_pos c] at z
        exact ⟨c, (Option.some.inj z).symm⟩
      · rw [if_neg c] at z
        cases z
    refine ⟨fun b => if b = a then some (.frz (scrO vs) (.lst (ns.map V.int))) else none, .inl (.inr ⟨scrO vs, if_pos rfl⟩), fun b u z => ?_, fun b u z => ?_⟩
    · obtain ⟨rfl, rfl⟩ := at_ b u z
      exact ⟨ob, by rw [List.length_map]; exact len, vs, _, rv, ob⟩
    · obtain ⟨rfl, rfl⟩ := at_ b u z
      exact ⟨rfl, hk, _, rfl⟩
theorem g_law {P : Program} {w : World} {K : PySem.W.Frag} {mg mb : Str → Option Value} {k : Nat} {fa a : Addr} {fd : FuncData} {x : Str} {sp : Sp} {s : Shared} {vs : List Value} {ns : List Int}
    (kin : K.In s.heap) (mm : s.heap.Ns mainGlobals mg) (nb : s.heap.Ns builtinsNs mb) (boot : ∀ x : Str, x ≠ "__name__" → mb x = bootBuiltins x) (lim : s.heap.NoLimit) (ge : s.gens = #[])
    (ob : s.heap.get? a = some (scrO vs)) (hi : IntsAre vs ns) (len : ns.length ≤ sizeLine) (room : Room k callerA)
    (F : ∀ base : Heap, K.In base → base.Ns mainGlobals mg → GOk P w K mg base k fa fd [x] sp) (bt : ∀ (s : Shared) (u : Value), BindsTo s fd ⟨[u], []⟩ [(x, u)])
    (hsp : ∀ H : Hp, SqL K H a (ns.map V.int) → sp [.ref a] H (fun v _ => v = .bl true) E0) :
    codeAny (model P w) callerA (.call (.ref fa) ⟨[.ref a], []⟩) (fun r s' => r = .ok (.ret (.bool true)) ∧ OldK s.heap s'.heap ∧ s'.os = s.os ∧ AllBare s'.gens) s := by
  obtain ⟨H, sq, ok, own⟩ := g_heap (P := P) (w := w) kin ob hi len
  have free : ∀ {b : Addr} {o : Obj}, K.lookup b = some o → H b = none := fun {b o} e => by
    cases z : H b with
    | none => rfl
    | some u => rw [(own b u z).2.1] at e; cases e
  have dict : ∀ {b : Addr} {o : Obj} {es : Array DictEntry} {ep : Nat}, s.heap.get? b = some o → o.data = .dict es ep → H b = none := fun {b o es ep} e1 e2 => by
    cases z : H b with
    | none => rfl
    | some u =>
      obtain ⟨rfl, _⟩ := own b u z
      rw [ob] at e1
      cases e1
      cases (show Data.seq vs.toArray _ = Data.dict es ep from e2)
  have ns0 : ∀ {b : Addr} {m : Str → Option Value}, s.heap.Ns b m → (hidT s.heap H).Ns b m := fun {b m} z => by
    obtain ⟨o, es, ep, e1, e2, r⟩ := z
    exact ⟨o, es, ep, hidT_get e1 (dict e1 e2), e2, r⟩
  have kb : K.In (hidT s.heap H) := fun b o e => hidT_get (kin b o e) (free e)
  have md : Mod K mg (hidT s.heap H) := ⟨kb, ns0 mm, ⟨mb, ns0 nb, boot⟩, let ⟨mc, y1, y2⟩ := lim; ⟨mc, ns0 y1, y2⟩⟩
  have e0 : Env0 P w K mg (hidT s.heap H) callerA [] s H := ⟨rfl, md, fun b o e => of_hidT e, Nat.le_of_eq (hidT_size _ _), trivial, fun b z => (by cases (show b ∈ ([] : List Addr) from z)), ok, .of_eq ge⟩
  refine codeAny_mono ((F _ kb (ns0 mm)).go callerA [] s H ⟨[.ref a], []⟩ [.ref a] [.ref a] _ E0 ⟨room, rfl⟩ e0 (bt s (.ref a)) (.cons rfl .nil) (hsp H sq)) fun res s' h => ?_
  match res, h with
  | .ok (.ret u), ⟨v, H', os, bare, un, hok, rr, (g : v = .bl true)⟩ =>
    subst g
    obtain rfl : u = Value.bool true := rr
    refine ⟨rfl, OldK.of_keep fun b o e => ?_, os, bare⟩
    cases z : H b with
    | none => exact un.keep b o e z (fun y => by cases (show b ∈ ([] : List Addr) from y)) (by simp)
    | some t =>
      obtain ⟨rfl, _, xs, rfl⟩ := own b t z
      obtain ⟨e1, _⟩ := ok _ _ z
      obtain ⟨e2, _⟩ := hok _ _ (un.frzs _ _ _ z)
      rw [e] at e1
      cases e1
      exact e2
  | .ok .next, h => exact False.elim h
  | .ok .brk, h => exact False.elim h
  | .ok .cont, h => exact False.elim h
  | .error e, h => exact False.elim h
theorem g_walk {l : PySem.W.OpenLaw} {k : Nat} {q : Program} {loose : List Str} {XP : (Str → Option Value) → Heap → Prop} {YP : World → Heap → Prop} {d : DefRec} {K : Params → PySem.W.Frag} {x : Str}
    (hn : l.most = some 63) (hdf : d.params.defaults = []) (room : Room k callerA)
    (hY : ∀ (w : World) (h : Heap), YP w h → (K w.params).In h)
    (F : ∀ (w : World) (mg : Str → Option Value) (fa : Addr) (h : Heap), (K w.params).In h → h.Ns mainGlobals mg → mg d.name = some (.ref fa) →
      ∃ fd : FuncData, (∀ (s : Shared) (u : Value), BindsTo s fd ⟨[u], []⟩ [(x, u)]) ∧
        ∀ base : Heap, (K w.params).In base → base.Ns mainGlobals mg → GOk l.prog w (K w.params) mg base k fa fd [x] (spLawD (K w.params))) :
    PySem.W.WalkO q loose XP YP l.row.toRowW d [] (fun f vs => PySem.call f vs) := by
  apply Att.attach_call hn hdf
  intro w s₀ s mg mb fa o pm cd doc a vs ns G Y ho hd hcd hmg hobj hints hlen hg
  obtain ⟨fd, bt, hF⟩ := F w mg fa _ (hY w _ Y) G.T.g hmg
  exact g_law (hY w _ Y) G.T.g G.T.b G.T.builtins G.T.nolimit hg hobj hints (Nat.le_trans hlen (by decide)) room hF bt fun H sq => ⟨a, ns, rfl, sq, hlen, fun _ => rfl⟩
structure DefG (P : Program) (w : World) (K : PySem.W.Frag) (mg : Str → Option Value) (base : Heap) (x : Str) (k n : Nat) (ko : Kd) (g : List D → (D → Prop) → Prop) : Prop where
  ex : ∃ (f : Addr) (fd : FuncData) (ps : List Str), GOk P w K mg base k f fd ps (spD K n ko g) ∧ mg x = some (.ref f) ∧ PySem.W.keepIn K (.ref f) = true ∧ Binds K fd ps []
section
variable {X : Cx} {own : List Nat} {pos : Pos} {e : Expr} {es : List Expr} {x : Str} {pn : Pos} {k n : Nat} {ko : Kd} {w : List D → (D → Prop) → Prop} {pa : TAD}
theorem e_callG (F : DefG X.prog X.w X.K X.mg X.base x k n ko w) (hr : Room k X.A) (hgd : X.A.guards = some []) (ha : PA X (e :: es) (liftA X.K own .strong n pa)) (hk : ko ≠ .weak := by intro z; cases z) (hg : Gl X x := by rfl)
    (hs : starEach (e :: es) X.env = (false, eval e X.env) :: starEach es X.env := by rfl) (hpl : (backTo pos (starEach es X.env)).any (·.1) = false := by rfl) (hd : (x == ("__debug__" : Str)) = false := by decide) :
    PE X (.Call (.Name x pn) (e :: es) [] pos) (lift X.K own ko (pCall w pa)) := by
  obtain ⟨f, fd, ps, F, hm, hkp, hb⟩ := F.ex
  exact pe_imp (g_call F hr hgd hg hm hkp hb ha hd hs hpl) (lift_call hk)
theorem e_callGW (F : DefG X.prog X.w X.K X.mg X.base x k n .strong w) (hr : Room k X.A) (hgd : X.A.guards = some []) (ha : PA X (e :: es) (liftA X.K own .weak n pa)) (hg : Gl X x := by rfl)
    (hs : starEach (e :: es) X.env = (false, eval e X.env) :: starEach es X.env := by rfl) (hpl : (backTo pos (starEach es X.env)).any (·.1) = false := by rfl) (hd : (x == ("__debug__" : Str)) = false := by decide) :
    PE X (.Call (.Name x pn) (e :: es) [] pos) (lift X.K own .strong (pCallW w pa)) := by
  obtain ⟨f, fd, ps, F, hm, hkp, hb⟩ := F.ex
  exact pe_imp (g_call F hr hgd hg hm hkp hb ha hd hs hpl) lift_callW
end
theorem g_lawD {P : Program} {w : World} {K : PySem.W.Frag} {mg : Str → Option Value} {base : Heap} {k : Nat} {f : Addr} {fd : FuncData} {ps : List Str} {g : List D → (D → Prop) → Prop} (F : GOk P w K mg base k f fd ps (spD K 1 .strong g)) (h : ∀ ns : List Int, ns.length ≤ 63 → g [.scr ns] fun d => d = .bl true) :
    GOk P w K mg base k f fd ps (spLawD K) := by
  have imp : ∀ (vs : List V) (H : Hp) (Q : VK) (E : XK), spLawD K vs H Q E → spD K 1 .strong g vs H Q E := fun vs H Q E ⟨a, ns, e, ha, hl, q⟩ => by
    subst e
    refine ⟨rfl, ⟨K, fun _ _ => False⟩, fun _ => False, [.scr ns], _, rfl, ⟨fun _ _ z => z.elim, fun _ _ _ _ z => z.elim⟩, fun _ z => z.elim, .cons (.scr hl (ha.imp (fun z => ⟨fun z => z.elim id fun ⟨_, _, f, _⟩ => f, z⟩) fun z => .inr z)) .nil, h ns hl, fun c' v H' d t r e => ?_⟩
    subst e
    have r : Rep c' _ H' v (.bl true) := r
    cases r
    exact q H'
  exact ⟨fun vs H Q E z => F.count vs H Q E (imp vs H Q E z), fun A out s H args us vs Q E hr e0 hb rv hs => F.go A out s H args us vs Q E hr e0 hb rv (imp _ _ _ _ hs)⟩
end DL

set_option Elab.async false
set_option linter.all false
set_option maxRecDepth 100000
set_option maxHeartbeats 4000000
namespace DL
open PySem PySem.Spec PyProof.Rows L2
def wTake (ds : List D) (R : D → Prop) : Prop := dTwo ds fun x y => match x with
  | .feed => dInt y fun m => (0 < m ∧ m.natAbs.log2 < 9000) ∧ ∀ r, 0 ≤ r → r < m → R (.int r)
  | _ => False
def ix0 (K : PySem.W.Frag) (i : Int) : TE := tOp (rIxL K) (tVar 0) (tI i)
def tTake (K : PySem.W.Frag) : TS :=
  tSeq (tIfS (tTest (tOp rGt0 (ix0 K 0) (tI 0))) (tSeq (tAsg (tOp rModN0 (ix0 K 0) (tVar 1)) (gName 2)) (tSeq (tAsg (tOp rDivA0 (ix0 K 0) (tVar 1)) (gSub (tVar 0) (tI 0) rSetL)) (tRet (tVar 2)))) tNext)
  (tSeq (tAsg (tOp rModN0 (tOp rMulW0 (ix0 K 1) (tI 69623)) (tI 2147483647)) (gName 3))
  (tSeq (tAsg (tOp rAdd0 (tOp rModN0 (tOp rAdd0 (tOp rMulW0 (tVar 3) (tI 48271)) (tI 30103)) (tI 2147483629)) (tI 1)) (gSub (tVar 0) (tI 1) rSetL))
  (tRet (tOp rModN0 (tOp rDivA0 (tOp rAdd0 (tOp rMulW0 (tVar 3) (tI 2147483647)) (ix0 K 1)) (tI 8191)) (tVar 1)))))
theorem take_read {K : PySem.W.Frag} {vs : List V} {H : Hp} {Q : VK} {E : XK} {N : List Str} (hN : N.length = 4) (h : spD K 2 .strong wTake vs H Q E) : tTake K { nx := fun _ H' => Q .non H', rt := Q } (L2.start N vs) H := by
  obtain ⟨hl, c, A, ds, R, hk, fo, hAl, r, hw, q⟩ := h
  obtain ⟨x, y, rfl, hw⟩ := dTwo_iff hw
  cases x with
  | feed =>
    obtain ⟨m, rfl, ⟨hm, hm2⟩, hw⟩ := dInt_iff hw
    match r with
    | .cons r1 (.cons r2 .nil) =>
      cases r1 with
      | feed f =>
        rename_i a
        cases r2
        have st0 : L2.start N [V.ref a, V.int m] = [some (.ref a), some (.int m), none, none] := by
          unfold L2.start
          rw [hN]
          rfl
        rw [st0]
        have fc : FeedC H a a := (fo.ok a a f).resolve_left fun z => z.1 rfl
        obtain ⟨_, n, s, e, n0, s0, s1⟩ := fc
        have fin : ∀ (z n' s' : Int), 0 ≤ n' → 0 ≤ s' → s' < 2147483648 → 0 ≤ z → z < m → Q (.int z) (upd H a (.lst [.int n', .int s'])) := fun z n' s' a0 a1 a2 z0 z1 =>
          q c (.int z) _ (.int z) (feed_step (Step.refl fo) f (fun b h1 _ => upd_ne h1) (.inr ⟨rfl, n', s', upd_same, a0, a1, a2⟩)) (.int z) (hw z z0 z1)
        have sq : ∀ {H' : Hp} {n' s' : Int}, H' a = some (.lst [.int n', .int s']) → SqL K H' a [.int n', .int s'] := fun e => .inl (.inl e)
        have mq : (0 : Int) ≤ m := by omega
        refine ⟨_, rfl, a, _, 0, .int n, rfl, rfl, sq e, rfl, _, _, rfl, rfl, _, rfl, ?_⟩
        by_cases hn : 0 < n
        · rw [decide_eq_true hn]
          refine iteT ?_
          refine ⟨_, rfl, a, _, 0, .int n, rfl, rfl, sq e, rfl, _, rfl, _, _, rfl, rfl, (by show m ≠ 0; omega), ?_⟩
          refine ⟨_, rfl, a, _, 0, .int n, rfl, rfl, sq e, rfl, _, rfl, _, _, rfl, rfl, ⟨by omega, hm2⟩, ?_⟩
          refine ⟨_, rfl, a, _, 0, 0, rfl, rfl, e, rfl, ?_⟩
          obtain ⟨r0, r1⟩ := fmod_rng n hm
          exact ⟨_, rfl, fin _ _ _ (fdiv_nn n0 hm) s0 s1 r0 r1⟩
        · rw [decide_eq_false hn]
          refine iteF ?_
          have q1 : CMulW s 69623 := mul_ok (a := 31) (b := 17) (by omega) (by decide)
          obtain ⟨o0, o1⟩ := fmod_rng (s * 69623) (j := 2147483647) (by decide)
          obtain ⟨one, he⟩ : ∃ one, one = (s * 69623).fmod 2147483647 := ⟨_, rfl⟩
          rw [← he] at o0 o1
          have q2 : CMulW one 48271 := mul_ok (a := 31) (b := 17) (by omega) (by decide)
          obtain ⟨p0, p1⟩ := fmod_rng (one * 48271 + 30103) (j := 2147483629) (by decide)
          obtain ⟨s', hs'⟩ : ∃ s', s' = (one * 48271 + 30103).fmod 2147483629 := ⟨_, rfl⟩
          rw [← hs'] at p0 p1
          have q3 : CMulW one 2147483647 := mul_ok (a := 31) (b := 31) (by omega) (by decide)
          have t0 : 0 ≤ one * 2147483647 := Int.mul_nonneg o0 (by decide)
          obtain ⟨r0, r1⟩ := fmod_rng ((one * 2147483647 + (s' + 1)).fdiv 8191) hm
          refine ⟨_, rfl, a, _, 1, .int s, rfl, rfl, sq e, rfl, _, _, rfl, rfl, q1, _, _, rfl, rfl, (by show (2147483647 : Int) ≠ 0; decide), ?_⟩
          show (tSeq (tAsg (tOp rAdd0 (tOp rModN0 (tOp rAdd0 (tOp rMulW0 (tVar 3) (tI 48271)) (tI 30103)) (tI 2147483629)) (tI 1)) (gSub (tVar 0) (tI 1) rSetL))
            (tRet (tOp rModN0 (tOp rDivA0 (tOp rAdd0 (tOp rMulW0 (tVar 3) (tI 2147483647)) (ix0 K 1)) (tI 8191)) (tVar 1)))) { nx := fun _ H' => Q .non H', rt := Q } [some (.ref a), some (.int m), none, some (.int ((s * 69623).fmod 2147483647))] H
          rw [← he]
          refine ⟨_, rfl, _, _, rfl, rfl, q2, _, _, rfl, rfl, _, _, rfl, rfl, (by show (2147483629 : Int) ≠ 0; decide), _, _, rfl, rfl, ?_⟩
          dsimp only
          rw [← hs']
          refine ⟨_, rfl, a, _, 1, 1, rfl, rfl, e, rfl, ?_⟩
          refine ⟨_, rfl, _, _, rfl, rfl, q3, _, rfl, a, _, 1, .int (s' + 1), rfl, rfl, sq upd_same, rfl, _, _, rfl, rfl, _, _, rfl, rfl, ⟨by decide, by decide +kernel⟩, _, rfl, _, _, rfl, rfl, (by show m ≠ 0; omega), ?_⟩
          exact fin _ n (s' + 1) n0 (by omega) (by omega) r0 r1
  | _ => exact hw.elim
def sRetFeed (p1 p2 : TED) : TSD := fun DD ρ => p1 ρ fun x => dInt x fun n => p2 ρ fun y => dInt y fun s => (0 ≤ n ∧ 0 ≤ s ∧ s < 2147483648) ∧ DD.rt .feed
theorem lift_retFeed (K : PySem.W.Frag) {own : List Nat} {fr : Bool} {p1 p2 : TED} : ∀ D σ H, liftS K own fr .strong (sRetFeed p1 p2) D σ H → tRet (tLst (tCons (lift K own .strong p1) (tCons (lift K own .strong p2) tNil))) D σ H := by
  intro D σ H ⟨c0, H0, A, c, ρ, DD, hk, t, E, F, h, z⟩
  refine ⟨c, A, ρ, _, hk, E, h, fun c1 v1 H1 d1 t1 r1 g1 => ?_⟩
  obtain ⟨n, rfl, g1⟩ := dInt_iff g1
  have r1 : Rep c1 _ H1 v1 (.int n) := r1
  cases r1
  refine ⟨c1, A, ρ, _, t1.kk.trans hk, E.step t1, g1, fun c2 v2 H2 d2 t2 r2 g2 => ?_⟩
  obtain ⟨s, rfl, hb, g⟩ := dInt_iff g2
  have r2 : Rep c2 _ H2 v2 (.int s) := r2
  cases r2
  refine ⟨sz_small (show 2 ≤ 1000 by decide), fun p hp => ?_⟩
  have t12 : Step c0 H0 c2 H2 := (t.trans t1).trans t2
  have np : ¬ c2.S p := t12.fok.fresh hp
  have f0 := t12.fresh hp
  have t3 : Step c0 H0 c2 (upd H2 p (.lst [.int n, .int s])) := t12.upd f0 np
  have t4 : Step c0 H0 (c2.plus p p) (upd H2 p (.lst [.int n, .int s])) := plus_step t3 np np f0 f0 (.inr ⟨rfl, n, s, upd_same, hb.1, hb.2.1, hb.2.2⟩)
  exact z.rt (c2.plus p p) (.ref p) _ .feed (t2.kk.trans (t1.kk.trans hk)) t4 (show Rep _ _ _ _ _ from .feed (.inr ⟨rfl, rfl⟩)) g
theorem s_retFeed {X : Cx} {own : List Nat} {fr : Bool} {st : Stmt} {p1 p2 : TED} (h : PS X st (tRet (tLst (tCons (lift X.K own .strong p1) (tCons (lift X.K own .strong p2) tNil))))) : PS X st (liftS X.K own fr .strong (sRetFeed p1 p2)) := ps_imp h (lift_retFeed _)
def sFail : TSD := fun _ _ => False
theorem s_fail {X : Cx} {own : List Nat} {fr : Bool} {ko : Kd} {st : Stmt} : PS X st (liftS X.K own fr ko sFail) := ⟨fun pins s σ H D I ⟨c0, H0, A, c, ρ, DD, hk, t, E, F, h, z⟩ => h.elim⟩
def sPopA (i : Nat) (g : TGD) : TSD := fun DD ρ => ownL ρ i fun ds => ∃ es d, ds = es ++ [d] ∧ g d (ρ.set i (some (.lst es))) DD.nx
section
variable {X : Cx} {own is : List Nat} {fr : Bool} {ko : Kd} {pos : Pos} {e : Expr}
theorem s_popA (i : Nat) {tg : Expr} {g : TG} {gd : TGD} (he : PE X e (tBM0 X.K "list" rPop (tVar i))) (hg : PG X tg g) (hgd : TgOk X.K own is g gd) (hi : i ∈ own := by decide) (hs : swapsWithSole [tg] e pos.line X.env = pure false := by rfl) (hw : swappedStores [tg] e X.env = pure none := by rfl)
    (h1 : (assignEach [tg] X.env).map (·.2) = [assign tg X.env] := by rfl) : PS X (.Assign [tg] e pos) (liftS X.K own fr ko (sPopA i gd)) :=
  ps_imp (ps_asg he hg hs hw h1) fun D σ H ⟨c0, H0, A, c, ρ, DD, hk, t, E, F, h, z⟩ => by
    obtain ⟨ds, e1, es, d, rfl, h⟩ := ownL_iff h
    obtain ⟨a, vs, y1, y2, y3, y4, y5⟩ := ownL_at E hi e1
    have l0 : vs.length = es.length + 1 := by rw [y5.len, List.length_append, List.length_singleton]
    have hlast : vs[vs.length - 1]? = some (vs[vs.length - 1]'(by omega)) := List.getElem?_eq_getElem (by omega)
    refine ⟨.ref a, y1, .inl ⟨rfl, _, SqL.of y4⟩, a, vs, vs[vs.length - 1]'(by omega), rfl, rfl, y4, hlast, ?_⟩
    have own_a : OwnA own σ ρ a := ⟨i, _, hi, e1, y1⟩
    have m : ∀ b u, ¬ Avd c own A σ ρ b → H b = some u → ¬ Avd c own A σ ρ b ∧ (upd H a (.lst vs.dropLast)) b = some u := fun b u n e => ⟨n, by rw [upd_ne (fun z => n (by rw [z]; exact .inr (.inr own_a)))]; exact e⟩
    obtain ⟨d', hd', rd⟩ := y5.getV hlast
    have ed : d' = d := by
      rw [l0, List.getElem?_append_right (by omega)] at hd'
      simpa using hd'.symm
    subst ed
    have rl : RepL c (Avd c own A σ ρ) H vs.dropLast es := by
      have := y5.dropLast'
      rwa [List.dropLast_concat] at this
    have E2 := E.mutO hi e1 y1 (.lst (by rw [List.length_dropLast]; omega) upd_same (RepL.mv rfl (fun _ _ z => z) m _ _ rl))
    have own2 : ∀ b, Avd c own A σ (ρ.set i (some (.lst es))) b → Avd c own A σ ρ b := fun b z => by
      rcases z with z | z | ⟨j, d, hj, k1, k2⟩
      · exact .inl z
      · exact .inr (.inl z)
      · refine .inr (.inr ?_)
        by_cases c1 : j = i
        · subst c1; exact ⟨j, _, hj, e1, k2⟩
        · rw [List.getElem?_set_ne (Ne.symm c1)] at k1
          exact ⟨j, _, hj, k1, k2⟩
    have rd2 : Rep c (Avd c own A σ (ρ.set i (some (.lst es)))) (upd H a (.lst vs.dropLast)) (vs[vs.length - 1]'(by omega)) d' := Rep.mv rfl (fun _ _ z => z) (fun b u n e => by
      obtain ⟨n2, e2⟩ := m b u n e
      exact ⟨fun z => n2 (own2 b z), e2⟩) _ _ rd
    exact hgd c A σ _ _ _ d' DD.nx D.nx hk E2 rd2 h fun σ' ρ' E' o _ q => z.nx.here hk (t.upd (F a own_a) y2) E' ((F.mutO e1).congr o) q
end
end DL

set_option Elab.async false
set_option linter.all false
set_option maxRecDepth 100000
set_option maxHeartbeats 4000000
namespace DL
open PySem PySem.Spec PyProof.Rows L2
section
variable {DD : DEnds} {ρ : PEnv} {R : D → Prop} {a b : TED} {g : TGD} {i : Nat}
theorem x_take {m : Int} : wTake [.feed, .int m] R = ((0 < m ∧ m.natAbs.log2 < 9000) ∧ ∀ r, 0 ≤ r → r < m → R (.int r)) := propext Iff.rfl
theorem x_retFeed : sRetFeed a b DD ρ = a ρ fun x => dInt x fun n => b ρ fun y => dInt y fun s => (0 ≤ n ∧ 0 ≤ s ∧ s < 2147483648) ∧ DD.rt .feed := propext Iff.rfl
theorem x_fail : sFail DD ρ = False := propext Iff.rfl
theorem x_popA : sPopA i g DD ρ = ownL ρ i fun ds => ∃ es d, ds = es ++ [d] ∧ g d (ρ.set i (some (.lst es))) DD.nx := propext Iff.rfl
end
end DL

set_option Elab.async false
set_option linter.all false
set_option maxRecDepth 100000
set_option maxHeartbeats 4000000
namespace DSet
open PySem PySem.Spec PyProof.Rows L2
section
variable {P : Program} {w : World} {A : Around} {E : Value → Shared → Prop} {s : Shared}
theorem call_setI {l : Addr} {items : Array Value} (ns : List Int) {Q : Value → Shared → Prop} (hh : A.handled = none) (hl : s.heap.IsList l items) (hit : IntsAre items.toList ns) (hfew : ns.length ≤ 2000)
    (h : ∀ (h' : Heap) (tk c : Nat), SetR w h' s.heap.objs.size (fun j => decide (j ∈ ns)) c → c ≤ ns.length → (∀ b o, s.heap.get? b = some o → h'.get? b = some o) → Q (.ref s.heap.objs.size) { s with heap := h', toks := tk }) :
    wpAny (model P w) A (call (.type "set") [.ref l]) Q E s := by
  have hisz : items.size = ns.length := by
    have q := hit.length
    rwa [Array.length_toList] at q
  obtain ⟨c, tl, hmro⟩ := F.called_set.mro
  have hmade := F.called_set.made
  have hsub := F.called_set.sub
  refine wpAny_call (codeAny_of_tree ?_)
  show wpAny _ _ (callAny (.type "set") _) _ _ _
  refine wpAny_pure ⟨Code.quiet_builtin _ (by decide +kernel), codeAny_builtin F.entry_type_call ?_⟩
  rw [Around.under_plain (weight_type_call_type "set" [.ref l] []) rfl]
  have h1 := F.called_set.notType
  have h2 := F.called_set.canCreate
  have hct := F.typeCall_set_1 (.ref l)
  repeat (any_goals (first | assumption | wp_step))
  refine codeAny_mono (code_set_led1 (.ref l) (E := E) (Q₁ := fun obj s₁ => obj = .ref s.heap.objs.size ∧ s₁ = { s with heap := s.heap.push (newS w) }) ⟨rfl, rfl⟩) fun r s₁ hr => ?_
  rcases r with e | fl
  · exact hr
  cases fl with
  | ret obj =>
    obtain ⟨rfl, rfl⟩ := hr
    have hS : (s.heap.push (newS w)).get? s.heap.objs.size = some (newS w) := Heap.get?_push_size _ rfl
    have hT : Shared.TypeIs { s with heap := s.heap.push (newS w) } (.ref s.heap.objs.size) "set" := ⟨_, hS, rfl⟩
    have hli := F.called_set.init.lookup
    have hbi := F.called_set.init.bind (.ref s.heap.objs.size)
    repeat (any_goals (first | assumption | wp_step))
    refine codeAny_mono (codeAny_call_builtin (R := wants (fun r s₂ => r = .none ∧ ∃ h' tk c, s₂ = { s with heap := h', toks := tk } ∧ SetR w h' s.heap.objs.size (fun j => decide (j ∈ ns)) c ∧ c ≤ ns.length ∧
        (∀ b o, s.heap.get? b = some o → h'.get? b = some o)) E) F.called_set.init.plain F.entry_set_init (check_set_init_1 hT ?_)) fun r₂ s₂ hr₂ => ?_
    · have hval : ∀ (i : Nat) (v : Value), items[i]? = some v → ∃ k t, ns[i]? = some k ∧ v = .int k t := fun i v hv => by
        have hi : i < ns.length := by rw [← hisz]; exact (Array.getElem?_eq_some_iff.mp hv).1
        obtain ⟨t, e⟩ := hit.int_at i v (by rw [Array.getElem?_toList]; exact hv)
        refine ⟨ns[i], t, List.getElem?_eq_getElem hi, ?_⟩
        rw [e, List.getD_eq_getElem?_getD, List.getElem?_eq_getElem hi] <;> rfl
      have hh3 : A.in1.in1.in1.handled = none := by simp [hh]
      have sz1 : (s.heap.push (newS w)).objs.size = s.heap.objs.size + 1 := Heap.size_push ..
      obtain ⟨⟨ocls, odict, odata, oslots⟩, hol, hcl, nl, hdl⟩ := hl
      simp only at hcl hdl
      subst hcl; subst hdl
      have hol' : (s.heap.push (newS w)).get? l = some { cls := .type "list", dict := odict, data := .seq items nl, slots := oslots } := Heap.get?_push_of_some _ hol
      have hsls := F.sub_list_set
      have hslf := F.sub_list_frozenset
      have hne : (Value.type "list" == Value.type "dict") = false := by decide
      have hl1 : (s.heap.push (newS w)).IsList l items := ⟨_, hol', rfl, nl, rfl⟩
      have hlS : l < s.heap.objs.size := Heap.lt_size hol
      have hlne : l ≠ (s.heap.push (newS w)).objs.size := by rw [sz1]; exact Nat.ne_of_lt (Nat.lt_succ_of_lt hlS)
      have hSf : s.heap.objs.size ∉ [(s.heap.push (newS w)).objs.size, l] := by
        rw [sz1]
        simp only [List.mem_cons, List.not_mem_nil, or_false, not_or]
        exact ⟨Nat.ne_of_lt (Nat.lt_succ_self _), Nat.ne_of_gt hlS⟩
      unfold Builtin.«set.__init__» noKeywords Builtin.Frozenset.updateFrom
      generalize hPI : pyIter = PI
      wp_walk
      subst hPI
      refine wpAny_pyIter_list hl1 (wpAny_bind (wpAny_runValue ?_))
      refine set_update_ints ((Walks.list hh3 _ l hlne items).toS) s.heap.objs.size hSf ns hisz (by unfold scanBound; omega) hval (items.size - 0) 0 _ (by omega) (Nat.zero_le _)
        ⟨⟨_, Heap.get?_push_size _ rfl, rfl, rfl⟩, (hl1.push _)⟩ ⟨0, Nat.le_refl 0, setR_new_at (Heap.get?_push_of_some _ hS)⟩ ?_
      rintro ⟨h', g2, d', tk', os'⟩ c' hm hc' hS'
      obtain rfl : g2 = s.gens := hm.gens
      obtain rfl : d' = s.drawn := hm.drawn
      obtain rfl : os' = s.os := hm.os
      show wpAny _ _ _ _ _ _
      refine wpAny_pure ?_
      show wpAny _ _ (ret Value.none) _ _ _
      rw [hisz] at hc'
      refine wpAny_pure ⟨rfl, h', tk', c', rfl, hS', hc', fun b o e => ?_⟩
      have hb0 : b < s.heap.objs.size := Heap.lt_size e
      have e2 : ((s.heap.push (newS w)).push { cls := .type "list_iterator", data := .fields #[.ref l, .int 0 0] }).get? b = some o := Heap.get?_push_of_some _ (Heap.get?_push_of_some _ e)
      refine hm.heap b o ?_ e2
      rw [sz1]
      simp only [List.mem_cons, List.not_mem_nil, or_false, not_or]
      exact ⟨Nat.ne_of_lt hb0, Nat.ne_of_lt (Nat.lt_succ_of_lt hb0)⟩
    · rcases r₂ with e | fl₂
      · exact hr₂
      cases fl₂ with
      | ret r =>
        obtain ⟨rfl, h', tk, c, rfl, hS', hc', hk'⟩ := hr₂
        repeat (any_goals (first | assumption | wp_step))
        exact h _ _ _ hS' hc' hk'
      | _ => exact hr₂.elim
  | _ => exact hr.elim
end
end DSet
namespace DL
open PySem PySem.Spec PyProof.Rows L2
def rSetI (K : PySem.W.Frag) (w : World) : List V → Hp → VK → Prop := fun vs H Q => ∃ (l : Addr) (ns : List Int), vs = [.ref l] ∧ SqL K H l (ns.map V.int) ∧ ns.length ≤ 60 ∧ ∀ p n, H p = none → n ≤ ns.length → Q (.ref p) (upd H p (SetO w p (fun j => decide (j ∈ ns)) n))
theorem cr_setI {X : Cx} (hc : X.calm = true) : CallR X (.type "set") (rSetI X.K X.w) := by
  intro pins s σ H vs us Q I r h
  obtain ⟨l, ns, rfl, hs, hl, q⟩ := h
  rw [Vals.ref1 r]
  obtain ⟨its, rv, hls, _⟩ := I.list hs
  have hi := ints_of_vals rv
  refine DSet.call_setI (items := its.toArray) ns (I.ok.hd hc) hls.isList (by simpa using hi) (by omega) fun h' tk c R hc hk => ?_
  have hn : H s.heap.objs.size = none := I.hok.fresh (Nat.le_refl _)
  have J : Inv X pins σ (upd H s.heap.objs.size (SetO X.w s.heap.objs.size (fun j => decide (j ∈ ns)) c)) { s with heap := h', toks := tk } :=
    I.call (h' := h') (g' := s.gens) (d' := s.drawn) (t' := tk) (ch := []) (Un.laid hk (Nat.le_refl _) hn) (I.hok.laid hk (Nat.le_refl _) (setO_new R)) I.bare (fun _ z => nomatch z)
  exact ⟨.ref s.heap.objs.size, _, J, rfl, q _ c hn hc⟩
def dSrtI (x : D) (R : D → Prop) : Prop := match x with
  | .lst ds => ∃ ns : List Int, ds = ns.map D.int ∧ ns.length ≤ 60 ∧ R (.lst ((osrtU ns).map D.int))
  | _ => False
theorem lift_srtI {X : Cx} {own : List Nat} {p : TED} : ∀ σ H Q, lift X.K own .fresh (p1 dSrtI p) σ H Q → tCB (rSortedSet X.w) (tCons (tCB (rSetI X.K X.w) (tCons (lift X.K own .weak p) tNil)) tNil) σ H Q := fun σ H Q ⟨c, A, ρ, R, hk, E, hp, f⟩ => ⟨c, A, ρ, _, hk, E, hp, fun c1 v H1 d t1 r1 g1 => by
  have ek : c1.K = X.K := t1.kk.trans hk
  show rSetI X.K X.w [v] H1 (fun x H2 => rSortedSet X.w [x] H2 Q)
  cases d with
  | lst ds =>
    obtain ⟨ns, rfl, hl, g⟩ := g1
    obtain ⟨a, us, rfl, z, h, rl⟩ := RepW.lst r1
    have eu := rl.ints
    subst eu
    refine ⟨a, ns, rfl, .inl (.inl h), hl, fun S n hS hn => ⟨S, _, n, rfl, upd_same, by omega, fun ms q srt mem ln hq => ?_⟩⟩
    have em : ms = osrtU ns := osrtU_uniq srt fun k => by rw [mem k, decide_eq_true_iff]
    subst em
    have t2 : Step c H c1 (upd H1 S (SetO X.w S (fun j => decide (j ∈ ns)) n)) := t1.more hS
    exact f c1 (.ref q) _ (.lst ((osrtU ns).map D.int)) (t2.more hq) (Fr.back t2 (Fr.newL (E.step t2) hq (by rw [List.length_map]; exact sz_small (by have := osrtU_len ns; omega)) (RepL.ofInts _))) g
  | _ => exact g1.elim⟩
section
variable {X : Cx} {own : List Nat} {e : Expr} {p : TED} {k : Nat} {pn p2 pos pos2 : Pos}
theorem e_srtI (hc : X.calm = true) (hm : X.mg "sorted" = none) (hm2 : X.mg "set" = none) (he : PE X e (lift X.K own .weak p)) (hg : Gl X "sorted" := by rfl) (hg2 : Gl X "set" := by rfl)
    (hs : starEach [e] X.env = (false, eval e X.env) :: starEach [] X.env := by rfl)
    (hs2 : starEach [.Call (.Name "set" p2) [e] [] pos2] X.env = (false, eval (.Call (.Name "set" p2) [e] [] pos2) X.env) :: starEach [] X.env := by rfl) :
    PE X (.Call (.Name "sorted" pn) [.Call (.Name "set" p2) [e] [] pos2] [] pos) (lift X.K own .fresh (p1 dSrtI p)) :=
  pe_imp (pe_callB (cr_sortedSet hc) hg hm (by decide +kernel) (pa_cons (pe_callTy (cr_setI hc) hg2 hm2 (by decide +kernel) (pa_cons he pa_nil hs) (by decide) (by decide) hs rfl) pa_nil hs2) (by decide) (by decide) hs2 rfl) lift_srtI
end
theorem srtI_L {ns : List Int} {R : D → Prop} (hl : ns.length ≤ 60) (h : R (.lst ((osrtU ns).map D.int))) : dSrtI (.lst (ns.map D.int)) R := ⟨ns, rfl, hl, h⟩
end DL

set_option Elab.async false
set_option linter.all false
set_option maxRecDepth 100000
set_option maxHeartbeats 4000000
namespace DL
open PySem PySem.Spec PyProof.Rows L2
def dIxC (x y : D) (R : D → Prop) : Prop := match x, y with
  | .scr ns, .int i => ∃ n, L2.atI ns i = some n ∧ R (.int n)
  | _, _ => False
theorem atI_mapV {α β : Type} (f : α → β) {ns : List α} {i : Int} {n : α} (h : L2.atI ns i = some n) : L2.atI (ns.map f) i = some (f n) := by
  unfold L2.atI at h ⊢
  rw [List.length_map]
  cases e : ixN ns.length i with
  | none => rw [e] at h; cases h
  | some j =>
    rw [e] at h
    have h2 : ns[j]? = some n := h
    show (ns.map f)[j]? = _
    rw [List.getElem?_map, h2]
    rfl
theorem c_ixC {K : PySem.W.Frag} : C2 K (rIxL K) .strong dIxC := fun c own A σ ρ H v w d e R Q hk E r1 r2 g q => by
  cases d with
  | scr ns =>
    cases e with
    | int i =>
      obtain ⟨n, h, g⟩ := g
      obtain ⟨a, rfl, _, sq⟩ := RepW.scr r1
      have := RepW.int r2
      subst this
      exact ⟨a, _, i, .int n, rfl, rfl, hk ▸ sq, atI_mapV V.int h, q c _ H _ (Step.refl E.fok) (.int n) g⟩
    | _ => exact g.elim
  | _ => cases e <;> exact g.elim
theorem x_ixC {ns : List Int} {i : Int} {R : D → Prop} : dIxC (.scr ns) (.int i) R = ∃ n, L2.atI ns i = some n ∧ R (.int n) := propext Iff.rfl
theorem atIn {α : Type} {xs : List α} {i : Int} (h : 0 ≤ i) (hl : i < xs.length) : L2.atI xs i = some (xs[i.toNat]'(by omega)) := by
  have e : i = ((i.toNat : Nat) : Int) := (Int.toNat_of_nonneg h).symm
  have := L2.atI_nat (xs := xs) (j := i.toNat) (v := xs[i.toNat]'(by omega)) (List.getElem?_eq_getElem (by omega))
  rw [← e] at this
  exact this
theorem shown_int {i : Int} (h : i.natAbs < 10 ^ 30) : (PyData.int i).showable = true ∧ (PyData.int i).shown.length ≤ 31 := by
  constructor
  · simp only [PyData.showable, decide_eq_true_eq]
    by_cases c : i.natAbs = 0
    · rw [c]; decide
    · exact Nat.lt_of_lt_of_le ((Nat.log2_lt c).mpr (show i.natAbs < 2 ^ 100 by omega)) (by decide)
  · simp only [PyData.shown]
    rw [PySem.ofString_length]
    exact int_text_length_le10 (k := 30) (by decide) h
theorem piled_le {ts : List Str} {b : Nat} (h : ∀ t ∈ ts, t.length ≤ b) : piled ts ≤ ts.length * (b + 2) := by
  induction ts with
  | nil => simp [piled]
  | cons t ts ih =>
    rw [piled_cons, List.length_cons, Nat.succ_mul]
    have := h t (by simp)
    have := ih fun x hx => h x (by simp [hx])
    omega
theorem shownAll_map (xs : List PyData) : PyData.shownAll xs = xs.map PyData.shown := by
  induction xs with
  | nil => rfl
  | cons x xs ih => simp only [PyData.shownAll, ih, List.map_cons]
theorem showableAll_iff {xs : List PyData} : PyData.showableAll xs = true ↔ ∀ x ∈ xs, x.showable = true := by
  induction xs with
  | nil => simp [PyData.showableAll]
  | cons x xs ih => simp [PyData.showableAll, ih]
theorem toPys_mapf {α : Type} (g : α → D) (xs : List α) : toPy.toPys (xs.map g) = xs.map fun a => toPy (g a) := by
  induction xs with
  | nil => rfl
  | cons x xs ih => rw [List.map_cons, List.map_cons, toPy.toPys, ih]
theorem shown_tup {α : Type} {g : α → D} {xs : List α} {b : Nat} (h : ∀ a ∈ xs, (toPy (g a)).showable = true ∧ (toPy (g a)).shown.length ≤ b) : (toPy (.tup (xs.map g))).showable = true ∧ (toPy (.tup (xs.map g))).shown.length ≤ xs.length * (b + 2) + 2 := by
  have e : toPy (.tup (xs.map g)) = .tuple (xs.map fun a => toPy (g a)) := by simp only [toPy, toPys_mapf]
  rw [e]
  constructor
  · simp only [PyData.showable]
    rw [showableAll_iff]
    intro x hx
    obtain ⟨a, ha, rfl⟩ := List.mem_map.mp hx
    exact (h a ha).1
  · simp only [PyData.shown]
    have h1 := fmt_text (PyData.shownAll (xs.map fun a => toPy (g a)))
    have h2 := piled_le (ts := PyData.shownAll (xs.map fun a => toPy (g a))) (b := b) fun t ht => by
      rw [shownAll_map, List.map_map] at ht
      obtain ⟨a, ha, rfl⟩ := List.mem_map.mp ht
      exact (h a ha).2
    rw [shownAll_map, List.length_map, List.length_map] at h2
    rw [← shownAll_map] at h2
    omega
theorem shown_rows {rows : List (List (Int × Int))} (hr : rows.length ≤ 1000) (hl : ∀ r ∈ rows, r.length ≤ 100) (hb : ∀ r ∈ rows, ∀ c ∈ r, c.1.natAbs < 10 ^ 30 ∧ c.2.natAbs < 10 ^ 30) : numD 8 (.tup (rows.map rwD)) = true ∧ isTL (.tup (rows.map rwD)) = true ∧ (toPy (.tup (rows.map rwD))).showable = true ∧ (reprD (.tup (rows.map rwD))).length ≤ sizeLine := by
  refine ⟨numD_tup.mpr fun d hd => ?_, rfl, ?_⟩
  · obtain ⟨r, _, rfl⟩ := List.mem_map.mp hd
    refine numD_tup.mpr fun d hd => ?_
    obtain ⟨c, _, rfl⟩ := List.mem_map.mp hd
    refine numD_tup.mpr fun d hd => ?_
    simp only [List.mem_cons, List.not_mem_nil, or_false] at hd
    rcases hd with rfl | rfl <;> exact numD_int
  · have hc : ∀ r ∈ rows, ∀ c ∈ r, (toPy (prD c)).showable = true ∧ (toPy (prD c)).shown.length ≤ 68 := fun r hr c hc => by
      have := shown_tup (g := D.int) (xs := [c.1, c.2]) (b := 31) fun a ha => by
        simp only [List.mem_cons, List.not_mem_nil, or_false] at ha
        rcases ha with rfl | rfl
        · exact shown_int (hb r hr c hc).1
        · exact shown_int (hb r hr c hc).2
      exact this
    have hrow : ∀ r ∈ rows, (toPy (rwD r)).showable = true ∧ (toPy (rwD r)).shown.length ≤ 7002 := fun r hr => by
      obtain ⟨a, b⟩ := shown_tup (g := prD) (xs := r) (b := 68) (hc r hr)
      refine ⟨a, Nat.le_trans b ?_⟩
      have := hl r hr
      omega
    obtain ⟨a, b⟩ := shown_tup (g := rwD) (xs := rows) (b := 7002) hrow
    refine ⟨a, Nat.le_trans b ?_⟩
    rw [sizeLine_eq]
    omega
end DL

set_option Elab.async false
set_option linter.all false
set_option maxRecDepth 100000
set_option maxHeartbeats 4000000
namespace DL
open PySem PySem.Spec PyProof.Rows L2
section
variable {α : Type} [DecidableEq α]
def mkM : List α → List α → Nat
  | [], _ => 0
  | c :: cs, r => (if c ∈ r then 1 else 0) + 2 * mkM cs r
theorem rowM_mk : ∀ cs r : List α, rowM cs (mkM cs r) = cs.filter fun c => decide (c ∈ r)
  | [], _ => rfl
  | c :: cs, r => by
    have ih := rowM_mk cs r
    unfold mkM rowM
    by_cases h : c ∈ r
    · rw [if_pos h, if_pos (by omega), show (1 + 2 * mkM cs r) / 2 = mkM cs r by omega, ih, List.filter_cons_of_pos (by simpa using h)]
    · rw [if_neg h, if_neg (by omega), show (0 + 2 * mkM cs r) / 2 = mkM cs r by omega, ih, List.filter_cons_of_neg (by simpa using h)]
theorem mkM_lt : ∀ cs r : List α, mkM cs r < 2 ^ cs.length
  | [], _ => by simp [mkM]
  | c :: cs, r => by
    have ih := mkM_lt cs r
    unfold mkM
    rw [List.length_cons, Nat.pow_succ]
    split <;> omega
theorem mkM_bit : ∀ (cs r : List α) (i : Nat), (mkM cs r).testBit i = true ↔ ∃ c, cs[i]? = some c ∧ c ∈ r
  | [], _, i => by simp [mkM]
  | c :: cs, r, 0 => by
    unfold mkM
    rw [Nat.testBit_zero]
    by_cases h : c ∈ r
    · rw [if_pos h]
      simp only [decide_eq_true_eq]
      exact ⟨fun _ => ⟨c, rfl, h⟩, fun _ => by omega⟩
    · rw [if_neg h]
      simp only [decide_eq_true_eq]
      exact ⟨fun z => by omega, fun ⟨d, e, z⟩ => absurd (by simp at e; rw [e]; exact z) h⟩
  | c :: cs, r, i + 1 => by
    unfold mkM
    rw [Nat.testBit_succ, show ((if c ∈ r then 1 else 0) + 2 * mkM cs r) / 2 = mkM cs r by split <;> omega, mkM_bit cs r i]
    simp
theorem mkM_congr {cs r s : List α} (h : ∀ c ∈ cs, c ∈ r ↔ c ∈ s) : mkM cs r = mkM cs s := by
  induction cs with
  | nil => rfl
  | cons c cs ih =>
    unfold mkM
    rw [ih fun d hd => h d (by simp [hd])]
    have := h c (by simp)
    by_cases z : c ∈ r
    · rw [if_pos z, if_pos (this.mp z)]
    · rw [if_neg z, if_neg fun y => z (this.mpr y)]
theorem filter_mem {cs r : List α} (hs : r.Sublist cs) (nd : cs.Nodup) : cs.filter (fun c => decide (c ∈ r)) = r := by
  induction hs with
  | slnil => rfl
  | cons c hs ih =>
    obtain ⟨n1, n2⟩ := List.nodup_cons.mp nd
    rw [List.filter_cons_of_neg (by simpa using fun z => n1 (hs.subset z)), ih n2]
  | cons_cons c hs ih =>
    rename_i l1 l2
    obtain ⟨n1, n2⟩ := List.nodup_cons.mp nd
    rw [List.filter_cons_of_pos (by simp)]
    congr 1
    rw [← ih n2]
    refine List.filter_congr fun d hd => ?_
    rw [ih n2]
    have : d ≠ c := fun e => n1 (e ▸ hd)
    simp [this]
theorem mkM_row {cs : List α} (nd : cs.Nodup) {m : Nat} (hm : m < 2 ^ cs.length) : mkM cs (rowM cs m) = m := by
  refine rowM_inj nd _ _ (mkM_lt _ _) hm ?_
  rw [rowM_mk, filter_mem (rowM_sub cs m) nd]
theorem mkM_and {cs a b : List α} : mkM cs a &&& mkM cs b = mkM cs a ↔ ∀ c ∈ cs, c ∈ a → c ∈ b := by
  constructor
  · intro h c hc ha
    obtain ⟨i, hi⟩ := List.getElem?_of_mem hc
    have h1 : (mkM cs a).testBit i = true := (mkM_bit cs a i).mpr ⟨c, hi, ha⟩
    rw [← h, Nat.testBit_and, Bool.and_eq_true] at h1
    obtain ⟨d, hd, hb⟩ := (mkM_bit cs b i).mp h1.2
    rw [hi] at hd
    cases hd
    exact hb
  · intro h
    refine Nat.eq_of_testBit_eq fun i => ?_
    rw [Nat.testBit_and, Bool.eq_iff_iff, Bool.and_eq_true, mkM_bit, mkM_bit]
    exact ⟨fun z => z.1, fun ⟨c, hc, ha⟩ => ⟨⟨c, hc, ha⟩, c, hc, h c (List.mem_of_getElem? hc) ha⟩⟩
theorem mkM_and0 {cs a b : List α} : mkM cs a &&& mkM cs b = 0 ↔ ∀ c ∈ cs, c ∈ a → c ∉ b := by
  constructor
  · intro h c hc ha hb
    obtain ⟨i, hi⟩ := List.getElem?_of_mem hc
    have h1 : (mkM cs a &&& mkM cs b).testBit i = true := by
      rw [Nat.testBit_and, Bool.and_eq_true]
      exact ⟨(mkM_bit cs a i).mpr ⟨c, hi, ha⟩, (mkM_bit cs b i).mpr ⟨c, hi, hb⟩⟩
    rw [h, Nat.zero_testBit] at h1
    cases h1
  · intro h
    refine Nat.eq_of_testBit_eq fun i => ?_
    rw [Nat.zero_testBit, Nat.testBit_and, Bool.eq_false_iff]
    intro z
    rw [Bool.and_eq_true, mkM_bit, mkM_bit] at z
    obtain ⟨⟨c, h1, h2⟩, d, h3, h4⟩ := z
    rw [h1] at h3
    cases h3
    exact h c (List.mem_of_getElem? h1) h2 h4
theorem nd_at {cs : List α} (nd : cs.Nodup) {i j : Nat} {c : α} (h : cs[i]? = some c) (g : cs[j]? = some c) : i = j := by
  have hi := (List.getElem?_eq_some_iff.mp h).1
  exact (List.getElem?_inj hi nd).mp (h.trans g.symm)
theorem mkM_or {cs r : List α} (nd : cs.Nodup) {i : Nat} {c : α} (h : cs[i]? = some c) : mkM cs r ||| 2 ^ i = mkM cs (r ++ [c]) := by
  refine Nat.eq_of_testBit_eq fun j => ?_
  rw [Nat.testBit_or, Bool.eq_iff_iff, Bool.or_eq_true, mkM_bit, mkM_bit, Nat.testBit_two_pow, decide_eq_true_iff]
  constructor
  · rintro (⟨d, h1, h2⟩ | rfl)
    · exact ⟨d, h1, by simp [h2]⟩
    · exact ⟨c, h, by simp⟩
  · rintro ⟨d, h1, h2⟩
    rcases List.mem_append.mp h2 with z | z
    · exact .inl ⟨d, h1, z⟩
    · rw [List.mem_singleton.mp z] at h1
      exact .inr (nd_at nd h h1)
theorem mkM_nil (cs : List α) : mkM cs [] = 0 := by
  induction cs with
  | nil => rfl
  | cons c cs ih => unfold mkM; rw [ih]; simp
theorem mkM_xor {cs r : List α} (nd : cs.Nodup) {i : Nat} {c : α} (h : cs[i]? = some c) (hr : c ∈ r) : mkM cs r ^^^ 2 ^ i = mkM cs (r.filter fun d => decide (d ≠ c)) := by
  refine Nat.eq_of_testBit_eq fun j => ?_
  rw [Nat.testBit_xor, Nat.testBit_two_pow]
  by_cases e : i = j
  · subst e
    rw [(mkM_bit cs r i).mpr ⟨c, h, hr⟩, decide_eq_true rfl]
    symm
    rw [show (true ^^ true) = false from rfl, Bool.eq_false_iff]
    intro z
    obtain ⟨d, h1, h2⟩ := (mkM_bit _ _ _).mp z
    rw [h] at h1
    cases h1
    simp at h2
  · rw [decide_eq_false e, Bool.xor_false, Bool.eq_iff_iff, mkM_bit, mkM_bit]
    constructor
    · rintro ⟨d, h1, h2⟩
      refine ⟨d, h1, List.mem_filter.mpr ⟨h2, ?_⟩⟩
      rw [decide_eq_true_iff]
      intro ed
      subst ed
      exact e (nd_at nd h h1)
    · rintro ⟨d, h1, h2⟩
      exact ⟨d, h1, (List.mem_filter.mp h2).1⟩
end
def cellsR (rows : List (List Cell)) : List Cell := osrtU rows.flatten
theorem mem_cellsR {rows : List (List Cell)} {c : Cell} : c ∈ cellsR rows ↔ ∃ r ∈ rows, c ∈ r := by
  unfold cellsR
  rw [mem_osrtU, List.mem_flatten]
theorem addAll_nd : ∀ {ps cs : List Cell}, cs.Nodup → (addAll cs ps).Nodup
  | [], _, h => h
  | _ :: ps, _, h => addAll_nd (ps := ps) (addC_nd h)
theorem addAll_len : ∀ (ps cs : List Cell), (addAll cs ps).length ≤ cs.length + ps.length
  | [], _ => Nat.le_refl _
  | p :: ps, cs => by
    have h1 := addAll_len ps (addC cs p)
    have h2 := @addC_len cs p
    show (addAll (addC cs p) ps).length ≤ _
    rw [List.length_cons]
    omega
theorem osrt_addAll (l : List Cell) : osrt (addAll [] l) = osrtU l := osrt_nd (addAll_nd List.nodup_nil) fun y => by rw [mem_addAll]; simp
theorem row_in {r cs : List Cell} (hr : r.Pairwise OD.lt) (hc : cs.Pairwise OD.lt) (h : ∀ c ∈ r, c ∈ cs) : cs.filter (fun c => decide (c ∈ r)) = r := by
  refine row_eq (hc.filter _) hr (fun c hc => ?_) fun c hc => ?_
  · simpa using (List.mem_filter.mp hc).2
  · exact List.mem_filter.mpr ⟨h c hc, by simpa using hc⟩
theorem rowM_mkR {r cs : List Cell} (hr : r.Pairwise OD.lt) (hc : cs.Pairwise OD.lt) (h : ∀ c ∈ r, c ∈ cs) : rowM cs (mkM cs r) = r := by
  rw [rowM_mk]
  exact (List.filter_congr fun c _ => decide_eq_decide.mpr Iff.rfl).trans (row_in hr hc h)
end DL

set_option Elab.async false
set_option linter.all false
set_option maxRecDepth 100000
set_option maxHeartbeats 4000000
namespace DL
open PySem PySem.Spec PyProof.Rows L2
def dNeS (x y : D) (R : D → Prop) : Prop := match x, y with
  | .str s, .str z => R (.bl (!decide (s = z)))
  | _, _ => False
def dEqS (x y : D) (R : D → Prop) : Prop := match x, y with
  | .str s, .str z => R (.bl (decide (s = z)))
  | _, _ => False
theorem strV_inj {s z : Str} : decide (V.str s = V.str z) = decide (s = z) := decide_eq_decide.mpr ⟨fun h => V.str.inj h, fun h => by rw [h]⟩
theorem c_neS {K : PySem.W.Frag} : C2 K rNe .strong dNeS := fun c own A σ ρ H v w d e R Q hk E r1 r2 g q => by
  cases d with
  | str s =>
    cases e with
    | str z =>
      have e1 := RepW.str r1
      have e2 := RepW.str r2
      subst e1; subst e2
      exact ⟨rfl, by rw [strV_inj]; exact q c _ H _ (Step.refl E.fok) (.bl _) g⟩
    | _ => exact g.elim
  | _ => cases e <;> exact g.elim
theorem c_eqS {K : PySem.W.Frag} : C2 K rEq .strong dEqS := fun c own A σ ρ H v w d e R Q hk E r1 r2 g q => by
  cases d with
  | str s =>
    cases e with
    | str z =>
      have e1 := RepW.str r1
      have e2 := RepW.str r2
      subst e1; subst e2
      exact ⟨rfl, by rw [strV_inj]; exact q c _ H _ (Step.refl E.fok) (.bl _) g⟩
    | _ => exact g.elim
  | _ => cases e <;> exact g.elim
theorem x_neS {s z : Str} {R : D → Prop} : dNeS (.str s) (.str z) R = R (.bl (!decide (s = z))) := propext Iff.rfl
theorem x_eqS {s z : Str} {R : D → Prop} : dEqS (.str s) (.str z) R = R (.bl (decide (s = z))) := propext Iff.rfl
end DL

set_option Elab.async false
set_option linter.all false
set_option maxRecDepth 100000
set_option maxHeartbeats 4000000
namespace DL
open PySem PySem.Spec PyProof.Rows L2
def cpl (f : Cell → Cell) (rows : List (List Cell)) : List (List Cell) := osrt (rows.map fun r => osrt (r.map f))
theorem osrt_map {α β : Type} [OD α] [OD β] (f : α → β) (l : List α) : osrt ((osrt l).map f) = osrt (l.map f) := osrt_congr ((osrt_perm l).map f)
theorem mem_cpl {f : Cell → Cell} {rows : List (List Cell)} {s : List Cell} : s ∈ cpl f rows ↔ ∃ r ∈ rows, osrt (r.map f) = s := by
  unfold cpl
  rw [mem_osrt, List.mem_map]
theorem cpl_cpl (f g : Cell → Cell) (rows : List (List Cell)) : cpl g (cpl f rows) = cpl (fun c => g (f c)) rows := by
  unfold cpl
  rw [osrt_map, List.map_map]
  congr 1
  refine List.map_congr_left fun r _ => ?_
  show osrt ((osrt (r.map f)).map g) = _
  rw [osrt_map, List.map_map]
  rfl
theorem cpl_same {f g : Cell → Cell} {rows : List (List Cell)} (h : ∀ r ∈ rows, ∀ c ∈ r, f c = g c) : cpl f rows = cpl g rows := by
  unfold cpl
  congr 1
  refine List.map_congr_left fun r hr => ?_
  congr 1
  exact List.map_congr_left fun c hc => h r hr c hc
theorem cpl_id {rows : List (List Cell)} (h : Rows rows) : cpl (fun c => c) rows = rows := by
  unfold cpl
  have e : (rows.map fun r => osrt (r.map fun c => c)) = rows := by
    conv => rhs; rw [← List.map_id rows]
    refine List.map_congr_left fun r hr => ?_
    rw [List.map_id']
    exact osrt_id (lt_le (h.row r hr).2)
  rw [e]
  exact osrt_id (lt_le h.srt)
theorem cpl_len (f : Cell → Cell) (rows : List (List Cell)) : (cpl f rows).length = rows.length := by
  unfold cpl
  rw [osrt_len, List.length_map]
theorem cpl_ne {f : Cell → Cell} {rows : List (List Cell)} (h : Ne rows) : Ne (cpl f rows) := fun s hs => by
  obtain ⟨r, hr, rfl⟩ := mem_cpl.mp hs
  exact osrt_ne (by simpa using h r hr)
theorem cpl_rlen {f : Cell → Cell} {rows : List (List Cell)} {n : Nat} (h : ∀ r ∈ rows, r.length ≤ n) : ∀ r ∈ cpl f rows, r.length ≤ n := fun s hs => by
  obtain ⟨r, hr, rfl⟩ := mem_cpl.mp hs
  rw [osrt_len, List.length_map]
  exact h r hr
theorem cpl_cells {f : Cell → Cell} {rows : List (List Cell)} {P : Cell → Prop} (h : ∀ r ∈ rows, ∀ c ∈ r, P (f c)) : ∀ r ∈ cpl f rows, ∀ c ∈ r, P c := fun s hs c hc => by
  obtain ⟨r, hr, rfl⟩ := mem_cpl.mp hs
  obtain ⟨d, hd, rfl⟩ := List.mem_map.mp (mem_osrt.mp hc)
  exact h r hr d hd
theorem cpl_rows {f : Cell → Cell} {rows : List (List Cell)} (h : Rows rows) (inj : ∀ c d, f c = f d → c = d) : Rows (cpl f rows) := by
  have back : ∀ r ∈ rows, ∀ s ∈ rows, (∀ c ∈ osrt (r.map f), c ∈ osrt (s.map f)) → r = s := fun r hr s hs hh => h.anti r hr s hs fun c hc => by
    obtain ⟨d, hd, e⟩ := List.mem_map.mp (mem_osrt.mp (hh (f c) (mem_osrt.mpr (List.mem_map.mpr ⟨c, hc, rfl⟩))))
    rw [← inj _ _ e]
    exact hd
  have nd : ∀ r ∈ rows, (r.map f).Nodup := fun r hr => List.Pairwise.map _ (fun a b hab e => hab (inj _ _ e)) (lt_nodup (h.row r hr).2)
  refine ⟨osrt_lt ?_, fun s hs => ?_, fun s hs t ht hh => ?_⟩
  · refine List.Pairwise.map _ (R := fun a b => (a ∈ rows ∧ b ∈ rows) ∧ a ≠ b) (fun a b hab e => ?_) (List.Pairwise.imp_of_mem (fun {a b} ha hb hn => ⟨⟨ha, hb⟩, hn⟩) (lt_nodup h.srt))
    exact hab.2 (back a hab.1.1 b hab.1.2 fun c hc => by rw [← e]; exact hc)
  · obtain ⟨r, hr, rfl⟩ := mem_cpl.mp hs
    exact ⟨osrt_ne (by simpa using (h.row r hr).1), osrt_lt (nd r hr)⟩
  · obtain ⟨r, hr, rfl⟩ := mem_cpl.mp hs
    obtain ⟨r', hr', rfl⟩ := mem_cpl.mp ht
    rw [back r hr r' hr' hh]
def cpb (b c : Cell) : Cell := cp c b
def nb (b : Cell) : Cell := (0 - b.1, 0 - b.2)
theorem cp_nb (b c : Cell) : cp (cp c b) (nb b) = c := by
  obtain ⟨x, y⟩ := c
  unfold cp nb
  simp only [Prod.mk.injEq]
  omega
theorem cp_nb' (b c : Cell) : cp (cp c (nb b)) b = c := by
  obtain ⟨x, y⟩ := c
  unfold cp nb
  simp only [Prod.mk.injEq]
  omega
theorem cpb_inj {b c d : Cell} (h : cpb b c = cpb b d) : c = d := by
  have e1 := cp_nb b c
  have e2 := cp_nb b d
  unfold cpb at h
  rw [h, e2] at e1
  exact e1.symm
theorem cp_swap (c b p : Cell) : cp (cp c b) p = cp c (cp p b) := by
  unfold cp
  simp only [Prod.mk.injEq]
  omega
theorem bt_carried {rows : List (List Cell)} (hne : Ne rows) (b : Cell) (is : List Cell) : bt (cpl (cpb b) rows) is = mv (nb b) (bt rows is) := by
  refine lt_uniq (bt_srt _ _) (mv_srt (bt_srt _ _)) fun p => ?_
  rw [(bt_beat (cpl_ne hne) is).mem]
  have e : p ∈ mv (nb b) (bt rows is) ↔ cp p b ∈ bt rows is := by
    conv => lhs; rw [← cp_nb b p]
    exact mem_mv
  rw [e, (bt_beat hne is).mem]
  constructor
  · rintro ⟨s, hs, h⟩
    obtain ⟨r, hr, rfl⟩ := mem_cpl.mp hs
    exact ⟨r, hr, fun c hc => by rw [← cp_swap]; exact h _ (mem_osrt.mpr (List.mem_map.mpr ⟨c, hc, rfl⟩))⟩
  · rintro ⟨r, hr, h⟩
    refine ⟨_, mem_cpl.mpr ⟨r, hr, rfl⟩, fun c hc => ?_⟩
    obtain ⟨d, hd, rfl⟩ := List.mem_map.mp (mem_osrt.mp hc)
    show cp (cp d b) p ∈ is
    rw [cp_swap]
    exact h d hd
abbrev Tab := Int × Int × Int × Int
def ldT (t : Tab) (p : Cell) : Cell := (t.1 * p.1 + t.2.1 * p.2, t.2.2.1 * p.1 + t.2.2.2 * p.2)
def tbD (t : Tab) : D := .tup [.int t.1, .int t.2.1, .int t.2.2.1, .int t.2.2.2]
def detT (t : Tab) : Int := t.1 * t.2.2.2 - t.2.1 * t.2.2.1
theorem ldT_cp (t : Tab) (c p : Cell) : ldT t (cp c p) = cp (ldT t c) (ldT t p) := by
  unfold ldT cp
  simp only [Prod.mk.injEq]
  constructor <;> grind
theorem ldT_inj {t : Tab} (h : detT t ≠ 0) {c d : Cell} (e : ldT t c = ldT t d) : c = d := by
  obtain ⟨x, y⟩ := c
  obtain ⟨u, v⟩ := d
  unfold ldT at e
  unfold detT at h
  simp only [Prod.mk.injEq] at e ⊢
  obtain ⟨e1, e2⟩ := e
  obtain ⟨p, q, r, s⟩ := t
  simp only at e1 e2 h
  have h1 : (p * s - q * r) * (x - u) = 0 := by grind
  have h2 : (p * s - q * r) * (y - v) = 0 := by grind
  rcases Int.mul_eq_zero.mp h1 with z | z
  · exact absurd z h
  · rcases Int.mul_eq_zero.mp h2 with z' | z'
    · exact absurd z' h
    · omega
theorem bt_led {rows : List (List Cell)} (hne : Ne rows) {t : Tab} (ht : detT t ≠ 0) {is : List Cell} : bt (cpl (ldT t) rows) (osrt (is.map (ldT t))) = osrt ((bt rows is).map (ldT t)) := by
  have nd : ((bt rows is).map (ldT t)).Nodup := List.Pairwise.map _ (fun a b hab e => hab (ldT_inj ht e)) (lt_nodup (bt_srt rows is))
  refine lt_uniq (bt_srt _ _) (osrt_lt nd) fun p => ?_
  rw [(bt_beat (cpl_ne hne) _).mem, mem_osrt, List.mem_map]
  have in_ : ∀ c : Cell, ldT t c ∈ osrt (is.map (ldT t)) ↔ c ∈ is := fun c => by
    rw [mem_osrt, List.mem_map]
    exact ⟨fun ⟨d, hd, e⟩ => by rw [← ldT_inj ht e]; exact hd, fun h => ⟨c, h, rfl⟩⟩
  constructor
  · rintro ⟨s, hs, h⟩
    obtain ⟨r, hr, rfl⟩ := mem_cpl.mp hs
    obtain ⟨c0, r', er⟩ := List.exists_cons_of_ne_nil (hne r hr)
    have h0 := h (ldT t c0) (mem_osrt.mpr (List.mem_map.mpr ⟨c0, by rw [er]; simp, rfl⟩))
    obtain ⟨d, hd, ed⟩ := List.mem_map.mp (mem_osrt.mp h0)
    have ep : p = ldT t (cp d (nb c0)) := by
      have e2 : ldT t d = cp (ldT t c0) (ldT t (cp d (nb c0))) := by
        rw [← ldT_cp]
        congr 1
        obtain ⟨x, y⟩ := d
        unfold cp nb
        simp only [Prod.mk.injEq]
        omega
      rw [e2] at ed
      obtain ⟨x, y⟩ := p
      generalize ldT t c0 = u at ed
      generalize ldT t (cp d (nb c0)) = v at ed ⊢
      obtain ⟨v1, v2⟩ := v
      unfold cp at ed
      simp only [Prod.mk.injEq] at ed ⊢
      omega
    refine ⟨cp d (nb c0), ((bt_beat hne is).mem _).mpr ⟨r, hr, fun c hc => ?_⟩, ep.symm⟩
    have := h (ldT t c) (mem_osrt.mpr (List.mem_map.mpr ⟨c, hc, rfl⟩))
    rw [ep, ← ldT_cp, in_] at this
    exact this
  · rintro ⟨q, hq, rfl⟩
    obtain ⟨r, hr, h⟩ := ((bt_beat hne is).mem _).mp hq
    refine ⟨_, mem_cpl.mpr ⟨r, hr, rfl⟩, fun c hc => ?_⟩
    obtain ⟨d, hd, rfl⟩ := List.mem_map.mp (mem_osrt.mp hc)
    rw [← ldT_cp, in_]
    exact h d hd
theorem rowM_pop {α : Type} : ∀ (cs : List α) (m : Nat), ((List.range cs.length).map fun k => m / 2 ^ k % 2).sum = (rowM cs m).length
  | [], _ => rfl
  | c :: cs, m => by
    have ih := rowM_pop cs (m / 2)
    rw [List.length_cons, List.range_succ_eq_map, List.map_cons, List.sum_cons, List.map_map, Nat.pow_zero, Nat.div_one]
    have e : ((List.range cs.length).map ((fun k => m / 2 ^ k % 2) ∘ Nat.succ)) = (List.range cs.length).map fun k => m / 2 / 2 ^ k % 2 := List.map_congr_left fun k _ => by
      show m / 2 ^ (k + 1) % 2 = _
      rw [Nat.pow_succ, Nat.mul_comm, Nat.div_div_eq_div_mul]
    rw [e, ih]
    conv => rhs; unfold rowM
    split
    · rw [List.length_cons]; omega
    · omega
theorem allOf_rows {cs : List Cell} (srt : cs.Pairwise OD.lt) {ms : List Nat} (nd : ms.Nodup) (hb : ∀ m ∈ ms, m < 2 ^ cs.length) {k : Nat} (hk : 1 ≤ k) (hl : ∀ m ∈ ms, (rowM cs m).length = k) : Rows (osrt (ms.map (rowM cs))) := by
  have row : ∀ r ∈ osrt (ms.map (rowM cs)), ∃ m ∈ ms, rowM cs m = r := fun r hr => List.mem_map.mp (mem_osrt.mp hr)
  refine ⟨osrt_lt ?_, fun r hr => ?_, fun r hr s hs hh => ?_⟩
  · refine List.Pairwise.map _ (R := fun a b => (a ∈ ms ∧ b ∈ ms) ∧ a ≠ b) (fun a b hab e => ?_) (List.Pairwise.imp_of_mem (fun {a b} ha hb hn => ⟨⟨ha, hb⟩, hn⟩) nd)
    exact hab.2 (rowM_inj (lt_nodup srt) _ _ (hb a hab.1.1) (hb b hab.1.2) e)
  · obtain ⟨m, hm, rfl⟩ := row r hr
    exact ⟨List.ne_nil_of_length_pos (by rw [hl m hm]; omega), srt.sublist (rowM_sub cs m)⟩
  · obtain ⟨m, hm, rfl⟩ := row r hr
    obtain ⟨m', hm', rfl⟩ := row s hs
    exact sub_eq (srt.sublist (rowM_sub cs m)) (srt.sublist (rowM_sub cs m')) hh (by rw [hl m hm, hl m' hm']; exact Nat.le_refl _)
end DL

set_option Elab.async false
set_option linter.all false
set_option maxRecDepth 100000
set_option maxHeartbeats 4000000
namespace DL
open PySem PySem.Spec PyProof.Rows L2
def FF (P : List (List Cell)) (S : Cell → Prop) : Prop := ∃ r ∈ P, ∀ c ∈ r, S c
theorem FF_mono {P : List (List Cell)} {S S' : Cell → Prop} (h : ∀ c, S c → S' c) (f : FF P S) : FF P S' := by
  obtain ⟨r, hr, hc⟩ := f
  exact ⟨r, hr, fun c m => h c (hc c m)⟩
theorem rows_ext {P Q : List (List Cell)} (hP : Rows P) (hQ : Rows Q) (h : ∀ S, FF P S ↔ FF Q S) : P = Q := by
  have half : ∀ {P Q : List (List Cell)}, Rows P → Rows Q → (∀ S, FF P S ↔ FF Q S) → ∀ x ∈ P, x ∈ Q := fun {P Q} hP hQ h x hx => by
    obtain ⟨s, hs, h1⟩ := (h (· ∈ x)).mp ⟨x, hx, fun c hc => hc⟩
    obtain ⟨r, hr, h2⟩ := (h (· ∈ s)).mpr ⟨s, hs, fun c hc => hc⟩
    have e := hP.anti r hr x hx fun c hc => h1 c (h2 c hc)
    subst e
    rw [row_eq (hP.row r hr).2 (hQ.row s hs).2 h2 h1]
    exact hs
  exact lt_uniq hP.srt hQ.srt fun x => ⟨half hP hQ h x, half hQ hP (fun S => (h S).symm) x⟩
def leastB (T : Nat → Bool) (n m : Nat) : Bool := T m && !((List.range n).any fun k => decide (m / 2 ^ k % 2 = 1) && T (m ^^^ 2 ^ k))
def whereR (T : Nat → Bool) (cs : List Cell) : List (List Cell) := osrt (((List.range (2 ^ cs.length)).filter (leastB T cs.length)).map (rowM cs))
theorem bit_at (m k : Nat) : m / 2 ^ k % 2 = 1 ↔ m.testBit k = true := by
  rw [Nat.testBit_eq_decide_div_mod_eq, decide_eq_true_iff]
theorem rowM_at {cs : List Cell} (nd : cs.Nodup) {m k : Nat} (hm : m < 2 ^ cs.length) {c : Cell} (h : cs[k]? = some c) : m / 2 ^ k % 2 = 1 ↔ c ∈ rowM cs m := by
  rw [bit_at]
  conv => lhs; rw [← mkM_row nd hm]
  rw [mkM_bit]
  exact ⟨fun ⟨d, h1, h2⟩ => by rw [h] at h1; cases h1; exact h2, fun z => ⟨c, h, z⟩⟩
theorem rowM_xor {cs : List Cell} (nd : cs.Nodup) {m k : Nat} (hm : m < 2 ^ cs.length) {c : Cell} (h : cs[k]? = some c) (hc : c ∈ rowM cs m) : m ^^^ 2 ^ k < 2 ^ cs.length ∧ ∀ d, d ∈ rowM cs (m ^^^ 2 ^ k) ↔ d ∈ rowM cs m ∧ d ≠ c := by
  have e : m ^^^ 2 ^ k = mkM cs ((rowM cs m).filter fun d => decide (d ≠ c)) := by
    conv => lhs; rw [← mkM_row nd hm]
    exact mkM_xor nd h hc
  rw [e]
  refine ⟨mkM_lt _ _, fun d => ?_⟩
  rw [rowM_mk]
  simp only [List.mem_filter, decide_eq_true_eq]
  exact ⟨fun z => z.2, fun z => ⟨mem_rowM z.1, z⟩⟩
structure Law (T : Nat → Bool) (cs : List Cell) (tS : (Cell → Prop) → Prop) : Prop where
  srt : cs.Pairwise OD.lt
  hT : ∀ m, m < 2 ^ cs.length → (T m = true ↔ tS (· ∈ rowM cs m))
  mono : ∀ S S' : Cell → Prop, (∀ c, S c → S' c) → tS S → tS S'
  loc : ∀ S, tS S → tS fun c => S c ∧ c ∈ cs
  none_ : ¬ tS fun _ => False
section
variable {T : Nat → Bool} {cs : List Cell} {tS : (Cell → Prop) → Prop}
theorem Law.least (h : Law T cs tS) {m : Nat} (hm : m < 2 ^ cs.length) : leastB T cs.length m = true ↔ tS (· ∈ rowM cs m) ∧ ∀ c ∈ rowM cs m, ¬ tS fun d => d ∈ rowM cs m ∧ d ≠ c := by
  have nd := lt_nodup h.srt
  unfold leastB
  rw [Bool.and_eq_true, Bool.not_eq_true', List.any_eq_false, h.hT m hm]
  refine and_congr_right fun _ => ⟨fun z c hc t => ?_, fun z k hk => ?_⟩
  · obtain ⟨k, hk⟩ := List.getElem?_of_mem (mem_rowM hc)
    have kl := (List.getElem?_eq_some_iff.mp hk).1
    obtain ⟨x1, x2⟩ := rowM_xor nd hm hk hc
    refine z k (List.mem_range.mpr kl) ?_
    rw [Bool.and_eq_true, decide_eq_true_iff, h.hT _ x1]
    exact ⟨(rowM_at nd hm hk).mpr hc, h.mono _ _ (fun d hd => (x2 d).mpr hd) t⟩
  · have kl := List.mem_range.mp hk
    have ek : cs[k]? = some cs[k] := List.getElem?_eq_getElem kl
    intro y
    rw [Bool.and_eq_true, decide_eq_true_iff] at y
    have hc := (rowM_at nd hm ek).mp y.1
    obtain ⟨x1, x2⟩ := rowM_xor nd hm ek hc
    exact z _ hc (h.mono _ _ (fun d hd => (x2 d).mp hd) ((h.hT _ x1).mp y.2))
theorem Law.mem (h : Law T cs tS) {r : List Cell} : r ∈ whereR T cs ↔ ∃ m, m < 2 ^ cs.length ∧ rowM cs m = r ∧ tS (· ∈ r) ∧ ∀ c ∈ r, ¬ tS fun d => d ∈ r ∧ d ≠ c := by
  unfold whereR
  rw [mem_osrt, List.mem_map]
  constructor
  · rintro ⟨m, hm, rfl⟩
    obtain ⟨h1, h2⟩ := List.mem_filter.mp hm
    have ml := List.mem_range.mp h1
    exact ⟨m, ml, rfl, (h.least ml).mp h2⟩
  · rintro ⟨m, ml, rfl, h2⟩
    exact ⟨m, List.mem_filter.mpr ⟨List.mem_range.mpr ml, (h.least ml).mpr h2⟩, rfl⟩
theorem Law.within (h : Law T cs tS) : ∀ (n m : Nat), m < 2 ^ cs.length → (rowM cs m).length ≤ n → tS (· ∈ rowM cs m) → ∃ r ∈ whereR T cs, ∀ c ∈ r, c ∈ rowM cs m
  | 0, m, hm, hl, t => by
    have e : rowM cs m = [] := List.eq_nil_of_length_eq_zero (by omega)
    rw [e] at t
    exact absurd (h.mono _ _ (fun c hc => nomatch hc) t) h.none_
  | n + 1, m, hm, hl, t => by
    by_cases z : ∃ c ∈ rowM cs m, tS fun d => d ∈ rowM cs m ∧ d ≠ c
    · obtain ⟨c, hc, tc⟩ := z
      obtain ⟨k, hk⟩ := List.getElem?_of_mem (mem_rowM hc)
      obtain ⟨x1, x2⟩ := rowM_xor (lt_nodup h.srt) hm hk hc
      have nd1 := rowM_nd (lt_nodup h.srt) (m ^^^ 2 ^ k)
      have lt : (rowM cs (m ^^^ 2 ^ k)).length < (rowM cs m).length := by
        have := sub_len (r := c :: rowM cs (m ^^^ 2 ^ k)) (s := rowM cs m) (List.nodup_cons.mpr ⟨fun z => ((x2 c).mp z).2 rfl, nd1⟩) fun d hd => by
          rcases List.mem_cons.mp hd with y | y
          · rw [y]; exact hc
          · exact ((x2 d).mp y).1
        rw [List.length_cons] at this
        omega
      obtain ⟨r, h1, h2⟩ := Law.within h n _ x1 (by omega) (h.mono _ _ (fun d hd => (x2 d).mpr hd) tc)
      exact ⟨r, h1, fun d hd => ((x2 d).mp (h2 d hd)).1⟩
    · exact ⟨_, h.mem.mpr ⟨m, hm, rfl, t, fun c hc tc => z ⟨c, hc, tc⟩⟩, fun c hc => hc⟩
theorem Law.ff (h : Law T cs tS) (S : Cell → Prop) : FF (whereR T cs) S ↔ tS S := by
  constructor
  · rintro ⟨r, hr, hc⟩
    obtain ⟨m, hm, rfl, t, _⟩ := h.mem.mp hr
    exact h.mono _ _ hc t
  · intro t
    classical
    have t2 := h.loc S t
    obtain ⟨m, hm, e⟩ := rowM_of (fun c => decide (S c)) cs
    have t3 : tS (· ∈ rowM cs m) := h.mono _ _ (fun c hc => by rw [e]; exact List.mem_filter.mpr ⟨hc.2, decide_eq_true hc.1⟩) t2
    obtain ⟨r, h1, h2⟩ := h.within _ m hm (Nat.le_refl _) t3
    refine ⟨r, h1, fun c hc => ?_⟩
    have := h2 c hc
    rw [e] at this
    exact of_decide_eq_true (List.mem_filter.mp this).2
theorem Law.rows (h : Law T cs tS) : Rows (whereR T cs) := by
  have nd := lt_nodup h.srt
  refine ⟨osrt_lt ?_, fun r hr => ?_, fun r hr s hs hh => ?_⟩
  · refine List.Pairwise.map _ (R := fun a b => (a < 2 ^ cs.length ∧ b < 2 ^ cs.length) ∧ a ≠ b) (fun a b hab e => hab.2 (rowM_inj nd _ _ hab.1.1 hab.1.2 e)) (List.Pairwise.imp_of_mem (fun {a b} ha hb hn => ⟨⟨List.mem_range.mp (List.mem_filter.mp ha).1, List.mem_range.mp (List.mem_filter.mp hb).1⟩, hn⟩) (List.nodup_range.filter _))
  · obtain ⟨m, hm, rfl, t, _⟩ := h.mem.mp hr
    refine ⟨fun e => ?_, h.srt.sublist (rowM_sub cs m)⟩
    rw [e] at t
    exact h.none_ (h.mono _ _ (fun c hc => nomatch hc) t)
  · obtain ⟨m, hm, rfl, t, _⟩ := h.mem.mp hr
    obtain ⟨m', hm', rfl, t', l⟩ := h.mem.mp hs
    refine row_eq (h.srt.sublist (rowM_sub cs m)) (h.srt.sublist (rowM_sub cs m')) hh fun c hc => Classical.byContradiction fun n => ?_
    exact l c hc (h.mono _ _ (fun d hd => ⟨hh d hd, fun e => n (e ▸ hd)⟩) t)
theorem Law.sub (h : Law T cs tS) : ∀ r ∈ whereR T cs, ∀ c ∈ r, c ∈ cs := fun r hr c hc => by
  obtain ⟨m, hm, rfl, _⟩ := h.mem.mp hr
  exact mem_rowM hc
theorem where_len (T : Nat → Bool) (cs : List Cell) : (whereR T cs).length ≤ 2 ^ cs.length := by
  unfold whereR
  rw [osrt_len, List.length_map]
  refine Nat.le_trans (List.length_filter_le _ _) ?_
  rw [List.length_range]
  exact Nat.le_refl _
end
def exT (P : List (List Cell)) (m : Nat) : Bool := P.all fun r => decide (m &&& mkM (cellsR P) r ≠ 0)
def exC (P : List (List Cell)) : List (List Cell) := whereR (exT P) (cellsR P)
def exS (P : List (List Cell)) (S : Cell → Prop) : Prop := ∀ r ∈ P, ∃ c ∈ r, S c
theorem ex_law {P : List (List Cell)} (hne : P ≠ []) : Law (exT P) (cellsR P) (exS P) := by
  have srt : (cellsR P).Pairwise OD.lt := osrtU_srt _
  have nd := lt_nodup srt
  have sub : ∀ r ∈ P, ∀ c ∈ r, c ∈ cellsR P := fun r hr c hc => mem_cellsR.mpr ⟨r, hr, hc⟩
  refine ⟨srt, fun m hm => ?_, fun S S' hS h r hr => ?_, fun S h r hr => ?_, fun h => ?_⟩
  · unfold exT exS
    rw [List.all_eq_true]
    refine forall_congr' fun r => forall_congr' fun hr => ?_
    rw [decide_eq_true_iff]
    conv => lhs; rw [← mkM_row nd hm]
    rw [ne_eq, mkM_and0]
    constructor
    · intro z
      refine Classical.byContradiction fun n => z fun c hc h1 h2 => n ⟨c, h2, h1⟩
    · rintro ⟨c, h1, h2⟩ z
      exact z c (sub r hr c h1) h2 h1
  · obtain ⟨c, h1, h2⟩ := h r hr
    exact ⟨c, h1, hS c h2⟩
  · obtain ⟨c, h1, h2⟩ := h r hr
    exact ⟨c, h1, h2, sub r hr c h1⟩
  · obtain ⟨r, P', e⟩ := List.exists_cons_of_ne_nil hne
    obtain ⟨c, _, z⟩ := h r (by rw [e]; simp)
    exact z
theorem exC_rows {P : List (List Cell)} (hne : P ≠ []) : Rows (exC P) := (ex_law hne).rows
theorem exC_ff {P : List (List Cell)} (hne : P ≠ []) (S : Cell → Prop) : FF (exC P) S ↔ exS P S := (ex_law hne).ff S
theorem exC_ne {P : List (List Cell)} (hne : P ≠ []) (hr : ∀ r ∈ P, r ≠ []) : exC P ≠ [] := fun e => by
  have : FF (exC P) fun _ => True := (exC_ff hne _).mpr fun r h => by
    obtain ⟨c, r', er⟩ := List.exists_cons_of_ne_nil (hr r h)
    exact ⟨c, by rw [er]; simp, trivial⟩
  rw [e] at this
  obtain ⟨r, hr, _⟩ := this
  exact nomatch hr
def behS (a b : List (List Cell)) (S : Cell → Prop) : Prop := FF b fun p => FF a fun c => S (cp c p)
def togR (a b : List (List Cell)) : List (List Cell) := (cellsR b).flatMap fun p => cpl (cpb p) a
def behT (a b : List (List Cell)) (m : Nat) : Bool := b.any fun row => row.all fun p => (cpl (cpb p) a).any fun r => decide (mkM (cellsR (togR a b)) r &&& m = mkM (cellsR (togR a b)) r)
def behC (a b : List (List Cell)) : List (List Cell) := whereR (behT a b) (cellsR (togR a b))
theorem mem_tog {a b : List (List Cell)} {c : Cell} : c ∈ cellsR (togR a b) ↔ ∃ p ∈ cellsR b, ∃ d ∈ cellsR a, c = cp d p := by
  rw [mem_cellsR]
  unfold togR
  constructor
  · rintro ⟨r, hr, hc⟩
    obtain ⟨p, hp, h1⟩ := List.mem_flatMap.mp hr
    obtain ⟨s, hs, rfl⟩ := mem_cpl.mp h1
    obtain ⟨d, hd, rfl⟩ := List.mem_map.mp (mem_osrt.mp hc)
    exact ⟨p, hp, d, mem_cellsR.mpr ⟨s, hs, hd⟩, rfl⟩
  · rintro ⟨p, hp, d, hd, rfl⟩
    obtain ⟨s, hs, h1⟩ := mem_cellsR.mp hd
    exact ⟨_, List.mem_flatMap.mpr ⟨p, hp, mem_cpl.mpr ⟨s, hs, rfl⟩⟩, mem_osrt.mpr (List.mem_map.mpr ⟨d, h1, rfl⟩)⟩
theorem beh_law {a b : List (List Cell)} (ha : Ne a) (hb : Ne b) : Law (behT a b) (cellsR (togR a b)) (behS a b) := by
  have srt : (cellsR (togR a b)).Pairwise OD.lt := osrtU_srt _
  have nd := lt_nodup srt
  have sub : ∀ row ∈ b, ∀ p ∈ row, ∀ r ∈ a, ∀ c ∈ r, cp c p ∈ cellsR (togR a b) := fun row h1 p h2 r h3 c h4 => mem_tog.mpr ⟨p, mem_cellsR.mpr ⟨row, h1, h2⟩, c, mem_cellsR.mpr ⟨r, h3, h4⟩, rfl⟩
  refine ⟨srt, fun m hm => ?_, fun S S' hS h => ?_, fun S h => ?_, fun h => ?_⟩
  · unfold behT behS FF
    rw [List.any_eq_true]
    refine exists_congr fun row => and_congr_right fun hrow => ?_
    rw [List.all_eq_true]
    refine forall_congr' fun p => forall_congr' fun hp => ?_
    rw [List.any_eq_true]
    constructor
    · rintro ⟨s, hs, e⟩
      obtain ⟨r, hr, rfl⟩ := mem_cpl.mp hs
      refine ⟨r, hr, fun c hc => ?_⟩
      rw [decide_eq_true_iff] at e
      conv at e => lhs; rhs; rw [← mkM_row nd hm]
      exact mkM_and.mp e _ (sub row hrow p hp r hr c hc) (mem_osrt.mpr (List.mem_map.mpr ⟨c, hc, rfl⟩))
    · rintro ⟨r, hr, h⟩
      refine ⟨_, mem_cpl.mpr ⟨r, hr, rfl⟩, ?_⟩
      rw [decide_eq_true_iff]
      conv => lhs; rhs; rw [← mkM_row nd hm]
      refine mkM_and.mpr fun d _ hd => ?_
      obtain ⟨c, hc, rfl⟩ := List.mem_map.mp (mem_osrt.mp hd)
      exact h c hc
  · exact FF_mono (fun p z => FF_mono (fun c y => hS _ y) z) h
  · obtain ⟨row, h1, h2⟩ := h
    refine ⟨row, h1, fun p hp => ?_⟩
    obtain ⟨r, h3, h4⟩ := h2 p hp
    exact ⟨r, h3, fun c hc => ⟨h4 c hc, sub row h1 p hp r h3 c hc⟩⟩
  · obtain ⟨row, h1, h2⟩ := h
    obtain ⟨p, row', er⟩ := List.exists_cons_of_ne_nil (hb row h1)
    obtain ⟨r, h3, h4⟩ := h2 p (by rw [er]; simp)
    obtain ⟨c, r', er2⟩ := List.exists_cons_of_ne_nil (ha r h3)
    exact h4 c (by rw [er2]; simp)
theorem behC_rows {a b : List (List Cell)} (ha : Ne a) (hb : Ne b) : Rows (behC a b) := (beh_law ha hb).rows
theorem behC_ff {a b : List (List Cell)} (ha : Ne a) (hb : Ne b) (S : Cell → Prop) : FF (behC a b) S ↔ behS a b S := (beh_law ha hb).ff S
theorem Rows.ne {P : List (List Cell)} (h : Rows P) : Ne P := fun r hr => (h.row r hr).1
theorem behC_ne {a b : List (List Cell)} (ha : Ne a) (hb : Ne b) (a0 : a ≠ []) (b0 : b ≠ []) : behC a b ≠ [] := fun e => by
  have : FF (behC a b) fun _ => True := (behC_ff ha hb _).mpr (by
    obtain ⟨row, b', eb⟩ := List.exists_cons_of_ne_nil b0
    obtain ⟨r, a', ea⟩ := List.exists_cons_of_ne_nil a0
    exact ⟨row, by rw [eb]; simp, fun p _ => ⟨r, by rw [ea]; simp, fun _ _ => trivial⟩⟩)
  rw [e] at this
  obtain ⟨r, hr, _⟩ := this
  exact nomatch hr
def dIsB (x y : D) (R : D → Prop) : Prop := match x, y with
  | .bl a, .bl b => R (.bl (decide (a = b)))
  | _, _ => False
def dNotB (x y : D) (R : D → Prop) : Prop := match x, y with
  | .bl a, .bl b => R (.bl (!decide (a = b)))
  | _, _ => False
theorem c_isB {K : PySem.W.Frag} : C2 K rIsB .strong dIsB := fun c own A σ ρ H v w d e R Q hk E r1 r2 g q => by
  cases d with
  | bl a =>
    cases e with
    | bl b =>
      have e1 := RepW.bl r1
      have e2 := RepW.bl r2
      subst e1; subst e2
      exact ⟨a, b, rfl, rfl, q c _ H _ (Step.refl E.fok) (.bl _) g⟩
    | _ => exact g.elim
  | _ => cases e <;> exact g.elim
theorem c_notB {K : PySem.W.Frag} : C2 K rNotB .strong dNotB := fun c own A σ ρ H v w d e R Q hk E r1 r2 g q => by
  cases d with
  | bl a =>
    cases e with
    | bl b =>
      have e1 := RepW.bl r1
      have e2 := RepW.bl r2
      subst e1; subst e2
      exact ⟨a, b, rfl, rfl, q c _ H _ (Step.refl E.fok) (.bl _) g⟩
    | _ => exact g.elim
  | _ => cases e <;> exact g.elim
theorem x_isB {a b : Bool} {R : D → Prop} : dIsB (.bl a) (.bl b) R = R (.bl (decide (a = b))) := propext Iff.rfl
theorem x_notB {a b : Bool} {R : D → Prop} : dNotB (.bl a) (.bl b) R = R (.bl (!decide (a = b))) := propext Iff.rfl
end DL

set_option Elab.async false
set_option linter.all false
set_option maxRecDepth 100000
set_option maxHeartbeats 4000000
namespace PySem
open PyProof.Rows
theorem list_extend_tupAny (l : Addr) (items : Array Value) (n : Nat) (b : Addr) (items2 : Array Value) (hs0 : ¬(!items.isEmpty && Builtin.List.listTooLong (items.size + items2.size)) = true) (hs1 : items.size ≤ sizeLine) (hs2 : items.size + items2.size ≤ sizeLine + 1 := by seq_fits) :
    Meets (Builtin.«list.extend» ⟨[.ref l, .ref b], []⟩) (fun _ R s => s.heap.get? l = some { cls := .type "list", dict := none, data := .seq items n, slots := #[] } ∧ IsTup s.heap b items2 ∧ R (.ok (.ret Value.none)) { s with heap := s.heap.update l (Obj.mapSeq fun x => x ++ items2), toks := s.toks }) :=
  .of_wp fun prog w A R s h => by
    obtain ⟨hl, ⟨o, ho, hc, k, hd⟩, h⟩ := h
    show wpAny _ A.in1 (Builtin.List.listExtendWith (.ref l) (.ref b) .none) _ _ s
    unfold Builtin.List.listExtendWith
    refine wpAny_bind (wpAny_typeOf ⟨o, ho, hc⟩ ?_)
    have h1 : (Builtin.List.listSameRef (.ref l) (.ref b) || Value.type "tuple" == Value.type "list" || Value.type "tuple" == Value.type "tuple") = true := by
      simp
    simp only [h1, if_true]
    refine wpAny_bind ?_
    unfold Builtin.List.listItems
    refine wpAny_bind (wpAny_seqItems ho hd (wpAny_pure ?_))
    refine wpAny_bind ?_
    refine wpAny_bind (wpAny_seqItems hl rfl (wpAny_pure ?_))
    rw [if_neg hs0]
    have hz' : (items ++ items2).size ≤ sizeLine + 1 := by rw [Array.size_append]; exact hs2
    show wpAny _ A.in1 (updateSeq l (· ++ items2) >>= fun _ => ret Value.none) _ _ s
    refine wpAny_bind (wpAny_updateSeq hl rfl ?_ (hz := hs1) (_hz' := hz'))
    exact wpAny_pure ⟨_, rfl, h⟩
end PySem
namespace DL
open PySem PySem.Spec PyProof.Rows L2
def rExtT (K : PySem.W.Frag) : V → List V → Hp → VK → Prop := fun x vs H Q => ∃ l b xs zs, x = .ref l ∧ vs = [.ref b] ∧ H l = some (.lst xs) ∧ (H b = some (.lst zs) ∨ SqT K H b zs) ∧ xs.length + zs.length ≤ sizeLine ∧ Q .non (upd H l (.lst (xs ++ zs)))
section
variable {X : Cx}
theorem mt_extT : MtM X "list.extend" (rExtT X.K) := by
  intro pins s σ H x vs v us Q I rx rv h
  obtain ⟨l, b, xs, zs, rfl, rfl, hH, hB | hB, hz, q⟩ := h
  · exact mt_extend _ _ _ _ _ _ _ _ _ I rx rv ⟨l, b, xs, zs, rfl, rfl, hH, hB, hz, q⟩
  cases rx
  obtain ⟨u, rfl, ru⟩ := rv.one
  cases ru
  obtain ⟨z, its, n, r, hl, e⟩ := I.lstM hH
  obtain ⟨its2, r2, e2, hl2⟩ := I.tuple hB
  have hq2 : zs.length = its2.length := r2.length
  have hsz : its.toArray.size + its2.toArray.size ≤ sizeLine := by rw [List.size_toArray, List.size_toArray]; omega
  have hlong : ¬ (!its.toArray.isEmpty && Builtin.List.listTooLong (its.toArray.size + its2.toArray.size)) = true := by
    rw [notLongL hsz, Bool.and_false]
    exact Bool.false_ne_true
  refine call_meets F.slot_list_extend ⟨_, e, rfl⟩ F.entry_list_extend (F.args_list_extend_2 _ _)
    (list_extend_tupAny l its.toArray n b its2.toArray hlong (by rw [List.size_toArray]; omega) (by omega)) ⟨e, e2, ?_⟩
  refine ⟨.non, _, I.lset (its' := its ++ its2) hH e (by simp) (r.append r2) ?_, rfl, q⟩
  rw [List.length_append]
  omega
end
section
variable {X : Cx} {own : List Nat} {fr : Bool} {ko : Kd} {pe : TED}
def sExtA (i : Nat) (pe : TED) : TSD := fun DD ρ => ownL ρ i fun ds => pe ρ fun d => dSeq d fun es => ds.length + es.length ≤ sizeLine ∧ DD.nx (ρ.set i (some (.lst (ds ++ es))))
theorem lift_extA (K : PySem.W.Frag) {i : Nat} (hi : i ∈ own) : ∀ D σ H, liftS K own fr ko (sExtA i pe) D σ H → tDrop (tBM K "list" (rExtT K) (tVar i) (tCons (lift K own .weak pe) tNil)) D σ H := by
  intro D σ H ⟨c0, H0, A, c, ρ, DD, hk, t, E, F, h, z⟩
  obtain ⟨ds, e, h⟩ := ownL_iff h
  obtain ⟨a, vs, h1, h2, h3, h4, h5⟩ := ownL_at E hi e
  refine ⟨.ref a, h1, .inl ⟨rfl, _, SqL.of h4⟩, c, A, ρ, _, hk, E, h, fun c1 v H1 d t1 r1 g1 => ?_⟩
  obtain ⟨es, hd, hz, g1⟩ := dSeq_iff g1
  have r5 := RepL.step E t1 h5
  have ek := t1.kk.trans hk
  have key : ∃ b us, v = .ref b ∧ (H1 b = some (.lst us) ∨ SqT K H1 b us) ∧ RepL c1 (Avd c1 own A σ ρ) H1 us es := by
    rcases hd with rfl | rfl
    · obtain ⟨b, us, rfl, z1, hb, rl⟩ := RepW.lst r1
      exact ⟨b, us, rfl, .inl hb, rl⟩
    · obtain ⟨b, us, rfl, hb, rl, _⟩ := RepW.tupK r1
      rw [ek] at hb
      exact ⟨b, us, rfl, .inr hb, rl⟩
  obtain ⟨b, us, rfl, hb, rl⟩ := key
  have hl : vs.length + us.length ≤ sizeLine := by rw [h5.len, rl.len]; exact hz
  exact ⟨a, b, vs, us, rfl, rfl, t1.keep a _ h2 h4, hb, hl, lst_mut z.nx ek (t.trans t1) (E.step t1) F hi e h1 (t1.notS h4 h2) (by rw [List.length_append]; exact hl) (r5.append rl) g1⟩
theorem s_extA (i : Nat) {st : Stmt} (h : PS X st (tDrop (tBM X.K "list" (rExtT X.K) (tVar i) (tCons (lift X.K own .weak pe) tNil)))) (hi : i ∈ own := by decide) : PS X st (liftS X.K own fr ko (sExtA i pe)) := ps_imp h (lift_extA _ hi)
end
section
variable {i : Nat} {a : TED} {DD : DEnds} {ρ : PEnv}
theorem x_extA : sExtA i a DD ρ = ownL ρ i fun ds => a ρ fun d => dSeq d fun es => ds.length + es.length ≤ sizeLine ∧ DD.nx (ρ.set i (some (.lst (ds ++ es)))) := propext Iff.rfl
end
end DL

set_option Elab.async false
set_option linter.all false
set_option maxRecDepth 100000
set_option maxHeartbeats 4000000
namespace DL
open PySem PySem.Spec PyProof.Rows L2
theorem FF_cpl {f : Cell → Cell} {P : List (List Cell)} {S : Cell → Prop} : FF (cpl f P) S ↔ FF P fun c => S (f c) := by
  constructor
  · rintro ⟨s, hs, h⟩
    obtain ⟨r, hr, rfl⟩ := mem_cpl.mp hs
    exact ⟨r, hr, fun c hc => h _ (mem_osrt.mpr (List.mem_map.mpr ⟨c, hc, rfl⟩))⟩
  · rintro ⟨r, hr, h⟩
    refine ⟨_, mem_cpl.mpr ⟨r, hr, rfl⟩, fun d hd => ?_⟩
    obtain ⟨c, hc, rfl⟩ := List.mem_map.mp (mem_osrt.mp hd)
    exact h c hc
theorem exS_FF {P : List (List Cell)} {S : Cell → Prop} : exS P S ↔ ¬ FF P fun c => ¬ S c := by
  constructor
  · rintro h ⟨r, hr, hc⟩
    obtain ⟨c, h1, h2⟩ := h r hr
    exact hc c h1 h2
  · intro h r hr
    refine Classical.byContradiction fun n => h ⟨r, hr, fun c hc hs => n ⟨c, hc, hs⟩⟩
theorem FF_congr {P : List (List Cell)} {S S' : Cell → Prop} (h : ∀ c, S c ↔ S' c) : FF P S ↔ FF P S' := ⟨FF_mono fun c => (h c).mp, FF_mono fun c => (h c).mpr⟩
theorem cells_cpl {f : Cell → Cell} {P : List (List Cell)} {c : Cell} : c ∈ cellsR (cpl f P) ↔ ∃ d ∈ cellsR P, c = f d := by
  rw [mem_cellsR]
  constructor
  · rintro ⟨s, hs, hc⟩
    obtain ⟨r, hr, rfl⟩ := mem_cpl.mp hs
    obtain ⟨d, hd, rfl⟩ := List.mem_map.mp (mem_osrt.mp hc)
    exact ⟨d, mem_cellsR.mpr ⟨r, hr, hd⟩, rfl⟩
  · rintro ⟨d, hd, rfl⟩
    obtain ⟨r, hr, hd⟩ := mem_cellsR.mp hd
    exact ⟨_, mem_cpl.mpr ⟨r, hr, rfl⟩, mem_osrt.mpr (List.mem_map.mpr ⟨d, hd, rfl⟩)⟩
theorem cells_ex {P : List (List Cell)} (h0 : P ≠ []) {c : Cell} (h : c ∈ cellsR (exC P)) : c ∈ cellsR P := by
  obtain ⟨r, hr, hc⟩ := mem_cellsR.mp h
  exact (ex_law h0).sub r hr c hc
theorem cells_beh {a b : List (List Cell)} (ha : Ne a) (hb : Ne b) {c : Cell} (h : c ∈ cellsR (behC a b)) : c ∈ cellsR (togR a b) := by
  obtain ⟨r, hr, hc⟩ := mem_cellsR.mp h
  exact (beh_law ha hb).sub r hr c hc
theorem card_le {A B : List Cell} (f : Cell → Cell) (nd : A.Nodup) (h : ∀ a ∈ A, ∃ b ∈ B, a = f b) : A.length ≤ B.length := by
  have := sub_len (s := B.map f) nd fun a ha => by
    obtain ⟨b, hb, rfl⟩ := h a ha
    exact List.mem_map.mpr ⟨b, hb, rfl⟩
  rwa [List.length_map] at this
theorem cells_nd (P : List (List Cell)) : (cellsR P).Nodup := lt_nodup (osrtU_srt _)
theorem beh_cpl {f g h : Cell → Cell} {a b : List (List Cell)} (ra : Rows a) (rb : Rows b) (hf : ∀ c d, f c = f d → c = d) (hg : ∀ c d, g c = g d → c = d) (hh : ∀ c d, h c = h d → c = d) (e : ∀ c p, cp (f c) (g p) = h (cp c p)) : behC (cpl f a) (cpl g b) = cpl h (behC a b) := by
  refine rows_ext (behC_rows (cpl_rows ra hf).ne (cpl_rows rb hg).ne) (cpl_rows (behC_rows ra.ne rb.ne) hh) fun S => ?_
  rw [behC_ff (cpl_rows ra hf).ne (cpl_rows rb hg).ne, FF_cpl, behC_ff ra.ne rb.ne]
  unfold behS
  rw [FF_cpl]
  refine FF_congr fun p => ?_
  rw [FF_cpl]
  exact FF_congr fun c => by rw [e]
theorem beh_ex {a b : List (List Cell)} (ra : Rows a) (rb : Rows b) (a0 : a ≠ []) (b0 : b ≠ []) : behC (exC a) (exC b) = exC (behC a b) := by
  have c0 := behC_ne ra.ne rb.ne a0 b0
  refine rows_ext (behC_rows (exC_rows a0).ne (exC_rows b0).ne) (exC_rows c0) fun S => ?_
  rw [behC_ff (exC_rows a0).ne (exC_rows b0).ne, exC_ff c0, exS_FF, behC_ff ra.ne rb.ne]
  unfold behS
  rw [exC_ff b0, exS_FF]
  refine not_congr (FF_congr fun p => ?_)
  rw [exC_ff a0, exS_FF, Classical.not_not]
theorem cp_assoc (a b c : Cell) : cp (cp a b) c = cp a (cp b c) := by
  unfold cp
  simp only [Prod.mk.injEq]
  omega
theorem beh_assoc {a b c : List (List Cell)} (ra : Rows a) (rb : Rows b) (rc : Rows c) : behC (behC a b) c = behC a (behC b c) := by
  have rab := behC_rows ra.ne rb.ne
  have rbc := behC_rows rb.ne rc.ne
  refine rows_ext (behC_rows rab.ne rc.ne) (behC_rows ra.ne rbc.ne) fun S => ?_
  rw [behC_ff rab.ne rc.ne, behC_ff ra.ne rbc.ne]
  unfold behS
  rw [behC_ff rb.ne rc.ne]
  unfold behS
  refine FF_congr fun p => ?_
  rw [behC_ff ra.ne rb.ne]
  unfold behS
  refine FF_congr fun q => FF_congr fun r => ?_
  show S (cp (cp r q) p) ↔ _
  rw [cp_assoc]
theorem beh_worse1 {a a' b : List (List Cell)} (ra : Ne a) (ra' : Ne a') (rb : Ne b) (h : ∀ S, FF a S → FF a' S) : ∀ S, FF (behC a b) S → FF (behC a' b) S := fun S hS => by
  rw [behC_ff ra' rb]
  rw [behC_ff ra rb] at hS
  exact FF_mono (fun p hp => h _ hp) hS
theorem beh_worse2 {a b b' : List (List Cell)} (ra : Ne a) (rb : Ne b) (rb' : Ne b') (h : ∀ S, FF b S → FF b' S) : ∀ S, FF (behC a b) S → FF (behC a b') S := fun S hS => by
  rw [behC_ff ra rb']
  rw [behC_ff ra rb] at hS
  exact h _ hS
structure Sm (P : List (List Cell)) : Prop extends Rows P where
  ne : P ≠ []
  len : P.length ≤ 300
  cel : (cellsR P).length ≤ 8
theorem Sm.rlen {P : List (List Cell)} (h : Sm P) : ∀ r ∈ P, r.length ≤ 8 := fun r hr => Nat.le_trans (sub_len (lt_nodup (h.row r hr).2) fun c hc => mem_cellsR.mpr ⟨r, hr, hc⟩) h.cel
theorem Sm.beh {a b : List (List Cell)} (ha : Sm a) (hb : Sm b) (hs : (cellsR (togR a b)).length ≤ 8) : Sm (behC a b) := by
  refine ⟨behC_rows ha.toRows.ne hb.toRows.ne, behC_ne ha.toRows.ne hb.toRows.ne ha.ne hb.ne, ?_, Nat.le_trans (sub_len (cells_nd _) fun c hc => cells_beh ha.toRows.ne hb.toRows.ne hc) hs⟩
  have := where_len (behT a b) (cellsR (togR a b))
  have : 2 ^ (cellsR (togR a b)).length ≤ 2 ^ 8 := Nat.pow_le_pow_right (by decide) hs
  unfold behC
  omega
theorem Sm.ex {a : List (List Cell)} (ha : Sm a) : Sm (exC a) := by
  refine ⟨exC_rows ha.ne, exC_ne ha.ne ha.toRows.ne, ?_, Nat.le_trans (sub_len (cells_nd _) fun c hc => cells_ex ha.ne hc) ha.cel⟩
  have := where_len (exT a) (cellsR a)
  have : 2 ^ (cellsR a).length ≤ 2 ^ 8 := Nat.pow_le_pow_right (by decide) ha.cel
  unfold exC
  omega
theorem Sm.cpl {a : List (List Cell)} (ha : Sm a) {f : Cell → Cell} (hf : ∀ c d, f c = f d → c = d) : Sm (DL.cpl f a) := by
  refine ⟨cpl_rows ha.toRows hf, fun e => ?_, by rw [cpl_len]; exact ha.len, Nat.le_trans (card_le f (cells_nd _) fun c hc => cells_cpl.mp hc) ha.cel⟩
  have := cpl_len f a
  rw [e] at this
  exact ha.ne (List.length_eq_zero_iff.mp this.symm)
def sumS (S : List Cell) (P : List (List Cell)) : List Cell := osrtU (P.flatten.flatMap fun c => S.map fun e => cp c e)
def sumsF (Ps : List (List (List Cell))) : List Cell := Ps.foldl sumS [(0, 0)]
theorem mem_sumS {S : List Cell} {P : List (List Cell)} {d : Cell} : d ∈ sumS S P ↔ ∃ c ∈ cellsR P, ∃ e ∈ S, d = cp c e := by
  unfold sumS
  rw [mem_osrtU, List.mem_flatMap]
  constructor
  · rintro ⟨c, hc, h⟩
    obtain ⟨e, he, rfl⟩ := List.mem_map.mp h
    obtain ⟨r, hr, h1⟩ := List.mem_flatten.mp hc
    exact ⟨c, mem_cellsR.mpr ⟨r, hr, h1⟩, e, he, rfl⟩
  · rintro ⟨c, hc, e, he, rfl⟩
    obtain ⟨r, hr, h1⟩ := mem_cellsR.mp hc
    exact ⟨c, List.mem_flatten.mpr ⟨r, hr, h1⟩, List.mem_map.mpr ⟨e, he, rfl⟩⟩
theorem cp_zero (c : Cell) : cp c (0, 0) = c := by
  obtain ⟨x, y⟩ := c
  unfold cp
  simp
theorem cp_comm (c d : Cell) : cp c d = cp d c := by
  unfold cp
  simp only [Prod.mk.injEq]
  omega
theorem mem_sums2 {a b : List (List Cell)} {d : Cell} : d ∈ sumsF [a, b] ↔ ∃ x ∈ cellsR a, ∃ y ∈ cellsR b, d = cp x y := by
  show d ∈ sumS (sumS [(0, 0)] a) b ↔ _
  rw [mem_sumS]
  constructor
  · rintro ⟨y, hy, e, he, rfl⟩
    obtain ⟨x, hx, z, hz, rfl⟩ := mem_sumS.mp he
    rw [List.mem_singleton] at hz
    subst hz
    exact ⟨x, hx, y, hy, by rw [cp_zero, cp_comm]⟩
  · rintro ⟨x, hx, y, hy, rfl⟩
    exact ⟨y, hy, x, mem_sumS.mpr ⟨x, hx, (0, 0), by simp, (cp_zero x).symm⟩, cp_comm _ _⟩
theorem mem_sums3 {a b c : List (List Cell)} {d : Cell} : d ∈ sumsF [a, b, c] ↔ ∃ x ∈ cellsR a, ∃ y ∈ cellsR b, ∃ z ∈ cellsR c, d = cp (cp x y) z := by
  show d ∈ sumS (sumsF [a, b]) c ↔ _
  rw [mem_sumS]
  constructor
  · rintro ⟨z, hz, e, he, rfl⟩
    obtain ⟨x, hx, y, hy, rfl⟩ := mem_sums2.mp he
    exact ⟨x, hx, y, hy, z, hz, cp_comm _ _⟩
  · rintro ⟨x, hx, y, hy, z, hz, rfl⟩
    exact ⟨z, hz, _, mem_sums2.mpr ⟨x, hx, y, hy, rfl⟩, cp_comm _ _⟩
theorem few_tog {a b : List (List Cell)} (h : (sumsF [a, b]).length < 9) : (cellsR (togR a b)).length ≤ 8 := by
  have := sub_len (s := sumsF [a, b]) (cells_nd (togR a b)) fun c hc => by
    obtain ⟨p, hp, d, hd, rfl⟩ := mem_tog.mp hc
    exact mem_sums2.mpr ⟨d, hd, p, hp, rfl⟩
  omega
theorem few_swap {a b : List (List Cell)} (h : (sumsF [a, b]).length < 9) : (cellsR (togR b a)).length ≤ 8 := by
  have := sub_len (s := sumsF [a, b]) (cells_nd (togR b a)) fun c hc => by
    obtain ⟨p, hp, d, hd, rfl⟩ := mem_tog.mp hc
    exact mem_sums2.mpr ⟨p, hp, d, hd, cp_comm _ _⟩
  omega
theorem few_l {a b c : List (List Cell)} (ha : Ne a) (hb : Ne b) (h : (sumsF [a, b, c]).length < 9) : (cellsR (togR (behC a b) c)).length ≤ 8 := by
  have := sub_len (s := sumsF [a, b, c]) (cells_nd (togR (behC a b) c)) fun q hq => by
    obtain ⟨z, hz, d, hd, rfl⟩ := mem_tog.mp hq
    obtain ⟨y, hy, x, hx, rfl⟩ := mem_tog.mp (cells_beh ha hb hd)
    exact mem_sums3.mpr ⟨x, hx, y, hy, z, hz, rfl⟩
  omega
theorem few_r {a b c : List (List Cell)} (hb : Ne b) (hc : Ne c) (h : (sumsF [a, b, c]).length < 9) : (cellsR (togR a (behC b c))).length ≤ 8 := by
  have := sub_len (s := sumsF [a, b, c]) (cells_nd (togR a (behC b c))) fun q hq => by
    obtain ⟨d, hd, x, hx, rfl⟩ := mem_tog.mp hq
    obtain ⟨z, hz, y, hy, rfl⟩ := mem_tog.mp (cells_beh hb hc hd)
    exact mem_sums3.mpr ⟨x, hx, y, hy, z, hz, (cp_assoc _ _ _).symm⟩
  omega
theorem tog_cpl {f g h : Cell → Cell} {a b : List (List Cell)} (e : ∀ c p, cp (f c) (g p) = h (cp c p)) (hs : (cellsR (togR a b)).length ≤ 8) : (cellsR (togR (cpl f a) (cpl g b))).length ≤ 8 :=
  Nat.le_trans (card_le h (cells_nd _) fun q hq => by
    obtain ⟨p, hp, d, hd, rfl⟩ := mem_tog.mp hq
    obtain ⟨p', hp', rfl⟩ := cells_cpl.mp hp
    obtain ⟨d', hd', rfl⟩ := cells_cpl.mp hd
    exact ⟨_, mem_tog.mpr ⟨p', hp', d', hd', rfl⟩, e _ _⟩) hs
theorem tog_ex {a b : List (List Cell)} (a0 : a ≠ []) (b0 : b ≠ []) (hs : (cellsR (togR a b)).length ≤ 8) : (cellsR (togR (exC a) (exC b))).length ≤ 8 :=
  Nat.le_trans (sub_len (cells_nd _) fun q hq => by
    obtain ⟨p, hp, d, hd, rfl⟩ := mem_tog.mp hq
    exact mem_tog.mpr ⟨p, cells_ex b0 hp, d, cells_ex a0 hd, rfl⟩) hs
end DL

set_option Elab.async false
set_option linter.all false
set_option maxRecDepth 100000
set_option maxHeartbeats 4000000
namespace DL
open PySem PySem.Spec PyProof.Rows L2
structure DefDN (P : Program) (w : World) (K : PySem.W.Frag) (mg : Str → Option Value) (base : Heap) (x : Str) (k n : Nat) (ko : Kd) (g : List D → (D → Prop) → Prop) : Prop where
  ex : ∃ (f : Addr) (fd : FuncData) (ps : List Str) (ds : List Value), FnOk P w K mg base CX0 k f fd ps (spD K (n + 1) ko g) ∧ mg x = some (.ref f) ∧ PySem.W.keepIn K (.ref f) = true ∧ Binds K fd ps ds ∧ Vals [.non] ds
def pCallN (w : List D → (D → Prop) → Prop) (pa : TAD) : TED := fun ρ R => pa ρ fun ds => w (ds ++ [.non]) R
section
variable {own : List Nat} {A : Addr → Prop}
theorem lift_callN {K : PySem.W.Frag} {n : Nat} {ko : Kd} {w : List D → (D → Prop) → Prop} {pa : TAD} {E0 : XK} (hk : ko ≠ .weak) : ∀ σ H Q, lift K own ko (pCallN w pa) σ H Q → tCall (spD K (n + 1) ko w) [.non] E0 (liftA K own .strong n pa) σ H Q :=
  fun σ H Q ⟨c, A, ρ, R, hK, E, hp, f⟩ => ⟨c, A, ρ, _, hK, E, hp, fun c1 vs H1 ds t1 r1 hn g1 => by
    have E1 := E.step t1
    have rl := paired_strong r1
    refine ⟨by rw [List.length_append, List.length_singleton, rl.len, hn], c1, fun b => A b ∨ OwnA own σ ρ b, ds ++ [.non], R, t1.kk.trans hK, E1.fok, fun a h => h.elim (E1.avA a) E1.own_av, ?_, g1, fun c2 v H2 d t2 r2 g2 => ?_⟩
    · exact (RepL.mv rfl (fun _ _ z => z) (fun b o n e => ⟨fun z => n (by rcases z with (z | z) | z; exact .inl z; exact .inr (.inr z); exact .inr (.inl z)), e⟩) _ _ rl).append (.cons .non .nil)
    · exact f c2 v H2 d (t1.trans t2) (Res.back t1 (ResF.here hk r2)) g2⟩
end
section
variable {X : Cx} {own : List Nat} {pos : Pos} {e : Expr} {es : List Expr} {x : Str} {pn : Pos} {k n : Nat} {ko : Kd} {w : List D → (D → Prop) → Prop} {pa : TAD}
theorem e_callDN (F : DefDN X.prog X.w X.K X.mg X.base x k n ko w) (hr : Room k X.A) (ha : PA X (e :: es) (liftA X.K own .strong n pa)) (hk : ko ≠ .weak := by intro z; cases z) (hg : Gl X x := by rfl)
    (hs : starEach (e :: es) X.env = (false, eval e X.env) :: starEach es X.env := by rfl) (hpl : (backTo pos (starEach es X.env)).any (·.1) = false := by rfl) (hd : (x == ("__debug__" : Str)) = false := by decide) :
    PE X (.Call (.Name x pn) (e :: es) [] pos) (lift X.K own ko (pCallN w pa)) := by
  obtain ⟨f, fd, ps, ds, F, hm, hkp, hb, hv⟩ := F.ex
  exact pe_imp (pe_call (E := E0) F hr hg hm hkp hb hv pass0 ha hd hs hpl) (lift_callN hk)
end
theorem fn_dN {P : Program} {w : World} {K : PySem.W.Frag} {mg : Str → Option Value} {base : Heap} {x qual : Str} {st : Stmt} {f : Addr} {fd : FuncData} {N ps : List Str} {k n : Nat} {own : List Nat} {fr : Bool} {ko : Kd} {p : TSD} (F : L2.FunD K x qual (defArgs st) (defBody st) (defScope st) [.non] [] f fd) (S : FnScope N ps (defScope st)) (hn : ps.length = n) (ho : ∀ i ∈ own, n ≤ i) (hN : n ≤ N.length)
    (hbody : ∀ (cdv : Value) (A : Around) (outer : List Env) (s : Shared) (H : Hp) (E : XK), Room k (A.deeper (envOfC qual (defScope st) s.heap.objs.size f cdv)) →
      PSs (cxOf CX0 P w K mg base N qual (defScope st) f cdv A outer s H E).nox (defBody st) (liftS K own fr ko p)) : FnOk P w K mg base CX0 (k + 1) f fd ps (spD K n ko (fnW ko N.length p)) := by
  refine F.ok S (fun vs H Q E h => h.1.trans hn.symm) fun cdv A outer s H vs Q E hr h => ⟨_, (hbody cdv A outer s H E hr).nox, ?_⟩
  obtain ⟨hl, c, A', ds, R, hk, fo, hA, r, hw, q⟩ := h
  obtain ⟨E0, no⟩ := start_env (own := own) (N := N) fo hA r (fun i hi => by rw [hl]; exact ho i hi) (by rw [hl]; exact hN)
  refine ⟨c, H, A', c, _, _, hk, Step.refl fo, E0, fun a h => (no a h).elim, hw, ⟨?_, fun c' v H' d k' t' r' g => q c' v H' d t' r' g, fun _ _ _ _ _ _ _ _ _ _ _ h => h.elim, fun _ _ _ _ _ _ _ _ _ _ _ h => h.elim⟩⟩
  intro c' o' σ' ρ' H' k' s1 s2 t' E' F' h'
  cases ko with
  | fresh => exact h'.elim
  | weak => exact q c' .non H' .non t' .non h'
  | strong => exact q c' .non H' .non t' .non h'
theorem fun_mkN {K : PySem.W.Frag} {x qual : Str} {st : Stmt} {f T : Addr} {od an td : Option Addr} {sl ts : Array (Option Value)} {oc tc kV dc pm cd ct : Value} {n : Nat}
    (l : K.lookup f = some ⟨oc, od, .func (PySem.W.fnOf x qual (defArgs st) (defBody st) (defScope st) (.ref T) kV dc pm an cd ct), sl⟩) (c : PySem.W.codeIn K cd qual = true) (k : PySem.W.keepIn K (.ref f) = true) (lT : K.lookup T = some ⟨tc, td, .seq #[.none] n, ts⟩) :
    L2.FunD K x qual (defArgs st) (defBody st) (defScope st) [.non] [] f (PySem.W.fnOf x qual (defArgs st) (defBody st) (defScope st) (.ref T) kV dc pm an cd ct) := by
  have hD : L2.DflV K (.ref T) [.non] := Or.inr ⟨(fun z => nomatch z), T, ⟨tc, td, .seq #[.none] n, ts⟩, [Value.none], n, rfl, lT, rfl, .cons rfl .nil⟩
  exact ⟨⟨oc, od, .ref T, kV, dc, pm, an, cd, ct, sl, rfl, l, c, hD, .inl rfl⟩, k⟩
theorem x_callN {w : List D → (D → Prop) → Prop} {a : TAD} {ρ : PEnv} {R : D → Prop} : pCallN w a ρ R = a ρ fun ds => w (ds ++ [.non]) R := propext Iff.rfl
end DL

set_option Elab.async false
set_option linter.all false
set_option maxRecDepth 100000
set_option maxHeartbeats 4000000
namespace DL
open PySem PySem.Spec PyProof.Rows L2
def PTu (p : Addr) : Heap → Prop := fun h => h.get? p = some { cls := .type "tuple", data := .seq #[] }
def tTupX : TE := fun σ H Q => ∀ p, H p = none → Q (.ref p) (upd H p (.ext (PTu p)))
def rDict0 : List V → Hp → VK → Prop := fun vs H Q => ∃ a, vs = [.ref a] ∧ H a = some (.ext (PTu a)) ∧ ∀ q, H q = none → Q (.ref q) (upd (upd H q (.dT [])) a (.tup []))
section
variable {X : Cx}
theorem pe_tupX {x1} {pos : Pos} : PE X (.Tuple [] x1 pos) tTupX := by
  refine ⟨fun pins s σ H Q I hq => ?_⟩
  refine wpAny_Tuple_spliced (thn ((pa_nil (X := X)).run pos pins s σ H (fun vs H1 => vs = [] ∧ H1 = H) I ⟨rfl, rfl⟩) fun us s1 ⟨xs, H1, I1, r, e1, e2⟩ => ?_)
  subst e1; subst e2
  cases r
  refine ⟨Nat.zero_le _, ?_⟩
  have hf : H1 s1.heap.objs.size = none := I1.hok.fresh (Nat.le_refl _)
  refine ⟨.ref s1.heap.objs.size, upd H1 s1.heap.objs.size (.ext (PTu s1.heap.objs.size)), I1.laid (t' := s1.toks) (fun b u e => Heap.get?_push_of_some _ e) (Nat.le_refl _) ?_, rfl, hq _ hf⟩
  exact ⟨Heap.get?_push_size _ rfl, ⟨_, Heap.get?_push_size _ rfl⟩, fun h1 h2 e k => k _ e⟩
theorem call_dict0 (hc : X.calm = true) (hu : X.A.units + 64 < cLine) : CallR X (.type "dict") rDict0 := by
  rintro pins s σ H vs us Q I r ⟨a, rfl, ha, q⟩
  rw [Vals.ref1 r]
  obtain ⟨hx, _, _⟩ := (show ObjOk X.prog X.w H s.heap a (.ext (PTu a)) from I.hok a _ ha)
  have P := PySem.PairArg.tuple (prog := X.prog) (w := X.w) a #[] (fun _ => 0) []
  have hm : (s.heap.objs.size == sysModules) = false := beq_eq_false_iff_ne.mpr (Nat.ne_of_gt I.big)
  refine PySem.call_dict_pairsH (knd := tupleKind (mixKind X.prog X.w)) (ps := []) P (I.ok.hd hc) (tupleKind_room_in1 (by simp only [Around.in1_units]; omega)) ⟨⟨_, _, hx, rfl, rfl, rfl⟩, rfl, ?_⟩ ⟨rfl, ?_⟩ (fun _ _ x hx => nomatch hx) (Nat.zero_le _) fun h' tk hd' k => ?_
  · intro j k v e
    simp at e
  · intro i key v e
    have e : ([] : List (Value × Value))[i]? = some (key, v) := e
    simp at e
  · have kp : ∀ b o, s.heap.get? b = some o → h'.get? b = some o := fun b o e => k b o (by simp) e
    have fr := I.hok.fresh (Nat.le_refl s.heap.objs.size)
    obtain ⟨q1, es, ep, hq1, h2, h3, h4, hx5, h5⟩ := hd'
    have I1 := I.laid (o := .dT []) (t' := tk) kp (Nat.le_refl _) ⟨Nat.zero_le _, hm, [], .nil, q1, es, ep, hq1, h2, h3, h4, List.nodup_nil⟩
    have hne : a ≠ s.heap.objs.size := fun z => by rw [z, fr] at ha; cases ha
    have I2 := I1.write (x := a) (e := a) (o := .tup []) (t' := tk) (h' := h') (by rw [upd_ne hne, ha]; exact True.intro) (.inl rfl) (fun b u _ e => e) ⟨_, kp a _ hx⟩ ⟨Nat.zero_le _, [], .nil, _, kp a _ hx, rfl, _, rfl⟩
    exact ⟨.ref s.heap.objs.size, _, I2, rfl, q _ fr⟩
end
def sPairs (k i j : Nat) : TSD := fun DD ρ => (ρ[k]? = some (some .non) ∧ i < ρ.length) ∧ DD.nx ((ρ.set i (some (.tup []))).set j (some (.dT [] [])))
theorem lift_pairs (K : PySem.W.Frag) {own own' : List Nat} {fr : Bool} {ko : Kd} {k i j : Nat} {q : TSD} {tb : TE} (hi : i ∉ own) (hj : j ∉ own) (hij : i ≠ j) (ho : ∀ i ∈ own', i ∈ own) (hf : fr = false → own' = own) :
    ∀ D σ H, liftS K own fr ko (sSeqD (sPairs k i j) q) D σ H → tSeq (tAsg (tIf (liftT K own (tV (p2 dIsN (pV k) (pC .non)))) tTupX tb) (gName i)) (tSeq (tAsg (tCB rDict0 (tCons (tVar i) tNil)) (gName j)) (liftS K own' fr ko q)) D σ H := by
  rintro D σ H ⟨c0, H0, A, c, ρ, DD, hk, t, E, F, ⟨⟨hn, hl⟩, h⟩, z⟩
  refine ⟨c, A, ρ, fun b => b = true, hk, E, ?_, fun c1 H1 b t1 hb => ?_⟩
  · show pV k ρ fun x => _
    unfold pV
    rw [hn]
    rfl
  · subst hb
    refine iteT fun p np => ?_
    have e1 : (σ.set i (some (.ref p)))[i]? = some (some (V.ref p)) := by rw [List.getElem?_set_self (by rw [← E.len]; exact hl)]
    refine ⟨.ref p, e1, p, rfl, upd_same, fun r nr => ?_⟩
    have hpr : r ≠ p := fun z => by rw [z, upd_same] at nr; cases nr
    have nr1 : H1 r = none := by rw [upd_ne hpr] at nr; exact nr
    have eH : upd (upd (upd H1 p (.ext (PTu p))) r (.dT [])) p (.tup []) = upd (upd H1 p (.tup [])) r (.dT []) := by
      funext b
      by_cases hb : b = p
      · rw [hb, upd_same, upd_ne (fun z => hpr z.symm), upd_same]
      · rw [upd_ne hb]
        by_cases hb2 : b = r
        · rw [hb2, upd_same, upd_same]
        · rw [upd_ne hb2, upd_ne hb2, upd_ne hb, upd_ne hb]
    rw [eH]
    have E1 := E.step t1
    have t2 : Step c1 H1 c1 (upd (upd H1 p (.tup [])) r (.dT [])) := (Step.one E1.fok np).trans (Step.one (Step.one E1.fok np).fok (by rw [upd_ne hpr]; exact nr1))
    have E2 := E1.step t2
    have av : ∀ b, H1 b = none → ¬ Avd c1 own A σ ρ b := fun b hb ha => E1.al ha hb
    have E3 := E2.set (i := i) (v := .ref p) (d := .tup []) hi (.tup (vs := []) ⟨Nat.zero_le _, av p np, by rw [upd_ne (fun z => hpr z.symm), upd_same]⟩ .nil)
    have E4 := E3.set (i := j) (v := .ref r) (d := .dT [] []) hj (.dT (vs := []) rfl (fun ha => ?_) upd_same .nil)
    · have o : ∀ n, n ∈ own → ((ρ.set i (some (.tup []))).set j (some (DL.D.dT [] [])))[n]? = ρ[n]? ∧ ((σ.set i (some (V.ref p))).set j (some (.ref r)))[n]? = σ[n]? := fun n hn => by
        have h1 : i ≠ n := fun z => hi (z ▸ hn)
        have h2 : j ≠ n := fun z => hj (z ▸ hn)
        rw [List.getElem?_set_ne h2, List.getElem?_set_ne h1, List.getElem?_set_ne h2, List.getElem?_set_ne h1]
        exact ⟨rfl, rfl⟩
      have tt := (t.trans t1).trans t2
      exact ⟨c0, H0, A, c1, _, DD, t1.kk.trans hk, tt, E4.freeze ho, (F.congr o).freeze ho, h, z.sub ho hf⟩
    · rw [avd_set hi] at ha
      exact av r nr1 ha
section
variable {X : Cx} {own own' : List Nat} {fr : Bool} {ko : Kd} {q : TSD} {rest : List Stmt}
theorem s_pairs {c b : Expr} {x y : Str} {pn pm pp pq pr : Pos} {x1 : Nat} {p1 p2 p3 p4 : Pos} (k i j : Nat) {kk : Nat} (hc : X.calm = true) (hr : Room kk X.A) (hN : X.N.Nodup) (hm : X.mg "dict" = none)
    (ht : PT X c (liftT X.K own (tV (DL.p2 dIsN (pV k) (pC .non))))) {tb : TE} (hb : PE X b tb) (hq : PSs X rest (liftS X.K own' fr ko q))
    (hi : X.N[i]? = some x := by rfl) (hx : Loc X.env.scope x := by first | exact .inl rfl | exact .inr rfl) (hj : X.N[j]? = some y := by rfl) (hy : Loc X.env.scope y := by first | exact .inl rfl | exact .inr rfl) (oi : i ∉ own := by decide) (oj : j ∉ own := by decide) (hij : i ≠ j := by decide)
    (hs : swapsWith (.IfExp c (.Tuple [] x1 p1) b p2) (some (.Name x p3)) p4.line X.env = pure false := by rfl) (hs2 : swapsWith (.Call (.Name "dict" pn) [.Name x pm] [] pp) (some (.Name y pq)) pr.line X.env = pure false := by rfl)
    (hf : X.fn x = true ∨ X.env.scope.names.lookup x = some .local := by first | exact .inl rfl | exact .inr rfl) (hf2 : X.fn y = true ∨ X.env.scope.names.lookup y = some .local := by first | exact .inl rfl | exact .inr rfl)
    (hv : Vis X.env.scope x := by first | exact Or.inl rfl | exact Or.inr (Or.inl rfl) | exact Or.inr (Or.inr rfl)) (hd : (x == ("__debug__" : Str)) = false := by decide) (hcd : (x == ("__classdict__" : Str)) = false := by decide) (hg : Gl X "dict" := by rfl)
    (hst : starEach [.Name x pm] X.env = (false, eval (.Name x pm) X.env) :: starEach [] X.env := by rfl)
    (ho : ∀ i ∈ own', i ∈ own := by decide) (hfr : fr = false → own' = own := by decide) :
    PSs X (.Assign [.Name x p3] (.IfExp c (.Tuple [] x1 p1) b p2) p4 :: .Assign [.Name y pq] (.Call (.Name "dict" pn) [.Name x pm] [] pp) pr :: rest) (liftS X.K own fr ko (sSeqD (sPairs k i j) q)) :=
  pss_imp (pss_cons (ps_set hN hi hx (pe_ifExp ht pe_tupX hb) hs hf) (pss_cons (ps_set hN hj hy (pe_callTy (call_dict0 hc hr.units) hg hm (by decide +kernel) (pa_cons (pe_var hi hv hd hcd) pa_nil hst) (by decide) (by decide) hst rfl) hs2 hf2) hq)) (lift_pairs _ oi oj hij ho hfr)
theorem x_pairs {k i j : Nat} {DD : DEnds} {ρ : PEnv} : sPairs k i j DD ρ = ((ρ[k]? = some (some .non) ∧ i < ρ.length) ∧ DD.nx ((ρ.set i (some (.tup []))).set j (some (.dT [] [])))) := propext Iff.rfl
end
end DL

set_option Elab.async false
set_option linter.all false
set_option maxRecDepth 100000
set_option maxHeartbeats 4000000
namespace DL
open PySem PySem.Spec PyProof.Rows L2
def strOf (x : D) (f : Str → Prop) : Prop := match x with | .str a => f a | _ => False
theorem strOf_iff {x : D} {f : Str → Prop} (h : strOf x f) : ∃ a, x = .str a ∧ f a := by
  cases x with
  | str a => exact ⟨a, rfl, h⟩
  | _ => exact h.elim
theorem x_strOf {a : Str} {f : Str → Prop} : strOf (.str a) f = f a := propext Iff.rfl
def pM1 (r' : Str → D → (D → Prop) → Prop) (p q : TED) : TED := fun ρ R => p ρ fun x => strOf x fun a => q ρ fun y => r' a y R
theorem x_pM1 {r' : Str → D → (D → Prop) → Prop} {p q : TED} {ρ : PEnv} {R : D → Prop} : pM1 r' p q ρ R = p ρ fun x => strOf x fun a => q ρ fun y => r' a y R := propext Iff.rfl
def CM (K : PySem.W.Frag) (r : V → List V → Hp → VK → Prop) (ko : Kd) (r' : Str → D → (D → Prop) → Prop) : Prop :=
  ∀ (c : Cfg) (own : List Nat) (A : Addr → Prop) (σ : L2.St) (ρ : PEnv) (H : Hp) (a : Str) (w : V) (e : D) (R : D → Prop) (Q : VK), c.K = K → EnvR c own A σ ρ H → RepW c own A σ ρ H w e → r' a e R →
    (∀ c' v' H' d', Step c H c' H' → Res c' own A σ ρ ko H H' v' d' → R d' → Q v' H') → r (.str a) [w] H Q
theorem lift_m1 {K : PySem.W.Frag} {own : List Nat} {r : V → List V → Hp → VK → Prop} {ko : Kd} {r' : Str → D → (D → Prop) → Prop} {p q : TED} (hr : CM K r ko r') : ∀ σ H Q, lift K own ko (pM1 r' p q) σ H Q → tM1 r (lift K own .weak p) (lift K own .weak q) σ H Q :=
  fun σ H Q ⟨c, A, ρ, R, hk, E, hp, f⟩ => ⟨c, A, ρ, _, hk, E, hp, fun c1 v1 H1 d1 t1 r1 g1 => by
    obtain ⟨a, rfl, g1⟩ := strOf_iff g1
    have ev := RepW.str r1
    subst ev
    exact ⟨⟨a, rfl⟩, c1, A, ρ, _, t1.kk.trans hk, E.step t1, g1, fun c2 v2 H2 d2 t2 r2 g2 =>
      hr c2 own A σ ρ H2 a v2 d2 R Q (t2.kk.trans (t1.kk.trans hk)) ((E.step t1).step t2) r2 g2 fun c3 v3 H3 d3 t3 r3 g3 => f c3 v3 H3 d3 ((t1.trans t2).trans t3) (Res.back (t1.trans t2) r3) g3⟩⟩
theorem rep_strs {c : Cfg} {Av : Addr → Prop} {H : Hp} : ∀ ys : List Str, RepL c Av H (ys.map V.str) (ys.map D.str)
  | [] => .nil
  | y :: ys => .cons (.str y) (rep_strs ys)
theorem strs_rep {c : Cfg} {Av : Addr → Prop} {H : Hp} : ∀ {ys : List Str} {vs : List V}, RepL c Av H vs (ys.map D.str) → vs = ys.map V.str
  | [], _, .nil => rfl
  | y :: ys, _, .cons r t => by
    cases r
    rw [strs_rep t]
    rfl
def mSplit (a : Str) (y : D) (R : D → Prop) : Prop := strOf y fun b => ((b.length == 0) = false ∧ a.length + 2 ≤ sizeLine) ∧ R (.lst ((Txt.split a b).map D.str))
theorem c_split {K : PySem.W.Frag} : CM K (fun x xs H Q => ∃ a b, x = .str a ∧ xs = [.str b] ∧ (b.length == 0) = false ∧ a.length + 2 ≤ sizeLine ∧ rNewStrs (Txt.split a b) H Q) .fresh mSplit := fun c own A σ ρ H a w e R Q hk E r g q => by
  obtain ⟨b, rfl, ⟨hb, hz⟩, g⟩ := strOf_iff g
  have ev := RepW.str r
  subst ev
  refine ⟨a, b, rfl, rfl, hb, hz, fun p np => q c (.ref p) _ (.lst ((Txt.split a b).map D.str)) (.one E.fok np) (Fr.newL E np ?_ (rep_strs _)) g⟩
  rw [List.length_map]
  exact Nat.le_trans (PyProof.Rows.split_le a b) hz
def mJoin (a : Str) (y : D) (R : D → Prop) : Prop := dSeq y fun ds => ∃ ys : List Str, ds = ys.map D.str ∧ (ys.map (·.length)).sum + ys.length * a.length ≤ 16777216 ∧ R (.str (Txt.join a ys))
theorem c_join {K : PySem.W.Frag} : CM K (fun x xs H Q => ∃ a p, ∃ ys : List Str, x = .str a ∧ xs = [.ref p] ∧ (SqL K H p (ys.map V.str) ∨ SqT K H p (ys.map V.str)) ∧ (ys.map (·.length)).sum + ys.length * a.length ≤ 16777216 ∧ Q (.str (Txt.join a ys)) H) .strong mJoin := fun c own A σ ρ H a w e R Q hk E r g q => by
  obtain ⟨ds, he, ys, rfl, hz, g⟩ := dSeq_iff g
  obtain ⟨bb, p, vs, rfl, hs, rl, _⟩ := RepW.seqK he r
  have ev := strs_rep rl
  subst ev
  rw [hk] at hs
  refine ⟨a, p, ys, rfl, rfl, ?_, hz, q c (.str _) H (.str _) (Step.refl E.fok) (.str _) g⟩
  cases bb
  · exact .inr hs
  · exact .inl hs
def mStarts (a : Str) (y : D) (R : D → Prop) : Prop := strOf y fun b => R (.bl (Txt.startswith a b))
theorem c_starts {K : PySem.W.Frag} : CM K (fun x xs H Q => ∃ a b, x = .str a ∧ xs = [.str b] ∧ Q (.bl (Txt.startswith a b)) H) .strong mStarts := fun c own A σ ρ H a w e R Q hk E r g q => by
  obtain ⟨b, rfl, g⟩ := strOf_iff g
  have ev := RepW.str r
  subst ev
  exact ⟨a, b, rfl, rfl, q c _ H (.bl _) (Step.refl E.fok) (.bl _) g⟩
def mPart (a : Str) (y : D) (R : D → Prop) : Prop := strOf y fun b => ((b.length == 0) = false ∧ a.length ≤ sizeLine) ∧ R (.tup [.str (Txt.partition a b).1, .str (Txt.partition a b).2.1, .str (Txt.partition a b).2.2])
theorem c_part {K : PySem.W.Frag} : CM K (fun x xs H Q => ∃ a b, x = .str a ∧ xs = [.str b] ∧ (b.length == 0) = false ∧ a.length ≤ sizeLine ∧
    ∀ p, H p = none → Q (.ref p) (upd H p (.tup [.str (Txt.partition a b).1, .str (Txt.partition a b).2.1, .str (Txt.partition a b).2.2]))) .strong mPart := fun c own A σ ρ H a w e R Q hk E r g q => by
  obtain ⟨b, rfl, ⟨hb, hz⟩, g⟩ := strOf_iff g
  have ev := RepW.str r
  subst ev
  exact ⟨a, b, rfl, rfl, hb, hz, fun p np => q c (.ref p) _ _ (.one E.fok np) (Rep.newT (ds := [.str _, .str _, .str _]) E np (by show 3 ≤ sizeLine; exact sz_small (by decide)) (.cons (.str _) (.cons (.str _) (.cons (.str _) .nil)))) g⟩
def dInSg (x y : D) (R : D → Prop) : Prop := strOf x fun s => strOf y fun z => ∃ c : Nat, s = ⟨#[c]⟩ ∧ R (.bl (decide (c ∈ z.cps.toList)))
theorem c_inSg {K : PySem.W.Frag} : C2 K (fun x y H Q => ∃ (c : Nat) (z : Str), x = .str ⟨#[c]⟩ ∧ y = .str z ∧ Q (.bl (decide (c ∈ z.cps.toList))) H) .strong dInSg := fun c own A σ ρ H v w d e R Q hk E r1 r2 g q => by
  obtain ⟨s, e3, g1⟩ := strOf_iff (show strOf d _ from g)
  obtain ⟨z, e4, n, e5, g2⟩ := strOf_iff g1
  subst e3; subst e4; subst e5
  have e1 := RepW.str r1
  have e2 := RepW.str r2
  subst e1; subst e2
  exact ⟨n, z, rfl, rfl, q c _ H (.bl _) (Step.refl E.fok) (.bl _) g2⟩
def sgns (a : Str) : List D := a.cps.toList.map fun c => D.str ⟨#[c]⟩
def sSgn (p : TED) : TAD := fun ρ R => p ρ fun x => strOf x fun a => R (sgns a)
theorem its_ok (c : Cfg) (Av : Addr → Prop) (H0 : Hp) (x : Str) : ItOk c Av (Its x) H0 (sgns x) := fun c2 H2 Av2 t h1 h2 i => by
  constructor
  · intro h
    unfold sgns at h
    rw [List.length_map, Array.length_toList] at h
    exact h
  · intro d hd
    unfold sgns at hd
    rw [List.getElem?_map] at hd
    obtain ⟨n, hn, rfl⟩ := Option.map_eq_some_iff.mp hd
    rw [Array.getElem?_toList] at hn
    refine ⟨(Array.getElem?_eq_some_iff.mp hn).1, fun v H3 ⟨e, m, hm, ev⟩ => ?_⟩
    subst e
    rw [hn] at hm
    cases hm
    subst ev
    exact ⟨fun b o h => h, .str _⟩
theorem lift_sgn (K : PySem.W.Frag) {own : List Nat} {k : Kd} {p : TED} : ∀ σ H Q, liftI K own k (sSgn p) σ H Q → iStr (lift K own .weak p) σ H Q := fun σ H Q ⟨c, A, ρ, R, hk, E, hp, f⟩ => ⟨c, A, ρ, _, hk, E, hp, fun c1 v H1 d t r g => by
  obtain ⟨a, rfl, g⟩ := strOf_iff g
  have ev := RepW.str r
  subst ev
  exact ⟨a, rfl, f c1 (Its a) H1 (sgns a) t (its_ok _ _ _ _) g⟩⟩
section
variable {X : Cx} {own : List Nat} {ko : Kd} {o e tg : Expr} {p q : TED} {apos pos : Pos}
theorem i_sgn {k : Kd} (h : PE X e (lift X.K own .weak p)) : PI X tg e (liftI X.K own k (sSgn p)) := pi_imp (pi_str h) (lift_sgn _)
theorem e_split (ho : PE X o (lift X.K own .weak p)) (he : PE X e (lift X.K own .weak q)) (hs : starEach [e] X.env = [(false, eval e X.env)] := by rfl) (hbase : attributeBase o "split" X.env (eval o X.env) = eval o X.env := by rfl) (hline : (apos.endLine == pos.line) = true := by rfl) :
    PE X (.Call (.Attribute o "split" apos) [e] [] pos) (lift X.K own .fresh (pM1 mSplit p q)) := pe_imp (pe_split ho he hs hbase hline) (lift_m1 c_split)
theorem e_join (ho : PE X o (lift X.K own .weak p)) (he : PE X e (lift X.K own .weak q)) (hs : starEach [e] X.env = [(false, eval e X.env)] := by rfl) (hbase : attributeBase o "join" X.env (eval o X.env) = eval o X.env := by rfl) (hline : (apos.endLine == pos.line) = true := by rfl) :
    PE X (.Call (.Attribute o "join" apos) [e] [] pos) (lift X.K own .strong (pM1 mJoin p q)) := pe_imp (pe_join ho he hs hbase hline) (lift_m1 c_join)
theorem e_part (ho : PE X o (lift X.K own .weak p)) (he : PE X e (lift X.K own .weak q)) (hs : starEach [e] X.env = [(false, eval e X.env)] := by rfl) (hbase : attributeBase o "partition" X.env (eval o X.env) = eval o X.env := by rfl) (hline : (apos.endLine == pos.line) = true := by rfl) :
    PE X (.Call (.Attribute o "partition" apos) [e] [] pos) (lift X.K own .strong (pM1 mPart p q)) := pe_imp (pe_partition ho he hs hbase hline) (lift_m1 c_part)
theorem e_starts (ho : PE X o (lift X.K own .weak p)) (he : PE X e (lift X.K own .weak q)) (hs : starEach [e] X.env = [(false, eval e X.env)] := by rfl) (hbase : attributeBase o "startswith" X.env (eval o X.env) = eval o X.env := by rfl) (hline : (apos.endLine == pos.line) = true := by rfl) :
    PE X (.Call (.Attribute o "startswith" apos) [e] [] pos) (lift X.K own .strong (pM1 mStarts p q)) := pe_imp (pe_m1 F.slot_str_startswith F.type_str_startswith mt_startswith ho he hs hbase hline) (lift_m1 c_starts)
end
def dFmt (x : D) (R : D → Prop) : Prop := match x with
  | .str y => y.length ≤ sizeLine ∧ R (.str y)
  | .int i => i.natAbs.log2 < 1920 ∧ R (.str (toString i))
  | _ => False
theorem lift_fmt {K : PySem.W.Frag} {own : List Nat} {ko : Kd} {p : TED} (hk : ko ≠ .fresh) : ∀ σ H Q, lift K own ko (p1 dFmt p) σ H Q → tFmt (lift K own .weak p) σ H Q :=
  fun σ H Q ⟨c, A, ρ, R, hk', E, hp, f⟩ => ⟨c, A, ρ, _, hk', E, hp, fun c1 v1 H1 d1 t1 r1 g1 => by
    have out : ∀ y : Str, R (.str y) → Q (.str y) H1 := fun y hy => f c1 (.str y) H1 (.str y) t1 (by cases ko with
      | fresh => exact absurd rfl hk
      | weak => exact .inl (.str y)
      | strong => exact .str y) hy
    cases d1 with
    | str y =>
      have ev := RepW.str r1
      subst ev
      exact .inl ⟨y, rfl, g1.1, out y g1.2⟩
    | int i =>
      have ev := RepW.int r1
      subst ev
      exact .inr ⟨i, rfl, g1.1, out _ g1.2⟩
    | _ => exact g1.elim⟩
def pJs : List TED → Str → PEnv → (Str → Prop) → Prop
  | [], acc, _, R => R acc
  | p :: ps, acc, ρ, R => p ρ fun x => strOf x fun y => (acc ++ y).length ≤ sizeLine ∧ pJs ps (acc ++ y) ρ R
theorem js_lift {K : PySem.W.Frag} {own : List Nat} {A : Addr → Prop} {σ : L2.St} {ρ : PEnv} {R : Str → Prop} {Q : Str → Hp → Prop} : ∀ (ps : List TED) (acc : Str) (c : Cfg) (H : Hp), c.K = K → EnvR c own A σ ρ H → pJs ps acc ρ R →
    (∀ c' H' s, Step c H c' H' → R s → Q s H') → tJs (ps.map (lift K own .weak)) acc σ H Q
  | [], acc, c, H, _, E, hp, f => f c H acc (Step.refl E.fok) hp
  | p :: ps, acc, c, H, hk, E, hp, f => ⟨c, A, ρ, _, hk, E, hp, fun c1 v1 H1 d1 t1 r1 g1 => by
    obtain ⟨y, rfl, hz, g1⟩ := strOf_iff g1
    have ev := RepW.str r1
    subst ev
    exact ⟨y, rfl, hz, js_lift ps (acc ++ y) c1 H1 (t1.kk.trans hk) (E.step t1) g1 fun c' H' s t h => f c' H' s (t1.trans t) h⟩⟩
def pJoined (ps : List TED) : TED := fun ρ R => pJs ps Str.empty ρ fun s => R (.str s)
theorem x_joined {ps : List TED} {ρ : PEnv} {R : D → Prop} : pJoined ps ρ R = pJs ps Str.empty ρ fun s => R (.str s) := propext Iff.rfl
theorem x_js0 {acc : Str} {ρ : PEnv} {R : Str → Prop} : pJs [] acc ρ R = R acc := propext Iff.rfl
theorem x_js1 {p : TED} {ps : List TED} {acc : Str} {ρ : PEnv} {R : Str → Prop} : pJs (p :: ps) acc ρ R = p ρ fun x => strOf x fun y => (acc ++ y).length ≤ sizeLine ∧ pJs ps (acc ++ y) ρ R := propext Iff.rfl
def dToIS (xs : List D) (R : D → Prop) : Prop := dOne xs fun x => match x with
  | .int i => R (.int i)
  | .bl b => R (.int (if b then 1 else 0))
  | .str a => ∃ n : Int, (PySem.intText? a = some n ∧ a.length ≤ 640) ∧ R (.int n)
  | _ => False
def rToIS : List V → Hp → VK → Prop := fun xs H Q => ((∃ i, xs = [.int i] ∧ Q (.int i) H) ∨ ∃ k, xs = [.bl k] ∧ Q (.int (if k then 1 else 0)) H) ∨ ∃ a n, xs = [.str a] ∧ PySem.intText? a = some n ∧ a.length ≤ 640 ∧ Q (.int n) H
theorem c_toIS {K : PySem.W.Frag} : CL K rToIS .strong dToIS := fun c own A σ ρ H vs ds R Q hk E r1 g q => by
  obtain ⟨x, rfl, g⟩ := dOne_iff g
  obtain ⟨v, rfl, r⟩ := paired1 r1
  cases x with
  | int i =>
    have e := RepW.int r
    subst e
    exact .inl (.inl ⟨i, rfl, q c _ H _ (Step.refl E.fok) (.int _) g⟩)
  | bl b =>
    have e := RepW.bl r
    subst e
    exact .inl (.inr ⟨b, rfl, q c _ H _ (Step.refl E.fok) (.int _) g⟩)
  | str a =>
    have e := RepW.str r
    subst e
    obtain ⟨n, ⟨h1, h2⟩, g⟩ := g
    exact .inr ⟨a, n, rfl, h1, h2, q c _ H _ (Step.refl E.fok) (.int _) g⟩
  | _ => exact g.elim
section
variable {X : Cx} {own : List Nat} {ko : Kd} {e v1 v2 : Expr} {rest : List Expr} {p : TED} {pos : Pos}
theorem call_intS : CallR X (.type "int") rToIS := call_int1.or call_int_str
theorem e_fmt (hk : ko ≠ .fresh) (he : PE X e (lift X.K own .weak p)) : PE X (.FormattedValue e (-1) none pos) (lift X.K own ko (p1 dFmt p)) := pe_imp (pe_fmt he) (lift_fmt hk)
theorem e_joined {ps : List TED} (h : PJ X (v1 :: v2 :: rest) (ps.map (lift X.K own .weak))) : PE X (.JoinedStr (v1 :: v2 :: rest) pos) (lift X.K own .strong (pJoined ps)) :=
  pe_imp (pe_joined h) fun σ H Q ⟨c, A, ρ, R, hk, E, hp, f⟩ => js_lift ps Str.empty c H hk E hp fun c' H' s t hs => f c' (.str s) H' (.str s) t (.str s) hs
end
section
variable {a b : Str} {R : D → Prop} {i : Int} {k : Bool}
theorem x_split : mSplit a (.str b) R = (((b.length == 0) = false ∧ a.length + 2 ≤ sizeLine) ∧ R (.lst ((Txt.split a b).map D.str))) := propext Iff.rfl
theorem x_starts : mStarts a (.str b) R = R (.bl (Txt.startswith a b)) := propext Iff.rfl
theorem x_part : mPart a (.str b) R = (((b.length == 0) = false ∧ a.length ≤ sizeLine) ∧ R (.tup [.str (Txt.partition a b).1, .str (Txt.partition a b).2.1, .str (Txt.partition a b).2.2])) := propext Iff.rfl
theorem x_joinL {ds : List D} : mJoin a (.lst ds) R = ∃ ys : List Str, ds = ys.map D.str ∧ (ys.map (·.length)).sum + ys.length * a.length ≤ 16777216 ∧ R (.str (Txt.join a ys)) := propext Iff.rfl
theorem x_joinT {ds : List D} : mJoin a (.tup ds) R = ∃ ys : List Str, ds = ys.map D.str ∧ (ys.map (·.length)).sum + ys.length * a.length ≤ 16777216 ∧ R (.str (Txt.join a ys)) := propext Iff.rfl
theorem x_inSg {z : Str} : dInSg (.str a) (.str z) R = ∃ c : Nat, a = ⟨#[c]⟩ ∧ R (.bl (decide (c ∈ z.cps.toList))) := propext Iff.rfl
theorem x_fmtS : dFmt (.str a) R = (a.length ≤ sizeLine ∧ R (.str a)) := propext Iff.rfl
theorem x_fmtI : dFmt (.int i) R = (i.natAbs.log2 < 1920 ∧ R (.str (toString i))) := propext Iff.rfl
theorem x_toISi : dToIS [.int i] R = R (.int i) := propext Iff.rfl
theorem x_toISb : dToIS [.bl k] R = R (.int (if k then 1 else 0)) := propext Iff.rfl
theorem x_toISs : dToIS [.str a] R = ∃ n : Int, (PySem.intText? a = some n ∧ a.length ≤ 640) ∧ R (.int n) := propext Iff.rfl
theorem x_sgn {p : TED} {ρ : PEnv} {F : List D → Prop} : sSgn p ρ F = p ρ fun x => strOf x fun a => F (sgns a) := propext Iff.rfl
end
end DL

set_option Elab.async false
set_option linter.all false
set_option maxRecDepth 100000
set_option maxHeartbeats 4000000
namespace DL
open PySem PySem.Spec PyProof.Rows L2 TL
def dStrI (xs : List D) (R : D → Prop) : Prop := dOne xs fun x => match x with
  | .int i => i.natAbs.log2 < 1920 ∧ R (.str (toString i))
  | _ => False
theorem c_strI {K : PySem.W.Frag} : CL K (fun xs H Q => ∃ i, xs = [.int i] ∧ i.natAbs.log2 < 1920 ∧ Q (.str (toString i)) H) .strong dStrI := fun c own A σ ρ H vs ds R Q hk E r1 g q => by
  obtain ⟨x, rfl, g⟩ := dOne_iff g
  obtain ⟨v, rfl, r⟩ := paired1 r1
  cases x with
  | int i =>
    have e := RepW.int r
    subst e
    exact ⟨i, rfl, g.1, q c _ H _ (Step.refl E.fok) (.str _) g.2⟩
  | _ => exact g.elim
theorem x_strI {i : Int} {R : D → Prop} : dStrI [.int i] R = (i.natAbs.log2 < 1920 ∧ R (.str (toString i))) := propext Iff.rfl
def sI (i : Int) : Str := toString i
theorem tl_sI (i : Int) : tl (sI i) = if i < 0 then 45 :: numL i.natAbs else numL i.natAbs := by
  unfold sI
  cases i with
  | ofNat n =>
    rw [if_neg (show ¬ Int.ofNat n < 0 from Int.not_lt.mpr (Int.natCast_nonneg n))]
    exact tl_num n
  | negSucc m =>
    rw [if_pos (by omega)]
    show tl (Str.ofString (toString (Int.negSucc m))) = 45 :: numL (m + 1)
    rw [tl_ofString, show (toString (Int.negSucc m)) = "-" ++ toString ((m + 1 : Nat)) from rfl, String.toList_append, List.map_append]
    have := tl_num (m + 1)
    rw [tl_ofString, show (toString (((m + 1 : Nat)) : Int)) = toString ((m + 1 : Nat)) from rfl] at this
    rw [this]
    rfl
theorem sI_free {i : Int} {s : Nat} (h : (s < 48 ∨ 57 < s) ∧ s ≠ 45) : s ∉ tl (sI i) := by
  rw [tl_sI]
  split
  · intro z
    rcases List.mem_cons.mp z with e | e
    · exact h.2 e
    · exact numL_free h.1 e
  · exact numL_free h.1
theorem sI_ne (i : Int) : tl (sI i) ≠ [] := by
  rw [tl_sI]
  split
  · simp
  · exact numL_ne _
theorem int_back (i : Int) (h : (numL i.natAbs).length ≤ 4000) : PySem.intText? (sI i) = some i := by
  by_cases z : i < 0
  · have e := tl_sI i
    rw [if_pos z] at e
    have := PySem.intText_neg (x := sI i) e (numL_digits _) (numL_ne _) (by rw [len_tl, e, List.length_cons]; omega)
    rw [numL_val] at this
    rw [this]
    congr 1
    omega
  · have e := tl_sI i
    rw [if_neg z] at e
    have := PySem.intText_digits (x := sI i) (by rw [show (sI i).cps.toList = _ from e]; exact numL_digits _) (by rw [show (sI i).cps.toList = _ from e]; exact numL_ne _) (by rw [len_tl, e]; omega)
    rw [show (sI i).cps.toList = _ from e, numL_val] at this
    rw [this]
    congr 1
    omega
theorem numL_head {n : Nat} (h : 0 < n) : ∃ c r, numL n = c :: r ∧ 49 ≤ c := by
  induction n using Nat.strongRecOn with
  | _ n ih =>
    by_cases c : n < 10
    · rw [numL_lt c]
      exact ⟨_, [], rfl, by omega⟩
    · obtain ⟨d, r, e, hd⟩ := ih (n / 10) (by omega) (by omega)
      rw [numL_step (by omega), e]
      exact ⟨d, _, rfl, hd⟩
end DL

set_option Elab.async false
set_option linter.all false
set_option maxRecDepth 100000
set_option maxHeartbeats 4000000
namespace DL
open PySem PySem.Spec PyProof.Rows L2

def b_l_deal_1 : TSD := (sSet 3 (p2 dMod (p2 dAdd (p2 dMul (pV 3) (pC (.int 48271))) (p2 dMod (pV 4) (pC (.int 2147483629)))) (pC (.int 2147483647))))
def p_l_deal_3 : TSD := (sRetDeal (pV 3) (p1 dRev (pComp (sSeq (pV 2)) (gN 4) (tV (p2 dGeI (pV 4) (p2 dPow (pC (.int 10)) (pC (.int 18))))) (pV 4) [4])))
def p_l_deal_2 : TSD := (sSeqD (sFor (sSeq (pV 2)) (gN 4) b_l_deal_1) p_l_deal_3)
def p_l_deal_1 : TSD := (sSeqD (sSet 3 (p2 dAdd (pC (.int 7919)) (pV 1))) p_l_deal_2)
def p_l_deal : TSD := (sSeqD (sSet 2 (pComp (sSeq (pSl dSl (pV 0) (oSome (pV 1)) (oSome (pC (.int 63))))) (gN 4) tYesD (pL dMax2 (paC (pV 4) (paC (p2 dSub (pC (.int 0)) (pV 4)) paN))) [4])) p_l_deal_1)
def w_l_deal : List D → (D → Prop) → Prop := fnW .strong 5 p_l_deal
abbrev w_l_draw : List D → (D → Prop) → Prop := wDraw
def b_l_island_1 : TSD := (sSeqD (sSet 3 (p2 dIxA (pLst (paC (pC (.int 1)) (paC (pC (.int 12)) (paC (p2 dPow (pC (.int 10)) (pC (.int 4))) (paC (p2 dPow (pC (.int 10)) (pC (.int 18))) paN))))) (pCall w_l_draw (paC (pV 0) (paC (pC (.int 4)) paN))))) (sApp 1 (pTup (paC (p2 dSub (pCall w_l_draw (paC (pV 0) (paC (p2 dAdd (p2 dMul (pC (.int 2)) (pV 3)) (pC (.int 1))) paN))) (pV 3)) (paC (p2 dSub (pCall w_l_draw (paC (pV 0) (paC (p2 dAdd (p2 dMul (pC (.int 2)) (pV 3)) (pC (.int 1))) paN))) (pV 3)) paN)))))
def p_l_island_2 : TSD := (sRet (pL dTuple (paC (p1 dSrtU (pV 1)) paN)))
def p_l_island_1 : TSD := (sSeqD (sFor (sRng1 (paC (pCall w_l_draw (paC (pV 0) (paC (p2 dIxA (pLst (paC (pC (.int 3)) (paC (pC (.int 21)) paN))) (pCall w_l_draw (paC (pV 0) (paC (pC (.int 2)) paN)))) paN))) paN)) (gN 2) b_l_island_1) p_l_island_2)
def p_l_island : TSD := (sSeqD (sSet 1 (pLst paN)) p_l_island_1)
def w_l_island : List D → (D → Prop) → Prop := fnW .strong 4 p_l_island
def p_show_cell : TSD := (sRet (pJoined [(p1 dFmt (p2 dIxA (pV 0) (pC (.int 0)))), (pC (.str ",")), (p1 dFmt (p2 dIxA (pV 0) (pC (.int 1))))]))
def w_show_cell : List D → (D → Prop) → Prop := fnW .strong 1 p_show_cell
def p_show_island_1 : TSD := (sRet (pM1 mJoin (pC (.str " ")) (pComp (sSeq (pV 0)) (gN 1) tYesD (pCall w_show_cell (paC (pV 1) paN)) [1])))
def p_show_island : TSD := (sSeqD (sIf (tV (p2 dEq (pV 0) (pTup paN))) (sRet (pC (.str "."))) sNext) p_show_island_1)
def w_show_island : List D → (D → Prop) → Prop := fnW .strong 2 p_show_island
def p_number_in_3 : TSD := (sSeqD (sIf (tAndD (tV (p2 dEqS (p2 dIxA (pV 2) (pC (.int 0))) (pC (.str "0")))) (tV (p2 dNeS (pV 0) (pC (.str "0"))))) (sRet (pC .non)) sNext) (sRet (pL dToIS (paC (pV 0) paN))))
def p_number_in_2 : TSD := (sSeqD (sIf (tOrD (tNotD (tV (pChain dLeI dLeI (pC (.int 1)) (pL dLen (paC (pV 2) paN)) (pV 1)))) (tNotD (tV (pL dAll (paC (pComp (sSgn (pV 2)) (gN 3) tYesD (p2 dInSg (pV 3) (pC (.str "0123456789"))) [3]) paN))))) (sRet (pC .non)) sNext) p_number_in_3)
def p_number_in_1 : TSD := (sSeqD (sIf (tV (pM1 mStarts (pV 0) (pC (.str "-")))) (sSet 2 (pSl dSl (pV 0) (oSome (pC (.int 1))) oNone)) sNext) p_number_in_2)
def p_number_in : TSD := (sSeqD (sSet 2 (pV 0)) p_number_in_1)
def w_number_in : List D → (D → Prop) → Prop := fnW .strong 4 p_number_in
def p_cell_in_4 : TSD := (sRet (pTup (paC (pV 3) (paC (pV 4) paN))))
def p_cell_in_3 : TSD := (sSeqD (sIf (tOrD (tV (p2 dIsN (pV 3) (pC .non))) (tV (p2 dIsN (pV 4) (pC .non)))) (sRet (pC .non)) sNext) p_cell_in_4)
def p_cell_in_2 : TSD := (sSeqD (sPar 3 4 (paC (pCall w_number_in (paC (p2 dIxA (pV 2) (pC (.int 0))) (paC (pV 1) paN))) (paC (pCall w_number_in (paC (p2 dIxA (pV 2) (pC (.int 1))) (paC (pV 1) paN))) paN))) p_cell_in_3)
def p_cell_in_1 : TSD := (sSeqD (sIf (tV (p2 dNe (pL dLen (paC (pV 2) paN)) (pC (.int 2)))) (sRet (pC .non)) sNext) p_cell_in_2)
def p_cell_in : TSD := (sSeqD (sSet 2 (pM1 mSplit (pV 0) (pC (.str ",")))) p_cell_in_1)
def w_cell_in : List D → (D → Prop) → Prop := fnW .strong 5 p_cell_in
def b_read_island_1 : TSD := (sSeqD (sSet 3 (pCall w_cell_in (paC (pV 2) (paC (pC (.int 19)) paN)))) (sSeqD (sIf (tOrD (tV (p2 dIsN (pV 3) (pC .non))) (tAndD (tV (p2 dNe (pV 1) (pLst paN))) (tV (p2 (dOrd fGe) (p2 dIxA (pV 1) (p1 dNeg (pC (.int 1)))) (pV 3))))) sFail sNext) (sApp 1 (pV 3))))
def p_read_island_2 : TSD := (sSeqD (sFor (sSeq (pM1 mSplit (pV 0) (pC (.str " ")))) (gN 2) b_read_island_1) (sRet (pL dTuple (paC (pV 1) paN))))
def p_read_island_1 : TSD := (sSeqD (sSet 1 (pLst paN)) p_read_island_2)
def p_read_island : TSD := (sSeqD (sIf (tV (p2 dEqS (pV 0) (pC (.str ".")))) (sRet (pTup paN)) sNext) p_read_island_1)
def w_read_island : List D → (D → Prop) → Prop := fnW .strong 4 p_read_island
def b_l_text_1 : TSD := (sSet 1 (p2 dAdd (p2 dAdd (p2 dAdd (p2 dAdd (pV 1) (pC (.str " "))) (pL dStrI (paC (pV 2) paN))) (pC (.str ","))) (pL dStrI (paC (pV 3) paN))))
def p_l_text_2 : TSD := (sRet (pIf (tV (p2 dNe (pV 0) (pTup paN))) (pSl dSl (pV 1) (oSome (pC (.int 1))) oNone) (pC (.str "."))))
def p_l_text_1 : TSD := (sSeqD (sFor (sSeq (pV 0)) (gT (gsC (gN 2) (gsC (gN 3) gsN))) b_l_text_1) p_l_text_2)
def p_l_text : TSD := (sSeqD (sSet 1 (pC (.str ""))) p_l_text_1)
def w_l_text : List D → (D → Prop) → Prop := fnW .strong 4 p_l_text
def p_l_whole : TSD := (sRet (pAnd (pL dIsi (paC (pV 0) (paC (pC (.ty "int")) paN))) (pNot (pL dIsi (paC (pV 0) (paC (pC (.ty "bool")) paN))))))
def w_l_whole : List D → (D → Prop) → Prop := fnW .strong 1 p_l_whole
def p_l_right_4 : TSD := (sRet (pL dAll (paC (pComp (sSeq (pV 2)) (gN 3) tYesD (pAnd (pL dIsi (paC (pV 3) (paC (pC (.ty "tuple")) paN))) (pAnd (pCall w_l_whole (paC (p2 dIxA (pV 3) (pC (.int 0))) paN)) (pCall w_l_whole (paC (p2 dIxA (pV 3) (pC (.int 1))) paN)))) [3]) paN)))
def p_l_right_3 : TSD := (sSeqD (sIf (tOrD (tNotD (tV (pL dIsi (paC (pV 2) (paC (pC (.ty "tuple")) paN))))) (tV (p2 dNe (pV 2) (pV 0)))) (sRet (pC (.bl false))) sNext) p_l_right_4)
def p_l_right_2 : TSD := (sSeqD (sSet 2 (pCall w_read_island (paC (pV 1) paN))) p_l_right_3)
def p_l_right_1 : TSD := (sSeqD (sIf (tOrD (tNotD (tV (pL dIsi (paC (pV 1) (paC (pC (.ty "str")) paN))))) (tV (p2 dNeS (pV 1) (pCall w_l_text (paC (pV 0) paN))))) (sRet (pC (.bl false))) sNext) p_l_right_2)
def p_l_right : TSD := (sSeqD (sSet 1 (pCall w_show_island (paC (pV 0) paN))) p_l_right_1)
def w_l_right : List D → (D → Prop) → Prop := fnW .strong 4 p_l_right
def p_law_3 : TSD := (sRet (pAnd (pCall w_l_right (paC (pV 2) paN)) (p2 dEq (pCall w_read_island (paC (pCall w_l_text (paC (pV 3) paN)) paN)) (pV 3))))
def p_law_2 : TSD := (sSeqD (sIf (tOrD (tNotD (tV (pCall w_l_right (paC (pV 2) paN)))) (tOrD (tNotD (tV (pCall w_l_right (paC (pV 3) paN)))) (tNotD (tV (pCall w_l_right (paC (pTup paN) paN)))))) (sRet (pC (.bl false))) sNext) p_law_3)
def p_law_1 : TSD := (sSeqD (sPar 2 3 (paC (pCall w_l_island (paC (pV 1) paN)) (paC (pCall w_l_island (paC (pV 1) paN)) paN))) p_law_2)
def p_law : TSD := (sSeqD (sSet 1 (pCall w_l_deal (paC (pV 0) (paC (pC (.int 0)) paN)))) p_law_1)
def w_law : List D → (D → Prop) → Prop := fnW .strong 4 p_law

end DL

set_option Elab.async false
set_option linter.all false
set_option maxRecDepth 100000
set_option maxHeartbeats 4000000
namespace DL
open PySem PySem.Spec PyProof.Rows L2
local macro_rules | `(tactic| walk_at "dl") => `(tactic| try simp only [x_fnS, x_fnF, x_seq, x_next, x_pass, x_brk, x_cnt, x_set, x_ret, x_retN, x_if, x_asg, x_drop, x_par, x_par3, x_two, x_three, x_for, x_gN, x_gsN, x_gsC, x_gT, x_gTl, x_pV, x_opt, x_pC, x_p1, x_p2, x_pL, x_call, x_callW, x_paN, x_paC, x_tup, x_lst, x_tV, x_tAnd, x_tOr, x_tNot, x_pAnd, x_pOr, x_pNot, x_pIf, x_chain, x_bl, x_int, x_addI, x_addS, x_addL, x_addT, x_cat, x_sub, x_mul, x_mulL, x_mulT, x_rep, x_div, x_mod, x_pow, x_neg, x_eq, x_ne, x_ltI, x_leI, x_gtI, x_geI, x_isN, x_notN, x_nN, x_nI, x_nB, x_nS, x_nT, x_nL, x_ixT, x_ixL, x_ixS, x_len_l, x_len_t, x_len_c, x_len_s, x_all, x_any, x_abs, x_max2, x_min2, x_toI, x_toB, x_tuL, x_tuT, x_rev, x_pSl, x_oN, x_oS, x_slL, x_slT, x_slC, x_slS, x_slLL, x_slLC, x_sSeq, x_seqL, x_seqT, x_one, x_rng1, x_rng2, x_comp, x_w0, x_w1, x_start, x_yes, x_comp0, x_for0, x_app, x_own, x_optL, x_item, x_draw, x_retDeal, ok_i, ok_b, ok_n, ok_t, ok_l, ok_0, ok_c, eq_ii, eq_tt, eq_ll, eq_0, eq_c, eq_ss, eq_bb, eq_nn, x_sZip, x_sEnum, x_twoD, x_oneD, x_zipL, x_zipT, x_zc, x_zn, x_enL, x_sZipM, x_zipM, x_sum, x_max, x_min, x_pop, x_revs, x_ext, x_ins, x_dLst, x_sEnumM, x_enM, x_newD, x_store, x_stoL, x_stoT, x_stoK, x_sto2, x_putT, x_inAL, x_inAT, x_niAL, x_niAT, x_inA2, x_niA2, x_ixAT, x_ixAL, x_ixAS, x_liAL, x_liAT, x_liA2, x_band, x_bor, x_bxor, x_shl, x_shr, x_lrg1, x_lrg2, x_index, x_lstOf, x_aug, x_revAL, x_revAT, x_sumAL, x_sumAT, x_repr, x_take, x_retFeed, x_fail, x_popA, x_ixC, x_neS, x_eqS, x_isB, x_notB, x_extA, x_callN, x_pairs, x_strOf, x_pM1, x_joined, x_js0, x_js1, x_split, x_starts, x_part, x_joinL, x_joinT, x_inSg, x_fmtS, x_fmtI, x_toISi, x_toISb, x_toISs, x_sgn, x_strI, isi_int_int, isi_int_bool, isi_int_str, isi_int_tuple, isi_int_list, isi_bl_int, isi_bl_bool, isi_bl_str, isi_bl_tuple, isi_bl_list, isi_str_int, isi_str_bool, isi_str_str, isi_str_tuple, isi_str_list, isi_non_int, isi_non_bool, isi_non_str, isi_non_tuple, isi_non_list, isi_tup_int, isi_tup_bool, isi_tup_str, isi_tup_tuple, isi_tup_list, isi_lst_int, isi_lst_bool, isi_lst_str, isi_lst_tuple, isi_lst_list, List.map_cons, List.map_nil, List.length_cons, List.length_nil, List.cons_append, List.nil_append, List.reduceReplicate, Nat.reduceSub, Nat.reduceAdd, Int.cast_ofNat_Int, List.getElem?_cons_zero, List.getElem?_cons_succ, List.set_cons_zero, List.set_cons_succ, atI_0, atI_1, atI_2, atI_3, Option.some.injEq, exists_eq_left', exists_eq_left, Bool.and_self, Bool.and_true, Bool.true_and, Bool.and_false, Bool.false_and, Bool.not_false, Bool.not_true, if_true, if_false, ite_true, ite_false, true_and, and_true, Bool.false_eq_true, beq_self_eq_true, decide_true, decide_false, Bool.not_not, reduceIte, decide_eq_true_eq])
local macro_rules | `(tactic| walk_at "un") => `(tactic| try simp only [x_comp1, x_for1, x_fnS, x_fnF, x_seq, x_next, x_pass, x_brk, x_cnt, x_set, x_ret, x_retN, x_if, x_asg, x_drop, x_par, x_par3, x_two, x_three, x_for, x_gN, x_gsN, x_gsC, x_gT, x_gTl, x_pV, x_opt, x_pC, x_p1, x_p2, x_pL, x_call, x_callW, x_paN, x_paC, x_tup, x_lst, x_tV, x_tAnd, x_tOr, x_tNot, x_pAnd, x_pOr, x_pNot, x_pIf, x_chain, x_bl, x_int, x_addI, x_addS, x_addL, x_addT, x_cat, x_sub, x_mul, x_mulL, x_mulT, x_rep, x_div, x_mod, x_pow, x_neg, x_eq, x_ne, x_ltI, x_leI, x_gtI, x_geI, x_isN, x_notN, x_nN, x_nI, x_nB, x_nS, x_nT, x_nL, x_ixT, x_ixL, x_ixS, x_len_l, x_len_t, x_len_c, x_len_s, x_all, x_any, x_abs, x_max2, x_min2, x_toI, x_toB, x_tuL, x_tuT, x_rev, x_pSl, x_oN, x_oS, x_slL, x_slT, x_slC, x_slS, x_slLL, x_slLC, x_sSeq, x_seqL, x_seqT, x_one, x_rng1, x_rng2, x_comp, x_w0, x_w1, x_start, x_yes, x_comp0, x_for0, x_app, x_own, x_optL, x_item, x_draw, x_retDeal, ok_i, ok_b, ok_n, ok_t, ok_l, ok_0, ok_c, eq_ii, eq_tt, eq_ll, eq_0, eq_c, eq_ss, eq_bb, eq_nn, x_sZip, x_sEnum, x_twoD, x_oneD, x_zipL, x_zipT, x_zc, x_zn, x_enL, x_sZipM, x_zipM, x_sum, x_max, x_min, x_pop, x_revs, x_ext, x_ins, x_dLst, x_sEnumM, x_enM, x_newD, x_store, x_stoL, x_stoT, x_stoK, x_sto2, x_putT, x_inAL, x_inAT, x_niAL, x_niAT, x_inA2, x_niA2, x_ixAT, x_ixAL, x_ixAS, x_liAL, x_liAT, x_liA2, x_band, x_bor, x_bxor, x_shl, x_shr, x_lrg1, x_lrg2, x_index, x_lstOf, x_aug, x_revAL, x_revAT, x_sumAL, x_sumAT, x_repr, x_take, x_retFeed, x_fail, x_popA, x_ixC, x_neS, x_eqS, x_isB, x_notB, x_extA, x_callN, x_pairs, x_strOf, x_pM1, x_joined, x_js0, x_js1, x_split, x_starts, x_part, x_joinL, x_joinT, x_inSg, x_fmtS, x_fmtI, x_toISi, x_toISb, x_toISs, x_sgn, x_strI, isi_int_int, isi_int_bool, isi_int_str, isi_int_tuple, isi_int_list, isi_bl_int, isi_bl_bool, isi_bl_str, isi_bl_tuple, isi_bl_list, isi_str_int, isi_str_bool, isi_str_str, isi_str_tuple, isi_str_list, isi_non_int, isi_non_bool, isi_non_str, isi_non_tuple, isi_non_list, isi_tup_int, isi_tup_bool, isi_tup_str, isi_tup_tuple, isi_tup_list, isi_lst_int, isi_lst_bool, isi_lst_str, isi_lst_tuple, isi_lst_list, List.map_cons, List.map_nil, List.length_cons, List.length_nil, List.cons_append, List.nil_append, List.reduceReplicate, Nat.reduceSub, Nat.reduceAdd, Int.cast_ofNat_Int, List.getElem?_cons_zero, List.getElem?_cons_succ, List.set_cons_zero, List.set_cons_succ, atI_0, atI_1, atI_2, atI_3, Option.some.injEq, exists_eq_left', exists_eq_left, Bool.and_self, Bool.and_true, Bool.true_and, Bool.and_false, Bool.false_and, Bool.not_false, Bool.not_true, if_true, if_false, ite_true, ite_false, true_and, and_true, Bool.false_eq_true, beq_self_eq_true, decide_true, decide_false, Bool.not_not, reduceIte, decide_eq_true_eq])
local macro_rules | `(tactic| walk_at "bb") => `(tactic| first | assumption | with_reducible exact bnd_lit _ | (with_reducible apply bnd_sub <;> walk_at "bb") | (with_reducible apply bnd_add <;> walk_at "bb") | (with_reducible apply bnd_mul <;> walk_at "bb") | (with_reducible apply bnd_neg <;> walk_at "bb"))
local macro_rules | `(tactic| walk_at "mo") => `(tactic| exact bnd_mulOk (by walk_at "bb") (by walk_at "bb"))
local macro_rules | `(tactic| walk_at "bm") => `(tactic| exact bnd_mono (by walk_at "bb") (by decide))
local macro_rules | `(tactic| walk_at "cl") => `(tactic| simp only [okp, okps, okpt, okpl, anyp, eqp, eqps, okr, okrs, okrt, okrl, anyr, eqr, eqrs, eq_pnil, eq_tnil, true_and, and_true, List.length_map])
def cellS (c : Cell) : Str := Txt.join "," [sI c.1, sI c.2]
def inN (k : Nat) (i : Int) : Prop := i.natAbs < 10 ^ k
theorem cellS_tl (c : Cell) : TL.tl (cellS c) = TL.tl (sI c.1) ++ (44 :: TL.tl (sI c.2)) := by
  unfold cellS
  rw [TL.join_eq, TL.tl_join]
  rfl
theorem cellS_add (c : Cell) : Str.empty ++ sI c.1 ++ "," ++ sI c.2 = cellS c := by
  refine TL.ext_tl ?_
  rw [cellS_tl, TL.tl_append, TL.tl_append, TL.tl_append]
  show ([] ++ TL.tl (sI c.1)) ++ [44] ++ TL.tl (sI c.2) = _
  simp
theorem cellS_free {c : Cell} {s : Nat} (h : (s < 48 ∨ 57 < s) ∧ s ≠ 45 ∧ s ≠ 44) : s ∉ TL.tl (cellS c) := by
  rw [cellS_tl]
  intro z
  rcases List.mem_append.mp z with z | z
  · exact sI_free ⟨h.1, h.2.1⟩ z
  · rcases List.mem_cons.mp z with e | z
    · exact h.2.2 e
    · exact sI_free ⟨h.1, h.2.1⟩ z
theorem cellS_split (c : Cell) : Txt.split (cellS c) "," = [sI c.1, sI c.2] := by
  unfold cellS
  refine TL.split_join (y := ",") (s := 44) (S := []) rfl (by decide +kernel) (by simp) fun p hp => ?_
  simp only [List.mem_cons, List.not_mem_nil, or_false] at hp
  rcases hp with rfl | rfl
  · exact sI_free ⟨by decide, by decide⟩
  · exact sI_free ⟨by decide, by decide⟩
theorem sI_len {k : Nat} (hk : 0 < k) {i : Int} (h : inN k i) : (sI i).length ≤ k + 1 := by
  rw [TL.len_tl, tl_sI]
  have := TL.numL_len hk h
  split
  · rw [List.length_cons]; omega
  · omega
theorem cellS_len {k : Nat} (hk : 0 < k) {c : Cell} (h1 : inN k c.1) (h2 : inN k c.2) : (cellS c).length ≤ 2 * k + 3 := by
  have a := sI_len hk h1
  have b := sI_len hk h2
  rw [TL.len_tl] at a b
  rw [TL.len_tl, cellS_tl, List.length_append, List.length_cons]
  omega
def islS (is : List Cell) : Str := if is = [] then "." else Txt.join " " (is.map cellS)
theorem log_ok {k : Nat} (hk : k ≤ 40) {i : Int} (h : inN k i) : i.natAbs.log2 < 1920 := by
  by_cases z : i.natAbs = 0
  · rw [z]; decide
  · refine (Nat.log2_lt z).mpr (Nat.lt_of_lt_of_le h (Nat.le_trans (Nat.pow_le_pow_right (by decide) hk) ?_))
    exact Nat.le_trans (by decide : 10 ^ 40 ≤ 2 ^ 140) (Nat.pow_le_pow_right (by decide) (by decide))
theorem starts_pre (x y : Str) (hy : TL.tl y ≠ []) : Txt.startswith x y = TL.pre (TL.tl y) (TL.tl x) := by
  have h := TL.at_iff (x := x) hy 0
  rw [List.drop_zero] at h
  rw [Bool.eq_iff_iff, ← h]
  unfold Txt.startswith PySem.StrLaws.At
  rw [Bool.and_eq_true, decide_eq_true_iff]
theorem starts_minus (i : Int) : Txt.startswith (sI i) "-" = decide (i < 0) := by
  rw [starts_pre _ _ (by decide +kernel), show TL.tl ("-" : Str) = [45] from by decide +kernel, tl_sI]
  by_cases z : i < 0
  · rw [if_pos z, decide_eq_true z]
    rfl
  · rw [if_neg z, decide_eq_false z]
    cases e : TL.numL i.natAbs with
    | nil => exact absurd e (TL.numL_ne _)
    | cons c r =>
      refine TL.pre_of_head [] r fun e2 => ?_
      have := TL.numL_digits i.natAbs c (by rw [e]; simp)
      omega
theorem minus_cut {i : Int} (z : i < 0) : TL.tl (cutS (sI i) (some 1) none) = TL.numL i.natAbs := by
  have e := tl_sI i
  rw [if_pos z] at e
  unfold cutS
  rw [TL.len_tl, show (sI i).cps.toList = TL.tl (sI i) from rfl, e, show (1 : Int) = ((1 : Nat) : Int) from rfl, HT.sIx_nat, HT.sIx_none]
  show ((45 :: TL.numL i.natAbs).drop _).take _ = _
  rw [List.length_cons, Nat.min_eq_left (by omega)]
  show (TL.numL i.natAbs).take _ = _
  exact List.take_of_length_le (by omega)
theorem plus_tl {i : Int} (z : ¬ i < 0) : TL.tl (sI i) = TL.numL i.natAbs := by rw [tl_sI, if_neg z]
theorem digits_all {n c : Nat} (h : c ∈ TL.numL n) : c ∈ TL.tl ("0123456789" : Str) := by
  have := TL.numL_digits n c h
  rw [show TL.tl ("0123456789" : Str) = [48, 49, 50, 51, 52, 53, 54, 55, 56, 57] from by decide +kernel]
  have h1 : c = 48 ∨ c = 49 ∨ c = 50 ∨ c = 51 ∨ c = 52 ∨ c = 53 ∨ c = 54 ∨ c = 55 ∨ c = 56 ∨ c = 57 := by omega
  simp only [List.mem_cons, List.not_mem_nil, or_false]
  omega
theorem islS_split {is : List Cell} (h : is ≠ []) : Txt.split (islS is) " " = is.map cellS := by
  unfold islS
  rw [if_neg h]
  refine TL.split_join (y := " ") (s := 32) (S := []) (by decide +kernel) (by decide +kernel) (by simpa using h) fun p hp => ?_
  obtain ⟨c, _, rfl⟩ := List.mem_map.mp hp
  exact cellS_free (by decide)
def addS (is : List Cell) : Str := is.foldl (fun t c => t ++ " " ++ sI c.1 ++ "," ++ sI c.2) Str.empty
theorem addS_tl : ∀ (is : List Cell) (t : Str), TL.tl (is.foldl (fun t c => t ++ " " ++ sI c.1 ++ "," ++ sI c.2) t) = TL.tl t ++ is.flatMap fun c => 32 :: TL.tl (cellS c)
  | [], t => by simp
  | c :: is, t => by
    rw [List.foldl_cons, addS_tl is, List.flatMap_cons, TL.tl_append, TL.tl_append, TL.tl_append, TL.tl_append, cellS_tl]
    show (TL.tl t ++ [32] ++ TL.tl (sI c.1) ++ [44] ++ TL.tl (sI c.2)) ++ _ = _
    simp
theorem join_flat : ∀ (c : Cell) (is : List Cell), 32 :: TL.joinL [32] ((c :: is).map fun c => TL.tl (cellS c)) = (c :: is).flatMap fun c => 32 :: TL.tl (cellS c)
  | c, [] => by simp [TL.joinL]
  | c, d :: is => by
    rw [List.flatMap_cons, ← join_flat d is]
    show 32 :: (TL.tl (cellS c) ++ ([32] ++ TL.joinL [32] ((d :: is).map fun c => TL.tl (cellS c)))) = _
    simp
theorem addS_cut {is : List Cell} (h : is ≠ []) : cutS (addS is) (some 1) none = islS is := by
  obtain ⟨c, is', rfl⟩ := List.exists_cons_of_ne_nil h
  refine TL.ext_tl ?_
  have e := addS_tl (c :: is') Str.empty
  rw [← join_flat c is'] at e
  have e : TL.tl (addS (c :: is')) = 32 :: TL.joinL [32] ((c :: is').map fun c => TL.tl (cellS c)) := e
  unfold islS
  rw [if_neg h, TL.join_eq, TL.tl_join, show TL.tl (" " : Str) = [32] from by decide +kernel, List.map_map]
  unfold cutS
  rw [TL.len_tl, show (addS (c :: is')).cps.toList = TL.tl (addS (c :: is')) from rfl, e, show (1 : Int) = ((1 : Nat) : Int) from rfl, HT.sIx_nat, HT.sIx_none, List.length_cons, Nat.min_eq_left (by omega)]
  show (TL.joinL [32] _).take _ = _
  rw [List.take_of_length_le (by omega)]
  rfl
theorem len_app (a b : Str) : (a ++ b).length = a.length + b.length := by rw [TL.len_tl, TL.tl_append, List.length_append, ← TL.len_tl, ← TL.len_tl]
theorem len_e : Str.empty.length = 0 := rfl
theorem len_comma : ("," : Str).length = 1 := by decide +kernel
theorem len_blank : (" " : Str).length = 1 := by decide +kernel
theorem q_show_cell (c : Cell) (h1 : inN 40 c.1) (h2 : inN 40 c.2) (R : D → Prop) (h : R (.str (cellS c))) : w_show_cell [prD c] R := by
  have l1 := sI_len (by decide) h1
  have l2 := sI_len (by decide) h2
  have h' : R (.str (Str.empty ++ sI c.1 ++ "," ++ sI c.2)) := by rw [cellS_add]; exact h
  unfold w_show_cell p_show_cell prD
  walk_at "dl"
  refine ⟨log_ok (by decide) h1, ?_, ?_, log_ok (by decide) h2, ?_, h'⟩
  · show (Str.empty ++ sI c.1).length ≤ _
    rw [len_app, len_e]; exact sz_small (by omega)
  · show (Str.empty ++ sI c.1 ++ ",").length ≤ _
    rw [len_app, len_app, len_e, len_comma]; exact sz_small (by omega)
  · show (Str.empty ++ sI c.1 ++ "," ++ sI c.2).length ≤ _
    rw [len_app, len_app, len_app, len_e, len_comma]; exact sz_small (by omega)
theorem q_show_island (is : List Cell) (hl : is.length ≤ 1000) (hb : ∀ c ∈ is, inN 40 c.1 ∧ inN 40 c.2) (R : D → Prop) (h : R (.str (islS is))) : w_show_island [.tup (is.map prD)] R := by
  unfold w_show_island p_show_island
  walk_at "dl"
  walk_at "cl"
  by_cases z : is = []
  · rw [decide_eq_true z, if_pos rfl]
    unfold islS at h
    rw [if_pos z] at h
    exact h
  · rw [decide_eq_false z, if_neg (by decide)]
    unfold p_show_island_1
    walk_at "dl"
    refine ⟨by rw [List.length_map]; exact sz_small hl, compG prD (fun c => D.str (cellS c)) is [] _ (fun c hc R' hR => ?_) ?_⟩
    · walk_at "dl"
      exact q_show_cell c (hb c hc).1 (hb c hc).2 _ hR
    · rw [List.nil_append]
      walk_at "dl"
      refine ⟨is.map cellS, by rw [List.map_map]; rfl, ?_, ?_⟩
      · have : ((is.map cellS).map (·.length)).sum ≤ 83 * is.length := by
          clear h z hl
          induction is with
          | nil => simp
          | cons c is ih =>
            rw [List.map_cons, List.map_cons, List.sum_cons, List.length_cons]
            have := cellS_len (k := 40) (by decide) (hb c (by simp)).1 (hb c (by simp)).2
            have := ih fun d hd => hb d (by simp [hd])
            omega
        rw [List.length_map, len_blank]
        omega
      · unfold islS at h
        rw [if_neg z] at h
        exact h
theorem q_number_in (i : Int) (K : Nat) (hK : K ≤ 40) (hn : (TL.numL i.natAbs).length ≤ K) (R : D → Prop) (h : R (.int i)) : w_number_in [.str (sI i), .int (K : Int)] R := by
  have sl : (sI i).length ≤ 41 := by
    rw [TL.len_tl, tl_sI]
    split
    · rw [List.length_cons]; omega
    · omega
  have fin : ∀ F : Str, TL.tl F = TL.numL i.natAbs → p_number_in_2 ⟨fun _ => R .non, R, fun _ => False, fun _ => False⟩ [some (.str (sI i)), some (.int (K : Int)), some (.str F), none] := by
    intro F hF
    have fl : F.length = (TL.numL i.natAbs).length := by rw [TL.len_tl, hF]
    have f1 : 1 ≤ (TL.numL i.natAbs).length := List.length_pos_iff.mpr (TL.numL_ne _)
    unfold p_number_in_2
    walk_at "dl"
    have sg : sgns F = (TL.numL i.natAbs).map fun c => D.str ⟨#[c]⟩ := by unfold sgns; rw [show F.cps.toList = TL.tl F from rfl, hF]
    refine ⟨sz_small (by omega), ?_⟩
    rw [if_pos (by omega), if_neg (by simp; omega), sg]
    refine ⟨by rw [List.length_map]; exact sz_small (by omega), compG (fun c : Nat => D.str ⟨#[c]⟩) (fun _ => D.bl true) (TL.numL i.natAbs) [] _ (fun c hc R' hR => ?_) ?_⟩
    · walk_at "dl"
      refine ⟨c, rfl, ?_⟩
      rw [decide_eq_true (show c ∈ (Str.ofString "0123456789").cps.toList from digits_all hc)]
      exact hR
    · rw [List.nil_append]
      refine ⟨(TL.numL i.natAbs).map fun _ => true, by rw [List.map_map]; rfl, ?_⟩
      rw [if_neg (by simp)]
      have last : PySem.intText? (sI i) = some i ∧ (sI i).length ≤ 640 := ⟨int_back i (by omega), by omega⟩
      unfold p_number_in_3
      walk_at "dl"
      refine ⟨sz_small (by omega), ?_⟩
      by_cases z : i.natAbs = 0
      · have ei : i = 0 := by omega
        subst ei
        have e0 : TL.tl F = [48] := by rw [hF]; exact TL.numL_lt (by decide)
        have eF : F = ("0" : Str) := TL.ext_tl (by rw [e0]; decide +kernel)
        subst eF
        refine ⟨48, by rw [show (Str.ofString "0").cps.toList = [48] from by decide +kernel]; exact L2.atI_nat (xs := [48]) (j := 0) rfl, ?_⟩
        rw [if_pos (by decide +kernel), if_neg (by decide +kernel)]
        exact ⟨_, last, h⟩
      · obtain ⟨d, r, er, hd⟩ := numL_head (n := i.natAbs) (by omega)
        refine ⟨d, by rw [show F.cps.toList = TL.tl F from rfl, hF, er]; exact L2.atI_nat (xs := d :: r) (j := 0) rfl, ?_⟩
        rw [if_neg (fun e => by
          have := congrArg TL.tl e
          rw [show TL.tl (Str.ofString "0") = [48] from by decide +kernel] at this
          have : [d] = [48] := this
          injection this with h1 _
          omega)]
        exact ⟨_, last, h⟩
  unfold w_number_in p_number_in
  walk_at "dl"
  unfold p_number_in_1
  walk_at "dl"
  rw [starts_minus]
  by_cases z : i < 0
  · rw [decide_eq_true z, if_pos rfl]
    exact ⟨sz_small (by omega), fin _ (minus_cut z)⟩
  · rw [decide_eq_false z, if_neg (by decide)]
    exact fin _ (plus_tl z)
theorem q_cell_in (c : Cell) (K : Nat) (hK : K ≤ 40) (hk : 0 < K) (h1 : inN K c.1) (h2 : inN K c.2) (R : D → Prop) (h : R (prD c)) : w_cell_in [.str (cellS c), .int (K : Int)] R := by
  have l := cellS_len hk h1 h2
  unfold w_cell_in p_cell_in
  walk_at "dl"
  refine ⟨⟨by decide +kernel, (sz16 (by omega)).2⟩, ?_⟩
  rw [cellS_split]
  unfold p_cell_in_1
  walk_at "dl"
  unfold p_cell_in_2
  walk_at "dl"
  refine q_number_in c.1 K hK (TL.numL_len hk h1) _ ?_
  refine q_number_in c.2 K hK (TL.numL_len hk h2) _ ?_
  walk_at "dl"
  unfold p_cell_in_3
  walk_at "dl"
  unfold p_cell_in_4
  walk_at "dl"
  exact h
theorem islS_dot {is : List Cell} (h : is ≠ []) : islS is ≠ ("." : Str) := fun e => by
  have h1 := islS_split h
  rw [e, show Txt.split ("." : Str) " " = [("." : Str)] from by decide +kernel] at h1
  obtain ⟨c, is', rfl⟩ := List.exists_cons_of_ne_nil h
  rw [List.map_cons] at h1
  injection h1 with h2 _
  have := cellS_tl c
  rw [← h2, show TL.tl ("." : Str) = [46] from by decide +kernel] at this
  have h3 : 44 ∈ [46] := by rw [this]; simp
  simp at h3
theorem q_read_island (is : List Cell) (srt : is.Pairwise OD.lt) (hl : is.length ≤ 1000) (hb : ∀ c ∈ is, inN 19 c.1 ∧ inN 19 c.2) (R : D → Prop) (h : R (.tup (is.map prD))) : w_read_island [.str (islS is)] R := by
  unfold w_read_island p_read_island
  walk_at "dl"
  by_cases z : is = []
  · subst z
    rw [if_pos (show islS [] = ("." : Str) from rfl)]
    exact h
  · rw [if_neg (islS_dot z)]
    unfold p_read_island_1
    walk_at "dl"
    unfold p_read_island_2
    walk_at "dl"
    have il : (islS is).length ≤ 100 * is.length := by
      unfold islS
      rw [if_neg z, TL.join_eq]
      refine Nat.le_trans (PySem.StrLaws.join_length_le _ _) ?_
      have : ((is.map cellS).map (·.length)).sum ≤ 41 * is.length := by
        clear h z hl srt
        induction is with
        | nil => simp
        | cons c is ih =>
          rw [List.map_cons, List.map_cons, List.sum_cons, List.length_cons]
          have := cellS_len (k := 19) (by decide) (hb c (by simp)).1 (hb c (by simp)).2
          have := ih fun d hd => hb d (by simp [hd])
          omega
      rw [List.length_map, len_blank]
      omega
    refine ⟨⟨by decide +kernel, (sz16 (by omega)).2⟩, ?_⟩
    rw [islS_split z, List.map_map]
    refine forG (fun c => D.str (cellS c)) (fun rest ρ => ∃ (pre : List Cell) (o2 o3 : Option D), is = pre ++ rest ∧ ρ = [some (.str (islS is)), some (.lst (pre.map prD)), o2, o3]) ?_ ?_ _ _ ⟨[], none, none, rfl, rfl⟩
    · rintro c rest ρ N ⟨pre, o2, o3, er, rfl⟩ hN
      have hc : c ∈ is := by rw [er]; simp
      have pl : pre.length < is.length := by rw [er, List.length_append, List.length_cons]; omega
      have fin : (pre.map prD).length < sizeLine ∧ N [some (.str (islS is)), some (.lst (pre.map prD ++ [prD c])), some (.str (cellS c)), some (prD c)] := by
        refine ⟨by rw [List.length_map]; exact small1000 (by omega), hN _ ⟨pre ++ [c], some (.str (cellS c)), some (prD c), by rw [er, List.append_assoc]; rfl, ?_⟩⟩
        rw [List.map_append]
        rfl
      unfold b_read_island_1
      walk_at "dl"
      refine q_cell_in c 19 (by decide) (by decide) (hb c hc).1 (hb c hc).2 _ ?_
      rw [show (prD c : D) = .tup [.int c.1, .int c.2] from rfl]
      walk_at "dl"
      walk_at "cl"
      rw [List.length_map] at fin
      by_cases y : pre = []
      · rw [if_neg (by rw [decide_eq_true y]; decide)]
        exact fin
      · rw [if_pos (by rw [decide_eq_false y]; rfl)]
        obtain ⟨ps, a, rfl⟩ : ∃ ps a, pre = ps ++ [a] := ⟨_, _, (List.dropLast_concat_getLast y).symm⟩
        refine ⟨prD a, ?_, ?_⟩
        · rw [List.map_append]
          exact L2.atI_last (ps.map prD) (prD a)
        · refine ordGe (α := Int × Int) (a := a) (b := c) ?_
          have lt : OD.lt a c := by
            rw [er, List.append_assoc] at srt
            exact List.rel_of_pairwise_cons (List.pairwise_append.mp srt).2.1 (by simp)
          rw [decide_eq_true lt]
          walk_at "dl"
          exact fin
    · rintro ρ ⟨pre, o2, o3, er, rfl⟩
      rw [List.append_nil] at er
      subst er
      walk_at "dl"
      exact h
end DL

set_option Elab.async false
set_option linter.all false
set_option maxRecDepth 100000
set_option maxHeartbeats 4000000
namespace DL
open PySem PySem.Spec PyProof.Rows L2
local macro_rules | `(tactic| walk_at "dl") => `(tactic| try simp only [x_fnS, x_fnF, x_seq, x_next, x_pass, x_brk, x_cnt, x_set, x_ret, x_retN, x_if, x_asg, x_drop, x_par, x_par3, x_two, x_three, x_for, x_gN, x_gsN, x_gsC, x_gT, x_gTl, x_pV, x_opt, x_pC, x_p1, x_p2, x_pL, x_call, x_callW, x_paN, x_paC, x_tup, x_lst, x_tV, x_tAnd, x_tOr, x_tNot, x_pAnd, x_pOr, x_pNot, x_pIf, x_chain, x_bl, x_int, x_addI, x_addS, x_addL, x_addT, x_cat, x_sub, x_mul, x_mulL, x_mulT, x_rep, x_div, x_mod, x_pow, x_neg, x_eq, x_ne, x_ltI, x_leI, x_gtI, x_geI, x_isN, x_notN, x_nN, x_nI, x_nB, x_nS, x_nT, x_nL, x_ixT, x_ixL, x_ixS, x_len_l, x_len_t, x_len_c, x_len_s, x_all, x_any, x_abs, x_max2, x_min2, x_toI, x_toB, x_tuL, x_tuT, x_rev, x_pSl, x_oN, x_oS, x_slL, x_slT, x_slC, x_slS, x_slLL, x_slLC, x_sSeq, x_seqL, x_seqT, x_one, x_rng1, x_rng2, x_comp, x_w0, x_w1, x_start, x_yes, x_comp0, x_for0, x_app, x_own, x_optL, x_item, x_draw, x_retDeal, ok_i, ok_b, ok_n, ok_t, ok_l, ok_0, ok_c, eq_ii, eq_tt, eq_ll, eq_0, eq_c, eq_ss, eq_bb, eq_nn, x_sZip, x_sEnum, x_twoD, x_oneD, x_zipL, x_zipT, x_zc, x_zn, x_enL, x_sZipM, x_zipM, x_sum, x_max, x_min, x_pop, x_revs, x_ext, x_ins, x_dLst, x_sEnumM, x_enM, x_newD, x_store, x_stoL, x_stoT, x_stoK, x_sto2, x_putT, x_inAL, x_inAT, x_niAL, x_niAT, x_inA2, x_niA2, x_ixAT, x_ixAL, x_ixAS, x_liAL, x_liAT, x_liA2, x_band, x_bor, x_bxor, x_shl, x_shr, x_lrg1, x_lrg2, x_index, x_lstOf, x_aug, x_revAL, x_revAT, x_sumAL, x_sumAT, x_repr, x_take, x_retFeed, x_fail, x_popA, x_ixC, x_neS, x_eqS, x_isB, x_notB, x_extA, x_callN, x_pairs, x_strOf, x_pM1, x_joined, x_js0, x_js1, x_split, x_starts, x_part, x_joinL, x_joinT, x_inSg, x_fmtS, x_fmtI, x_toISi, x_toISb, x_toISs, x_sgn, x_strI, isi_int_int, isi_int_bool, isi_int_str, isi_int_tuple, isi_int_list, isi_bl_int, isi_bl_bool, isi_bl_str, isi_bl_tuple, isi_bl_list, isi_str_int, isi_str_bool, isi_str_str, isi_str_tuple, isi_str_list, isi_non_int, isi_non_bool, isi_non_str, isi_non_tuple, isi_non_list, isi_tup_int, isi_tup_bool, isi_tup_str, isi_tup_tuple, isi_tup_list, isi_lst_int, isi_lst_bool, isi_lst_str, isi_lst_tuple, isi_lst_list, List.map_cons, List.map_nil, List.length_cons, List.length_nil, List.cons_append, List.nil_append, List.reduceReplicate, Nat.reduceSub, Nat.reduceAdd, Int.cast_ofNat_Int, List.getElem?_cons_zero, List.getElem?_cons_succ, List.set_cons_zero, List.set_cons_succ, atI_0, atI_1, atI_2, atI_3, Option.some.injEq, exists_eq_left', exists_eq_left, Bool.and_self, Bool.and_true, Bool.true_and, Bool.and_false, Bool.false_and, Bool.not_false, Bool.not_true, if_true, if_false, ite_true, ite_false, true_and, and_true, Bool.false_eq_true, beq_self_eq_true, decide_true, decide_false, Bool.not_not, reduceIte, decide_eq_true_eq])
local macro_rules | `(tactic| walk_at "un") => `(tactic| try simp only [x_comp1, x_for1, x_fnS, x_fnF, x_seq, x_next, x_pass, x_brk, x_cnt, x_set, x_ret, x_retN, x_if, x_asg, x_drop, x_par, x_par3, x_two, x_three, x_for, x_gN, x_gsN, x_gsC, x_gT, x_gTl, x_pV, x_opt, x_pC, x_p1, x_p2, x_pL, x_call, x_callW, x_paN, x_paC, x_tup, x_lst, x_tV, x_tAnd, x_tOr, x_tNot, x_pAnd, x_pOr, x_pNot, x_pIf, x_chain, x_bl, x_int, x_addI, x_addS, x_addL, x_addT, x_cat, x_sub, x_mul, x_mulL, x_mulT, x_rep, x_div, x_mod, x_pow, x_neg, x_eq, x_ne, x_ltI, x_leI, x_gtI, x_geI, x_isN, x_notN, x_nN, x_nI, x_nB, x_nS, x_nT, x_nL, x_ixT, x_ixL, x_ixS, x_len_l, x_len_t, x_len_c, x_len_s, x_all, x_any, x_abs, x_max2, x_min2, x_toI, x_toB, x_tuL, x_tuT, x_rev, x_pSl, x_oN, x_oS, x_slL, x_slT, x_slC, x_slS, x_slLL, x_slLC, x_sSeq, x_seqL, x_seqT, x_one, x_rng1, x_rng2, x_comp, x_w0, x_w1, x_start, x_yes, x_comp0, x_for0, x_app, x_own, x_optL, x_item, x_draw, x_retDeal, ok_i, ok_b, ok_n, ok_t, ok_l, ok_0, ok_c, eq_ii, eq_tt, eq_ll, eq_0, eq_c, eq_ss, eq_bb, eq_nn, x_sZip, x_sEnum, x_twoD, x_oneD, x_zipL, x_zipT, x_zc, x_zn, x_enL, x_sZipM, x_zipM, x_sum, x_max, x_min, x_pop, x_revs, x_ext, x_ins, x_dLst, x_sEnumM, x_enM, x_newD, x_store, x_stoL, x_stoT, x_stoK, x_sto2, x_putT, x_inAL, x_inAT, x_niAL, x_niAT, x_inA2, x_niA2, x_ixAT, x_ixAL, x_ixAS, x_liAL, x_liAT, x_liA2, x_band, x_bor, x_bxor, x_shl, x_shr, x_lrg1, x_lrg2, x_index, x_lstOf, x_aug, x_revAL, x_revAT, x_sumAL, x_sumAT, x_repr, x_take, x_retFeed, x_fail, x_popA, x_ixC, x_neS, x_eqS, x_isB, x_notB, x_extA, x_callN, x_pairs, x_strOf, x_pM1, x_joined, x_js0, x_js1, x_split, x_starts, x_part, x_joinL, x_joinT, x_inSg, x_fmtS, x_fmtI, x_toISi, x_toISb, x_toISs, x_sgn, x_strI, isi_int_int, isi_int_bool, isi_int_str, isi_int_tuple, isi_int_list, isi_bl_int, isi_bl_bool, isi_bl_str, isi_bl_tuple, isi_bl_list, isi_str_int, isi_str_bool, isi_str_str, isi_str_tuple, isi_str_list, isi_non_int, isi_non_bool, isi_non_str, isi_non_tuple, isi_non_list, isi_tup_int, isi_tup_bool, isi_tup_str, isi_tup_tuple, isi_tup_list, isi_lst_int, isi_lst_bool, isi_lst_str, isi_lst_tuple, isi_lst_list, List.map_cons, List.map_nil, List.length_cons, List.length_nil, List.cons_append, List.nil_append, List.reduceReplicate, Nat.reduceSub, Nat.reduceAdd, Int.cast_ofNat_Int, List.getElem?_cons_zero, List.getElem?_cons_succ, List.set_cons_zero, List.set_cons_succ, atI_0, atI_1, atI_2, atI_3, Option.some.injEq, exists_eq_left', exists_eq_left, Bool.and_self, Bool.and_true, Bool.true_and, Bool.and_false, Bool.false_and, Bool.not_false, Bool.not_true, if_true, if_false, ite_true, ite_false, true_and, and_true, Bool.false_eq_true, beq_self_eq_true, decide_true, decide_false, Bool.not_not, reduceIte, decide_eq_true_eq])
local macro_rules | `(tactic| walk_at "bb") => `(tactic| first | assumption | with_reducible exact bnd_lit _ | (with_reducible apply bnd_sub <;> walk_at "bb") | (with_reducible apply bnd_add <;> walk_at "bb") | (with_reducible apply bnd_mul <;> walk_at "bb") | (with_reducible apply bnd_neg <;> walk_at "bb"))
local macro_rules | `(tactic| walk_at "mo") => `(tactic| exact bnd_mulOk (by walk_at "bb") (by walk_at "bb"))
local macro_rules | `(tactic| walk_at "bm") => `(tactic| exact bnd_mono (by walk_at "bb") (by decide))
local macro_rules | `(tactic| walk_at "cl") => `(tactic| simp only [okp, okps, okpt, okpl, anyp, eqp, eqps, okr, okrs, okrt, okrl, anyr, eqr, eqrs, eq_pnil, eq_tnil, true_and, and_true, List.length_map])
theorem q_draw (m : Int) (hm : 0 < m) (hb : bnd 8000 m) (R : D → Prop) (h : ∀ r, 0 ≤ r → r < m → R (.int r)) : w_l_draw [.deal, .int m] R := by
  walk_at "dl"
  exact ⟨⟨hm, bnd_log hb⟩, h⟩
theorem q_deal (ns : List Int) (hn : ns.length ≤ 63) (R : D → Prop) (h : R .deal) : w_l_deal [.scr ns, .int 0] R := by
  unfold w_l_deal p_l_deal p_l_deal_1 p_l_deal_2 p_l_deal_3
  walk_at "dl"
  obtain ⟨cs, ec, hc⟩ := cut_ints ns (some 0) (some 63)
  rw [ec]
  have z1 : (cs.map D.int).length ≤ sizeLine := by rw [List.length_map]; exact sz_small (by omega)
  refine ⟨z1, ?_⟩
  let fa : D → D := fun d => match d with | .int i => .int (absI i) | d => d
  refine compM fa _ _ _ (fun d hd R hR => ?_) ?_
  · obtain ⟨i, _, rfl⟩ := List.mem_map.mp hd
    walk_at "dl"
    exact hR
  · have ea : (cs.map D.int).map fa = (cs.map absI).map D.int := by rw [List.map_map, List.map_map]; rfl
    rw [List.nil_append, ea]
    generalize hm : cs.map absI = ms
    have hml : ms.length ≤ 63 := by rw [← hm, List.length_map]; omega
    refine forI (fun rest ρ => (∃ js : List Int, rest = js.map D.int) ∧ ∃ (s : Int) (o : Option D), 0 ≤ s ∧ s < 2147483647 ∧ ρ = [some (.scr ns), some (.int 0), some (.lst (ms.map D.int)), some (.int s), o]) ?_ ?_ _ _ ⟨⟨ms, rfl⟩, 7919, none, by decide, by decide, rfl⟩
    · rintro d rest ρ N ⟨⟨js, hj⟩, s, o, s0, s1, rfl⟩ hN
      match js, hj with
      | j :: js, hj =>
        injection hj with e1 e2
        subst e1; subst e2
        have bs : bnd 31 s := bnd_of (lo := 0) (hi := 2147483647) (by omega) (by omega)
        have bq : bnd 17 48271 := bnd_of (lo := 48271) (hi := 48271) (by decide) (by decide)
        unfold b_l_deal_1
        walk_at "dl"
        refine ⟨bnd_mulOk bs bq, by decide, by decide, ?_⟩
        obtain ⟨r0, r1⟩ := fmod_rng (s * 48271 + j.fmod 2147483629) (j := 2147483647) (by decide)
        exact hN _ ⟨⟨js, rfl⟩, _, _, r0, r1, rfl⟩
    · rintro ρ ⟨_, s, o, s0, s1, rfl⟩
      walk_at "dl"
      refine ⟨⟨s0, by omega⟩, by rw [List.length_map]; exact sz_small (by omega), ?_⟩
      refine compF (fun d => match d with | .int i => decide ((10 : Int) ^ Int.toNat 18 ≤ i) | _ => false) id _ _ _ (fun d hd K1 K2 h1 h2 => ?_) ?_
      · obtain ⟨i, _, rfl⟩ := List.mem_map.mp hd
        walk_at "dl"
        refine ⟨by decide, ?_⟩
        by_cases hi : (10 : Int) ^ Int.toNat 18 ≤ i
        · rw [if_pos hi]; exact h1 (decide_eq_true hi)
        · rw [if_neg hi]; exact h2 (decide_eq_false hi)
      · walk_at "dl"
        refine ⟨(ms.filter fun i => decide ((10 : Int) ^ Int.toNat 18 ≤ i)).reverse, ?_, fun x hx => ?_, ?_, h⟩
        · rw [List.map_id, List.map_reverse, List.filter_map]
          rfl
        · have := (List.mem_filter.mp (List.mem_reverse.mp hx)).2
          have h18 : (0 : Int) < 10 ^ Int.toNat 18 := by decide
          have h := of_decide_eq_true this
          omega
        · rw [List.length_reverse]
          exact Nat.le_trans (List.length_filter_le _ _) hml
theorem q_island (R : D → Prop) (h : ∀ is : List Cell, is.Pairwise OD.lt → is.length ≤ 21 → (∀ c ∈ is, inN 19 c.1 ∧ inN 19 c.2) → R (.tup (is.map prD))) : w_l_island [.deal] R := by
  have loop : ∀ n : Int, 0 ≤ n → n < 21 → small62 n ∧ forR (gN 2) b_l_island_1 ⟨p_l_island_2 ⟨fun _ => R .non, R, fun _ => False, fun _ => False⟩, R, fun _ => False, fun _ => False⟩ (rangeD 0 n) [some .deal, some (.lst []), none, none] := fun n n0 n1 => by
    refine ⟨by unfold small62; omega, ?_⟩
    refine forI (fun rest ρ => ∃ (cs : List Cell) (o2 o3 : Option D), (∀ c ∈ cs, inN 19 c.1 ∧ inN 19 c.2) ∧ cs.length + rest.length ≤ 21 ∧ ρ = [some .deal, some (.lst (cs.map prD)), o2, o3]) ?_ ?_ _ _ ⟨[], none, none, fun _ h => (nomatch h), by unfold rangeD; rw [List.length_map, List.length_range, List.length_nil]; omega, rfl⟩
    · rintro d rest ρ N ⟨cs, o2, o3, hc, hl, rfl⟩ hN
      rw [List.length_cons] at hl
      have fin : ∀ f : Int, 1 ≤ f → f ≤ 1000000000000000000 → (sApp 1 (pTup (paC (p2 dSub (pCall w_l_draw (paC (pV 0) (paC (p2 dAdd (p2 dMul (pC (.int 2)) (pV 3)) (pC (.int 1))) paN))) (pV 3)) (paC (p2 dSub (pCall w_l_draw (paC (pV 0) (paC (p2 dAdd (p2 dMul (pC (.int 2)) (pV 3)) (pC (.int 1))) paN))) (pV 3)) paN)))) ⟨N, R, p_l_island_2 ⟨fun _ => R .non, R, fun _ => False, fun _ => False⟩, N⟩ [some .deal, some (.lst (cs.map prD)), some d, some (.int f)] := fun f f0 f1 => by
        have bf : bnd 70 f := bnd_of (lo := 0) (hi := 1000000000000000000) (by omega) (by omega)
        have b2 : bnd 2 2 := bnd_of (lo := 2) (hi := 2) (by decide) (by decide)
        have bm : bnd 8000 (2 * f + 1) := bnd_mono (bnd_of (k := 70) (lo := 0) (hi := 2000000000000000001) (by omega) (by omega)) (by decide)
        walk_at "dl"
        refine ⟨bnd_mulOk b2 bf, drawK (by omega) bm, fun x x0 x1 => ⟨bnd_mulOk b2 bf, drawK (by omega) bm, fun y y0 y1 => ?_⟩⟩
        refine ⟨by rw [List.length_map]; exact small1000 (by omega), hN _ ⟨cs ++ [(x - f, y - f)], some d, some (.int f), fun c hc' => ?_, by rw [List.length_append, List.length_singleton]; omega, by rw [List.map_append]; rfl⟩⟩
        rcases List.mem_append.mp hc' with z | z
        · exact hc c z
        · rw [List.mem_singleton.mp z]
          unfold inN
          simp only
          omega
      unfold b_l_island_1
      walk_at "dl"
      exact ⟨by decide, by decide, ⟨by decide, by decide +kernel⟩, fun r r0 r1 => pick4 r0 r1 (fin 1 (by decide) (by decide)) (fin 12 (by decide) (by decide)) (fin (10 ^ Int.toNat 4) (by decide) (by decide)) (fin (10 ^ Int.toNat 18) (by decide) (by decide))⟩
    · rintro ρ ⟨cs, o2, o3, hc, hl, rfl⟩
      unfold p_l_island_2
      walk_at "dl"
      rw [List.length_nil] at hl
      refine srtU_L (α := Int × Int) (xs := cs) (fun _ _ => trivial) (by omega) ?_
      walk_at "dl"
      exact h _ (osrtU_srt _) (by have := osrtU_len cs; omega) fun c hc' => hc c (mem_osrtU.mp hc')
  unfold w_l_island p_l_island
  walk_at "dl"
  unfold p_l_island_1
  walk_at "dl"
  refine ⟨⟨by decide, by decide +kernel⟩, fun r r0 r1 => ?_⟩
  rcases (show r = 0 ∨ r = 1 by omega) with rfl | rfl
  · refine ⟨_, atI_0, q_draw 3 (by decide) (bnd_of (lo := 0) (hi := 30) (by decide) (by omega)) _ fun n n0 n1 => loop n n0 (by omega)⟩
  · refine ⟨_, atI_1, q_draw 21 (by decide) (bnd_of (lo := 0) (hi := 30) (by decide) (by omega)) _ fun n n0 n1 => loop n n0 (by omega)⟩
theorem q_l_text (is : List Cell) (hl : is.length ≤ 1000) (hb : ∀ c ∈ is, inN 40 c.1 ∧ inN 40 c.2) (R : D → Prop) (h : R (.str (islS is))) : w_l_text [.tup (is.map prD)] R := by
  unfold w_l_text p_l_text
  walk_at "dl"
  unfold p_l_text_1
  walk_at "dl"
  refine forG prD (fun rest ρ => ∃ (pre : List Cell) (o2 o3 : Option D), is = pre ++ rest ∧ (addS pre).length ≤ 100 * pre.length ∧ ρ = [some (.tup (is.map prD)), some (.str (addS pre)), o2, o3]) ?_ ?_ _ _ ⟨[], none, none, rfl, by decide, rfl⟩
  · rintro c rest ρ N ⟨pre, o2, o3, er, hz, rfl⟩ hN
    have hc : c ∈ is := by rw [er]; simp
    have pl : pre.length < is.length := by rw [er, List.length_append, List.length_cons]; omega
    have l1 := sI_len (by decide) (hb c hc).1
    have l2 := sI_len (by decide) (hb c hc).2
    have e1 : addS (pre ++ [c]) = addS pre ++ " " ++ sI c.1 ++ "," ++ sI c.2 := by unfold addS; rw [List.foldl_append]; rfl
    have ez : (addS (pre ++ [c])).length ≤ (addS pre).length + 84 := by rw [e1, len_app, len_app, len_app, len_app, len_blank, len_comma]; omega
    rw [show (prD c : D) = .tup [.int c.1, .int c.2] from rfl]
    unfold b_l_text_1
    walk_at "dl"
    have fin := hN _ ⟨pre ++ [c], some (.int c.1), some (.int c.2), by rw [er, List.append_assoc]; rfl, by rw [List.length_append, List.length_singleton]; omega, rfl⟩
    rw [e1] at fin
    refine ⟨?_, log_ok (by decide) (hb c hc).1, ?_, ?_, log_ok (by decide) (hb c hc).2, ?_, fin⟩
    · rw [len_blank]; exact (sz16 (by omega)).2
    · show (addS pre ++ " ").length + (sI c.1).length ≤ _
      rw [len_app, len_blank]; exact (sz16 (by omega)).2
    · show (addS pre ++ " " ++ sI c.1).length + _ ≤ _
      rw [len_app, len_app, len_blank, len_comma]; exact (sz16 (by omega)).2
    · show (addS pre ++ " " ++ sI c.1 ++ ",").length + (sI c.2).length ≤ _
      rw [len_app, len_app, len_app, len_blank, len_comma]; exact (sz16 (by omega)).2
  · rintro ρ ⟨pre, o2, o3, er, hz, rfl⟩
    rw [List.append_nil] at er
    subst er
    unfold p_l_text_2
    walk_at "dl"
    walk_at "cl"
    by_cases z : is = []
    · rw [if_neg (by rw [decide_eq_true z]; decide)]
      unfold islS at h
      rw [if_pos z] at h
      exact h
    · rw [if_pos (by rw [decide_eq_false z]; rfl)]
      refine ⟨(sz16 (by omega)).2, ?_⟩
      rw [addS_cut z]
      exact h
theorem q_l_right (is : List Cell) (srt : is.Pairwise OD.lt) (hl : is.length ≤ 1000) (hb : ∀ c ∈ is, inN 19 c.1 ∧ inN 19 c.2) (R : D → Prop) (h : R (.bl true)) : w_l_right [.tup (is.map prD)] R := by
  have hb2 : ∀ c ∈ is, inN 40 c.1 ∧ inN 40 c.2 := fun c hc => ⟨Nat.lt_of_lt_of_le (hb c hc).1 (Nat.pow_le_pow_right (by decide) (by decide)), Nat.lt_of_lt_of_le (hb c hc).2 (Nat.pow_le_pow_right (by decide) (by decide))⟩
  unfold w_l_right p_l_right
  walk_at "dl"
  refine q_show_island is hl hb2 _ ?_
  unfold p_l_right_1
  walk_at "dl"
  refine q_l_text is hl hb2 _ ?_
  walk_at "dl"
  try simp only [decide_true, Bool.not_true, Bool.false_eq_true, if_false]
  unfold p_l_right_2
  walk_at "dl"
  refine q_read_island is srt hl hb _ ?_
  unfold p_l_right_3
  walk_at "dl"
  walk_at "cl"
  try simp only [decide_true, Bool.not_true, Bool.false_eq_true, if_false]
  unfold p_l_right_4
  walk_at "dl"
  refine ⟨by rw [List.length_map]; exact sz_small hl, compG prD (fun _ => D.bl true) is [] _ (fun c hc R' hR => ?_) ?_⟩
  · rw [show (prD c : D) = .tup [.int c.1, .int c.2] from rfl]
    unfold w_l_whole p_l_whole
    walk_at "dl"
    exact hR
  · rw [List.nil_append]
    walk_at "dl"
    refine ⟨is.map fun _ => true, by rw [List.map_map]; rfl, ?_⟩
    rw [show (is.map fun _ => true).all id = true by simp]
    exact h
theorem q_law (ns : List Int) (hn : ns.length ≤ 63) : w_law [.scr ns] fun d => d = .bl true := by
  unfold w_law p_law
  walk_at "dl"
  refine q_deal ns hn _ ?_
  unfold p_law_1
  walk_at "dl"
  refine q_island _ fun a sa la ba => ?_
  refine q_island _ fun b sb lb bb => ?_
  walk_at "dl"
  unfold p_law_2
  walk_at "dl"
  refine q_l_right a sa (by omega) ba _ ?_
  walk_at "dl"
  refine q_l_right b sb (by omega) bb _ ?_
  walk_at "dl"
  refine q_l_right [] .nil (by simp) (fun _ h => (nomatch h)) _ ?_
  walk_at "dl"
  unfold p_law_3
  walk_at "dl"
  refine q_l_right a sa (by omega) ba _ ?_
  walk_at "dl"
  refine q_l_text b (by omega) (fun c hc => ⟨Nat.lt_of_lt_of_le (bb c hc).1 (Nat.pow_le_pow_right (by decide) (by decide)), Nat.lt_of_lt_of_le (bb c hc).2 (Nat.pow_le_pow_right (by decide) (by decide))⟩) _ ?_
  refine q_read_island b sb (by omega) bb _ ?_
  walk_at "dl"
  walk_at "cl"
  try simp only [decide_true]
end DL

set_option Elab.async false
set_option linter.all false
set_option maxRecDepth 100000
set_option maxHeartbeats 4000000
namespace DL
open PySem PySem.Spec PyProof.Rows L2

def topS (i : Nat) : Stmt := PySem.Challenge.pw_healfloor_k43_islands_written_and_read.main.body.getD i (.Pass ⟨0, 0, 0, 0⟩)
abbrev s_l_deal : Stmt := topS 13
abbrev N_l_deal : List Str := ["_law_script", "_law_base", "_law_cells", "_law_number", "_law_cell"]
theorem sc_l_deal : FnScope N_l_deal ["_law_script", "_law_base"] (defScope s_l_deal) := ⟨rfl, rfl, rfl, by decide +kernel, rfl, by decide +kernel, by decide +kernel⟩
abbrev s_l_draw : Stmt := topS 14
abbrev N_l_draw : List Str := ["_law_deal_here", "_law_many", "_law_number", "_law_one", "_law_other"]
theorem sc_l_draw : FnScope N_l_draw ["_law_deal_here", "_law_many"] (defScope s_l_draw) := ⟨rfl, rfl, rfl, by decide +kernel, rfl, by decide +kernel, by decide +kernel⟩
abbrev s_l_island : Stmt := topS 16
abbrev N_l_island : List Str := ["_law_deal_here", "_law_some", "_law_k", "_law_far"]
theorem sc_l_island : FnScope N_l_island ["_law_deal_here"] (defScope s_l_island) := ⟨rfl, rfl, rfl, by decide +kernel, rfl, by decide +kernel, by decide +kernel⟩
abbrev s_show_cell : Stmt := topS 7
abbrev N_show_cell : List Str := ["cell"]
theorem sc_show_cell : FnScope N_show_cell ["cell"] (defScope s_show_cell) := ⟨rfl, rfl, rfl, by decide +kernel, rfl, by decide +kernel, by decide +kernel⟩
abbrev s_show_island : Stmt := topS 10
abbrev N_show_island : List Str := ["island", "cell"]
theorem sc_show_island : FnScope N_show_island ["island"] (defScope s_show_island) := ⟨rfl, rfl, rfl, by decide +kernel, rfl, by decide +kernel, by decide +kernel⟩
abbrev s_number_in : Stmt := topS 5
abbrev N_number_in : List Str := ["word", "most", "figures", "sign"]
theorem sc_number_in : FnScope N_number_in ["word", "most"] (defScope s_number_in) := ⟨rfl, rfl, rfl, by decide +kernel, rfl, by decide +kernel, by decide +kernel⟩
abbrev s_cell_in : Stmt := topS 6
abbrev N_cell_in : List Str := ["word", "most", "words", "x", "y"]
theorem sc_cell_in : FnScope N_cell_in ["word", "most"] (defScope s_cell_in) := ⟨rfl, rfl, rfl, by decide +kernel, rfl, by decide +kernel, by decide +kernel⟩
abbrev s_read_island : Stmt := topS 11
abbrev N_read_island : List Str := ["text", "found", "word", "cell"]
theorem sc_read_island : FnScope N_read_island ["text"] (defScope s_read_island) := ⟨rfl, rfl, rfl, by decide +kernel, rfl, by decide +kernel, by decide +kernel⟩
abbrev s_l_text : Stmt := topS 17
abbrev N_l_text : List Str := ["_law_island_here", "_law_text_here", "_law_x", "_law_y"]
theorem sc_l_text : FnScope N_l_text ["_law_island_here"] (defScope s_l_text) := ⟨rfl, rfl, rfl, by decide +kernel, rfl, by decide +kernel, by decide +kernel⟩
abbrev s_l_whole : Stmt := topS 15
abbrev N_l_whole : List Str := ["_law_number"]
theorem sc_l_whole : FnScope N_l_whole ["_law_number"] (defScope s_l_whole) := ⟨rfl, rfl, rfl, by decide +kernel, rfl, by decide +kernel, by decide +kernel⟩
abbrev s_l_right : Stmt := topS 18
abbrev N_l_right : List Str := ["_law_island_here", "_law_text_here", "_law_found", "_law_cell"]
theorem sc_l_right : FnScope N_l_right ["_law_island_here"] (defScope s_l_right) := ⟨rfl, rfl, rfl, by decide +kernel, rfl, by decide +kernel, by decide +kernel⟩
abbrev s_law : Stmt := topS 19
abbrev N_law : List Str := ["_law_script", "_law_deal_here", "_law_one", "_law_other"]
theorem sc_law : FnScope N_law ["_law_script"] (defScope s_law) := ⟨rfl, rfl, rfl, by decide +kernel, rfl, by decide +kernel, by decide +kernel⟩
structure Txt (mg : Str → Option Value) : Prop where
  g_all : mg "all" = none
  g_bool : mg "bool" = none
  g_int : mg "int" = none
  g_isinstance : mg "isinstance" = none
  g_len : mg "len" = none
  g_list : mg "list" = none
  g_max : mg "max" = none
  g_range : mg "range" = none
  g_reversed : mg "reversed" = none
  g_set : mg "set" = none
  g_sorted : mg "sorted" = none
  g_str : mg "str" = none
  g_tuple : mg "tuple" = none
  c_FIGURES : ∃ t, mg "FIGURES" = some (.str "0123456789" t)
  c_MOST_FIGURES : ∃ t, mg "MOST_FIGURES" = some (.int 19 t)
section
variable {P : Program} {w : World} {K : PySem.W.Frag} {mg : Str → Option Value} {base : Heap}
theorem ok_l_deal {f : Addr} {fd : FuncData} (F : Fun K "_law_deal" "_law_deal" s_l_deal f fd) (hm : mg "_law_deal" = some (.ref f)) (hb : Binds K fd ["_law_script", "_law_base"] []) (T : Txt mg) : DefD P w K mg base "_law_deal" 2 2 .strong w_l_deal := by
  refine ⟨f, fd, ["_law_script", "_law_base"], ?_, hm, F.kp, hb⟩
  refine fn_d (k := 1) (N := N_l_deal) (own := []) (fr := true) (ko := .strong) (p := p_l_deal) F sc_l_deal rfl (by decide) (by decide) (fun cdv A outer s H E hr => ?_)
  exact (s_cons (own' := []) (s_setLc 2 rfl sc_l_deal.nd (i_seqW (e_weak (e_sl (e_weak (e_var 0)) (o_some (e_weak (e_var 1))) (o_some (e_weak e_int))))) (blkOk_by (own := [("_law_cell", 4)]) (N := N_l_deal) (sc := (defScope s_l_deal)) (by decide +kernel)) (fun _ _ _ _ _ => (pg_name (i := 4) sc_l_deal.nd rfl (by first | exact Or.inl rfl | exact Or.inr rfl))) (tg_name (by decide)) (fun _ _ _ _ _ => ts_nil) (fun _ _ _ _ _ => (e_callB (call_max2 rfl) c_max2 (a_cons (e_weak (e_var 4)) (a_cons (e_weak (e_op op_sub c_sub (e_weak e_int) (e_weak (e_var 4)))) a_nil)) T.g_max))) (s_cons (own' := []) (s_set 3 sc_l_deal.nd (e_op o_add c_add (e_weak e_int) (e_weak (e_var 1)))) (s_cons (own' := []) (s_for PassesOwn.never rfl (i_seqS (e_var 2)) (pg_name (i := 4) sc_l_deal.nd rfl (by first | exact Or.inl rfl | exact Or.inr rfl)) (tg_name (by decide)) (s_one (s_set 3 sc_l_deal.nd (e_op op_modN c_mod (e_weak (e_op o_add c_add (e_weak (e_op o_mul c_mul (e_weak (e_var 3)) (e_weak e_int))) (e_weak (e_op op_modN c_mod (e_weak (e_var 4)) (e_weak e_int))))) (e_weak e_int))))) (s_one (s_retDeal (ps_ret (pe_disp (pps_cons pe_str (e_var 3) (pps_cons pe_str pe_int (pps_cons pe_str (e_lstRev rfl T.g_list T.g_reversed (e_weak (e_comp rfl sc_l_deal.nd (i_seqW (e_weak (e_var 2))) (blkOk_by (own := [("_law_cell", 4)]) (N := N_l_deal) (sc := (defScope s_l_deal)) (by decide +kernel)) (fun _ _ _ _ _ => (pg_name (i := 4) sc_l_deal.nd rfl (by first | exact Or.inl rfl | exact Or.inr rfl))) (tg_name (by decide)) (fun _ _ _ _ _ => (ts_one (t_cmp (ko := .strong) op_ge c_geI (e_weak (e_var 4)) (e_weak (e_op op_pow c_pow (e_weak e_int) (e_weak e_int)))))) (fun _ _ _ _ _ => (e_var 4))))) pps_nil))) (by rfl) (by rfl) (fun z => by cases z) (by decide))))))))
theorem ok_l_draw {f : Addr} {fd : FuncData} (F : Fun K "_law_draw" "_law_draw" s_l_draw f fd) (hm : mg "_law_draw" = some (.ref f)) (hb : Binds K fd ["_law_deal_here", "_law_many"] []) (T : Txt mg) : DefD P w K mg base "_law_draw" 1 2 .strong w_l_draw := by
  refine ⟨f, fd, ["_law_deal_here", "_law_many"], ?_, hm, F.kp, hb⟩
  refine F.ok sc_l_draw (fun vs H Q E h => h.1) (fun cdv A outer s H vs Q E hr h => ⟨tDrawA K, ?_, draw_read rfl h⟩)
  have hu := hu_of hr
  exact pss_cons (ps_while PassesOwn.never (PW.pt (pw_and (pt_cmpR op_eq (pe_dget hu (pv 0) pe_str (fun _ _ => rfl)) pe_int (nomark _)) (pw_and1 (pt_cmpR op_gt (pe_callB b_len (by rfl) T.g_len (by decide +kernel) (L2.pa_cons (pe_dget hu (pv 0) pe_str (fun _ _ => rfl)) L2.pa_nil)) pe_int (nomark _)))))
      (pss_one (ps_dput hu (pv 0) pe_str (pe_bm0 PySem.F.plainAttrs_list PySem.F.slot_list_pop PySem.F.type_list_pop mt_pop (pe_dget hu (pv 0) pe_str (fun _ _ => rfl))) rfl)))
    (pss_cons (ps_set (i := 2) sc_l_draw.nd rfl (Or.inl rfl) (pe_dget hu (pv 0) pe_str (fun _ _ => rfl)))
    (pss_cons (ps_if (pt_cmpR op_gt (pv 2) pe_int (nomark _)) (pss_cons (ps_dput hu (pv 0) pe_str (pe_op o_fdiv (pv 2) (pv 1)) rfl) (pss_one (ps_ret (pe_op op_modN (pv 2) (pv 1))))) pss_nil)
    (pss_cons (ps_set (i := 3) sc_l_draw.nd rfl (Or.inl rfl) (pe_op op_modN (pe_op op_add (pe_op op_mulW (pe_dget hu (pv 0) pe_str (fun _ _ => rfl)) pe_int) pe_int) pe_int))
    (pss_cons (ps_dput hu (pv 0) pe_str (pe_op op_modN (pe_op op_add (pe_op op_mulW (pv 3) pe_int) pe_int) pe_int) rfl)
    (pss_cons (ps_set (i := 4) sc_l_draw.nd rfl (Or.inl rfl) (pe_op op_modN (pe_op op_mulW (pe_dget hu (pv 0) pe_str (fun _ _ => rfl)) (pe_dget hu (pv 0) pe_str (fun _ _ => rfl))) pe_int))
    (pss_one (ps_ret (pe_op op_modN (pe_op op_add (pe_op op_mulW (pe_op op_modN (pe_op op_mulW (pv 3) (pv 3)) pe_int) pe_int) (pv 4)) (pv 1)))))))))
theorem ok_l_island {f : Addr} {fd : FuncData} (F : Fun K "_law_island" "_law_island" s_l_island f fd) (hm : mg "_law_island" = some (.ref f)) (hb : Binds K fd ["_law_deal_here"] []) (T : Txt mg) (D_l_draw : DefD P w K mg base "_law_draw" 1 2 .strong w_l_draw) : DefD P w K mg base "_law_island" 2 1 .strong w_l_island := by
  refine ⟨f, fd, ["_law_deal_here"], ?_, hm, F.kp, hb⟩
  refine fn_d (k := 1) (N := N_l_island) (own := [1]) (fr := true) (ko := .strong) (p := p_l_island) F sc_l_island rfl (by decide) (by decide) (fun cdv A outer s H E hr => ?_)
  exact (s_cons (own' := [1]) (s_setO 1 sc_l_island.nd (e_lst a_nil)) (s_cons (own' := []) (s_for PassesOwn.never rfl (i_rng1 T.g_range (a_cons (e_weak (e_callD D_l_draw (hr.mono (by decide)) (a_consS (e_var 0) (a_consS (e_ix (ix_all hr) c_ixA (e_weak (e_lst (a_consS e_int (a_consS e_int a_nil)))) (e_weak (e_callD D_l_draw (hr.mono (by decide)) (a_consS (e_var 0) (a_consS e_int a_nil))))) a_nil)))) a_nil)) (pg_name (i := 2) sc_l_island.nd rfl (by first | exact Or.inl rfl | exact Or.inr rfl)) (tg_name (by decide)) (s_cons (own' := [1]) (s_set 3 sc_l_island.nd (e_ix (ix_all hr) c_ixA (e_weak (e_lst (a_consS e_int (a_consS e_int (a_consS (e_op op_pow c_pow (e_weak e_int) (e_weak e_int)) (a_consS (e_op op_pow c_pow (e_weak e_int) (e_weak e_int)) a_nil)))))) (e_weak (e_callD D_l_draw (hr.mono (by decide)) (a_consS (e_var 0) (a_consS e_int a_nil)))))) (s_one (s_app 1 (ps_expr (pe_bm PySem.F.plainAttrs_list PySem.F.slot_list_append PySem.F.type_list_append mt_append (pv 1) (L2.pa_cons (e_tup (a_consS (e_op op_sub c_sub (e_weak (e_callD D_l_draw (hr.mono (by decide)) (a_consS (e_var 0) (a_consS (e_op o_add c_add (e_weak (e_op o_mul c_mul (e_weak e_int) (e_weak (e_var 3)))) (e_weak e_int)) a_nil)))) (e_weak (e_var 3))) (a_consS (e_op op_sub c_sub (e_weak (e_callD D_l_draw (hr.mono (by decide)) (a_consS (e_var 0) (a_consS (e_op o_add c_add (e_weak (e_op o_mul c_mul (e_weak e_int) (e_weak (e_var 3)))) (e_weak e_int)) a_nil)))) (e_weak (e_var 3))) a_nil))) L2.pa_nil))))))) (s_one (s_ret (e_callTy call_tuple_of c_tuple (a_cons (e_weak (e_srtU rfl hr T.g_sorted T.g_set (e_weak (e_var 1)))) a_nil) T.g_tuple)))))
theorem ok_show_cell {f : Addr} {fd : FuncData} (F : Fun K "show_cell" "show_cell" s_show_cell f fd) (hm : mg "show_cell" = some (.ref f)) (hb : Binds K fd ["cell"] []) (T : Txt mg) : DefD P w K mg base "show_cell" 2 1 .strong w_show_cell := by
  refine ⟨f, fd, ["cell"], ?_, hm, F.kp, hb⟩
  refine fn_d (k := 1) (N := N_show_cell) (own := []) (fr := true) (ko := .strong) (p := p_show_cell) F sc_show_cell rfl (by decide) (by decide) (fun cdv A outer s H E hr => ?_)
  exact (s_one (s_ret (e_joined (ps := [(p1 dFmt (p2 dIxA (pV 0) (pC (.int 0)))), (pC (.str ",")), (p1 dFmt (p2 dIxA (pV 0) (pC (.int 1))))]) (L2.PJ.cons (e_fmt (ko := .weak) (by intro z; cases z) (e_weak (e_ix (ix_all hr) c_ixA (e_weak (e_var 0)) (e_weak e_int)))) (L2.PJ.cons (e_weak e_str) (L2.PJ.cons (e_fmt (ko := .weak) (by intro z; cases z) (e_weak (e_ix (ix_all hr) c_ixA (e_weak (e_var 0)) (e_weak e_int)))) L2.PJ.nil))))))
theorem ok_show_island {f : Addr} {fd : FuncData} (F : Fun K "show_island" "show_island" s_show_island f fd) (hm : mg "show_island" = some (.ref f)) (hb : Binds K fd ["island"] []) (T : Txt mg) (D_show_cell : DefD P w K mg base "show_cell" 2 1 .strong w_show_cell) : DefD P w K mg base "show_island" 3 1 .strong w_show_island := by
  refine ⟨f, fd, ["island"], ?_, hm, F.kp, hb⟩
  refine fn_d (k := 2) (N := N_show_island) (own := []) (fr := true) (ko := .strong) (p := p_show_island) F sc_show_island rfl (by decide) (by decide) (fun cdv A outer s H E hr => ?_)
  exact (s_cons (own' := []) (s_if (t_cmp (ko := .strong) (op_eqD hr.units) c_eq (e_weak (e_var 0)) (e_weak (e_tup a_nil))) (s_one (s_ret e_str)) s_nil) (s_one (s_ret (e_join (e_weak e_str) (e_weak (e_comp rfl sc_show_island.nd (i_seqW (e_weak (e_var 0))) (blkOk_by (own := [("cell", 1)]) (N := N_show_island) (sc := (defScope s_show_island)) (by decide +kernel)) (fun _ _ _ _ _ => (pg_name (i := 1) sc_show_island.nd rfl (by first | exact Or.inl rfl | exact Or.inr rfl))) (tg_name (by decide)) (fun _ _ _ _ _ => ts_nil) (fun _ _ _ _ _ => (e_callD D_show_cell (hr.mono (by decide)) (a_consS (e_var 1) a_nil)))))))))
theorem ok_number_in {f : Addr} {fd : FuncData} (F : Fun K "number_in" "number_in" s_number_in f fd) (hm : mg "number_in" = some (.ref f)) (hb : Binds K fd ["word", "most"] []) (T : Txt mg) : DefD P w K mg base "number_in" 2 2 .strong w_number_in := by
  refine ⟨f, fd, ["word", "most"], ?_, hm, F.kp, hb⟩
  refine fn_d (k := 1) (N := N_number_in) (own := []) (fr := true) (ko := .strong) (p := p_number_in) F sc_number_in rfl (by decide) (by decide) (fun cdv A outer s H E hr => ?_)
  exact (s_cons (own' := []) (s_set 2 sc_number_in.nd (e_var 0)) (s_cons (own' := []) (s_if (t_val (e_weak (e_starts (e_weak (e_var 0)) (e_weak e_str)))) (s_one (s_set 2 sc_number_in.nd (e_sl (e_weak (e_var 0)) (o_some (e_weak e_int)) o_none))) s_nil) (s_cons (own' := []) (s_if (PW.pt (t_or (t_not (t_chain op_le c_leI op_le c_leI (e_weak e_int) (e_weak (e_callB b_len c_len (a_cons (e_weak (e_var 2)) a_nil) T.g_len)) (e_weak (e_var 1)))) (t_or1 (t_not (t_val (e_weak (e_callB (cr_all rfl) c_all (a_cons (e_weak (e_comp rfl sc_number_in.nd (i_sgn (e_weak (e_var 2))) (blkOk_by (own := [("sign", 3)]) (N := N_number_in) (sc := (defScope s_number_in)) (by decide +kernel)) (fun _ _ _ _ _ => (pg_name (i := 3) sc_number_in.nd rfl (by first | exact Or.inl rfl | exact Or.inr rfl))) (tg_name (by decide)) (fun _ _ _ _ _ => ts_nil) (fun _ _ _ _ _ => (e_cmp op_in_sign c_inSg (e_weak (e_var 3)) (e_weak (T.c_FIGURES.elim fun _ hc => e_gstr (by rfl) hc ⟨_, rfl⟩)))))) a_nil) T.g_all))))))) (s_one (s_ret e_non)) s_nil) (s_cons (own' := []) (s_if (PW.pt (t_and (t_cmp (ko := .strong) op_eq c_eqS (e_weak (e_ix (ix_all hr) c_ixA (e_weak (e_var 2)) (e_weak e_int))) (e_weak e_str)) (t_and1 (t_cmp (ko := .strong) op_ne c_neS (e_weak (e_var 0)) (e_weak e_str))))) (s_one (s_ret e_non)) s_nil) (s_one (s_ret (e_callTy call_intS c_toIS (a_cons (e_weak (e_var 0)) a_nil) T.g_int)))))))
theorem ok_cell_in {f : Addr} {fd : FuncData} (F : Fun K "cell_in" "cell_in" s_cell_in f fd) (hm : mg "cell_in" = some (.ref f)) (hb : Binds K fd ["word", "most"] []) (T : Txt mg) (D_number_in : DefD P w K mg base "number_in" 2 2 .strong w_number_in) : DefD P w K mg base "cell_in" 3 2 .strong w_cell_in := by
  refine ⟨f, fd, ["word", "most"], ?_, hm, F.kp, hb⟩
  refine fn_d (k := 2) (N := N_cell_in) (own := []) (fr := true) (ko := .strong) (p := p_cell_in) F sc_cell_in rfl (by decide) (by decide) (fun cdv A outer s H E hr => ?_)
  exact (s_cons (own' := []) (s_set 2 sc_cell_in.nd (e_strong (e_split (e_weak (e_var 0)) (e_weak e_str)))) (s_cons (own' := []) (s_if (t_cmp (ko := .strong) (op_neD hr.units) c_ne (e_weak (e_callB b_len c_len (a_cons (e_weak (e_var 2)) a_nil) T.g_len)) (e_weak e_int)) (s_one (s_ret e_non)) s_nil) (s_cons (own' := []) (s_par 3 4 rfl sc_cell_in.nd (a_consS (e_callD D_number_in (hr.mono (by decide)) (a_consS (e_ix (ix_all hr) c_ixA (e_weak (e_var 2)) (e_weak e_int)) (a_consS (e_var 1) a_nil))) (a_consS (e_callD D_number_in (hr.mono (by decide)) (a_consS (e_ix (ix_all hr) c_ixA (e_weak (e_var 2)) (e_weak e_int)) (a_consS (e_var 1) a_nil))) a_nil))) (s_cons (own' := []) (s_if (PW.pt (t_or (t_cmp (ko := .strong) op_isN c_isN (e_weak (e_var 3)) (e_weak e_non)) (t_or1 (t_cmp (ko := .strong) op_isN c_isN (e_weak (e_var 4)) (e_weak e_non))))) (s_one (s_ret e_non)) s_nil) (s_one (s_ret (e_tup (a_consS (e_var 3) (a_consS (e_var 4) a_nil)))))))))
theorem ok_read_island {f : Addr} {fd : FuncData} (F : Fun K "read_island" "read_island" s_read_island f fd) (hm : mg "read_island" = some (.ref f)) (hb : Binds K fd ["text"] []) (T : Txt mg) (D_cell_in : DefD P w K mg base "cell_in" 3 2 .strong w_cell_in) : DefD P w K mg base "read_island" 4 1 .strong w_read_island := by
  refine ⟨f, fd, ["text"], ?_, hm, F.kp, hb⟩
  refine fn_d (k := 3) (N := N_read_island) (own := [1]) (fr := true) (ko := .strong) (p := p_read_island) F sc_read_island rfl (by decide) (by decide) (fun cdv A outer s H E hr => ?_)
  exact (s_cons (own' := [1]) (s_if (t_cmp (ko := .strong) op_eq c_eqS (e_weak (e_var 0)) (e_weak e_str)) (s_one (s_ret (e_tup a_nil))) s_nil) (s_cons (own' := [1]) (s_setO 1 sc_read_island.nd (e_lst a_nil)) (s_cons (own' := []) (s_for PassesOwn.never rfl (i_seqS (e_strong (e_split (e_weak (e_var 0)) (e_weak e_str)))) (pg_name (i := 2) sc_read_island.nd rfl (by first | exact Or.inl rfl | exact Or.inr rfl)) (tg_name (by decide)) (s_cons (own' := [1]) (s_set 3 sc_read_island.nd (e_callD D_cell_in (hr.mono (by decide)) (a_consS (e_var 2) (a_consS (T.c_MOST_FIGURES.elim fun _ hc => e_gint (by rfl) hc ⟨_, rfl⟩) a_nil)))) (s_cons (own' := [1]) (s_if (PW.pt (t_or (t_cmp (ko := .strong) op_isN c_isN (e_weak (e_var 3)) (e_weak e_non)) (t_or1 (PW.pt (t_and (t_cmp (ko := .strong) (op_neD hr.units) c_ne (e_varO 1) (e_weak (e_lst a_nil))) (t_and1 (t_cmp (ko := .strong) (op_geO hr.units) c_ord (e_weak (e_ix (ix_all hr) c_ixA (e_varO 1) (e_weak (e_un un_neg c_neg (e_weak e_int))))) (e_weak (e_var 3))))))))) (s_one s_fail) s_nil) (s_one (s_app 1 (ps_expr (pe_bm PySem.F.plainAttrs_list PySem.F.slot_list_append PySem.F.type_list_append mt_append (pv 1) (L2.pa_cons (e_var 3) L2.pa_nil)))))))) (s_one (s_ret (e_callTy call_tuple_of c_tuple (a_cons (e_weak (e_var 1)) a_nil) T.g_tuple))))))
theorem ok_l_text {f : Addr} {fd : FuncData} (F : Fun K "_law_text" "_law_text" s_l_text f fd) (hm : mg "_law_text" = some (.ref f)) (hb : Binds K fd ["_law_island_here"] []) (T : Txt mg) : DefD P w K mg base "_law_text" 2 1 .strong w_l_text := by
  refine ⟨f, fd, ["_law_island_here"], ?_, hm, F.kp, hb⟩
  refine fn_d (k := 1) (N := N_l_text) (own := []) (fr := true) (ko := .strong) (p := p_l_text) F sc_l_text rfl (by decide) (by decide) (fun cdv A outer s H E hr => ?_)
  exact (s_cons (own' := []) (s_set 1 sc_l_text.nd e_str) (s_cons (own' := []) (s_for PassesOwn.never rfl (i_seqS (e_var 0)) (pg_tupA rfl (pgs_cons (pg_name (i := 2) sc_l_text.nd rfl (by first | exact Or.inl rfl | exact Or.inr rfl)) (pgs_cons (pg_name (i := 3) sc_l_text.nd rfl (by first | exact Or.inl rfl | exact Or.inr rfl)) pgs_nil))) (tg_tup (tgs_cons (tg_name (by decide)) (tgs_cons (tg_name (by decide)) tgs_nil)) (gs_len1 (gs_len1 gs_len0 (gN_some 3)) (gN_some 2))) (s_one (s_set 1 sc_l_text.nd (e_op o_add c_add (e_weak (e_op o_add c_add (e_weak (e_op o_add c_add (e_weak (e_op o_add c_add (e_weak (e_var 1)) (e_weak e_str))) (e_weak (e_callTy call_str_int c_strI (a_cons (e_weak (e_var 2)) a_nil) T.g_str)))) (e_weak e_str))) (e_weak (e_callTy call_str_int c_strI (a_cons (e_weak (e_var 3)) a_nil) T.g_str)))))) (s_one (s_ret (e_ifExp (t_cmp (ko := .strong) (op_neD hr.units) c_ne (e_weak (e_var 0)) (e_weak (e_tup a_nil))) (e_sl (e_weak (e_var 1)) (o_some (e_weak e_int)) o_none) e_str)))))
theorem ok_l_whole {f : Addr} {fd : FuncData} (F : Fun K "_law_whole" "_law_whole" s_l_whole f fd) (hm : mg "_law_whole" = some (.ref f)) (hb : Binds K fd ["_law_number"] []) (T : Txt mg) : DefD P w K mg base "_law_whole" 2 1 .strong w_l_whole := by
  refine ⟨f, fd, ["_law_number"], ?_, hm, F.kp, hb⟩
  refine fn_d (k := 1) (N := N_l_whole) (own := []) (fr := true) (ko := .strong) (p := p_l_whole) F sc_l_whole rfl (by decide) (by decide) (fun cdv A outer s H E hr => ?_)
  exact (s_one (s_ret (e_and (e_weak (e_callB call_isi c_isi (a_cons (e_weak (e_var 0)) (a_cons (e_weak (e_ty T.g_int)) a_nil)) T.g_isinstance)) (e_one (e_not (e_weak (e_callB call_isi c_isi (a_cons (e_weak (e_var 0)) (a_cons (e_weak (e_ty T.g_bool)) a_nil)) T.g_isinstance)))))))
theorem ok_l_right {f : Addr} {fd : FuncData} (F : Fun K "_law_right" "_law_right" s_l_right f fd) (hm : mg "_law_right" = some (.ref f)) (hb : Binds K fd ["_law_island_here"] []) (T : Txt mg) (D_show_island : DefD P w K mg base "show_island" 3 1 .strong w_show_island) (D_l_text : DefD P w K mg base "_law_text" 2 1 .strong w_l_text) (D_read_island : DefD P w K mg base "read_island" 4 1 .strong w_read_island) (D_l_whole : DefD P w K mg base "_law_whole" 2 1 .strong w_l_whole) : DefD P w K mg base "_law_right" 5 1 .strong w_l_right := by
  refine ⟨f, fd, ["_law_island_here"], ?_, hm, F.kp, hb⟩
  refine fn_d (k := 4) (N := N_l_right) (own := []) (fr := true) (ko := .strong) (p := p_l_right) F sc_l_right rfl (by decide) (by decide) (fun cdv A outer s H E hr => ?_)
  exact (s_cons (own' := []) (s_set 1 sc_l_right.nd (e_callD D_show_island (hr.mono (by decide)) (a_consS (e_var 0) a_nil))) (s_cons (own' := []) (s_if (PW.pt (t_or (t_not (t_val (e_weak (e_callB call_isi c_isi (a_cons (e_weak (e_var 1)) (a_cons (e_weak (e_ty T.g_str)) a_nil)) T.g_isinstance)))) (t_or1 (t_cmp (ko := .strong) op_ne c_neS (e_weak (e_var 1)) (e_weak (e_callD D_l_text (hr.mono (by decide)) (a_consS (e_var 0) a_nil))))))) (s_one (s_ret e_bl)) s_nil) (s_cons (own' := []) (s_set 2 sc_l_right.nd (e_callD D_read_island (hr.mono (by decide)) (a_consS (e_var 1) a_nil))) (s_cons (own' := []) (s_if (PW.pt (t_or (t_not (t_val (e_weak (e_callB call_isi c_isi (a_cons (e_weak (e_var 2)) (a_cons (e_weak (e_ty T.g_tuple)) a_nil)) T.g_isinstance)))) (t_or1 (t_cmp (ko := .strong) (op_neD hr.units) c_ne (e_weak (e_var 2)) (e_weak (e_var 0)))))) (s_one (s_ret e_bl)) s_nil) (s_one (s_ret (e_callB (cr_all rfl) c_all (a_cons (e_weak (e_comp rfl sc_l_right.nd (i_seqW (e_weak (e_var 2))) (blkOk_by (own := [("_law_cell", 3)]) (N := N_l_right) (sc := (defScope s_l_right)) (by decide +kernel)) (fun _ _ _ _ _ => (pg_name (i := 3) sc_l_right.nd rfl (by first | exact Or.inl rfl | exact Or.inr rfl))) (tg_name (by decide)) (fun _ _ _ _ _ => ts_nil) (fun _ _ _ _ _ => (e_and (e_weak (e_callB call_isi c_isi (a_cons (e_weak (e_var 3)) (a_cons (e_weak (e_ty T.g_tuple)) a_nil)) T.g_isinstance)) (e_and (e_weak (e_callD D_l_whole (hr.mono (by decide)) (a_consS (e_ix (ix_all hr) c_ixA (e_weak (e_var 3)) (e_weak e_int)) a_nil))) (e_one (e_callD D_l_whole (hr.mono (by decide)) (a_consS (e_ix (ix_all hr) c_ixA (e_weak (e_var 3)) (e_weak e_int)) a_nil)))))))) a_nil) T.g_all)))))))
theorem ok_law {f : Addr} {fd : FuncData} (F : Fun K "law" "law" s_law f fd) (T : Txt mg) (D_l_deal : DefD P w K mg base "_law_deal" 2 2 .strong w_l_deal) (D_l_island : DefD P w K mg base "_law_island" 2 1 .strong w_l_island) (D_l_right : DefD P w K mg base "_law_right" 5 1 .strong w_l_right) (D_read_island : DefD P w K mg base "read_island" 4 1 .strong w_read_island) (D_l_text : DefD P w K mg base "_law_text" 2 1 .strong w_l_text) : FnOk P w K mg base CX0 6 f fd ["_law_script"] (spD K 1 .strong w_law) := by
  refine fn_d (k := 5) (N := N_law) (own := []) (fr := true) (ko := .strong) (p := p_law) F sc_law rfl (by decide) (by decide) (fun cdv A outer s H E hr => ?_)
  exact (s_cons (own' := []) (s_set 1 sc_law.nd (e_callD D_l_deal (hr.mono (by decide)) (a_consS (e_var 0) (a_consS e_int a_nil)))) (s_cons (own' := []) (s_par 2 3 rfl sc_law.nd (a_consS (e_callD D_l_island (hr.mono (by decide)) (a_consS (e_var 1) a_nil)) (a_consS (e_callD D_l_island (hr.mono (by decide)) (a_consS (e_var 1) a_nil)) a_nil))) (s_cons (own' := []) (s_if (PW.pt (t_or (t_not (t_val (e_weak (e_callD D_l_right (hr.mono (by decide)) (a_consS (e_var 2) a_nil))))) (t_or (t_not (t_val (e_weak (e_callD D_l_right (hr.mono (by decide)) (a_consS (e_var 3) a_nil))))) (t_or1 (t_not (t_val (e_weak (e_callD D_l_right (hr.mono (by decide)) (a_consS (e_tup a_nil) a_nil))))))))) (s_one (s_ret e_bl)) s_nil) (s_one (s_ret (e_and (e_weak (e_callD D_l_right (hr.mono (by decide)) (a_consS (e_var 2) a_nil))) (e_one (e_cmp (op_eqD hr.units) c_eq (e_weak (e_callD D_read_island (hr.mono (by decide)) (a_consS (e_callD D_l_text (hr.mono (by decide)) (a_consS (e_var 3) a_nil)) a_nil))) (e_weak (e_var 3))))))))))
end
end DL

set_option Elab.async false
set_option linter.all false
set_option maxRecDepth 100000
set_option maxHeartbeats 4000000
namespace DL
open PySem PySem.Spec PyProof.Rows L2

theorem all_mk {l : PySem.W.OpenLaw} {w : World} {K : PySem.W.Frag} {h : Heap} {mg : Str → Option Value} {fa : Addr} (X : K.In h) (G : h.Ns mainGlobals mg) (hfa : mg "law" = some (.ref fa))
    {f0 : Addr} {od0 an0 : Option Addr} {sl0 : Array (Option Value)} {oc0 kV0 dc0 pm0 cd0 ct0 : Value}
    {f1 : Addr} {od1 an1 : Option Addr} {sl1 : Array (Option Value)} {oc1 kV1 dc1 pm1 cd1 ct1 : Value}
    {f2 : Addr} {od2 an2 : Option Addr} {sl2 : Array (Option Value)} {oc2 kV2 dc2 pm2 cd2 ct2 : Value}
    {f3 : Addr} {od3 an3 : Option Addr} {sl3 : Array (Option Value)} {oc3 kV3 dc3 pm3 cd3 ct3 : Value}
    {f4 : Addr} {od4 an4 : Option Addr} {sl4 : Array (Option Value)} {oc4 kV4 dc4 pm4 cd4 ct4 : Value}
    {f5 : Addr} {od5 an5 : Option Addr} {sl5 : Array (Option Value)} {oc5 kV5 dc5 pm5 cd5 ct5 : Value}
    {f6 : Addr} {od6 an6 : Option Addr} {sl6 : Array (Option Value)} {oc6 kV6 dc6 pm6 cd6 ct6 : Value}
    {f7 : Addr} {od7 an7 : Option Addr} {sl7 : Array (Option Value)} {oc7 kV7 dc7 pm7 cd7 ct7 : Value}
    {f8 : Addr} {od8 an8 : Option Addr} {sl8 : Array (Option Value)} {oc8 kV8 dc8 pm8 cd8 ct8 : Value}
    {f9 : Addr} {od9 an9 : Option Addr} {sl9 : Array (Option Value)} {oc9 kV9 dc9 pm9 cd9 ct9 : Value}
    {f10 : Addr} {od10 an10 : Option Addr} {sl10 : Array (Option Value)} {oc10 kV10 dc10 pm10 cd10 ct10 : Value}
    {f11 : Addr} {od11 an11 : Option Addr} {sl11 : Array (Option Value)} {oc11 kV11 dc11 pm11 cd11 ct11 : Value}
    {t_FIGURES : Tok}
    {t_MOST_FIGURES : Tok}
    (a0 : PySem.W.nsIn K mainGlobals "_law_deal" = some (some (.ref f0))) (l0 : K.lookup f0 = some ⟨oc0, od0, .func (PySem.W.fnOf "_law_deal" "_law_deal" (defArgs s_l_deal) (defBody s_l_deal) (defScope s_l_deal) .none kV0 dc0 pm0 an0 cd0 ct0), sl0⟩) (c0 : PySem.W.codeIn K cd0 "_law_deal" = true) (k0 : PySem.W.keepIn K (.ref f0) = true)
    (a1 : PySem.W.nsIn K mainGlobals "_law_draw" = some (some (.ref f1))) (l1 : K.lookup f1 = some ⟨oc1, od1, .func (PySem.W.fnOf "_law_draw" "_law_draw" (defArgs s_l_draw) (defBody s_l_draw) (defScope s_l_draw) .none kV1 dc1 pm1 an1 cd1 ct1), sl1⟩) (c1 : PySem.W.codeIn K cd1 "_law_draw" = true) (k1 : PySem.W.keepIn K (.ref f1) = true)
    (a2 : PySem.W.nsIn K mainGlobals "_law_island" = some (some (.ref f2))) (l2 : K.lookup f2 = some ⟨oc2, od2, .func (PySem.W.fnOf "_law_island" "_law_island" (defArgs s_l_island) (defBody s_l_island) (defScope s_l_island) .none kV2 dc2 pm2 an2 cd2 ct2), sl2⟩) (c2 : PySem.W.codeIn K cd2 "_law_island" = true) (k2 : PySem.W.keepIn K (.ref f2) = true)
    (a3 : PySem.W.nsIn K mainGlobals "show_cell" = some (some (.ref f3))) (l3 : K.lookup f3 = some ⟨oc3, od3, .func (PySem.W.fnOf "show_cell" "show_cell" (defArgs s_show_cell) (defBody s_show_cell) (defScope s_show_cell) .none kV3 dc3 pm3 an3 cd3 ct3), sl3⟩) (c3 : PySem.W.codeIn K cd3 "show_cell" = true) (k3 : PySem.W.keepIn K (.ref f3) = true)
    (a4 : PySem.W.nsIn K mainGlobals "show_island" = some (some (.ref f4))) (l4 : K.lookup f4 = some ⟨oc4, od4, .func (PySem.W.fnOf "show_island" "show_island" (defArgs s_show_island) (defBody s_show_island) (defScope s_show_island) .none kV4 dc4 pm4 an4 cd4 ct4), sl4⟩) (c4 : PySem.W.codeIn K cd4 "show_island" = true) (k4 : PySem.W.keepIn K (.ref f4) = true)
    (a5 : PySem.W.nsIn K mainGlobals "number_in" = some (some (.ref f5))) (l5 : K.lookup f5 = some ⟨oc5, od5, .func (PySem.W.fnOf "number_in" "number_in" (defArgs s_number_in) (defBody s_number_in) (defScope s_number_in) .none kV5 dc5 pm5 an5 cd5 ct5), sl5⟩) (c5 : PySem.W.codeIn K cd5 "number_in" = true) (k5 : PySem.W.keepIn K (.ref f5) = true)
    (a6 : PySem.W.nsIn K mainGlobals "cell_in" = some (some (.ref f6))) (l6 : K.lookup f6 = some ⟨oc6, od6, .func (PySem.W.fnOf "cell_in" "cell_in" (defArgs s_cell_in) (defBody s_cell_in) (defScope s_cell_in) .none kV6 dc6 pm6 an6 cd6 ct6), sl6⟩) (c6 : PySem.W.codeIn K cd6 "cell_in" = true) (k6 : PySem.W.keepIn K (.ref f6) = true)
    (a7 : PySem.W.nsIn K mainGlobals "read_island" = some (some (.ref f7))) (l7 : K.lookup f7 = some ⟨oc7, od7, .func (PySem.W.fnOf "read_island" "read_island" (defArgs s_read_island) (defBody s_read_island) (defScope s_read_island) .none kV7 dc7 pm7 an7 cd7 ct7), sl7⟩) (c7 : PySem.W.codeIn K cd7 "read_island" = true) (k7 : PySem.W.keepIn K (.ref f7) = true)
    (a8 : PySem.W.nsIn K mainGlobals "_law_text" = some (some (.ref f8))) (l8 : K.lookup f8 = some ⟨oc8, od8, .func (PySem.W.fnOf "_law_text" "_law_text" (defArgs s_l_text) (defBody s_l_text) (defScope s_l_text) .none kV8 dc8 pm8 an8 cd8 ct8), sl8⟩) (c8 : PySem.W.codeIn K cd8 "_law_text" = true) (k8 : PySem.W.keepIn K (.ref f8) = true)
    (a9 : PySem.W.nsIn K mainGlobals "_law_whole" = some (some (.ref f9))) (l9 : K.lookup f9 = some ⟨oc9, od9, .func (PySem.W.fnOf "_law_whole" "_law_whole" (defArgs s_l_whole) (defBody s_l_whole) (defScope s_l_whole) .none kV9 dc9 pm9 an9 cd9 ct9), sl9⟩) (c9 : PySem.W.codeIn K cd9 "_law_whole" = true) (k9 : PySem.W.keepIn K (.ref f9) = true)
    (a10 : PySem.W.nsIn K mainGlobals "_law_right" = some (some (.ref f10))) (l10 : K.lookup f10 = some ⟨oc10, od10, .func (PySem.W.fnOf "_law_right" "_law_right" (defArgs s_l_right) (defBody s_l_right) (defScope s_l_right) .none kV10 dc10 pm10 an10 cd10 ct10), sl10⟩) (c10 : PySem.W.codeIn K cd10 "_law_right" = true) (k10 : PySem.W.keepIn K (.ref f10) = true)
    (a11 : PySem.W.nsIn K mainGlobals "law" = some (some (.ref f11))) (l11 : K.lookup f11 = some ⟨oc11, od11, .func (PySem.W.fnOf "law" "law" (defArgs s_law) (defBody s_law) (defScope s_law) .none kV11 dc11 pm11 an11 cd11 ct11), sl11⟩) (c11 : PySem.W.codeIn K cd11 "law" = true) (k11 : PySem.W.keepIn K (.ref f11) = true)
    (z_all : PySem.W.nsIn K mainGlobals "all" = some none)
    (z_bool : PySem.W.nsIn K mainGlobals "bool" = some none)
    (z_int : PySem.W.nsIn K mainGlobals "int" = some none)
    (z_isinstance : PySem.W.nsIn K mainGlobals "isinstance" = some none)
    (z_len : PySem.W.nsIn K mainGlobals "len" = some none)
    (z_list : PySem.W.nsIn K mainGlobals "list" = some none)
    (z_max : PySem.W.nsIn K mainGlobals "max" = some none)
    (z_range : PySem.W.nsIn K mainGlobals "range" = some none)
    (z_reversed : PySem.W.nsIn K mainGlobals "reversed" = some none)
    (z_set : PySem.W.nsIn K mainGlobals "set" = some none)
    (z_sorted : PySem.W.nsIn K mainGlobals "sorted" = some none)
    (z_str : PySem.W.nsIn K mainGlobals "str" = some none)
    (z_tuple : PySem.W.nsIn K mainGlobals "tuple" = some none)
    (y_FIGURES : PySem.W.nsIn K mainGlobals "FIGURES" = some (some (.str "0123456789" t_FIGURES)))
    (y_MOST_FIGURES : PySem.W.nsIn K mainGlobals "MOST_FIGURES" = some (some (.int 19 t_MOST_FIGURES))) :
    ∃ fd : FuncData, (∀ (s : Shared) (v : Value), BindsTo s fd ⟨[v], []⟩ [("_law_script", v)]) ∧ ∀ base : Heap, K.In base → base.Ns mainGlobals mg → FnOk l.prog w K mg base CX0 6 fa fd ["_law_script"] (spLawD K) := by
  have e := hfa.symm.trans (PySem.W.mg_of X G a11)
  cases e
  have T : Txt mg := ⟨PySem.W.mg_none_of X G z_all, PySem.W.mg_none_of X G z_bool, PySem.W.mg_none_of X G z_int, PySem.W.mg_none_of X G z_isinstance, PySem.W.mg_none_of X G z_len, PySem.W.mg_none_of X G z_list, PySem.W.mg_none_of X G z_max, PySem.W.mg_none_of X G z_range, PySem.W.mg_none_of X G z_reversed, PySem.W.mg_none_of X G z_set, PySem.W.mg_none_of X G z_sorted, PySem.W.mg_none_of X G z_str, PySem.W.mg_none_of X G z_tuple, ⟨_, PySem.W.mg_of X G y_FIGURES⟩, ⟨_, PySem.W.mg_of X G y_MOST_FIGURES⟩⟩
  have F0 := fun_mk (st := s_l_deal) l0 c0 k0
  have b0 := F0.binds (ps := ["_law_script", "_law_base"]) fun _ _ _ _ _ _ us hl => match us, hl with | [_, _], _ => rfl
  have F1 := fun_mk (st := s_l_draw) l1 c1 k1
  have b1 := F1.binds (ps := ["_law_deal_here", "_law_many"]) fun _ _ _ _ _ _ us hl => match us, hl with | [_, _], _ => rfl
  have F2 := fun_mk (st := s_l_island) l2 c2 k2
  have b2 := F2.binds (ps := ["_law_deal_here"]) fun _ _ _ _ _ _ us hl => match us, hl with | [_], _ => rfl
  have F3 := fun_mk (st := s_show_cell) l3 c3 k3
  have b3 := F3.binds (ps := ["cell"]) fun _ _ _ _ _ _ us hl => match us, hl with | [_], _ => rfl
  have F4 := fun_mk (st := s_show_island) l4 c4 k4
  have b4 := F4.binds (ps := ["island"]) fun _ _ _ _ _ _ us hl => match us, hl with | [_], _ => rfl
  have F5 := fun_mk (st := s_number_in) l5 c5 k5
  have b5 := F5.binds (ps := ["word", "most"]) fun _ _ _ _ _ _ us hl => match us, hl with | [_, _], _ => rfl
  have F6 := fun_mk (st := s_cell_in) l6 c6 k6
  have b6 := F6.binds (ps := ["word", "most"]) fun _ _ _ _ _ _ us hl => match us, hl with | [_, _], _ => rfl
  have F7 := fun_mk (st := s_read_island) l7 c7 k7
  have b7 := F7.binds (ps := ["text"]) fun _ _ _ _ _ _ us hl => match us, hl with | [_], _ => rfl
  have F8 := fun_mk (st := s_l_text) l8 c8 k8
  have b8 := F8.binds (ps := ["_law_island_here"]) fun _ _ _ _ _ _ us hl => match us, hl with | [_], _ => rfl
  have F9 := fun_mk (st := s_l_whole) l9 c9 k9
  have b9 := F9.binds (ps := ["_law_number"]) fun _ _ _ _ _ _ us hl => match us, hl with | [_], _ => rfl
  have F10 := fun_mk (st := s_l_right) l10 c10 k10
  have b10 := F10.binds (ps := ["_law_island_here"]) fun _ _ _ _ _ _ us hl => match us, hl with | [_], _ => rfl
  have F11 := fun_mk (st := s_law) l11 c11 k11
  refine ⟨PySem.W.fnOf "law" "law" (defArgs s_law) (defBody s_law) (defScope s_law) .none kV11 dc11 pm11 an11 cd11 ct11, fun s v => .of_eq rfl, fun base _ _ => ?_⟩
  have D_l_deal := ok_l_deal (P := l.prog) (w := w) (base := base) F0 (PySem.W.mg_of X G a0) b0 T
  have D_l_draw := ok_l_draw (P := l.prog) (w := w) (base := base) F1 (PySem.W.mg_of X G a1) b1 T
  have D_l_island := ok_l_island (P := l.prog) (w := w) (base := base) F2 (PySem.W.mg_of X G a2) b2 T D_l_draw
  have D_show_cell := ok_show_cell (P := l.prog) (w := w) (base := base) F3 (PySem.W.mg_of X G a3) b3 T
  have D_show_island := ok_show_island (P := l.prog) (w := w) (base := base) F4 (PySem.W.mg_of X G a4) b4 T D_show_cell
  have D_number_in := ok_number_in (P := l.prog) (w := w) (base := base) F5 (PySem.W.mg_of X G a5) b5 T
  have D_cell_in := ok_cell_in (P := l.prog) (w := w) (base := base) F6 (PySem.W.mg_of X G a6) b6 T D_number_in
  have D_read_island := ok_read_island (P := l.prog) (w := w) (base := base) F7 (PySem.W.mg_of X G a7) b7 T D_cell_in
  have D_l_text := ok_l_text (P := l.prog) (w := w) (base := base) F8 (PySem.W.mg_of X G a8) b8 T
  have D_l_whole := ok_l_whole (P := l.prog) (w := w) (base := base) F9 (PySem.W.mg_of X G a9) b9 T
  have D_l_right := ok_l_right (P := l.prog) (w := w) (base := base) F10 (PySem.W.mg_of X G a10) b10 T D_show_island D_l_text D_read_island D_l_whole
  exact law_d (ok_law (P := l.prog) (w := w) (base := base) F11 T D_l_deal D_l_island D_l_right D_read_island D_l_text) q_law
end DL
open PySem PySem.W PyProof.Rows
set_option maxRecDepth 100000 in
set_option maxHeartbeats 0 in
theorem PySem.Challenge.cw_healfloor_k43_islands_written_and_read_holds : PySem.Challenge.rw_healfloor_k43_islands_written_and_read.Holds := by
  w_on; o_law; k_head; (case hw => w_witness2)
  k_fill
  refine L2.walk_of (l := PySem.Challenge.rw_healfloor_k43_islands_written_and_read) (n := 63) (k := 6) (x := "_law_script") (CX := fun _ => L2.CX0) (sp := fun w => DL.spLawD _) rfl (by decide) rfl ⟨rfl, by decide, by decide⟩ (fun w h Y => PySem.W.kIn_of Y) ?F (fun _ _ a ns hl _ hS => ⟨a, ns, rfl, hS, hl, fun _ => rfl⟩) fun _ _ _ _ _ z => z
  case F =>
    intro w mg fa h KX G hmg
    refine' DL.all_mk KX G hmg ?a0 ?l0 ?c0 ?k0 ?a1 ?l1 ?c1 ?k1 ?a2 ?l2 ?c2 ?k2 ?a3 ?l3 ?c3 ?k3 ?a4 ?l4 ?c4 ?k4 ?a5 ?l5 ?c5 ?k5 ?a6 ?l6 ?c6 ?k6 ?a7 ?l7 ?c7 ?k7 ?a8 ?l8 ?c8 ?k8 ?a9 ?l9 ?c9 ?k9 ?a10 ?l10 ?c10 ?k10 ?a11 ?l11 ?c11 ?k11 ?z_all ?z_bool ?z_int ?z_isinstance ?z_len ?z_list ?z_max ?z_range ?z_reversed ?z_set ?z_sorted ?z_str ?z_tuple ?y_FIGURES ?y_MOST_FIGURES
    (case a0 => k_is)
    (case l0 => k_is)
    (case c0 => k_is)
    (case k0 => k_is)
    (case a1 => k_is)
    (case l1 => k_is)
    (case c1 => k_is)
    (case k1 => k_is)
    (case a2 => k_is)
    (case l2 => k_is)
    (case c2 => k_is)
    (case k2 => k_is)
    (case a3 => k_is)
    (case l3 => k_is)
    (case c3 => k_is)
    (case k3 => k_is)
    (case a4 => k_is)
    (case l4 => k_is)
    (case c4 => k_is)
    (case k4 => k_is)
    (case a5 => k_is)
    (case l5 => k_is)
    (case c5 => k_is)
    (case k5 => k_is)
    (case a6 => k_is)
    (case l6 => k_is)
    (case c6 => k_is)
    (case k6 => k_is)
    (case a7 => k_is)
    (case l7 => k_is)
    (case c7 => k_is)
    (case k7 => k_is)
    (case a8 => k_is)
    (case l8 => k_is)
    (case c8 => k_is)
    (case k8 => k_is)
    (case a9 => k_is)
    (case l9 => k_is)
    (case c9 => k_is)
    (case k9 => k_is)
    (case a10 => k_is)
    (case l10 => k_is)
    (case c10 => k_is)
    (case k10 => k_is)
    (case a11 => k_is)
    (case l11 => k_is)
    (case c11 => k_is)
    (case k11 => k_is)
    (case z_all => k_is)
    (case z_bool => k_is)
    (case z_int => k_is)
    (case z_isinstance => k_is)
    (case z_len => k_is)
    (case z_list => k_is)
    (case z_max => k_is)
    (case z_range => k_is)
    (case z_reversed => k_is)
    (case z_set => k_is)
    (case z_sorted => k_is)
    (case z_str => k_is)
    (case z_tuple => k_is)
    (case y_FIGURES => k_is)
    (case y_MOST_FIGURES => k_is)
