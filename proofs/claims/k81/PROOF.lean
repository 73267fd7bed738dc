import PyProof.Rows.All
import Wide.All
import OpenK.AllK
import Wide.FinOn
import HandS.ForMost
import HandS.Wide
import HandS.Exc
import HandS.Deep
import HandS.Iter
import HandS.Zip
import HandS.NoneIn
import HandS.TupAny
import HandS.IsInst
import HandS.TupLe
import HandS.Rev
import PyProof.ListRange
import HandS.Style
import HandS.TupSets
import HandS.SortOrd
import KE.GoesZip
import PyProof.Draws
import HandS.More
import PyProof.EnumMake
import PyProof.EnumFor
import PySem.Challenge.RW_healfloor_k81_cells_of_lands
set_option Elab.async false
set_option linter.all false
set_option maxRecDepth 100000
set_option maxHeartbeats 2000000
namespace DL
open PySem PySem.Spec PyProof.Rows L2

inductive D where
  | non | bl (b : Bool) | int (i : Int) | str (x : Str) | ty (n : String)
  | tup (ds : List D) | lst (ds : List D)
  | dT (ks : List (List Key)) (ds : List D) | dK (ks : List Key) (ds : List D)
  | deal | feed | ref (a : Addr) | scr (ns : List Int)
  deriving Inhabited

structure Cfg where
  K : PySem.W.Frag
  fd : Addr → Addr → Prop
def Cfg.S (c : Cfg) (b : Addr) : Prop := ∃ a l, c.fd a l ∧ (b = a ∨ b = l)

def FeedA (H : Hp) (a l : Addr) : Prop := a ≠ l ∧ ∃ (s n : Int) (ns : List Int), H a = some (.dK [(Sum.inr "seed", .int s), (Sum.inr "number", .int n), (Sum.inr "left", .ref l)]) ∧ H l = some (.lst (ns.map V.int)) ∧
  0 ≤ s ∧ s < 2147483648 ∧ 0 ≤ n ∧ (∀ x ∈ ns, 0 < x) ∧ ns.length ≤ 63
def FeedC (H : Hp) (a l : Addr) : Prop := a = l ∧ ∃ (n s : Int), H a = some (.lst [.int n, .int s]) ∧ 0 ≤ n ∧ 0 ≤ s ∧ s < 2147483648
def FeedOk (H : Hp) (a l : Addr) : Prop := FeedA H a l ∨ FeedC H a l
theorem FeedOk.some1 {H : Hp} {a l : Addr} (h : FeedOk H a l) : H a ≠ none := by
  rcases h with ⟨_, s, n, ns, h, _⟩ | ⟨_, n, s, h, _⟩ <;> rw [h] <;> exact fun z => nomatch z
theorem FeedOk.some2 {H : Hp} {a l : Addr} (h : FeedOk H a l) : H l ≠ none := by
  rcases h with ⟨_, s, n, ns, _, h, _⟩ | ⟨e, n, s, h, _⟩
  · rw [h]; exact fun z => nomatch z
  · subst e; rw [h]; exact fun z => nomatch z
theorem FeedOk.same {H H' : Hp} {a l : Addr} (h : FeedOk H a l) (ha : H' a = H a) (hl : H' l = H l) : FeedOk H' a l := by
  unfold FeedOk FeedA FeedC at *
  rw [ha, hl]
  exact h
structure FeedsOk (c : Cfg) (H : Hp) : Prop where
  ok : ∀ a l, c.fd a l → FeedOk H a l
  apart : ∀ a l a' l', c.fd a l → c.fd a' l' → (a = a' ∧ l = l') ∨ (a ≠ a' ∧ a ≠ l' ∧ l ≠ a' ∧ l ≠ l')
theorem FeedsOk.al {c : Cfg} {H : Hp} (h : FeedsOk c H) {b : Addr} (hb : c.S b) : H b ≠ none := by
  obtain ⟨a, l, f, rfl | rfl⟩ := hb
  · exact (h.ok _ _ f).some1
  · exact (h.ok _ _ f).some2

structure Step (c : Cfg) (H : Hp) (c' : Cfg) (H' : Hp) : Prop where
  kk : c'.K = c.K
  sub : ∀ a l, c.fd a l → c'.fd a l
  new : ∀ b, c'.S b → c.S b ∨ H b = none
  keep : ∀ b o, ¬ c.S b → H b = some o → H' b = some o
  fok : FeedsOk c' H'
theorem Step.subS {c c' : Cfg} {H H' : Hp} (t : Step c H c' H') {b : Addr} (h : c.S b) : c'.S b := by
  obtain ⟨a, l, f, e⟩ := h
  exact ⟨a, l, t.sub _ _ f, e⟩
theorem Step.refl {c : Cfg} {H : Hp} (h : FeedsOk c H) : Step c H c H := ⟨rfl, fun _ _ f => f, fun _ h => .inl h, fun _ _ _ h => h, h⟩
theorem Step.notS {c c' : Cfg} {H H' : Hp} (t : Step c H c' H') {b : Addr} {o : HO} (h : H b = some o) (hs : ¬ c.S b) : ¬ c'.S b := fun z => by
  rcases t.new b z with z | z
  · exact hs z
  · rw [h] at z; cases z
theorem Step.trans {c c1 c2 : Cfg} {H H1 H2 : Hp} (t : Step c H c1 H1) (u : Step c1 H1 c2 H2) : Step c H c2 H2 := by
  refine ⟨u.kk.trans t.kk, fun a l f => u.sub _ _ (t.sub _ _ f), fun b h => ?_, fun b o hs h => u.keep b o (t.notS h hs) (t.keep b o hs h), u.fok⟩
  rcases u.new b h with h | h
  · exact t.new b h
  · cases q : H b with
    | none => exact .inr rfl
    | some o =>
      by_cases hs : c.S b
      · exact .inl hs
      · rw [t.keep b o hs q] at h; cases h
theorem Step.alive {c c' : Cfg} {H H' : Hp} (t : Step c H c' H') {b : Addr} (h : H b ≠ none) : H' b ≠ none := by
  by_cases hs : c.S b
  · exact t.fok.al (t.subS hs)
  · cases q : H b with
    | none => exact absurd q h
    | some o => rw [t.keep b o hs q]; exact fun z => nomatch z
theorem Step.fresh {c c' : Cfg} {H H' : Hp} (t : Step c H c' H') {b : Addr} (h : H' b = none) : H b = none := by
  cases q : H b with
  | none => rfl
  | some o => exact absurd h (t.alive (by rw [q]; exact fun z => nomatch z))
theorem Step.upd {c c' : Cfg} {H H' : Hp} (t : Step c H c' H') {p : Addr} {o : HO} (h : H p = none) (hs : ¬ c'.S p) : Step c H c' (upd H' p o) := by
  refine ⟨t.kk, t.sub, t.new, fun b u hb e => ?_, ⟨fun a l f => ?_, t.fok.apart⟩⟩
  · rw [upd_ne (ne_of_none e h)]
    exact t.keep b u hb e
  · have ha : a ≠ p := fun z => hs (z ▸ ⟨a, l, f, .inl rfl⟩)
    have hl : l ≠ p := fun z => hs (z ▸ ⟨a, l, f, .inr rfl⟩)
    exact (t.fok.ok a l f).same (upd_ne ha) (upd_ne hl)
theorem FeedsOk.fresh {c : Cfg} {H : Hp} (h : FeedsOk c H) {p : Addr} (hp : H p = none) : ¬ c.S p := fun z => h.al z hp
theorem Step.one {c : Cfg} {H : Hp} (f : FeedsOk c H) {p : Addr} {o : HO} (h : H p = none) : Step c H c (L2.upd H p o) := (Step.refl f).upd h (f.fresh h)
theorem Step.more {c c' : Cfg} {H H' : Hp} (t : Step c H c' H') {p : Addr} {o : HO} (h : H' p = none) : Step c H c' (L2.upd H' p o) := t.upd (t.fresh h) (t.fok.fresh h)
theorem Step.ofSame {c : Cfg} {H H' : Hp} (f : FeedsOk c H) (h : ∀ b o, H b = some o → H' b = some o) : Step c H c H' := by
  have e : ∀ b, H b ≠ none → H' b = H b := fun b hb => by
    cases q : H b with
    | none => exact absurd q hb
    | some o => exact h b o q
  exact ⟨rfl, fun _ _ z => z, fun _ z => .inl z, fun b o _ z => h b o z, ⟨fun a l z => (f.ok a l z).same (e _ (f.ok a l z).some1) (e _ (f.ok a l z).some2), f.apart⟩⟩

def NodT (c : Cfg) (Av : Addr → Prop) (H : Hp) (a : Addr) (vs : List V) : Prop := vs.length ≤ sizeLine ∧ ((¬ Av a ∧ H a = some (.tup vs)) ∨ SqT c.K (fun _ => none) a vs)
def NodL (Av : Addr → Prop) (H : Hp) (a : Addr) (vs : List V) : Prop := vs.length ≤ sizeLine ∧ ¬ Av a ∧ H a = some (.lst vs)
mutual
inductive Rep (c : Cfg) (Av : Addr → Prop) (H : Hp) : V → D → Prop
  | non : Rep c Av H .non .non
  | bl (b : Bool) : Rep c Av H (.bl b) (.bl b)
  | int (i : Int) : Rep c Av H (.int i) (.int i)
  | str (x : Str) : Rep c Av H (.str x) (.str x)
  | ty (n : String) : Rep c Av H (.ty n) (.ty n)
  | ref (a : Addr) : Rep c Av H (.ref a) (.ref a)
  | deal {a l : Addr} : a ≠ l → c.fd a l → Rep c Av H (.ref a) .deal
  | feed {a : Addr} : c.fd a a → Rep c Av H (.ref a) .feed
  | scr {a : Addr} {ns : List Int} : ns.length ≤ 63 → ((¬ Av a ∧ Rd H a (.lst (ns.map V.int))) ∨ SqL c.K (fun _ => none) a (ns.map V.int)) → Rep c Av H (.ref a) (.scr ns)
  | tup {a : Addr} {vs : List V} {ds : List D} : NodT c Av H a vs → RepL c Av H vs ds → Rep c Av H (.ref a) (.tup ds)
  | lst {a : Addr} {vs : List V} {ds : List D} : NodL Av H a vs → RepL c Av H vs ds → Rep c Av H (.ref a) (.lst ds)
  | dT {a : Addr} {ks : List (List Key)} {vs : List V} {ds : List D} : ks.length = vs.length → ¬ Av a → H a = some (.dT (ks.zip vs)) → RepL c Av H vs ds → Rep c Av H (.ref a) (.dT ks ds)
  | dK {a : Addr} {ks : List Key} {vs : List V} {ds : List D} : ks.length = vs.length → ¬ Av a → H a = some (.dK (ks.zip vs)) → RepL c Av H vs ds → Rep c Av H (.ref a) (.dK ks ds)
inductive RepL (c : Cfg) (Av : Addr → Prop) (H : Hp) : List V → List D → Prop
  | nil : RepL c Av H [] []
  | cons {v : V} {vs : List V} {d : D} {ds : List D} : Rep c Av H v d → RepL c Av H vs ds → RepL c Av H (v :: vs) (d :: ds)
end
section
variable {c c' : Cfg} {Av Av' : Addr → Prop} {H H' : Hp}
theorem rd_mv {a : Addr} {u : HO} (m : ∀ b o, ¬ Av b → H b = some o → ¬ Av' b ∧ H' b = some o) (n : ¬ Av a) (h : Rd H a u) : ¬ Av' a ∧ Rd H' a u := by
  rcases h with h | ⟨o, h⟩
  · exact ⟨(m _ _ n h).1, .inl (m _ _ n h).2⟩
  · exact ⟨(m _ _ n h).1, .inr ⟨o, (m _ _ n h).2⟩⟩
mutual
theorem Rep.mv (k : c'.K = c.K) (f : ∀ a l, c.fd a l → c'.fd a l) (m : ∀ b o, ¬ Av b → H b = some o → ¬ Av' b ∧ H' b = some o) : ∀ (d : D) (v : V), Rep c Av H v d → Rep c' Av' H' v d
  | .non, _, h => by cases h; exact .non
  | .bl _, _, h => by cases h; exact .bl _
  | .int _, _, h => by cases h; exact .int _
  | .str _, _, h => by cases h; exact .str _
  | .ty _, _, h => by cases h; exact .ty _
  | .ref _, _, h => by cases h; exact .ref _
  | .deal, _, h => by cases h with | deal n z => exact .deal n (f _ _ z)
  | .feed, _, h => by cases h with | feed z => exact .feed (f _ _ z)
  | .scr ns, _, h => by
    cases h with
    | scr e n =>
      refine .scr e ?_
      rcases n with n | n
      · exact .inl (rd_mv m n.1 n.2)
      · exact .inr (by rw [k]; exact n)
  | .tup ds, _, h => by
    cases h with
    | tup n r =>
      refine .tup ⟨n.1, ?_⟩ (RepL.mv k f m ds _ r)
      rcases n.2 with n | n
      · exact .inl (m _ _ n.1 n.2)
      · exact .inr (by rw [k]; exact n)
  | .lst ds, _, h => by
    cases h with
    | lst n r => exact .lst ⟨n.1, m _ _ n.2.1 n.2.2⟩ (RepL.mv k f m ds _ r)
  | .dT ks ds, _, h => by
    cases h with
    | dT e n g r => exact .dT e (m _ _ n g).1 (m _ _ n g).2 (RepL.mv k f m ds _ r)
  | .dK ks ds, _, h => by
    cases h with
    | dK e n g r => exact .dK e (m _ _ n g).1 (m _ _ n g).2 (RepL.mv k f m ds _ r)
theorem RepL.mv (k : c'.K = c.K) (f : ∀ a l, c.fd a l → c'.fd a l) (m : ∀ b o, ¬ Av b → H b = some o → ¬ Av' b ∧ H' b = some o) : ∀ (ds : List D) (vs : List V), RepL c Av H vs ds → RepL c' Av' H' vs ds
  | [], _, h => by cases h; exact .nil
  | d :: ds, _, h => by
    cases h with
    | cons r s => exact .cons (Rep.mv k f m d _ r) (RepL.mv k f m ds _ s)
end
theorem RepL.len : ∀ {vs : List V} {ds : List D}, RepL c Av H vs ds → vs.length = ds.length
  | _, _, .nil => rfl
  | _, _, .cons _ t => congrArg (· + 1) t.len
theorem RepL.get : ∀ {vs : List V} {ds : List D} {i : Nat} {d : D}, RepL c Av H vs ds → ds[i]? = some d → ∃ v, vs[i]? = some v ∧ Rep c Av H v d
  | _, _, _, _, .nil, e => by simp at e
  | _, _, 0, _, .cons r _, e => by
    have e' := Option.some.inj e
    subst e'
    exact ⟨_, rfl, r⟩
  | _, _, i + 1, d, .cons _ t, e => by
    obtain ⟨u, h1, h2⟩ := RepL.get (i := i) (d := d) t (by simpa using e)
    exact ⟨u, by simpa using h1, h2⟩
theorem RepL.getV : ∀ {vs : List V} {ds : List D} {i : Nat} {v : V}, RepL c Av H vs ds → vs[i]? = some v → ∃ d, ds[i]? = some d ∧ Rep c Av H v d
  | _, _, _, _, .nil, e => by simp at e
  | _, _, 0, _, .cons r _, e => by
    have e' := Option.some.inj e
    subst e'
    exact ⟨_, rfl, r⟩
  | _, _, i + 1, v, .cons _ t, e => by
    obtain ⟨u, h1, h2⟩ := RepL.getV (i := i) (v := v) t (by simpa using e)
    exact ⟨u, by simpa using h1, h2⟩
theorem RepL.append : ∀ {vs ws : List V} {ds es : List D}, RepL c Av H vs ds → RepL c Av H ws es → RepL c Av H (vs ++ ws) (ds ++ es)
  | _, _, _, _, .nil, s => s
  | _, _, _, _, .cons r t, s => .cons r (t.append s)
theorem RepL.take : ∀ {vs : List V} {ds : List D} (n : Nat), RepL c Av H vs ds → RepL c Av H (vs.take n) (ds.take n)
  | _, _, 0, _ => .nil
  | _, _, _ + 1, .nil => .nil
  | _, _, n + 1, .cons r t => .cons r (t.take n)
theorem RepL.drop : ∀ {vs : List V} {ds : List D} (n : Nat), RepL c Av H vs ds → RepL c Av H (vs.drop n) (ds.drop n)
  | _, _, 0, r => r
  | _, _, _ + 1, .nil => .nil
  | _, _, n + 1, .cons _ t => t.drop n
theorem RepL.set {v : V} {d : D} (r : Rep c Av H v d) : ∀ {vs : List V} {ds : List D} (i : Nat), RepL c Av H vs ds → RepL c Av H (vs.set i v) (ds.set i d)
  | _, _, _, .nil => .nil
  | _, _, 0, .cons _ t => .cons r t
  | _, _, i + 1, .cons q t => .cons q (t.set r i)
theorem RepL.rev : ∀ {vs : List V} {ds : List D}, RepL c Av H vs ds → RepL c Av H vs.reverse ds.reverse
  | _, _, .nil => .nil
  | _, _, .cons r t => by
    rw [List.reverse_cons, List.reverse_cons]
    exact t.rev.append (.cons r .nil)
theorem RepL.ints : ∀ {vs : List V} {ns : List Int}, RepL c Av H vs (ns.map D.int) → vs = ns.map V.int
  | _, [], h => by cases h; rfl
  | _, n :: ns, h => by
    cases h with
    | cons r t =>
      cases r
      rw [t.ints]
      rfl
theorem RepL.ofInts : ∀ (ns : List Int), RepL c Av H (ns.map V.int) (ns.map D.int)
  | [] => .nil
  | n :: ns => .cons (.int n) (RepL.ofInts ns)
theorem sqT_any {K : PySem.W.Frag} {a : Addr} {vs : List V} (h : SqT K (fun _ => none) a vs) (H : Hp) : SqT K H a vs := by
  rcases h with (h | ⟨o, h⟩) | h
  · cases h
  · cases h
  · exact .inr h
theorem sqL_any {K : PySem.W.Frag} {a : Addr} {vs : List V} (h : SqL K (fun _ => none) a vs) (H : Hp) : SqL K H a vs := by
  rcases h with (h | ⟨o, h⟩) | h
  · cases h
  · cases h
  · exact .inr h
theorem NodT.sq {a : Addr} {vs : List V} (h : NodT c Av H a vs) : SqT c.K H a vs := by
  rcases h.2 with h | h
  · exact .inl (.inl h.2)
  · exact sqT_any h H
theorem NodL.sq {K : PySem.W.Frag} {a : Addr} {vs : List V} (h : NodL Av H a vs) : SqL K H a vs := .inl (.inl h.2.2)
end

abbrev PEnv := List (Option D)
def OwnA (own : List Nat) (σ : L2.St) (ρ : PEnv) (a : Addr) : Prop := ∃ i d, i ∈ own ∧ ρ[i]? = some (some d) ∧ σ[i]? = some (some (.ref a))
def Avd (c : Cfg) (own : List Nat) (A : Addr → Prop) (σ : L2.St) (ρ : PEnv) (a : Addr) : Prop := A a ∨ c.S a ∨ OwnA own σ ρ a
inductive OwnR (c : Cfg) (Av : Addr → Prop) (H : Hp) (a : Addr) : D → Prop
  | lst {vs : List V} {ds : List D} : vs.length ≤ sizeLine → H a = some (.lst vs) → RepL c Av H vs ds → OwnR c Av H a (.lst ds)
  | dT {ks : List (List Key)} {vs : List V} {ds : List D} : ks.length = vs.length → H a = some (.dT (ks.zip vs)) → RepL c Av H vs ds → OwnR c Av H a (.dT ks ds)
  | dK {ks : List Key} {vs : List V} {ds : List D} : ks.length = vs.length → H a = some (.dK (ks.zip vs)) → RepL c Av H vs ds → OwnR c Av H a (.dK ks ds)
structure EnvR (c : Cfg) (own : List Nat) (A : Addr → Prop) (σ : L2.St) (ρ : PEnv) (H : Hp) : Prop where
  fok : FeedsOk c H
  len : ρ.length = σ.length
  avA : ∀ a, A a → H a ≠ none
  slot : ∀ i d, ρ[i]? = some (some d) → i ∉ own → ∃ v, σ[i]? = some (some v) ∧ Rep c (Avd c own A σ ρ) H v d
  ownS : ∀ i d, ρ[i]? = some (some d) → i ∈ own → ∃ a, σ[i]? = some (some (.ref a)) ∧ ¬ A a ∧ ¬ c.S a ∧ OwnR c (Avd c own A σ ρ) H a d
  dist : ∀ i j a d e, i ∈ own → j ∈ own → ρ[i]? = some (some d) → ρ[j]? = some (some e) → σ[i]? = some (some (.ref a)) → σ[j]? = some (some (.ref a)) → i = j
section
variable {c c' : Cfg} {own : List Nat} {A : Addr → Prop} {σ : L2.St} {ρ : PEnv} {H H' : Hp}
theorem OwnR.some {Av : Addr → Prop} {a : Addr} {d : D} (h : OwnR c Av H a d) : H a ≠ none := by
  cases h with
  | lst _ h _ => rw [h]; exact fun z => nomatch z
  | dT _ h _ => rw [h]; exact fun z => nomatch z
  | dK _ h _ => rw [h]; exact fun z => nomatch z
theorem OwnR.mv {Av Av' : Addr → Prop} {a : Addr} {d : D} (k : c'.K = c.K) (f : ∀ a l, c.fd a l → c'.fd a l) (m : ∀ b o, ¬ Av b → H b = .some o → ¬ Av' b ∧ H' b = .some o) (e : ∀ o, H a = .some o → H' a = .some o) (h : OwnR c Av H a d) : OwnR c' Av' H' a d := by
  cases h with
  | lst z h r => exact .lst z (e _ h) (RepL.mv k f m _ _ r)
  | dT z h r => exact .dT z (e _ h) (RepL.mv k f m _ _ r)
  | dK z h r => exact .dK z (e _ h) (RepL.mv k f m _ _ r)
theorem EnvR.own_al (E : EnvR c own A σ ρ H) {a : Addr} (h : OwnA own σ ρ a) : H a ≠ none := by
  obtain ⟨i, d, hi, h1, h2⟩ := h
  obtain ⟨b, e, _, _, r⟩ := E.ownS i d h1 hi
  rw [h2] at e
  have e' := Option.some.inj (Option.some.inj e)
  cases e'
  exact r.some
theorem EnvR.al (E : EnvR c own A σ ρ H) {a : Addr} (h : Avd c own A σ ρ a) : H a ≠ none := by
  rcases h with h | h | h
  · exact E.avA a h
  · exact E.fok.al h
  · exact E.own_al h
theorem EnvR.mv (E : EnvR c own A σ ρ H) (t : Step c H c' H') : ∀ b o, ¬ Avd c own A σ ρ b → H b = some o → ¬ Avd c' own A σ ρ b ∧ H' b = some o := fun b o n h => by
  have hs : ¬ c.S b := fun z => n (.inr (.inl z))
  refine ⟨fun z => ?_, t.keep b o hs h⟩
  rcases z with z | z | z
  · exact n (.inl z)
  · exact t.notS h hs z
  · exact n (.inr (.inr z))
theorem EnvR.step (E : EnvR c own A σ ρ H) (t : Step c H c' H') : EnvR c' own A σ ρ H' := by
  have m := E.mv t
  refine ⟨t.fok, E.len, fun a h => t.alive (E.avA a h), fun i d h hi => ?_, fun i d h hi => ?_, E.dist⟩
  · obtain ⟨v, h1, h2⟩ := E.slot i d h hi
    exact ⟨v, h1, Rep.mv t.kk t.sub m d v h2⟩
  · obtain ⟨a, h1, h2, h3, h4⟩ := E.ownS i d h hi
    have q : H a ≠ none := h4.some
    refine ⟨a, h1, h2, fun z => ?_, h4.mv t.kk t.sub m fun o e => t.keep a o h3 e⟩
    rcases t.new a z with z | z
    · exact h3 z
    · exact q z
end
end DL

set_option Elab.async false
set_option linter.all false
set_option maxRecDepth 100000
set_option maxHeartbeats 2000000
namespace DL
open PySem PySem.Spec PyProof.Rows L2

theorem pe_imp {X : Cx} {e : Expr} {t t' : TE} (h : PE X e t) (m : ∀ σ H Q, t' σ H Q → t σ H Q) : PE X e t' := ⟨fun pins s σ H Q I q => h.run pins s σ H Q I (m σ H Q q)⟩
theorem pt_imp {X : Cx} {e : Expr} {t t' : TT} (h : PT X e t) (m : ∀ σ H Q, t' σ H Q → t σ H Q) : PT X e t' := ⟨fun pins s σ H Q I q => h.run pins s σ H Q I (m σ H Q q)⟩
theorem pw_imp {X : Cx} {e : Expr} {t t' : TT} (h : PW X e t) (m : ∀ σ H Q, t' σ H Q → t σ H Q) : PW X e t' := ⟨fun w pins s σ H Q I q => h.run w pins s σ H Q I (m σ H Q q)⟩
theorem pa_imp {X : Cx} {es : List Expr} {t t' : TA} (h : PA X es t) (m : ∀ σ H Q, t' σ H Q → t σ H Q) : PA X es t' := ⟨fun p pins s σ H Q I q => h.run p pins s σ H Q I (m σ H Q q)⟩
theorem ps_imp {X : Cx} {st : Stmt} {t t' : TS} (h : PS X st t) (m : ∀ D σ H, t' D σ H → t D σ H) : PS X st t' := ⟨fun pins s σ H D I q => h.run pins s σ H D I (m D σ H q)⟩
theorem pss_imp {X : Cx} {st : List Stmt} {t t' : TS} (h : PSs X st t) (m : ∀ D σ H, t' D σ H → t D σ H) : PSs X st t' := ⟨fun pins s σ H D I q => h.run pins s σ H D I (m D σ H q)⟩

inductive Kd where | weak | strong | fresh
abbrev TED := PEnv → (D → Prop) → Prop
abbrev TTD := PEnv → (Bool → Prop) → Prop
abbrev TAD := PEnv → (List D → Prop) → Prop

section
variable (c : Cfg) (own : List Nat) (A : Addr → Prop) (σ : L2.St) (ρ : PEnv)
def RepW (H : Hp) (v : V) (d : D) : Prop := Rep c (Avd c own A σ ρ) H v d ∨ ∃ a, v = .ref a ∧ OwnA own σ ρ a ∧ ¬ A a ∧ ¬ c.S a ∧ OwnR c (Avd c own A σ ρ) H a d
def Fr (H0 H : Hp) (v : V) (d : D) : Prop := ∃ a, v = .ref a ∧ H0 a = none ∧ ¬ c.S a ∧ OwnR c (fun b => Avd c own A σ ρ b ∨ b = a) H a d
def Res (k : Kd) (H0 H : Hp) (v : V) (d : D) : Prop := match k with
  | .weak => RepW c own A σ ρ H v d
  | .strong => Rep c (Avd c own A σ ρ) H v d
  | .fresh => Fr c own A σ ρ H0 H v d
end

def lift (K : PySem.W.Frag) (own : List Nat) (k : Kd) (p : TED) : TE := fun σ H Q => ∃ c A ρ R, c.K = K ∧ EnvR c own A σ ρ H ∧ p ρ R ∧ ∀ c' v H' d, Step c H c' H' → Res c' own A σ ρ k H H' v d → R d → Q v H'
def liftT (K : PySem.W.Frag) (own : List Nat) (p : TTD) : TT := fun σ H Q => ∃ c A ρ R, c.K = K ∧ EnvR c own A σ ρ H ∧ p ρ R ∧ ∀ c' H' b, Step c H c' H' → R b → Q b H'
def liftA (K : PySem.W.Frag) (own : List Nat) (k : Kd) (n : Nat) (p : TAD) : TA := fun σ H Q => ∃ c A ρ R, c.K = K ∧ EnvR c own A σ ρ H ∧ p ρ R ∧ ∀ c' vs H' ds, Step c H c' H' → Paired (Res c' own A σ ρ k H' H') vs ds → ds.length = n → R ds → Q vs H'

section
variable {c c' : Cfg} {own : List Nat} {A : Addr → Prop} {σ : L2.St} {ρ : PEnv} {H H' H0 : Hp} {v : V} {d : D}
theorem Rep.step (E : EnvR c own A σ ρ H) (t : Step c H c' H') (r : Rep c (Avd c own A σ ρ) H v d) : Rep c' (Avd c' own A σ ρ) H' v d := Rep.mv t.kk t.sub (E.mv t) d v r
theorem RepL.step {vs : List V} {ds : List D} (E : EnvR c own A σ ρ H) (t : Step c H c' H') (r : RepL c (Avd c own A σ ρ) H vs ds) : RepL c' (Avd c' own A σ ρ) H' vs ds := RepL.mv t.kk t.sub (E.mv t) ds vs r
theorem RepW.step (E : EnvR c own A σ ρ H) (t : Step c H c' H') (r : RepW c own A σ ρ H v d) : RepW c' own A σ ρ H' v d := by
  rcases r with r | ⟨a, e, o, n1, n2, r⟩
  · exact .inl (r.step E t)
  · refine .inr ⟨a, e, o, n1, fun z => ?_, r.mv t.kk t.sub (E.mv t) fun o e => t.keep a o n2 e⟩
    rcases t.new a z with z | z
    · exact n2 z
    · exact r.some z
theorem Rep.weak (r : Rep c (Avd c own A σ ρ) H v d) : RepW c own A σ ρ H v d := .inl r
theorem Fr.strong (t : Step c H0 c' H') (E : EnvR c own A σ ρ H0) (r : Fr c' own A σ ρ H0 H' v d) : Rep c' (Avd c' own A σ ρ) H' v d := by
  obtain ⟨a, rfl, n, ns, r⟩ := r
  have na : ¬ Avd c' own A σ ρ a := fun z => by
    rcases z with z | z | z
    · exact E.avA a z n
    · exact ns z
    · exact E.own_al z n
  have m : ∀ b o, ¬ (Avd c' own A σ ρ b ∨ b = a) → H' b = some o → ¬ Avd c' own A σ ρ b ∧ H' b = some o := fun b o h e => ⟨fun z => h (.inl z), e⟩
  cases r with
  | lst z h r => exact .lst ⟨z, na, h⟩ (RepL.mv rfl (fun _ _ z => z) m _ _ r)
  | dT z h r => exact .dT z na h (RepL.mv rfl (fun _ _ z => z) m _ _ r)
  | dK z h r => exact .dK z na h (RepL.mv rfl (fun _ _ z => z) m _ _ r)
theorem Res.weak {k : Kd} (t : Step c H c' H') (E : EnvR c own A σ ρ H) (r : Res c' own A σ ρ k H H' v d) : RepW c' own A σ ρ H' v d := by
  cases k with
  | weak => exact r
  | strong => exact .inl r
  | fresh => exact .inl (Fr.strong t E r)
theorem Res.strong {k : Kd} (hk : k ≠ .weak) (t : Step c H c' H') (E : EnvR c own A σ ρ H) (r : Res c' own A σ ρ k H H' v d) : Rep c' (Avd c' own A σ ρ) H' v d := by
  cases k with
  | weak => exact absurd rfl hk
  | strong => exact r
  | fresh => exact Fr.strong t E r
theorem RepW.int {i : Int} (r : RepW c own A σ ρ H v (.int i)) : v = .int i := by
  rcases r with r | ⟨a, e, o, n1, n2, r⟩
  · cases r; rfl
  · cases r
theorem RepW.bl {b : Bool} (r : RepW c own A σ ρ H v (.bl b)) : v = .bl b := by
  rcases r with r | ⟨a, e, o, n1, n2, r⟩
  · cases r; rfl
  · cases r
theorem RepW.str {x : Str} (r : RepW c own A σ ρ H v (.str x)) : v = .str x := by
  rcases r with r | ⟨a, e, o, n1, n2, r⟩
  · cases r; rfl
  · cases r
theorem RepW.non (r : RepW c own A σ ρ H v .non) : v = .non := by
  rcases r with r | ⟨a, e, o, n1, n2, r⟩
  · cases r; rfl
  · cases r
theorem RepW.ty {n : String} (r : RepW c own A σ ρ H v (.ty n)) : v = .ty n := by
  rcases r with r | ⟨a, e, o, n1, n2, r⟩
  · cases r; rfl
  · cases r
theorem RepW.ref {a : Addr} (r : RepW c own A σ ρ H v (.ref a)) : v = .ref a := by
  rcases r with r | ⟨a, e, o, n1, n2, r⟩
  · cases r; rfl
  · cases r
theorem RepW.scr {ns : List Int} (r : RepW c own A σ ρ H v (.scr ns)) : ∃ a, v = .ref a ∧ ns.length ≤ 63 ∧ SqL c.K H a (ns.map V.int) := by
  rcases r with r | ⟨a, e, o, n1, n2, r⟩
  · cases r with
    | scr e n =>
      refine ⟨_, rfl, e, ?_⟩
      rcases n with n | n
      · exact .inl n.2
      · exact sqL_any n H
  · cases r
theorem RepW.deal (r : RepW c own A σ ρ H v .deal) : ∃ a l, v = .ref a ∧ a ≠ l ∧ c.fd a l := by
  rcases r with r | ⟨a, e, o, n1, n2, r⟩
  · cases r with | deal n z => exact ⟨_, _, rfl, n, z⟩
  · cases r
theorem RepW.tup {ds : List D} (r : RepW c own A σ ρ H v (.tup ds)) : ∃ a vs, v = .ref a ∧ NodT c (Avd c own A σ ρ) H a vs ∧ RepL c (Avd c own A σ ρ) H vs ds := by
  rcases r with r | ⟨a, e, o, n1, n2, r⟩
  · cases r with | tup n r => exact ⟨_, _, rfl, n, r⟩
  · cases r
theorem RepW.lst {ds : List D} (r : RepW c own A σ ρ H v (.lst ds)) : ∃ a vs, v = .ref a ∧ vs.length ≤ sizeLine ∧ H a = some (.lst vs) ∧ RepL c (Avd c own A σ ρ) H vs ds := by
  rcases r with r | ⟨a, e, o, n1, n2, r⟩
  · cases r with | lst n r => exact ⟨_, _, rfl, n.1, n.2.2, r⟩
  · cases r with | lst z h r => exact ⟨_, _, e, z, h, r⟩
theorem RepW.dT {ks : List (List Key)} {ds : List D} (r : RepW c own A σ ρ H v (.dT ks ds)) : ∃ a vs, v = .ref a ∧ ks.length = vs.length ∧ H a = some (.dT (ks.zip vs)) ∧ RepL c (Avd c own A σ ρ) H vs ds := by
  rcases r with r | ⟨a, e, o, n1, n2, r⟩
  · cases r with | dT e n g r => exact ⟨_, _, rfl, e, g, r⟩
  · cases r with | dT z h r => exact ⟨_, _, e, z, h, r⟩
theorem RepW.dK {ks : List Key} {ds : List D} (r : RepW c own A σ ρ H v (.dK ks ds)) : ∃ a vs, v = .ref a ∧ ks.length = vs.length ∧ H a = some (.dK (ks.zip vs)) ∧ RepL c (Avd c own A σ ρ) H vs ds := by
  rcases r with r | ⟨a, e, o, n1, n2, r⟩
  · cases r with | dK e n g r => exact ⟨_, _, rfl, e, g, r⟩
  · cases r with | dK z h r => exact ⟨_, _, e, z, h, r⟩
theorem Fr.newL (E : EnvR c own A σ ρ H) {vs : List V} {ds : List D} {p : Addr} (hp : H p = none) (hz : vs.length ≤ sizeLine) (r : RepL c (Avd c own A σ ρ) H vs ds) : Fr c own A σ ρ H (L2.upd H p (.lst vs)) (.ref p) (.lst ds) :=
  ⟨p, rfl, hp, E.fok.fresh hp, .lst hz upd_same (RepL.mv rfl (fun _ _ z => z) (fun b o n e => by
    have hb : b ≠ p := ne_of_none e hp
    exact ⟨fun z => z.elim n hb, by rw [upd_ne hb]; exact e⟩) _ _ r)⟩
theorem Rep.newT (E : EnvR c own A σ ρ H) {vs : List V} {ds : List D} {p : Addr} (hp : H p = none) (hz : vs.length ≤ sizeLine) (r : RepL c (Avd c own A σ ρ) H vs ds) : Rep c (Avd c own A σ ρ) (L2.upd H p (.tup vs)) (.ref p) (.tup ds) :=
  .tup ⟨hz, .inl ⟨fun z => E.al z hp, upd_same⟩⟩ (RepL.mv rfl (fun _ _ z => z) (fun b o n e => ⟨n, by rw [upd_ne (ne_of_none e hp)]; exact e⟩) _ _ r)
theorem paired_strong {vs : List V} {ds : List D} (h : Paired (Res c own A σ ρ .strong H H) vs ds) : RepL c (Avd c own A σ ρ) H vs ds := by
  induction h with
  | nil => exact .nil
  | cons r _ ih => exact .cons r ih
theorem OwnR.rep {Av Av' : Addr → Prop} {a : Addr} {d : D} (n : ¬ Av' a) (m : ∀ b, Av' b → Av b) (h : OwnR c Av H a d) : Rep c Av' H (.ref a) d := by
  cases h with
  | lst z h r => exact .lst ⟨z, n, h⟩ (RepL.mv rfl (fun _ _ z => z) (fun b o k e => ⟨fun z => k (m b z), e⟩) _ _ r)
  | dT z h r => exact .dT z n h (RepL.mv rfl (fun _ _ z => z) (fun b o k e => ⟨fun z => k (m b z), e⟩) _ _ r)
  | dK z h r => exact .dK z n h (RepL.mv rfl (fun _ _ z => z) (fun b o k e => ⟨fun z => k (m b z), e⟩) _ _ r)
theorem RepW.seen (h : RepW c own A σ ρ H v d) : Rep c (fun b => A b ∨ c.S b) H v d := by
  rcases h with r | ⟨a, e, o, n1, n2, r⟩
  · exact Rep.mv rfl (fun _ _ z => z) (fun b o n e => ⟨fun z => n (z.elim .inl fun z => .inr (.inl z)), e⟩) _ _ r
  · subst e
    exact r.rep (fun z => z.elim n1 n2) fun b z => z.elim .inl fun z => .inr (.inl z)
theorem paired_seen {vs : List V} {ds : List D} (h : Paired (Res c own A σ ρ .weak H H) vs ds) : RepL c (fun b => A b ∨ c.S b) H vs ds := by
  induction h with
  | nil => exact .nil
  | cons r _ ih => exact .cons (RepW.seen r) ih
end

section
variable {X : Cx} {own : List Nat} {k : Kd} {p q r : TED}
theorem e_weak {e : Expr} (h : PE X e (lift X.K own k p)) : PE X e (lift X.K own .weak p) := pe_imp h fun σ H Q ⟨c, A, ρ, R, hk, E, hp, f⟩ => ⟨c, A, ρ, R, hk, E, hp, fun c' v H' d t r => f c' v H' d t (Res.weak t E r)⟩
theorem e_strong {e : Expr} (h : PE X e (lift X.K own .fresh p)) : PE X e (lift X.K own .strong p) := pe_imp h fun σ H Q ⟨c, A, ρ, R, hk, E, hp, f⟩ => ⟨c, A, ρ, R, hk, E, hp, fun c' v H' d t r => f c' v H' d t (Fr.strong t E r)⟩

def pV (i : Nat) : TED := fun ρ R => match ρ[i]? with | some (some d) => R d | _ => False
def pC (d : D) : TED := fun _ R => R d
theorem lift_pV (K : PySem.W.Frag) {i : Nat} (hi : i ∉ own) : ∀ σ H Q, lift K own .strong (pV i) σ H Q → tVar i σ H Q := fun σ H Q ⟨c, A, ρ, R, hk, E, hp, f⟩ => by
  unfold pV at hp
  split at hp
  · rename_i d e
    obtain ⟨v, h1, h2⟩ := E.slot i d e hi
    exact ⟨v, h1, f c v H d (Step.refl E.fok) h2 hp⟩
  · exact hp.elim
theorem lift_pVo (K : PySem.W.Frag) {i : Nat} (hi : i ∈ own) : ∀ σ H Q, lift K own .weak (pV i) σ H Q → tVar i σ H Q := fun σ H Q ⟨c, A, ρ, R, hk, E, hp, f⟩ => by
  unfold pV at hp
  split at hp
  · rename_i d e
    obtain ⟨a, h1, h2, h3, h4⟩ := E.ownS i d e hi
    exact ⟨.ref a, h1, f c _ H d (Step.refl E.fok) (.inr ⟨a, rfl, ⟨i, d, hi, e, h1⟩, h2, h3, h4⟩) hp⟩
  · exact hp.elim
theorem e_var (i : Nat) {x : Str} {pos : Pos} (ho : i ∉ own := by decide) (hN : X.N[i]? = some x := by rfl) (hv : Vis X.env.scope x := by first | exact Or.inl rfl | exact Or.inr (Or.inl rfl) | exact Or.inr (Or.inr rfl)) (hd : (x == ("__debug__" : Str)) = false := by decide)
    (hcd : (x == ("__classdict__" : Str)) = false := by decide) : PE X (.Name x pos) (lift X.K own .strong (pV i)) := pe_imp (pe_var hN hv hd hcd) (lift_pV _ ho)
theorem e_varO (i : Nat) {x : Str} {pos : Pos} (ho : i ∈ own := by decide) (hN : X.N[i]? = some x := by rfl) (hv : Vis X.env.scope x := by first | exact Or.inl rfl | exact Or.inr (Or.inl rfl) | exact Or.inr (Or.inr rfl)) (hd : (x == ("__debug__" : Str)) = false := by decide)
    (hcd : (x == ("__classdict__" : Str)) = false := by decide) : PE X (.Name x pos) (lift X.K own .weak (pV i)) := pe_imp (pe_var hN hv hd hcd) (lift_pVo _ ho)
theorem lift_pC (K : PySem.W.Frag) {v : V} {d : D} (r : ∀ c Av H, Rep c Av H v d) : ∀ σ H Q, lift K own .strong (pC d) σ H Q → tC v σ H Q := fun σ H Q ⟨c, A, ρ, R, hk, E, hp, f⟩ => f c v H d (Step.refl E.fok) (r _ _ _) hp
theorem e_int {i j pos} : PE X (.Constant (.int i) j pos) (lift X.K own .strong (pC (.int i))) := pe_imp pe_int (lift_pC _ fun _ _ _ => .int i)
theorem e_bl {b j pos} : PE X (.Constant (.bool b) j pos) (lift X.K own .strong (pC (.bl b))) := pe_imp pe_bl (lift_pC _ fun _ _ _ => .bl b)
theorem e_non {j pos} : PE X (.Constant .none j pos) (lift X.K own .strong (pC .non)) := pe_imp pe_non (lift_pC _ fun _ _ _ => .non)
theorem e_str {x j pos} : PE X (.Constant (.str x) j pos) (lift X.K own .strong (pC (.str x))) := pe_imp pe_str (lift_pC _ fun _ _ _ => .str x)
theorem e_gint {x : Str} {i : Int} {u : Value} {pos : Pos} (hg : Gl X x) (hm : X.mg x = some u) (r : RelV (.int i) u) (hd : (x == ("__debug__" : Str)) = false := by decide) : PE X (.Name x pos) (lift X.K own .strong (pC (.int i))) := pe_imp (pe_glob hg hm r hd) (lift_pC _ fun _ _ _ => .int i)
theorem e_gstr {x : Str} {z : Str} {u : Value} {pos : Pos} (hg : Gl X x) (hm : X.mg x = some u) (r : RelV (.str z) u) (hd : (x == ("__debug__" : Str)) = false := by decide) : PE X (.Name x pos) (lift X.K own .strong (pC (.str z))) := pe_imp (pe_glob hg hm r hd) (lift_pC _ fun _ _ _ => .str z)

def C1 (K : PySem.W.Frag) (r : V → Hp → VK → Prop) (ko : Kd) (r' : D → (D → Prop) → Prop) : Prop := ∀ c own A σ ρ H v d R (Q : VK), c.K = K → EnvR c own A σ ρ H → RepW c own A σ ρ H v d → r' d R →
  (∀ c' v' H' d', Step c H c' H' → Res c' own A σ ρ ko H H' v' d' → R d' → Q v' H') → r v H Q
def C2 (K : PySem.W.Frag) (r : R2) (ko : Kd) (r' : D → D → (D → Prop) → Prop) : Prop := ∀ c own A σ ρ H v w d e R (Q : VK), c.K = K → EnvR c own A σ ρ H → RepW c own A σ ρ H v d → RepW c own A σ ρ H w e → r' d e R →
  (∀ c' v' H' d', Step c H c' H' → Res c' own A σ ρ ko H H' v' d' → R d' → Q v' H') → r v w H Q
def CL (K : PySem.W.Frag) (r : List V → Hp → VK → Prop) (ko : Kd) (r' : List D → (D → Prop) → Prop) : Prop := ∀ c own A σ ρ H vs ds R (Q : VK), c.K = K → EnvR c own A σ ρ H → Paired (RepW c own A σ ρ H) vs ds → r' ds R →
  (∀ c' v' H' d', Step c H c' H' → Res c' own A σ ρ ko H H' v' d' → R d' → Q v' H') → r vs H Q
theorem Fr.back {c : Cfg} {own : List Nat} {A : Addr → Prop} {σ : L2.St} {ρ : PEnv} {H0 H1 H2 : Hp} {v : V} {d : D} {c0 c1 : Cfg} (t : Step c0 H0 c1 H1) (h : Fr c own A σ ρ H1 H2 v d) : Fr c own A σ ρ H0 H2 v d := by
  obtain ⟨a, e, n, r⟩ := h
  exact ⟨a, e, t.fresh n, r⟩
theorem Res.back {c : Cfg} {own : List Nat} {A : Addr → Prop} {σ : L2.St} {ρ : PEnv} {H0 H1 H2 : Hp} {v : V} {d : D} {c0 c1 : Cfg} {k : Kd} (t : Step c0 H0 c1 H1) (h : Res c own A σ ρ k H1 H2 v d) : Res c own A σ ρ k H0 H2 v d := by
  cases k with
  | weak => exact h
  | strong => exact h
  | fresh => exact Fr.back t h
def p1 (r' : D → (D → Prop) → Prop) (p : TED) : TED := fun ρ R => p ρ fun x => r' x R
def p2 (r' : D → D → (D → Prop) → Prop) (p q : TED) : TED := fun ρ R => p ρ fun x => q ρ fun y => r' x y R
def pL (r' : List D → (D → Prop) → Prop) (p : TAD) : TED := fun ρ R => p ρ fun ds => r' ds R
theorem lift1 {K : PySem.W.Frag} {r : V → Hp → VK → Prop} {ko : Kd} {r' : D → (D → Prop) → Prop} (hr : C1 K r ko r') : ∀ σ H Q, lift K own ko (p1 r' p) σ H Q → tUn r (lift K own .weak p) σ H Q :=
  fun σ H Q ⟨c, A, ρ, R, hk, E, hp, f⟩ => ⟨c, A, ρ, fun x => r' x R, hk, E, hp, fun c1 v1 H1 d1 t1 r1 g1 =>
    hr c1 own A σ ρ H1 v1 d1 R Q (t1.kk.trans hk) (E.step t1) r1 g1 fun c2 v2 H2 d2 t2 r2 g2 => f c2 v2 H2 d2 (t1.trans t2) (Res.back t1 r2) g2⟩
theorem lift2 {K : PySem.W.Frag} {r : R2} {ko : Kd} {r' : D → D → (D → Prop) → Prop} (hr : C2 K r ko r') : ∀ σ H Q, lift K own ko (p2 r' p q) σ H Q → tOp r (lift K own .weak p) (lift K own .weak q) σ H Q :=
  fun σ H Q ⟨c, A, ρ, R, hk, E, hp, f⟩ => ⟨c, A, ρ, fun x => q ρ fun y => r' x y R, hk, E, hp, fun c1 v1 H1 d1 t1 r1 g1 => ⟨c1, A, ρ, fun y => r' d1 y R, t1.kk.trans hk, E.step t1, g1, fun c2 v2 H2 d2 t2 r2 g2 =>
    hr c2 own A σ ρ H2 v1 v2 d1 d2 R Q (t2.kk.trans (t1.kk.trans hk)) ((E.step t1).step t2) (RepW.step (E.step t1) t2 r1) r2 g2 fun c3 v3 H3 d3 t3 r3 g3 => f c3 v3 H3 d3 ((t1.trans t2).trans t3) (Res.back (t1.trans t2) r3) g3⟩⟩
theorem liftL {K : PySem.W.Frag} {r : List V → Hp → VK → Prop} {ko : Kd} {r' : List D → (D → Prop) → Prop} {n : Nat} {pa : TAD} (hr : CL K r ko r') : ∀ σ H Q, lift K own ko (pL r' pa) σ H Q → tCB r (liftA K own .weak n pa) σ H Q :=
  fun σ H Q ⟨c, A, ρ, R, hk, E, hp, f⟩ => ⟨c, A, ρ, fun ds => r' ds R, hk, E, hp, fun c1 vs H1 ds t1 r1 hn g1 =>
    hr c1 own A σ ρ H1 vs ds R Q (t1.kk.trans hk) (E.step t1) r1 g1 fun c2 v2 H2 d2 t2 r2 g2 => f c2 v2 H2 d2 (t1.trans t2) (Res.back t1 r2) g2⟩
variable {a b : Expr} {pos : Pos} {ko : Kd}
theorem e_op {op : Operator} {r : R2} {r' : D → D → (D → Prop) → Prop} (ho : OpR X (binaryOp op) r) (hr : C2 X.K r ko r') (ha : PE X a (lift X.K own .weak p)) (hb : PE X b (lift X.K own .weak q)) : PE X (.BinOp a op b pos) (lift X.K own ko (p2 r' p q)) := pe_imp (pe_op ho ha hb) (lift2 hr)
theorem e_un {op : UnaryOp} {r : V → Hp → VK → Prop} {r' : D → (D → Prop) → Prop} (ho : UnR X (unaryOp op) r) (hr : C1 X.K r ko r') (ha : PE X a (lift X.K own .weak p)) : PE X (.UnaryOp op a pos) (lift X.K own ko (p1 r' p)) := pe_imp (pe_un ho ha) (lift1 hr)
theorem e_cmp {op : CmpOp} {r : R2} {r' : D → D → (D → Prop) → Prop} (ho : OpR X (compareOp op) r) (hr : C2 X.K r ko r') (ha : PE X a (lift X.K own .weak p)) (hb : PE X b (lift X.K own .weak q)) (hm : behindInMarks op b = false := by first | exact nomark _ | rfl) : PE X (.Compare a [op] [b] pos) (lift X.K own ko (p2 r' p q)) := pe_imp (pe_cmpR ho ha hb hm) (lift2 hr)
theorem e_ix {r : R2} {r' : D → D → (D → Prop) → Prop} (ho : IxR X r) (hr : C2 X.K r ko r') (ha : PE X a (lift X.K own .weak p)) (hb : PE X b (lift X.K own .weak q)) (hs : PlainIx b := by exact fun _ _ => rfl) : PE X (.Subscript a b pos) (lift X.K own ko (p2 r' p q)) := pe_imp (pe_ix ho ha hb hs) (lift2 hr)
theorem e_callB {e : Expr} {es : List Expr} {x : Str} {id : String} {r : List V → Hp → VK → Prop} {r' : List D → (D → Prop) → Prop} {n : Nat} {pa : TAD} {pn : Pos} (hc : CallR X (.builtin id) r) (hr : CL X.K r ko r') (ha : PA X (e :: es) (liftA X.K own .weak n pa)) (hm : X.mg x = none) (hg : Gl X x := by rfl) (hv : bootBuiltins x = some (.builtin id) := by decide +kernel) (hn : x ≠ "__name__" := by decide) (hdb : (x == ("__debug__" : Str)) = false := by decide)
    (hs : starEach (e :: es) X.env = (false, eval e X.env) :: starEach es X.env := by rfl) (hpl : (backTo pos (starEach es X.env)).any (·.1) = false := by rfl) :
    PE X (.Call (.Name x pn) (e :: es) [] pos) (lift X.K own ko (pL r' pa)) := pe_imp (pe_callB hc hg hm hv ha hn hdb hs hpl) (liftL hr)
theorem e_callTy {e : Expr} {es : List Expr} {x : Str} {T : String} {r : List V → Hp → VK → Prop} {r' : List D → (D → Prop) → Prop} {n : Nat} {pa : TAD} {pn : Pos} (hc : CallR X (.type T) r) (hr : CL X.K r ko r') (ha : PA X (e :: es) (liftA X.K own .weak n pa)) (hm : X.mg x = none) (hg : Gl X x := by rfl) (hv : bootBuiltins x = some (.type T) := by decide +kernel) (hn : x ≠ "__name__" := by decide) (hdb : (x == ("__debug__" : Str)) = false := by decide)
    (hs : starEach (e :: es) X.env = (false, eval e X.env) :: starEach es X.env := by rfl) (hpl : (backTo pos (starEach es X.env)).any (·.1) = false := by rfl) :
    PE X (.Call (.Name x pn) (e :: es) [] pos) (lift X.K own ko (pL r' pa)) := pe_imp (pe_callTy hc hg hm hv ha hn hdb hs hpl) (liftL hr)
end
end DL

set_option Elab.async false
set_option linter.all false
set_option maxRecDepth 100000
set_option maxHeartbeats 2000000
namespace DL
open PySem PySem.Spec PyProof.Rows L2

section
variable {X : Cx} {own : List Nat} {k : Kd} {p q r : TED}
def paN : TAD := fun _ R => R []
def paC (p : TED) (pa : TAD) : TAD := fun ρ R => p ρ fun x => pa ρ fun xs => R (x :: xs)
theorem a_nil : PA X [] (liftA X.K own k 0 paN) := pa_imp pa_nil fun σ H Q ⟨c, A, ρ, R, hk, E, hp, f⟩ => f c [] H [] (Step.refl E.fok) .nil rfl hp
theorem paired_step {c c' : Cfg} {A : Addr → Prop} {σ : L2.St} {ρ : PEnv} {H H' : Hp} {vs : List V} {ds : List D} (E : EnvR c own A σ ρ H) (t : Step c H c' H') (h : Paired (RepW c own A σ ρ H) vs ds) : Paired (RepW c' own A σ ρ H') vs ds := by
  induction h with
  | nil => exact .nil
  | cons r _ ih => exact .cons (RepW.step E t r) ih
theorem a_cons {e : Expr} {es : List Expr} {n : Nat} {pa : TAD} (ha : PE X e (lift X.K own .weak p)) (hr : PA X es (liftA X.K own .weak n pa)) (hs : starEach (e :: es) X.env = (false, eval e X.env) :: starEach es X.env := by rfl) : PA X (e :: es) (liftA X.K own .weak (n + 1) (paC p pa)) :=
  pa_imp (pa_cons ha hr hs) fun σ H Q ⟨c, A, ρ, R, hk, E, hp, f⟩ => ⟨c, A, ρ, fun x => pa ρ fun xs => R (x :: xs), hk, E, hp, fun c1 v1 H1 d1 t1 r1 g1 => ⟨c1, A, ρ, fun xs => R (d1 :: xs), t1.kk.trans hk, E.step t1, g1, fun c2 vs H2 ds t2 r2 hn g2 =>
    f c2 (v1 :: vs) H2 (d1 :: ds) (t1.trans t2) (.cons (RepW.step (E.step t1) t2 r1) r2) (by rw [List.length_cons, hn]) g2⟩⟩
theorem a_consS {e : Expr} {es : List Expr} {n : Nat} {pa : TAD} (ha : PE X e (lift X.K own .strong p)) (hr : PA X es (liftA X.K own .strong n pa)) (hs : starEach (e :: es) X.env = (false, eval e X.env) :: starEach es X.env := by rfl) : PA X (e :: es) (liftA X.K own .strong (n + 1) (paC p pa)) :=
  pa_imp (pa_cons ha hr hs) fun σ H Q ⟨c, A, ρ, R, hk, E, hp, f⟩ => ⟨c, A, ρ, fun x => pa ρ fun xs => R (x :: xs), hk, E, hp, fun c1 v1 H1 d1 t1 r1 g1 => ⟨c1, A, ρ, fun xs => R (d1 :: xs), t1.kk.trans hk, E.step t1, g1, fun c2 vs H2 ds t2 r2 hn g2 =>
    f c2 (v1 :: vs) H2 (d1 :: ds) (t1.trans t2) (.cons (Rep.step (E.step t1) t2 r1) r2) (by rw [List.length_cons, hn]) g2⟩⟩
theorem paired_len {α β : Type} {F : α → β → Prop} {xs : List α} {ys : List β} (h : Paired F xs ys) : xs.length = ys.length := by
  induction h with
  | nil => rfl
  | cons _ _ ih => rw [List.length_cons, List.length_cons, ih]
theorem sz_small {n : Nat} (h : n ≤ 1000) : n ≤ sizeLine := Nat.le_of_lt (small1000 h)

def pTup (pa : TAD) : TED := fun ρ R => pa ρ fun ds => R (.tup ds)
def pLst (pa : TAD) : TED := fun ρ R => pa ρ fun ds => R (.lst ds)
theorem e_tup {es : List Expr} {n x1 : Nat} {pa : TAD} {pos : Pos} (ha : PA X es (liftA X.K own .strong n pa)) (hn : n ≤ 1000 := by decide) : PE X (.Tuple es x1 pos) (lift X.K own .strong (pTup pa)) :=
  pe_imp (pe_tup ha) fun σ H Q ⟨c, A, ρ, R, hk, E, hp, f⟩ => ⟨c, A, ρ, _, hk, E, hp, fun c1 vs H1 ds t1 r1 hl g1 => by
    have rl := paired_strong r1
    have hz : vs.length ≤ sizeLine := by rw [paired_len r1, hl]; exact sz_small hn
    exact ⟨hz, fun p hp => f c1 (.ref p) _ (.tup ds) (t1.more hp) (Rep.newT (E.step t1) hp hz rl) g1⟩⟩
theorem e_lst {es : List Expr} {n : Nat} {pa : TAD} {pos : Pos} (ha : PA X es (liftA X.K own .strong n pa)) (hn : n ≤ 1000 := by decide) : PE X (.List es pos) (lift X.K own .fresh (pLst pa)) :=
  pe_imp (pe_lst ha) fun σ H Q ⟨c, A, ρ, R, hk, E, hp, f⟩ => ⟨c, A, ρ, _, hk, E, hp, fun c1 vs H1 ds t1 r1 hl g1 => by
    have rl := paired_strong r1
    have hz : vs.length ≤ sizeLine := by rw [paired_len r1, hl]; exact sz_small hn
    exact ⟨hz, fun p hp => f c1 (.ref p) _ (.lst ds) (t1.more hp) (Fr.back t1 (Fr.newL (E.step t1) hp hz rl)) g1⟩⟩

def dBl (x : D) (f : Bool → Prop) : Prop := match x with | .bl b => f b | _ => False
def dInt (x : D) (f : Int → Prop) : Prop := match x with | .int i => f i | _ => False
theorem dBl_iff {x : D} {f : Bool → Prop} (h : dBl x f) : ∃ b, x = .bl b ∧ f b := by
  cases x with
  | bl b => exact ⟨b, rfl, h⟩
  | _ => exact h.elim
theorem dInt_iff {x : D} {f : Int → Prop} (h : dInt x f) : ∃ b, x = .int b ∧ f b := by
  cases x with
  | int b => exact ⟨b, rfl, h⟩
  | _ => exact h.elim
def pAnd (p q : TED) : TED := fun ρ R => p ρ fun x => dBl x fun b => if b = true then q ρ R else R (.bl false)
def pOr (p q : TED) : TED := fun ρ R => p ρ fun x => dBl x fun b => if b = true then R (.bl true) else q ρ R
def pNot (p : TED) : TED := fun ρ R => p ρ fun x => dBl x fun b => R (.bl (!b))
variable {a b : Expr} {pos : Pos} {rest : List Expr}
theorem e_one {op : BoolOp} (h : PE X a (lift X.K own .strong p)) : PE X (.BoolOp op [a] pos) (lift X.K own .strong p) := pe_one h
theorem e_and (ha : PE X a (lift X.K own .weak p)) (hb : PE X (.BoolOp .And (b :: rest) pos) (lift X.K own .strong q)) : PE X (.BoolOp .And (a :: b :: rest) pos) (lift X.K own .strong (pAnd p q)) :=
  pe_imp (pe_and ha hb) fun σ H Q ⟨c, A, ρ, R, hk, E, hp, f⟩ => ⟨c, A, ρ, _, hk, E, hp, fun c1 v1 H1 d1 t1 r1 g1 => by
    obtain ⟨b, rfl, g1⟩ := dBl_iff g1
    refine ⟨b, RepW.bl r1, ?_⟩
    cases b with
    | true => exact ⟨c1, A, ρ, R, t1.kk.trans hk, E.step t1, g1, fun c2 v2 H2 d2 t2 r2 g2 => f c2 v2 H2 d2 (t1.trans t2) r2 g2⟩
    | false => exact f c1 (.bl false) H1 (.bl false) t1 (.bl _) g1⟩
theorem e_or (ha : PE X a (lift X.K own .weak p)) (hb : PE X (.BoolOp .Or (b :: rest) pos) (lift X.K own .strong q)) : PE X (.BoolOp .Or (a :: b :: rest) pos) (lift X.K own .strong (pOr p q)) :=
  pe_imp (pe_or ha hb) fun σ H Q ⟨c, A, ρ, R, hk, E, hp, f⟩ => ⟨c, A, ρ, _, hk, E, hp, fun c1 v1 H1 d1 t1 r1 g1 => by
    obtain ⟨b, rfl, g1⟩ := dBl_iff g1
    refine ⟨b, RepW.bl r1, ?_⟩
    cases b with
    | false => exact ⟨c1, A, ρ, R, t1.kk.trans hk, E.step t1, g1, fun c2 v2 H2 d2 t2 r2 g2 => f c2 v2 H2 d2 (t1.trans t2) r2 g2⟩
    | true => exact f c1 (.bl true) H1 (.bl true) t1 (.bl _) g1⟩
theorem e_not (ha : PE X a (lift X.K own .weak p)) : PE X (.UnaryOp .Not a pos) (lift X.K own .strong (pNot p)) :=
  pe_imp (pe_not ha) fun σ H Q ⟨c, A, ρ, R, hk, E, hp, f⟩ => ⟨c, A, ρ, _, hk, E, hp, fun c1 v1 H1 d1 t1 r1 g1 => by
    obtain ⟨b, rfl, g1⟩ := dBl_iff g1
    exact ⟨b, RepW.bl r1, f c1 _ H1 (.bl (!b)) t1 (.bl _) g1⟩⟩
def tV (p : TED) : TTD := fun ρ R => p ρ fun x => dBl x R
def tAndD (t u : TTD) : TTD := fun ρ R => t ρ fun b => if b = true then u ρ R else R false
def tOrD (t u : TTD) : TTD := fun ρ R => t ρ fun b => if b = true then R true else u ρ R
def tNotD (t : TTD) : TTD := fun ρ R => t ρ fun b => R (!b)
variable {t u : TTD}
theorem lift_tV (K : PySem.W.Frag) : ∀ σ H Q, liftT K own (tV p) σ H Q → tB (lift K own .weak p) σ H Q := fun σ H Q ⟨c, A, ρ, R, hk, E, hp, f⟩ => ⟨c, A, ρ, _, hk, E, hp, fun c1 v1 H1 d1 t1 r1 g1 => by
    obtain ⟨b, rfl, g1⟩ := dBl_iff g1
    exact ⟨b, RepW.bl r1, f c1 H1 b t1 g1⟩⟩
theorem t_val {e : Expr} (h : PE X e (lift X.K own .weak p)) (he : ∀ whole, isTrue e X.env whole = (do let v ← whole; standAt e.pos; holding [v] (truthy v)) := by intro _; rfl) : PT X e (liftT X.K own (tV p)) := pt_imp (pt_val h he) (lift_tV _)
theorem t_cmp {op : CmpOp} {r : R2} {r' : D → D → (D → Prop) → Prop} {ko : Kd} (ho : OpR X (compareOp op) r) (hr : C2 X.K r .strong r') (ha : PE X a (lift X.K own .weak p)) (hb : PE X b (lift X.K own .weak q)) (hm : behindInMarks op b = false := by first | exact nomark _ | rfl) : PT X (.Compare a [op] [b] pos) (liftT X.K own (tV (p2 r' p q))) :=
  pt_imp (pt_cmpR ho ha hb hm) fun σ H Q ⟨c, A, ρ, R, hk, E, hp, f⟩ => lift2 hr σ H _ ⟨c, A, ρ, fun x => dBl x R, hk, E, hp, fun c1 v1 H1 d1 t1 r1 g1 => by
    obtain ⟨b, rfl, g1⟩ := dBl_iff g1
    cases r1
    exact ⟨b, rfl, f c1 H1 b t1 g1⟩⟩
theorem t_and1 (ha : PT X a (liftT X.K own t)) : PW X (.BoolOp .And [a] pos) (liftT X.K own t) := pw_and1 ha
theorem t_or1 (ha : PT X a (liftT X.K own t)) : PW X (.BoolOp .Or [a] pos) (liftT X.K own t) := pw_or1 ha
theorem t_and (ha : PT X a (liftT X.K own t)) (hb : PW X (.BoolOp .And (b :: rest) pos) (liftT X.K own u)) : PW X (.BoolOp .And (a :: b :: rest) pos) (liftT X.K own (tAndD t u)) :=
  pw_imp (pw_and ha hb) fun σ H Q ⟨c, A, ρ, R, hk, E, hp, f⟩ => ⟨c, A, ρ, _, hk, E, hp, fun c1 H1 b t1 g1 => by
    cases b with
    | true => exact ⟨c1, A, ρ, R, t1.kk.trans hk, E.step t1, g1, fun c2 H2 d2 t2 g2 => f c2 H2 d2 (t1.trans t2) g2⟩
    | false => exact f c1 H1 false t1 g1⟩
theorem t_or (ha : PT X a (liftT X.K own t)) (hb : PW X (.BoolOp .Or (b :: rest) pos) (liftT X.K own u)) : PW X (.BoolOp .Or (a :: b :: rest) pos) (liftT X.K own (tOrD t u)) :=
  pw_imp (pw_or ha hb) fun σ H Q ⟨c, A, ρ, R, hk, E, hp, f⟩ => ⟨c, A, ρ, _, hk, E, hp, fun c1 H1 b t1 g1 => by
    cases b with
    | false => exact ⟨c1, A, ρ, R, t1.kk.trans hk, E.step t1, g1, fun c2 H2 d2 t2 g2 => f c2 H2 d2 (t1.trans t2) g2⟩
    | true => exact f c1 H1 true t1 g1⟩
theorem t_not (ha : PT X a (liftT X.K own t)) : PT X (.UnaryOp .Not a pos) (liftT X.K own (tNotD t)) :=
  pt_imp (pt_not ha) fun σ H Q ⟨c, A, ρ, R, hk, E, hp, f⟩ => ⟨c, A, ρ, _, hk, E, hp, fun c1 H1 b t1 g1 => f c1 H1 _ t1 g1⟩
def pIf (t : TTD) (p q : TED) : TED := fun ρ R => t ρ fun b => if b = true then p ρ R else q ρ R
theorem e_ifExp {e : Expr} (hc : PT X e (liftT X.K own t)) (ha : PE X a (lift X.K own k p)) (hb : PE X b (lift X.K own k q)) : PE X (.IfExp e a b pos) (lift X.K own k (pIf t p q)) :=
  pe_imp (pe_ifExp hc ha hb) fun σ H Q ⟨c, A, ρ, R, hk, E, hp, f⟩ => ⟨c, A, ρ, _, hk, E, hp, fun c1 H1 b t1 g1 => by
    cases b with
    | true => exact ⟨c1, A, ρ, R, t1.kk.trans hk, E.step t1, g1, fun c2 v2 H2 d2 t2 r2 g2 => f c2 v2 H2 d2 (t1.trans t2) (Res.back t1 r2) g2⟩
    | false => exact ⟨c1, A, ρ, R, t1.kk.trans hk, E.step t1, g1, fun c2 v2 H2 d2 t2 r2 g2 => f c2 v2 H2 d2 (t1.trans t2) (Res.back t1 r2) g2⟩⟩
def pChain (r s : D → D → (D → Prop) → Prop) (p q w : TED) : TED := fun ρ R => p ρ fun x => q ρ fun y => r x y fun z => dBl z fun b => if b = true then w ρ fun v => s y v R else R (.bl false)
theorem lift_chain {r r2 : R2} {r' s' : D → D → (D → Prop) → Prop} {w : TED} (hr : C2 X.K r .strong r') (hr2 : C2 X.K r2 .strong s') : ∀ σ H Q, lift X.K own .strong (pChain r' s' p q w) σ H Q → tChain r r2 (lift X.K own .weak p) (lift X.K own .weak q) (lift X.K own .weak w) σ H Q :=
  fun σ H Q ⟨c, A, ρ, R, hk, E, hp, f⟩ => ⟨c, A, ρ, _, hk, E, hp, fun c1 v1 H1 d1 t1 r1 g1 => ⟨c1, A, ρ, _, t1.kk.trans hk, E.step t1, g1, fun c2 v2 H2 d2 t2 w2 g2 => by
    have E1 := E.step t1
    have E2 := E1.step t2
    refine hr c2 own A σ ρ H2 v1 v2 d1 d2 _ _ (t2.kk.trans (t1.kk.trans hk)) E2 (RepW.step E1 t2 r1) w2 g2 fun c3 v3 H3 d3 t3 w3 g3 => ?_
    obtain ⟨b, rfl, g3⟩ := dBl_iff g3
    cases w3
    refine ⟨b, rfl, ?_⟩
    have E3 := E2.step t3
    cases b with
    | false => exact f c3 _ H3 (.bl false) ((t1.trans t2).trans t3) (.bl _) g3
    | true => exact ⟨c3, A, ρ, _, t3.kk.trans (t2.kk.trans (t1.kk.trans hk)), E3, g3, fun c4 v4 H4 d4 t4 w4 g4 =>
        hr2 c4 own A σ ρ H4 v2 v4 d2 d4 R Q (t4.kk.trans (t3.kk.trans (t2.kk.trans (t1.kk.trans hk)))) (E3.step t4) (RepW.step E3 t4 (RepW.step E2 t3 w2)) w4 g4 fun c5 v5 H5 d5 t5 w5 g5 => f c5 v5 H5 d5 ((((t1.trans t2).trans t3).trans t4).trans t5) w5 g5⟩⟩⟩
theorem e_chain {op op' : CmpOp} {r r2 : R2} {r' s' : D → D → (D → Prop) → Prop} {e : Expr} (ho : OpR X (compareOp op) r) (hr : C2 X.K r .strong r') (ho2 : OpR X (compareOp op') r2) (hr2 : C2 X.K r2 .strong s') {w : TED}
    (ha : PE X a (lift X.K own .weak p)) (hb : PE X b (lift X.K own .weak q)) (hw : PE X e (lift X.K own .weak w)) (hm : lastMarks [op, op'] [b, e] = false := by with_unfolding_all rfl) :
    PE X (.Compare a [op, op'] [b, e] pos) (lift X.K own .strong (pChain r' s' p q w)) := pe_imp (pe_chain ho ho2 ha hb hw hm) (lift_chain hr hr2)
theorem t_chain {op op' : CmpOp} {r r2 : R2} {r' s' : D → D → (D → Prop) → Prop} {e : Expr} (ho : OpR X (compareOp op) r) (hr : C2 X.K r .strong r') (ho2 : OpR X (compareOp op') r2) (hr2 : C2 X.K r2 .strong s') {w : TED}
    (ha : PE X a (lift X.K own .weak p)) (hb : PE X b (lift X.K own .weak q)) (hw : PE X e (lift X.K own .weak w)) (hm : lastMarks [op, op'] [b, e] = false := by with_unfolding_all rfl) :
    PT X (.Compare a [op, op'] [b, e] pos) (liftT X.K own (tV (pChain r' s' p q w))) :=
  pt_imp (pt_chain ho ho2 ha hb hw hm) fun σ H Q ⟨c, A, ρ, R, hk, E, hp, f⟩ => lift_chain hr hr2 σ H _ ⟨c, A, ρ, fun x => dBl x R, hk, E, hp, fun c1 v1 H1 d1 t1 r1 g1 => by
    obtain ⟨b, rfl, g1⟩ := dBl_iff g1
    cases r1
    exact ⟨b, rfl, f c1 H1 b t1 g1⟩⟩

def ResF (k : Kd) (c : Cfg) (A : Addr → Prop) (H0 H : Hp) (v : V) (d : D) : Prop := match k with
  | .fresh => ∃ a, v = .ref a ∧ H0 a = none ∧ ¬ c.S a ∧ OwnR c (fun b => A b ∨ c.S b ∨ b = a) H a d
  | _ => Rep c (fun b => A b ∨ c.S b) H v d
def spD (K : PySem.W.Frag) (n : Nat) (ko : Kd) (w : List D → (D → Prop) → Prop) : Sp := fun vs H Q _ => vs.length = n ∧ ∃ c A ds R, c.K = K ∧ FeedsOk c H ∧ (∀ a, A a → H a ≠ none) ∧ RepL c (fun a => A a ∨ c.S a) H vs ds ∧ w ds R ∧
  ∀ c' v H' d, Step c H c' H' → ResF ko c' A H H' v d → R d → Q v H'
def pCall (w : List D → (D → Prop) → Prop) (pa : TAD) : TED := fun ρ R => pa ρ fun ds => w ds R
def D.flat : D → Bool
  | .tup ds => flats ds
  | .lst _ => false
  | .dT _ _ => false
  | .dK _ _ => false
  | .scr _ => false
  | _ => true
where flats : List D → Bool
  | [] => true
  | d :: ds => d.flat && flats ds
mutual
theorem flat_mv {c : Cfg} {Av Av' : Addr → Prop} {H : Hp} (m : ∀ b vs, ¬ Av b → H b = some (.tup vs) → ¬ Av' b) : ∀ (d : D) (v : V), d.flat = true → Rep c Av H v d → Rep c Av' H v d
  | .non, _, _, h => by cases h; exact .non
  | .bl _, _, _, h => by cases h; exact .bl _
  | .int _, _, _, h => by cases h; exact .int _
  | .str _, _, _, h => by cases h; exact .str _
  | .ty _, _, _, h => by cases h; exact .ty _
  | .ref _, _, _, h => by cases h; exact .ref _
  | .deal, _, _, h => by cases h with | deal n z => exact .deal n z
  | .feed, _, _, h => by cases h with | feed z => exact .feed z
  | .scr _, _, f, _ => by simp [D.flat] at f
  | .lst _, _, f, _ => by simp [D.flat] at f
  | .dT _ _, _, f, _ => by simp [D.flat] at f
  | .dK _ _, _, f, _ => by simp [D.flat] at f
  | .tup ds, _, f, h => by
    cases h with
    | tup n r =>
      have f' : D.flat.flats ds = true := by simpa [D.flat] using f
      refine .tup ⟨n.1, ?_⟩ (flats_mv m ds _ f' r)
      rcases n.2 with n | n
      · exact .inl ⟨m _ _ n.1 n.2, n.2⟩
      · exact .inr n
theorem flats_mv {c : Cfg} {Av Av' : Addr → Prop} {H : Hp} (m : ∀ b vs, ¬ Av b → H b = some (.tup vs) → ¬ Av' b) : ∀ (ds : List D) (vs : List V), D.flat.flats ds = true → RepL c Av H vs ds → RepL c Av' H vs ds
  | [], _, _, h => by cases h; exact .nil
  | d :: ds, _, f, h => by
    cases h with
    | cons r s =>
      simp only [D.flat.flats, Bool.and_eq_true] at f
      exact .cons (flat_mv m d _ f.1 r) (flats_mv m ds _ f.2 s)
end
theorem EnvR.own_not_tup {c : Cfg} {A : Addr → Prop} {σ : L2.St} {ρ : PEnv} {H : Hp} (E : EnvR c own A σ ρ H) {a : Addr} (h : OwnA own σ ρ a) {vs : List V} : H a ≠ some (.tup vs) := by
  obtain ⟨i, d, hi, h1, h2⟩ := h
  obtain ⟨b, e, _, _, r⟩ := E.ownS i d h1 hi
  rw [h2] at e
  have e' := Option.some.inj (Option.some.inj e)
  cases e'
  intro z
  cases r with
  | lst _ h _ => rw [h] at z; cases z
  | dT _ h _ => rw [h] at z; cases z
  | dK _ h _ => rw [h] at z; cases z
theorem ResF.here {c' : Cfg} {A : Addr → Prop} {σ : L2.St} {ρ : PEnv} {H H' : Hp} {v : V} {d : D} {ko : Kd} (hk : ko ≠ .weak) (r : ResF ko c' (fun b => A b ∨ OwnA own σ ρ b) H H' v d) : Res c' own A σ ρ ko H H' v d := by
  cases ko with
  | weak => exact absurd rfl hk
  | strong => exact Rep.mv rfl (fun _ _ z => z) (fun b o n e => ⟨fun z => n (by rcases z with z | z | z; exact .inl (.inl z); exact .inr z; exact .inl (.inr z)), e⟩) _ _ r
  | fresh =>
    obtain ⟨a, rfl, n, ns, r⟩ := r
    refine ⟨a, rfl, n, ns, r.mv rfl (fun _ _ z => z) (fun b o n e => ⟨fun z => n (by rcases z with (z | z | z) | z; exact .inl (.inl z); exact .inr (.inl z); exact .inl (.inr z); exact .inr (.inr z)), e⟩) fun _ e => e⟩
theorem lift_call {K : PySem.W.Frag} {n : Nat} {ko : Kd} {w : List D → (D → Prop) → Prop} {pa : TAD} {E0 : XK} (hk : ko ≠ .weak) : ∀ σ H Q, lift K own ko (pCall w pa) σ H Q → tCall (spD K n ko w) [] E0 (liftA K own .strong n pa) σ H Q :=
  fun σ H Q ⟨c, A, ρ, R, hK, E, hp, f⟩ => ⟨c, A, ρ, _, hK, E, hp, fun c1 vs H1 ds t1 r1 hn g1 => by
    have E1 := E.step t1
    have rl := paired_strong r1
    refine ⟨by rw [List.append_nil, rl.len, hn], c1, fun b => A b ∨ OwnA own σ ρ b, ds, R, t1.kk.trans hK, E1.fok, fun a h => h.elim (E1.avA a) E1.own_al, ?_, g1, fun c2 v H2 d t2 r2 g2 => ?_⟩
    · rw [List.append_nil]
      exact RepL.mv rfl (fun _ _ z => z) (fun b o n e => ⟨fun z => n (by rcases z with (z | z) | z; exact .inl z; exact .inr (.inr z); exact .inr (.inl z)), e⟩) _ _ rl
    · exact f c2 v H2 d (t1.trans t2) (Res.back t1 (ResF.here hk r2)) g2⟩
def pCallW (w : List D → (D → Prop) → Prop) (pa : TAD) : TED := fun ρ R => pa ρ fun ds => w ds fun d => d.flat = true ∧ R d
theorem lift_callW {K : PySem.W.Frag} {n : Nat} {w : List D → (D → Prop) → Prop} {pa : TAD} {E0 : XK} : ∀ σ H Q, lift K own .strong (pCallW w pa) σ H Q → tCall (spD K n .strong w) [] E0 (liftA K own .weak n pa) σ H Q :=
  fun σ H Q ⟨c, A, ρ, R, hK, E, hp, f⟩ => ⟨c, A, ρ, _, hK, E, hp, fun c1 vs H1 ds t1 r1 hn g1 => by
    have E1 := E.step t1
    have rl := paired_seen r1
    refine ⟨by rw [List.append_nil, rl.len, hn], c1, A, ds, _, t1.kk.trans hK, E1.fok, E1.avA, by rw [List.append_nil]; exact rl, g1, fun c2 v H2 d t2 r2 g2 => ?_⟩
    have E2 := E1.step t2
    refine f c2 v H2 d (t1.trans t2) ?_ g2.2
    refine flat_mv (fun b us n e z => ?_) d v g2.1 (show Rep c2 (fun b => A b ∨ c2.S b) H2 v d from r2)
    rcases z with z | z | z
    · exact n (.inl z)
    · exact n (.inr z)
    · exact E2.own_not_tup z e⟩
section
variable {e : Expr} {es : List Expr} {x : Str} {pn : Pos} {f : Addr} {fd : FuncData} {ps : List Str} {kk n : Nat} {ko : Kd} {w : List D → (D → Prop) → Prop} {pa : TAD}
theorem e_call (F : FnOk X.prog X.w X.K X.mg X.base CX0 kk f fd ps (spD X.K n ko w)) (hr : Room kk X.A) (hm : X.mg x = some (.ref f)) (hkp : PySem.W.keepIn X.K (.ref f) = true) (hb : Binds X.K fd ps []) (ha : PA X (e :: es) (liftA X.K own .strong n pa)) (hk : ko ≠ .weak := by intro z; cases z) (hg : Gl X x := by rfl)
    (hs : starEach (e :: es) X.env = (false, eval e X.env) :: starEach es X.env := by rfl) (hpl : (backTo pos (starEach es X.env)).any (·.1) = false := by rfl) (hd : (x == ("__debug__" : Str)) = false := by decide) :
    PE X (.Call (.Name x pn) (e :: es) [] pos) (lift X.K own ko (pCall w pa)) := pe_imp (pe_call (E := E0) F hr hg hm hkp hb .nil pass0 ha hd hs hpl) (lift_call hk)
theorem e_callW (F : FnOk X.prog X.w X.K X.mg X.base CX0 kk f fd ps (spD X.K n .strong w)) (hr : Room kk X.A) (hm : X.mg x = some (.ref f)) (hkp : PySem.W.keepIn X.K (.ref f) = true) (hb : Binds X.K fd ps []) (ha : PA X (e :: es) (liftA X.K own .weak n pa)) (hg : Gl X x := by rfl)
    (hs : starEach (e :: es) X.env = (false, eval e X.env) :: starEach es X.env := by rfl) (hpl : (backTo pos (starEach es X.env)).any (·.1) = false := by rfl) (hd : (x == ("__debug__" : Str)) = false := by decide) :
    PE X (.Call (.Name x pn) (e :: es) [] pos) (lift X.K own .strong (pCallW w pa)) := pe_imp (pe_call (E := E0) F hr hg hm hkp hb .nil pass0 ha hd hs hpl) lift_callW
end
end
end DL

set_option Elab.async false
set_option linter.all false
set_option maxRecDepth 100000
set_option maxHeartbeats 2000000
namespace DL
open PySem PySem.Spec PyProof.Rows L2

section
variable {c c' : Cfg} {own : List Nat} {A : Addr → Prop} {σ σ' : L2.St} {ρ ρ' : PEnv} {H H' H0 : Hp}
theorem ownA_congr (h : ∀ i, i ∈ own → ρ'[i]? = ρ[i]? ∧ σ'[i]? = σ[i]?) (a : Addr) : OwnA own σ' ρ' a ↔ OwnA own σ ρ a := by
  constructor
  · rintro ⟨i, d, hi, h1, h2⟩
    exact ⟨i, d, hi, by rw [← (h i hi).1]; exact h1, by rw [← (h i hi).2]; exact h2⟩
  · rintro ⟨i, d, hi, h1, h2⟩
    exact ⟨i, d, hi, by rw [(h i hi).1]; exact h1, by rw [(h i hi).2]; exact h2⟩
theorem avd_congr (h : ∀ i, i ∈ own → ρ'[i]? = ρ[i]? ∧ σ'[i]? = σ[i]?) : Avd c own A σ' ρ' = Avd c own A σ ρ := by
  funext a
  unfold Avd
  rw [propext (ownA_congr h a)]
theorem EnvR.re (E : EnvR c own A σ ρ H) (hl : ρ'.length = σ'.length) (h : ∀ i, i ∈ own → ρ'[i]? = ρ[i]? ∧ σ'[i]? = σ[i]?)
    (hs : ∀ i d, ρ'[i]? = some (some d) → i ∉ own → ∃ v, σ'[i]? = some (some v) ∧ Rep c (Avd c own A σ ρ) H v d) : EnvR c own A σ' ρ' H := by
  have e := avd_congr (c := c) (A := A) h
  refine ⟨E.fok, hl, E.avA, fun i d h1 hi => ?_, fun i d h1 hi => ?_, fun i j a d e hi hj h1 h2 h3 h4 => ?_⟩
  · rw [e]; exact hs i d h1 hi
  · rw [e]
    rw [(h i hi).1] at h1
    rw [(h i hi).2]
    exact E.ownS i d h1 hi
  · rw [(h i hi).1] at h1
    rw [(h j hj).1] at h2
    rw [(h i hi).2] at h3
    rw [(h j hj).2] at h4
    exact E.dist i j a d e hi hj h1 h2 h3 h4
theorem EnvR.set (E : EnvR c own A σ ρ H) {i : Nat} {v : V} {d : D} (hi : i ∉ own) (r : Rep c (Avd c own A σ ρ) H v d) : EnvR c own A (σ.set i (some v)) (ρ.set i (some d)) H := by
  refine E.re (by rw [List.length_set, List.length_set]; exact E.len) (fun j hj => ?_) fun j e h1 hj => ?_
  · have hne : i ≠ j := fun z => hi (z ▸ hj)
    rw [List.getElem?_set_ne hne, List.getElem?_set_ne hne]
    exact ⟨rfl, rfl⟩
  · by_cases hne : i = j
    · subst hne
      by_cases hz : i < ρ.length
      · rw [List.getElem?_set_self hz] at h1
        cases h1
        exact ⟨v, List.getElem?_set_self (by rw [← E.len]; exact hz), r⟩
      · rw [List.getElem?_eq_none (by rw [List.length_set]; omega)] at h1
        cases h1
    · rw [List.getElem?_set_ne hne] at h1
      rw [List.getElem?_set_ne hne]
      exact E.slot j e h1 hj
theorem EnvR.more (E : EnvR c own A σ ρ H) {p : Addr} {o : HO} (hp : H p = none) : EnvR c own (fun b => A b ∨ b = p) σ ρ (upd H p o) := by
  have t : Step c H c (upd H p o) := .one E.fok hp
  have E1 := E.step t
  have m : ∀ b u, ¬ Avd c own A σ ρ b → H b = some u → ¬ Avd c own (fun b => A b ∨ b = p) σ ρ b ∧ (upd H p o) b = some u := fun b u n e => by
    have hb := ne_of_none e hp
    refine ⟨fun z => n ?_, by rw [upd_ne hb]; exact e⟩
    rcases z with (z | z) | z | z
    · exact .inl z
    · exact absurd z hb
    · exact .inr (.inl z)
    · exact .inr (.inr z)
  refine ⟨E1.fok, E.len, fun a h => ?_, fun i d h hi => ?_, fun i d h hi => ?_, E.dist⟩
  · rcases h with h | h
    · exact E1.avA a h
    · subst h; rw [upd_same]; exact fun z => nomatch z
  · obtain ⟨v, h1, h2⟩ := E.slot i d h hi
    exact ⟨v, h1, Rep.mv rfl (fun _ _ z => z) m d v h2⟩
  · obtain ⟨a, h1, h2, h3, h4⟩ := E.ownS i d h hi
    have ha : a ≠ p := fun z => h4.some (z ▸ hp)
    exact ⟨a, h1, fun z => z.elim h2 ha, h3, h4.mv rfl (fun _ _ z => z) m fun o e => by rw [upd_ne ha]; exact e⟩
def wipeD (ρ : PEnv) : List Nat → PEnv
  | [] => ρ
  | v :: vs => (wipeD ρ vs).set v none
theorem wipeD_length (ρ : PEnv) : ∀ vs : List Nat, (wipeD ρ vs).length = ρ.length
  | [] => rfl
  | v :: vs => by unfold wipeD; rw [List.length_set, wipeD_length ρ vs]
theorem wipe_out' {α : Type} {σ : List (Option α)} {i v : Nat} (h : i ≠ v) (x : Option α) : (σ.set v x)[i]? = σ[i]? := List.getElem?_set_ne (fun z => h z.symm)
theorem wipeD_some {ρ : PEnv} {i : Nat} {x : D} : ∀ {vs : List Nat}, (wipeD ρ vs)[i]? = some (some x) → ρ[i]? = some (some x) ∧ i ∉ vs
  | [], h => ⟨h, by simp⟩
  | v :: vs, h => by
    unfold wipeD at h
    by_cases hi : v = i
    · subst hi
      by_cases hv : v < (wipeD ρ vs).length
      · rw [List.getElem?_set_self hv] at h; cases h
      · rw [List.getElem?_eq_none (by simpa using hv)] at h; cases h
    · rw [List.getElem?_set_ne hi] at h
      obtain ⟨h1, h2⟩ := wipeD_some h
      exact ⟨h1, by simp only [List.mem_cons, not_or]; exact ⟨fun e => hi e.symm, h2⟩⟩
theorem wipeD_out {ρ : PEnv} {i : Nat} : ∀ {vs : List Nat}, i ∉ vs → (wipeD ρ vs)[i]? = ρ[i]?
  | [], _ => rfl
  | v :: vs, h => by
    simp only [List.mem_cons, not_or] at h
    unfold wipeD
    rw [List.getElem?_set_ne (fun z => h.1 z.symm)]
    exact wipeD_out h.2
theorem wipeS_out {σ : L2.St} {i : Nat} : ∀ {vs : List Nat}, i ∉ vs → (wipe σ vs)[i]? = σ[i]?
  | [], _ => rfl
  | v :: vs, h => by
    simp only [List.mem_cons, not_or] at h
    unfold wipe
    rw [List.getElem?_set_ne (fun z => h.1 z.symm)]
    exact wipeS_out h.2
theorem EnvR.wipe (E : EnvR c own A σ ρ H) {vs : List Nat} (h : ∀ i ∈ vs, i ∉ own) : EnvR c own A (L2.wipe σ vs) (wipeD ρ vs) H := by
  refine E.re (by rw [wipeD_length, wipe_length]; exact E.len) (fun i hi => ?_) fun i d h1 hi => ?_
  · have : i ∉ vs := fun z => h i z hi
    exact ⟨wipeD_out this, wipeS_out this⟩
  · obtain ⟨h2, h3⟩ := wipeD_some h1
    rw [wipeS_out h3]
    exact E.slot i d h2 hi
theorem wipe_set {σ : L2.St} {i : Nat} {x : Option V} : ∀ {vs : List Nat}, i ∈ vs → L2.wipe (σ.set i x) vs = L2.wipe σ vs
  | v :: vs, h => by
    unfold L2.wipe
    by_cases hi : i ∈ vs
    · rw [wipe_set hi]
    · have e : i = v := by
        rcases List.mem_cons.mp h with h | h
        · exact h
        · exact absurd h hi
      subst e
      have : ∀ ws : List Nat, i ∉ ws → L2.wipe (σ.set i x) ws = (L2.wipe σ ws).set i x := by
        intro ws
        induction ws with
        | nil => intro _; rfl
        | cons w ws ih =>
          intro hn
          simp only [List.mem_cons, not_or] at hn
          unfold L2.wipe
          rw [ih hn.2, List.set_comm _ _ hn.1]
      rw [this vs hi, List.set_set]
end

abbrev TGD := D → PEnv → (PEnv → Prop) → Prop
abbrev TGsD := List D → PEnv → (PEnv → Prop) → Prop
def TgOk (K : PySem.W.Frag) (own is : List Nat) (g : TG) (p : TGD) : Prop := ∀ c A σ ρ H v d Qd (Q : L2.St → Hp → Prop), c.K = K → EnvR c own A σ ρ H → Rep c (Avd c own A σ ρ) H v d → p d ρ Qd →
  (∀ σ' ρ', EnvR c own A σ' ρ' H → (∀ i, i ∈ own → ρ'[i]? = ρ[i]? ∧ σ'[i]? = σ[i]?) → (∀ vs, (∀ i ∈ is, i ∈ vs) → L2.wipe σ' vs = L2.wipe σ vs) → Qd ρ' → Q σ' H) → g v σ H Q
def TgsOk (K : PySem.W.Frag) (own is : List Nat) (g : TGs) (p : TGsD) : Prop := ∀ c A σ ρ H vs ds Qd (Q : L2.St → Hp → Prop), c.K = K → EnvR c own A σ ρ H → RepL c (Avd c own A σ ρ) H vs ds → p ds ρ Qd →
  (∀ σ' ρ', EnvR c own A σ' ρ' H → (∀ i, i ∈ own → ρ'[i]? = ρ[i]? ∧ σ'[i]? = σ[i]?) → (∀ vs, (∀ i ∈ is, i ∈ vs) → L2.wipe σ' vs = L2.wipe σ vs) → Qd ρ' → Q σ' H) → g vs σ H Q
def gN (i : Nat) : TGD := fun d ρ Q => Q (ρ.set i (some d))
def gsN : TGsD := fun ds ρ Q => match ds with | [] => Q ρ | _ => False
def gsC (g : TGD) (gs : TGsD) : TGsD := fun ds ρ Q => match ds with | d :: ds => g d ρ fun ρ' => gs ds ρ' Q | [] => False
def gT (gs : TGsD) : TGD := fun d ρ Q => match d with | .tup ds => gs ds ρ Q | .lst ds => gs ds ρ Q | _ => False
def gTL (K : PySem.W.Frag) (n : Nat) (t : TGs) : TG := fun v σ H Q => gTup K n t v σ H Q ∨ gUnl K n t v σ H Q
theorem pg_tupA {X : Cx} {es : List Expr} {k : Nat} {t : TGs} {n : Nat} {pos : Pos} (hc : X.calm = true) (h : PGs X es t)
    (hn : (assignEach es X.env).length = n := by rfl) (hst : (assignEach es X.env).findIdx? (·.1) = none := by rfl) : PG X (.Tuple es k pos) (gTL X.K n t) :=
  ⟨fun pins s σ H v u Q I r hw => hw.elim ((pg_tup hc h hn hst).run pins s σ H v u Q I r) ((pg_unl hc h hn hst).run pins s σ H v u Q I r)⟩
theorem tg_name {K : PySem.W.Frag} {own : List Nat} {i : Nat} (hi : i ∉ own) : TgOk K own [i] (gName i) (gN i) := fun c A σ ρ H v d Qd Q hk E r h f => by
  refine f _ _ (E.set hi r) (fun j hj => ?_) (fun vs hv => wipe_set (hv i (by simp))) h
  have hne : i ≠ j := fun z => hi (z ▸ hj)
  rw [List.getElem?_set_ne hne, List.getElem?_set_ne hne]
  exact ⟨rfl, rfl⟩
theorem tgs_nil {K : PySem.W.Frag} {own : List Nat} : TgsOk K own [] gNil gsN := fun c A σ ρ H vs ds Qd Q hk E r h f => by
  cases r with
  | nil => exact ⟨rfl, f _ _ E (fun _ _ => ⟨rfl, rfl⟩) (fun _ _ => rfl) h⟩
  | cons _ _ => exact h.elim
theorem tgs_cons {K : PySem.W.Frag} {own is js : List Nat} {g : TG} {gs : TGs} {p : TGD} {ps : TGsD} (h1 : TgOk K own is g p) (h2 : TgsOk K own js gs ps) : TgsOk K own (is ++ js) (gCons g gs) (gsC p ps) := fun c A σ ρ H vs ds Qd Q hk E r h f => by
  cases r with
  | nil => exact h.elim
  | cons r1 r2 =>
    refine ⟨_, _, rfl, h1 c A σ ρ H _ _ _ _ hk E r1 h fun σ1 ρ1 E1 o1 w1 q1 => ?_⟩
    have e1 := avd_congr (c := c) (A := A) o1
    refine h2 c A σ1 ρ1 H _ _ _ _ hk E1 (by rw [e1]; exact r2) q1 fun σ2 ρ2 E2 o2 w2 q2 => ?_
    exact f σ2 ρ2 E2 (fun i hi => ⟨(o2 i hi).1.trans (o1 i hi).1, (o2 i hi).2.trans (o1 i hi).2⟩) (fun vs hv => (w2 vs fun i hi => hv i (List.mem_append_right _ hi)).trans (w1 vs fun i hi => hv i (List.mem_append_left _ hi))) q2
theorem tg_tup {K : PySem.W.Frag} {own is : List Nat} {gs : TGs} {ps : TGsD} {n : Nat} (h : TgsOk K own is gs ps) (hn : ∀ ds ρ Q, ps ds ρ Q → ds.length = n) : TgOk K own is (gTL K n gs) (gT ps) := fun c A σ ρ H v d Qd Q hk E r hp f => by
  cases d with
  | tup ds =>
    cases r with
    | tup nd rl =>
      have hp : ps ds ρ Qd := hp
      exact .inl ⟨_, _, rfl, by rw [← hk]; exact nd.sq, by rw [rl.len]; exact hn _ _ _ hp, h c A σ ρ H _ _ _ _ hk E rl hp f⟩
  | lst ds =>
    cases r with
    | lst nd rl =>
      have hp : ps ds ρ Qd := hp
      exact .inr ⟨_, _, rfl, nd.sq, by rw [rl.len]; exact hn _ _ _ hp, h c A σ ρ H _ _ _ _ hk E rl hp f⟩
  | _ => exact hp.elim
theorem gs_len0 : ∀ ds ρ Q, gsN ds ρ Q → ds.length = 0 := fun ds ρ Q h => by
  cases ds with
  | nil => rfl
  | cons _ _ => exact h.elim
theorem gs_len1 {g : TGD} {ps : TGsD} {n : Nat} (h : ∀ ds ρ Q, ps ds ρ Q → ds.length = n) (hs : ∀ d ρ Q, g d ρ Q → ∃ ρ', Q ρ') : ∀ ds ρ Q, gsC g ps ds ρ Q → ds.length = n + 1 := fun ds ρ Q q => by
  cases ds with
  | nil => exact q.elim
  | cons d ds =>
    obtain ⟨ρ', z⟩ := hs _ _ _ q
    rw [List.length_cons, h _ _ _ z]
theorem gN_some (i : Nat) : ∀ d ρ Q, gN i d ρ Q → ∃ ρ', Q ρ' := fun _ _ _ h => ⟨_, h⟩
theorem gsN_some : ∀ ds ρ Q, gsN ds ρ Q → ∃ ρ', Q ρ' := fun ds ρ Q h => by
  cases ds with
  | nil => exact ⟨_, h⟩
  | cons _ _ => exact h.elim
theorem gsC_some {g : TGD} {ps : TGsD} (hs : ∀ d ρ Q, g d ρ Q → ∃ ρ', Q ρ') (h : ∀ ds ρ Q, ps ds ρ Q → ∃ ρ', Q ρ') : ∀ ds ρ Q, gsC g ps ds ρ Q → ∃ ρ', Q ρ' := fun ds ρ Q q => by
  cases ds with
  | nil => exact q.elim
  | cons d ds =>
    obtain ⟨ρ', z⟩ := hs _ _ _ q
    exact h _ _ _ z
theorem gT_some {ps : TGsD} (h : ∀ ds ρ Q, ps ds ρ Q → ∃ ρ', Q ρ') : ∀ d ρ Q, gT ps d ρ Q → ∃ ρ', Q ρ' := fun d ρ Q q => by
  cases d with
  | tup ds => exact h _ _ _ q
  | lst ds => exact h _ _ _ q
  | _ => exact q.elim

def ItOk (c : Cfg) (Av : Addr → Prop) (J : It) (H0 : Hp) (ds : List D) : Prop := ∀ c2 H2 Av2, Step c H0 c2 H2 → (∀ b, Av2 b → H2 b ≠ none) → (∀ b o, ¬ Av b → H0 b = some o → ¬ Av2 b) →
  ∀ i, (ds.length ≤ i → J.stop i H2) ∧ ∀ d, ds[i]? = some d → J.go i H2 ∧ ∀ x H3, J.yld i H2 x H3 → (∀ b o, H2 b = some o → H3 b = some o) ∧ Rep c2 Av2 H3 x d
open Classical in
noncomputable def mask (own : List Nat) (σ : L2.St) (ρ : PEnv) (H : Hp) : Hp := fun b => if OwnA own σ ρ b then none else H b
theorem mask_some {own : List Nat} {σ : L2.St} {ρ : PEnv} {H : Hp} {b : Addr} {o : HO} (h : mask own σ ρ H b = some o) : ¬ OwnA own σ ρ b ∧ H b = some o := by
  unfold mask at h
  split at h
  · cases h
  · rename_i n; exact ⟨n, h⟩
theorem mask_of {own : List Nat} {σ : L2.St} {ρ : PEnv} {H : Hp} {b : Addr} {o : HO} (n : ¬ OwnA own σ ρ b) (h : H b = some o) : mask own σ ρ H b = some o := by
  unfold mask
  rw [if_neg n]
  exact h
theorem Step.less {c c' : Cfg} {H H0 H' : Hp} (t : Step c H c' H') (h : ∀ b o, H0 b = some o → H b = some o) : Step c H0 c' H' := by
  refine ⟨t.kk, t.sub, fun b z => (t.new b z).imp_right fun e => ?_, fun b o n e => t.keep b o n (h b o e), t.fok⟩
  cases q : H0 b with
  | none => rfl
  | some o => rw [h b o q] at e; cases e
def liftI (K : PySem.W.Frag) (own : List Nat) (k : Kd) (src : TAD) : TI := fun σ H Rr => ∃ c A ρ R, c.K = K ∧ EnvR c own A σ ρ H ∧ src ρ R ∧ ∀ c' J H' ds, Step c H c' H' → ItOk c' (Avd c' own A σ ρ) J (match k with | .weak => H' | _ => mask own σ ρ H') ds → R ds → Rr J H'
theorem pi_imp {X : Cx} {tg e : Expr} {t t' : TI} (h : PI X tg e t) (m : ∀ σ H Q, t' σ H Q → t σ H Q) : PI X tg e t' := ⟨fun pins s σ H Q I q => h.run pins s σ H Q I (m σ H Q q)⟩
def iSeq (K : PySem.W.Frag) (tl : TE) : TI := fun σ H R => tl σ H fun x H1 => ∃ a, x = .ref a ∧ (((∃ xs, SqL K H1 a xs) ∧ R (Itl K a) H1) ∨ ((∃ xs, SqT K H1 a xs) ∧ R (Itt K a) H1))
theorem pi_seq {X : Cx} {tg l : Expr} {tl : TE} (hl : PE X l tl) : PI X tg l (iSeq X.K tl) := by
  refine ⟨fun pins s σ H R I h => ?_⟩
  refine thn (hl.run pins s σ H _ I h) fun v s1 ⟨x, H1, I1, r1, q1⟩ => ?_
  obtain ⟨a, e, q⟩ := q1
  subst e
  cases r1
  rcases q with ⟨⟨xs, hq⟩, q⟩ | ⟨⟨xs, hq⟩, q⟩
  · obtain ⟨its, rv, p, hz⟩ := I1.list hq
    refine wpAny_pyIter_list p.isList ?_
    refine ⟨s1.heap.objs.size, [s1.heap.objs.size], _, _, H1, rfl, I1.kept (t' := s1.toks) fun b o e => Heap.get?_push_of_some _ e, turn_list a _, ⟨_, Heap.get?_push_size _ rfl, rfl, rfl⟩, fun b hb => ?_, q⟩
    have e : b = s1.heap.objs.size := by simpa using hb
    subst e
    exact I1.fpOk (Nat.le_refl _) (I1.hok.fresh (Nat.le_refl _))
  · obtain ⟨its, rv, p, hz⟩ := I1.tuple hq
    refine wpAny_pyIter_tuple (show s1.heap.IsTuple a its.toArray from p) ?_
    refine ⟨s1.heap.objs.size, [s1.heap.objs.size], _, _, H1, rfl, I1.kept (t' := s1.toks) fun b o e => Heap.get?_push_of_some _ e, turn_tuple a _, ⟨_, Heap.get?_push_size _ rfl, rfl, rfl⟩, fun b hb => ?_, q⟩
    have e : b = s1.heap.objs.size := by simpa using hb
    subst e
    exact I1.fpOk (Nat.le_refl _) (I1.hok.fresh (Nat.le_refl _))
def sSeq (p : TED) : TAD := fun ρ R => p ρ fun x => match x with | .lst ds => R ds | .tup ds => R ds | _ => False
theorem ItOk.of {c : Cfg} {Av : Addr → Prop} {H0 : Hp} {vs : List V} {ds : List D} {J : It} (hav : ∀ b, c.S b → Av b) (r : RepL c Av H0 vs ds)
    (h : ∀ c2 H2, Step c H0 c2 H2 → ∀ i, (vs.length ≤ i → J.stop i H2) ∧ ∀ v, vs[i]? = some v → J.go i H2 ∧ ∀ x H3, J.yld i H2 x H3 → H3 = H2 ∧ x = v) : ItOk c Av J H0 ds := fun c2 H2 Av2 t al m i => by
  have r2 : RepL c2 Av2 H2 vs ds := RepL.mv t.kk t.sub (fun b o n e => ⟨m b o n e, t.keep b o (fun z => n (hav b z)) e⟩) _ _ r
  refine ⟨fun hl => (h c2 H2 t i).1 (by rw [r.len]; exact hl), fun d hd => ?_⟩
  obtain ⟨v, h1, h2⟩ := r2.get hd
  obtain ⟨g1, g2⟩ := (h c2 H2 t i).2 v h1
  refine ⟨g1, fun x H3 y => ?_⟩
  obtain ⟨e1, e2⟩ := g2 x H3 y
  subst e1; subst e2
  exact ⟨fun _ _ e => e, h2⟩
theorem itl_ok {c : Cfg} {Av : Addr → Prop} {H0 : Hp} {a : Addr} {vs : List V} {ds : List D} (hav : ∀ b, c.S b → Av b) (hs : ¬ c.S a) (ha : H0 a = some (.lst vs)) (r : RepL c Av H0 vs ds) : ItOk c Av (Itl c.K a) H0 ds := .of hav r fun c2 H2 t i => by
  have h2 : SqL c.K H2 a vs := .inl (.inl (t.keep a _ hs ha))
  exact ⟨fun hl => ⟨vs, h2, hl⟩, fun v hv => ⟨⟨vs, v, h2, hv⟩, fun x H3 y => ⟨y.1, Option.some.inj ((y.2 vs h2).symm.trans hv)⟩⟩⟩
theorem itt_ok {c : Cfg} {Av : Addr → Prop} {H0 : Hp} {a : Addr} {vs : List V} {ds : List D} (hav : ∀ b, c.S b → Av b) (n : NodT c Av H0 a vs) (r : RepL c Av H0 vs ds) : ItOk c Av (Itt c.K a) H0 ds := .of hav r fun c2 H2 t i => by
  have h2 : SqT c.K H2 a vs := by
    rcases n.2 with n | n
    · exact .inl (.inl (t.keep a _ (fun z => n.1 (hav a z)) n.2))
    · exact sqT_any n H2
  exact ⟨fun hl => ⟨vs, h2, hl⟩, fun v hv => ⟨⟨vs, v, h2, hv⟩, fun x H3 y => ⟨y.1, Option.some.inj ((y.2 vs h2).symm.trans hv)⟩⟩⟩
section
variable {c : Cfg} {own : List Nat} {A : Addr → Prop} {σ : L2.St} {ρ : PEnv} {H : Hp} {vs : List V} {ds : List D} {v : V} {d : D}
theorem RepL.mask (r : RepL c (Avd c own A σ ρ) H vs ds) : RepL c (Avd c own A σ ρ) (mask own σ ρ H) vs ds := RepL.mv rfl (fun _ _ z => z) (fun b o n e => ⟨n, mask_of (fun z => n (.inr (.inr z))) e⟩) _ _ r
theorem Rep.mask (r : Rep c (Avd c own A σ ρ) H v d) : Rep c (Avd c own A σ ρ) (DL.mask own σ ρ H) v d := Rep.mv rfl (fun _ _ z => z) (fun b o n e => ⟨n, mask_of (fun z => n (.inr (.inr z))) e⟩) _ _ r
theorem avdS : ∀ b, c.S b → Avd c own A σ ρ b := fun _ z => .inr (.inl z)
end
theorem lift_seqW (K : PySem.W.Frag) {own : List Nat} {p : TED} : ∀ σ H Q, liftI K own .weak (sSeq p) σ H Q → iSeq K (lift K own .weak p) σ H Q := fun σ H Q ⟨c, A, ρ, R, hk, E, hp, f⟩ => ⟨c, A, ρ, _, hk, E, hp, fun c1 v H1 d t r g => by
  cases d with
  | lst ds =>
    obtain ⟨a, vs, rfl, hz, ha, rl⟩ := RepW.lst r
    have hs : ¬ c1.S a := by
      rcases r with r | ⟨b, e, o, n1, n2, r⟩
      · cases r with | lst n _ => exact fun z => n.2.1 (.inr (.inl z))
      · cases e; exact n2
    have h := itl_ok avdS hs ha rl
    rw [t.kk.trans hk] at h
    exact ⟨a, rfl, .inl ⟨⟨vs, .inl (.inl ha)⟩, f c1 _ H1 ds t h g⟩⟩
  | tup ds =>
    obtain ⟨a, vs, rfl, n, rl⟩ := RepW.tup r
    have h := itt_ok avdS n rl
    rw [t.kk.trans hk] at h
    have sq := n.sq
    rw [t.kk.trans hk] at sq
    exact ⟨a, rfl, .inr ⟨⟨vs, sq⟩, f c1 _ H1 ds t h g⟩⟩
  | _ => exact g.elim⟩
theorem lift_seqS (K : PySem.W.Frag) {own : List Nat} {p : TED} : ∀ σ H Q, liftI K own .strong (sSeq p) σ H Q → iSeq K (lift K own .strong p) σ H Q := fun σ H Q ⟨c, A, ρ, R, hk, E, hp, f⟩ => ⟨c, A, ρ, _, hk, E, hp, fun c1 v H1 d t r g => by
  have r : Rep c1 (Avd c1 own A σ ρ) H1 v d := r
  cases d with
  | lst ds =>
    cases r with
    | lst n rl =>
      have h := itl_ok avdS (fun z => n.2.1 (.inr (.inl z))) (mask_of (fun z => n.2.1 (.inr (.inr z))) n.2.2) (RepL.mask rl)
      rw [t.kk.trans hk] at h
      exact ⟨_, rfl, .inl ⟨⟨_, .inl (.inl n.2.2)⟩, f c1 _ H1 ds t h g⟩⟩
  | tup ds =>
    cases r with
    | tup n rl =>
      have n' : NodT c1 (Avd c1 own A σ ρ) (mask own σ ρ H1) _ _ := ⟨n.1, n.2.imp_left fun z => ⟨z.1, mask_of (fun w => z.1 (.inr (.inr w))) z.2⟩⟩
      have h := itt_ok avdS n' (RepL.mask rl)
      rw [t.kk.trans hk] at h
      have sq := n.sq
      rw [t.kk.trans hk] at sq
      exact ⟨_, rfl, .inr ⟨⟨_, sq⟩, f c1 _ H1 ds t h g⟩⟩
  | _ => exact g.elim⟩
def rangeD (lo hi : Int) : List D := (List.range (hi - lo).toNat).map fun i => D.int (lo + (i : Nat))
theorem itr_ok {c : Cfg} {Av : Addr → Prop} {H0 : Hp} (lo hi : Int) : ItOk c Av (Itr lo (hi - lo).toNat) H0 (rangeD lo hi) := fun c2 H2 Av2 t al m i => by
  refine ⟨fun hl => ?_, fun d hd => ?_⟩
  · show (hi - lo).toNat ≤ i
    simpa [rangeD] using hl
  · have hi' : i < (hi - lo).toNat := by
      have := (List.getElem?_eq_some_iff.mp hd).1
      simpa [rangeD] using this
    refine ⟨hi', fun x H3 y => ?_⟩
    obtain ⟨e1, e2⟩ := y
    subst e1; subst e2
    have e : d = .int (lo + (i : Nat)) := by
      unfold rangeD at hd
      rw [List.getElem?_map, List.getElem?_range hi'] at hd
      exact (Option.some.inj hd).symm
    subst e
    exact ⟨fun _ _ e => e, .int _⟩
def small62 (i : Int) : Prop := -(2 ^ 62) ≤ i ∧ i < 2 ^ 62
def sRng1 (pa : TAD) : TAD := fun ρ R => pa ρ fun ds => match ds with | [x] => dInt x fun j => small62 j ∧ R (rangeD 0 j) | _ => False
def sRng2 (pa : TAD) : TAD := fun ρ R => pa ρ fun ds => match ds with | [x, y] => dInt x fun i => dInt y fun j => small62 i ∧ small62 j ∧ R (rangeD i j) | _ => False
theorem lift_rng1 (K : PySem.W.Frag) {own : List Nat} {pa : TAD} {k : Kd} : ∀ σ H Q, liftI K own k (sRng1 pa) σ H Q → iRng1 (liftA K own .weak 1 pa) σ H Q := fun σ H Q ⟨c, A, ρ, R, hk, E, hp, f⟩ => ⟨c, A, ρ, _, hk, E, hp, fun c1 vs H1 ds t r hn g => by
  match ds, r, g with
  | [x], .cons r1 .nil, g =>
    obtain ⟨j, rfl, h, g⟩ := dInt_iff g
    have e := RepW.int r1
    subst e
    refine ⟨j, rfl, h.1, h.2, ?_⟩
    have q := f c1 (Itr 0 (j - 0).toNat) H1 (rangeD 0 j) t (itr_ok 0 j) g
    rw [Int.sub_zero] at q
    exact q⟩
theorem lift_rng2 (K : PySem.W.Frag) {own : List Nat} {pa : TAD} {k : Kd} : ∀ σ H Q, liftI K own k (sRng2 pa) σ H Q → iRng2 (liftA K own .weak 2 pa) σ H Q := fun σ H Q ⟨c, A, ρ, R, hk, E, hp, f⟩ => ⟨c, A, ρ, _, hk, E, hp, fun c1 vs H1 ds t r hn g => by
  match ds, r, g with
  | [x, y], .cons r1 (.cons r2 .nil), g =>
    obtain ⟨i, ex, g1⟩ := dInt_iff (show dInt x fun i => dInt y fun j => small62 i ∧ small62 j ∧ R (rangeD i j) from g)
    obtain ⟨j, ey, h, h', g2⟩ := dInt_iff g1
    rw [ex] at r1
    rw [ey] at r2
    rw [RepW.int r1, RepW.int r2]
    exact ⟨i, j, rfl, ⟨h.1, h.2, h'.1, h'.2⟩, f c1 (Itr i (j - i).toNat) H1 (rangeD i j) t (itr_ok i j) g2⟩⟩
section
variable {X : Cx} {own : List Nat} {tg : Expr} {p : TED} {pa : TAD}
theorem i_seqW {l : Expr} (h : PE X l (lift X.K own .weak p)) : PI X tg l (liftI X.K own .weak (sSeq p)) := pi_imp (pi_seq h) (lift_seqW _)
theorem i_seqS {l : Expr} (h : PE X l (lift X.K own .strong p)) : PI X tg l (liftI X.K own .strong (sSeq p)) := pi_imp (pi_seq h) (lift_seqS _)
theorem i_rng1 {a : Expr} {pn pos : Pos} {k : Kd} (hm : X.mg "range" = none) (ha : PA X [a] (liftA X.K own .weak 1 pa)) (hg : Gl X "range" := by rfl) (hs : starEach [a] X.env = [(false, eval a X.env)] := by rfl) : PI X tg (.Call (.Name "range" pn) [a] [] pos) (liftI X.K own k (sRng1 pa)) := pi_imp (pi_range1 hg hm ha hs) (lift_rng1 _)
theorem i_rng2 {a b : Expr} {pn pos : Pos} {k : Kd} (hm : X.mg "range" = none) (ha : PA X [a, b] (liftA X.K own .weak 2 pa)) (hg : Gl X "range" := by rfl) (hs : starEach [a, b] X.env = [(false, eval a X.env), (false, eval b X.env)] := by rfl) (hs2 : starEach [b] X.env = [(false, eval b X.env)] := by rfl) :
    PI X tg (.Call (.Name "range" pn) [a, b] [] pos) (liftI X.K own k (sRng2 pa)) := pi_imp (pi_range2 hg hm ha hs hs2) (lift_rng2 _)
end

def compR (tg : TGD) (tt : TTD) (te : TED) (ρ : PEnv) : List D → List D → (List D → Prop) → Prop
  | [], acc, R => R acc
  | d :: ds, acc, R => tg d ρ fun ρ1 => tt ρ1 fun b => if b = true then te ρ1 fun y => compR tg tt te ρ ds (acc ++ [y]) R else compR tg tt te ρ ds acc R
def pComp (src : TAD) (tg : TGD) (tt : TTD) (te : TED) (vs : List Nat) : TED := fun ρ R => src ρ fun ds => ds.length ≤ sizeLine ∧ compR tg tt te (wipeD ρ vs) ds [] fun acc => R (.lst acc)
def tYesD : TTD := fun _ R => R true
structure PTsD (X : Cx) (own : List Nat) (ifs : List Expr) (t : TTD) : Prop where
  ts : PTs X ifs (liftT X.K own t)
theorem pts_imp {X : Cx} {ifs : List Expr} {t t' : TT} (h : PTs X ifs t) (m : ∀ σ H Q, t' σ H Q → t σ H Q) : PTs X ifs t' := ⟨fun pins s σ H Q I q => h.run pins s σ H Q I (m σ H Q q)⟩
theorem ts_nil {X : Cx} {own : List Nat} : PTs X [] (liftT X.K own tYesD) := pts_imp pts_nil fun σ H Q ⟨c, A, ρ, R, hk, E, hp, f⟩ => f c H true (Step.refl E.fok) hp
theorem ts_one {X : Cx} {own : List Nat} {e : Expr} {t : TTD} (h : PT X e (liftT X.K own t)) : PTs X [e] (liftT X.K own t) := pts_one h
theorem wipe_wipe (σ : L2.St) : ∀ vs : List Nat, L2.wipe (L2.wipe σ vs) vs = L2.wipe σ vs
  | vs => by
    apply List.ext_getElem?
    intro i
    by_cases hi : i ∈ vs
    · have h : ∀ (τ : L2.St) (ws : List Nat), i ∈ ws → i < τ.length → (L2.wipe τ ws)[i]? = some none := by
        intro τ ws
        induction ws with
        | nil => intro h; cases h
        | cons w ws ih =>
          intro h hl
          unfold L2.wipe
          by_cases e : w = i
          · subst e
            exact List.getElem?_set_self (by rw [wipe_length]; exact hl)
          · rw [List.getElem?_set_ne e]
            exact ih ((List.mem_cons.mp h).resolve_left fun z => e z.symm) hl
      by_cases hl : i < σ.length
      · rw [h _ _ hi (by rw [wipe_length]; exact hl), h _ _ hi hl]
      · rw [List.getElem?_eq_none (by rw [wipe_length, wipe_length]; omega), List.getElem?_eq_none (by rw [wipe_length]; omega)]
    · rw [wipeS_out hi]
theorem EnvR.mutA {c : Cfg} {own : List Nat} {A : Addr → Prop} {σ : L2.St} {ρ : PEnv} {H : Hp} (E : EnvR c own A σ ρ H) {a : Addr} {o : HO} (ha : A a) (hs : ¬ c.S a) : EnvR c own A σ ρ (upd H a o) := by
  have m : ∀ b u, ¬ Avd c own A σ ρ b → H b = some u → ¬ Avd c own A σ ρ b ∧ (upd H a o) b = some u := fun b u n e => ⟨n, by rw [upd_ne (fun z => n (.inl (by rw [z]; exact ha)))]; exact e⟩
  refine ⟨⟨fun x l f => ?_, E.fok.apart⟩, E.len, fun b h => ?_, fun i d h hi => ?_, fun i d h hi => ?_, E.dist⟩
  · have h1 : x ≠ a := fun z => hs (z ▸ ⟨x, l, f, .inl rfl⟩)
    have h2 : l ≠ a := fun z => hs (z ▸ ⟨x, l, f, .inr rfl⟩)
    exact (E.fok.ok x l f).same (upd_ne h1) (upd_ne h2)
  · by_cases e : b = a
    · subst e; rw [upd_same]; exact fun z => nomatch z
    · rw [upd_ne e]; exact E.avA b h
  · obtain ⟨v, h1, h2⟩ := E.slot i d h hi
    exact ⟨v, h1, Rep.mv rfl (fun _ _ z => z) m d v h2⟩
  · obtain ⟨b, h1, h2, h3, h4⟩ := E.ownS i d h hi
    exact ⟨b, h1, h2, h3, h4.mv rfl (fun _ _ z => z) m fun u e => by rw [upd_ne (fun z => h2 (by rw [z]; exact ha))]; exact e⟩
theorem lift_comp (K : PySem.W.Frag) {own is : List Nat} {src : TAD} {tg : TGD} {tt : TTD} {te : TED} {vs : List Nat} {g : TG} (hg : TgOk K own is g tg) (hv : ∀ i ∈ is, i ∈ vs) (ho : ∀ i ∈ vs, i ∉ own) :
    ∀ σ H Q, lift K own .fresh (pComp src tg tt te vs) σ H Q → tLc (liftI K own .weak src) g (liftT K own tt) (lift K own .strong te) vs σ H Q := by
  intro σ H Q ⟨c, A, ρ, R, hk, E, hp, f⟩
  refine ⟨c, A, ρ, _, hk, E, hp, fun c1 J H1 ds t1 it g1 => ?_⟩
  obtain ⟨hz, g1⟩ := g1
  have E1 := E.step t1
  intro L hL
  have EL := E1.more (o := .lst []) hL
  have tL : Step c1 H1 c1 (upd H1 L (.lst [])) := .one E1.fok hL
  let A' : Addr → Prop := fun b => A b ∨ b = L
  let Wn : Nat → Hp → Prop := fun i H2 => ∃ c2 acc us, Step c1 H1 c2 H2 ∧ ¬ c2.S L ∧ H2 L = some (.lst us) ∧ us.length ≤ i ∧ RepL c2 (Avd c2 own A' σ ρ) H2 us acc ∧ EnvR c2 own A' σ ρ H2 ∧ compR tg tt te (wipeD ρ vs) (ds.drop i) acc fun acc => R (.lst acc)
  refine ⟨fun i m H2 => m = ds.length - i ∧ i ≤ ds.length ∧ Wn i H2, ⟨ds.length, by simp, Nat.zero_le _, c1, [], [], tL, E1.fok.fresh hL, upd_same, Nat.le_refl _, .nil, EL, g1⟩, ?_⟩
  rintro i m H2 ⟨rfl, hi, c2, acc, us, t2, nS, h2, hu, ru, E2, cr⟩
  have hcon : ∀ i, i ∈ own → (wipeD ρ vs)[i]? = ρ[i]? ∧ (L2.wipe σ vs)[i]? = σ[i]? := fun i hi => by
    have : i ∉ vs := fun z => ho i z hi
    exact ⟨wipeD_out this, wipeS_out this⟩
  have E2w := E2.wipe ho
  have al : ∀ b, Avd c2 own A' (L2.wipe σ vs) (wipeD ρ vs) b → H2 b ≠ none := fun b h => E2w.al h
  have it2 := it c2 H2 (Avd c2 own A' (L2.wipe σ vs) (wipeD ρ vs)) t2 al (fun b o n e z => by
    have e : H1 b = some o := e
    rw [avd_congr hcon] at z
    rcases z with (z | z) | z | z
    · exact n (.inl z)
    · subst z; rw [hL] at e; cases e
    · rcases t2.new b z with z | z
      · exact n (.inr (.inl z))
      · rw [z] at e; cases e
    · exact n (.inr (.inr z))) i
  by_cases hlt : i < ds.length
  · refine .inr ?_
    have hd : ds[i]? = some ds[i] := List.getElem?_eq_getElem hlt
    obtain ⟨go, yl⟩ := it2.2 _ hd
    have hdrop : ds.drop i = ds[i] :: ds.drop (i + 1) := List.drop_eq_getElem_cons hlt
    rw [hdrop] at cr
    refine ⟨go, fun H' => Wn (i + 1) H', fun H' h' => ⟨ds.length - (i + 1), by omega, rfl, hlt, h'⟩, fun x H3 y => ?_⟩
    obtain ⟨same, rx⟩ := yl x H3 y
    have t3 : Step c2 H2 c2 H3 := .ofSame E2.fok same
    have E3 := E2w.step t3
    have k2 : c2.K = K := t2.kk.trans (t1.kk.trans hk)
    refine hg c2 A' _ _ H3 x ds[i] _ _ k2 E3 rx cr fun σ4 ρ4 E4 o4 w4 q4 => ⟨by rw [w4 vs hv, wipe_wipe], ?_⟩
    have hcon4 : Avd c2 own A' σ4 ρ4 = Avd c2 own A' σ ρ := (avd_congr o4).trans (avd_congr hcon)
    refine ⟨c2, A', ρ4, _, k2, E4, q4, fun c5 H5 b t5 g5 => ?_⟩
    have n5 : ¬ c5.S L := t5.notS (same L _ h2) nS
    have h5 : H5 L = some (.lst us) := t5.keep L _ nS (same L _ h2)
    have E5 : EnvR c5 own A' σ ρ H5 := (E2.step t3).step t5
    have t25 := t3.trans t5
    cases b with
    | false =>
      exact ⟨c5, acc, us, t2.trans t25, n5, h5, Nat.le_succ_of_le hu, RepL.mv t25.kk t25.sub (E2.mv t25) _ _ ru, E5, g5⟩
    | true =>
      refine ⟨c5, A', ρ4, _, t5.kk.trans k2, E4.step t5, g5, fun c6 v H6 d6 t6 r6 g6 => ?_⟩
      have n6 : ¬ c6.S L := t6.notS h5 n5
      have h6 : H6 L = some (.lst us) := t6.keep L _ n5 h5
      have E6 : EnvR c6 own A' σ ρ H6 := E5.step t6
      have t26 := t25.trans t6
      refine ⟨us, h6, Nat.lt_of_lt_of_le (Nat.lt_of_le_of_lt hu hlt) hz, c6, acc ++ [d6], us ++ [v], (t2.trans t26).upd hL n6, n6, upd_same, by rw [List.length_append]; exact Nat.succ_le_succ hu, ?_, E6.mutA (.inr rfl) n6, g6⟩
      have ru6 : RepL c6 (Avd c6 own A' σ ρ) H6 us acc := RepL.mv t26.kk t26.sub (E2.mv t26) _ _ ru
      have hcon6 : Avd c6 own A' σ4 ρ4 = Avd c6 own A' σ ρ := (avd_congr o4).trans (avd_congr hcon)
      have r6' : Rep c6 (Avd c6 own A' σ ρ) H6 v d6 := by
        rw [← hcon6]
        exact r6
      exact RepL.mv rfl (fun _ _ z => z) (fun b o n e => ⟨n, by rw [upd_ne (fun z => n (.inl (.inr z)))]; exact e⟩) _ _ (ru6.append (.cons r6' .nil))
  · refine .inl ⟨it2.1 (by omega), ?_⟩
    have e : ds.drop i = [] := List.drop_eq_nil_of_le (by omega)
    rw [e] at cr
    refine f c2 (.ref L) H2 (.lst acc) (t1.trans t2) ⟨L, rfl, t1.fresh hL, nS, .lst (by omega) h2 ?_⟩ cr
    exact RepL.mv rfl (fun _ _ z => z) (fun b o n e => ⟨fun z => n (by
      rcases z with (z | z | z) | z
      · exact .inl (.inl z)
      · exact .inr (.inl z)
      · exact .inr (.inr z)
      · exact .inl (.inr z)), e⟩) _ _ ru
end DL

set_option Elab.async false
set_option linter.all false
set_option maxRecDepth 100000
set_option maxHeartbeats 2000000
namespace DL
open PySem PySem.Spec PyProof.Rows L2

section
variable {X : Cx} {own : List Nat}
theorem e_comp {elt tg iter : Expr} {ifs : List Expr} {scope : Scope} {ow : List (Str × Nat)} {pos : Pos} {is : List Nat} {src : TAD} {g : TG} {tgd : TGD} {tt : TTD} {te : TED} (hc : X.calm = true) (hN : X.N.Nodup) (hi : PI X tg iter (liftI X.K own .weak src)) (ok : BlkOk X.N X.env.scope scope ow)
    (hg : ∀ (s : Shared) (H : Hp) (C : Addr) (cl : List (Str × Addr)) (fp : List Addr), PG (X.blk s H scope (compEnvC scope cl C X.env) fp) tg g) (hgd : TgOk X.K own is g tgd) (ht : ∀ (s : Shared) (H : Hp) (C : Addr) (cl : List (Str × Addr)) (fp : List Addr), PTs (X.blk s H scope (compEnvC scope cl C X.env) fp) ifs (liftT X.K own tt))
    (he : ∀ (s : Shared) (H : Hp) (C : Addr) (cl : List (Str × Addr)) (fp : List Addr), PE (X.blk s H scope (compEnvC scope cl C X.env) fp) elt (lift X.K own .strong te)) (hv : ∀ i ∈ is, i ∈ ow.map (·.2) := by decide) (ho : ∀ i ∈ ow.map (·.2), i ∉ own := by decide) {vs : List Nat} (hvs : ow.map (·.2) = vs := by rfl) (hs : ∀ x, foldedSetIterable iter X.env x = pure x := by intro _; rfl) :
    PE X (.ListComp elt [⟨tg, iter, ifs, 0⟩] scope pos) (lift X.K own .fresh (pComp src tgd tt te vs)) := hvs ▸ pe_imp (pe_lc hc hN hi ok hg ht he hs) (lift_comp _ hgd hv ho)
end

structure DEnds where
  nx : PEnv → Prop
  rt : D → Prop
  bk : PEnv → Prop
  ct : PEnv → Prop
abbrev TSD := DEnds → PEnv → Prop
def OwnF (own : List Nat) (σ : L2.St) (ρ : PEnv) (H0 : Hp) : Prop := ∀ a, OwnA own σ ρ a → H0 a = none
def Nxt (K : PySem.W.Frag) (own : List Nat) (fr : Bool) (c0 : Cfg) (H0 : Hp) (A : Addr → Prop) (P : PEnv → Prop) (Q : L2.St → Hp → Prop) : Prop :=
  ∀ c' own' σ' ρ' H', c'.K = K → (∀ i ∈ own', i ∈ own) → (fr = false → own' = own) → Step c0 H0 c' H' → EnvR c' own' A σ' ρ' H' → OwnF own' σ' ρ' H0 → P ρ' → Q σ' H'
def Rtn (K : PySem.W.Frag) (ko : Kd) (c0 : Cfg) (H0 : Hp) (A : Addr → Prop) (P : D → Prop) (Q : VK) : Prop :=
  ∀ c' v H' d, c'.K = K → Step c0 H0 c' H' → ResF ko c' A H0 H' v d → P d → Q v H'
structure EndsOk (K : PySem.W.Frag) (own : List Nat) (fr : Bool) (ko : Kd) (c0 : Cfg) (H0 : Hp) (A : Addr → Prop) (DD : DEnds) (Dn : Ends) : Prop where
  nx : Nxt K own fr c0 H0 A DD.nx Dn.nx
  rt : Rtn K ko c0 H0 A DD.rt Dn.rt
  bk : Nxt K own fr c0 H0 A DD.bk Dn.bk
  ct : Nxt K own fr c0 H0 A DD.ct Dn.ct
def liftS (K : PySem.W.Frag) (own : List Nat) (fr : Bool) (ko : Kd) (p : TSD) : TS := fun Dn σ H => ∃ c0 H0 A c ρ DD, c.K = K ∧ Step c0 H0 c H ∧ EnvR c own A σ ρ H ∧ OwnF own σ ρ H0 ∧ p DD ρ ∧ EndsOk K own fr ko c0 H0 A DD Dn

section
variable {c c' c0 : Cfg} {own own' : List Nat} {A : Addr → Prop} {σ σ' : L2.St} {ρ ρ' : PEnv} {H H' H0 : Hp} {K : PySem.W.Frag} {fr : Bool} {ko : Kd}
theorem EnvR.freeze (E : EnvR c own A σ ρ H) (h : ∀ i ∈ own', i ∈ own) : EnvR c own' A σ ρ H := by
  have oa : ∀ a, OwnA own' σ ρ a → OwnA own σ ρ a := fun a ⟨i, d, hi, h1, h2⟩ => ⟨i, d, h i hi, h1, h2⟩
  have m : ∀ b, Avd c own' A σ ρ b → Avd c own A σ ρ b := fun b z => by
    rcases z with z | z | z
    · exact .inl z
    · exact .inr (.inl z)
    · exact .inr (.inr (oa b z))
  have mv : ∀ b o, ¬ Avd c own A σ ρ b → H b = some o → ¬ Avd c own' A σ ρ b ∧ H b = some o := fun b o n e => ⟨fun z => n (m b z), e⟩
  refine ⟨E.fok, E.len, E.avA, fun i d h1 hi => ?_, fun i d h1 hi => ?_, fun i j a d e hi hj => E.dist i j a d e (h i hi) (h j hj)⟩
  · by_cases hio : i ∈ own
    · obtain ⟨a, h2, h3, h4, h5⟩ := E.ownS i d h1 hio
      refine ⟨.ref a, h2, h5.rep (fun z => ?_) m⟩
      rcases z with z | z | ⟨j, e, hj, h6, h7⟩
      · exact h3 z
      · exact h4 z
      · have := E.dist i j a d e hio (h j hj) h1 h6 h2 h7
        subst this
        exact hi hj
    · obtain ⟨v, h2, h3⟩ := E.slot i d h1 hio
      exact ⟨v, h2, Rep.mv rfl (fun _ _ z => z) mv _ _ h3⟩
  · obtain ⟨a, h2, h3, h4, h5⟩ := E.ownS i d h1 (h i hi)
    exact ⟨a, h2, h3, h4, h5.mv rfl (fun _ _ z => z) mv fun _ e => e⟩
theorem OwnF.freeze (F : OwnF own σ ρ H0) (h : ∀ i ∈ own', i ∈ own) : OwnF own' σ ρ H0 := fun a ⟨i, d, hi, h1, h2⟩ => F a ⟨i, d, h i hi, h1, h2⟩
theorem OwnF.congr (F : OwnF own σ ρ H0) (h : ∀ i, i ∈ own → ρ'[i]? = ρ[i]? ∧ σ'[i]? = σ[i]?) : OwnF own σ' ρ' H0 := fun a z => F a ((ownA_congr h a).mp z)
theorem EnvR.setO (E : EnvR c own A σ ρ H) (t : Step c H c' H') {i : Nat} {v : V} {d : D} (hi : i ∈ own) (r : Fr c' own A σ ρ H H' v d) : EnvR c' own A (σ.set i (some v)) (ρ.set i (some d)) H' := by
  obtain ⟨p, rfl, hp, np, r⟩ := r
  have oa : ∀ a, OwnA own (σ.set i (some (.ref p))) (ρ.set i (some d)) a → OwnA own σ ρ a ∨ a = p := fun a ⟨j, e, hj, h1, h2⟩ => by
    by_cases e1 : i = j
    · subst e1
      by_cases hl : i < σ.length
      · rw [List.getElem?_set_self hl] at h2
        have := Option.some.inj (Option.some.inj h2)
        cases this
        exact .inr rfl
      · rw [List.getElem?_eq_none (by rw [List.length_set]; omega)] at h2
        cases h2
    · rw [List.getElem?_set_ne e1] at h1 h2
      exact .inl ⟨j, e, hj, h1, h2⟩
  have mA : ∀ b, Avd c' own A (σ.set i (some (.ref p))) (ρ.set i (some d)) b → Avd c' own A σ ρ b ∨ b = p := fun b z => by
    rcases z with z | z | z
    · exact .inl (.inl z)
    · exact .inl (.inr (.inl z))
    · exact (oa b z).imp_left fun z => .inr (.inr z)
  have m : ∀ b o, ¬ Avd c own A σ ρ b → H b = some o → ¬ Avd c' own A (σ.set i (some (.ref p))) (ρ.set i (some d)) b ∧ H' b = some o := fun b o n e => by
    obtain ⟨n', e'⟩ := E.mv t b o n e
    refine ⟨fun z => ?_, e'⟩
    rcases mA b z with z | z
    · exact n' z
    · subst z; rw [hp] at e; cases e
  have pA : ¬ A p := fun z => E.avA p z hp
  refine ⟨t.fok, by rw [List.length_set, List.length_set]; exact E.len, fun a h => t.alive (E.avA a h), fun j e h1 hj => ?_, fun j e h1 hj => ?_, fun j k a e e' hj hk h1 h2 h3 h4 => ?_⟩
  · have hne : i ≠ j := fun z => hj (z ▸ hi)
    rw [List.getElem?_set_ne hne] at h1
    rw [List.getElem?_set_ne hne]
    obtain ⟨v, h2, h3⟩ := E.slot j e h1 hj
    exact ⟨v, h2, Rep.mv t.kk t.sub m _ _ h3⟩
  · by_cases e1 : i = j
    · subst e1
      by_cases hl : i < ρ.length
      · rw [List.getElem?_set_self hl] at h1
        cases h1
        refine ⟨p, List.getElem?_set_self (by rw [← E.len]; exact hl), pA, np, r.mv rfl (fun _ _ z => z) (fun b o n e => ⟨fun z => n (mA b z), e⟩) fun _ e => e⟩
      · rw [List.getElem?_eq_none (by rw [List.length_set]; omega)] at h1
        cases h1
    · rw [List.getElem?_set_ne e1] at h1
      rw [List.getElem?_set_ne e1]
      obtain ⟨a, h2, h3, h4, h5⟩ := E.ownS j e h1 hj
      refine ⟨a, h2, h3, fun z => ?_, h5.mv t.kk t.sub m fun o e => t.keep a o h4 e⟩
      rcases t.new a z with z | z
      · exact h4 z
      · exact h5.some z
  · have nop : ∀ j e, j ∈ own → i ≠ j → ρ[j]? = some (some e) → σ[j]? = some (some (.ref p)) → False := fun j e hj hne h1 h3 => by
      exact E.own_al ⟨j, e, hj, h1, h3⟩ hp
    by_cases e1 : i = j
    · by_cases e2 : i = k
      · exact e1.symm.trans e2
      · subst e1
        rw [List.getElem?_set_ne e2] at h2 h4
        by_cases hl : i < σ.length
        · rw [List.getElem?_set_self hl] at h3
          have := Option.some.inj (Option.some.inj h3)
          cases this
          exact (nop k e' hk e2 h2 h4).elim
        · rw [List.getElem?_eq_none (by rw [List.length_set]; omega)] at h3
          cases h3
    · by_cases e2 : i = k
      · subst e2
        rw [List.getElem?_set_ne e1] at h1 h3
        by_cases hl : i < σ.length
        · rw [List.getElem?_set_self hl] at h4
          have := Option.some.inj (Option.some.inj h4)
          cases this
          exact (nop j e hj e1 h1 h3).elim
        · rw [List.getElem?_eq_none (by rw [List.length_set]; omega)] at h4
          cases h4
      · rw [List.getElem?_set_ne e1] at h1 h3
        rw [List.getElem?_set_ne e2] at h2 h4
        exact E.dist j k a e e' hj hk h1 h2 h3 h4
theorem OwnF.setO (F : OwnF own σ ρ H0) (t : Step c0 H0 c H) {i : Nat} {p : Addr} {d : D} (hp : H p = none) : OwnF own (σ.set i (some (.ref p))) (ρ.set i (some d)) H0 := fun a ⟨j, e, hj, h1, h2⟩ => by
  by_cases e1 : i = j
  · subst e1
    by_cases hl : i < σ.length
    · rw [List.getElem?_set_self hl] at h2
      have := Option.some.inj (Option.some.inj h2)
      cases this
      exact t.fresh hp
    · rw [List.getElem?_eq_none (by rw [List.length_set]; omega)] at h2
      cases h2
  · rw [List.getElem?_set_ne e1] at h1 h2
    exact F a ⟨j, e, hj, h1, h2⟩
theorem EnvR.mutO (E : EnvR c own A σ ρ H) {i : Nat} {a : Addr} {d e : D} {o : HO} (hi : i ∈ own) (h1 : ρ[i]? = some (some d)) (h2 : σ[i]? = some (some (.ref a)))
    (r : OwnR c (Avd c own A σ ρ) (upd H a o) a e) : EnvR c own A σ (ρ.set i (some e)) (upd H a o) := by
  obtain ⟨a', h3, nA, nS, ro⟩ := E.ownS i d h1 hi
  rw [h2] at h3
  have := Option.some.inj (Option.some.inj h3)
  cases this
  have hl : i < ρ.length := (List.getElem?_eq_some_iff.mp h1).1
  have oa : ∀ b, OwnA own σ (ρ.set i (some e)) b ↔ OwnA own σ ρ b := fun b => by
    constructor
    · rintro ⟨j, u, hj, k1, k2⟩
      by_cases e1 : i = j
      · subst e1
        exact ⟨i, d, hj, h1, k2⟩
      · rw [List.getElem?_set_ne e1] at k1
        exact ⟨j, u, hj, k1, k2⟩
    · rintro ⟨j, u, hj, k1, k2⟩
      by_cases e1 : i = j
      · subst e1
        exact ⟨i, e, hj, List.getElem?_set_self hl, k2⟩
      · exact ⟨j, u, hj, by rw [List.getElem?_set_ne e1]; exact k1, k2⟩
  have av : Avd c own A σ (ρ.set i (some e)) = Avd c own A σ ρ := by
    funext b
    unfold Avd
    rw [propext (oa b)]
  have ha : Avd c own A σ ρ a := .inr (.inr ⟨i, d, hi, h1, h2⟩)
  have m : ∀ b u, ¬ Avd c own A σ ρ b → H b = some u → ¬ Avd c own A σ ρ b ∧ (upd H a o) b = some u := fun b u n e => ⟨n, by rw [upd_ne (fun z => n (by rw [z]; exact ha))]; exact e⟩
  refine ⟨⟨fun x l f => ?_, E.fok.apart⟩, by rw [List.length_set]; exact E.len, fun b h => ?_, fun j u k1 hj => ?_, fun j u k1 hj => ?_, fun j k b u u' hj hk k1 k2 k3 k4 => ?_⟩
  · have z1 : x ≠ a := fun z => nS (z ▸ ⟨x, l, f, .inl rfl⟩)
    have z2 : l ≠ a := fun z => nS (z ▸ ⟨x, l, f, .inr rfl⟩)
    exact (E.fok.ok x l f).same (upd_ne z1) (upd_ne z2)
  · by_cases e1 : b = a
    · subst e1; exact absurd h nA
    · rw [upd_ne e1]; exact E.avA b h
  · have hne : i ≠ j := fun z => hj (z ▸ hi)
    rw [List.getElem?_set_ne hne] at k1
    obtain ⟨v, k2, k3⟩ := E.slot j u k1 hj
    rw [av]
    exact ⟨v, k2, Rep.mv rfl (fun _ _ z => z) m _ _ k3⟩
  · by_cases e1 : i = j
    · subst e1
      rw [List.getElem?_set_self hl] at k1
      cases k1
      rw [av]
      exact ⟨a, h2, nA, nS, r⟩
    · rw [List.getElem?_set_ne e1] at k1
      obtain ⟨b, k2, k3, k4, k5⟩ := E.ownS j u k1 hj
      have hb : b ≠ a := fun z => e1 (E.dist i j a d u hi hj h1 k1 h2 (by rw [← z]; exact k2))
      rw [av]
      exact ⟨b, k2, k3, k4, k5.mv rfl (fun _ _ z => z) m fun w e => by rw [upd_ne hb]; exact e⟩
  · have back : ∀ j u, (ρ.set i (some e))[j]? = some (some u) → ∃ u', ρ[j]? = some (some u') := fun j u k1 => by
      by_cases e1 : i = j
      · subst e1; exact ⟨d, h1⟩
      · rw [List.getElem?_set_ne e1] at k1; exact ⟨u, k1⟩
    obtain ⟨w1, k1'⟩ := back j u k1
    obtain ⟨w2, k2'⟩ := back k u' k2
    exact E.dist j k b w1 w2 hj hk k1' k2' k3 k4
theorem OwnF.mutO (F : OwnF own σ ρ H0) {i : Nat} {d e : D} (h1 : ρ[i]? = some (some d)) : OwnF own σ (ρ.set i (some e)) H0 := fun a ⟨j, u, hj, k1, k2⟩ => by
  by_cases e1 : i = j
  · subst e1; exact F a ⟨i, d, hj, h1, k2⟩
  · rw [List.getElem?_set_ne e1] at k1; exact F a ⟨j, u, hj, k1, k2⟩
theorem Nxt.here {P : PEnv → Prop} {Q : L2.St → Hp → Prop} (n : Nxt K own fr c0 H0 A P Q) (hk : c.K = K) (t : Step c0 H0 c H) (E : EnvR c own A σ ρ H) (F : OwnF own σ ρ H0) (p : P ρ) : Q σ H := n c own σ ρ H hk (fun _ h => h) (fun _ => rfl) t E F p
end

section
variable {X : Cx} {own : List Nat} {fr : Bool} {ko k : Kd} {p q : TSD} {pe : TED} {pt : TTD} {pos : Pos} {e : Expr}
def sNext : TSD := fun DD ρ => DD.nx ρ
def sSeqD (p q : TSD) : TSD := fun DD ρ => p { DD with nx := q DD } ρ
theorem s_nil : PSs X [] (liftS X.K own fr ko sNext) := pss_imp pss_nil fun D σ H ⟨c0, H0, A, c, ρ, DD, hk, t, E, F, h, z⟩ => z.nx.here hk t E F h
theorem Nxt.sub {K : PySem.W.Frag} {own own' : List Nat} {fr : Bool} {c0 : Cfg} {H0 : Hp} {A : Addr → Prop} {P : PEnv → Prop} {Q : L2.St → Hp → Prop} (n : Nxt K own fr c0 H0 A P Q) (ho : ∀ i ∈ own', i ∈ own) (hf : fr = false → own' = own) : Nxt K own' fr c0 H0 A P Q :=
  fun c' o' σ' ρ' H' k' s1 s2 t' E' F' h' => n c' o' σ' ρ' H' k' (fun i hi => ho i (s1 i hi)) (fun z => (s2 z).trans (hf z)) t' E' F' h'
theorem Nxt.exact {K : PySem.W.Frag} {own : List Nat} {fr : Bool} {c0 : Cfg} {H0 : Hp} {A : Addr → Prop} {P : PEnv → Prop} {Q : L2.St → Hp → Prop} (n : Nxt K own fr c0 H0 A P Q) : Nxt K own false c0 H0 A P Q :=
  fun c' o' σ' ρ' H' k' s1 s2 t' E' F' h' => n c' o' σ' ρ' H' k' s1 (fun _ => s2 rfl) t' E' F' h'
theorem EndsOk.sub {K : PySem.W.Frag} {own own' : List Nat} {fr : Bool} {ko : Kd} {c0 : Cfg} {H0 : Hp} {A : Addr → Prop} {DD : DEnds} {Dn : Ends} (z : EndsOk K own fr ko c0 H0 A DD Dn) (ho : ∀ i ∈ own', i ∈ own) (hf : fr = false → own' = own) : EndsOk K own' fr ko c0 H0 A DD Dn := ⟨z.nx.sub ho hf, z.rt, z.bk.sub ho hf, z.ct.sub ho hf⟩
theorem s_cons {st : Stmt} {rest : List Stmt} {own' : List Nat} (h1 : PS X st (liftS X.K own false ko p)) (h2 : PSs X rest (liftS X.K own' fr ko q)) (ho : ∀ i ∈ own', i ∈ own := by decide) (hf : fr = false → own' = own := by decide) : PSs X (st :: rest) (liftS X.K own fr ko (sSeqD p q)) :=
  pss_imp (pss_cons h1 h2) fun D σ H ⟨c0, H0, A, c, ρ, DD, hk, t, E, F, h, z⟩ => ⟨c0, H0, A, c, ρ, _, hk, t, E, F, h, ⟨fun c' o' σ' ρ' H' k' s1 s2 t' E' F' h' => by
    have e := s2 rfl
    subst e
    exact ⟨c0, H0, A, c', ρ', DD, k', t', E'.freeze ho, F'.freeze ho, h', z.sub ho hf⟩, z.rt, z.bk.exact, z.ct.exact⟩⟩
theorem s_one {st : Stmt} (h : PS X st (liftS X.K own fr ko p)) : PSs X [st] (liftS X.K own fr ko p) := pss_one h
def sPass : TSD := fun DD ρ => DD.nx ρ
def sBrk : TSD := fun DD ρ => DD.bk ρ
def sCnt : TSD := fun DD ρ => DD.ct ρ
theorem s_pass : PS X (.Pass pos) (liftS X.K own fr ko sPass) := ps_imp ps_pass fun D σ H ⟨c0, H0, A, c, ρ, DD, hk, t, E, F, h, z⟩ => z.nx.here hk t E F h
theorem s_brk : PS X (.Break pos) (liftS X.K own fr ko sBrk) := ps_imp ps_break fun D σ H ⟨c0, H0, A, c, ρ, DD, hk, t, E, F, h, z⟩ => z.bk.here hk t E F h
theorem s_cnt : PS X (.Continue pos) (liftS X.K own fr ko sCnt) := ps_imp ps_continue fun D σ H ⟨c0, H0, A, c, ρ, DD, hk, t, E, F, h, z⟩ => z.ct.here hk t E F h
def sNever : TSD := fun _ _ => False
theorem s_never {st : Stmt} : PS X st (liftS X.K own fr ko sNever) := ps_imp ps_never fun D σ H ⟨_, _, _, _, _, _, _, _, _, _, h, _⟩ => h
def sRet (pe : TED) : TSD := fun DD ρ => pe ρ DD.rt
theorem resF_of {c' : Cfg} {A : Addr → Prop} {σ : L2.St} {ρ : PEnv} {H' : Hp} {v : V} {d : D} (r : Rep c' (Avd c' own A σ ρ) H' v d) : Rep c' (fun b => A b ∨ c'.S b) H' v d :=
  Rep.mv rfl (fun _ _ z => z) (fun b o n e => ⟨fun z => n (z.elim .inl fun z => .inr (.inl z)), e⟩) _ _ r
theorem s_ret (he : PE X e (lift X.K own .strong pe)) : PS X (.Return (some e) pos) (liftS X.K own fr .strong (sRet pe)) :=
  ps_imp (ps_ret he) fun D σ H ⟨c0, H0, A, c, ρ, DD, hk, t, E, F, h, z⟩ => ⟨c, A, ρ, DD.rt, hk, E, h, fun c' v H' d t' r g => z.rt c' v H' d (t'.kk.trans hk) (t.trans t') (resF_of r) g⟩
theorem s_retF (he : PE X e (lift X.K own .fresh pe)) : PS X (.Return (some e) pos) (liftS X.K own fr .fresh (sRet pe)) :=
  ps_imp (ps_ret he) fun D σ H ⟨c0, H0, A, c, ρ, DD, hk, t, E, F, h, z⟩ => ⟨c, A, ρ, DD.rt, hk, E, h, fun c' v H' d t' r g => z.rt c' v H' d (t'.kk.trans hk) (t.trans t') (by
    obtain ⟨a, e1, e2, e3, e4⟩ := r
    exact ⟨a, e1, t.fresh e2, e3, e4.mv rfl (fun _ _ z => z) (fun b o n e => ⟨fun z => n (by
      rcases z with z | z | z
      · exact .inl (.inl z)
      · exact .inl (.inr (.inl z))
      · exact .inr z), e⟩) fun _ e => e⟩) g⟩
theorem s_retO (i : Nat) {x : Str} {pn : Pos} (ho : i ∈ own := by decide) (hN : X.N[i]? = some x := by rfl) (hv : Vis X.env.scope x := by first | exact Or.inl rfl | exact Or.inr (Or.inl rfl) | exact Or.inr (Or.inr rfl)) (hd : (x == ("__debug__" : Str)) = false := by decide)
    (hcd : (x == ("__classdict__" : Str)) = false := by decide) : PS X (.Return (some (.Name x pn)) pos) (liftS X.K own fr ko (sRet (pV i))) :=
  ps_imp (ps_ret (pe_var hN hv hd hcd)) fun D σ H ⟨c0, H0, A, c, ρ, DD, hk, t, E, F, h, z⟩ => by
    have h : pV i ρ DD.rt := h
    unfold pV at h
    split at h
    · rename_i d e1
      obtain ⟨a, h2, h3, h4, h5⟩ := E.ownS i d e1 ho
      refine ⟨.ref a, h2, z.rt c _ H d hk t ?_ h⟩
      have rr : Rep c (fun b => A b ∨ c.S b) H (.ref a) d := h5.rep (fun z => z.elim h3 h4) fun b z => z.elim .inl fun z => .inr (.inl z)
      cases ko with
      | weak => exact rr
      | strong => exact rr
      | fresh => exact ⟨a, rfl, F a ⟨i, d, ho, e1, h2⟩, h4, h5.mv rfl (fun _ _ z => z) (fun b o n e => ⟨fun z => n (by
          rcases z with z | z | z
          · exact .inl z
          · exact .inr (.inl z)
          · exact .inr (.inr ⟨i, d, ho, e1, by rw [z]; exact h2⟩)), e⟩) fun _ e => e⟩
    · exact h.elim
def sRetN : TSD := fun DD _ => DD.rt .non
theorem s_retN : PS X (.Return none pos) (liftS X.K own fr .strong sRetN) := ps_imp ps_retN fun D σ H ⟨c0, H0, A, c, ρ, DD, hk, t, E, F, h, z⟩ => z.rt c .non H .non hk t .non h
def sIf (pt : TTD) (p q : TSD) : TSD := fun DD ρ => pt ρ fun b => if b = true then p DD ρ else q DD ρ
theorem s_if {a b : List Stmt} (hc : PT X e (liftT X.K own pt)) (ha : PSs X a (liftS X.K own fr ko p)) (hb : PSs X b (liftS X.K own fr ko q)) : PS X (.If e a b pos) (liftS X.K own fr ko (sIf pt p q)) :=
  ps_imp (ps_if hc ha hb) fun D σ H ⟨c0, H0, A, c, ρ, DD, hk, t, E, F, h, z⟩ => ⟨c, A, ρ, _, hk, E, h, fun c' H' b t' g => by
    cases b with
    | true => exact ⟨c0, H0, A, c', ρ, DD, t'.kk.trans hk, t.trans t', E.step t', F, g, z⟩
    | false => exact ⟨c0, H0, A, c', ρ, DD, t'.kk.trans hk, t.trans t', E.step t', F, g, z⟩⟩
def sSet (i : Nat) (pe : TED) : TSD := fun DD ρ => pe ρ fun d => DD.nx (ρ.set i (some d))
theorem lift_set (K : PySem.W.Frag) {i : Nat} (hi : i ∉ own) {te : TE} (hte : ∀ σ H Q, lift K own .strong pe σ H Q → te σ H Q) : ∀ D σ H, liftS K own fr ko (sSet i pe) D σ H → tAsg te (gName i) D σ H := fun D σ H ⟨c0, H0, A, c, ρ, DD, hk, t, E, F, h, z⟩ => hte σ H _ ⟨c, A, ρ, _, hk, E, h, fun c' v H' d t' r g => by
    have o : ∀ j, j ∈ own → (ρ.set i (some d))[j]? = ρ[j]? ∧ (σ.set i (some v))[j]? = σ[j]? := fun j hj => by
      have hne : i ≠ j := fun z => hi (z ▸ hj)
      rw [List.getElem?_set_ne hne, List.getElem?_set_ne hne]
      exact ⟨rfl, rfl⟩
    exact z.nx.here (t'.kk.trans hk) (t.trans t') ((E.step t').set hi r) (F.congr o) g⟩
theorem lift_setO (K : PySem.W.Frag) {i : Nat} (hi : i ∈ own) {te : TE} (hte : ∀ σ H Q, lift K own .fresh pe σ H Q → te σ H Q) : ∀ D σ H, liftS K own fr ko (sSet i pe) D σ H → tAsg te (gName i) D σ H := fun D σ H ⟨c0, H0, A, c, ρ, DD, hk, t, E, F, h, z⟩ => hte σ H _ ⟨c, A, ρ, _, hk, E, h, fun c' v H' d t' r g => by
    have E' := E.setO t' hi r
    obtain ⟨a, e1, e2, e3⟩ := r
    subst e1
    exact z.nx.here (t'.kk.trans hk) (t.trans t') E' (F.setO t e2) g⟩
section
variable {x : Str} {pn : Pos}
theorem s_set (i : Nat) (hN : X.N.Nodup) (he : PE X e (lift X.K own .strong pe)) (hi : X.N[i]? = some x := by rfl) (hx : Loc X.env.scope x := by first | exact .inl rfl | exact .inr rfl) (ho : i ∉ own := by decide) (hs : swapsWith e (some (.Name x pn)) pos.line X.env = pure false := by rfl) (hf : X.fn x = true ∨ X.env.scope.names.lookup x = some .local := by first | exact .inl rfl | exact .inr rfl) :
    PS X (.Assign [.Name x pn] e pos) (liftS X.K own fr ko (sSet i pe)) := ps_imp (ps_set hN hi hx he hs hf) (lift_set _ ho fun _ _ _ h => h)
theorem s_setO (i : Nat) (hN : X.N.Nodup) (he : PE X e (lift X.K own .fresh pe)) (hi : X.N[i]? = some x := by rfl) (hx : Loc X.env.scope x := by first | exact .inl rfl | exact .inr rfl) (ho : i ∈ own := by decide) (hs : swapsWith e (some (.Name x pn)) pos.line X.env = pure false := by rfl) (hf : X.fn x = true ∨ X.env.scope.names.lookup x = some .local := by first | exact .inl rfl | exact .inr rfl) :
    PS X (.Assign [.Name x pn] e pos) (liftS X.K own fr ko (sSet i pe)) := ps_imp (ps_set hN hi hx he hs hf) (lift_setO _ ho fun _ _ _ h => h)
end
def sAsg (pe : TED) (g : TGD) : TSD := fun DD ρ => pe ρ fun d => g d ρ DD.nx
theorem s_asg {tg : Expr} {is : List Nat} {g : TG} {gd : TGD} (he : PE X e (lift X.K own .strong pe)) (hg : PG X tg g) (hgd : TgOk X.K own is g gd) (hs : swapsWithSole [tg] e pos.line X.env = pure false := by rfl) (hw : swappedStores [tg] e X.env = pure none := by rfl)
    (h1 : (assignEach [tg] X.env).map (·.2) = [assign tg X.env] := by rfl) : PS X (.Assign [tg] e pos) (liftS X.K own fr ko (sAsg pe gd)) :=
  ps_imp (ps_asg he hg hs hw h1) fun D σ H ⟨c0, H0, A, c, ρ, DD, hk, t, E, F, h, z⟩ => ⟨c, A, ρ, _, hk, E, h, fun c' v H' d t' r g =>
    hgd c' A σ ρ H' v d DD.nx D.nx (t'.kk.trans hk) (E.step t') r g fun σ' ρ' E' o _ q => z.nx.here (t'.kk.trans hk) (t.trans t') E' (F.congr o) q⟩
def sDrop (pe : TED) : TSD := fun DD ρ => pe ρ fun _ => DD.nx ρ
theorem s_expr (he : PE X e (lift X.K own k pe)) (hs : swapsWith e none pos.line X.env = pure false := by rfl) : PS X (.Expr e pos) (liftS X.K own fr ko (sDrop pe)) :=
  ps_imp (ps_expr he hs) fun D σ H ⟨c0, H0, A, c, ρ, DD, hk, t, E, F, h, z⟩ => ⟨c, A, ρ, _, hk, E, h, fun c' v H' d t' r g => z.nx.here (t'.kk.trans hk) (t.trans t') (E.step t') F g⟩
end
end DL

set_option Elab.async false
set_option linter.all false
set_option maxRecDepth 100000
set_option maxHeartbeats 2000000
namespace DL
open PySem PySem.Spec PyProof.Rows L2

section
variable {c c' c0 c1 c2 : Cfg} {own own' : List Nat} {A : Addr → Prop} {σ σ2 : L2.St} {ρ ρ2 : PEnv} {H H' H0 H1 H2 : Hp} {K : PySem.W.Frag} {ko : Kd}
theorem mask_back (t : Step c0 H0 c1 H1) (F : OwnF own σ ρ H0) {b : Addr} (h : mask own σ ρ H1 b = none) : H0 b = none := by
  unfold mask at h
  split at h
  · rename_i o; exact F b o
  · exact t.fresh h
theorem loop_back (t : Step c0 H0 c1 H1) (F : OwnF own σ ρ H0) (u : Step c1 (mask own σ ρ H1) c2 H2) : Step c0 H0 c2 H2 := by
  refine ⟨u.kk.trans t.kk, fun a l f => u.sub _ _ (t.sub _ _ f), fun b h => ?_, fun b o n e => ?_, u.fok⟩
  · rcases u.new b h with h | h
    · exact t.new b h
    · exact .inr (mask_back t F h)
  · have no : ¬ OwnA own σ ρ b := fun z => by rw [F b z] at e; cases e
    exact u.keep b o (t.notS e n) (mask_of no (t.keep b o n e))
theorem ownF_back (t : Step c0 H0 c1 H1) (F : OwnF own σ ρ H0) (G : OwnF own' σ2 ρ2 (mask own σ ρ H1)) : OwnF own' σ2 ρ2 H0 := fun a h => mask_back t F (G a h)
theorem nxt_back {fr : Bool} {P : PEnv → Prop} {Q : L2.St → Hp → Prop} (t : Step c0 H0 c1 H1) (F : OwnF own σ ρ H0) (n : Nxt K own fr c0 H0 A P Q) : Nxt K own false c1 (mask own σ ρ H1) A P Q :=
  fun c' o' σ' ρ' H' k' s1 s2 t' E' F' h' => n c' o' σ' ρ' H' k' s1 (fun _ => s2 rfl) (loop_back t F t') E' (ownF_back t F F') h'
theorem rtn_back {P : D → Prop} {Q : VK} (t : Step c0 H0 c1 H1) (F : OwnF own σ ρ H0) (n : Rtn K ko c0 H0 A P Q) : Rtn K ko c1 (mask own σ ρ H1) A P Q :=
  fun c' v H' d k' t' r g => n c' v H' d k' (loop_back t F t') (by
    cases ko with
    | weak => exact r
    | strong => exact r
    | fresh =>
      obtain ⟨a, e1, e2, e3⟩ := r
      exact ⟨a, e1, mask_back t F e2, e3⟩) g
end

def forR (tg : TGD) (body : TSD) (DD : DEnds) : List D → PEnv → Prop
  | [], ρ => DD.nx ρ
  | d :: ds, ρ => tg d ρ fun ρ1 => body { DD with nx := forR tg body DD ds, ct := forR tg body DD ds, bk := DD.nx } ρ1
def sFor (src : TAD) (tg : TGD) (body : TSD) : TSD := fun DD ρ => src ρ fun ds => forR tg body DD ds ρ
theorem lift_for (K : PySem.W.Frag) {own is : List Nat} {fr : Bool} {ko : Kd} {src : TAD} {tgd : TGD} {body : TSD} {g : TG} (hg : TgOk K own is g tgd) :
    ∀ D σ H, liftS K own fr ko (sFor src tgd body) D σ H → tFor (liftI K own .strong src) g (liftS K own false ko body) D σ H := by
  intro D σ H ⟨c0, H0, A, c, ρ, DD, hk, t, E, F, h, z⟩
  refine ⟨c, A, ρ, _, hk, E, h, fun c1 J H1 ds t1 it g1 => ?_⟩
  have E1 := E.step t1
  have t01 := t.trans t1
  have k1 : c1.K = K := t1.kk.trans hk
  let M := mask own σ ρ H1
  have tM : Step c1 M c1 H1 := (Step.refl E1.fok).less fun b o e => (mask_some e).2
  have FM : OwnF own σ ρ M := fun a ha => by
    show mask own σ ρ H1 a = none
    unfold mask
    rw [if_pos ha]
  refine ⟨fun i m σ2 H2 => m = ds.length - i ∧ i ≤ ds.length ∧ ∃ c2 ρ2, Step c1 M c2 H2 ∧ EnvR c2 own A σ2 ρ2 H2 ∧ OwnF own σ2 ρ2 M ∧ forR tgd body DD (ds.drop i) ρ2, ⟨ds.length, by simp, Nat.zero_le _, c1, ρ, tM, E1, FM, g1⟩, ?_⟩
  rintro i m σ2 H2 ⟨rfl, hi, c2, ρ2, t2, E2, F2, fr2⟩
  have k2 : c2.K = K := t2.kk.trans k1
  have it2 := it c2 H2 (Avd c2 own A σ2 ρ2) t2 (fun b h => E2.al h) (fun b o n e q => by
    rcases q with q | q | q
    · exact n (.inl q)
    · rcases t2.new b q with q | q
      · exact n (.inr (.inl q))
      · have e : M b = some o := e
        rw [q] at e; cases e
    · have e : M b = some o := e
      rw [F2 b q] at e; cases e) i
  by_cases hlt : i < ds.length
  · refine .inr ?_
    have hd : ds[i]? = some ds[i] := List.getElem?_eq_getElem hlt
    obtain ⟨go, yl⟩ := it2.2 _ hd
    have hdrop : ds.drop i = ds[i] :: ds.drop (i + 1) := List.drop_eq_getElem_cons hlt
    rw [hdrop] at fr2
    refine ⟨go, fun σ' H' => ∃ c3 ρ3, Step c1 M c3 H' ∧ EnvR c3 own A σ' ρ3 H' ∧ OwnF own σ' ρ3 M ∧ forR tgd body DD (ds.drop (i + 1)) ρ3, fun σ' H' h' => ⟨ds.length - (i + 1), by omega, rfl, hlt, h'⟩, fun x H3 y => ?_⟩
    obtain ⟨same, rx⟩ := yl x H3 y
    have t3 : Step c2 H2 c2 H3 := .ofSame E2.fok same
    refine hg c2 A σ2 ρ2 H3 x ds[i] _ _ k2 (E2.step t3) rx fr2 fun σ4 ρ4 E4 o4 _ q4 => ?_
    refine ⟨c1, M, A, c2, ρ4, _, k2, t2.trans t3, E4, F2.congr o4, q4, ⟨?_, rtn_back t01 F z.rt, nxt_back t01 F z.nx, ?_⟩⟩
    · intro c' o' σ' ρ' H' k' s1 s2 t' E' F' h'
      have e := s2 rfl
      subst e
      exact ⟨c', ρ', t', E', F', h'⟩
    · intro c' o' σ' ρ' H' k' s1 s2 t' E' F' h'
      have e := s2 rfl
      subst e
      exact ⟨c', ρ', t', E', F', h'⟩
  · refine .inl ⟨it2.1 (by omega), ?_⟩
    have e : ds.drop i = [] := List.drop_eq_nil_of_le (by omega)
    rw [e] at fr2
    exact z.nx.here k2 (loop_back t01 F t2) E2 (ownF_back t01 F F2) fr2
def sWhile (pt : TTD) (body : TSD) : TSD := fun DD ρ => ∃ W : Nat → PEnv → Prop, (∃ m, W m ρ) ∧ ∀ m ρ, W m ρ → pt ρ fun b => if b = true then body { DD with nx := fun ρ' => ∃ m', m' < m ∧ W m' ρ', ct := fun ρ' => ∃ m', m' < m ∧ W m' ρ', bk := DD.nx } ρ else DD.nx ρ
theorem lift_while (K : PySem.W.Frag) {own : List Nat} {fr : Bool} {ko : Kd} {pt : TTD} {body : TSD} :
    ∀ D σ H, liftS K own fr ko (sWhile pt body) D σ H → tWhile (liftT K own pt) (liftS K own false ko body) D σ H := by
  intro D σ H ⟨c0, H0, A, c, ρ, DD, hk, t, E, F, ⟨W, ⟨m0, w0⟩, turn⟩, z⟩
  refine ⟨fun m σ2 H2 => ∃ c2 ρ2, c2.K = K ∧ Step c0 H0 c2 H2 ∧ EnvR c2 own A σ2 ρ2 H2 ∧ OwnF own σ2 ρ2 H0 ∧ W m ρ2, ⟨m0, c, ρ, hk, t, E, F, w0⟩, ?_⟩
  rintro m σ2 H2 ⟨c2, ρ2, k2, t2, E2, F2, w2⟩
  refine ⟨c2, A, ρ2, _, k2, E2, turn m ρ2 w2, fun c3 H3 b t3 g => ?_⟩
  cases b with
  | false => exact z.nx.here (t3.kk.trans k2) (t2.trans t3) (E2.step t3) F2 g
  | true =>
    refine ⟨fun σ' H' => ∃ m', m' < m ∧ ∃ c2 ρ2, c2.K = K ∧ Step c0 H0 c2 H' ∧ EnvR c2 own A σ' ρ2 H' ∧ OwnF own σ' ρ2 H0 ∧ W m' ρ2, fun σ' H' h => h, c0, H0, A, c3, ρ2, _, t3.kk.trans k2, t2.trans t3, E2.step t3, F2, g, ⟨?_, z.rt, z.nx.exact, ?_⟩⟩
    · intro c' o' σ' ρ' H' k' s1 s2 t' E' F' ⟨m', hm, w'⟩
      have e := s2 rfl
      subst e
      exact ⟨m', hm, c', ρ', k', t', E', F', w'⟩
    · intro c' o' σ' ρ' H' k' s1 s2 t' E' F' ⟨m', hm, w'⟩
      have e := s2 rfl
      subst e
      exact ⟨m', hm, c', ρ', k', t', E', F', w'⟩

section
variable {X : Cx} {own : List Nat} {fr : Bool} {ko k : Kd} {p q : TSD} {pe pk : TED} {pt : TTD} {pos : Pos} {e : Expr}
theorem s_for {tg iter : Expr} {body : List Stmt} {is : List Nat} {src : TAD} {g : TG} {tgd : TGD} (hp : PassesOwn (model X.prog X.w) X.A X.env X.xe) (hc : X.calm = true) (hi : PI X tg iter (liftI X.K own .strong src)) (hg : PG X tg g) (hgd : TgOk X.K own is g tgd) (hb : PSs X body (liftS X.K own false ko p))
    (hs : ∀ x, foldedSetIterable iter X.env x = pure x := by intro _; rfl) : PS X (.For tg iter body [] pos) (liftS X.K own fr ko (sFor src tgd p)) := ps_imp (ps_for hp hc hi hg hb hs) (lift_for _ hgd)
theorem s_while {body : List Stmt} (hp : PassesOwn (model X.prog X.w) X.A X.env X.xe) (hc : PT X e (liftT X.K own pt)) (hb : PSs X body (liftS X.K own false ko p)) : PS X (.While e body [] pos) (liftS X.K own fr ko (sWhile pt p)) := ps_imp (ps_while hp hc hb) (lift_while _)
theorem lift_less {p : TED} (K : PySem.W.Frag) : ∀ σ H Q, lift K own .strong p σ H Q → lift K own .fresh p σ H Q := fun σ H Q ⟨c, A, ρ, R, hk, E, hp, f⟩ => ⟨c, A, ρ, R, hk, E, hp, fun c' v H' d t r => f c' v H' d t (Fr.strong t E r)⟩
theorem s_setLc (i : Nat) {y : Str} {py : Pos} {elt tg iter : Expr} {ifs : List Expr} {scope : Scope} {ow : List (Str × Nat)} {spos : Pos} {is : List Nat} {src : TAD} {g : TG} {tgd : TGD} {tt : TTD} {te : TED} (hc : X.calm = true) (hN : X.N.Nodup) (hi : PI X tg iter (liftI X.K own .weak src)) (ok : BlkOk X.N X.env.scope scope ow)
    (hg : ∀ (s : Shared) (H : Hp) (C : Addr) (cl : List (Str × Addr)) (fp : List Addr), PG (X.blk s H scope (compEnvC scope cl C X.env) fp) tg g) (hgd : TgOk X.K own is g tgd) (ht : ∀ (s : Shared) (H : Hp) (C : Addr) (cl : List (Str × Addr)) (fp : List Addr), PTs (X.blk s H scope (compEnvC scope cl C X.env) fp) ifs (liftT X.K own tt))
    (he : ∀ (s : Shared) (H : Hp) (C : Addr) (cl : List (Str × Addr)) (fp : List Addr), PE (X.blk s H scope (compEnvC scope cl C X.env) fp) elt (lift X.K own .strong te)) (hy : X.N[i]? = some y := by rfl) (hyl : X.env.scope.names.lookup y = some .local := by rfl)
    (hsw : swapsWith (.ListComp elt [⟨tg, iter, ifs, 0⟩] scope pos) (some (.Name y py)) spos.line X.env = pure true := by exact sw_true rfl rfl rfl (by decide +kernel)) (hv : ∀ i ∈ is, i ∈ ow.map (·.2) := by decide) (ho : ∀ i ∈ ow.map (·.2), i ∉ own := by decide) (hno : i ∉ own := by decide) {vs : List Nat} (hvs : ow.map (·.2) = vs := by rfl) (hs : ∀ x, foldedSetIterable iter X.env x = pure x := by intro _; rfl) :
    PS X (.Assign [.Name y py] (.ListComp elt [⟨tg, iter, ifs, 0⟩] scope pos) spos) (liftS X.K own fr ko (sSet i (pComp src tgd tt te vs))) :=
  hvs ▸ ps_imp (ps_setLc hc hN hy hyl hsw hi ok hg ht he hs) (lift_set _ hno fun σ H Q h => lift_comp _ hgd hv ho σ H Q (lift_less _ σ H Q h))
theorem s_setLcO (i : Nat) {y : Str} {py : Pos} {elt tg iter : Expr} {ifs : List Expr} {scope : Scope} {ow : List (Str × Nat)} {spos : Pos} {is : List Nat} {src : TAD} {g : TG} {tgd : TGD} {tt : TTD} {te : TED} (hc : X.calm = true) (hN : X.N.Nodup) (hi : PI X tg iter (liftI X.K own .weak src)) (ok : BlkOk X.N X.env.scope scope ow)
    (hg : ∀ (s : Shared) (H : Hp) (C : Addr) (cl : List (Str × Addr)) (fp : List Addr), PG (X.blk s H scope (compEnvC scope cl C X.env) fp) tg g) (hgd : TgOk X.K own is g tgd) (ht : ∀ (s : Shared) (H : Hp) (C : Addr) (cl : List (Str × Addr)) (fp : List Addr), PTs (X.blk s H scope (compEnvC scope cl C X.env) fp) ifs (liftT X.K own tt))
    (he : ∀ (s : Shared) (H : Hp) (C : Addr) (cl : List (Str × Addr)) (fp : List Addr), PE (X.blk s H scope (compEnvC scope cl C X.env) fp) elt (lift X.K own .strong te)) (hy : X.N[i]? = some y := by rfl) (hyl : X.env.scope.names.lookup y = some .local := by rfl)
    (hsw : swapsWith (.ListComp elt [⟨tg, iter, ifs, 0⟩] scope pos) (some (.Name y py)) spos.line X.env = pure true := by exact sw_true rfl rfl rfl (by decide +kernel)) (hv : ∀ i ∈ is, i ∈ ow.map (·.2) := by decide) (ho : ∀ i ∈ ow.map (·.2), i ∉ own := by decide) (hno : i ∈ own := by decide) {vs : List Nat} (hvs : ow.map (·.2) = vs := by rfl) (hs : ∀ x, foldedSetIterable iter X.env x = pure x := by intro _; rfl) :
    PS X (.Assign [.Name y py] (.ListComp elt [⟨tg, iter, ifs, 0⟩] scope pos) spos) (liftS X.K own fr ko (sSet i (pComp src tgd tt te vs))) :=
  hvs ▸ ps_imp (ps_setLc hc hN hy hyl hsw hi ok hg ht he hs) (lift_setO _ hno fun σ H Q h => lift_comp _ hgd hv ho σ H Q h)

def ownL (ρ : PEnv) (i : Nat) (f : List D → Prop) : Prop := match ρ[i]? with | some (some (.lst ds)) => f ds | _ => False
theorem ownL_iff {ρ : PEnv} {i : Nat} {f : List D → Prop} (h : ownL ρ i f) : ∃ ds, ρ[i]? = some (some (.lst ds)) ∧ f ds := by
  unfold ownL at h
  split at h
  · rename_i ds e; exact ⟨ds, e, h⟩
  · exact h.elim
def sApp (i : Nat) (pe : TED) : TSD := fun DD ρ => ownL ρ i fun ds => pe ρ fun d => ds.length < sizeLine ∧ DD.nx (ρ.set i (some (.lst (ds ++ [d]))))
theorem ownL_at {c : Cfg} {A : Addr → Prop} {σ : L2.St} {ρ : PEnv} {H : Hp} {i : Nat} {ds : List D} (E : EnvR c own A σ ρ H) (hi : i ∈ own) (e : ρ[i]? = some (some (.lst ds))) : ∃ a vs, σ[i]? = some (some (.ref a)) ∧ ¬ c.S a ∧ vs.length ≤ sizeLine ∧ H a = some (.lst vs) ∧ RepL c (Avd c own A σ ρ) H vs ds := by
  obtain ⟨a, h1, h2, h3, h4⟩ := E.ownS i _ e hi
  cases h4 with
  | lst z h r => exact ⟨a, _, h1, h3, z, h, r⟩
theorem lst_mut {K : PySem.W.Frag} {c c0 : Cfg} {A : Addr → Prop} {σ : L2.St} {ρ : PEnv} {H H0 : Hp} {i : Nat} {a : Addr} {ds es : List D} {ws : List V} {P : PEnv → Prop} {Q : L2.St → Hp → Prop} (n : Nxt K own fr c0 H0 A P Q) (hk : c.K = K) (t : Step c0 H0 c H) (E : EnvR c own A σ ρ H) (F : OwnF own σ ρ H0)
    (hi : i ∈ own) (e : ρ[i]? = some (some (.lst ds))) (ha : σ[i]? = some (some (.ref a))) (hs : ¬ c.S a) (hz : ws.length ≤ sizeLine) (r : RepL c (Avd c own A σ ρ) H ws es) (p : P (ρ.set i (some (.lst es)))) : Q σ (upd H a (.lst ws)) := by
  have own_a : OwnA own σ ρ a := ⟨i, _, hi, e, ha⟩
  have m : ∀ b u, ¬ Avd c own A σ ρ b → H b = some u → ¬ Avd c own A σ ρ b ∧ (upd H a (.lst ws)) b = some u := fun b u n e => ⟨n, by rw [upd_ne (fun z => n (by rw [z]; exact .inr (.inr own_a)))]; exact e⟩
  exact n.here hk (t.upd (F a own_a) hs) (E.mutO hi e ha (.lst hz upd_same (RepL.mv rfl (fun _ _ z => z) m _ _ r))) (F.mutO e) p
theorem lift_app (K : PySem.W.Frag) {i : Nat} (hi : i ∈ own) : ∀ D σ H, liftS K own fr ko (sApp i pe) D σ H → tDrop (tBM K "list" rAppend (tVar i) (tCons (lift K own .strong pe) tNil)) D σ H := by
  intro D σ H ⟨c0, H0, A, c, ρ, DD, hk, t, E, F, h, z⟩
  obtain ⟨ds, e, h⟩ := ownL_iff h
  obtain ⟨a, vs, h1, h2, h3, h4, h5⟩ := ownL_at E hi e
  refine ⟨.ref a, h1, .inl ⟨rfl, _, SqL.of h4⟩, c, A, ρ, _, hk, E, h, fun c1 v H1 d t1 r1 g1 => ?_⟩
  have E1 := E.step t1
  obtain ⟨hz, g1⟩ := g1
  have h4' : H1 a = some (.lst vs) := t1.keep a _ h2 h4
  have r5 := RepL.step E t1 h5
  have hl : vs.length < sizeLine := by rw [h5.len]; exact hz
  refine ⟨a, vs, v, rfl, rfl, h4', hl, ?_⟩
  exact lst_mut z.nx (t1.kk.trans hk) (t.trans t1) E1 F hi e h1 (t1.notS h4 h2) (by rw [List.length_append]; exact hl) (r5.append (.cons r1 .nil)) g1
theorem s_app (i : Nat) {st : Stmt} (h : PS X st (tDrop (tBM X.K "list" rAppend (tVar i) (tCons (lift X.K own .strong pe) tNil)))) (hi : i ∈ own := by decide) : PS X st (liftS X.K own fr ko (sApp i pe)) := ps_imp h (lift_app _ hi)
def sItem (i : Nat) (pk pe : TED) : TSD := fun DD ρ => ownL ρ i fun ds => pe ρ fun d => pk ρ fun k => dInt k fun k => ∃ j, ixN ds.length k = some j ∧ DD.nx (ρ.set i (some (.lst (ds.set j d))))
theorem lift_item (K : PySem.W.Frag) {i : Nat} (hi : i ∈ own) : ∀ D σ H, liftS K own fr ko (sItem i pk pe) D σ H → tAsg (lift K own .strong pe) (gSub (tVar i) (lift K own .weak pk) rSetL) D σ H := by
  intro D σ H ⟨c0, H0, A, c, ρ, DD, hk, t, E, F, h, z⟩
  obtain ⟨ds, e, h⟩ := ownL_iff h
  obtain ⟨a, vs, h1, h2, h3, h4, h5⟩ := ownL_at E hi e
  refine ⟨c, A, ρ, _, hk, E, h, fun c1 v H1 d t1 r1 g1 => ⟨.ref a, h1, c1, A, ρ, _, t1.kk.trans hk, E.step t1, g1, fun c2 w H2 d2 t2 r2 g2 => ?_⟩⟩
  have E1 := E.step t1
  have E2 := E1.step t2
  have t12 := t1.trans t2
  obtain ⟨j, ej, k, hj, g3⟩ := dInt_iff g2
  rw [ej] at r2
  have e2 := RepW.int r2
  subst e2
  have h4' : H2 a = some (.lst vs) := t12.keep a _ h2 h4
  have r5 := RepL.step E t12 h5
  have rv : Rep c2 (Avd c2 own A σ ρ) H2 v d := Rep.step E1 t2 r1
  refine ⟨a, vs, j, k, rfl, rfl, h4', by rw [h5.len]; exact hj, ?_⟩
  exact lst_mut z.nx (t12.kk.trans hk) (t.trans t12) E2 F hi e h1 (t12.notS h4 h2) (by rw [List.length_set]; exact h3) (RepL.set rv k r5) g3
theorem s_item (i : Nat) {st : Stmt} (h : PS X st (tAsg (lift X.K own .strong pe) (gSub (tVar i) (lift X.K own .weak pk) rSetL))) (hi : i ∈ own := by decide) : PS X st (liftS X.K own fr ko (sItem i pk pe)) := ps_imp h (lift_item _ hi)
end

def startD (m : Nat) (ds : List D) : PEnv := ds.map some ++ List.replicate (m - ds.length) none
def fnW (ko : Kd) (m : Nat) (p : TSD) : List D → (D → Prop) → Prop := fun ds R => p ⟨fun _ => (match ko with | .fresh => False | _ => R .non), R, fun _ => False, fun _ => False⟩ (startD m ds)
theorem start_env {c : Cfg} {own : List Nat} {A : Addr → Prop} {N : List Str} {vs : List V} {ds : List D} {H : Hp} (fo : FeedsOk c H) (hA : ∀ a, A a → H a ≠ none) (r : RepL c (fun a => A a ∨ c.S a) H vs ds) (ho : ∀ i ∈ own, vs.length ≤ i) (hN : vs.length ≤ N.length) : EnvR c own A (L2.start N vs) (startD N.length ds) H ∧ ∀ a, ¬ OwnA own (L2.start N vs) (startD N.length ds) a := by
  have hl := r.len
  have none_at : ∀ i d, i ∈ own → (startD N.length ds)[i]? ≠ some (some d) := fun i d hi z => by
    unfold startD at z
    rw [List.getElem?_append_right (by rw [List.length_map, ← hl]; exact ho i hi)] at z
    by_cases h : i - (ds.map some).length < N.length - ds.length
    · rw [List.getElem?_replicate, if_pos h] at z; cases z
    · rw [List.getElem?_replicate, if_neg h] at z; cases z
  have no : ∀ a, ¬ OwnA own (L2.start N vs) (startD N.length ds) a := fun a ⟨i, d, hi, h1, _⟩ => none_at i d hi h1
  refine ⟨⟨fo, by simp [L2.start, startD, hl], hA, fun i d h hi => ?_, fun i d h hi => (none_at i d hi h).elim, fun i j a d e hi hj h1 => (none_at i d hi h1).elim⟩, no⟩
  have hil : i < ds.length := by
    by_cases q : i < ds.length
    · exact q
    · unfold startD at h
      rw [List.getElem?_append_right (by rw [List.length_map]; omega)] at h
      by_cases h' : i - (ds.map some).length < N.length - ds.length
      · rw [List.getElem?_replicate, if_pos h'] at h; cases h
      · rw [List.getElem?_replicate, if_neg h'] at h; cases h
  unfold startD at h
  rw [List.getElem?_append_left (by rw [List.length_map]; exact hil), List.getElem?_map] at h
  cases q : ds[i]? with
  | none => rw [q] at h; cases h
  | some d' =>
    rw [q] at h
    have := Option.some.inj (Option.some.inj h)
    subst this
    obtain ⟨v, h1, h2⟩ := r.get q
    refine ⟨v, ?_, Rep.mv rfl (fun _ _ z => z) (fun b o n e => ⟨fun z => n (by
      rcases z with z | z | z
      · exact .inl z
      · exact .inr z
      · exact (no b z).elim), e⟩) _ _ h2⟩
    unfold L2.start
    rw [List.getElem?_append_left (by rw [List.length_map, hl]; exact hil), List.getElem?_map, h1]
    rfl
theorem fn_d {P : Program} {w : World} {K : PySem.W.Frag} {mg : Str → Option Value} {base : Heap} {x qual : Str} {st : Stmt} {f : Addr} {fd : FuncData} {N ps : List Str} {k n : Nat} {own : List Nat} {fr : Bool} {ko : Kd} {p : TSD} (F : Fun K x qual st f fd) (S : FnScope N ps (defScope st)) (hn : ps.length = n) (ho : ∀ i ∈ own, n ≤ i) (hN : n ≤ N.length)
    (hbody : ∀ (cdv : Value) (A : Around) (outer : List Env) (s : Shared) (H : Hp) (E : XK), Room k (A.deeper (envOfC qual (defScope st) s.heap.objs.size f cdv)) →
      PSs (cxOf CX0 P w K mg base N qual (defScope st) f cdv A outer s H E).nox (defBody st) (liftS K own fr ko p)) : FnOk P w K mg base CX0 (k + 1) f fd ps (spD K n ko (fnW ko N.length p)) := by
  refine F.ok S (fun vs H Q E h => h.1.trans hn.symm) fun cdv A outer s H vs Q E hr h => ⟨_, hbody cdv A outer s H E hr, ?_⟩
  obtain ⟨hl, c, A', ds, R, hk, fo, hA, r, hw, q⟩ := h
  obtain ⟨E0, no⟩ := start_env (own := own) (N := N) fo hA r (fun i hi => by rw [hl]; exact ho i hi) (by rw [hl]; exact hN)
  refine ⟨c, H, A', c, _, _, hk, Step.refl fo, E0, fun a h => (no a h).elim, hw, ⟨?_, fun c' v H' d k' t' r' g => q c' v H' d t' r' g, fun _ _ _ _ _ _ _ _ _ _ _ h => h.elim, fun _ _ _ _ _ _ _ _ _ _ _ h => h.elim⟩⟩
  intro c' o' σ' ρ' H' k' s1 s2 t' E' F' h'
  cases ko with
  | fresh => exact h'.elim
  | weak => exact q c' .non H' .non t' .non h'
  | strong => exact q c' .non H' .non t' .non h'
theorem fn_imp {P : Program} {w : World} {K : PySem.W.Frag} {mg : Str → Option Value} {base : Heap} {k n : Nat} {f : Addr} {fd : FuncData} {ps : List Str} {ko : Kd} {g g' : List D → (D → Prop) → Prop} (F : FnOk P w K mg base CX0 k f fd ps (spD K n ko g)) (h : ∀ ds R, g' ds R → g ds R) : FnOk P w K mg base CX0 k f fd ps (spD K n ko g') :=
  F.imp fun vs H Q E ⟨hl, c, A, ds, R, hk, fo, hA, r, hw, q⟩ => ⟨hl, c, A, ds, R, hk, fo, hA, r, h ds R hw, q⟩
end DL

set_option Elab.async false
set_option linter.all false
set_option maxRecDepth 100000
set_option maxHeartbeats 2000000
namespace DL
open PySem PySem.Spec PyProof.Rows L2

def dAdd (x y : D) (R : D → Prop) : Prop := match x, y with
  | .int i, .int j => R (.int (i + j))
  | .str s, .str t => s.length + t.length ≤ sizeLine ∧ R (.str (s ++ t))
  | .lst a, .lst b => a.length + b.length ≤ sizeLine ∧ R (.lst (a ++ b))
  | .tup a, .tup b => a.length + b.length ≤ sizeLine ∧ R (.tup (a ++ b))
  | _, _ => False
def rAddA (K : PySem.W.Frag) : R2 := fun x y H Q => (rI0 (fun i j => .int (i + j)) x y H Q ∨ (∃ i j, x = .str i ∧ y = .str j ∧ i.length + j.length ≤ sizeLine ∧ Q (.str (i ++ j)) H)) ∨ (rCat x y H Q ∨ rCatA K x y H Q)
theorem o_add {X : Cx} : OpR X (binaryOp .Add) (rAddA X.K) := (op_add.or op_add_str).or (op_cat.or op_catA)
theorem RepL.nil_of {c : Cfg} {Av : Addr → Prop} {H : Hp} {ds : List D} (r : RepL c Av H [] ds) : ds = [] := by cases r; rfl
theorem NodT.rep {c : Cfg} {Av : Addr → Prop} {H : Hp} {a : Addr} {vs : List V} {ds : List D} (n : NodT c Av H a vs) (r : RepL c Av H vs ds) : Rep c Av H (.ref a) (.tup ds) := .tup n r
theorem C2.weaken {K : PySem.W.Frag} {r : R2} {r' : D → D → (D → Prop) → Prop} (h : C2 K r .fresh r') : C2 K r .strong r' := fun c own A σ ρ H v w d e R Q hk E r1 r2 g q => h c own A σ ρ H v w d e R Q hk E r1 r2 g fun c' v' H' d' t r => q c' v' H' d' t (Fr.strong t E r)
theorem C1.weaken {K : PySem.W.Frag} {r : V → Hp → VK → Prop} {r' : D → (D → Prop) → Prop} (h : C1 K r .fresh r') : C1 K r .strong r' := fun c own A σ ρ H v d R Q hk E r1 g q => h c own A σ ρ H v d R Q hk E r1 g fun c' v' H' d' t r => q c' v' H' d' t (Fr.strong t E r)
theorem CL.weaken {K : PySem.W.Frag} {r : List V → Hp → VK → Prop} {r' : List D → (D → Prop) → Prop} (h : CL K r .fresh r') : CL K r .strong r' := fun c own A σ ρ H vs ds R Q hk E r1 g q => h c own A σ ρ H vs ds R Q hk E r1 g fun c' v' H' d' t r => q c' v' H' d' t (Fr.strong t E r)
def dCat (x y : D) (R : D → Prop) : Prop := match x, y with
  | .lst a, .lst b => a.length + b.length ≤ sizeLine ∧ R (.lst (a ++ b))
  | _, _ => False
theorem c_cat {K : PySem.W.Frag} : C2 K rCat .fresh dCat := fun c own A σ ρ H v w d e R Q hk E r1 r2 g q => by
  unfold dCat at g
  split at g
  · obtain ⟨a, vs, rfl, z1, h1, rl1⟩ := RepW.lst r1
    obtain ⟨b, ws, rfl, z2, h2, rl2⟩ := RepW.lst r2
    have hz : vs.length + ws.length ≤ sizeLine := by rw [rl1.len, rl2.len]; exact g.1
    exact ⟨a, b, vs, ws, rfl, rfl, h1, h2, hz, fun p hp => q c (.ref p) _ _ (.one E.fok hp) (Fr.newL E hp (by rw [List.length_append]; exact hz) (rl1.append rl2)) g.2⟩
  · exact g.elim
theorem c_add {K : PySem.W.Frag} : C2 K (rAddA K) .strong dAdd := fun c own A σ ρ H v w d e R Q hk E r1 r2 g q => by
  unfold dAdd at g
  split at g
  · have e1 := RepW.int r1
    have e2 := RepW.int r2
    subst e1; subst e2
    exact .inl (.inl ⟨_, _, rfl, rfl, q c _ H _ (Step.refl E.fok) (.int _) g⟩)
  · have e1 := RepW.str r1
    have e2 := RepW.str r2
    subst e1; subst e2
    exact .inl (.inr ⟨_, _, rfl, rfl, g.1, q c _ H _ (Step.refl E.fok) (.str _) g.2⟩)
  · exact .inr (.inl (c_cat.weaken c own A σ ρ H v w _ _ R Q hk E r1 r2 g q))
  · obtain ⟨a, vs, rfl, n1, rl1⟩ := RepW.tup r1
    obtain ⟨b, ws, rfl, n2, rl2⟩ := RepW.tup r2
    have hz : vs.length + ws.length ≤ sizeLine := by rw [rl1.len, rl2.len]; exact g.1
    have s1 := n1.sq
    have s2 := n2.sq
    rw [hk] at s1 s2
    refine .inr (.inr ⟨a, b, vs, ws, rfl, rfl, s1, s2, hz, fun e0 => ?_, fun n0 e0 => ?_, fun n0 n3 p hp => ?_⟩)
    · subst e0
      have := rl1.nil_of
      subst this
      exact q c _ H _ (Step.refl E.fok) (n2.rep rl2) g.2
    · subst e0
      have := rl2.nil_of
      subst this
      have g2 := g.2
      rw [List.append_nil] at g2
      exact q c _ H _ (Step.refl E.fok) (n1.rep rl1) g2
    · exact q c (.ref p) _ _ (.one E.fok hp) (Rep.newT E hp (by rw [List.length_append]; exact hz) (rl1.append rl2)) g.2
  · exact g.elim

def dI2 (f : Int → Int → (D → Prop) → Prop) (x y : D) (R : D → Prop) : Prop := match x, y with | .int i, .int j => f i j R | _, _ => False
theorem dI2_iff {f : Int → Int → (D → Prop) → Prop} {x y : D} {R : D → Prop} (h : dI2 f x y R) : ∃ i j, x = .int i ∧ y = .int j ∧ f i j R := by
  unfold dI2 at h
  split at h
  · exact ⟨_, _, rfl, rfl, h⟩
  · exact h.elim
theorem c_I {K : PySem.W.Frag} {C : Int → Int → Prop} {g : Int → Int → V} {f : Int → Int → (D → Prop) → Prop} (h : ∀ i j R, f i j R → C i j ∧ ∃ d, R d ∧ ∀ c Av H, Rep c Av H (g i j) d) : C2 K (rI C g) .strong (dI2 f) := fun c own A σ ρ H v w d e R Q hk E r1 r2 gg q => by
  obtain ⟨i, j, rfl, rfl, gg⟩ := dI2_iff gg
  have e1 := RepW.int r1
  have e2 := RepW.int r2
  subst e1; subst e2
  obtain ⟨hc, d, hr, rp⟩ := h i j R gg
  exact ⟨i, j, rfl, rfl, hc, q c _ H _ (Step.refl E.fok) (rp _ _ _) hr⟩
theorem c_I0 {K : PySem.W.Frag} {g : Int → Int → V} {f : Int → Int → (D → Prop) → Prop} (h : ∀ i j R, f i j R → ∃ d, R d ∧ ∀ c Av H, Rep c Av H (g i j) d) : C2 K (rI0 g) .strong (dI2 f) := fun c own A σ ρ H v w d e R Q hk E r1 r2 gg q => by
  obtain ⟨i, j, rfl, rfl, gg⟩ := dI2_iff gg
  have e1 := RepW.int r1
  have e2 := RepW.int r2
  subst e1; subst e2
  obtain ⟨d, hr, rp⟩ := h i j R gg
  exact ⟨i, j, rfl, rfl, q c _ H _ (Step.refl E.fok) (rp _ _ _) hr⟩
def dSub : D → D → (D → Prop) → Prop := dI2 fun i j R => R (.int (i - j))
theorem c_sub {K : PySem.W.Frag} : C2 K (rI0 fun i j => .int (i - j)) .strong dSub := c_I0 fun i j R h => ⟨_, h, fun _ _ _ => .int _⟩
def mulOk (i j : Int) : Prop := i.natAbs.log2 + j.natAbs.log2 < 1000000
def dMulI : D → D → (D → Prop) → Prop := dI2 fun i j R => mulOk i j ∧ R (.int (i * j))
theorem c_mulI {K : PySem.W.Frag} : C2 K (rI CMulW fun i j => .int (i * j)) .strong dMulI := c_I fun i j R h => ⟨h.1, _, h.2, fun _ _ _ => .int _⟩
def dRep (x y : D) (R : D → Prop) : Prop := match x, y with
  | .lst a, .int k => (-(2 ^ 63) ≤ k ∧ k < 2 ^ 63 ∧ a.length * k.toNat ≤ sizeLine) ∧ R (.lst (List.replicate k.toNat a).flatten)
  | _, _ => False
theorem RepL.flat {c : Cfg} {Av : Addr → Prop} {H : Hp} {vs : List V} {ds : List D} (r : RepL c Av H vs ds) : ∀ n, RepL c Av H (List.replicate n vs).flatten (List.replicate n ds).flatten
  | 0 => .nil
  | n + 1 => by
    rw [List.replicate_succ, List.replicate_succ, List.flatten_cons, List.flatten_cons]
    exact r.append (r.flat n)
theorem flat_len {α : Type} (a : List α) : ∀ n, (List.replicate n a).flatten.length = a.length * n
  | 0 => by simp
  | n + 1 => by
    rw [List.replicate_succ, List.flatten_cons, List.length_append, flat_len a n, Nat.mul_succ, Nat.add_comm]
theorem c_rep {K : PySem.W.Frag} : C2 K rRep .fresh dRep := fun c own A σ ρ H v w d e R Q hk E r1 r2 g q => by
  unfold dRep at g
  split at g
  · obtain ⟨a, vs, rfl, z1, h1, rl1⟩ := RepW.lst r1
    have e2 := RepW.int r2
    subst e2
    obtain ⟨⟨g1, g2, g3⟩, g4⟩ := g
    refine ⟨a, _, vs, rfl, rfl, h1, g1, g2, by rw [rl1.len]; exact g3, fun p hp => q c (.ref p) _ _ (.one E.fok hp) (Fr.newL E hp ?_ (rl1.flat _)) g4⟩
    rw [flat_len, rl1.len]
    exact g3
  · exact g.elim
def dMul (x y : D) (R : D → Prop) : Prop := match x, y with
  | .int i, .int j => mulOk i j ∧ R (.int (i * j))
  | .lst a, .int k => (-(2 ^ 63) ≤ k ∧ k < 2 ^ 63 ∧ a.length * k.toNat ≤ sizeLine) ∧ R (.lst (List.replicate k.toNat a).flatten)
  | _, _ => False
def rMulA : R2 := fun x y H Q => rI CMulW (fun i j => .int (i * j)) x y H Q ∨ rRep x y H Q
theorem o_mul {X : Cx} : OpR X (binaryOp .Mult) rMulA := op_mulW.or op_rep
theorem c_mul {K : PySem.W.Frag} : C2 K rMulA .strong dMul := fun c own A σ ρ H v w d e R Q hk E r1 r2 g q => by
  unfold dMul at g
  split at g
  · exact .inl (c_mulI c own A σ ρ H v w _ _ R Q hk E r1 r2 g q)
  · exact .inr (c_rep.weaken c own A σ ρ H v w _ _ R Q hk E r1 r2 g q)
  · exact g.elim
def CDivA (_ j : Int) : Prop := j ≠ 0 ∧ j.natAbs.log2 < 9000
theorem o_fdiv {X : Cx} : OpR X (binaryOp .FloorDiv) (rI CDivA fun i j => .int (i.fdiv j)) := opI fun i j _ _ _ _ _ hc q => floordiv_int hc.1 q (.inl (PyProof.noPylong_of_log2 hc.2))
def dDiv : D → D → (D → Prop) → Prop := dI2 fun i j R => (j ≠ 0 ∧ j.natAbs.log2 < 9000) ∧ R (.int (i.fdiv j))
theorem c_div {K : PySem.W.Frag} : C2 K (rI CDivA fun i j => .int (i.fdiv j)) .strong dDiv := c_I fun i j R h => ⟨h.1, _, h.2, fun _ _ _ => .int _⟩
def dMod : D → D → (D → Prop) → Prop := dI2 fun i j R => j ≠ 0 ∧ R (.int (i.fmod j))
theorem c_mod {K : PySem.W.Frag} : C2 K (rI (fun _ j => j ≠ 0) fun i j => .int (i.fmod j)) .strong dMod := c_I fun i j R h => ⟨h.1, _, h.2, fun _ _ _ => .int _⟩
def dPow : D → D → (D → Prop) → Prop := dI2 fun i j R => (0 ≤ j ∧ j ≤ 1000000 ∧ i.natAbs < 2 ^ 64) ∧ R (.int (i ^ j.toNat))
theorem c_pow {K : PySem.W.Frag} : C2 K (rI CPow fun i j => .int (i ^ j.toNat)) .strong dPow := c_I fun i j R h => ⟨h.1, _, h.2, fun _ _ _ => .int _⟩
def dNeg (x : D) (R : D → Prop) : Prop := dInt x fun i => R (.int (-i))
theorem c_neg {K : PySem.W.Frag} : C1 K (rU fun i => .int (-i)) .strong dNeg := fun c own A σ ρ H v d R Q hk E r1 g q => by
  obtain ⟨i, rfl, g⟩ := dInt_iff g
  have e1 := RepW.int r1
  subst e1
  exact ⟨i, rfl, q c _ H _ (Step.refl E.fok) (.int _) g⟩

def eqD : D → D → Bool
  | .non, .non => true
  | .bl a, .bl b => a == b
  | .bl a, .int j => (if a then 1 else 0) == j
  | .int i, .bl b => i == (if b then 1 else 0)
  | .int i, .int j => i == j
  | .str x, .str y => x == y
  | .lst xs, .lst ys => eqDs xs ys
  | .tup xs, .tup ys => eqDs xs ys
  | _, _ => false
where eqDs : List D → List D → Bool
  | [], [] => true
  | x :: xs, y :: ys => eqD x y && eqDs xs ys
  | _, _ => false
def okD : Nat → D → Bool
  | _, .non => true
  | _, .bl _ => true
  | _, .int _ => true
  | _, .str x => PyData.canLay0 (.str x)
  | n, .tup ds => match n with | 0 => false | n + 1 => okDs n ds
  | n, .lst ds => match n with | 0 => false | n + 1 => okDs n ds
  | _, _ => false
where okDs : Nat → List D → Bool
  | _, [] => true
  | n, d :: ds => okD n d && okDs n ds
def toPy : D → PyData
  | .non => .none
  | .bl b => .bool b
  | .int i => .int i
  | .str x => .str x
  | .tup ds => .tuple (toPys ds)
  | .lst ds => .list (toPys ds)
  | _ => .none
where toPys : List D → List PyData
  | [] => []
  | d :: ds => toPy d :: toPys ds
mutual
theorem okD_lay : ∀ (d : D) (n : Nat), okD n d = true → (toPy d).canLay0 = true ∧ (toPy d).depth ≤ n
  | .non, n, h => by simp [toPy, PyData.canLay0, PyData.depth]
  | .bl _, n, h => by simp [toPy, PyData.canLay0, PyData.depth]
  | .int _, n, h => by simp [toPy, PyData.canLay0, PyData.depth]
  | .str x, n, h => by
    refine ⟨by simpa [toPy, okD] using h, ?_⟩
    simp [toPy, PyData.depth]
  | .ty _, n, h => by simp [okD] at h
  | .ref _, n, h => by simp [okD] at h
  | .deal, n, h => by simp [okD] at h
  | .feed, n, h => by simp [okD] at h
  | .scr _, n, h => by simp [okD] at h
  | .dT _ _, n, h => by simp [okD] at h
  | .dK _ _, n, h => by simp [okD] at h
  | .tup ds, n, h => by
    match n, h with
    | 0, h => simp [okD] at h
    | n + 1, h =>
      obtain ⟨h1, h2⟩ := okDs_lay ds n (by simpa [okD] using h)
      refine ⟨by simpa [toPy, PyData.canLay0] using h1, ?_⟩
      simp only [toPy, PyData.depth]
      omega
  | .lst ds, n, h => by
    match n, h with
    | 0, h => simp [okD] at h
    | n + 1, h =>
      obtain ⟨h1, h2⟩ := okDs_lay ds n (by simpa [okD] using h)
      refine ⟨by simpa [toPy, PyData.canLay0] using h1, ?_⟩
      simp only [toPy, PyData.depth]
      omega
theorem okDs_lay : ∀ (ds : List D) (n : Nat), okD.okDs n ds = true → PyData.canLayAll0 (toPy.toPys ds) = true ∧ PyData.depthAll (toPy.toPys ds) ≤ n
  | [], n, h => by simp [toPy.toPys, PyData.canLayAll0, PyData.depthAll]
  | d :: ds, n, h => by
    simp only [okD.okDs, Bool.and_eq_true] at h
    obtain ⟨h1, h2⟩ := okD_lay d n h.1
    obtain ⟨h3, h4⟩ := okDs_lay ds n h.2
    simp only [toPy.toPys, PyData.canLayAll0, PyData.depthAll, Bool.and_eq_true]
    exact ⟨⟨h1, h3⟩, by omega⟩
end
theorem okD_shaped {d : D} (h : okD 60 d = true) : SeqAt.shaped (toPy d) = true := by
  obtain ⟨h1, h2⟩ := okD_lay d 60 h
  show ((toPy d).canLay0 && decide ((toPy d).depth ≤ 64)) = true
  rw [Bool.and_eq_true]
  exact ⟨h1, decide_eq_true (by omega)⟩
mutual
theorem eqv_eqD : ∀ (x y : D) (n m : Nat), okD n x = true → okD m y = true → PyData.eqv (toPy x) (toPy y) = eqD x y
  | .non, y, n, m, h1, h2 => by cases y <;> simp [okD] at h2 <;> simp [toPy, PyData.eqv, eqD]
  | .bl _, y, n, m, h1, h2 => by cases y <;> simp [okD] at h2 <;> simp [toPy, PyData.eqv, eqD]
  | .int _, y, n, m, h1, h2 => by cases y <;> simp [okD] at h2 <;> simp [toPy, PyData.eqv, eqD]
  | .str x, y, n, m, h1, h2 => by cases y <;> simp [okD] at h2 <;> simp [toPy, PyData.eqv, eqD]
  | .ty _, _, n, m, h, _ => by simp [okD] at h
  | .ref _, _, n, m, h, _ => by simp [okD] at h
  | .deal, _, n, m, h, _ => by simp [okD] at h
  | .feed, _, n, m, h, _ => by simp [okD] at h
  | .scr _, _, n, m, h, _ => by simp [okD] at h
  | .dT _ _, _, n, m, h, _ => by simp [okD] at h
  | .dK _ _, _, n, m, h, _ => by simp [okD] at h
  | .tup ds, y, n, m, h1, h2 => by
    match n, h1 with
    | 0, h1 => simp [okD] at h1
    | n + 1, h1 =>
      cases y with
      | tup es =>
        match m, h2 with
        | 0, h2 => simp [okD] at h2
        | m + 1, h2 => simp only [toPy, PyData.eqv, eqD]; exact eqvs_eqDs ds es n m (by simpa [okD] using h1) (by simpa [okD] using h2)
      | _ => first | (simp [okD] at h2; done) | simp [toPy, PyData.eqv, eqD]
  | .lst ds, y, n, m, h1, h2 => by
    match n, h1 with
    | 0, h1 => simp [okD] at h1
    | n + 1, h1 =>
      cases y with
      | lst es =>
        match m, h2 with
        | 0, h2 => simp [okD] at h2
        | m + 1, h2 => simp only [toPy, PyData.eqv, eqD]; exact eqvs_eqDs ds es n m (by simpa [okD] using h1) (by simpa [okD] using h2)
      | _ => first | (simp [okD] at h2; done) | simp [toPy, PyData.eqv, eqD]
theorem eqvs_eqDs : ∀ (xs ys : List D) (n m : Nat), okD.okDs n xs = true → okD.okDs m ys = true → PyData.eqvAll (toPy.toPys xs) (toPy.toPys ys) = eqD.eqDs xs ys
  | [], ys, n, m, h1, h2 => by cases ys <;> simp [toPy.toPys, PyData.eqvAll, eqD.eqDs]
  | x :: xs, ys, n, m, h1, h2 => by
    cases ys with
    | nil => simp [toPy.toPys, PyData.eqvAll, eqD.eqDs]
    | cons y ys =>
      simp only [okD.okDs, Bool.and_eq_true] at h1 h2
      simp only [toPy.toPys, PyData.eqvAll, eqD.eqDs]
      rw [eqv_eqD x y n m h1.1 h2.1, eqvs_eqDs xs ys n m h1.2 h2.2]
end
end DL

set_option Elab.async false
set_option linter.all false
set_option maxRecDepth 100000
set_option maxHeartbeats 2000000
namespace DL
open PySem PySem.Spec PyProof.Rows L2

section
variable {c : Cfg} {Av : Addr → Prop} {H : Hp}
mutual
theorem Rep.dp : ∀ (d : D) (n : Nat) (v : V), okD n d = true → Rep c Av H v d → Dp c.K H v (toPy d)
  | .non, n, _, _, h => by cases h; simp only [toPy]; exact .non
  | .bl b, n, _, _, h => by cases h; simp only [toPy]; exact .bl b
  | .int i, n, _, _, h => by cases h; simp only [toPy]; exact .int i
  | .str x, n, _, _, h => by cases h; simp only [toPy]; exact .str x
  | .ty _, n, _, o, _ => by simp [okD] at o
  | .ref _, n, _, o, _ => by simp [okD] at o
  | .deal, n, _, o, _ => by simp [okD] at o
  | .feed, n, _, o, _ => by simp [okD] at o
  | .scr _, n, _, o, _ => by simp [okD] at o
  | .dT _ _, n, _, o, _ => by simp [okD] at o
  | .dK _ _, n, _, o, _ => by simp [okD] at o
  | .tup ds, n, _, o, h => by
    match n, o with
    | 0, o => simp [okD] at o
    | n + 1, o =>
      cases h with
      | tup nd r =>
        simp only [toPy]
        exact .tup nd.sq (RepL.dp ds n _ (by simpa [okD] using o) r)
  | .lst ds, n, _, o, h => by
    match n, o with
    | 0, o => simp [okD] at o
    | n + 1, o =>
      cases h with
      | lst nd r =>
        simp only [toPy]
        exact .lst nd.sq (RepL.dp ds n _ (by simpa [okD] using o) r)
theorem RepL.dp : ∀ (ds : List D) (n : Nat) (vs : List V), okD.okDs n ds = true → RepL c Av H vs ds → DpAll c.K H vs (toPy.toPys ds)
  | [], n, _, _, h => by cases h; simp only [toPy.toPys]; exact .nil
  | d :: ds, n, _, o, h => by
    simp only [okD.okDs, Bool.and_eq_true] at o
    cases h with
    | cons r s =>
      simp only [toPy.toPys]
      exact .cons (Rep.dp d n _ o.1 r) (RepL.dp ds n _ o.2 s)
end
end
theorem RepW.dp {c : Cfg} {own : List Nat} {A : Addr → Prop} {σ : L2.St} {ρ : PEnv} {H : Hp} {v : V} {d : D} {n : Nat} (o : okD n d = true) (r : RepW c own A σ ρ H v d) : Dp c.K H v (toPy d) := Rep.dp d n v o r.seen

def dEq (x y : D) (R : D → Prop) : Prop := (okD 60 x = true ∧ okD 60 y = true) ∧ R (.bl (eqD x y))
def dNe (x y : D) (R : D → Prop) : Prop := (okD 60 x = true ∧ okD 60 y = true) ∧ R (.bl (!eqD x y))
theorem c_eq {K : PySem.W.Frag} : C2 K (rEqD K) .strong dEq := fun c own A σ ρ H v w d e R Q hk E r1 r2 g q => by
  obtain ⟨⟨o1, o2⟩, g⟩ := g
  have d1 := r1.dp o1
  have d2 := r2.dp o2
  rw [hk] at d1 d2
  refine ⟨_, _, d1, d2, okD_shaped o1, okD_shaped o2, ?_⟩
  rw [eqv_eqD d e 60 60 o1 o2]
  exact q c _ H _ (Step.refl E.fok) (.bl _) g
theorem c_ne {K : PySem.W.Frag} : C2 K (rNeD K) .strong dNe := fun c own A σ ρ H v w d e R Q hk E r1 r2 g q => by
  obtain ⟨⟨o1, o2⟩, g⟩ := g
  have d1 := r1.dp o1
  have d2 := r2.dp o2
  rw [hk] at d1 d2
  refine ⟨_, _, d1, d2, okD_shaped o1, okD_shaped o2, ?_⟩
  rw [eqv_eqD d e 60 60 o1 o2]
  exact q c _ H _ (Step.refl E.fok) (.bl _) g

def dLtI : D → D → (D → Prop) → Prop := dI2 fun i j R => R (.bl (decide (i < j)))
def dLeI : D → D → (D → Prop) → Prop := dI2 fun i j R => R (.bl (decide (i ≤ j)))
def dGtI : D → D → (D → Prop) → Prop := dI2 fun i j R => R (.bl (decide (j < i)))
def dGeI : D → D → (D → Prop) → Prop := dI2 fun i j R => R (.bl (decide (j ≤ i)))
theorem c_ltI {K : PySem.W.Frag} : C2 K (rI0 fun i j => .bl (decide (i < j))) .strong dLtI := c_I0 fun i j R h => ⟨_, h, fun _ _ _ => .bl _⟩
theorem c_leI {K : PySem.W.Frag} : C2 K (rI0 fun i j => .bl (decide (i ≤ j))) .strong dLeI := c_I0 fun i j R h => ⟨_, h, fun _ _ _ => .bl _⟩
theorem c_gtI {K : PySem.W.Frag} : C2 K (rI0 fun i j => .bl (decide (j < i))) .strong dGtI := c_I0 fun i j R h => ⟨_, h, fun _ _ _ => .bl _⟩
theorem c_geI {K : PySem.W.Frag} : C2 K (rI0 fun i j => .bl (decide (j ≤ i))) .strong dGeI := c_I0 fun i j R h => ⟨_, h, fun _ _ _ => .bl _⟩

def D.isN : D → Bool | .non => true | _ => false
theorem RepW.isN {c : Cfg} {own : List Nat} {A : Addr → Prop} {σ : L2.St} {ρ : PEnv} {H : Hp} {v : V} {d : D} (r : RepW c own A σ ρ H v d) : decide (v = .non) = d.isN := by
  rcases r with r | ⟨a, e, o, n1, n2, r⟩
  · cases r <;> simp [D.isN]
  · subst e; cases r <;> simp [D.isN]
def dIsN (x y : D) (R : D → Prop) : Prop := match y with | .non => R (.bl x.isN) | _ => False
def dNotN (x y : D) (R : D → Prop) : Prop := match y with | .non => R (.bl (!x.isN)) | _ => False
theorem c_isN {K : PySem.W.Frag} : C2 K (fun x y H Q => y = .non ∧ Q (.bl (decide (x = .non))) H) .strong dIsN := fun c own A σ ρ H v w d e R Q hk E r1 r2 g q => by
  cases e with
  | non =>
    have e2 := RepW.non r2
    subst e2
    rw [r1.isN]
    exact ⟨rfl, q c _ H _ (Step.refl E.fok) (.bl _) g⟩
  | _ => exact g.elim
theorem c_notN {K : PySem.W.Frag} : C2 K (fun x y H Q => y = .non ∧ Q (.bl (!decide (x = .non))) H) .strong dNotN := fun c own A σ ρ H v w d e R Q hk E r1 r2 g q => by
  cases e with
  | non =>
    have e2 := RepW.non r2
    subst e2
    rw [r1.isN]
    exact ⟨rfl, q c _ H _ (Step.refl E.fok) (.bl _) g⟩
  | _ => exact g.elim

def dIx (x y : D) (R : D → Prop) : Prop := match x, y with
  | .tup ds, .int i => ∃ d, atI ds i = some d ∧ R d
  | .lst ds, .int i => ∃ d, atI ds i = some d ∧ R d
  | .str z, .int i => z.length ≤ sizeLine ∧ ∃ c, atI z.cps.toList i = some c ∧ R (.str ⟨#[c]⟩)
  | _, _ => False
theorem RepL.atI {c : Cfg} {Av : Addr → Prop} {H : Hp} {vs : List V} {ds : List D} {i : Int} {d : D} (r : RepL c Av H vs ds) (h : L2.atI ds i = some d) : ∃ v, L2.atI vs i = some v ∧ Rep c Av H v d := by
  unfold L2.atI at *
  rw [r.len]
  cases e : ixN ds.length i with
  | none => rw [e] at h; cases h
  | some j =>
    rw [e] at h
    exact r.get h
theorem c_ix {K : PySem.W.Frag} : C2 K (rIx K) .strong dIx := fun c own A σ ρ H v w d e R Q hk E r1 r2 g q => by
  unfold dIx at g
  split at g
  · obtain ⟨d, h, g⟩ := g
    obtain ⟨a, vs, rfl, n1, rl1⟩ := RepW.tup r1
    have e2 := RepW.int r2
    subst e2
    have s1 := n1.sq
    rw [hk] at s1
    obtain ⟨u, h1, h2⟩ := rl1.atI h
    exact .inr (.inl ⟨a, vs, _, u, rfl, rfl, s1, h1, q c _ H _ (Step.refl E.fok) h2 g⟩)
  · obtain ⟨d, h, g⟩ := g
    obtain ⟨a, vs, rfl, z1, n1, rl1⟩ := RepW.lst r1
    have e2 := RepW.int r2
    subst e2
    obtain ⟨u, h1, h2⟩ := rl1.atI h
    exact .inl ⟨a, vs, _, u, rfl, rfl, .inl (.inl n1), h1, q c _ H _ (Step.refl E.fok) h2 g⟩
  · obtain ⟨hz, u, h, g⟩ := g
    have e1 := RepW.str r1
    have e2 := RepW.int r2
    subst e1; subst e2
    exact .inr (.inr ⟨_, _, u, rfl, rfl, hz, h, q c _ H _ (Step.refl E.fok) (.str _) g⟩)
  · exact g.elim

def dOne (xs : List D) (f : D → Prop) : Prop := match xs with | [x] => f x | _ => False
def dTwo (xs : List D) (f : D → D → Prop) : Prop := match xs with | [x, y] => f x y | _ => False
theorem dOne_iff {xs : List D} {f : D → Prop} (h : dOne xs f) : ∃ x, xs = [x] ∧ f x := by
  unfold dOne at h
  split at h
  · exact ⟨_, rfl, h⟩
  · exact h.elim
theorem dTwo_iff {xs : List D} {f : D → D → Prop} (h : dTwo xs f) : ∃ x y, xs = [x, y] ∧ f x y := by
  unfold dTwo at h
  split at h
  · exact ⟨_, _, rfl, h⟩
  · exact h.elim
theorem paired1 {F : V → D → Prop} {vs : List V} {d : D} (h : Paired F vs [d]) : ∃ v, vs = [v] ∧ F v d := by
  cases h with
  | cons a t => cases t; exact ⟨_, rfl, a⟩
theorem paired2 {F : V → D → Prop} {vs : List V} {d e : D} (h : Paired F vs [d, e]) : ∃ v w, vs = [v, w] ∧ F v d ∧ F w e := by
  cases h with
  | cons a t =>
    cases t with
    | cons b t => cases t; exact ⟨_, _, rfl, a, b⟩
def dLen (xs : List D) (R : D → Prop) : Prop := dOne xs fun x => match x with
  | .lst ds => R (.int ds.length)
  | .tup ds => R (.int ds.length)
  | .scr ns => R (.int ns.length)
  | .str z => z.length ≤ sizeLine ∧ R (.int z.length)
  | _ => False
def rLenA (K : PySem.W.Frag) : List V → Hp → VK → Prop := fun xs H Q => (∃ p ys, xs = [.ref p] ∧ (SqL K H p ys ∨ SqT K H p ys) ∧ Q (.int ys.length) H) ∨ (∃ z, xs = [.str z] ∧ z.length ≤ sizeLine ∧ Q (.int z.length) H)
theorem b_len {X : Cx} : CallR X (.builtin "len") (rLenA X.K) := call_len_seq.or call_len_str
theorem c_len {K : PySem.W.Frag} : CL K (rLenA K) .strong dLen := fun c own A σ ρ H vs ds R Q hk E r1 g q => by
  obtain ⟨x, rfl, g⟩ := dOne_iff g
  obtain ⟨v, rfl, r⟩ := paired1 r1
  cases x with
  | lst es =>
    obtain ⟨a, us, rfl, z1, n1, rl1⟩ := RepW.lst r
    refine .inl ⟨a, us, rfl, .inl (.inl (.inl n1)), ?_⟩
    rw [rl1.len]
    exact q c _ H _ (Step.refl E.fok) (.int _) g
  | tup es =>
    obtain ⟨a, us, rfl, n1, rl1⟩ := RepW.tup r
    have s1 := n1.sq
    rw [hk] at s1
    refine .inl ⟨a, us, rfl, .inr s1, ?_⟩
    rw [rl1.len]
    exact q c _ H _ (Step.refl E.fok) (.int _) g
  | scr ns =>
    obtain ⟨a, rfl, _, s⟩ := RepW.scr r
    rw [hk] at s
    refine .inl ⟨a, _, rfl, .inl s, ?_⟩
    rw [List.length_map]
    exact q c _ H _ (Step.refl E.fok) (.int _) g
  | str z =>
    have e := RepW.str r
    subst e
    exact .inr ⟨z, rfl, g.1, q c _ H _ (Step.refl E.fok) (.int _) g.2⟩
  | _ => exact g.elim
def dBls (x : D) (f : List Bool → Prop) : Prop := match x with | .lst ds => ∃ bs : List Bool, ds = bs.map D.bl ∧ f bs | _ => False
def dAll (xs : List D) (R : D → Prop) : Prop := dOne xs fun x => dBls x fun bs => R (.bl (bs.all id))
def dAny (xs : List D) (R : D → Prop) : Prop := dOne xs fun x => dBls x fun bs => R (.bl (bs.any id))
theorem RepL.bls {c : Cfg} {Av : Addr → Prop} {H : Hp} : ∀ {vs : List V} {bs : List Bool}, RepL c Av H vs (bs.map D.bl) → vs = bs.map V.bl
  | _, [], h => by cases h; rfl
  | _, b :: bs, h => by
    cases h with
    | cons r t =>
      cases r
      rw [t.bls]
      rfl
theorem c_all {K : PySem.W.Frag} : CL K (rAll K) .strong dAll := fun c own A σ ρ H vs ds R Q hk E r1 g q => by
  obtain ⟨x, rfl, g⟩ := dOne_iff g
  obtain ⟨v, rfl, r⟩ := paired1 r1
  have g1 : dBls x (fun bs => R (.bl (bs.all id))) := g
  unfold dBls at g1
  split at g1
  · obtain ⟨bs, e0, g2⟩ := g1
    subst e0
    obtain ⟨a, us, rfl, z1, n1, rl1⟩ := RepW.lst r
    have e := rl1.bls
    subst e
    exact ⟨a, bs, rfl, .inl (.inl n1), q c _ H _ (Step.refl E.fok) (.bl _) g2⟩
  · exact g1.elim
theorem c_any {K : PySem.W.Frag} : CL K (rAny K) .strong dAny := fun c own A σ ρ H vs ds R Q hk E r1 g q => by
  obtain ⟨x, rfl, g⟩ := dOne_iff g
  obtain ⟨v, rfl, r⟩ := paired1 r1
  have g1 : dBls x (fun bs => R (.bl (bs.any id))) := g
  unfold dBls at g1
  split at g1
  · obtain ⟨bs, e0, g2⟩ := g1
    subst e0
    obtain ⟨a, us, rfl, z1, n1, rl1⟩ := RepW.lst r
    have e := rl1.bls
    subst e
    exact ⟨a, bs, rfl, .inl (.inl n1), q c _ H _ (Step.refl E.fok) (.bl _) g2⟩
  · exact g1.elim
def dAbs (xs : List D) (R : D → Prop) : Prop := dOne xs fun x => dInt x fun i => R (.int (if i < 0 then -i else i))
theorem c_abs {K : PySem.W.Frag} : CL K (fun xs H Q => ∃ i, xs = [.int i] ∧ Q (.int (if i < 0 then -i else i)) H) .strong dAbs := fun c own A σ ρ H vs ds R Q hk E r1 g q => by
  obtain ⟨x, rfl, g⟩ := dOne_iff g
  obtain ⟨v, rfl, r⟩ := paired1 r1
  obtain ⟨i, rfl, g⟩ := dInt_iff g
  have e := RepW.int r
  subst e
  exact ⟨i, rfl, q c _ H _ (Step.refl E.fok) (.int _) g⟩
def dMax2 (xs : List D) (R : D → Prop) : Prop := dTwo xs fun x y => dInt x fun i => dInt y fun j => R (.int (if j > i then j else i))
def dMin2 (xs : List D) (R : D → Prop) : Prop := dTwo xs fun x y => dInt x fun i => dInt y fun j => R (.int (if j < i then j else i))
theorem c_max2 {K : PySem.W.Frag} : CL K (fun xs H Q => ∃ i j, xs = [.int i, .int j] ∧ Q (.int (if j > i then j else i)) H) .strong dMax2 := fun c own A σ ρ H vs ds R Q hk E r1 g q => by
  obtain ⟨x, y, rfl, g⟩ := dTwo_iff g
  obtain ⟨v, w, rfl, r, s⟩ := paired2 r1
  obtain ⟨i, rfl, g⟩ := dInt_iff g
  obtain ⟨j, rfl, g⟩ := dInt_iff g
  have e := RepW.int r
  have e2 := RepW.int s
  subst e; subst e2
  exact ⟨i, j, rfl, q c _ H _ (Step.refl E.fok) (.int _) g⟩
theorem c_min2 {K : PySem.W.Frag} : CL K (fun xs H Q => ∃ i j, xs = [.int i, .int j] ∧ Q (.int (if j < i then j else i)) H) .strong dMin2 := fun c own A σ ρ H vs ds R Q hk E r1 g q => by
  obtain ⟨x, y, rfl, g⟩ := dTwo_iff g
  obtain ⟨v, w, rfl, r, s⟩ := paired2 r1
  obtain ⟨i, rfl, g⟩ := dInt_iff g
  obtain ⟨j, rfl, g⟩ := dInt_iff g
  have e := RepW.int r
  have e2 := RepW.int s
  subst e; subst e2
  exact ⟨i, j, rfl, q c _ H _ (Step.refl E.fok) (.int _) g⟩
def dToI (xs : List D) (R : D → Prop) : Prop := dOne xs fun x => match x with
  | .int i => R (.int i)
  | .bl b => R (.int (if b then 1 else 0))
  | _ => False
theorem c_toI {K : PySem.W.Frag} : CL K (fun xs H Q => (∃ i, xs = [.int i] ∧ Q (.int i) H) ∨ ∃ k, xs = [.bl k] ∧ Q (.int (if k then 1 else 0)) H) .strong dToI := fun c own A σ ρ H vs ds R Q hk E r1 g q => by
  obtain ⟨x, rfl, g⟩ := dOne_iff g
  obtain ⟨v, rfl, r⟩ := paired1 r1
  cases x with
  | int i =>
    have e := RepW.int r
    subst e
    exact .inl ⟨i, rfl, q c _ H _ (Step.refl E.fok) (.int _) g⟩
  | bl b =>
    have e := RepW.bl r
    subst e
    exact .inr ⟨b, rfl, q c _ H _ (Step.refl E.fok) (.int _) g⟩
  | _ => exact g.elim
def dTuple (xs : List D) (R : D → Prop) : Prop := dOne xs fun x => match x with
  | .lst ds => R (.tup ds)
  | .tup ds => R (.tup ds)
  | _ => False
theorem c_tuple {K : PySem.W.Frag} : CL K (fun xs H Q => ∃ p ys, xs = [.ref p] ∧ ((SqL K H p ys ∧ ∀ l, H l = none → Q (.ref l) (upd H l (.tup ys))) ∨ (SqT K H p ys ∧ Q (.ref p) H))) .strong dTuple := fun c own A σ ρ H vs ds R Q hk E r1 g q => by
  obtain ⟨x, rfl, g⟩ := dOne_iff g
  obtain ⟨v, rfl, r⟩ := paired1 r1
  cases x with
  | lst es =>
    obtain ⟨a, us, rfl, z1, n1, rl1⟩ := RepW.lst r
    exact ⟨a, us, rfl, .inl ⟨.inl (.inl n1), fun p hp => q c (.ref p) _ _ (.one E.fok hp) (Rep.newT E hp z1 rl1) g⟩⟩
  | tup es =>
    obtain ⟨a, us, rfl, n1, rl1⟩ := RepW.tup r
    have s1 := n1.sq
    rw [hk] at s1
    exact ⟨a, us, rfl, .inr ⟨s1, q c _ H _ (Step.refl E.fok) (n1.rep rl1) g⟩⟩
  | _ => exact g.elim
def dList (xs : List D) (R : D → Prop) : Prop := dOne xs fun x => match x with
  | .lst ds => R (.lst ds)
  | .tup ds => R (.lst ds)
  | _ => False
theorem c_list {K : PySem.W.Frag} : CL K (fun xs H Q => ∃ p ys, xs = [.ref p] ∧ (SqL K H p ys ∨ SqT K H p ys) ∧ ∀ l, H l = none → Q (.ref l) (upd H l (.lst ys))) .fresh dList := fun c own A σ ρ H vs ds R Q hk E r1 g q => by
  obtain ⟨x, rfl, g⟩ := dOne_iff g
  obtain ⟨v, rfl, r⟩ := paired1 r1
  cases x with
  | lst es =>
    obtain ⟨a, us, rfl, z1, n1, rl1⟩ := RepW.lst r
    exact ⟨a, us, rfl, .inl (.inl (.inl n1)), fun p hp => q c (.ref p) _ _ (.one E.fok hp) (Fr.newL E hp z1 rl1) g⟩
  | tup es =>
    obtain ⟨a, us, rfl, n1, rl1⟩ := RepW.tup r
    have s1 := n1.sq
    rw [hk] at s1
    exact ⟨a, us, rfl, .inr s1, fun p hp => q c (.ref p) _ _ (.one E.fok hp) (Fr.newL E hp n1.1 rl1) g⟩
  | _ => exact g.elim

def tyOf : D → String
  | .non => "NoneType" | .bl _ => "bool" | .int _ => "int" | .str _ => "str" | .tup _ => "tuple" | .lst _ => "list" | .dT _ _ => "dict" | .dK _ _ => "dict" | _ => ""
def isTy (n T : String) : Bool := n == T || (n == "bool" && T == "int")
def tyNames : List String := ["NoneType", "bool", "int", "str", "tuple", "list", "dict"]
def dIsi (xs : List D) (R : D → Prop) : Prop := dTwo xs fun x y => match y with
  | .ty T => (tyOf x ∈ tyNames ∧ T ∈ tyNames) ∧ R (.bl (isTy (tyOf x) T))
  | _ => False
theorem kit_all : ∀ n ∈ tyNames, ∀ T ∈ tyNames, kitB n T = some (isTy n T) := by decide +kernel
theorem RepW.tyX {c : Cfg} {own : List Nat} {A : Addr → Prop} {σ : L2.St} {ρ : PEnv} {H : Hp} {v : V} {d : D} (r : RepW c own A σ ρ H v d) (h : tyOf d ∈ tyNames) : TyX c.K H v (.type (tyOf d)) := by
  cases d with
  | non => rw [RepW.non r]; exact .base .non
  | bl b => rw [RepW.bl r]; exact .base (.bl b)
  | int i => rw [RepW.int r]; exact .base (.int i)
  | str z => rw [RepW.str r]; exact .base (.str z)
  | tup ds =>
    obtain ⟨a, us, rfl, n1, rl1⟩ := RepW.tup r
    rcases n1.2 with n | n
    · exact .base (.tup n.2)
    · rcases n with (n | ⟨o, n⟩) | ⟨o, its, m, h1, h2, _⟩
      · cases n
      · cases n
      · exact .kTuple h1 h2
  | lst ds =>
    obtain ⟨a, us, rfl, z1, n1, rl1⟩ := RepW.lst r
    exact .base (.lst n1)
  | dT ks ds =>
    obtain ⟨a, us, rfl, z1, n1, rl1⟩ := RepW.dT r
    exact .base (.dT n1)
  | dK ks ds =>
    obtain ⟨a, us, rfl, z1, n1, rl1⟩ := RepW.dK r
    exact .base (.dK n1)
  | ty n => exact absurd h (by simp [tyOf]; decide)
  | ref a => exact absurd h (by simp [tyOf]; decide)
  | deal => exact absurd h (by simp [tyOf]; decide)
  | feed => exact absurd h (by simp [tyOf]; decide)
  | scr a => exact absurd h (by simp [tyOf]; decide)
theorem c_isi {K : PySem.W.Frag} : CL K (rIsi K) .strong dIsi := fun c own A σ ρ H vs ds R Q hk E r1 g q => by
  obtain ⟨x, y, rfl, g⟩ := dTwo_iff g
  obtain ⟨v, w, rfl, r, s⟩ := paired2 r1
  cases y with
  | ty T =>
    obtain ⟨⟨h1, h2⟩, g⟩ := g
    have e := RepW.ty s
    subst e
    have tx := r.tyX h1
    rw [hk] at tx
    exact ⟨v, _, _, _, _, rfl, .ty T, tx, kit_ty (kit_all _ h1 _ h2), q c _ H _ (Step.refl E.fok) (.bl _) g⟩
  | _ => exact g.elim
theorem e_ty {X : Cx} {own : List Nat} {x : Str} {n : String} {pos : Pos} (hm : X.mg x = none) (hg : Gl X x := by rfl) (hv : bootBuiltins x = some (.type n) := by decide +kernel) (hn : x ≠ "__name__" := by decide) (hd : (x == ("__debug__" : Str)) = false := by decide) : PE X (.Name x pos) (lift X.K own .strong (pC (.ty n))) :=
  pe_imp (pe_bltn hg hm hv (v := .ty n) rfl hn hd) (lift_pC _ fun _ _ _ => .ty n)
end DL

set_option Elab.async false
set_option linter.all false
set_option maxRecDepth 100000
set_option maxHeartbeats 2000000
namespace RT
open PySem PySem.Spec PyProof.Rows
section
variable {prog : Program} {w : World} {A : Around} {E : Value → Shared → Prop} {s : Shared}
theorem dl_extend_rev {R : Result → Shared → Prop} {it l S : Addr} {items : Array Value} {c0 : Nat} (hh : A.handled = none) (hit : s.heap.IsRevIter it l ((items.size : Int) - 1)) (hl : s.heap.IsList l items) (hne : l ≠ it) (hn : items.size ≤ sizeLine) (hSi : S ≠ it) (hSl : S ≠ l)
    (res : Value) (hS : s.heap.get? S = some { cls := .type "list", data := .seq #[] c0 })
    (hR : ∀ h' tk acc' c', (∀ b o, b ≠ S → b ≠ it → s.heap.get? b = some o → h'.get? b = some o) → h'.get? S = some { cls := .type "list", dict := none, data := .seq acc' c', slots := #[] } →
      ItemsOf (fun i v => items[items.size - 1 - i]? = some v) acc' items.size → R (.ok (.ret res)) { s with heap := h', toks := tk }) :
    wpAny (model prog w) A.in1 (Builtin.List.listExtendWith (.ref S) (.ref it) res)
      (fun fin s' => match fin with | .done f => R (.ok f) s' | .again c' => c'.quiet = true ∧ codeAny (model prog w) A c' R s') (fun e s' => R (.error e) s') s := by
  have W := (Walks.listRev (prog := prog) (w := w) (A := A.in1) hh it l hne items).toS
  have hSf : S ∉ [it, l] := by simp only [List.mem_cons, List.not_mem_nil, or_false, not_or]; exact ⟨hSi, hSl⟩
  have hT : s.TypeIs (.ref it) "list_reverseiterator" := Heap.IsRevIter.typeIs hit
  have h1 : Builtin.List.listSameRef (.ref S) (.ref it) = false := by simp [Builtin.List.listSameRef, hSi]
  unfold Builtin.List.listExtendWith
  refine wpAny_bind (wpAny_typeOf hT ?_)
  rw [if_neg (by rw [h1]; decide)]
  refine wpAny_bind (wpAny_pyIter_revIter hit ?_)
  refine wpAny_bind (wpAny_holding ?_)
  unfold Builtin.List.listLengthHint
  refine wpAny_bind (wpAny_specialOf hT nolen_lri ?_)
  show wpAny _ A.in1 (specialOf (Value.ref it) (Str.ofString "__length_hint__") >>= _) _ _ _
  refine wpAny_bind (wpAny_specialOf hT hint_lri ?_)
  generalize hid : ("list_reverseiterator.__length_hint__" : String) = id0
  wp_delta
  rw [show splitId id0 = some ("list_reverseiterator", "__length_hint__") from by subst hid; decide +kernel]
  subst hid
  refine wpAny_bind (wpAny_isInstance (b := true) hT (by rw [isSubtype_type]; kernel_rfl) ?_)
  refine wpAny_pure ?_
  rw [if_neg (by decide)]
  have e0 : ((items.size : Nat) : Int) - 1 - ((0 : Nat) : Int) = (items.size : Int) - 1 := by omega
  refine wpAny_pure ⟨plainId_quiet F.plain_extend_loop _, codeAny_extend_loopS W hn _ hSf _ items.size 0 _ _ _ rfl (Nat.zero_le _) ⟨Nat.zero_le _, by rw [e0]; exact hit, hl⟩ hS (ItemsOf.nil _) fun s' acc' c' hm hS' hacc => ?_⟩
  rw [Moved.eq_with hm]
  refine hR s'.heap s'.toks acc' c' (fun b o hb hb2 e => hm.heap b o (fun hmem => ?_) e) hS' hacc
  rcases List.mem_cons.mp hmem with e' | hmem
  · exact hb e'
  · exact hb2 (List.mem_singleton.mp hmem)
theorem dl_list_rev {it l : Addr} {items : Array Value} {Q : Value → Shared → Prop} (hh : A.handled = none) (hit : s.heap.IsRevIter it l ((items.size : Int) - 1)) (hl : s.heap.IsList l items) (hne : l ≠ it) (hn : items.size ≤ sizeLine)
    (hQ : ∀ (h' : Heap) (tk : Nat) (acc : Array Value) (n : Nat), (∀ b o, b ≠ it → s.heap.get? b = some o → h'.get? b = some o) → h'.get? s.heap.objs.size = some { cls := .type "list", data := .seq acc n } → ItemsOf (fun i v => items[items.size - 1 - i]? = some v) acc items.size →
      Q (.ref s.heap.objs.size) { s with heap := h', toks := tk }) :
    wpAny (model prog w) A (call (.type "list") [.ref it]) Q E s := by
  obtain ⟨oi, hoi, _⟩ := id hit
  obtain ⟨ol, hol, _⟩ := id hl
  have hSi : s.heap.objs.size ≠ it := Nat.ne_of_gt (Heap.lt_size hoi)
  have hSl : s.heap.objs.size ≠ l := Nat.ne_of_gt (Heap.lt_size hol)
  refine callType_codes (Q₁ := fun obj s₁ => obj = .ref s.heap.objs.size ∧ s₁ = { s with heap := s.heap.push { cls := .type "list", data := .seq #[] } }) F.called_list (F.typeCall_list_1 _) F.entry_list_init
    (code_list_new _ ⟨rfl, rfl⟩) fun obj s₁ h₁ => ?_
  obtain ⟨rfl, rfl⟩ := h₁
  have hS : (s.heap.push { cls := .type "list", data := .seq #[] }).get? s.heap.objs.size = some { cls := .type "list", data := .seq #[] } := Heap.get?_push_size _ rfl
  refine ⟨⟨_, hS, rfl⟩, F.args_list_init_2 _ _, ?_⟩
  show wpAny _ _ (do let old ← Builtin.List.listItems (.ref s.heap.objs.size); Builtin.List.listUpdate (.ref s.heap.objs.size) (fun _ => #[]); letGo old.toList.reverse; Builtin.List.listExtendWith (.ref s.heap.objs.size) (.ref it) .none) _ _ _
  refine wpAny_bind ?_
  unfold Builtin.List.listItems
  refine wpAny_bind (wpAny_seqItems hS rfl (wpAny_pure ?_))
  show wpAny _ _ (updateSeq s.heap.objs.size (fun _ => #[]) >>= fun _ => letGo (#[] : Array Value).toList.reverse >>= fun _ => Builtin.List.listExtendWith (.ref s.heap.objs.size) (.ref it) .none) _ _ _
  refine wpAny_bind (wpAny_updateSeq hS rfl ?_)
  have hS₂ := Heap.get?_update_self (Obj.mapSeq (fun _ => (#[] : Array Value))) hS rfl
  have oth : ∀ b o, b ≠ s.heap.objs.size → s.heap.get? b = some o → ((s.heap.push { cls := .type "list", data := .seq #[] }).update s.heap.objs.size (Obj.mapSeq (fun _ => (#[] : Array Value)))).get? b = some o :=
    fun b o hb e => (Heap.get?_update_other _ _ (Ne.symm hb)).trans (Heap.get?_push_of_some _ e)
  refine wpAny_bind (wpAny_letGo ?_)
  refine dl_extend_rev (A := A.in1) (s := { s with heap := (s.heap.push { cls := .type "list", data := .seq #[] }).update s.heap.objs.size (Obj.mapSeq (fun _ => (#[] : Array Value))) }) hh (hit.at fun o e => oth _ o (Ne.symm hSi) e) (by
    obtain ⟨o, h1, h2⟩ := hl
    exact ⟨o, oth _ o (Ne.symm hSl) h1, h2⟩) hne hn hSi hSl .none hS₂ fun h' tk acc' c' hk hS' hacc => ?_
  exact ⟨rfl, hQ h' tk acc' c' (fun b o hb e => hk b o (Nat.ne_of_lt (Heap.lt_size e)) hb (oth b o (Nat.ne_of_lt (Heap.lt_size e)) e)) hS' hacc⟩
end
end RT
namespace DL
open PySem PySem.Spec PyProof.Rows L2 RT
section
variable {X : Cx} {own : List Nat}
def tLstRev (K : PySem.W.Frag) (te : TE) : TE := fun σ H Q => te σ H fun v H1 => ∃ (a : Addr) (xs : List V), v = .ref a ∧ SqL K H1 a xs ∧ ∀ q, H1 q = none → Q (.ref q) (upd H1 q (.lst xs.reverse))
theorem pe_lstRev {e : Expr} {te : TE} {p p2 pos pos2 : Pos} (hc : X.calm = true) (hg : Gl X "list") (hm : X.mg "list" = none) (hg2 : Gl X "reversed") (hm2 : X.mg "reversed" = none) (he : PE X e te)
    (hs : starEach [e] X.env = (false, eval e X.env) :: starEach [] X.env := by rfl)
    (hs2 : starEach [.Call (.Name "reversed" p2) [e] [] pos2] X.env = (false, eval (.Call (.Name "reversed" p2) [e] [] pos2) X.env) :: starEach [] X.env := by rfl) :
    PE X (.Call (.Name "list" p) [.Call (.Name "reversed" p2) [e] [] pos2] [] pos) (tLstRev X.K te) := by
  refine ⟨fun pins s σ H Q I h => ?_⟩
  refine Call_ (ld_blt I hg hm boot_list (PyProof.Rows.callWith_type1 (args_cons (Call_ (ld_blt I hg2 hm2 PyProof.Rows.boot_reversed (PyProof.Rows.callWith_type1 (args_cons (thn (he.run pins s σ H _ I h) fun u s1 ⟨v, H1, I1, r1, q1⟩ => args_nil ?_) hs) hs rfl))) hs2) hs2 rfl))
  obtain ⟨a, xs, ev, hq, q⟩ := q1
  subst ev
  obtain rfl : u = Value.ref a := r1
  obtain ⟨its, rv, p', hz⟩ := I1.list hq
  refine call_reversed_list p'.isList (args_nil ?_)
  have k0 : ∀ b o, s1.heap.get? b = some o → (s1.heap.push (revObj a ((its.toArray.size : Int) - 1))).get? b = some o := fun b o e => Heap.get?_push_of_some _ e
  have I2 : Inv X pins σ H1 { s1 with heap := s1.heap.push (revObj a ((its.toArray.size : Int) - 1)) } := I1.kept (t' := s1.toks) k0
  obtain ⟨f0, f1, f2, f3, f4, f5⟩ := I1.fpOk (H' := H1) (b := s1.heap.objs.size) (Nat.le_refl _) (I1.hok.fresh (Nat.le_refl _))
  have hl := p'.isList
  obtain ⟨ol, hol, _⟩ := id hl
  have hne : a ≠ s1.heap.objs.size := Nat.ne_of_lt (Heap.lt_size hol)
  have hn : its.toArray.size ≤ sizeLine := by rw [List.size_toArray, ← rv.length]; exact hz
  refine dl_list_rev (s := { s1 with heap := s1.heap.push (revObj a ((its.toArray.size : Int) - 1)) }) (I1.ok.hd hc) ⟨_, Heap.get?_push_size _ rfl, rfl, rfl⟩ (hl.push _) hne hn fun h' tk acc n hk hS hi => ?_
  have szS : ({ s1 with heap := s1.heap.push (revObj a ((its.toArray.size : Int) - 1)) } : Shared).heap.objs.size = s1.heap.objs.size + 1 := Heap.size_push ..
  have fp : FpOk X pins H1 s1.heap.objs.size := I1.fpOk (Nat.le_refl _) (I1.hok.fresh (Nat.le_refl _))
  have hfr : H1 (s1.heap.objs.size + 1) = none := I1.hok.fresh (Nat.le_succ _)
  have I3 : Inv X pins σ (upd H1 (s1.heap.objs.size + 1) (.lst xs.reverse)) { s1 with heap := h', toks := tk } := I2.turnedNew (t' := tk) (ch := [s1.heap.objs.size]) (T := s1.heap.objs.size + 1) (ob := .lst xs.reverse) (h' := h')
    (fun b o hb e => hk b o (by simpa using hb) e) (fun b hb => by
      have e : b = s1.heap.objs.size := by simpa using hb
      subst e
      exact fp) (Nat.le_of_eq szS) (show ObjOk X.prog X.w _ _ _ (.lst xs.reverse) from ⟨by rw [List.length_reverse]; exact hz, acc.toList, n, vals_rev rv hi, by rw [← szS]; simpa using hS⟩)
  rw [szS]
  exact ⟨.ref (s1.heap.objs.size + 1), _, I3, rfl, q _ hfr⟩
def dRev (x : D) (R : D → Prop) : Prop := match x with | .lst ds => R (.lst ds.reverse) | _ => False
theorem lift_lstRev (K : PySem.W.Frag) {p : TED} : ∀ σ H Q, lift K own .fresh (p1 dRev p) σ H Q → tLstRev K (lift K own .weak p) σ H Q := fun σ H Q ⟨c, A, ρ, R, hk, E, hp, f⟩ => ⟨c, A, ρ, _, hk, E, hp, fun c1 v H1 d t1 r1 g1 => by
  cases d with
  | lst ds =>
    obtain ⟨a, vs, rfl, z1, n1, rl1⟩ := RepW.lst r1
    exact ⟨a, vs, rfl, .inl (.inl n1), fun p hp => f c1 (.ref p) _ _ (t1.more hp) (Fr.back t1 (Fr.newL (E.step t1) hp (by rw [List.length_reverse]; exact z1) rl1.rev)) g1⟩
  | _ => exact g1.elim⟩
theorem e_lstRev {e : Expr} {p : TED} {pn p2 pos pos2 : Pos} (hc : X.calm = true) (hm : X.mg "list" = none) (hm2 : X.mg "reversed" = none) (he : PE X e (lift X.K own .weak p)) (hg : Gl X "list" := by rfl) (hg2 : Gl X "reversed" := by rfl)
    (hs : starEach [e] X.env = (false, eval e X.env) :: starEach [] X.env := by rfl)
    (hs2 : starEach [.Call (.Name "reversed" p2) [e] [] pos2] X.env = (false, eval (.Call (.Name "reversed" p2) [e] [] pos2) X.env) :: starEach [] X.env := by rfl) :
    PE X (.Call (.Name "list" pn) [.Call (.Name "reversed" p2) [e] [] pos2] [] pos) (lift X.K own .fresh (p1 dRev p)) := pe_imp (pe_lstRev hc hg hm hg2 hm2 he hs hs2) (lift_lstRev _)

def TOD := PEnv → (Option Int → Prop) → Prop
def liftO (K : PySem.W.Frag) (own : List Nat) (p : TOD) : TO := fun σ H Q => ∃ c A ρ R, c.K = K ∧ EnvR c own A σ ρ H ∧ p ρ R ∧ ∀ c' H' o, Step c H c' H' → R o → Q o H'
def oNone : TOD := fun _ R => R none
def oSome (p : TED) : TOD := fun ρ R => p ρ fun x => dInt x fun i => R (some i)
theorem po_imp {e : Option Expr} {t t' : TO} (h : PO X e t) (m : ∀ σ H Q, t' σ H Q → t σ H Q) : PO X e t' := ⟨fun pins s σ H Q I q => h.run pins s σ H Q I (m σ H Q q)⟩
theorem o_none : PO X none (liftO X.K own oNone) := po_imp po_none fun σ H Q ⟨c, A, ρ, R, hk, E, hp, f⟩ => f c H none (Step.refl E.fok) hp
theorem o_some {e : Expr} {p : TED} (h : PE X e (lift X.K own .weak p)) : PO X (some e) (liftO X.K own (oSome p)) := po_imp (po_some h) fun σ H Q ⟨c, A, ρ, R, hk, E, hp, f⟩ => ⟨c, A, ρ, _, hk, E, hp, fun c1 v H1 d t1 r1 g1 => by
  obtain ⟨i, rfl, g⟩ := dInt_iff g1
  exact ⟨i, RepW.int r1, f c1 H1 _ t1 g⟩⟩
def cutD (ds : List D) (lo hi : Option Int) : List D := (ds.drop (HT.sIx ds.length 0 lo)).take (HT.sIx ds.length ds.length hi - HT.sIx ds.length 0 lo)
def dSl (x : D) (lo hi : Option Int) (R : D → Prop) : Prop := match x with
  | .lst ds => R (.lst (cutD ds lo hi))
  | .tup ds => R (.tup (cutD ds lo hi))
  | .scr ns => R (.lst (cutD (ns.map D.int) lo hi))
  | .str z => z.length ≤ sizeLine ∧ R (.str (cutS z lo hi))
  | _ => False
def dSlL (x : D) (lo hi : Option Int) (R : D → Prop) : Prop := match x with
  | .lst ds => R (.lst (cutD ds lo hi))
  | .scr ns => R (.lst (cutD (ns.map D.int) lo hi))
  | _ => False
def pSl (r : D → Option Int → Option Int → (D → Prop) → Prop) (p : TED) (lo hi : TOD) : TED := fun ρ R => p ρ fun x => lo ρ fun l => hi ρ fun u => r x l u R
theorem RepL.cut {c : Cfg} {Av : Addr → Prop} {H : Hp} {vs : List V} {ds : List D} (r : RepL c Av H vs ds) (lo hi : Option Int) : RepL c Av H (cutV vs lo hi) (cutD ds lo hi) := by
  unfold cutV cutD
  rw [r.len]
  exact (r.drop _).take _
def rSlAll (K : PySem.W.Frag) : V → Option Int → Option Int → Hp → VK → Prop := fun x lo hi H Q => rSlL K x lo hi H Q ∨ (rSlA K x lo hi H Q ∨ rSlS x lo hi H Q)
theorem o_sl : SlR X (rSlAll X.K) := sl_list.or (sl_tupA.or sl_str)
theorem lift_sl {r : V → Option Int → Option Int → Hp → VK → Prop} {r' : D → Option Int → Option Int → (D → Prop) → Prop} {ko : Kd} (K : PySem.W.Frag)
    (hr : ∀ c A σ ρ H v d lo hi R (Q : VK), c.K = K → EnvR c own A σ ρ H → RepW c own A σ ρ H v d → r' d lo hi R → (∀ c' v' H' d', Step c H c' H' → Res c' own A σ ρ ko H H' v' d' → R d' → Q v' H') → r v lo hi H Q) {p : TED} {lo hi : TOD} :
    ∀ σ H Q, lift K own ko (pSl r' p lo hi) σ H Q → tSl r (lift K own .weak p) (liftO K own lo) (liftO K own hi) σ H Q :=
  fun σ H Q ⟨c, A, ρ, R, hk, E, hp, f⟩ => ⟨c, A, ρ, _, hk, E, hp, fun c1 v1 H1 d1 t1 r1 g1 => ⟨c1, A, ρ, _, t1.kk.trans hk, E.step t1, g1, fun c2 H2 l t2 g2 => ⟨c2, A, ρ, _, t2.kk.trans (t1.kk.trans hk), (E.step t1).step t2, g2, fun c3 H3 u t3 g3 =>
    hr c3 A σ ρ H3 v1 d1 l u R Q (t3.kk.trans (t2.kk.trans (t1.kk.trans hk))) (((E.step t1).step t2).step t3) (RepW.step ((E.step t1).step t2) t3 (RepW.step (E.step t1) t2 r1)) g3 fun c4 v4 H4 d4 t4 r4 g4 => f c4 v4 H4 d4 (((t1.trans t2).trans t3).trans t4) (Res.back ((t1.trans t2).trans t3) r4) g4⟩⟩⟩
theorem c_slL (K : PySem.W.Frag) : ∀ c A σ ρ H v d lo hi R (Q : VK), c.K = K → EnvR c own A σ ρ H → RepW c own A σ ρ H v d → dSlL d lo hi R → (∀ c' v' H' d', Step c H c' H' → Res c' own A σ ρ .fresh H H' v' d' → R d' → Q v' H') → rSlL K v lo hi H Q := fun c A σ ρ H v d lo hi R Q hk E r g q => by
  cases d with
  | lst ds =>
    obtain ⟨a, vs, rfl, z1, n1, rl1⟩ := RepW.lst r
    exact ⟨a, vs, rfl, .inl (.inl n1), fun p hp => q c (.ref p) _ _ (.one E.fok hp) (Fr.newL E hp (Nat.le_trans (cutV_length _ _ _) z1) (rl1.cut lo hi)) g⟩
  | scr ns =>
    obtain ⟨a, rfl, hn, s⟩ := RepW.scr r
    rw [hk] at s
    refine ⟨a, _, rfl, s, fun p hp => q c (.ref p) _ _ (.one E.fok hp) (Fr.newL E hp (Nat.le_trans (cutV_length _ _ _) (by rw [List.length_map]; exact sz_small (by omega))) ((RepL.ofInts ns).cut lo hi)) g⟩
  | _ => exact g.elim
theorem c_sl (K : PySem.W.Frag) : ∀ c A σ ρ H v d lo hi R (Q : VK), c.K = K → EnvR c own A σ ρ H → RepW c own A σ ρ H v d → dSl d lo hi R → (∀ c' v' H' d', Step c H c' H' → Res c' own A σ ρ .strong H H' v' d' → R d' → Q v' H') → rSlAll K v lo hi H Q := fun c A σ ρ H v d lo hi R Q hk E r g q => by
  cases d with
  | lst ds => exact .inl (c_slL K c A σ ρ H v _ lo hi R Q hk E r g fun c' v' H' d' t r => q c' v' H' d' t (Fr.strong t E r))
  | scr ns => exact .inl (c_slL K c A σ ρ H v _ lo hi R Q hk E r g fun c' v' H' d' t r => q c' v' H' d' t (Fr.strong t E r))
  | tup ds =>
    obtain ⟨a, vs, rfl, n1, rl1⟩ := RepW.tup r
    have s1 := n1.sq
    rw [hk] at s1
    refine .inr (.inl ⟨a, vs, rfl, s1, fun hw => ?_, fun _ p hp => ?_⟩)
    · have e : cutD ds lo hi = ds := by
        unfold cutD
        rw [← rl1.len, hw.1, hw.2, List.drop_zero, Nat.sub_zero, rl1.len, List.take_length]
      have g' : R (.tup (cutD ds lo hi)) := g
      rw [e] at g'
      exact q c _ H _ (Step.refl E.fok) (n1.rep rl1) g'
    · exact q c (.ref p) _ _ (.one E.fok hp) (Rep.newT E hp (Nat.le_trans (cutV_length _ _ _) n1.1) (rl1.cut lo hi)) g
  | str z =>
    have e := RepW.str r
    subst e
    exact .inr (.inr ⟨z, rfl, g.1, q c _ H _ (Step.refl E.fok) (.str _) g.2⟩)
  | _ => exact g.elim
theorem e_sl {e : Expr} {lo hi : Option Expr} {p : TED} {pl ph : TOD} {pos p2 : Pos} (he : PE X e (lift X.K own .weak p)) (hl : PO X lo (liftO X.K own pl)) (hh : PO X hi (liftO X.K own ph)) : PE X (.Subscript e (.Slice lo hi none p2) pos) (lift X.K own .strong (pSl dSl p pl ph)) := pe_imp (pe_slice o_sl he hl hh) (lift_sl _ (c_sl _))
theorem e_slL {e : Expr} {lo hi : Option Expr} {p : TED} {pl ph : TOD} {pos p2 : Pos} (he : PE X e (lift X.K own .weak p)) (hl : PO X lo (liftO X.K own pl)) (hh : PO X hi (liftO X.K own ph)) : PE X (.Subscript e (.Slice lo hi none p2) pos) (lift X.K own .fresh (pSl dSlL p pl ph)) := pe_imp (pe_slice sl_list he hl hh) (lift_sl _ (c_slL _))
end
end DL

set_option Elab.async false
set_option linter.all false
set_option maxRecDepth 100000
set_option maxHeartbeats 4000000
namespace DL
open PySem PySem.Spec PyProof.Rows L2

def kS : Key := Sum.inr "seed"
def kN : Key := Sum.inr "number"
def kL : Key := Sum.inr "left"
theorem k_sn : ¬ kS = kN := by decide +kernel
theorem k_sl : ¬ kS = kL := by decide +kernel
theorem k_nl : ¬ kN = kL := by decide +kernel
def feedKV (s n : Int) (l : Addr) : List (Key × V) := [(kS, .int s), (kN, .int n), (kL, .ref l)]
theorem fk_s (s n : Int) (l : Addr) : valV (feedKV s n l) kS = some (.int s) := by unfold feedKV; rw [valV_pos rfl]
theorem fk_n (s n : Int) (l : Addr) : valV (feedKV s n l) kN = some (.int n) := by unfold feedKV; rw [valV_neg k_sn, valV_pos rfl]
theorem fk_l (s n : Int) (l : Addr) : valV (feedKV s n l) kL = some (.ref l) := by unfold feedKV; rw [valV_neg k_sl, valV_neg k_nl, valV_pos rfl]
theorem fp_n (s n m : Int) (l : Addr) : putK (feedKV s n l) kN (.int m) = feedKV s m l := by
  unfold putK feedKV
  have h2 : ¬ kL = kN := fun z => k_nl z.symm
  simp [k_sn, h2]
theorem fp_s (s n m : Int) (l : Addr) : putK (feedKV s n l) kS (.int m) = feedKV m n l := by
  unfold putK feedKV
  have h1 : ¬ kN = kS := fun z => k_sn z.symm
  have h2 : ¬ kL = kS := fun z => k_sl z.symm
  simp [h1, h2]
theorem fm (s n : Int) (l : Addr) : mergeK [] (feedKV s n l) = feedKV s n l := by
  unfold mergeK feedKV
  simp only [List.foldl_cons, List.foldl_nil]
  unfold putK
  simp [k_sn, k_sl, k_nl]
theorem fk_len (s n : Int) (l : Addr) : (feedKV s n l).length < sizeLine := small1000 (show 3 ≤ 1000 by decide)

def wDraw (ds : List D) (R : D → Prop) : Prop := dTwo ds fun x y => match x with
  | .deal => dInt y fun m => (0 < m ∧ m.natAbs.log2 < 9000) ∧ ∀ r, 0 ≤ r → r < m → R (.int r)
  | _ => False
def gN0 : TE := tDGet (tVar 0) (tC (.str "number"))
def gL0 : TE := tDGet (tVar 0) (tC (.str "left"))
def gS0 : TE := tDGet (tVar 0) (tC (.str "seed"))
def rGt0 : R2 := rI0 fun i j => .bl (decide (j < i))
def rAdd0 : R2 := rI0 fun i j => .int (i + j)
def rMulW0 : R2 := rI CMulW fun i j => .int (i * j)
def rModN0 : R2 := rI (fun _ j => j ≠ 0) fun i j => .int (i.fmod j)
def rDivA0 : R2 := rI CDivA fun i j => .int (i.fdiv j)
def tI (i : Int) : TE := tC (.int i)
def tDrawA (K : PySem.W.Frag) : TS :=
  tSeq (tWhile (tAnd (tTest (tOp rEq gN0 (tI 0))) (tTest (tOp rGt0 (tCB (rLenA K) (tCons gL0 tNil)) (tI 0)))) (sDPut (tVar 0) (tC (.str "number")) (tBM0 K "list" rPop gL0)))
  (tSeq (tAsg gN0 (gName 2))
  (tSeq (tIfS (tTest (tOp rGt0 (tVar 2) (tI 0))) (tSeq (sDPut (tVar 0) (tC (.str "number")) (tOp rDivA0 (tVar 2) (tVar 1))) (tRet (tOp rModN0 (tVar 2) (tVar 1)))) tNext)
  (tSeq (tAsg (tOp rModN0 (tOp rAdd0 (tOp rMulW0 gS0 (tI 48271)) (tI 7919)) (tI 2147483647)) (gName 3))
  (tSeq (sDPut (tVar 0) (tC (.str "seed")) (tOp rModN0 (tOp rAdd0 (tOp rMulW0 (tVar 3) (tI 40692)) (tI 104729)) (tI 2147483399)))
  (tSeq (tAsg (tOp rModN0 (tOp rMulW0 gS0 gS0) (tI 2147483563)) (gName 4))
  (tRet (tOp rModN0 (tOp rAdd0 (tOp rMulW0 (tOp rModN0 (tOp rMulW0 (tVar 3) (tVar 3)) (tI 2147483629)) (tI 2147483563)) (tVar 4)) (tVar 1))))))))
theorem mul_ok {i j : Int} {a b : Nat} (ha : i.natAbs < 2 ^ a) (hb : j.natAbs < 2 ^ b) (h0 : 0 < a := by decide) (h1 : 0 < b := by decide) (h : a + b ≤ 1000000 := by decide) : CMulW i j := wide_mul ha hb h0 h1 h
theorem fmod_rng (i : Int) {j : Int} (h : 0 < j) : 0 ≤ i.fmod j ∧ i.fmod j < j := by
  rw [Int.fmod_eq_emod_of_nonneg i (Int.le_of_lt h)]
  exact ⟨Int.emod_nonneg i (by omega), Int.emod_lt_of_pos i h⟩
theorem fdiv_nn {i j : Int} (hi : 0 ≤ i) (h : 0 < j) : 0 ≤ i.fdiv j := by
  rw [Int.fdiv_eq_ediv_of_nonneg i (Int.le_of_lt h)]
  exact Int.ediv_nonneg hi (Int.le_of_lt h)
theorem feed_step {c0 c : Cfg} {H0 H H' : Hp} {a l : Addr} (t : Step c0 H0 c H) (f : c.fd a l) (oth : ∀ b, b ≠ a → b ≠ l → H' b = H b) (ok : FeedOk H' a l) : Step c0 H0 c H' := by
  refine ⟨t.kk, t.sub, t.new, fun b o hs e => ?_, ⟨fun a' l' f' => ?_, t.fok.apart⟩⟩
  · have hs' := t.notS e hs
    rw [oth b (fun z => hs' ⟨a, l, f, .inl z⟩) (fun z => hs' ⟨a, l, f, .inr z⟩)]
    exact t.keep b o hs e
  · rcases t.fok.apart a l a' l' f f' with ⟨e1, e2⟩ | ⟨h1, h2, h3, h4⟩
    · subst e1; subst e2; exact ok
    · exact (t.fok.ok a' l' f').same (oth a' (Ne.symm h1) (Ne.symm h3)) (oth l' (Ne.symm h2) (Ne.symm h4))
theorem draw_read {K : PySem.W.Frag} {vs : List V} {H : Hp} {Q : VK} {E : XK} {N : List Str} (hN : N.length = 5) (h : spD K 2 .strong wDraw vs H Q E) : tDrawA K { nx := fun _ H' => Q .non H', rt := Q } (L2.start N vs) H := by
  obtain ⟨hl, c, A, ds, R, hk, fo, hAl, r, hw, q⟩ := h
  obtain ⟨x, y, rfl, hw⟩ := dTwo_iff hw
  cases x with
  | deal =>
    obtain ⟨m, rfl, ⟨hm, hm2⟩, hw⟩ := dInt_iff hw
    cases r with
    | cons r1 r2 =>
      cases r2 with
      | cons r2 r3 =>
        cases r3
        cases r1 with
        | deal nal0 f =>
          rename_i a l
          cases r2
          have st0 : L2.start N [V.ref a, V.int m] = [some (.ref a), some (.int m), none, none, none] := by
            unfold L2.start
            rw [hN]
            rfl
          rw [st0]
          have fa0 : FeedA H a l := (fo.ok a l f).resolve_right fun z => nal0 z.1
          -- what is told at the end
          have fin : ∀ (H' : Hp) (z : Int), (∃ (s n : Int) (ns : List Int), H' a = some (.dK (feedKV s n l)) ∧ H' l = some (.lst (ns.map V.int)) ∧ 0 ≤ s ∧ s < 2147483648 ∧ 0 ≤ n ∧ (∀ x ∈ ns, 0 < x) ∧ ns.length ≤ 63) → (∀ b, b ≠ a → b ≠ l → H' b = H b) → 0 ≤ z → z < m → Q (.int z) H' := fun H' z ⟨s, n, ns, h1, h2, h3⟩ oth z0 z1 => by
            exact q c (.int z) H' (.int z) (feed_step (Step.refl fo) f oth (.inl ⟨fa0.1, s, n, ns, h1, h2, h3⟩)) (.int z) (hw z z0 z1)
          have nal : a ≠ l := fa0.1
          obtain ⟨s0, n0, ns0, ha0, hl0, b1, b2, b3, b4, b5⟩ := fa0.2
          have dg : ∀ {H' : Hp} {s n : Int}, H' a = some (.dK (feedKV s n l)) → DGet H' a (.str "number") (some (.int n)) ∧ DGet H' a (.str "left") (some (.ref l)) ∧ DGet H' a (.str "seed") (some (.int s)) := fun {H' s n} e => by
            have g1 := DGet.k (k := kN) e
            have g2 := DGet.k (k := kL) e
            have g3 := DGet.k (k := kS) e
            rw [fk_n] at g1
            rw [fk_l] at g2
            rw [fk_s] at g3
            exact ⟨g1, g2, g3⟩
          have dpn : ∀ {H' : Hp} {s n : Int} (z : Int), H' a = some (.dK (feedKV s n l)) → DPut H' a (.str "number") (.int z) (upd H' a (.dK (feedKV s z l))) := fun {H' s n} z e => by
            have g := DPut.k (k := kN) (v := .int z) e (fk_len s n l)
            rw [fp_n] at g
            exact g
          have dps : ∀ {H' : Hp} {s n : Int} (z : Int), H' a = some (.dK (feedKV s n l)) → DPut H' a (.str "seed") (.int z) (upd H' a (.dK (feedKV z n l))) := fun {H' s n} z e => by
            have g := DPut.k (k := kS) (v := .int z) e (fk_len s n l)
            rw [fp_s] at g
            exact g
          -- the rest of the def, the number known
          let W : Nat → L2.St → Hp → Prop := fun k σ H' => σ = [some (.ref a), some (.int m), none, none, none] ∧ ∃ (s n : Int) (ns : List Int), k = ns.length ∧ H' a = some (.dK (feedKV s n l)) ∧ H' l = some (.lst (ns.map V.int)) ∧ (0 ≤ s ∧ s < 2147483648 ∧ 0 ≤ n ∧ (∀ x ∈ ns, 0 < x) ∧ ns.length ≤ 63) ∧ ∀ b, b ≠ a → b ≠ l → H' b = H b
          refine ⟨W, ⟨ns0.length, rfl, s0, n0, ns0, rfl, ha0, hl0, ⟨b1, b2, b3, b4, b5⟩, fun _ _ _ => rfl⟩, ?_⟩
          have tail : ∀ (s n : Int) (ns : List Int) (H' : Hp), H' a = some (.dK (feedKV s n l)) → H' l = some (.lst (ns.map V.int)) → (0 ≤ s ∧ s < 2147483648 ∧ 0 ≤ n ∧ (∀ x ∈ ns, 0 < x) ∧ ns.length ≤ 63) → (∀ b, b ≠ a → b ≠ l → H' b = H b) →
              (tSeq (tAsg gN0 (gName 2))
                (tSeq (tIfS (tTest (tOp rGt0 (tVar 2) (tI 0))) (tSeq (sDPut (tVar 0) (tC (.str "number")) (tOp rDivA0 (tVar 2) (tVar 1))) (tRet (tOp rModN0 (tVar 2) (tVar 1)))) tNext)
                (tSeq (tAsg (tOp rModN0 (tOp rAdd0 (tOp rMulW0 gS0 (tI 48271)) (tI 7919)) (tI 2147483647)) (gName 3))
                (tSeq (sDPut (tVar 0) (tC (.str "seed")) (tOp rModN0 (tOp rAdd0 (tOp rMulW0 (tVar 3) (tI 40692)) (tI 104729)) (tI 2147483399)))
                (tSeq (tAsg (tOp rModN0 (tOp rMulW0 gS0 gS0) (tI 2147483563)) (gName 4))
                (tRet (tOp rModN0 (tOp rAdd0 (tOp rMulW0 (tOp rModN0 (tOp rMulW0 (tVar 3) (tVar 3)) (tI 2147483629)) (tI 2147483563)) (tVar 4)) (tVar 1)))))))) { nx := fun _ H' => Q .non H', rt := Q } [some (.ref a), some (.int m), none, none, none] H' := by
            intro s n ns H' e1 e2 bd oth
            obtain ⟨g1, g2, g3⟩ := dg e1
            refine ⟨_, rfl, a, _, rfl, g1, ?_⟩
            refine ⟨_, rfl, _, _, rfl, rfl, _, rfl, ?_⟩
            by_cases hn : 0 < n
            · rw [decide_eq_true hn]
              refine iteT ?_
              refine ⟨_, rfl, _, rfl, _, _, rfl, rfl, ⟨by omega, hm2⟩, _, rfl, a, _, rfl, dpn _ e1, ?_⟩
              refine ⟨_, rfl, _, rfl, _, _, rfl, rfl, by omega, ?_⟩
              obtain ⟨r0, r1⟩ := fmod_rng n hm
              refine fin _ _ ⟨s, _, ns, upd_same, by rw [upd_ne (Ne.symm nal)]; exact e2, bd.1, bd.2.1, fdiv_nn bd.2.2.1 hm, bd.2.2.2⟩ (fun b h1 h2 => by rw [upd_ne h1]; exact oth b h1 h2) r0 r1
            · rw [decide_eq_false hn]
              refine iteF ?_
              have q1 : CMulW s 48271 := mul_ok (a := 31) (b := 17) (by omega) (by decide)
              obtain ⟨o0, o1⟩ := fmod_rng (s * 48271 + 7919) (j := 2147483647) (by decide)
              obtain ⟨one, he⟩ : ∃ one, one = (s * 48271 + 7919).fmod 2147483647 := ⟨_, rfl⟩
              rw [← he] at o0 o1
              have q2 : CMulW one 40692 := mul_ok (a := 31) (b := 17) (by omega) (by decide)
              obtain ⟨s0, s1⟩ := fmod_rng (one * 40692 + 104729) (j := 2147483399) (by decide)
              obtain ⟨s', hs'⟩ : ∃ s', s' = (one * 40692 + 104729).fmod 2147483399 := ⟨_, rfl⟩
              rw [← hs'] at s0 s1
              have q3 : CMulW s' s' := mul_ok (a := 31) (b := 31) (by omega) (by omega)
              obtain ⟨p0, p1⟩ := fmod_rng (s' * s') (j := 2147483563) (by decide)
              obtain ⟨oth', ho'⟩ : ∃ z, z = (s' * s').fmod 2147483563 := ⟨_, rfl⟩
              rw [← ho'] at p0 p1
              have q4 : CMulW one one := mul_ok (a := 31) (b := 31) (by omega) (by omega)
              obtain ⟨u0, u1⟩ := fmod_rng (one * one) (j := 2147483629) (by decide)
              obtain ⟨oo, hoo⟩ : ∃ z, z = (one * one).fmod 2147483629 := ⟨_, rfl⟩
              rw [← hoo] at u0 u1
              have q5 : CMulW oo 2147483563 := mul_ok (a := 31) (b := 31) (by omega) (by decide)
              obtain ⟨r0, r1⟩ := fmod_rng (oo * 2147483563 + oth') hm
              obtain ⟨g1', g2', g3'⟩ := dg (H' := upd H' a (.dK (feedKV s' n l))) upd_same
              refine ⟨_, rfl, a, _, rfl, g3, _, _, rfl, rfl, q1, _, _, rfl, rfl, _, _, rfl, rfl, (by show (2147483647 : Int) ≠ 0; decide), ?_⟩
              show (tSeq (sDPut (tVar 0) (tC (.str "seed")) (tOp rModN0 (tOp rAdd0 (tOp rMulW0 (tVar 3) (tI 40692)) (tI 104729)) (tI 2147483399)))
                (tSeq (tAsg (tOp rModN0 (tOp rMulW0 gS0 gS0) (tI 2147483563)) (gName 4))
                (tRet (tOp rModN0 (tOp rAdd0 (tOp rMulW0 (tOp rModN0 (tOp rMulW0 (tVar 3) (tVar 3)) (tI 2147483629)) (tI 2147483563)) (tVar 4)) (tVar 1))))) { nx := fun _ H' => Q .non H', rt := Q } [some (.ref a), some (.int m), some (.int n), some (.int ((s * 48271 + 7919).fmod 2147483647)), none] H'
              rw [← he]
              refine ⟨_, rfl, _, _, rfl, rfl, q2, _, _, rfl, rfl, _, _, rfl, rfl, (by show (2147483399 : Int) ≠ 0; decide), _, rfl, a, _, rfl, dps _ e1, ?_⟩
              rw [← hs']
              refine ⟨_, rfl, a, _, rfl, g3', _, rfl, a, _, rfl, g3', _, _, rfl, rfl, q3, _, _, rfl, rfl, (by show (2147483563 : Int) ≠ 0; decide), ?_⟩
              show (tRet (tOp rModN0 (tOp rAdd0 (tOp rMulW0 (tOp rModN0 (tOp rMulW0 (tVar 3) (tVar 3)) (tI 2147483629)) (tI 2147483563)) (tVar 4)) (tVar 1))) { nx := fun _ H' => Q .non H', rt := Q } [some (.ref a), some (.int m), some (.int n), some (.int one), some (.int ((s' * s').fmod 2147483563))] (upd H' a (.dK (feedKV s' n l)))
              rw [← ho']
              refine ⟨_, rfl, _, rfl, _, _, rfl, rfl, q4, _, _, rfl, rfl, (by show (2147483629 : Int) ≠ 0; decide), ?_⟩
              dsimp only
              rw [← hoo]
              refine ⟨_, _, rfl, rfl, q5, _, rfl, _, _, rfl, rfl, _, rfl, _, _, rfl, rfl, (by show m ≠ 0; omega), ?_⟩
              exact fin _ _ ⟨s', n, ns, upd_same, by rw [upd_ne (Ne.symm nal)]; exact e2, s0, by omega, bd.2.2⟩ (fun b h1 h2 => by rw [upd_ne h1]; exact oth b h1 h2) r0 r1
          rintro k σ H' ⟨rfl, s, n, ns, rfl, e1, e2, bd, oth⟩
          obtain ⟨g1, g2, g3⟩ := dg e1
          -- deal['number'] == 0
          refine ⟨_, rfl, a, _, rfl, g1, rfl, _, rfl, ?_⟩
          by_cases hn : n = 0
          · subst hn
            rw [decide_eq_true rfl]
            refine iteT ?_
            -- len(deal['left']) > 0
            refine ⟨_, rfl, a, _, rfl, g2, .inl ⟨l, _, rfl, .inl (.inl (.inl e2)), _, _, rfl, rfl, _, rfl, ?_⟩⟩
            rw [List.length_map]
            by_cases hz : (0 : Int) < ns.length
            · rw [decide_eq_true hz]
              refine iteT ?_
              have hlt : ns.length - 1 < ns.length := by omega
              refine ⟨fun σ' H2 => ∃ m', m' < ns.length ∧ W m' σ' H2, fun σ' H2 h => h, _, rfl, a, _, rfl, g2, (.inl ⟨rfl, _, .inl (.inl e2)⟩), l, ns.map V.int, .int ns[ns.length - 1], rfl, rfl, e2, ?_, _, rfl, a, _, rfl, dpn _ (by rw [upd_ne nal]; exact e1), ?_⟩
              · rw [List.length_map, List.getElem?_map, List.getElem?_eq_getElem hlt]
                rfl
              · refine ⟨ns.length - 1, by omega, rfl, s, _, ns.dropLast, by rw [List.length_dropLast], upd_same, ?_, ⟨bd.1, bd.2.1, Int.le_of_lt (bd.2.2.2.1 _ (List.getElem_mem hlt)), fun x hx => bd.2.2.2.1 x (List.dropLast_subset _ hx), by rw [List.length_dropLast]; omega⟩, fun b h1 h2 => ?_⟩
                · rw [upd_ne (Ne.symm nal), upd_same, List.map_dropLast]
                · rw [upd_ne h1, upd_ne h2]
                  exact oth b h1 h2
            · rw [decide_eq_false hz]
              refine iteF ?_
              exact tail s 0 ns H' e1 e2 bd oth
          · have ne : ¬ V.int n = V.int 0 := fun z => hn (V.int.inj z)
            rw [decide_eq_false ne]
            refine iteF ?_
            exact tail s n ns H' e1 e2 bd oth
  | _ => exact hw.elim
end DL

set_option Elab.async false
set_option linter.all false
set_option maxRecDepth 100000
set_option maxHeartbeats 4000000
namespace DL
open PySem PySem.Spec PyProof.Rows L2
section
variable {c c0 : Cfg} {H0 H : Hp}
def Cfg.plus (c : Cfg) (a l : Addr) : Cfg := ⟨c.K, fun x y => c.fd x y ∨ (x = a ∧ y = l)⟩
theorem plus_S {a l b : Addr} : (c.plus a l).S b ↔ c.S b ∨ b = a ∨ b = l := by
  constructor
  · rintro ⟨x, y, f | ⟨rfl, rfl⟩, e⟩
    · exact .inl ⟨x, y, f, e⟩
    · exact .inr e
  · rintro (⟨x, y, f, e⟩ | e)
    · exact ⟨x, y, .inl f, e⟩
    · exact ⟨a, l, .inr ⟨rfl, rfl⟩, e⟩
theorem plus_step {a l : Addr} (t : Step c0 H0 c H) (na : ¬ c.S a) (nl : ¬ c.S l) (ha : H0 a = none) (hl : H0 l = none) (ok : FeedOk H a l) : Step c0 H0 (c.plus a l) H := by
  refine ⟨t.kk, fun x y f => .inl (t.sub x y f), fun b h => ?_, t.keep, ⟨fun x y f => ?_, fun x y x' y' f f' => ?_⟩⟩
  · rcases plus_S.mp h with h | h | h
    · exact t.new b h
    · subst h; exact .inr ha
    · subst h; exact .inr hl
  · rcases f with f | ⟨rfl, rfl⟩
    · exact t.fok.ok x y f
    · exact ok
  · rcases f with f | ⟨rfl, rfl⟩ <;> rcases f' with f' | ⟨rfl, rfl⟩
    · exact t.fok.apart x y x' y' f f'
    · exact .inr ⟨fun z => na ⟨x, y, f, .inl z.symm⟩, fun z => nl ⟨x, y, f, .inl z.symm⟩, fun z => na ⟨x, y, f, .inr z.symm⟩, fun z => nl ⟨x, y, f, .inr z.symm⟩⟩
    · exact .inr ⟨fun z => na ⟨x', y', f', .inl z⟩, fun z => na ⟨x', y', f', .inr z⟩, fun z => nl ⟨x', y', f', .inl z⟩, fun z => nl ⟨x', y', f', .inr z⟩⟩
    · exact .inl ⟨rfl, rfl⟩
end
def sRetDeal (p1 p3 : TED) : TSD := fun DD ρ => p1 ρ fun x => dInt x fun s => (0 ≤ s ∧ s < 2147483648) ∧ p3 ρ fun z => match z with
  | .lst ds => ∃ ns : List Int, ds = ns.map D.int ∧ (∀ x ∈ ns, 0 < x) ∧ ns.length ≤ 63 ∧ DD.rt .deal
  | _ => False
theorem lift_retDeal (K : PySem.W.Frag) {own : List Nat} {fr : Bool} {p1 p3 : TED} : ∀ D σ H, liftS K own fr .strong (sRetDeal p1 p3) D σ H →
    tRet (tDisp [(tC (.str "seed"), lift K own .strong p1), (tC (.str "number"), tC (.int 0)), (tC (.str "left"), lift K own .fresh p3)]) D σ H := by
  intro D σ H ⟨c0, H0, A, c, ρ, DD, hk, t, E, F, h, z⟩
  intro p hp
  have E1 := E.more (o := .dK []) hp
  have t1 : Step c H c (upd H p (.dK [])) := .one E.fok hp
  have nS : ¬ c.S p := E.fok.fresh hp
  refine ⟨c, _, ρ, _, hk, E1, h, fun c2 v2 H2 d2 t2 r2 g2 => ?_⟩
  obtain ⟨s, rfl, hs, g2⟩ := dInt_iff g2
  have r2 : Rep c2 _ H2 v2 (.int s) := r2
  cases r2
  have E2 := E1.step t2
  refine ⟨c2, _, ρ, _, t2.kk.trans hk, E2, g2, fun c3 v3 H3 d3 t3 r3 g3 => ?_⟩
  cases d3 with
  | lst ds =>
    obtain ⟨ns, rfl, h1, h2, g⟩ := g3
    obtain ⟨l, rfl, hl, nl, r3⟩ := r3
    cases r3 with
    | lst hz e3 rl =>
      have ev := rl.ints
      subst ev
      have n2 : ¬ c2.S p := t2.notS upd_same nS
      have hp2 : H2 p = some (.dK []) := t2.keep p _ nS upd_same
      have hp3 : H3 p = some (.dK []) := t3.keep p _ n2 hp2
      have n3 : ¬ c3.S p := t3.notS hp2 n2
      have lp : l ≠ p := fun z => by rw [z, hp2] at hl; cases hl
      refine ⟨hp3, feedKV s 0 l, rfl, (show 3 ≤ 15 by decide), ?_⟩
      rw [fm]
      have t13 : Step c0 H0 c3 H3 := ((t.trans t1).trans t2).trans t3
      have fp : H0 p = none := t.fresh hp
      have fl : H0 l = none := ((t.trans t1).trans t2).fresh hl
      have t4 : Step c0 H0 c3 (upd H3 p (.dK (feedKV s 0 l))) := t13.upd fp n3
      have t5 : Step c0 H0 (c3.plus p l) (upd H3 p (.dK (feedKV s 0 l))) := plus_step t4 n3 nl fp fl (.inl ⟨Ne.symm lp, s, 0, ns, upd_same, by rw [upd_ne lp]; exact e3, hs.1, hs.2, by decide, h1, h2⟩)
      exact z.rt (c3.plus p l) (.ref p) _ .deal (t3.kk.trans (t2.kk.trans hk)) t5 (show Rep _ _ _ _ _ from .deal (Ne.symm lp) (.inr ⟨rfl, rfl⟩)) g
  | _ => exact g3.elim
theorem s_retDeal {X : Cx} {own : List Nat} {fr : Bool} {st : Stmt} {p1 p3 : TED} (h : PS X st (tRet (tDisp [(tC (.str "seed"), lift X.K own .strong p1), (tC (.str "number"), tC (.int 0)), (tC (.str "left"), lift X.K own .fresh p3)]))) : PS X st (liftS X.K own fr .strong (sRetDeal p1 p3)) := ps_imp h (lift_retDeal _)
structure DefD (P : Program) (w : World) (K : PySem.W.Frag) (mg : Str → Option Value) (base : Heap) (x : Str) (k n : Nat) (ko : Kd) (g : List D → (D → Prop) → Prop) : Prop where
  ex : ∃ (f : Addr) (fd : FuncData) (ps : List Str), FnOk P w K mg base CX0 k f fd ps (spD K n ko g) ∧ mg x = some (.ref f) ∧ PySem.W.keepIn K (.ref f) = true ∧ Binds K fd ps []
section
variable {X : Cx} {own : List Nat} {pos : Pos} {e : Expr} {es : List Expr} {x : Str} {pn : Pos} {k n : Nat} {ko : Kd} {w : List D → (D → Prop) → Prop} {pa : TAD}
theorem e_callD (F : DefD X.prog X.w X.K X.mg X.base x k n ko w) (hr : Room k X.A) (ha : PA X (e :: es) (liftA X.K own .strong n pa)) (hk : ko ≠ .weak := by intro z; cases z) (hg : Gl X x := by rfl)
    (hs : starEach (e :: es) X.env = (false, eval e X.env) :: starEach es X.env := by rfl) (hpl : (backTo pos (starEach es X.env)).any (·.1) = false := by rfl) (hd : (x == ("__debug__" : Str)) = false := by decide) :
    PE X (.Call (.Name x pn) (e :: es) [] pos) (lift X.K own ko (pCall w pa)) := by
  obtain ⟨f, fd, ps, F, hm, hkp, hb⟩ := F.ex
  exact e_call F hr hm hkp hb ha hk hg hs hpl hd
theorem e_callDW (F : DefD X.prog X.w X.K X.mg X.base x k n .strong w) (hr : Room k X.A) (ha : PA X (e :: es) (liftA X.K own .weak n pa)) (hg : Gl X x := by rfl)
    (hs : starEach (e :: es) X.env = (false, eval e X.env) :: starEach es X.env := by rfl) (hpl : (backTo pos (starEach es X.env)).any (·.1) = false := by rfl) (hd : (x == ("__debug__" : Str)) = false := by decide) :
    PE X (.Call (.Name x pn) (e :: es) [] pos) (lift X.K own .strong (pCallW w pa)) := by
  obtain ⟨f, fd, ps, F, hm, hkp, hb⟩ := F.ex
  exact e_callW F hr hm hkp hb ha hg hs hpl hd
end
def spLawD (K : PySem.W.Frag) : Sp := fun vs H Q _ => ∃ (a : Addr) (ns : List Int), vs = [.ref a] ∧ SqL K H a (ns.map V.int) ∧ ns.length ≤ 63 ∧ ∀ H', Q (.bl true) H'
theorem law_d {P : Program} {w : World} {K : PySem.W.Frag} {mg : Str → Option Value} {base : Heap} {k : Nat} {f : Addr} {fd : FuncData} {ps : List Str} {g : List D → (D → Prop) → Prop} (F : FnOk P w K mg base CX0 k f fd ps (spD K 1 .strong g)) (h : ∀ ns : List Int, ns.length ≤ 63 → g [.scr ns] fun d => d = .bl true) :
    FnOk P w K mg base CX0 k f fd ps (spLawD K) := F.imp fun vs H Q E ⟨a, ns, e, ha, hl, q⟩ => by
  subst e
  refine ⟨rfl, ⟨K, fun _ _ => False⟩, fun _ => False, [.scr ns], _, rfl, ⟨fun _ _ z => z.elim, fun _ _ _ _ z => z.elim⟩, fun _ z => z.elim, .cons (.scr hl (ha.imp (fun z => ⟨fun z => z.elim id fun ⟨_, _, f, _⟩ => f, z⟩) fun z => .inr z)) .nil, h ns hl, fun c' v H' d t r e => ?_⟩
  subst e
  have r : Rep c' _ H' v (.bl true) := r
  cases r
  exact q H'
end DL

set_option Elab.async false
set_option linter.all false
set_option maxRecDepth 100000
set_option maxHeartbeats 4000000
namespace DL
open PySem PySem.Spec PyProof.Rows L2
section
variable {X : Cx} {own : List Nat} {fr : Bool} {ko : Kd} {pos : Pos}
def sPar (i j : Nat) (pa : TAD) : TSD := fun DD ρ => pa ρ fun ds => match ds with | [d, e] => DD.nx ((ρ.set i (some d)).set j (some e)) | _ => False
def sPar3 (i j l : Nat) (pa : TAD) : TSD := fun DD ρ => pa ρ fun ds => match ds with | [d, e, f] => DD.nx (((ρ.set i (some d)).set j (some e)).set l (some f)) | _ => False
theorem set_own {σ : L2.St} {ρ : PEnv} {i : Nat} {v : V} {d : D} (hi : i ∉ own) : ∀ j, j ∈ own → (ρ.set i (some d))[j]? = ρ[j]? ∧ (σ.set i (some v))[j]? = σ[j]? := fun j hj => by
  have hne : i ≠ j := fun z => hi (z ▸ hj)
  rw [List.getElem?_set_ne hne, List.getElem?_set_ne hne]
  exact ⟨rfl, rfl⟩
theorem avd_set {c : Cfg} {A : Addr → Prop} {σ : L2.St} {ρ : PEnv} {i : Nat} {v : V} {d : D} (hi : i ∉ own) : Avd c own A (σ.set i (some v)) (ρ.set i (some d)) = Avd c own A σ ρ := avd_congr (set_own hi)
theorem lift_par (K : PySem.W.Frag) {i j n : Nat} {pa : TAD} (hi : i ∉ own) (hj : j ∉ own) : ∀ D σ H, liftS K own fr ko (sPar i j pa) D σ H → tPar i j (liftA K own .strong n pa) D σ H := fun D σ H ⟨c0, H0, A, c, ρ, DD, hk, t, E, F, h, z⟩ => ⟨c, A, ρ, _, hk, E, h, fun c1 vs H1 ds t1 r1 hn g1 => by
  match ds, paired_strong r1, g1 with
  | [d, e], .cons r1 (.cons r2 .nil), g1 =>
    refine ⟨_, _, rfl, ?_⟩
    have E1 := (E.step t1).set hi r1
    have E2 := E1.set hj (by rw [avd_set hi]; exact r2)
    exact z.nx.here (t1.kk.trans hk) (t.trans t1) E2 ((F.congr (set_own hi)).congr (set_own hj)) g1⟩
theorem s_par (i j : Nat) {x y : Str} {a b : Expr} {n : Nat} {pa : TAD} {px py pt : Pos} {kt k2 pt2} (hc : X.calm = true) (hN : X.N.Nodup) (ha : PA X [a, b] (liftA X.K own .strong n pa)) (hi : X.N[i]? = some x := by rfl) (hj : X.N[j]? = some y := by rfl) (hij : i ≠ j := by decide)
    (hx : X.env.scope.names.lookup x = some .local := by rfl) (hy : X.env.scope.names.lookup y = some .local := by rfl) (ho : i ∉ own := by decide) (ho2 : j ∉ own := by decide)
    (hw : swappedStores [.Tuple [.Name x px, .Name y py] kt pt] (.Tuple [a, b] k2 pt2) X.env = pure (some [x, y]) := by rfl)
    (hs : swapsWithSole [.Tuple [.Name x px, .Name y py] kt pt] (.Tuple [a, b] k2 pt2) pos.line X.env = pure false := by rfl) :
    PS X (.Assign [.Tuple [.Name x px, .Name y py] kt pt] (.Tuple [a, b] k2 pt2) pos) (liftS X.K own fr ko (sPar i j pa)) := ps_imp (ps_par hc hN hi hj hij hx hy ha hw hs) (lift_par _ ho ho2)
theorem lift_par3 (K : PySem.W.Frag) {i j l n : Nat} {pa : TAD} (hi : i ∉ own) (hj : j ∉ own) (hl : l ∉ own) : ∀ D σ H, liftS K own fr ko (sPar3 i j l pa) D σ H → tPar3 i j l (liftA K own .strong n pa) D σ H := fun D σ H ⟨c0, H0, A, c, ρ, DD, hk, t, E, F, h, z⟩ => ⟨c, A, ρ, _, hk, E, h, fun c1 vs H1 ds t1 r1 hn g1 => by
  match ds, paired_strong r1, g1 with
  | [d, e, f], .cons r1 (.cons r2 (.cons r3 .nil)), g1 =>
    refine ⟨_, _, _, rfl, ?_⟩
    have E1 := (E.step t1).set hi r1
    have E2 := E1.set hj (by rw [avd_set hi]; exact r2)
    have E3 := E2.set hl (by rw [avd_set hj, avd_set hi]; exact r3)
    exact z.nx.here (t1.kk.trans hk) (t.trans t1) E3 (((F.congr (set_own hi)).congr (set_own hj)).congr (set_own hl)) g1⟩
theorem s_par3 (i j l : Nat) {x y z : Str} {a b c : Expr} {n : Nat} {pa : TAD} {px py pz pt : Pos} {kt k2 pt2} (hc : X.calm = true) (hN : X.N.Nodup) (ha : PA X [a, b, c] (liftA X.K own .strong n pa)) (hi : X.N[i]? = some x := by rfl) (hj : X.N[j]? = some y := by rfl) (hl : X.N[l]? = some z := by rfl) (hij : i ≠ j := by decide) (hil : i ≠ l := by decide) (hjl : j ≠ l := by decide)
    (hx : X.env.scope.names.lookup x = some .local := by rfl) (hy : X.env.scope.names.lookup y = some .local := by rfl) (hz : X.env.scope.names.lookup z = some .local := by rfl) (ho : i ∉ own := by decide) (ho2 : j ∉ own := by decide) (ho3 : l ∉ own := by decide)
    (hw : swappedStores [.Tuple [.Name x px, .Name y py, .Name z pz] kt pt] (.Tuple [a, b, c] k2 pt2) X.env = pure (some [x, y, z]) := by rfl)
    (hs : swapsWithSole [.Tuple [.Name x px, .Name y py, .Name z pz] kt pt] (.Tuple [a, b, c] k2 pt2) pos.line X.env = pure false := by rfl) :
    PS X (.Assign [.Tuple [.Name x px, .Name y py, .Name z pz] kt pt] (.Tuple [a, b, c] k2 pt2) pos) (liftS X.K own fr ko (sPar3 i j l pa)) := ps_imp (ps_par3 hc hN hi hj hl hij hil hjl hx hy hz ha hw hs) (lift_par3 _ ho ho2 ho3)
end
end DL

set_option Elab.async false
set_option linter.all false
set_option maxRecDepth 100000
set_option maxHeartbeats 4000000
namespace DL
open PySem PySem.Spec PyProof.Rows L2

theorem compY {tg : TGD} {te : TED} {ρ : PEnv} (P : D → D → Prop) : ∀ (ds : List D) (acc : List D) (R : List D → Prop), (∀ d ∈ ds, ∀ R : D → Prop, (∀ y, P d y → R y) → tg d ρ fun ρ1 => te ρ1 R) → (∀ ys, Paired P ds ys → R (acc ++ ys)) → compR tg tYesD te ρ ds acc R
  | [], acc, R, _, h => by
    have := h [] .nil
    rw [List.append_nil] at this
    exact this
  | d :: ds, acc, R, hs, h => by
    have e : (fun ρ1 => tYesD ρ1 fun b => if b = true then te ρ1 fun y => compR tg tYesD te ρ ds (acc ++ [y]) R else compR tg tYesD te ρ ds acc R) = fun ρ1 => te ρ1 fun y => compR tg tYesD te ρ ds (acc ++ [y]) R := by
      funext ρ1
      simp [tYesD]
    show tg d ρ (fun ρ1 => tYesD ρ1 fun b => if b = true then te ρ1 fun y => compR tg tYesD te ρ ds (acc ++ [y]) R else compR tg tYesD te ρ ds acc R)
    rw [e]
    exact hs d List.mem_cons_self _ fun y hy => compY P ds _ R (fun d' hd => hs d' (List.mem_cons_of_mem _ hd)) fun ys r => by
      have := h (y :: ys) (.cons hy r)
      rw [List.append_assoc]
      exact this
theorem compM {tg : TGD} {te : TED} {ρ : PEnv} (f : D → D) : ∀ (ds : List D) (acc : List D) (R : List D → Prop), (∀ d ∈ ds, ∀ R : D → Prop, R (f d) → tg d ρ fun ρ1 => te ρ1 R) → R (acc ++ ds.map f) → compR tg tYesD te ρ ds acc R
  | [], acc, R, _, h => by rw [List.map_nil, List.append_nil] at h; exact h
  | d :: ds, acc, R, hs, h => by
    have e : (fun ρ1 => tYesD ρ1 fun b => if b = true then te ρ1 fun y => compR tg tYesD te ρ ds (acc ++ [y]) R else compR tg tYesD te ρ ds acc R) = fun ρ1 => te ρ1 fun y => compR tg tYesD te ρ ds (acc ++ [y]) R := by
      funext ρ1
      simp [tYesD]
    show tg d ρ (fun ρ1 => tYesD ρ1 fun b => if b = true then te ρ1 fun y => compR tg tYesD te ρ ds (acc ++ [y]) R else compR tg tYesD te ρ ds acc R)
    rw [e]
    exact hs d List.mem_cons_self _ (compM f ds _ R (fun d' hd => hs d' (List.mem_cons_of_mem _ hd)) (by
      rw [List.append_assoc]
      exact h))
theorem compF {tg : TGD} {tt : TTD} {te : TED} {ρ : PEnv} (c : D → Bool) (f : D → D) : ∀ (ds : List D) (acc : List D) (R : List D → Prop),
    (∀ d ∈ ds, ∀ (K1 : D → Prop) (K2 : Prop), (c d = true → K1 (f d)) → (c d = false → K2) → tg d ρ fun ρ1 => tt ρ1 fun b => if b = true then te ρ1 K1 else K2) → R (acc ++ (ds.filter c).map f) → compR tg tt te ρ ds acc R
  | [], acc, R, _, h => by rw [List.filter_nil, List.map_nil, List.append_nil] at h; exact h
  | d :: ds, acc, R, hs, h => by
    refine hs d List.mem_cons_self _ _ (fun hc => ?_) fun hc => ?_
    · refine compF c f ds _ R (fun d' hd => hs d' (List.mem_cons_of_mem _ hd)) ?_
      rw [List.filter_cons_of_pos hc] at h
      rw [List.append_assoc]
      exact h
    · refine compF c f ds _ R (fun d' hd => hs d' (List.mem_cons_of_mem _ hd)) ?_
      rw [List.filter_cons_of_neg (by rw [hc]; exact Bool.false_ne_true)] at h
      exact h
theorem forI {tg : TGD} {body : TSD} {DD : DEnds} (I : List D → PEnv → Prop) (step : ∀ d rest ρ (N : PEnv → Prop), I (d :: rest) ρ → (∀ ρ', I rest ρ' → N ρ') → tg d ρ fun ρ1 => body { DD with nx := N, ct := N, bk := DD.nx } ρ1) (hend : ∀ ρ, I [] ρ → DD.nx ρ) : ∀ ds ρ, I ds ρ → forR tg body DD ds ρ
  | [], ρ, h => hend ρ h
  | d :: ds, ρ, h => step d ds ρ _ h fun ρ' h' => forI I step hend ds ρ' h'
def bnd (k : Nat) (i : Int) : Prop := i.natAbs < 2 ^ k
theorem bnd_mono {k l : Nat} {i : Int} (h : bnd k i) (hl : k ≤ l) : bnd l i := Nat.lt_of_lt_of_le h (Nat.pow_le_pow_right (by decide) hl)
theorem bnd_add {k l : Nat} {i j : Int} (h : bnd k i) (g : bnd l j) : bnd (max k l + 1) (i + j) := by
  have h1 := bnd_mono h (Nat.le_max_left k l)
  have h2 := bnd_mono g (Nat.le_max_right k l)
  unfold bnd at *
  rw [Nat.pow_succ]
  omega
theorem bnd_neg {k : Nat} {i : Int} (h : bnd k i) : bnd k (-i) := by unfold bnd at *; omega
theorem bnd_sub {k l : Nat} {i j : Int} (h : bnd k i) (g : bnd l j) : bnd (max k l + 1) (i - j) := by
  rw [Int.sub_eq_add_neg]; exact bnd_add h (bnd_neg g)
theorem bnd_mul {k l : Nat} {i j : Int} (h : bnd k i) (g : bnd l j) : bnd (k + l) (i * j) := wide_lt h g
theorem bnd_abs {k : Nat} {i : Int} (h : bnd k i) : bnd k (if i < 0 then -i else i) := by unfold bnd at *; split <;> omega
theorem bnd_mulOk {k l : Nat} {i j : Int} (h : bnd k i) (g : bnd l j) (hk : 0 < k := by decide) (hl : 0 < l := by decide) (hs : k + l ≤ 1000000 := by decide) : mulOk i j := wide_mul h g hk hl hs
theorem bnd_of {k : Nat} {i lo hi : Int} (h : lo ≤ i) (g : i ≤ hi) (h1 : lo.natAbs < 2 ^ k := by decide) (h2 : hi.natAbs < 2 ^ k := by decide) : bnd k i := by unfold bnd; omega
theorem bnd_log {k : Nat} {i : Int} (h : bnd k i) (hk : 0 < k := by decide) (hs : k ≤ 9000 := by decide) : i.natAbs.log2 < 9000 := Nat.lt_of_lt_of_le (PySem.Flt.log2_lt_of hk h) hs
theorem bnd_edvd {k : Nat} {i j : Int} (h : bnd k i) (hj : 0 < j) : bnd k (i.fdiv j) := by
  unfold bnd at *
  rw [Int.fdiv_eq_ediv_of_nonneg i (Int.le_of_lt hj)]
  have := Int.natAbs_ediv_le_natAbs i j
  omega
theorem atI_0 {x : D} {xs : List D} : L2.atI (x :: xs) 0 = some x := L2.atI_nat (xs := x :: xs) (j := 0) rfl
theorem atI_1 {x y : D} {xs : List D} : L2.atI (x :: y :: xs) 1 = some y := L2.atI_nat (xs := x :: y :: xs) (j := 1) rfl
theorem atI_2 {x y z : D} {xs : List D} : L2.atI (x :: y :: z :: xs) 2 = some z := L2.atI_nat (xs := x :: y :: z :: xs) (j := 2) rfl
theorem atI_3 {x y z u : D} {xs : List D} : L2.atI (x :: y :: z :: u :: xs) 3 = some u := L2.atI_nat (xs := x :: y :: z :: u :: xs) (j := 3) rfl
theorem atI_get {xs : List D} {i : Int} (h : 0 ≤ i) (hl : i < xs.length) : L2.atI xs i = some (xs[i.toNat]'(by omega)) := by
  have e : i = ((i.toNat : Nat) : Int) := (Int.toNat_of_nonneg h).symm
  have := L2.atI_nat (xs := xs) (j := i.toNat) (v := xs[i.toNat]'(by omega)) (List.getElem?_eq_getElem (by omega))
  rw [← e] at this
  exact this
theorem isi_eq {d : D} {T : String} {R : D → Prop} {b : Bool} (n : String) (hn : tyOf d = n) (h1 : n ∈ tyNames) (h2 : T ∈ tyNames) (h3 : isTy n T = b) : dIsi [d, .ty T] R = R (.bl b) := by
  subst h3
  subst hn
  exact propext ⟨fun h => h.2, fun h => ⟨⟨h1, h2⟩, h⟩⟩
theorem isi_int_int {i : Int} {R : D → Prop} : dIsi [(.int i), .ty "int"] R = R (.bl true) := isi_eq "int" rfl (by decide) (by decide) (by decide)
theorem isi_int_bool {i : Int} {R : D → Prop} : dIsi [(.int i), .ty "bool"] R = R (.bl false) := isi_eq "int" rfl (by decide) (by decide) (by decide)
theorem isi_int_str {i : Int} {R : D → Prop} : dIsi [(.int i), .ty "str"] R = R (.bl false) := isi_eq "int" rfl (by decide) (by decide) (by decide)
theorem isi_int_tuple {i : Int} {R : D → Prop} : dIsi [(.int i), .ty "tuple"] R = R (.bl false) := isi_eq "int" rfl (by decide) (by decide) (by decide)
theorem isi_int_list {i : Int} {R : D → Prop} : dIsi [(.int i), .ty "list"] R = R (.bl false) := isi_eq "int" rfl (by decide) (by decide) (by decide)
theorem isi_bl_int {b : Bool} {R : D → Prop} : dIsi [(.bl b), .ty "int"] R = R (.bl true) := isi_eq "bool" rfl (by decide) (by decide) (by decide)
theorem isi_bl_bool {b : Bool} {R : D → Prop} : dIsi [(.bl b), .ty "bool"] R = R (.bl true) := isi_eq "bool" rfl (by decide) (by decide) (by decide)
theorem isi_bl_str {b : Bool} {R : D → Prop} : dIsi [(.bl b), .ty "str"] R = R (.bl false) := isi_eq "bool" rfl (by decide) (by decide) (by decide)
theorem isi_bl_tuple {b : Bool} {R : D → Prop} : dIsi [(.bl b), .ty "tuple"] R = R (.bl false) := isi_eq "bool" rfl (by decide) (by decide) (by decide)
theorem isi_bl_list {b : Bool} {R : D → Prop} : dIsi [(.bl b), .ty "list"] R = R (.bl false) := isi_eq "bool" rfl (by decide) (by decide) (by decide)
theorem isi_str_int {x : Str} {R : D → Prop} : dIsi [(.str x), .ty "int"] R = R (.bl false) := isi_eq "str" rfl (by decide) (by decide) (by decide)
theorem isi_str_bool {x : Str} {R : D → Prop} : dIsi [(.str x), .ty "bool"] R = R (.bl false) := isi_eq "str" rfl (by decide) (by decide) (by decide)
theorem isi_str_str {x : Str} {R : D → Prop} : dIsi [(.str x), .ty "str"] R = R (.bl true) := isi_eq "str" rfl (by decide) (by decide) (by decide)
theorem isi_str_tuple {x : Str} {R : D → Prop} : dIsi [(.str x), .ty "tuple"] R = R (.bl false) := isi_eq "str" rfl (by decide) (by decide) (by decide)
theorem isi_str_list {x : Str} {R : D → Prop} : dIsi [(.str x), .ty "list"] R = R (.bl false) := isi_eq "str" rfl (by decide) (by decide) (by decide)
theorem isi_non_int  {R : D → Prop} : dIsi [.non, .ty "int"] R = R (.bl false) := isi_eq "NoneType" rfl (by decide) (by decide) (by decide)
theorem isi_non_bool  {R : D → Prop} : dIsi [.non, .ty "bool"] R = R (.bl false) := isi_eq "NoneType" rfl (by decide) (by decide) (by decide)
theorem isi_non_str  {R : D → Prop} : dIsi [.non, .ty "str"] R = R (.bl false) := isi_eq "NoneType" rfl (by decide) (by decide) (by decide)
theorem isi_non_tuple  {R : D → Prop} : dIsi [.non, .ty "tuple"] R = R (.bl false) := isi_eq "NoneType" rfl (by decide) (by decide) (by decide)
theorem isi_non_list  {R : D → Prop} : dIsi [.non, .ty "list"] R = R (.bl false) := isi_eq "NoneType" rfl (by decide) (by decide) (by decide)
theorem isi_tup_int {ds : List D} {R : D → Prop} : dIsi [(.tup ds), .ty "int"] R = R (.bl false) := isi_eq "tuple" rfl (by decide) (by decide) (by decide)
theorem isi_tup_bool {ds : List D} {R : D → Prop} : dIsi [(.tup ds), .ty "bool"] R = R (.bl false) := isi_eq "tuple" rfl (by decide) (by decide) (by decide)
theorem isi_tup_str {ds : List D} {R : D → Prop} : dIsi [(.tup ds), .ty "str"] R = R (.bl false) := isi_eq "tuple" rfl (by decide) (by decide) (by decide)
theorem isi_tup_tuple {ds : List D} {R : D → Prop} : dIsi [(.tup ds), .ty "tuple"] R = R (.bl true) := isi_eq "tuple" rfl (by decide) (by decide) (by decide)
theorem isi_tup_list {ds : List D} {R : D → Prop} : dIsi [(.tup ds), .ty "list"] R = R (.bl false) := isi_eq "tuple" rfl (by decide) (by decide) (by decide)
theorem isi_lst_int {ds : List D} {R : D → Prop} : dIsi [(.lst ds), .ty "int"] R = R (.bl false) := isi_eq "list" rfl (by decide) (by decide) (by decide)
theorem isi_lst_bool {ds : List D} {R : D → Prop} : dIsi [(.lst ds), .ty "bool"] R = R (.bl false) := isi_eq "list" rfl (by decide) (by decide) (by decide)
theorem isi_lst_str {ds : List D} {R : D → Prop} : dIsi [(.lst ds), .ty "str"] R = R (.bl false) := isi_eq "list" rfl (by decide) (by decide) (by decide)
theorem isi_lst_tuple {ds : List D} {R : D → Prop} : dIsi [(.lst ds), .ty "tuple"] R = R (.bl false) := isi_eq "list" rfl (by decide) (by decide) (by decide)
theorem isi_lst_list {ds : List D} {R : D → Prop} : dIsi [(.lst ds), .ty "list"] R = R (.bl true) := isi_eq "list" rfl (by decide) (by decide) (by decide)
theorem sIx_all (n k : Nat) (h : n ≤ k) : HT.sIx n n (some (k : Int)) = n := by rw [HT.sIx_nat]; omega
end DL

set_option Elab.async false
set_option linter.all false
set_option maxRecDepth 100000
set_option maxHeartbeats 4000000
namespace DL
open PySem PySem.Spec PyProof.Rows L2
section
variable {DD : DEnds} {ρ : PEnv} {R : D → Prop} {RL : List D → Prop} {RB : Bool → Prop} {p q r : TSD} {a b c : TED} {pa : TAD} {t u : TTD} {i j l : Nat} {g : TGD} {gs : TGsD} {Q : PEnv → Prop} {d e : D} {ds es : List D} {x y : Int} {s z : Str} {k : Bool}
theorem x_fnS {m : Nat} : fnW .strong m p ds R = p ⟨fun _ => R .non, R, fun _ => False, fun _ => False⟩ (startD m ds) := propext Iff.rfl
theorem x_fnF {m : Nat} : fnW .fresh m p ds R = p ⟨fun _ => False, R, fun _ => False, fun _ => False⟩ (startD m ds) := propext Iff.rfl
theorem x_seq : sSeqD p q DD ρ = p ⟨q DD, DD.rt, DD.bk, DD.ct⟩ ρ := propext Iff.rfl
theorem x_next : sNext DD ρ = DD.nx ρ := propext Iff.rfl
theorem x_pass : sPass DD ρ = DD.nx ρ := propext Iff.rfl
theorem x_brk : sBrk DD ρ = DD.bk ρ := propext Iff.rfl
theorem x_cnt : sCnt DD ρ = DD.ct ρ := propext Iff.rfl
theorem x_set : sSet i a DD ρ = a ρ fun d => DD.nx (ρ.set i (some d)) := propext Iff.rfl
theorem x_ret : sRet a DD ρ = a ρ DD.rt := propext Iff.rfl
theorem x_retN : sRetN DD ρ = DD.rt .non := propext Iff.rfl
theorem x_if : sIf t p q DD ρ = t ρ fun b => if b = true then p DD ρ else q DD ρ := propext Iff.rfl
theorem x_asg : sAsg a g DD ρ = a ρ fun d => g d ρ DD.nx := propext Iff.rfl
theorem x_drop : sDrop a DD ρ = a ρ fun _ => DD.nx ρ := propext Iff.rfl
def two (ds : List D) (f : D → D → Prop) : Prop := match ds with | [d, e] => f d e | _ => False
def three (ds : List D) (f : D → D → D → Prop) : Prop := match ds with | [d, e, u] => f d e u | _ => False
theorem x_par : sPar i j pa DD ρ = pa ρ fun ds => two ds fun d e => DD.nx ((ρ.set i (some d)).set j (some e)) := propext Iff.rfl
theorem x_par3 : sPar3 i j l pa DD ρ = pa ρ fun ds => three ds fun d e u => DD.nx (((ρ.set i (some d)).set j (some e)).set l (some u)) := propext Iff.rfl
theorem x_two {f : D → D → Prop} : two [d, e] f = f d e := propext Iff.rfl
theorem x_three {f : D → D → D → Prop} {u : D} : three [d, e, u] f = f d e u := propext Iff.rfl
theorem x_for {src : TAD} : sFor src g p DD ρ = src ρ fun ds => forR g p DD ds ρ := propext Iff.rfl
theorem x_gN : gN i d ρ Q = Q (ρ.set i (some d)) := propext Iff.rfl
theorem x_gsN : gsN [] ρ Q = Q ρ := propext Iff.rfl
theorem x_gsC : gsC g gs (d :: ds) ρ Q = g d ρ fun ρ' => gs ds ρ' Q := propext Iff.rfl
theorem x_gT : gT gs (.tup ds) ρ Q = gs ds ρ Q := propext Iff.rfl
theorem x_gTl : gT gs (.lst ds) ρ Q = gs ds ρ Q := propext Iff.rfl
def optD (o : Option (Option D)) (R : D → Prop) : Prop := match o with | some (some d) => R d | _ => False
theorem x_pV : pV i ρ R = optD ρ[i]? R := propext Iff.rfl
theorem x_opt : optD (some (some d)) R = R d := propext Iff.rfl
theorem x_pC : pC d ρ R = R d := propext Iff.rfl
theorem x_p1 {f : D → (D → Prop) → Prop} : p1 f a ρ R = a ρ fun x => f x R := propext Iff.rfl
theorem x_p2 {f : D → D → (D → Prop) → Prop} : p2 f a b ρ R = a ρ fun x => b ρ fun y => f x y R := propext Iff.rfl
theorem x_pL {f : List D → (D → Prop) → Prop} : pL f pa ρ R = pa ρ fun ds => f ds R := propext Iff.rfl
theorem x_call {f : List D → (D → Prop) → Prop} : pCall f pa ρ R = pa ρ fun ds => f ds R := propext Iff.rfl
theorem x_callW {f : List D → (D → Prop) → Prop} : pCallW f pa ρ R = pa ρ fun ds => f ds fun d => d.flat = true ∧ R d := propext Iff.rfl
theorem x_paN : paN ρ RL = RL [] := propext Iff.rfl
theorem x_paC : paC a pa ρ RL = a ρ fun x => pa ρ fun xs => RL (x :: xs) := propext Iff.rfl
theorem x_tup : pTup pa ρ R = pa ρ fun ds => R (.tup ds) := propext Iff.rfl
theorem x_lst : pLst pa ρ R = pa ρ fun ds => R (.lst ds) := propext Iff.rfl
theorem x_tV : tV a ρ RB = a ρ fun x => dBl x RB := propext Iff.rfl
theorem x_tAnd : tAndD t u ρ RB = t ρ fun b => if b = true then u ρ RB else RB false := propext Iff.rfl
theorem x_tOr : tOrD t u ρ RB = t ρ fun b => if b = true then RB true else u ρ RB := propext Iff.rfl
theorem x_tNot : tNotD t ρ RB = t ρ fun b => RB (!b) := propext Iff.rfl
theorem x_pAnd : pAnd a b ρ R = a ρ fun x => dBl x fun k => if k = true then b ρ R else R (.bl false) := propext Iff.rfl
theorem x_pOr : pOr a b ρ R = a ρ fun x => dBl x fun k => if k = true then R (.bl true) else b ρ R := propext Iff.rfl
theorem x_pNot : pNot a ρ R = a ρ fun x => dBl x fun k => R (.bl (!k)) := propext Iff.rfl
theorem x_pIf : pIf t a b ρ R = t ρ fun k => if k = true then a ρ R else b ρ R := propext Iff.rfl
theorem x_chain {f h : D → D → (D → Prop) → Prop} : pChain f h a b c ρ R = a ρ fun x => b ρ fun y => f x y fun z => dBl z fun k => if k = true then c ρ fun v => h y v R else R (.bl false) := propext Iff.rfl
theorem x_bl {f : Bool → Prop} : dBl (.bl k) f = f k := propext Iff.rfl
theorem x_int {f : Int → Prop} : dInt (.int x) f = f x := propext Iff.rfl
theorem x_addI : dAdd (.int x) (.int y) R = R (.int (x + y)) := propext Iff.rfl
theorem x_addS : dAdd (.str s) (.str z) R = (s.length + z.length ≤ sizeLine ∧ R (.str (s ++ z))) := propext Iff.rfl
theorem x_addL : dAdd (.lst ds) (.lst es) R = (ds.length + es.length ≤ sizeLine ∧ R (.lst (ds ++ es))) := propext Iff.rfl
theorem x_addT : dAdd (.tup ds) (.tup es) R = (ds.length + es.length ≤ sizeLine ∧ R (.tup (ds ++ es))) := propext Iff.rfl
theorem x_cat : dCat (.lst ds) (.lst es) R = (ds.length + es.length ≤ sizeLine ∧ R (.lst (ds ++ es))) := propext Iff.rfl
theorem x_sub : dSub (.int x) (.int y) R = R (.int (x - y)) := propext Iff.rfl
theorem x_mul : dMul (.int x) (.int y) R = (mulOk x y ∧ R (.int (x * y))) := propext Iff.rfl
theorem x_mulL : dMul (.lst ds) (.int y) R = ((-(2 ^ 63) ≤ y ∧ y < 2 ^ 63 ∧ ds.length * y.toNat ≤ sizeLine) ∧ R (.lst (List.replicate y.toNat ds).flatten)) := propext Iff.rfl
theorem x_rep : dRep (.lst ds) (.int y) R = ((-(2 ^ 63) ≤ y ∧ y < 2 ^ 63 ∧ ds.length * y.toNat ≤ sizeLine) ∧ R (.lst (List.replicate y.toNat ds).flatten)) := propext Iff.rfl
theorem x_div : dDiv (.int x) (.int y) R = ((y ≠ 0 ∧ y.natAbs.log2 < 9000) ∧ R (.int (x.fdiv y))) := propext Iff.rfl
theorem x_mod : dMod (.int x) (.int y) R = (y ≠ 0 ∧ R (.int (x.fmod y))) := propext Iff.rfl
theorem x_pow : dPow (.int x) (.int y) R = ((0 ≤ y ∧ y ≤ 1000000 ∧ x.natAbs < 2 ^ 64) ∧ R (.int (x ^ y.toNat))) := propext Iff.rfl
theorem x_neg : dNeg (.int x) R = R (.int (-x)) := propext Iff.rfl
theorem x_eq : dEq d e R = ((okD 60 d = true ∧ okD 60 e = true) ∧ R (.bl (eqD d e))) := propext Iff.rfl
theorem x_ne : dNe d e R = ((okD 60 d = true ∧ okD 60 e = true) ∧ R (.bl (!eqD d e))) := propext Iff.rfl
theorem x_eqI : dEq (.int x) (.int y) R = R (.bl (decide (x = y))) := by
  rw [x_eq]
  have e : eqD (.int x) (.int y) = decide (x = y) := by simp only [eqD]; exact Bool.beq_eq_decide_eq x y
  rw [e]
  simp [okD]
theorem x_neI : dNe (.int x) (.int y) R = R (.bl (!decide (x = y))) := by
  rw [x_ne]
  have e : eqD (.int x) (.int y) = decide (x = y) := by simp only [eqD]; exact Bool.beq_eq_decide_eq x y
  rw [e]
  simp [okD]
theorem x_ltI : dLtI (.int x) (.int y) R = R (.bl (decide (x < y))) := propext Iff.rfl
theorem x_leI : dLeI (.int x) (.int y) R = R (.bl (decide (x ≤ y))) := propext Iff.rfl
theorem x_gtI : dGtI (.int x) (.int y) R = R (.bl (decide (y < x))) := propext Iff.rfl
theorem x_geI : dGeI (.int x) (.int y) R = R (.bl (decide (y ≤ x))) := propext Iff.rfl
theorem x_isN : dIsN d .non R = R (.bl d.isN) := propext Iff.rfl
theorem x_notN : dNotN d .non R = R (.bl (!d.isN)) := propext Iff.rfl
theorem x_nN : D.isN .non = true := rfl
theorem x_nI : D.isN (.int x) = false := rfl
theorem x_nB : D.isN (.bl k) = false := rfl
theorem x_nS : D.isN (.str s) = false := rfl
theorem x_nT : D.isN (.tup ds) = false := rfl
theorem x_nL : D.isN (.lst ds) = false := rfl
theorem x_ixT : dIx (.tup ds) (.int x) R = ∃ d, L2.atI ds x = some d ∧ R d := propext Iff.rfl
theorem x_ixL : dIx (.lst ds) (.int x) R = ∃ d, L2.atI ds x = some d ∧ R d := propext Iff.rfl
theorem x_ixS : dIx (.str z) (.int x) R = (z.length ≤ sizeLine ∧ ∃ c, L2.atI z.cps.toList x = some c ∧ R (.str ⟨#[c]⟩)) := propext Iff.rfl
theorem x_len_l : dLen [.lst ds] R = R (.int ds.length) := propext Iff.rfl
theorem x_len_t : dLen [.tup ds] R = R (.int ds.length) := propext Iff.rfl
theorem x_len_c {ns : List Int} : dLen [.scr ns] R = R (.int ns.length) := propext Iff.rfl
theorem x_len_s : dLen [.str z] R = (z.length ≤ sizeLine ∧ R (.int z.length)) := propext Iff.rfl
theorem x_all : dAll [.lst ds] R = ∃ bs : List Bool, ds = bs.map D.bl ∧ R (.bl (bs.all id)) := propext Iff.rfl
theorem x_any : dAny [.lst ds] R = ∃ bs : List Bool, ds = bs.map D.bl ∧ R (.bl (bs.any id)) := propext Iff.rfl
theorem x_abs : dAbs [.int x] R = R (.int (if x < 0 then -x else x)) := propext Iff.rfl
theorem x_max2 : dMax2 [.int x, .int y] R = R (.int (if y > x then y else x)) := propext Iff.rfl
theorem x_min2 : dMin2 [.int x, .int y] R = R (.int (if y < x then y else x)) := propext Iff.rfl
theorem x_toI : dToI [.int x] R = R (.int x) := propext Iff.rfl
theorem x_toB : dToI [.bl k] R = R (.int (if k then 1 else 0)) := propext Iff.rfl
theorem x_tuL : dTuple [.lst ds] R = R (.tup ds) := propext Iff.rfl
theorem x_tuT : dTuple [.tup ds] R = R (.tup ds) := propext Iff.rfl
theorem x_liL : dList [.lst ds] R = R (.lst ds) := propext Iff.rfl
theorem x_liT : dList [.tup ds] R = R (.lst ds) := propext Iff.rfl
theorem x_rev : dRev (.lst ds) R = R (.lst ds.reverse) := propext Iff.rfl
theorem x_pSl {f : D → Option Int → Option Int → (D → Prop) → Prop} {lo hi : TOD} : pSl f a lo hi ρ R = a ρ fun x => lo ρ fun l => hi ρ fun u => f x l u R := propext Iff.rfl
theorem x_oN {RO : Option Int → Prop} : oNone ρ RO = RO none := propext Iff.rfl
theorem x_oS {RO : Option Int → Prop} : oSome a ρ RO = a ρ fun x => dInt x fun i => RO (some i) := propext Iff.rfl
theorem x_slL {o v : Option Int} : dSl (.lst ds) o v R = R (.lst (cutD ds o v)) := propext Iff.rfl
theorem x_slT {o v : Option Int} : dSl (.tup ds) o v R = R (.tup (cutD ds o v)) := propext Iff.rfl
theorem x_slC {o v : Option Int} {ns : List Int} : dSl (.scr ns) o v R = R (.lst (cutD (ns.map D.int) o v)) := propext Iff.rfl
theorem x_slS {o v : Option Int} : dSl (.str z) o v R = (z.length ≤ sizeLine ∧ R (.str (cutS z o v))) := propext Iff.rfl
theorem x_slLL {o v : Option Int} : dSlL (.lst ds) o v R = R (.lst (cutD ds o v)) := propext Iff.rfl
theorem x_slLC {o v : Option Int} {ns : List Int} : dSlL (.scr ns) o v R = R (.lst (cutD (ns.map D.int) o v)) := propext Iff.rfl
def dSeq (x : D) (RL : List D → Prop) : Prop := match x with | .lst ds => RL ds | .tup ds => RL ds | _ => False
theorem x_sSeq : sSeq a ρ RL = a ρ fun x => dSeq x RL := propext Iff.rfl
theorem x_seqL : dSeq (.lst ds) RL = RL ds := propext Iff.rfl
theorem x_seqT : dSeq (.tup ds) RL = RL ds := propext Iff.rfl
def one (ds : List D) (f : D → Prop) : Prop := match ds with | [d] => f d | _ => False
theorem x_one {f : D → Prop} : one [d] f = f d := propext Iff.rfl
theorem x_rng1 : sRng1 pa ρ RL = pa ρ fun ds => one ds fun x => dInt x fun j => small62 j ∧ RL (rangeD 0 j) := propext Iff.rfl
theorem x_rng2 : sRng2 pa ρ RL = pa ρ fun ds => two ds fun x y => dInt x fun i => dInt y fun j => small62 i ∧ small62 j ∧ RL (rangeD i j) := propext Iff.rfl
theorem x_comp {src : TAD} {vs : List Nat} : pComp src g t a vs ρ R = src ρ fun ds => ds.length ≤ sizeLine ∧ compR g t a (wipeD ρ vs) ds [] fun acc => R (.lst acc) := propext Iff.rfl
theorem x_w0 : wipeD ρ [] = ρ := rfl
theorem x_w1 {vs : List Nat} {v : Nat} : wipeD ρ (v :: vs) = (wipeD ρ vs).set v none := rfl
theorem x_start {m : Nat} : startD m ds = ds.map some ++ List.replicate (m - ds.length) none := rfl
theorem x_yes : tYesD ρ RB = RB true := propext Iff.rfl
theorem x_comp0 {acc : List D} : compR g t a ρ [] acc RL = RL acc := propext Iff.rfl
theorem x_comp1 {acc : List D} : compR g t a ρ (d :: ds) acc RL = g d ρ fun ρ1 => t ρ1 fun b => if b = true then a ρ1 fun y => compR g t a ρ ds (acc ++ [y]) RL else compR g t a ρ ds acc RL := propext Iff.rfl
theorem x_for0 : forR g p DD [] ρ = DD.nx ρ := propext Iff.rfl
theorem x_for1 : forR g p DD (d :: ds) ρ = g d ρ fun ρ1 => p ⟨forR g p DD ds, DD.rt, DD.nx, forR g p DD ds⟩ ρ1 := propext Iff.rfl
theorem x_app : sApp i a DD ρ = ownL ρ i fun ds => a ρ fun d => ds.length < sizeLine ∧ DD.nx (ρ.set i (some (.lst (ds ++ [d])))) := propext Iff.rfl
def optL (o : Option (Option D)) (f : List D → Prop) : Prop := match o with | some (some (.lst ds)) => f ds | _ => False
theorem x_own {f : List D → Prop} : ownL ρ i f = optL ρ[i]? f := propext Iff.rfl
theorem x_optL {f : List D → Prop} : optL (some (some (.lst ds))) f = f ds := propext Iff.rfl
theorem x_item : sItem i a b DD ρ = ownL ρ i fun ds => b ρ fun d => a ρ fun k => dInt k fun k => ∃ j, ixN ds.length k = some j ∧ DD.nx (ρ.set i (some (.lst (ds.set j d)))) := propext Iff.rfl
theorem x_draw {m : Int} : wDraw [.deal, .int m] R = ((0 < m ∧ m.natAbs.log2 < 9000) ∧ ∀ r, 0 ≤ r → r < m → R (.int r)) := propext Iff.rfl
theorem x_retDeal : sRetDeal a b DD ρ = a ρ fun x => dInt x fun s => (0 ≤ s ∧ s < 2147483648) ∧ b ρ fun z => match z with
  | .lst ds => ∃ ns : List Int, ds = ns.map D.int ∧ (∀ x ∈ ns, 0 < x) ∧ ns.length ≤ 63 ∧ DD.rt .deal
  | _ => False := propext Iff.rfl
theorem ok_i {n : Nat} : okD n (.int x) = true := by cases n <;> simp [okD]
theorem ok_b {n : Nat} : okD n (.bl k) = true := by cases n <;> simp [okD]
theorem ok_n {n : Nat} : okD n .non = true := by cases n <;> simp [okD]
theorem ok_t {n : Nat} : okD (n + 1) (.tup ds) = okD.okDs n ds := by simp [okD]
theorem ok_l {n : Nat} : okD (n + 1) (.lst ds) = okD.okDs n ds := by simp [okD]
theorem ok_0 {n : Nat} : okD.okDs n [] = true := by cases n <;> simp [okD.okDs]
theorem ok_c {n : Nat} : okD.okDs n (d :: ds) = (okD n d && okD.okDs n ds) := by cases n <;> simp [okD.okDs]
theorem eq_ii : eqD (.int x) (.int y) = decide (x = y) := by simp only [eqD]; exact Bool.beq_eq_decide_eq x y
theorem eq_tt : eqD (.tup ds) (.tup es) = eqD.eqDs ds es := by simp [eqD]
theorem eq_ll : eqD (.lst ds) (.lst es) = eqD.eqDs ds es := by simp [eqD]
theorem eq_0 : eqD.eqDs [] [] = true := by simp [eqD.eqDs]
theorem eq_c : eqD.eqDs (d :: ds) (e :: es) = (eqD d e && eqD.eqDs ds es) := by simp [eqD.eqDs]
theorem eq_ss : eqD (.str s) (.str z) = (s == z) := by simp [eqD]
theorem eq_bb {k' : Bool} : eqD (.bl k) (.bl k') = (k == k') := by simp [eqD]
theorem eq_nn : eqD .non .non = true := by simp [eqD]
mutual
theorem eq_refl : ∀ (d : D) (n : Nat), okD n d = true → eqD d d = true
  | .non, _, _ => by simp [eqD]
  | .bl _, _, _ => by simp [eqD]
  | .int _, _, _ => by simp [eqD]
  | .str _, _, _ => by simp [eqD]
  | .ty _, _, h => by simp [okD] at h
  | .ref _, _, h => by simp [okD] at h
  | .deal, _, h => by simp [okD] at h
  | .feed, _, h => by simp [okD] at h
  | .scr _, _, h => by simp [okD] at h
  | .dT _ _, _, h => by simp [okD] at h
  | .dK _ _, _, h => by simp [okD] at h
  | .tup ds, n, h => by
    match n, h with
    | 0, h => simp [okD] at h
    | n + 1, h => rw [eq_tt]; exact eqs_refl ds n (by simpa [okD] using h)
  | .lst ds, n, h => by
    match n, h with
    | 0, h => simp [okD] at h
    | n + 1, h => rw [eq_ll]; exact eqs_refl ds n (by simpa [okD] using h)
theorem eqs_refl : ∀ (ds : List D) (n : Nat), okD.okDs n ds = true → eqD.eqDs ds ds = true
  | [], _, _ => eq_0
  | d :: ds, n, h => by
    simp only [okD.okDs, Bool.and_eq_true] at h
    rw [eq_c, eq_refl d n h.1, eqs_refl ds n h.2]
    rfl
end
end
end DL

set_option Elab.async false
set_option linter.all false
set_option maxRecDepth 100000
set_option maxHeartbeats 4000000
namespace DL
open PySem PySem.Spec PyProof.Rows L2
def zipD (xs ys : List D) : List D := List.zipWith (fun x y => D.tup [x, y]) xs ys
def enumD (xs : List D) : List D := zipD (rangeD 0 xs.length) xs
section
variable {c : Cfg} {Av : Addr → Prop} {H0 : Hp} {a b : Addr} {xs ys : List V} {ds es : List D}
theorem pair_new {c2 : Cfg} {Av2 : Addr → Prop} {H2 : Hp} {T : Addr} {x y : V} {d e : D} (al : ∀ b, Av2 b → H2 b ≠ none) (hT : H2 T = none) (rx : Rep c2 Av2 H2 x d) (ry : Rep c2 Av2 H2 y e) :
    (∀ b o, H2 b = some o → (upd H2 T (.tup [x, y])) b = some o) ∧ Rep c2 Av2 (upd H2 T (.tup [x, y])) (.ref T) (.tup [d, e]) := by
  have k : ∀ b o, H2 b = some o → (upd H2 T (.tup [x, y])) b = some o := fun b o e => by rw [upd_ne (ne_of_none e hT)]; exact e
  refine ⟨k, .tup ⟨by show 2 ≤ sizeLine; decide, .inl ⟨fun z => al _ z hT, upd_same⟩⟩ ?_⟩
  exact RepL.mv rfl (fun _ _ z => z) (fun b o n e => ⟨n, k b o e⟩) _ _ (.cons rx (.cons ry .nil))
theorem itz_any {J : It} (hav : ∀ b, c.S b → Av b) (rx : RepL c Av H0 xs ds) (ry : RepL c Av H0 ys es)
    (h : ∀ c2 H2, Step c H0 c2 H2 → ∀ i, ((xs.length ≤ i ∨ ys.length ≤ i) → J.stop i H2) ∧ ∀ x y, xs[i]? = some x → ys[i]? = some y → J.go i H2 ∧ ∀ v H3, J.yld i H2 v H3 → ∃ T, v = .ref T ∧ H2 T = none ∧ H3 = upd H2 T (.tup [x, y])) : ItOk c Av J H0 (zipD ds es) := fun c2 H2 Av2 t al m i => by
  have mv : ∀ b o, ¬ Av b → H0 b = some o → ¬ Av2 b ∧ H2 b = some o := fun b o n e => ⟨m b o n e, t.keep b o (fun z => n (hav b z)) e⟩
  have r1 : RepL c2 Av2 H2 xs ds := RepL.mv t.kk t.sub mv _ _ rx
  have r2 : RepL c2 Av2 H2 ys es := RepL.mv t.kk t.sub mv _ _ ry
  refine ⟨fun hl => (h c2 H2 t i).1 ?_, fun d hd => ?_⟩
  · unfold zipD at hl
    rw [List.length_zipWith, ← r1.len, ← r2.len] at hl
    omega
  · unfold zipD at hd
    rw [List.getElem?_zipWith_eq_some] at hd
    obtain ⟨d1, d2, h1, h2, rfl⟩ := hd
    obtain ⟨x, hx, q1⟩ := r1.get h1
    obtain ⟨y, hy, q2⟩ := r2.get h2
    obtain ⟨g1, g2⟩ := (h c2 H2 t i).2 x y hx hy
    refine ⟨g1, fun v H3 yy => ?_⟩
    obtain ⟨T, rfl, hT, rfl⟩ := g2 v H3 yy
    exact pair_new al hT q1 q2
theorem itz_ok (hav : ∀ b, c.S b → Av b) (ha : ∀ c2 H2, Step c H0 c2 H2 → SqL c.K H2 a xs) (hb : ∀ c2 H2, Step c H0 c2 H2 → SqL c.K H2 b ys) (rx : RepL c Av H0 xs ds) (ry : RepL c Av H0 ys es) : ItOk c Av (Itz c.K a b) H0 (zipD ds es) :=
  itz_any hav rx ry fun c2 H2 t i => ⟨fun hl => ⟨xs, ys, ha _ _ t, hb _ _ t, hl⟩, fun x y hx hy => ⟨⟨xs, ys, x, y, ha _ _ t, hb _ _ t, hx, hy⟩, fun v H3 ⟨T, x', y', e, hT, e3, h1, h2⟩ => ⟨T, e, hT, by
    have e1 := Option.some.inj ((h1 xs (ha _ _ t)).symm.trans hx)
    have e2 := Option.some.inj ((h2 ys (hb _ _ t)).symm.trans hy)
    rw [e3, e1, e2]⟩⟩⟩
theorem itzT_ok (hav : ∀ b, c.S b → Av b) (ha : ∀ c2 H2, Step c H0 c2 H2 → SqT c.K H2 a xs) (hb : ∀ c2 H2, Step c H0 c2 H2 → SqT c.K H2 b ys) (rx : RepL c Av H0 xs ds) (ry : RepL c Av H0 ys es) : ItOk c Av (RZ.ItzT c.K a b) H0 (zipD ds es) :=
  itz_any hav rx ry fun c2 H2 t i => ⟨fun hl => ⟨xs, ys, ha _ _ t, hb _ _ t, hl⟩, fun x y hx hy => ⟨⟨xs, ys, x, y, ha _ _ t, hb _ _ t, hx, hy⟩, fun v H3 ⟨T, x', y', e, hT, e3, h1, h2⟩ => ⟨T, e, hT, by
    have e1 := Option.some.inj ((h1 xs (ha _ _ t)).symm.trans hx)
    have e2 := Option.some.inj ((h2 ys (hb _ _ t)).symm.trans hy)
    rw [e3, e1, e2]⟩⟩⟩
theorem rangeL (c : Cfg) (Av : Addr → Prop) (H : Hp) (lo : Int) : ∀ (l : List Nat), RepL c Av H (l.map fun i => V.int (lo + (i : Nat))) (l.map fun i => D.int (lo + (i : Nat)))
  | [] => .nil
  | _ :: l => .cons (.int _) (rangeL c Av H lo l)
theorem ite_ok (hav : ∀ b, c.S b → Av b) (ha : ∀ c2 H2, Step c H0 c2 H2 → SqL c.K H2 a xs) (rx : RepL c Av H0 xs ds) : ItOk c Av (Ite c.K a) H0 (enumD ds) := by
  refine itz_any (xs := (List.range xs.length).map fun i => V.int (0 + (i : Nat))) (ys := xs) hav ?_ rx fun c2 H2 t i => ⟨fun hl => ⟨xs, ha _ _ t, by simpa using hl⟩, fun x y hx hy => ?_⟩
  · unfold rangeD
    rw [← rx.len, show ((xs.length : Int) - 0).toNat = xs.length by omega]
    exact rangeL c Av H0 0 _
  · refine ⟨⟨xs, y, ha _ _ t, hy⟩, fun v H3 ⟨T, x', e, hT, e3, h1⟩ => ⟨T, e, hT, ?_⟩⟩
    have e1 := Option.some.inj ((h1 xs (ha _ _ t)).symm.trans hy)
    have hi : i < xs.length := (List.getElem?_eq_some_iff.mp hy).1
    rw [List.getElem?_map, List.getElem?_range hi] at hx
    have e2 : V.int (0 + (i : Nat)) = x := Option.some.inj hx
    rw [Int.zero_add] at e2
    rw [e3, e1, e2]
end
def dZip (x y : D) (R : List D → Prop) : Prop := match x, y with
  | .lst xs, .lst ys => R (zipD xs ys)
  | .tup xs, .tup ys => R (zipD xs ys)
  | _, _ => False
def twoD (ds : List D) (f : D → D → Prop) : Prop := match ds with | [x, y] => f x y | _ => False
def oneD (ds : List D) (f : D → Prop) : Prop := match ds with | [x] => f x | _ => False
def dEnum (x : D) (R : List D → Prop) : Prop := match x with
  | .lst xs => R (enumD xs)
  | _ => False
def sZip (pa : TAD) : TAD := fun ρ R => pa ρ fun ds => twoD ds fun x y => dZip x y R
def sEnum (pa : TAD) : TAD := fun ρ R => pa ρ fun ds => oneD ds fun x => dEnum x R
theorem oneD_iff {ds : List D} {f : D → Prop} (h : oneD ds f) : ∃ x, ds = [x] ∧ f x := by
  match ds, h with
  | [x], h => exact ⟨x, rfl, h⟩
theorem twoD_iff {ds : List D} {f : D → D → Prop} (h : twoD ds f) : ∃ x y, ds = [x, y] ∧ f x y := by
  match ds, h with
  | [x, y], h => exact ⟨x, y, rfl, h⟩
theorem dZip_iff {x y : D} {R : List D → Prop} (h : dZip x y R) : ∃ xs ys, ((x = .lst xs ∧ y = .lst ys) ∨ (x = .tup xs ∧ y = .tup ys)) ∧ R (zipD xs ys) := by
  unfold dZip at h
  split at h
  · exact ⟨_, _, .inl ⟨rfl, rfl⟩, h⟩
  · exact ⟨_, _, .inr ⟨rfl, rfl⟩, h⟩
  · exact h.elim
theorem dEnum_iff {x : D} {R : List D → Prop} (h : dEnum x R) : ∃ xs, x = .lst xs ∧ R (enumD xs) := by
  unfold dEnum at h
  split at h
  · exact ⟨_, rfl, h⟩
  · exact h.elim
section
variable {c : Cfg} {own : List Nat} {A : Addr → Prop} {σ : L2.St} {ρ : PEnv} {H : Hp} {v : V} {ds : List D}
theorem RepW.lstK (r : RepW c own A σ ρ H v (.lst ds)) : ∃ a vs, v = .ref a ∧ H a = some (.lst vs) ∧ RepL c (Avd c own A σ ρ) H vs ds ∧ ∀ c2 H2, Step c H c2 H2 → SqL c.K H2 a vs := by
  obtain ⟨a, vs, e, hz, ha, rl⟩ := RepW.lst r
  have hs : ¬ c.S a := by
    rcases r with r | ⟨b, e', o, n1, n2, r⟩
    · rw [e] at r
      cases r with | lst n _ => exact fun z => n.2.1 (.inr (.inl z))
    · rw [e] at e'; cases e'; exact n2
  exact ⟨a, vs, e, ha, rl, fun c2 H2 t => .inl (.inl (t.keep a _ hs ha))⟩
theorem RepW.tupK (r : RepW c own A σ ρ H v (.tup ds)) : ∃ a vs, v = .ref a ∧ SqT c.K H a vs ∧ RepL c (Avd c own A σ ρ) H vs ds ∧ ∀ c2 H2, Step c H c2 H2 → SqT c.K H2 a vs := by
  obtain ⟨a, vs, e, n, rl⟩ := RepW.tup r
  refine ⟨a, vs, e, n.sq, rl, fun c2 H2 t => ?_⟩
  rcases n.2 with n | n
  · exact .inl (.inl (t.keep a _ (fun z => n.1 (avdS a z)) n.2))
  · exact sqT_any n H2
theorem Rep.lstK (r : Rep c (Avd c own A σ ρ) H v (.lst ds)) : ∃ a vs, v = .ref a ∧ H a = some (.lst vs) ∧ RepL c (Avd c own A σ ρ) (DL.mask own σ ρ H) vs ds ∧ ∀ c2 H2, Step c (DL.mask own σ ρ H) c2 H2 → SqL c.K H2 a vs := by
  cases r with
  | lst n rl => exact ⟨_, _, rfl, n.2.2, RepL.mask rl, fun c2 H2 t => .inl (.inl (t.keep _ _ (fun z => n.2.1 (.inr (.inl z))) (mask_of (fun z => n.2.1 (.inr (.inr z))) n.2.2)))⟩
theorem Rep.tupK (r : Rep c (Avd c own A σ ρ) H v (.tup ds)) : ∃ a vs, v = .ref a ∧ SqT c.K H a vs ∧ RepL c (Avd c own A σ ρ) (DL.mask own σ ρ H) vs ds ∧ ∀ c2 H2, Step c (DL.mask own σ ρ H) c2 H2 → SqT c.K H2 a vs := by
  cases r with
  | tup n rl =>
    refine ⟨_, _, rfl, n.sq, RepL.mask rl, fun c2 H2 t => ?_⟩
    rcases n.2 with n | n
    · exact .inl (.inl (t.keep _ _ (fun z => n.1 (avdS _ z)) (mask_of (fun z => n.1 (.inr (.inr z))) n.2)))
    · exact sqT_any n H2
end
theorem lift_zipW (K : PySem.W.Frag) {own : List Nat} {pa : TAD} : ∀ σ H Q, liftI K own .weak (sZip pa) σ H Q → RZ.iZipA K (liftA K own .weak 2 pa) σ H Q := fun σ H Q ⟨c, A, ρ, R, hk, E, hp, f⟩ => ⟨c, A, ρ, _, hk, E, hp, fun c1 vs H1 ds t r hn g => by
  obtain ⟨x, y, rfl, g⟩ := twoD_iff g
  obtain ⟨xs, ys, h, g⟩ := dZip_iff g
  have ek := t.kk.trans hk
  match r with
  | .cons r1 (.cons r2 .nil) =>
    rcases h with ⟨rfl, rfl⟩ | ⟨rfl, rfl⟩
    · obtain ⟨a, us, rfl, ha, rl, ka⟩ := RepW.lstK r1
      obtain ⟨b, ws, rfl, hb, rl2, kb⟩ := RepW.lstK r2
      have h := itz_ok avdS ka kb rl rl2
      rw [ek] at h
      exact ⟨a, b, us, ws, rfl, .inl ⟨.inl (.inl ha), .inl (.inl hb), f c1 _ H1 _ t h g⟩⟩
    · obtain ⟨a, us, rfl, ha, rl, ka⟩ := RepW.tupK r1
      obtain ⟨b, ws, rfl, hb, rl2, kb⟩ := RepW.tupK r2
      have h := itzT_ok avdS ka kb rl rl2
      rw [ek] at h ha hb
      exact ⟨a, b, us, ws, rfl, .inr ⟨ha, hb, f c1 _ H1 _ t h g⟩⟩⟩
theorem lift_zipS (K : PySem.W.Frag) {own : List Nat} {pa : TAD} : ∀ σ H Q, liftI K own .strong (sZip pa) σ H Q → RZ.iZipA K (liftA K own .strong 2 pa) σ H Q := fun σ H Q ⟨c, A, ρ, R, hk, E, hp, f⟩ => ⟨c, A, ρ, _, hk, E, hp, fun c1 vs H1 ds t r hn g => by
  obtain ⟨x, y, rfl, g⟩ := twoD_iff g
  obtain ⟨xs, ys, h, g⟩ := dZip_iff g
  have ek := t.kk.trans hk
  match r with
  | .cons r1 (.cons r2 .nil) =>
    rcases h with ⟨rfl, rfl⟩ | ⟨rfl, rfl⟩
    · obtain ⟨a, us, rfl, ha, rl, ka⟩ := Rep.lstK r1
      obtain ⟨b, ws, rfl, hb, rl2, kb⟩ := Rep.lstK r2
      have h := itz_ok avdS ka kb rl rl2
      rw [ek] at h
      exact ⟨a, b, us, ws, rfl, .inl ⟨.inl (.inl ha), .inl (.inl hb), f c1 _ H1 _ t h g⟩⟩
    · obtain ⟨a, us, rfl, ha, rl, ka⟩ := Rep.tupK r1
      obtain ⟨b, ws, rfl, hb, rl2, kb⟩ := Rep.tupK r2
      have h := itzT_ok avdS ka kb rl rl2
      rw [ek] at h ha hb
      exact ⟨a, b, us, ws, rfl, .inr ⟨ha, hb, f c1 _ H1 _ t h g⟩⟩⟩
theorem lift_enumW (K : PySem.W.Frag) {own : List Nat} {pa : TAD} : ∀ σ H Q, liftI K own .weak (sEnum pa) σ H Q → iEnum K (liftA K own .weak 1 pa) σ H Q := fun σ H Q ⟨c, A, ρ, R, hk, E, hp, f⟩ => ⟨c, A, ρ, _, hk, E, hp, fun c1 vs H1 ds t r hn g => by
  obtain ⟨x, rfl, g⟩ := oneD_iff g
  obtain ⟨xs, rfl, g⟩ := dEnum_iff g
  match r with
  | .cons r1 .nil =>
    obtain ⟨a, us, rfl, ha, rl, ka⟩ := RepW.lstK r1
    have h := ite_ok avdS ka rl
    rw [t.kk.trans hk] at h
    exact ⟨a, us, rfl, .inl (.inl ha), f c1 _ H1 _ t h g⟩⟩
theorem lift_enumS (K : PySem.W.Frag) {own : List Nat} {pa : TAD} : ∀ σ H Q, liftI K own .strong (sEnum pa) σ H Q → iEnum K (liftA K own .strong 1 pa) σ H Q := fun σ H Q ⟨c, A, ρ, R, hk, E, hp, f⟩ => ⟨c, A, ρ, _, hk, E, hp, fun c1 vs H1 ds t r hn g => by
  obtain ⟨x, rfl, g⟩ := oneD_iff g
  obtain ⟨xs, rfl, g⟩ := dEnum_iff g
  match r with
  | .cons r1 .nil =>
    obtain ⟨a, us, rfl, ha, rl, ka⟩ := Rep.lstK r1
    have h := ite_ok avdS ka rl
    rw [t.kk.trans hk] at h
    exact ⟨a, us, rfl, .inl (.inl ha), f c1 _ H1 _ t h g⟩⟩
section
variable {X : Cx} {own : List Nat} {pa : TAD} {e e2 : Expr} {p pos tpos : Pos} {elts : List Expr} {kk : Nat}
theorem i_zipW (hm : X.mg "zip" = none) (ha : PA X [e, e2] (liftA X.K own .weak 2 pa)) (hg : Gl X "zip" := by rfl) (hs : starEach [e, e2] X.env = (false, eval e X.env) :: starEach [e2] X.env := by rfl) (hpl : (backTo pos (starEach [e2] X.env)).any (·.1) = false := by rfl) :
    PI X (.Tuple elts kk tpos) (.Call (.Name "zip" p) [e, e2] [] pos) (liftI X.K own .weak (sZip pa)) := pi_imp (RZ.pi_zipA hg hm ha hs hpl) (lift_zipW _)
theorem i_zipS (hm : X.mg "zip" = none) (ha : PA X [e, e2] (liftA X.K own .strong 2 pa)) (hg : Gl X "zip" := by rfl) (hs : starEach [e, e2] X.env = (false, eval e X.env) :: starEach [e2] X.env := by rfl) (hpl : (backTo pos (starEach [e2] X.env)).any (·.1) = false := by rfl) :
    PI X (.Tuple elts kk tpos) (.Call (.Name "zip" p) [e, e2] [] pos) (liftI X.K own .strong (sZip pa)) := pi_imp (RZ.pi_zipA hg hm ha hs hpl) (lift_zipS _)
theorem i_enumW (hm : X.mg "enumerate" = none) (ha : PA X [e] (liftA X.K own .weak 1 pa)) (hg : Gl X "enumerate" := by rfl) (hs : starEach [e] X.env = [(false, eval e X.env)] := by rfl) :
    PI X (.Tuple elts kk tpos) (.Call (.Name "enumerate" p) [e] [] pos) (liftI X.K own .weak (sEnum pa)) := pi_imp (pi_enum hg hm ha hs) (lift_enumW _)
theorem i_enumS (hm : X.mg "enumerate" = none) (ha : PA X [e] (liftA X.K own .strong 1 pa)) (hg : Gl X "enumerate" := by rfl) (hs : starEach [e] X.env = [(false, eval e X.env)] := by rfl) :
    PI X (.Tuple elts kk tpos) (.Call (.Name "enumerate" p) [e] [] pos) (liftI X.K own .strong (sEnum pa)) := pi_imp (pi_enum hg hm ha hs) (lift_enumS _)
end
theorem x_sZip {pa : TAD} {ρ : PEnv} {R : List D → Prop} : sZip pa ρ R = pa ρ fun ds => twoD ds fun x y => dZip x y R := propext Iff.rfl
theorem x_sEnum {pa : TAD} {ρ : PEnv} {R : List D → Prop} : sEnum pa ρ R = pa ρ fun ds => oneD ds fun x => dEnum x R := propext Iff.rfl
theorem x_twoD {x y : D} {f : D → D → Prop} : twoD [x, y] f = f x y := propext Iff.rfl
theorem x_oneD {x : D} {f : D → Prop} : oneD [x] f = f x := propext Iff.rfl
theorem x_zipL {xs ys : List D} {R : List D → Prop} : dZip (.lst xs) (.lst ys) R = R (zipD xs ys) := propext Iff.rfl
theorem x_zipT {xs ys : List D} {R : List D → Prop} : dZip (.tup xs) (.tup ys) R = R (zipD xs ys) := propext Iff.rfl
theorem x_zc {x y : D} {xs ys : List D} : zipD (x :: xs) (y :: ys) = .tup [x, y] :: zipD xs ys := rfl
theorem x_zn : zipD [] [] = [] := rfl
theorem x_enL {xs : List D} {R : List D → Prop} : dEnum (.lst xs) R = R (enumD xs) := propext Iff.rfl
end DL

set_option Elab.async false
set_option linter.all false
set_option maxRecDepth 100000
set_option maxHeartbeats 4000000
namespace DLS
open PySem PySem.Spec PyProof.Rows L2
theorem perm_back {α β : Type} {f : α → β} : ∀ {ys : List β} {xs : List β}, ys.Perm xs → ∀ l : List α, xs = l.map f → ∃ l' : List α, l'.Perm l ∧ ys = l'.map f := by
  intro ys xs h
  induction h with
  | nil =>
    intro l e
    have : l = [] := by cases l with | nil => rfl | cons _ _ => cases e
    subst this
    exact ⟨[], .nil, rfl⟩
  | cons x _ ih =>
    intro l e
    cases l with
    | nil => cases e
    | cons a l =>
      injection e with e1 e2
      obtain ⟨l', p, e'⟩ := ih l e2
      exact ⟨a :: l', p.cons a, by rw [List.map_cons, ← e1, e']⟩
  | swap x y m =>
    intro l e
    match l, e with
    | [], e => cases e
    | [_], e => cases e
    | a :: b :: l, e =>
      injection e with e1 e2
      injection e2 with e2 e3
      exact ⟨b :: a :: l, List.Perm.swap _ _ _, by rw [List.map_cons, List.map_cons, ← e1, ← e2, e3]⟩
  | trans _ _ ih1 ih2 =>
    intro l e
    obtain ⟨l2, p2, e2⟩ := ih2 l e
    obtain ⟨l1, p1, e1⟩ := ih1 l2 e2
    exact ⟨l1, p1.trans p2, e1⟩
def pk (l : List Int) : Int × Int := (l.getD 0 0, l.getD 1 0)
section
variable {P : Program} {w : World} {A : Around} {E : Value → Shared → Prop} {s : Shared}
theorem isPair_of {h : Heap} {k : List Int} {b : Addr} (x : IsT P w h k b) (h2 : k.length = 2) : Srt.IsPair h (Value.ref b) (pk k).1 (pk k).2 := by
  obtain ⟨o, items, n, ho, hc, hd, hi⟩ := x
  match k, h2 with
  | [i, j], _ =>
    obtain ⟨its⟩ := items
    cases hi with
    | cons h1 hi => cases hi with
      | cons h2 hi =>
        cases hi
        obtain ⟨t1, rfl⟩ := Value.isInt_shape h1
        obtain ⟨t2, rfl⟩ := Value.isInt_shape h2
        exact ⟨b, o, t1, t2, n, rfl, ho, hc, hd⟩
open Classical in
noncomputable def kv (L : List (Addr × List Int)) (v : Value) : Int × Int := if h : ∃ q, q ∈ L ∧ v = Value.ref q.1 then pk h.choose.2 else (0, 0)
theorem kv_eq {h : Heap} {L : List (Addr × List Int)} (tk : ∀ q ∈ L, IsT P w h q.2 q.1) {q : Addr × List Int} (hq : q ∈ L) : kv L (Value.ref q.1) = pk q.2 := by
  unfold kv
  have ex : ∃ r, r ∈ L ∧ Value.ref q.1 = Value.ref r.1 := ⟨q, hq, rfl⟩
  rw [dif_pos ex]
  obtain ⟨h1, h2⟩ := ex.choose_spec
  have h3 : q.1 = ex.choose.1 := by injection h2
  have a1 := tk _ h1
  have a2 := tk _ hq
  rw [h3] at a2
  rw [a1.inj a2]
theorem sorted_setP {a : Addr} {L : List (Addr × List Int)} {es : Array (Int × Value)} {ep : Nat} {t : SetTable} {Q : Value → Shared → Prop} (R : SetTR P w s.heap a L es ep t) (hh : A.handled = none) (h2 : ∀ q ∈ L, q.2.length = 2)
    (hQ : ∀ (s' : Shared) (d : Addr) (L' : List (Addr × List Int)), L'.Perm L → L'.Pairwise (fun q r => SrtO.lexB (pk r.2) (pk q.2) = false) → (∀ b o, s.heap.get? b = some o → s'.heap.get? b = some o) → s'.gens = s.gens → s'.os = s.os → s.heap.objs.size ≤ d →
      (∃ n, s'.heap.get? d = some (seqObj "list" (L'.map fun q => Value.ref q.1).toArray n)) → Q (.ref d) s') : wpAny (model P w) A (call (.builtin "sorted") [.ref a]) Q E s := by
  have ⟨ob, ho, hex, hd⟩ := R.ob
  have few := R.few
  have sz := R.size
  refine Calls.call_function_entry kind_sorted plain_sorted entry_sorted (args_sorted1 _) (?_ : wpAny _ _ _ _ _ _)
  unfold Builtin.«sorted»
  refine wpAny_bind (m := checkCount "sorted" 1 1 _) (wpAny_pure ?_)
  refine wpAny_bind (collect_set (A := A.in1) hh ⟨ob, ho, hex.1, hd⟩ R.fits (by unfold scanBound; omega) R.tab.ris R.led fun s1 vs k1 hz g1 o1 pm => (?_ : wpAny _ _ _ _ _ _))
  have hes : es.toList.map (·.2) = L.map fun q => Value.ref q.1 := by
    rw [R.rows, rowsOf, List.map_map] <;> rfl
  rw [hes] at pm
  have zl : vs.length ≤ sizeLine := by rw [pm.length_eq, List.length_map, sizeLine_eq]; omega
  have kq : ∀ q ∈ L, IsT P w s1.heap q.2 q.1 := fun q hq => isT_keep (R.tup q hq) k1
  have inL : ∀ v ∈ vs, ∃ q ∈ L, v = Value.ref q.1 := fun v hv => by
    obtain ⟨q, hq, e⟩ := List.mem_map.mp (pm.mem_iff.mp hv)
    exact ⟨q, hq, e.symm⟩
  refine wpAny_bind (wpAny_newList (?_ : wpAny _ _ _ _ _ _) zl)
  have hoL : (s1.heap.push (seqObj "list" vs.toArray 0)).get? s1.heap.objs.size = some (seqObj "list" vs.toArray 0) := Heap.get?_push_size _ rfl
  refine wpAny_bind (wpAny_holding (wpAny_call_entry slot_list_sort ⟨_, hoL, rfl⟩ entry_list_sort (SrtO.list_sort_ord (SrtO.swo_lex (kv L)) hoL zl (fun l2 => ?_) fun out hs hb => ⟨_, rfl, ?_⟩) (args_list_sort _)))
  · refine SrtO.pairs_sortableO (by omega) (fun v hv => ?_) fun o e => ?_
    · obtain ⟨q, hq, rfl⟩ := inL v hv
      rw [kv_eq kq hq]
      exact isPair_of (isT_keep (kq q hq) fun b o e => Heap.get?_push_of_some _ e) (h2 q hq)
    · rw [hoL] at e
      cases e
      intro c
      exact absurd (Value.type.inj c) (by decide)
  · obtain ⟨L', pL, e'⟩ := perm_back (hb.perm.trans pm) L rfl
    subst e'
    obtain ⟨n, hn⟩ := sortedHeap_at (vs := vs) (out := (L'.map fun q => Value.ref q.1).toArray) hoL
    refine wpAny_pure ⟨_, rfl, hQ _ s1.heap.objs.size L' pL ?_ (fun b u e => ?_) g1 o1 hz ⟨n, hn⟩⟩
    · refine List.Pairwise.imp_of_mem (fun {q r} hq hr hle => ?_) (List.pairwise_map.mp hs)
      have e3 : SrtO.lexB (kv L (Value.ref r.1)) (kv L (Value.ref q.1)) = false := hle
      rw [kv_eq kq (pL.mem_iff.mp hq), kv_eq kq (pL.mem_iff.mp hr)] at e3
      exact e3
    · have e1 := k1 b u e
      have lt := Heap.lt_size e1
      show (sortedHeap (s1.heap.push (seqObj "list" vs.toArray 0)) s1.heap.objs.size vs _).get? b = some u
      rw [sortedHeap_old (Nat.ne_of_lt lt) (by rw [size_push']; exact Nat.lt_succ_of_lt lt)]
      exact Heap.get?_push_of_some _ e1
end
section
variable {X : Cx}
def rSortP (K : PySem.W.Frag) (P : Program) (w : World) : List V → Hp → VK → Prop := fun vs H Q => ∃ (a : Addr) (L : List (Addr × List Int)), vs = [V.ref a] ∧ H a = some (SetTO P w a L) ∧ (∀ q ∈ L, SqT K H q.1 (q.2.map V.int)) ∧ (∀ q ∈ L, q.2.length = 2) ∧
  ∀ (L' : List (Addr × List Int)) (p : Addr), L'.Perm L → (L'.map (·.2)).Nodup → L'.Pairwise (fun q r => SrtO.lexB (pk r.2) (pk q.2) = false) → H p = none → Q (.ref p) (upd H p (.lst (L'.map fun q => V.ref q.1)))
theorem cr_sortP (hc : X.calm = true) : CallR X (.builtin "sorted") (rSortP X.K X.prog X.w) := by
  rintro pins s σ H vs us Q I r ⟨a, L, rfl, ha, hk, h2, q⟩
  obtain ⟨es, ep, t, R⟩ := SetT0.full (show SetT0 X.prog X.w s.heap a L from (I.hok a _ ha).1) fun p hp => I.isT (hk p hp)
  rw [Vals.ref1 r]
  refine sorted_setP R (I.ok.hd hc) h2 fun s' d L' pm pw k g o hp ⟨n, hn⟩ => ?_
  have few : L'.length < 64 := by rw [pm.length_eq]; exact R.few
  have fr : H d = none := I.hok.fresh hp
  have J : Inv X pins σ (upd H d (.lst (L'.map fun q => V.ref q.1))) { s with heap := s'.heap, gens := s'.gens, drawn := s'.drawn, toks := s'.toks } :=
    I.call (ch := []) (Un.laid k hp fr) (I.hok.laid k hp ⟨by rw [List.length_map, sizeLine_eq]; omega, _, n, vals_of_refs L', hn⟩) (by rw [g]; exact I.bare) (fun _ z => nomatch z)
  obtain ⟨h', g', d', t', o'⟩ := s'
  cases o
  exact ⟨.ref d, _, J, rfl, q L' d pm ((pm.map (·.2)).nodup_iff.mpr R.nd) pw fr⟩
end
end DLS
namespace DL
open PySem PySem.Spec PyProof.Rows L2 DLS
def prD (p : Int × Int) : D := .tup [.int p.1, .int p.2]
def ltI2 (p q : Int × Int) : Prop := p.1 < q.1 ∨ (p.1 = q.1 ∧ p.2 < q.2)
instance (p q : Int × Int) : Decidable (ltI2 p q) := by unfold ltI2; infer_instance
def insU (p : Int × Int) : List (Int × Int) → List (Int × Int)
  | [] => [p]
  | q :: r => if ltI2 p q then p :: q :: r else if p = q then q :: r else q :: insU p r
def sortU (ps : List (Int × Int)) : List (Int × Int) := ps.foldr insU []
theorem ltI2_irr (p : Int × Int) : ¬ ltI2 p p := by unfold ltI2; omega
theorem ltI2_tr {p q r : Int × Int} (h : ltI2 p q) (g : ltI2 q r) : ltI2 p r := by unfold ltI2 at *; omega
theorem ltI2_tri (p q : Int × Int) : ltI2 p q ∨ p = q ∨ ltI2 q p := by
  obtain ⟨a, b⟩ := p
  obtain ⟨c, d⟩ := q
  unfold ltI2
  simp only [Prod.mk.injEq]
  omega
theorem mem_insU {p x : Int × Int} : ∀ {l : List (Int × Int)}, x ∈ insU p l ↔ x = p ∨ x ∈ l
  | [] => by simp [insU]
  | q :: r => by
    unfold insU
    split
    · simp
    · split
      · rename_i e; subst e; simp
      · rw [List.mem_cons, mem_insU, List.mem_cons]
        exact ⟨fun h => by rcases h with h | h | h <;> simp [h], fun h => by rcases h with h | h | h <;> simp [h]⟩
theorem insU_srt {p : Int × Int} : ∀ {l : List (Int × Int)}, l.Pairwise ltI2 → (insU p l).Pairwise ltI2
  | [], _ => by simp [insU]
  | q :: r, h => by
    unfold insU
    obtain ⟨h1, h2⟩ := List.pairwise_cons.mp h
    split
    · rename_i e
      exact List.pairwise_cons.mpr ⟨fun x hx => by
        rcases List.mem_cons.mp hx with z | z
        · rw [z]; exact e
        · exact ltI2_tr e (h1 x z), h⟩
    · split
      · exact h
      · rename_i n1 n2
        refine List.pairwise_cons.mpr ⟨fun x hx => ?_, insU_srt h2⟩
        rcases mem_insU.mp hx with z | z
        · rw [z]
          rcases ltI2_tri p q with z | z | z
          · exact absurd z n1
          · exact absurd z n2
          · exact z
        · exact h1 x z
theorem mem_sortU {x : Int × Int} : ∀ {l : List (Int × Int)}, x ∈ sortU l ↔ x ∈ l
  | [] => by simp [sortU]
  | p :: l => by
    show x ∈ insU p (sortU l) ↔ _
    rw [mem_insU, mem_sortU, List.mem_cons]
theorem insU_len {p : Int × Int} : ∀ {l : List (Int × Int)}, (insU p l).length ≤ l.length + 1
  | [] => Nat.le_refl _
  | q :: r => by
    have ih := insU_len (p := p) (l := r)
    unfold insU
    split
    · exact Nat.le_refl _
    · split
      · exact Nat.le_succ _
      · exact Nat.succ_le_succ ih
theorem sortU_len : ∀ (l : List (Int × Int)), (sortU l).length ≤ l.length
  | [] => Nat.le_refl _
  | p :: l => Nat.le_trans (insU_len (p := p) (l := sortU l)) (Nat.succ_le_succ (sortU_len l))
theorem sortU_srt : ∀ (l : List (Int × Int)), (sortU l).Pairwise ltI2
  | [] => .nil
  | p :: l => insU_srt (sortU_srt l)
theorem srt_uniq : ∀ (l m : List (Int × Int)), l.Pairwise ltI2 → m.Pairwise ltI2 → (∀ x, x ∈ l ↔ x ∈ m) → l = m
  | [], [], _, _, _ => rfl
  | [], y :: m, _, _, h => absurd ((h y).mpr List.mem_cons_self) (by simp)
  | x :: l, [], _, _, h => absurd ((h x).mp List.mem_cons_self) (by simp)
  | x :: l, y :: m, hl, hm, h => by
    obtain ⟨l1, l2⟩ := List.pairwise_cons.mp hl
    obtain ⟨m1, m2⟩ := List.pairwise_cons.mp hm
    have e : x = y := by
      rcases List.mem_cons.mp ((h x).mp List.mem_cons_self) with z | z
      · exact z
      · rcases List.mem_cons.mp ((h y).mpr List.mem_cons_self) with w | w
        · exact w.symm
        · exact absurd (ltI2_tr (m1 x z) (l1 y w)) (ltI2_irr y)
    subst e
    refine congrArg _ (srt_uniq l m l2 m2 fun z => ⟨fun hz => ?_, fun hz => ?_⟩)
    · rcases List.mem_cons.mp ((h z).mp (List.mem_cons_of_mem _ hz)) with w | w
      · subst w; exact absurd (l1 z hz) (ltI2_irr z)
      · exact w
    · rcases List.mem_cons.mp ((h z).mpr (List.mem_cons_of_mem _ hz)) with w | w
      · subst w; exact absurd (m1 z hz) (ltI2_irr z)
      · exact w
theorem sortU_id {l : List (Int × Int)} (h : l.Pairwise ltI2) : sortU l = l := srt_uniq _ _ (sortU_srt l) h fun _ => mem_sortU
def dSortSet (x : D) (R : D → Prop) : Prop := match x with
  | .lst ds => ∃ ps : List (Int × Int), ds = ps.map prD ∧ ps.length < 64 ∧ R (.lst ((sortU ps).map prD))
  | _ => False
section
variable {c : Cfg} {Av : Addr → Prop} {H : Hp}
theorem RepL.pairs : ∀ {ps : List (Int × Int)} {vs : List V}, RepL c Av H vs (ps.map prD) → ∃ ks : List (Addr × List Int), vs = ks.map (fun q => V.ref q.1) ∧ ks.map (·.2) = ps.map (fun p => [p.1, p.2]) ∧
    ∀ q ∈ ks, SqT c.K H q.1 (q.2.map V.int) ∧ q.2.length = 2 ∧ Rep c Av H (V.ref q.1) (prD (pk q.2))
  | [], _, .nil => ⟨[], rfl, rfl, fun _ h => nomatch h⟩
  | (i, j) :: ps, _, .cons r rl => by
    obtain ⟨ks, e1, e2, h⟩ := RepL.pairs rl
    have r' : Rep c Av H _ (.tup [.int i, .int j]) := r
    cases r' with
    | @tup a us _ n rr =>
      cases rr with
      | cons x1 rr => cases rr with
        | cons x2 rr =>
          cases rr; cases x1; cases x2
          refine ⟨(a, [i, j]) :: ks, by rw [e1] <;> rfl, by rw [List.map_cons, e2] <;> rfl, fun q hq => ?_⟩
          rcases List.mem_cons.mp hq with z | z
          · subst z; exact ⟨n.sq, rfl, r⟩
          · exact h q z
theorem RepL.refs : ∀ {ks : List (Addr × List Int)}, (∀ q ∈ ks, Rep c Av H (V.ref q.1) (prD (pk q.2))) → RepL c Av H (ks.map fun q => V.ref q.1) ((ks.map fun q => pk q.2).map prD)
  | [], _ => .nil
  | q :: ks, h => .cons (h q List.mem_cons_self) (RepL.refs fun r hr => h r (List.mem_cons_of_mem _ hr))
end
theorem sqT_upd {K : PySem.W.Frag} {H : Hp} {b S : Addr} {o : HO} {vs : List V} (h : SqT K H b vs) (hS : H S = none) : SqT K (upd H S o) b vs := by
  rcases h with h | h
  · refine .inl ?_
    rcases h with h | ⟨o', h⟩
    · exact .inl (by rw [upd_ne (ne_of_none h hS)]; exact h)
    · exact .inr ⟨o', by rw [upd_ne (ne_of_none h hS)]; exact h⟩
  · exact .inr h
theorem lift_sortSet {X : Cx} {own : List Nat} {p : TED} (P : Program) (w : World) : ∀ σ H Q, lift X.K own .fresh (p1 dSortSet p) σ H Q → tCB (rSortP X.K P w) (tCons (tCB (rSetOfT X.K P w) (tCons (lift X.K own .weak p) tNil)) tNil) σ H Q := fun σ H Q ⟨c, A, ρ, R, hk, E, hp, f⟩ => ⟨c, A, ρ, _, hk, E, hp, fun c1 v H1 d t1 r1 g1 => by
  cases d with
  | lst ds =>
    obtain ⟨ps, rfl, h64, g⟩ := g1
    obtain ⟨a, vs, rfl, z1, n1, rl⟩ := RepW.lst r1
    obtain ⟨ks, rfl, e2, hks⟩ := RepL.pairs rl
    have ek : c1.K = X.K := t1.kk.trans hk
    have lk : ks.length = ps.length := by
      have := congrArg List.length e2
      rwa [List.length_map, List.length_map] at this
    refine ⟨a, ks, rfl, .inl (.inl n1), fun q hq => ek ▸ (hks q hq).1, by omega, fun S L hS hsub hall => ?_⟩
    refine ⟨S, L, rfl, upd_same, fun q hq => sqT_upd (ek ▸ (hks q (hsub q hq)).1) hS, fun q hq => (hks q (hsub q hq)).2.1, fun L' p pm nd pw hp => ?_⟩
    have t2 : Step c H c1 (upd H1 S (SetTO P w S L)) := t1.more hS
    have e3 : (L'.map fun q => pk q.2) = sortU ps := by
      refine srt_uniq _ _ ?_ (sortU_srt ps) fun x => ?_
      · have nd2 : L'.Pairwise (fun q r => q.2 ≠ r.2) := List.pairwise_map.mp nd
        refine List.pairwise_map.mpr (List.Pairwise.imp_of_mem (fun {q r} hq hr h => ?_) (pw.and nd2))
        obtain ⟨h1, h2⟩ := h
        have l1 := (hks q (hsub q (pm.mem_iff.mp hq))).2.1
        have l2 := (hks r (hsub r (pm.mem_iff.mp hr))).2.1
        rcases ltI2_tri (pk q.2) (pk r.2) with z | z | z
        · exact z
        · refine absurd ?_ h2
          generalize q.2 = u at *
          generalize r.2 = w at *
          match u, w, l1, l2, z with
          | [i, j], [i', j'], _, _, z =>
            have z1 : i = i' := congrArg Prod.fst z
            have z2 : j = j' := congrArg Prod.snd z
            rw [z1, z2]
        · rw [SrtO.lexB_iff.mpr z] at h1
          cases h1
      · rw [mem_sortU, List.mem_map]
        constructor
        · rintro ⟨q, hq, rfl⟩
          have m : q.2 ∈ ks.map (·.2) := List.mem_map.mpr ⟨q, hsub q (pm.mem_iff.mp hq), rfl⟩
          rw [e2] at m
          obtain ⟨y, hy, e⟩ := List.mem_map.mp m
          rw [← e]
          exact hy
        · intro hx
          have m : [x.1, x.2] ∈ ks.map (·.2) := by rw [e2]; exact List.mem_map.mpr ⟨x, hx, rfl⟩
          obtain ⟨q, hq, e⟩ := List.mem_map.mp m
          obtain ⟨r, hr, e'⟩ := List.mem_map.mp (hall q hq)
          exact ⟨r, pm.mem_iff.mpr hr, by rw [e', e] <;> rfl⟩
    have E2 := E.step t2
    have lz : (L'.map fun q => V.ref q.1).length ≤ sizeLine := by
      have := congrArg List.length e3
      rw [List.length_map] at this ⊢
      have h1 := sortU_len ps
      exact sz_small (by omega)
    refine f c1 (.ref p) _ (.lst ((sortU ps).map prD)) (t2.more hp) (Fr.back t2 (Fr.newL E2 hp lz ?_)) g
    rw [← e3]
    refine RepL.refs fun q hq => ?_
    exact Rep.mv rfl (fun _ _ z => z) (fun b o n e => ⟨n, by rw [upd_ne (ne_of_none e hS)]; exact e⟩) _ _ (hks q (hsub q (pm.mem_iff.mp hq))).2.2
  | _ => exact g1.elim⟩
theorem e_sortSet {X : Cx} {own : List Nat} {e : Expr} {p : TED} {k : Nat} {pn p2 pos pos2 : Pos} (hc : X.calm = true) (hr : Room k X.A) (hm : X.mg "sorted" = none) (hm2 : X.mg "set" = none) (he : PE X e (lift X.K own .weak p)) (hg : Gl X "sorted" := by rfl) (hg2 : Gl X "set" := by rfl)
    (hs : starEach [e] X.env = (false, eval e X.env) :: starEach [] X.env := by rfl)
    (hs2 : starEach [.Call (.Name "set" p2) [e] [] pos2] X.env = (false, eval (.Call (.Name "set" p2) [e] [] pos2) X.env) :: starEach [] X.env := by rfl) :
    PE X (.Call (.Name "sorted" pn) [.Call (.Name "set" p2) [e] [] pos2] [] pos) (lift X.K own .fresh (p1 dSortSet p)) :=
  pe_imp (pe_callB (cr_sortP hc) hg hm (by decide +kernel) (pa_cons (pe_callTy (cr_setOfT hc hr.units) hg2 hm2 (by decide +kernel) (pa_cons he pa_nil hs) (by decide) (by decide) hs rfl) pa_nil hs2) (by decide) (by decide) hs2 rfl) (lift_sortSet X.prog X.w)
end DL

set_option Elab.async false
set_option linter.all false
set_option maxRecDepth 100000
set_option maxHeartbeats 4000000
namespace DLZ
open PySem PySem.Spec PyProof.Rows L2
def IsB (b : Bool) (h : Heap) (l : Addr) (items : Array Value) : Prop := if b = true then h.IsList l items else h.IsTuple l items
def ItB (b : Bool) (h : Heap) (it l : Addr) (i : Nat) : Prop := if b = true then h.IsListIter it l i else h.IsTupleIter it l i
def SqB (K : PySem.W.Frag) (b : Bool) (H : Hp) (l : Addr) (xs : List V) : Prop := if b = true then SqL K H l xs else SqT K H l xs
theorem IsB.keep {b : Bool} {h h' : Heap} {l : Addr} {items : Array Value} (x : IsB b h l items) (k : ∀ o, h.get? l = some o → h'.get? l = some o) : IsB b h' l items := by
  cases b
  · obtain ⟨o, ho, r⟩ := (show h.IsTuple l items from x)
    exact (show h'.IsTuple l items from ⟨o, k o ho, r⟩)
  · obtain ⟨o, ho, r⟩ := (show h.IsList l items from x)
    exact (show h'.IsList l items from ⟨o, k o ho, r⟩)
theorem ItB.keep {b : Bool} {h h' : Heap} {it l : Addr} {i : Nat} (x : ItB b h it l i) (k : ∀ o, h.get? it = some o → h'.get? it = some o) : ItB b h' it l i := by
  cases b
  · exact (show h'.IsTupleIter it l i from Heap.IsTupleIter.at (show h.IsTupleIter it l i from x) k)
  · exact (show h'.IsListIter it l i from Heap.IsListIter.at (show h.IsListIter it l i from x) k)
theorem ItB.obj {b : Bool} {h : Heap} {it l : Addr} {i : Nat} (x : ItB b h it l i) : ∃ o, h.get? it = some o ∧ ∀ v, o.data ≠ .cell v := by
  cases b
  · obtain ⟨o, ho, _, hd⟩ := (show h.IsTupleIter it l i from x)
    exact ⟨o, ho, fun v q => by rw [hd] at q; cases q⟩
  · obtain ⟨o, ho, _, hd⟩ := (show h.IsListIter it l i from x)
    exact ⟨o, ho, fun v q => by rw [hd] at q; cases q⟩
section
variable {prog : Program} {w : World} {A : Around} {E : Value → Shared → Prop} {s : Shared}
theorem drawsB (hh : A.handled = none) (b : Bool) (it l : Addr) (hne : l ≠ it) (items : Array Value) : Draws prog w A it [it, l] items.size (fun i v => items[i]? = some v) (fun i h => ItB b h it l i ∧ IsB b h l items) where
  live := fun i h st => by obtain ⟨o, ho, _⟩ := st.1.obj; exact ⟨o, ho⟩
  frame := fun i h h' st k => ⟨st.1.keep fun o e => k it (by simp) o e, st.2.keep fun o e => k l (by simp) o e⟩
  item := fun i s Q E hi st q => by
    obtain ⟨h1, h2⟩ := st
    have hx : items[i]? = some items[i] := Array.getElem?_eq_getElem hi
    cases b
    · exact RZ.nextOf_tuple_item (show s.heap.IsTupleIter it l i from h1) (show s.heap.IsTuple l items from h2) hx fun h' a c => q _ h' s.toks hx ⟨a, IsB.keep (b := false) h2 fun o e => c.extBut l o hne e⟩ c
    · exact (Draws.list hh it l hne items).item i s Q E hi ⟨h1, h2⟩ fun x h' tk p st' sb => q x h' tk p st' sb
  done := fun s Q E st q => by
    obtain ⟨h1, h2⟩ := st
    cases b
    · exact RZ.nextOf_tuple_end hh (show s.heap.IsTupleIter it l items.size from h1) (show s.heap.IsTuple l items from h2) (Array.getElem?_eq_none (Nat.le_refl _)) q
    · exact (Draws.list hh it l hne items).done s Q E ⟨h1, h2⟩ q
theorem sideB (hh : A.handled = none) (b : Bool) {it l : Addr} (hne : l ≠ it) {items : Array Value} {i : Nat} {h : Heap} (h1 : ItB b h it l i) (h2 : IsB b h l items) : ∃ (n : Nat) (Pv : Nat → Value → Prop) (St : Nat → Heap → Prop), Draws prog w A it [it, l] n Pv St ∧ St i h ∧ i ≤ n ∧ (items.size ≤ i → i = n) := by
  by_cases hi : i < items.size
  · exact ⟨_, _, _, drawsB hh b it l hne items, ⟨h1, h2⟩, Nat.le_of_lt hi, fun z => by omega⟩
  · refine ⟨i, fun _ _ => True, fun k h => k = i ∧ ItB b h it l k ∧ IsB b h l items, ⟨fun k h st => ?_, fun k h h' st kp => ⟨st.1, st.2.1.keep fun o e => kp it (by simp) o e, st.2.2.keep fun o e => kp l (by simp) o e⟩, fun k s Q E hk st => ?_, fun s Q E st q => ?_⟩, ⟨rfl, h1, h2⟩, Nat.le_refl _, fun _ => rfl⟩
    · obtain ⟨o, ho, _⟩ := st.2.1.obj; exact ⟨o, ho⟩
    · exact absurd st.1 (Nat.ne_of_lt hk)
    · obtain ⟨_, g1, g2⟩ := st
      have hx : items[i]? = none := Array.getElem?_eq_none (by omega)
      cases b
      · exact RZ.nextOf_tuple_end hh (show s.heap.IsTupleIter it l i from g1) (show s.heap.IsTuple l items from g2) hx q
      · exact wpAny_nextOf_list_end hh (show s.heap.IsListIter it l i from g1) (show s.heap.IsList l items from g2) hx q
theorem iterB {b : Bool} {l : Addr} {items : Array Value} {Q : Value → Shared → Prop} (x : IsB b s.heap l items) (q : Q (.ref s.heap.objs.size) { s with heap := s.heap.push { cls := .type (if b = true then "list_iterator" else "tuple_iterator"), data := .fields #[.ref l, .int 0 0] } }) :
    wpAny (model prog w) A (pyIter (.ref l)) Q E s := by
  cases b
  · exact wpAny_pyIter_tuple (show s.heap.IsTuple l items from x) q
  · exact wpAny_pyIter_list (show s.heap.IsList l items from x) q
end
def itO (b : Bool) (l : Addr) : Obj := { cls := .type (if b = true then "list_iterator" else "tuple_iterator"), data := .fields #[.ref l, .int 0 0] }
abbrev zB1 (h : Heap) (b1 : Bool) (l1 : Addr) : Heap := h.push (itO b1 l1)
abbrev zB2 (h : Heap) (b1 b2 : Bool) (l1 l2 : Addr) : Heap := (zB1 h b1 l1).push (itO b2 l2)
abbrev zB3 (h : Heap) (b1 b2 : Bool) (l1 l2 : Addr) : Heap := (zB2 h b1 b2 l1 l2).push { cls := .type "tuple", data := .seq #[.ref h.objs.size, .ref (zB1 h b1 l1).objs.size] }
abbrev zB4 (h : Heap) (b1 b2 : Bool) (l1 l2 : Addr) : Heap := (zB3 h b1 b2 l1 l2).push { cls := .type "tuple", data := .seq #[.none, .none] }
abbrev zB5 (h : Heap) (b1 b2 : Bool) (l1 l2 : Addr) : Heap := (zB4 h b1 b2 l1 l2).push { cls := .type "zip", data := .fields #[.none, .bool false, .bool false, .ref (zB2 h b1 b2 l1 l2).objs.size, .ref (zB3 h b1 b2 l1 l2).objs.size] }
theorem meetsB (b1 b2 : Bool) (l1 l2 : Addr) (xs ys : Array Value) : Meets (Builtin.«zip.__new__» ⟨[.type "zip", .ref l1, .ref l2], []⟩) (fun _ R s => IsB b1 s.heap l1 xs ∧ IsB b2 s.heap l2 ys ∧
      R (.ok (.ret (.ref (zB4 s.heap b1 b2 l1 l2).objs.size))) { s with heap := zB5 s.heap b1 b2 l1 l2 }) :=
  .of_wp fun prog w A R s h => by
    obtain ⟨hp, g, d, tk, os⟩ := s
    obtain ⟨x1, x2, h⟩ := h
    have hsub := sub_zip
    have y1 : IsB b1 (Shared.heap ⟨hp, g, d, tk, os⟩) l1 xs := x1
    have y2 : IsB b2 (Shared.heap ⟨hp.push { cls := .type (if b1 = true then "list_iterator" else "tuple_iterator"), data := .fields #[.ref l1, .int 0 0] }, g, d, tk, os⟩) l2 ys := x2.keep fun o e => Heap.get?_push_of_some _ e
    wp_walk using iterB y1, iterB y2
    exact ⟨_, rfl, h⟩
section
variable {prog : Program} {w : World} {A : Around} {E : Value → Shared → Prop} {s : Shared}
theorem callB {b1 b2 : Bool} {l1 l2 : Addr} {xs ys : Array Value} {Q : Value → Shared → Prop} (x1 : IsB b1 s.heap l1 xs) (x2 : IsB b2 s.heap l2 ys)
    (h : ∀ h', IsZip h' (s.heap.objs.size + 4) (s.heap.objs.size + 2) (s.heap.objs.size + 3) .none → IsTupOf2 h' (s.heap.objs.size + 2) (.ref s.heap.objs.size) (.ref (s.heap.objs.size + 1)) → IsTupOf2 h' (s.heap.objs.size + 3) .none .none →
      ItB b1 h' s.heap.objs.size l1 0 → ItB b2 h' (s.heap.objs.size + 1) l2 0 → (∀ c o, s.heap.get? c = some o → h'.get? c = some o) → Q (.ref (s.heap.objs.size + 4)) { s with heap := h' }) :
    wpAny (model prog w) A (call (.type "zip") [.ref l1, .ref l2]) Q E s := by
  refine callType_new F.called_zip (by decide) (F.typeCall_zip_2 _ _) (F.newCall_zip_2 _ _) (fun obj => F.args_object_init_3 obj _ _) F.entry_zip_new (meetsB b1 b2 l1 l2 xs ys) ⟨x1, x2, (?_ : _ ∧ _)⟩
  have n1 : (zB1 s.heap b1 l1).objs.size = s.heap.objs.size + 1 := Heap.size_push ..
  have n2 : (zB2 s.heap b1 b2 l1 l2).objs.size = s.heap.objs.size + 2 := by rw [Heap.size_push, n1]
  have n3 : (zB3 s.heap b1 b2 l1 l2).objs.size = s.heap.objs.size + 3 := by rw [Heap.size_push, n2]
  have n4 : (zB4 s.heap b1 b2 l1 l2).objs.size = s.heap.objs.size + 4 := by rw [Heap.size_push, n3]
  have up : ∀ {h : Heap} {c : Addr} {o o2 : Obj}, h.get? c = some o → (h.push o2).get? c = some o := fun e => Heap.get?_push_of_some _ e
  have m5 : (zB5 s.heap b1 b2 l1 l2).get? (zB4 s.heap b1 b2 l1 l2).objs.size = some _ := Heap.get?_push_size _ rfl
  have m4 : (zB5 s.heap b1 b2 l1 l2).get? (zB3 s.heap b1 b2 l1 l2).objs.size = some _ := up (Heap.get?_push_size _ rfl)
  have m3 : (zB5 s.heap b1 b2 l1 l2).get? (zB2 s.heap b1 b2 l1 l2).objs.size = some _ := up (up (Heap.get?_push_size _ rfl))
  have m2 : (zB5 s.heap b1 b2 l1 l2).get? (zB1 s.heap b1 l1).objs.size = some (itO b2 l2) := up (up (up (Heap.get?_push_size _ rfl)))
  have m1 : (zB5 s.heap b1 b2 l1 l2).get? s.heap.objs.size = some (itO b1 l1) := up (up (up (up (Heap.get?_push_size _ rfl))))
  rw [n2, n3, n4] at m5
  rw [n1, n2] at m3
  rw [n3] at m4
  rw [n1] at m2
  rw [n4]
  have mk : ∀ (b : Bool) (h : Heap) (it l : Addr), h.get? it = some (itO b l) → ItB b h it l 0 := fun b h it l e => by
    cases b
    · exact (show h.IsTupleIter it l 0 from ⟨_, e, rfl, rfl⟩)
    · exact (show h.IsListIter it l 0 from ⟨_, e, rfl, rfl⟩)
  exact ⟨⟨_, m5, rfl⟩, h _ m5 m3 m4 (mk _ _ _ _ m1) (mk _ _ _ _ m2) fun c o x => up (up (up (up (up x))))⟩
end
def ItzB (K : PySem.W.Frag) (b1 b2 : Bool) (a b : Addr) : It :=
  ⟨fun i H => ∃ (xs ys : List V) (x y : V), SqB K b1 H a xs ∧ SqB K b2 H b ys ∧ xs[i]? = some x ∧ ys[i]? = some y,
    fun i H v H' => ∃ T x y, v = .ref T ∧ H T = none ∧ H' = upd H T (.tup [x, y]) ∧ (∀ xs, SqB K b1 H a xs → xs[i]? = some x) ∧ ∀ ys, SqB K b2 H b ys → ys[i]? = some y,
    fun i H => ∃ xs ys : List V, SqB K b1 H a xs ∧ SqB K b2 H b ys ∧ (xs.length ≤ i ∨ ys.length ≤ i)⟩
section
variable {X : Cx} {pins : List (Addr × Obj)} {σ : L2.St} {H : Hp} {s : Shared}
theorem sqB_get (I : Inv X pins σ H s) {b : Bool} {a : Addr} {xs : List V} (h : SqB X.K b H a xs) : ∃ its : List Value, Vals xs its ∧ IsB b s.heap a its.toArray := by
  cases b
  · obtain ⟨its, rv, p, _⟩ := I.tuple (show SqT X.K H a xs from h)
    exact ⟨its, rv, p⟩
  · obtain ⟨its, rv, p, _⟩ := I.list (show SqL X.K H a xs from h)
    exact ⟨its, rv, p.isList⟩
theorem sqB_inj (I : Inv X pins σ H s) {b : Bool} {a : Addr} {xs ys : List V} (h : SqB X.K b H a xs) (g : SqB X.K b H a ys) : xs = ys := by
  cases b
  · exact I.tuple_inj (show SqT X.K H a xs from h) g
  · exact I.list_inj (show SqL X.K H a xs from h) g
theorem IsB.lt {b : Bool} {h : Heap} {a : Addr} {items : Array Value} (x : IsB b h a items) : a < h.objs.size := by
  cases b
  · obtain ⟨o, ho, _⟩ := (show h.IsTuple a items from x); exact Heap.lt_size ho
  · obtain ⟨o, ho, _⟩ := (show h.IsList a items from x); exact Heap.lt_size ho
end
theorem turnB {P : Program} {w : World} {K : PySem.W.Frag} {elts : List Expr} {kk : Nat} {tpos : Pos} {b1 b2 : Bool} {a b z TI TO i1 i2 : Addr} (D : ZipApart z TI TO i1 i2 a b) :
    Turn P w K (.Tuple elts kk tpos) (ItzB K b1 b2 a b) [z, TI, TO, i1, i2] z (fun i h => IsZip h z TI TO .none ∧ IsTupOf2 h TI (.ref i1) (.ref i2) ∧ (∃ x y, IsTupOf2 h TO x y) ∧ ItB b1 h i1 a i ∧ ItB b2 h i2 b i) where
  mem := List.mem_cons_self
  obj := fun i h ⟨hz, hTI, ⟨x, y, hTO⟩, h1, h2⟩ c hc => by
    have e' : c = z ∨ c = TI ∨ c = TO ∨ c = i1 ∨ c = i2 := by simpa using hc
    rcases e' with q | q | q | q | q <;> subst q
    · exact ⟨_, hz, fun v q => nomatch q⟩
    · exact ⟨_, hTI, fun v q => nomatch q⟩
    · exact ⟨_, hTO, fun v q => nomatch q⟩
    · exact h1.obj
    · exact h2.obj
  keep := fun i h h' ⟨hz, hTI, ⟨x, y, hTO⟩, h1, h2⟩ k => ⟨k z (by simp) _ hz, k TI (by simp) _ hTI, ⟨x, y, k TO (by simp) _ hTO⟩, h1.keep fun o q => k i1 (by simp) o q, h2.keep fun o q => k i2 (by simp) o q⟩
  item := by
    rintro X rfl rfl rfl hc i pins s σ H E I hf ⟨hz, hTI, ⟨x0, y0, hTO⟩, h1, h2⟩ ⟨xs, ys, x, y, hqx, hqy, hx, hy⟩
    obtain ⟨its, rv, p⟩ := sqB_get I hqx
    obtain ⟨its2, rv2, p2⟩ := sqB_get I hqy
    obtain ⟨u, hu, ru⟩ := rv.get hx
    obtain ⟨u2, hu2, ru2⟩ := rv2.get hy
    have zl : z < s.heap.objs.size := Heap.lt_size hz
    have hh : X.A.in1.handled = none := by have := I.ok.hd hc; simpa using this
    have S : ZipSep2 z TI TO i1 i2 [i1, a] [i2, b] := ⟨D.TIz, D.TOz, D.TITO, D.TIi1, by simp, by simp [D.i1z.symm, D.l1z.symm], by simp [D.TOi1, D.l1TO.symm], D.TIi2, by simp, by simp [D.i2z.symm, D.l2z.symm], by simp [D.TOi2, D.l2TO.symm], by simp [D.i12, D.l2i1.symm], by simp [D.i12.symm, D.l1i2.symm]⟩
    have l1 : i < its.toArray.size := by have := (List.getElem?_eq_some_iff.mp hu).1; simpa using this
    have l2 : i < its2.toArray.size := by have := (List.getElem?_eq_some_iff.mp hu2).1; simpa using this
    refine wpAny_pyNext_zipD2_item S (drawsB hh b1 i1 a D.l1i1 its.toArray) (drawsB hh b2 i2 b D.l2i2 its2.toArray) hz hTI hTO ⟨h1, p⟩ ⟨h2, p2⟩ l1 l2 fun v1 v2 h' tk e1 e2 z' TO' st1 st2 hT hsz hk => ?_
    have f1 : v1 = u := Option.some.inj (e1.symm.trans (by simpa using hu))
    have f2 : v2 = u2 := Option.some.inj (e2.symm.trans (by simpa using hu2))
    subst f1; subst f2
    refine ⟨_, rfl, wpAny_letOwnedTupleGo_zip (s := { s with heap := h', toks := tk }) z' fun h'' z'' sb => ?_⟩
    have hT2 : h''.get? s.heap.objs.size = some { cls := .type "tuple", data := .seq #[v1, v2] } := (sb.2 _ (Nat.ne_of_gt zl)).trans hT
    have new : ObjOk X.prog X.w (upd H s.heap.objs.size (.tup [x, y])) h'' s.heap.objs.size (.tup [x, y]) := ⟨by show 2 ≤ sizeLine; decide, [v1, v2], .cons ru (.cons ru2 .nil), ⟨_, hT2, rfl, _, rfl⟩⟩
    have kp : ∀ c o, c ∉ [z, TI, TO, i1, i2] → s.heap.get? c = some o → h''.get? c = some o := fun c o hb q => by
      simp only [List.mem_cons, List.not_mem_nil, or_false, not_or] at hb
      exact (sb.2 c hb.1).trans (hk c o hb.1 hb.2.2.1 hb.2.2.2.1 hb.2.2.2.2 q)
    have I1 : Inv X pins σ (upd H s.heap.objs.size (.tup [x, y])) { s with heap := h'', toks := tk } := I.turnedNew (t' := tk) kp hf (Nat.le_refl _) new
    refine ⟨.ref s.heap.objs.size, _, I1, rfl, ⟨_, x, y, rfl, I.hok.fresh (Nat.le_refl _), rfl, fun l hl => by rw [sqB_inj I hl hqx]; exact hx, fun l hl => by rw [sqB_inj I hl hqy]; exact hy⟩, ⟨z'', (sb.2 _ D.TIz).trans (hk _ _ D.TIz D.TITO D.TIi1 D.TIi2 hTI), ⟨v1, v2, (sb.2 _ D.TOz).trans TO'⟩, st1.1.keep fun o q => (sb.2 _ D.i1z).trans q, st2.1.keep fun o q => (sb.2 _ D.i2z).trans q⟩, fun c hcm => ?_⟩
    have lt : c < s.heap.objs.size := by
      have e' : c = z ∨ c = TI ∨ c = TO ∨ c = i1 ∨ c = i2 := by simpa using hcm
      rcases e' with q | q | q | q | q <;> subst q
      · exact zl
      · exact Heap.lt_size hTI
      · exact Heap.lt_size hTO
      · obtain ⟨_, e1, _⟩ := h1.obj; exact Heap.lt_size e1
      · obtain ⟨_, e1, _⟩ := h2.obj; exact Heap.lt_size e1
    rw [upd_ne (Nat.ne_of_lt lt)]
    exact (hf c hcm).1
  done := by
    rintro X rfl rfl rfl hc i pins s σ H E I hf ⟨hz, hTI, ⟨x0, y0, hTO⟩, h1, h2⟩ ⟨xs, ys, hqx, hqy, hend⟩
    obtain ⟨its, rv, p⟩ := sqB_get I hqx
    obtain ⟨its2, rv2, p2⟩ := sqB_get I hqy
    have l1 := rv.length
    have l2 := rv2.length
    have hh : X.A.in1.handled = none := by have := I.ok.hd hc; simpa using this
    have S : ZipSep2 z TI TO i1 i2 [i1, a] [i2, b] := ⟨D.TIz, D.TOz, D.TITO, D.TIi1, by simp, by simp [D.i1z.symm, D.l1z.symm], by simp [D.TOi1, D.l1TO.symm], D.TIi2, by simp, by simp [D.i2z.symm, D.l2z.symm], by simp [D.TOi2, D.l2TO.symm], by simp [D.i12, D.l2i1.symm], by simp [D.i12.symm, D.l1i2.symm]⟩
    obtain ⟨n1, P1, St1, D1, s1, m1, e1⟩ := sideB (prog := X.prog) (w := X.w) hh b1 D.l1i1 h1 p
    obtain ⟨n2, P2, St2, D2, s2, m2, e2⟩ := sideB (prog := X.prog) (w := X.w) hh b2 D.l2i2 h2 p2
    have en : i = n1 ∨ i = n2 := hend.imp (fun z => e1 (by simp; omega)) fun z => e2 (by simp; omega)
    refine wpAny_pyNext_zipD2_end S D1 D2 hz hTI hTO s1 s2 m1 m2 en fun h' tk hk => ⟨rfl, I.turnedL (t' := tk) (ch := [z, TI, TO, i1, i2]) (fun c o hb q => ?_) hf⟩
    simp only [List.mem_cons, List.not_mem_nil, or_false, not_or] at hb
    exact hk c o hb.1 hb.2.2.1 hb.2.2.2.1 hb.2.2.2.2 q
  self := fun A i s Q E st h => wpAny_pyIter_zip st.1 h
def iZipB (K : PySem.W.Frag) (ta : TA) : TI := fun σ H R => ta σ H fun vs H1 => ∃ b1 b2 a b xs ys, vs = [V.ref a, V.ref b] ∧ SqB K b1 H1 a xs ∧ SqB K b2 H1 b ys ∧ R (ItzB K b1 b2 a b) H1
theorem pi_zipB {X : Cx} {e e2 : Expr} {ta : TA} {p pos tpos : Pos} {elts : List Expr} {kk : Nat} (hg : Gl X "zip") (hm : X.mg "zip" = none) (ha : PA X [e, e2] ta)
    (hs : starEach [e, e2] X.env = (false, eval e X.env) :: starEach [e2] X.env := by rfl) (hpl : (backTo pos (starEach [e2] X.env)).any (·.1) = false := by rfl) : PI X (.Tuple elts kk tpos) (.Call (.Name "zip" p) [e, e2] [] pos) (iZipB X.K ta) := by
  refine ⟨fun pins s σ H R I h => Call_ (ld_blt I hg hm PyProof.Rows.boot_zip (PyProof.Rows.callWith_type1 (thn (ha.run pos pins s σ H _ I h) fun us s1 ⟨vs, H1, I1, r1, q1⟩ => ?_) hs hpl))⟩
  obtain ⟨b1, b2, a, b, xs, ys, rfl, hqx, hqy, q⟩ := q1
  cases r1 with
  | cons r rr => cases rr with
    | cons r' rr =>
      cases rr; cases r; cases r'
      obtain ⟨its, rv, p1⟩ := sqB_get I1 hqx
      obtain ⟨its2, rv2, p2⟩ := sqB_get I1 hqy
      refine callB p1 p2 fun h' hz hTI hTO h1 h2 hk => wpAny_pyIter_zip hz ?_
      have I2 : Inv X pins σ H1 { s1 with heap := h' } := I1.kept (t' := s1.toks) hk
      refine ⟨s1.heap.objs.size + 4, [s1.heap.objs.size + 4, s1.heap.objs.size + 2, s1.heap.objs.size + 3, s1.heap.objs.size, s1.heap.objs.size + 1], _, _, H1, rfl, I2, turnB (PySem.W.ktu_apart s1.heap.objs.size a b p1.lt p2.lt), ⟨hz, hTI, ⟨_, _, hTO⟩, h1, h2⟩, fun c hcm => ?_, q⟩
      have le : s1.heap.objs.size ≤ c := by
        simp only [List.mem_cons, List.not_mem_nil, or_false] at hcm
        rcases hcm with q | q | q | q | q <;> rw [q] <;> first | exact Nat.le_refl _ | exact Nat.le_add_right _ _
      exact I1.fpOk le (I1.hok.fresh le)
end DLZ
namespace DL
open PySem PySem.Spec PyProof.Rows L2 DLZ
def dZipM (x y : D) (R : List D → Prop) : Prop := dSeq x fun xs => dSeq y fun ys => R (zipD xs ys)
def sZipM (pa : TAD) : TAD := fun ρ R => pa ρ fun ds => twoD ds fun x y => dZipM x y R
theorem dSeq_iff {x : D} {R : List D → Prop} (h : dSeq x R) : ∃ xs, (x = .lst xs ∨ x = .tup xs) ∧ R xs := by
  unfold dSeq at h
  split at h
  · exact ⟨_, .inl rfl, h⟩
  · exact ⟨_, .inr rfl, h⟩
  · exact h.elim
section
variable {c : Cfg} {own : List Nat} {A : Addr → Prop} {σ : L2.St} {ρ : PEnv} {H : Hp} {v : V} {x : D} {ds : List D}
theorem RepW.seqK (h : x = .lst ds ∨ x = .tup ds) (r : RepW c own A σ ρ H v x) : ∃ b a vs, v = .ref a ∧ SqB c.K b H a vs ∧ RepL c (Avd c own A σ ρ) H vs ds ∧ ∀ c2 H2, Step c H c2 H2 → SqB c.K b H2 a vs := by
  rcases h with rfl | rfl
  · obtain ⟨a, us, e, ha, rl, k⟩ := RepW.lstK r
    exact ⟨true, a, us, e, .inl (.inl ha), rl, k⟩
  · obtain ⟨a, us, e, ha, rl, k⟩ := RepW.tupK r
    exact ⟨false, a, us, e, ha, rl, k⟩
theorem Rep.seqK (h : x = .lst ds ∨ x = .tup ds) (r : Rep c (Avd c own A σ ρ) H v x) : ∃ b a vs, v = .ref a ∧ SqB c.K b H a vs ∧ RepL c (Avd c own A σ ρ) (DL.mask own σ ρ H) vs ds ∧ ∀ c2 H2, Step c (DL.mask own σ ρ H) c2 H2 → SqB c.K b H2 a vs := by
  rcases h with rfl | rfl
  · obtain ⟨a, us, e, ha, rl, k⟩ := Rep.lstK r
    exact ⟨true, a, us, e, .inl (.inl ha), rl, k⟩
  · obtain ⟨a, us, e, ha, rl, k⟩ := Rep.tupK r
    exact ⟨false, a, us, e, ha, rl, k⟩
end
theorem itzB_ok {c : Cfg} {Av : Addr → Prop} {H0 : Hp} {a b : Addr} {xs ys : List V} {ds es : List D} {b1 b2 : Bool} (hav : ∀ b, c.S b → Av b) (ha : ∀ c2 H2, Step c H0 c2 H2 → SqB c.K b1 H2 a xs) (hb : ∀ c2 H2, Step c H0 c2 H2 → SqB c.K b2 H2 b ys) (rx : RepL c Av H0 xs ds) (ry : RepL c Av H0 ys es) : ItOk c Av (ItzB c.K b1 b2 a b) H0 (zipD ds es) :=
  itz_any hav rx ry fun c2 H2 t i => ⟨fun hl => ⟨xs, ys, ha _ _ t, hb _ _ t, hl⟩, fun x y hx hy => ⟨⟨xs, ys, x, y, ha _ _ t, hb _ _ t, hx, hy⟩, fun v H3 ⟨T, x', y', e, hT, e3, h1, h2⟩ => ⟨T, e, hT, by
    have e1 := Option.some.inj ((h1 xs (ha _ _ t)).symm.trans hx)
    have e2 := Option.some.inj ((h2 ys (hb _ _ t)).symm.trans hy)
    rw [e3, e1, e2]⟩⟩⟩
theorem lift_zipMW (K : PySem.W.Frag) {own : List Nat} {pa : TAD} : ∀ σ H Q, liftI K own .weak (sZipM pa) σ H Q → iZipB K (liftA K own .weak 2 pa) σ H Q := fun σ H Q ⟨c, A, ρ, R, hk, E, hp, f⟩ => ⟨c, A, ρ, _, hk, E, hp, fun c1 vs H1 ds t r hn g => by
  obtain ⟨x, y, rfl, g⟩ := twoD_iff g
  obtain ⟨xs, hx, g⟩ := dSeq_iff g
  obtain ⟨ys, hy, g⟩ := dSeq_iff g
  have ek := t.kk.trans hk
  match r with
  | .cons r1 (.cons r2 .nil) =>
    obtain ⟨b1, a, us, rfl, q1, rl, k1⟩ := RepW.seqK hx r1
    obtain ⟨b2, b, ws, rfl, q2, rl2, k2⟩ := RepW.seqK hy r2
    have h := itzB_ok avdS k1 k2 rl rl2
    rw [ek] at h q1 q2
    exact ⟨b1, b2, a, b, us, ws, rfl, q1, q2, f c1 _ H1 _ t h g⟩⟩
theorem lift_zipMS (K : PySem.W.Frag) {own : List Nat} {pa : TAD} : ∀ σ H Q, liftI K own .strong (sZipM pa) σ H Q → iZipB K (liftA K own .strong 2 pa) σ H Q := fun σ H Q ⟨c, A, ρ, R, hk, E, hp, f⟩ => ⟨c, A, ρ, _, hk, E, hp, fun c1 vs H1 ds t r hn g => by
  obtain ⟨x, y, rfl, g⟩ := twoD_iff g
  obtain ⟨xs, hx, g⟩ := dSeq_iff g
  obtain ⟨ys, hy, g⟩ := dSeq_iff g
  have ek := t.kk.trans hk
  match r with
  | .cons r1 (.cons r2 .nil) =>
    obtain ⟨b1, a, us, rfl, q1, rl, k1⟩ := Rep.seqK hx r1
    obtain ⟨b2, b, ws, rfl, q2, rl2, k2⟩ := Rep.seqK hy r2
    have h := itzB_ok avdS k1 k2 rl rl2
    rw [ek] at h q1 q2
    exact ⟨b1, b2, a, b, us, ws, rfl, q1, q2, f c1 _ H1 _ t h g⟩⟩
section
variable {X : Cx} {own : List Nat} {pa : TAD} {e e2 : Expr} {p pos tpos : Pos} {elts : List Expr} {kk : Nat}
theorem i_zipMW (hm : X.mg "zip" = none) (ha : PA X [e, e2] (liftA X.K own .weak 2 pa)) (hg : Gl X "zip" := by rfl) (hs : starEach [e, e2] X.env = (false, eval e X.env) :: starEach [e2] X.env := by rfl) (hpl : (backTo pos (starEach [e2] X.env)).any (·.1) = false := by rfl) :
    PI X (.Tuple elts kk tpos) (.Call (.Name "zip" p) [e, e2] [] pos) (liftI X.K own .weak (sZipM pa)) := pi_imp (pi_zipB hg hm ha hs hpl) (lift_zipMW _)
theorem i_zipMS (hm : X.mg "zip" = none) (ha : PA X [e, e2] (liftA X.K own .strong 2 pa)) (hg : Gl X "zip" := by rfl) (hs : starEach [e, e2] X.env = (false, eval e X.env) :: starEach [e2] X.env := by rfl) (hpl : (backTo pos (starEach [e2] X.env)).any (·.1) = false := by rfl) :
    PI X (.Tuple elts kk tpos) (.Call (.Name "zip" p) [e, e2] [] pos) (liftI X.K own .strong (sZipM pa)) := pi_imp (pi_zipB hg hm ha hs hpl) (lift_zipMS _)
end
theorem x_sZipM {pa : TAD} {ρ : PEnv} {R : List D → Prop} : sZipM pa ρ R = pa ρ fun ds => twoD ds fun x y => dZipM x y R := propext Iff.rfl
theorem x_zipM {x y : D} {R : List D → Prop} : dZipM x y R = dSeq x fun xs => dSeq y fun ys => R (zipD xs ys) := propext Iff.rfl
end DL

set_option Elab.async false
set_option linter.all false
set_option maxRecDepth 100000
set_option maxHeartbeats 4000000
namespace DL
open PySem PySem.Spec PyProof.Rows L2 DLS
section
variable {X : Cx}
def rInT (K : PySem.W.Frag) : R2 := fun x y H Q => ∃ d ds, Dp K H x d ∧ Dp K H y (.tuple ds) ∧ SeqAt.shaped d = true ∧ SeqAt.shaped (.tuple ds) = true ∧ Q (.bl (ds.any fun z => PyData.eqv z d)) H
def rNotInT (K : PySem.W.Frag) : R2 := fun x y H Q => ∃ d ds, Dp K H x d ∧ Dp K H y (.tuple ds) ∧ SeqAt.shaped d = true ∧ SeqAt.shaped (.tuple ds) = true ∧ Q (.bl (!ds.any fun z => PyData.eqv z d)) H
theorem op_inT (hu : X.A.units + 65 < cLine) : OpR X (compareOp .In) (rInT X.K) := by
  rintro pins s σ H x y v u Q I rx ry ⟨d, ds, hd, he, sd, se, q⟩
  obtain ⟨as, r1⟩ := Dp.reads I d x v hd rx
  obtain ⟨bs, r2⟩ := Dp.reads I (.tuple ds) y u he ry
  exact SeqAt.in_tuple_reads r2 r1 (SeqAt.canLay_of_shaped se) (SeqAt.canLay_of_shaped sd) (room_in_shaped sd hu) ⟨.bl _, H, I, rfl, q⟩
theorem op_notInT (hu : X.A.units + 65 < cLine) : OpR X (compareOp .NotIn) (rNotInT X.K) := by
  rintro pins s σ H x y v u Q I rx ry ⟨d, ds, hd, he, sd, se, q⟩
  obtain ⟨as, r1⟩ := Dp.reads I d x v hd rx
  obtain ⟨bs, r2⟩ := Dp.reads I (.tuple ds) y u he ry
  exact SeqAt.notIn_tuple_reads r2 r1 (SeqAt.canLay_of_shaped se) (SeqAt.canLay_of_shaped sd) (room_in_shaped sd hu) ⟨.bl _, H, I, rfl, q⟩
theorem o_in {k : Nat} (hr : Room k X.A) : OpR X (compareOp .In) (fun x y H Q => rInD X.K x y H Q ∨ rInT X.K x y H Q) := (op_inD (by have := hr.un; omega)).or (op_inT (by have := hr.un; omega))
theorem o_notIn {k : Nat} (hr : Room k X.A) : OpR X (compareOp .NotIn) (fun x y H Q => rNotInD X.K x y H Q ∨ rNotInT X.K x y H Q) := (op_notInD (by have := hr.un; omega)).or (op_notInT (by have := hr.un; omega))
end
def dIn (x y : D) (R : D → Prop) : Prop := match y with
  | .lst ds => (okD 60 x = true ∧ okD 60 (.lst ds) = true) ∧ R (.bl (ds.any fun z => eqD z x))
  | .tup ds => (okD 60 x = true ∧ okD 60 (.tup ds) = true) ∧ R (.bl (ds.any fun z => eqD z x))
  | _ => False
def dNotIn (x y : D) (R : D → Prop) : Prop := match y with
  | .lst ds => (okD 60 x = true ∧ okD 60 (.lst ds) = true) ∧ R (.bl (!ds.any fun z => eqD z x))
  | .tup ds => (okD 60 x = true ∧ okD 60 (.tup ds) = true) ∧ R (.bl (!ds.any fun z => eqD z x))
  | _ => False
theorem any_py {x : D} (hx : okD 60 x = true) : ∀ {ds : List D} {n : Nat}, okD.okDs n ds = true → (toPy.toPys ds).any (fun z => PyData.eqv z (toPy x)) = ds.any fun z => eqD z x
  | [], _, _ => rfl
  | d :: ds, n, h => by
    have h' : okD n d = true ∧ okD.okDs n ds = true := by simpa [okD.okDs] using h
    show (PyData.eqv (toPy d) (toPy x) || (toPy.toPys ds).any _) = _
    rw [eqv_eqD d x n 60 h'.1 hx, any_py hx h'.2]
    rfl
theorem c_in {K : PySem.W.Frag} : C2 K (fun x y H Q => rInD K x y H Q ∨ rInT K x y H Q) .strong dIn := fun c own A σ ρ H v w d e R Q hk E r1 r2 g q => by
  cases e with
  | lst ds =>
    obtain ⟨⟨o1, o2⟩, g⟩ := g
    have d1 := r1.dp o1
    have d2 := r2.dp o2
    rw [hk] at d1 d2
    refine .inl ⟨_, _, d1, d2, okD_shaped o1, okD_shaped o2, ?_⟩
    rw [any_py o1 (n := 59) o2]
    exact q c _ H _ (Step.refl E.fok) (.bl _) g
  | tup ds =>
    obtain ⟨⟨o1, o2⟩, g⟩ := g
    have d1 := r1.dp o1
    have d2 := r2.dp o2
    rw [hk] at d1 d2
    refine .inr ⟨_, _, d1, d2, okD_shaped o1, okD_shaped o2, ?_⟩
    rw [any_py o1 (n := 59) o2]
    exact q c _ H _ (Step.refl E.fok) (.bl _) g
  | _ => exact g.elim
theorem c_notIn {K : PySem.W.Frag} : C2 K (fun x y H Q => rNotInD K x y H Q ∨ rNotInT K x y H Q) .strong dNotIn := fun c own A σ ρ H v w d e R Q hk E r1 r2 g q => by
  cases e with
  | lst ds =>
    obtain ⟨⟨o1, o2⟩, g⟩ := g
    have d1 := r1.dp o1
    have d2 := r2.dp o2
    rw [hk] at d1 d2
    refine .inl ⟨_, _, d1, d2, okD_shaped o1, okD_shaped o2, ?_⟩
    rw [any_py o1 (n := 59) o2]
    exact q c _ H _ (Step.refl E.fok) (.bl _) g
  | tup ds =>
    obtain ⟨⟨o1, o2⟩, g⟩ := g
    have d1 := r1.dp o1
    have d2 := r2.dp o2
    rw [hk] at d1 d2
    refine .inr ⟨_, _, d1, d2, okD_shaped o1, okD_shaped o2, ?_⟩
    rw [any_py o1 (n := 59) o2]
    exact q c _ H _ (Step.refl E.fok) (.bl _) g
  | _ => exact g.elim
def dSum (ds : List D) (R : D → Prop) : Prop := oneD ds fun x => match x with | .lst es => ∃ ns : List Int, es = ns.map D.int ∧ R (.int ns.sum) | _ => False
def dMax (ds : List D) (R : D → Prop) : Prop := oneD ds fun x => match x with | .lst es => ∃ ns : List Int, es = ns.map D.int ∧ 0 < ns.length ∧ ∀ m ∈ ns, (∀ y ∈ ns, y ≤ m) → R (.int m) | _ => False
def dMin (ds : List D) (R : D → Prop) : Prop := oneD ds fun x => match x with | .lst es => ∃ ns : List Int, es = ns.map D.int ∧ 0 < ns.length ∧ ∀ m ∈ ns, (∀ y ∈ ns, m ≤ y) → R (.int m) | _ => False
theorem c_sum {K : PySem.W.Frag} : CL K (rSum K) .strong dSum := fun c own A σ ρ H vs ds R Q hk E r g q => by
  obtain ⟨x, rfl, g⟩ := oneD_iff g
  match r with
  | .cons r1 .nil =>
    cases x with
    | lst es =>
      obtain ⟨ns, rfl, g9⟩ := (show ∃ ns : List Int, es = ns.map D.int ∧ R (.int ns.sum) from g)
      obtain ⟨a, us, rfl, z, h, rl⟩ := RepW.lst r1
      rw [RepL.ints rl] at h
      exact ⟨a, ns, rfl, .inl (.inl h), q c _ H _ (Step.refl E.fok) (.int _) g9⟩
    | _ => exact g.elim
theorem c_max {K : PySem.W.Frag} : CL K (rMax K) .strong dMax := fun c own A σ ρ H vs ds R Q hk E r g q => by
  obtain ⟨x, rfl, g⟩ := oneD_iff g
  match r with
  | .cons r1 .nil =>
    cases x with
    | lst es =>
      obtain ⟨ns, rfl, g0, g⟩ := g
      obtain ⟨a, us, rfl, z, h, rl⟩ := RepW.lst r1
      rw [RepL.ints rl] at h
      exact ⟨a, ns, rfl, .inl (.inl h), g0, fun m m1 m2 => q c _ H _ (Step.refl E.fok) (.int _) (g m m1 m2)⟩
    | _ => exact g.elim
theorem c_min {K : PySem.W.Frag} : CL K (rMin K) .strong dMin := fun c own A σ ρ H vs ds R Q hk E r g q => by
  obtain ⟨x, rfl, g⟩ := oneD_iff g
  match r with
  | .cons r1 .nil =>
    cases x with
    | lst es =>
      obtain ⟨ns, rfl, g0, g⟩ := g
      obtain ⟨a, us, rfl, z, h, rl⟩ := RepW.lst r1
      rw [RepL.ints rl] at h
      exact ⟨a, ns, rfl, .inl (.inl h), g0, fun m m1 m2 => q c _ H _ (Step.refl E.fok) (.int _) (g m m1 m2)⟩
    | _ => exact g.elim
def rSortQ (K : PySem.W.Frag) : List V → Hp → VK → Prop := fun vs H Q => ∃ (a : Addr) (ks : List (Addr × List Int)), vs = [V.ref a] ∧ SqL K H a (ks.map fun q => V.ref q.1) ∧ (∀ q ∈ ks, SqT K H q.1 (q.2.map V.int)) ∧ (∀ q ∈ ks, q.2.length = 2) ∧
  ∀ (L : List (Addr × List Int)) (p : Addr), L.Perm ks → L.Pairwise (fun q r => SrtO.lexB (pk r.2) (pk q.2) = false) → H p = none → Q (.ref p) (upd H p (.lst (L.map fun q => V.ref q.1)))
theorem b_sorted {X : Cx} : CallR X (.builtin "sorted") (rSortQ X.K) := by
  rintro pins s σ H vs us Q I r ⟨a, ks, rfl, hs, hk, h2, q⟩
  obtain ⟨its, rv, hl, hz⟩ := I.list hs
  rw [Vals.ref1 r]
  have e := refs_of_vals rv
  subst e
  have tk : ∀ q ∈ ks, L2.IsT X.prog X.w s.heap q.2 q.1 := fun q hq => I.isT (hk q hq)
  refine SrtO.sorted_pairsO (k := kv ks) hl.isList (by rw [← rv.length]; exact hz) (fun v hv => ?_) fun h' d out h1 h3 kp hd hn => ?_
  · obtain ⟨q, hq, rfl⟩ := List.mem_map.mp hv
    rw [kv_eq tk hq]
    exact isPair_of (tk q hq) (h2 q hq)
  · obtain ⟨L, pL, e'⟩ := perm_back h3.perm ks rfl
    subst e'
    obtain ⟨n, hn⟩ := hn
    refine ⟨.ref d, _, I.laid (t' := s.toks) kp hd (show ObjOk X.prog X.w _ _ _ (.lst (L.map fun q => V.ref q.1)) from ⟨?_, _, n, vals_of_refs L, hn⟩), rfl, q L d pL ?_ (I.hok.fresh hd)⟩
    · rw [List.length_map, pL.length_eq]
      rwa [List.length_map] at hz
    · refine List.Pairwise.imp_of_mem (fun {q r} hq hr hle => ?_) (List.pairwise_map.mp h1)
      have e3 : SrtO.lexB (kv ks (Value.ref r.1)) (kv ks (Value.ref q.1)) = false := hle
      rw [kv_eq tk (pL.mem_iff.mp hq), kv_eq tk (pL.mem_iff.mp hr)] at e3
      exact e3
def dSorted (ds : List D) (R : D → Prop) : Prop := oneD ds fun x => match x with
  | .lst es => ∃ ps : List (Int × Int), es = ps.map prD ∧ ∀ ys : List (Int × Int), ys.Perm ps → ys.Pairwise (fun p q => ¬ ltI2 q p) → R (.lst (ys.map prD))
  | _ => False
theorem c_sorted {K : PySem.W.Frag} : CL K (rSortQ K) .fresh dSorted := fun c own A σ ρ H vs ds R Q hk E r g q => by
  obtain ⟨x, rfl, g⟩ := oneD_iff g
  match r with
  | .cons r1 .nil =>
    cases x with
    | lst es =>
      obtain ⟨ps, rfl, g9⟩ := (show ∃ ps : List (Int × Int), es = ps.map prD ∧ ∀ ys : List (Int × Int), ys.Perm ps → ys.Pairwise (fun p q => ¬ ltI2 q p) → R (.lst (ys.map prD)) from g)
      obtain ⟨a, us, rfl, z, h, rl⟩ := RepW.lst r1
      obtain ⟨ks, rfl, e2, hks⟩ := RepL.pairs rl
      refine ⟨a, ks, rfl, .inl (.inl h), fun q hq => hk ▸ (hks q hq).1, fun q hq => (hks q hq).2.1, fun L p pm pw hp => ?_⟩
      have e4 : ks.map (fun q => pk q.2) = ps := by
        have := congrArg (List.map pk) e2
        rw [List.map_map, List.map_map] at this
        rw [show (fun q : Addr × List Int => pk q.2) = pk ∘ (fun x => x.2) from rfl, this]
        exact (List.map_congr_left fun x _ => rfl).trans (List.map_id _)
      refine q c (.ref p) _ (.lst ((L.map fun q => pk q.2).map prD)) (.one E.fok hp) (Fr.newL E hp (by rw [List.length_map, pm.length_eq]; rwa [List.length_map] at z) (RepL.refs fun q hq => (hks q (pm.mem_iff.mp hq)).2.2)) (g9 _ ?_ ?_)
      · rw [← e4]
        exact pm.map _
      · refine List.pairwise_map.mpr (pw.imp fun {q r} h z => ?_)
        rw [SrtO.lexB_iff.mpr z] at h
        cases h
    | _ => exact g.elim
section
variable {x : D} {es : List D} {R : D → Prop}
theorem x_inL : dIn x (.lst es) R = ((okD 60 x = true ∧ okD 60 (.lst es) = true) ∧ R (.bl (es.any fun z => eqD z x))) := propext Iff.rfl
theorem x_inT : dIn x (.tup es) R = ((okD 60 x = true ∧ okD 60 (.tup es) = true) ∧ R (.bl (es.any fun z => eqD z x))) := propext Iff.rfl
theorem x_niL : dNotIn x (.lst es) R = ((okD 60 x = true ∧ okD 60 (.lst es) = true) ∧ R (.bl (!es.any fun z => eqD z x))) := propext Iff.rfl
theorem x_niT : dNotIn x (.tup es) R = ((okD 60 x = true ∧ okD 60 (.tup es) = true) ∧ R (.bl (!es.any fun z => eqD z x))) := propext Iff.rfl
theorem x_sum : dSum [.lst es] R = ∃ ns : List Int, es = ns.map D.int ∧ R (.int ns.sum) := propext Iff.rfl
theorem x_max : dMax [.lst es] R = ∃ ns : List Int, es = ns.map D.int ∧ 0 < ns.length ∧ ∀ m ∈ ns, (∀ y ∈ ns, y ≤ m) → R (.int m) := propext Iff.rfl
theorem x_min : dMin [.lst es] R = ∃ ns : List Int, es = ns.map D.int ∧ 0 < ns.length ∧ ∀ m ∈ ns, (∀ y ∈ ns, m ≤ y) → R (.int m) := propext Iff.rfl
theorem x_srt : dSorted [.lst es] R = ∃ ps : List (Int × Int), es = ps.map prD ∧ ∀ ys : List (Int × Int), ys.Perm ps → ys.Pairwise (fun p q => ¬ ltI2 q p) → R (.lst (ys.map prD)) := propext Iff.rfl
theorem x_sset : dSortSet (.lst es) R = ∃ ps : List (Int × Int), es = ps.map prD ∧ ps.length < 64 ∧ R (.lst ((sortU ps).map prD)) := propext Iff.rfl
end
end DL

set_option Elab.async false
set_option linter.all false
set_option maxRecDepth 100000
set_option maxHeartbeats 4000000
namespace DL
open PySem PySem.Spec PyProof.Rows L2
section
variable {c : Cfg} {Av : Addr → Prop} {H : Hp}
theorem RepL.dropLast' : ∀ {vs : List V} {ds : List D}, RepL c Av H vs ds → RepL c Av H vs.dropLast ds.dropLast
  | _, _, .nil => .nil
  | _, _, .cons r .nil => .nil
  | _, _, .cons r (.cons r2 rl) => .cons r (RepL.dropLast' (.cons r2 rl))
theorem RepL.take' : ∀ {vs : List V} {ds : List D}, RepL c Av H vs ds → ∀ n, RepL c Av H (vs.take n) (ds.take n)
  | _, _, _, 0 => .nil
  | _, _, .nil, _ + 1 => .nil
  | _, _, .cons r rl, n + 1 => .cons r (RepL.take' rl n)
theorem RepL.drop' : ∀ {vs : List V} {ds : List D}, RepL c Av H vs ds → ∀ n, RepL c Av H (vs.drop n) (ds.drop n)
  | _, _, h, 0 => h
  | _, _, .nil, _ + 1 => .nil
  | _, _, .cons _ rl, n + 1 => RepL.drop' rl n
end
section
variable {X : Cx} {own : List Nat} {fr : Bool} {ko : Kd} {pe pk : TED}
def sPop (i : Nat) : TSD := fun DD ρ => ownL ρ i fun ds => ds ≠ [] ∧ DD.nx (ρ.set i (some (.lst ds.dropLast)))
theorem lift_pop (K : PySem.W.Frag) {i : Nat} (hi : i ∈ own) : ∀ D σ H, liftS K own fr ko (sPop i) D σ H → tDrop (tBM0 K "list" rPop (tVar i)) D σ H := by
  intro D σ H ⟨c0, H0, A, c, ρ, DD, hk, t, E, F, h, z⟩
  obtain ⟨ds, e, hne, h⟩ := ownL_iff h
  obtain ⟨a, vs, h1, h2, h3, h4, h5⟩ := ownL_at E hi e
  have l0 : 0 < vs.length := by rw [h5.len]; exact List.length_pos_iff.mpr hne
  refine ⟨.ref a, h1, .inl ⟨rfl, _, SqL.of h4⟩, a, vs, vs[vs.length - 1]'(by omega), rfl, rfl, h4, List.getElem?_eq_getElem (by omega), ?_⟩
  exact lst_mut z.nx hk t E F hi e h1 h2 (by rw [List.length_dropLast]; omega) h5.dropLast' h
theorem s_pop (i : Nat) {st : Stmt} (h : PS X st (tDrop (tBM0 X.K "list" rPop (tVar i)))) (hi : i ∈ own := by decide) : PS X st (liftS X.K own fr ko (sPop i)) := ps_imp h (lift_pop _ hi)
def sRevs (i : Nat) : TSD := fun DD ρ => ownL ρ i fun ds => DD.nx (ρ.set i (some (.lst ds.reverse)))
theorem lift_revs (K : PySem.W.Frag) {i : Nat} (hi : i ∈ own) : ∀ D σ H, liftS K own fr ko (sRevs i) D σ H → tDrop (tBM0 K "list" rReverse (tVar i)) D σ H := by
  intro D σ H ⟨c0, H0, A, c, ρ, DD, hk, t, E, F, h, z⟩
  obtain ⟨ds, e, h⟩ := ownL_iff h
  obtain ⟨a, vs, h1, h2, h3, h4, h5⟩ := ownL_at E hi e
  exact ⟨.ref a, h1, .inl ⟨rfl, _, SqL.of h4⟩, a, vs, rfl, rfl, h4, lst_mut z.nx hk t E F hi e h1 h2 (by rw [List.length_reverse]; exact h3) h5.rev h⟩
theorem s_revs (i : Nat) {st : Stmt} (h : PS X st (tDrop (tBM0 X.K "list" rReverse (tVar i)))) (hi : i ∈ own := by decide) : PS X st (liftS X.K own fr ko (sRevs i)) := ps_imp h (lift_revs _ hi)
def dLst (x : D) (f : List D → Prop) : Prop := match x with | .lst es => f es | _ => False
theorem dLst_iff {x : D} {f : List D → Prop} (h : dLst x f) : ∃ es, x = .lst es ∧ f es := by
  cases x with
  | lst es => exact ⟨es, rfl, h⟩
  | _ => exact h.elim
def sExt (i : Nat) (pe : TED) : TSD := fun DD ρ => ownL ρ i fun ds => pe ρ fun d => dLst d fun es => ds.length + es.length ≤ sizeLine ∧ DD.nx (ρ.set i (some (.lst (ds ++ es))))
theorem lift_ext (K : PySem.W.Frag) {i : Nat} (hi : i ∈ own) : ∀ D σ H, liftS K own fr ko (sExt i pe) D σ H → tDrop (tBM K "list" rExtend (tVar i) (tCons (lift K own .weak pe) tNil)) D σ H := by
  intro D σ H ⟨c0, H0, A, c, ρ, DD, hk, t, E, F, h, z⟩
  obtain ⟨ds, e, h⟩ := ownL_iff h
  obtain ⟨a, vs, h1, h2, h3, h4, h5⟩ := ownL_at E hi e
  refine ⟨.ref a, h1, .inl ⟨rfl, _, SqL.of h4⟩, c, A, ρ, _, hk, E, h, fun c1 v H1 d t1 r1 g1 => ?_⟩
  obtain ⟨es, rfl, hz, g1⟩ := dLst_iff g1
  obtain ⟨b, us, rfl, z1, hb, rl⟩ := RepW.lst r1
  have r5 := RepL.step E t1 h5
  have hl : vs.length + us.length ≤ sizeLine := by rw [h5.len, rl.len]; exact hz
  exact ⟨a, b, vs, us, rfl, rfl, t1.keep a _ h2 h4, hb, hl, lst_mut z.nx (t1.kk.trans hk) (t.trans t1) (E.step t1) F hi e h1 (t1.notS h4 h2) (by rw [List.length_append]; exact hl) (r5.append rl) g1⟩
theorem s_ext (i : Nat) {st : Stmt} (h : PS X st (tDrop (tBM X.K "list" rExtend (tVar i) (tCons (lift X.K own .weak pe) tNil)))) (hi : i ∈ own := by decide) : PS X st (liftS X.K own fr ko (sExt i pe)) := ps_imp h (lift_ext _ hi)
def rIns : V → List V → Hp → VK → Prop := fun x vs H Q => ∃ (l : Addr) (xs : List V) (i : Int) (y : V), x = .ref l ∧ vs = [.int i, y] ∧ H l = some (.lst xs) ∧ xs.length < sizeLine ∧ 0 ≤ i ∧ i < 2 ^ 63 ∧ Q .non (upd H l (.lst (xs.take i.toNat ++ [y] ++ xs.drop i.toNat)))
def sIns (i : Nat) (pk pe : TED) : TSD := fun DD ρ => ownL ρ i fun ds => pk ρ fun k => dInt k fun k => pe ρ fun d => (ds.length < sizeLine ∧ 0 ≤ k ∧ k < 2 ^ 63) ∧ DD.nx (ρ.set i (some (.lst (ds.take k.toNat ++ [d] ++ ds.drop k.toNat))))
theorem lift_ins (K : PySem.W.Frag) {i : Nat} (hi : i ∈ own) : ∀ D σ H, liftS K own fr ko (sIns i pk pe) D σ H → tDrop (tBM K "list" rIns (tVar i) (tCons (lift K own .weak pk) (tCons (lift K own .strong pe) tNil))) D σ H := by
  intro D σ H ⟨c0, H0, A, c, ρ, DD, hk, t, E, F, h, z⟩
  obtain ⟨ds, e, h⟩ := ownL_iff h
  obtain ⟨a, vs, h1, h2, h3, h4, h5⟩ := ownL_at E hi e
  refine ⟨.ref a, h1, .inl ⟨rfl, _, SqL.of h4⟩, c, A, ρ, _, hk, E, h, fun c1 v H1 d t1 r1 g1 => ?_⟩
  obtain ⟨k, rfl, g1⟩ := dInt_iff g1
  have ev := RepW.int r1
  subst ev
  refine ⟨c1, A, ρ, _, t1.kk.trans hk, E.step t1, g1, fun c2 v2 H2 d2 t2 r2 g2 => ?_⟩
  obtain ⟨⟨hz, k0, k1⟩, g2⟩ := g2
  have t12 := t1.trans t2
  have r5 := RepL.step E t12 h5
  have hl : vs.length < sizeLine := by rw [h5.len]; exact hz
  refine ⟨a, vs, k, v2, rfl, rfl, t12.keep a _ h2 h4, hl, k0, k1, lst_mut z.nx (t12.kk.trans hk) (t.trans t12) (E.step t12) F hi e h1 (t12.notS h4 h2) ?_ ((r5.take' k.toNat |>.append (.cons r2 .nil)).append (r5.drop' k.toNat)) g2⟩
  simp only [List.length_append, List.length_take, List.length_drop, List.length_singleton]
  omega
theorem s_ins (i : Nat) {st : Stmt} (h : PS X st (tDrop (tBM X.K "list" rIns (tVar i) (tCons (lift X.K own .weak pk) (tCons (lift X.K own .strong pe) tNil))))) (hi : i ∈ own := by decide) : PS X st (liftS X.K own fr ko (sIns i pk pe)) := ps_imp h (lift_ins _ hi)
theorem e_revL {e : Expr} {p : TED} {k : Nat} {q1 q2 p3 pos : Pos} (he : PE X e (lift X.K own .weak p)) : PE X (.Subscript e (.Slice none none (some (.UnaryOp .USub (.Constant (.int 1) k q1) q2)) p3) pos) (lift X.K own .fresh (p1 dRev p)) := pe_imp (pe_revL he) (lift_lstRev _)
end
section
variable {i : Nat} {a b : TED} {DD : DEnds} {ρ : PEnv} {es : List D} {f : List D → Prop}
theorem x_pop : sPop i DD ρ = ownL ρ i fun ds => ds ≠ [] ∧ DD.nx (ρ.set i (some (.lst ds.dropLast))) := propext Iff.rfl
theorem x_revs : sRevs i DD ρ = ownL ρ i fun ds => DD.nx (ρ.set i (some (.lst ds.reverse))) := propext Iff.rfl
theorem x_ext : sExt i a DD ρ = ownL ρ i fun ds => a ρ fun d => dLst d fun es => ds.length + es.length ≤ sizeLine ∧ DD.nx (ρ.set i (some (.lst (ds ++ es)))) := propext Iff.rfl
theorem x_ins : sIns i a b DD ρ = ownL ρ i fun ds => a ρ fun k => dInt k fun k => b ρ fun d => (ds.length < sizeLine ∧ 0 ≤ k ∧ k < 2 ^ 63) ∧ DD.nx (ρ.set i (some (.lst (ds.take k.toNat ++ [d] ++ ds.drop k.toNat)))) := propext Iff.rfl
theorem x_dLst : dLst (.lst es) f = f es := propext Iff.rfl
end
end DL

set_option Elab.async false
set_option linter.all false
set_option maxRecDepth 100000
set_option maxHeartbeats 4000000
namespace DLZ
open PySem PySem.Spec PyProof.Rows L2
theorem meetsET (l : Addr) (items : Array Value) (n : Nat) (dct : Option Addr) (sl : Array (Option Value)) :
    Meets (Builtin.«enumerate.__new__» ⟨[.type "enumerate", .ref l], []⟩) (fun _ R s => s.heap.get? l = some { cls := .type "tuple", dict := dct, data := .seq items n, slots := sl } ∧
      R (.ok (.ret (.ref (s.heap.push (itO false l)).objs.size))) { s with heap := (s.heap.push (itO false l)).push { cls := .type "enumerate", data := .fields #[.none, .bool false, .ref s.heap.objs.size, rawInt 0, .none, .none] } }) :=
  .of_wp fun prog w A R s h => by
    obtain ⟨hp, g, d, tk, os⟩ := s
    obtain ⟨hl, h⟩ := h
    have hsub := sub_enumerate
    have hT : Heap.IsTuple (Shared.heap ⟨hp, g, d, tk, os⟩) l items := ⟨_, hl, rfl, n, rfl⟩
    wp_walk using wpAny_loadPart' hl
    refine wpAny_stack_any fun st => (wpAny_pure (?_ : _))
    split
    · rename_i c _ _ _ _ _
      cases (c == Value.type "enumerate")
      · wp_walk using wpAny_loadPart' hl, wpAny_pyIter_tuple hT
        exact ⟨_, rfl, h⟩
      · wp_walk using wpAny_loadPart' hl, wpAny_pyIter_tuple hT
        exact ⟨_, rfl, h⟩
    · wp_walk using wpAny_loadPart' hl, wpAny_pyIter_tuple hT
      exact ⟨_, rfl, h⟩
section
variable {prog : Program} {w : World} {A : Around} {E : Value → Shared → Prop} {s : Shared}
theorem callEB {b : Bool} {l : Addr} {items : Array Value} {Q : Value → Shared → Prop} (x : IsB b s.heap l items)
    (h : ∀ h', IsEnum h' (s.heap.objs.size + 1) s.heap.objs.size 0 .none → ItB b h' s.heap.objs.size l 0 → (∀ c o, s.heap.get? c = some o → h'.get? c = some o) → Q (.ref (s.heap.objs.size + 1)) { s with heap := h' }) :
    wpAny (model prog w) A (call (.type "enumerate") [.ref l]) Q E s := by
  cases b
  · obtain ⟨⟨c, dct, dt, sl⟩, hl, hc, n, hd⟩ := (show s.heap.IsTuple l items from x)
    obtain rfl : c = .type "tuple" := hc
    obtain rfl : dt = .seq items n := hd
    refine callType_new F.called_enumerate (by decide) (F.typeCall_enumerate_1 _) (F.newCall_enumerate_1 _) (fun obj => F.args_object_init_2 obj _) F.entry_enumerate_new (meetsET l items n dct sl) ⟨hl, (?_ : _ ∧ _)⟩
    have z1 : (s.heap.push (itO false l)).objs.size = s.heap.objs.size + 1 := Heap.size_push ..
    have m2 : ((s.heap.push (itO false l)).push { cls := .type "enumerate", data := .fields #[.none, .bool false, .ref s.heap.objs.size, rawInt 0, .none, .none] }).get? (s.heap.push (itO false l)).objs.size = some _ := Heap.get?_push_size _ rfl
    have m1 : ((s.heap.push (itO false l)).push { cls := .type "enumerate", data := .fields #[.none, .bool false, .ref s.heap.objs.size, rawInt 0, .none, .none] }).get? s.heap.objs.size = some (itO false l) := Heap.get?_push_of_some _ (Heap.get?_push_size _ rfl)
    rw [z1] at m2 ⊢
    exact ⟨⟨_, m2, rfl⟩, h _ m2 (show Heap.IsTupleIter _ _ l 0 from ⟨_, m1, rfl, rfl⟩) fun c o e => Heap.get?_push_of_some _ (Heap.get?_push_of_some _ e)⟩
  · exact call_enumerate_list (show s.heap.IsList l items from x) fun h' he hi _ k => h h' he hi k
end
def IteB (K : PySem.W.Frag) (b : Bool) (a : Addr) : It :=
  ⟨fun i H => ∃ (xs : List V) (x : V), SqB K b H a xs ∧ xs[i]? = some x, fun i H v H' => ∃ T x, v = .ref T ∧ H T = none ∧ H' = upd H T (.tup [.int (i : Nat), x]) ∧ ∀ xs, SqB K b H a xs → xs[i]? = some x, fun i H => ∃ xs : List V, SqB K b H a xs ∧ xs.length ≤ i⟩
theorem turnEB {P : Program} {w : World} {K : PySem.W.Frag} {elts : List Expr} {kk : Nat} {tpos : Pos} {b : Bool} {a e it : Addr} (d1 : e ≠ it) (d2 : a ≠ it) (d3 : a ≠ e) :
    Turn P w K (.Tuple elts kk tpos) (IteB K b a) [e, it] e (fun i h => (∃ old, IsEnum h e it ((i : Nat) : Int) old) ∧ ItB b h it a i) where
  mem := List.mem_cons_self
  obj := fun i h ⟨⟨old, he⟩, hi⟩ c hc => by
    have e' : c = e ∨ c = it := by simpa using hc
    rcases e' with q | q <;> subst q
    · exact ⟨_, he, fun v q => nomatch q⟩
    · exact hi.obj
  keep := fun i h h' ⟨⟨old, he⟩, hi⟩ k => ⟨⟨old, k e (by simp) _ he⟩, hi.keep fun o q => k it (by simp) o q⟩
  item := by
    rintro X rfl rfl rfl hc i pins s σ H E I hf ⟨⟨old, he⟩, hi⟩ ⟨xs, x, hq, hx⟩
    obtain ⟨its, rv, p⟩ := sqB_get I hq
    obtain ⟨u, hu, ru⟩ := rv.get hx
    have hh : X.A.in1.handled = none := by have := I.ok.hd hc; simpa using this
    have l1 : i < its.toArray.size := by have := (List.getElem?_eq_some_iff.mp hu).1; simpa using this
    have el : e < s.heap.objs.size := Heap.lt_size he
    refine wpAny_pyNext_enum_itemD (drawsB hh b it a d2 its.toArray) he ⟨hi, p⟩ l1 d1 (by simp [d1, d3.symm]) fun v h' tk e1 ho st hT hsz hk => ?_
    obtain rfl : v = u := Option.some.inj (e1.symm.trans (by simpa using hu))
    refine ⟨_, rfl, wpAny_letOwnedTupleGo_enum (s := { s with heap := h', toks := tk + 1 }) ho fun h'' he' sb => ?_⟩
    have hT2 : h''.get? s.heap.objs.size = some { cls := .type "tuple", data := .seq #[.int i tk, v] } := (sb.2 _ (Nat.ne_of_gt el)).trans hT
    have new : ObjOk X.prog X.w (upd H s.heap.objs.size (.tup [.int (i : Nat), x])) h'' s.heap.objs.size (.tup [.int (i : Nat), x]) := ⟨by show 2 ≤ sizeLine; decide, [.int i tk, v], .cons ⟨_, rfl⟩ (.cons ru .nil), ⟨_, hT2, rfl, _, rfl⟩⟩
    have kp : ∀ c o, c ∉ [e, it] → s.heap.get? c = some o → h''.get? c = some o := fun c o hb q => by
      simp only [List.mem_cons, List.not_mem_nil, or_false, not_or] at hb
      exact (sb.2 c hb.1).trans (hk c o hb.1 hb.2 q)
    have I1 : Inv X pins σ (upd H s.heap.objs.size (.tup [.int (i : Nat), x])) { s with heap := h'', toks := tk + 1 } := I.turnedNew (t' := tk + 1) kp hf (Nat.le_refl _) new
    refine ⟨.ref s.heap.objs.size, _, I1, rfl, ⟨_, x, rfl, I.hok.fresh (Nat.le_refl _), rfl, fun l hl => by rw [sqB_inj I hl hq]; exact hx⟩, ⟨⟨v, ?_⟩, st.1.keep fun o q => (sb.2 _ d1.symm).trans q⟩, fun c hcm => ?_⟩
    · have e1 : ((i + 1 : Nat) : Int) = (i : Int) + 1 := by omega
      rw [e1]
      exact he'
    · have lt : c < s.heap.objs.size := by
        have e' : c = e ∨ c = it := by simpa using hcm
        rcases e' with q | q <;> subst q
        · exact el
        · obtain ⟨_, e1, _⟩ := hi.obj; exact Heap.lt_size e1
      rw [upd_ne (Nat.ne_of_lt lt)]
      exact (hf c hcm).1
  done := by
    rintro X rfl rfl rfl hc i pins s σ H E I hf ⟨⟨old, he⟩, hi⟩ ⟨xs, hq, hx⟩
    obtain ⟨its, rv, p⟩ := sqB_get I hq
    have l1 := rv.length
    have hh : X.A.in1.handled = none := by have := I.ok.hd hc; simpa using this
    obtain ⟨n, P1, St1, D1, s1, m1, e1⟩ := sideB (prog := X.prog) (w := X.w) hh b d2 hi p
    have en : i = n := e1 (by simp; omega)
    rw [en] at s1
    refine wpAny_pyNext_enum_endD D1 he s1 fun h' eb => ⟨rfl, I.turnedL (t' := s.toks) (ch := [e, it]) (fun c o hb q => eb c o (fun z => hb (by simp [z])) q) hf⟩
  self := fun A i s Q E st h => let ⟨⟨_, he⟩, _⟩ := st; wpAny_pyIter_enum he h
def iEnumB (K : PySem.W.Frag) (ta : TA) : TI := fun σ H R => ta σ H fun vs H1 => ∃ b a xs, vs = [V.ref a] ∧ SqB K b H1 a xs ∧ R (IteB K b a) H1
theorem pi_enumB {X : Cx} {e : Expr} {ta : TA} {p pos tpos : Pos} {elts : List Expr} {kk : Nat} (hg : Gl X "enumerate") (hm : X.mg "enumerate" = none) (ha : PA X [e] ta) (hs : starEach [e] X.env = [(false, eval e X.env)] := by rfl) :
    PI X (.Tuple elts kk tpos) (.Call (.Name "enumerate" p) [e] [] pos) (iEnumB X.K ta) := by
  refine ⟨fun pins s σ H R I h => Call_ (ld_blt I hg hm boot_enumerate (PyProof.Rows.callWith_type1 (thn (ha.run pos pins s σ H _ I h) fun us s1 ⟨vs, H1, I1, r1, q1⟩ => ?_) hs rfl))⟩
  obtain ⟨b, a, xs, rfl, hq, q⟩ := q1
  cases r1 with
  | cons r rr =>
    cases rr; cases r
    obtain ⟨its, rv, p1⟩ := sqB_get I1 hq
    have la := p1.lt
    refine callEB p1 fun h' he hi hk => wpAny_pyIter_enum he ?_
    have I2 : Inv X pins σ H1 { s1 with heap := h' } := I1.kept (t' := s1.toks) hk
    refine ⟨s1.heap.objs.size + 1, [s1.heap.objs.size + 1, s1.heap.objs.size], _, _, H1, rfl, I2, turnEB (Nat.succ_ne_self _) (Nat.ne_of_lt la) (Nat.ne_of_lt (Nat.lt_succ_of_lt la)), ⟨⟨.none, he⟩, hi⟩, fun c hcm => ?_, q⟩
    have le : s1.heap.objs.size ≤ c := by
      simp only [List.mem_cons, List.not_mem_nil, or_false] at hcm
      rcases hcm with q | q <;> rw [q] <;> first | exact Nat.le_refl _ | exact Nat.le_succ _
    exact I1.fpOk le (I1.hok.fresh le)
end DLZ
namespace DL
open PySem PySem.Spec PyProof.Rows L2 DLZ
def dEnumM (x : D) (R : List D → Prop) : Prop := dSeq x fun xs => R (enumD xs)
def sEnumM (pa : TAD) : TAD := fun ρ R => pa ρ fun ds => oneD ds fun x => dEnumM x R
theorem iteB_ok {c : Cfg} {Av : Addr → Prop} {H0 : Hp} {a : Addr} {xs : List V} {ds : List D} {b : Bool} (hav : ∀ b, c.S b → Av b) (ha : ∀ c2 H2, Step c H0 c2 H2 → SqB c.K b H2 a xs) (rx : RepL c Av H0 xs ds) : ItOk c Av (IteB c.K b a) H0 (enumD ds) := by
  refine itz_any (xs := (List.range xs.length).map fun i => V.int (0 + (i : Nat))) (ys := xs) hav ?_ rx fun c2 H2 t i => ⟨fun hl => ⟨xs, ha _ _ t, by simpa using hl⟩, fun x y hx hy => ?_⟩
  · unfold rangeD
    rw [← rx.len, show ((xs.length : Int) - 0).toNat = xs.length by omega]
    exact rangeL c Av H0 0 _
  · refine ⟨⟨xs, y, ha _ _ t, hy⟩, fun v H3 ⟨T, x', e, hT, e3, h1⟩ => ⟨T, e, hT, ?_⟩⟩
    have e1 := Option.some.inj ((h1 xs (ha _ _ t)).symm.trans hy)
    have hi : i < xs.length := (List.getElem?_eq_some_iff.mp hy).1
    rw [List.getElem?_map, List.getElem?_range hi] at hx
    have e2 : V.int (0 + (i : Nat)) = x := Option.some.inj hx
    rw [Int.zero_add] at e2
    rw [e3, e1, e2]
theorem lift_enumMW (K : PySem.W.Frag) {own : List Nat} {pa : TAD} : ∀ σ H Q, liftI K own .weak (sEnumM pa) σ H Q → iEnumB K (liftA K own .weak 1 pa) σ H Q := fun σ H Q ⟨c, A, ρ, R, hk, E, hp, f⟩ => ⟨c, A, ρ, _, hk, E, hp, fun c1 vs H1 ds t r hn g => by
  obtain ⟨x, rfl, g⟩ := oneD_iff g
  obtain ⟨xs, hx, g⟩ := dSeq_iff g
  match r with
  | .cons r1 .nil =>
    obtain ⟨b, a, us, rfl, q1, rl, k1⟩ := RepW.seqK hx r1
    have h := iteB_ok avdS k1 rl
    rw [t.kk.trans hk] at h q1
    exact ⟨b, a, us, rfl, q1, f c1 _ H1 _ t h g⟩⟩
theorem lift_enumMS (K : PySem.W.Frag) {own : List Nat} {pa : TAD} : ∀ σ H Q, liftI K own .strong (sEnumM pa) σ H Q → iEnumB K (liftA K own .strong 1 pa) σ H Q := fun σ H Q ⟨c, A, ρ, R, hk, E, hp, f⟩ => ⟨c, A, ρ, _, hk, E, hp, fun c1 vs H1 ds t r hn g => by
  obtain ⟨x, rfl, g⟩ := oneD_iff g
  obtain ⟨xs, hx, g⟩ := dSeq_iff g
  match r with
  | .cons r1 .nil =>
    obtain ⟨b, a, us, rfl, q1, rl, k1⟩ := Rep.seqK hx r1
    have h := iteB_ok avdS k1 rl
    rw [t.kk.trans hk] at h q1
    exact ⟨b, a, us, rfl, q1, f c1 _ H1 _ t h g⟩⟩
section
variable {X : Cx} {own : List Nat} {pa : TAD} {e : Expr} {p pos tpos : Pos} {elts : List Expr} {kk : Nat}
theorem i_enumMW (hm : X.mg "enumerate" = none) (ha : PA X [e] (liftA X.K own .weak 1 pa)) (hg : Gl X "enumerate" := by rfl) (hs : starEach [e] X.env = [(false, eval e X.env)] := by rfl) :
    PI X (.Tuple elts kk tpos) (.Call (.Name "enumerate" p) [e] [] pos) (liftI X.K own .weak (sEnumM pa)) := pi_imp (pi_enumB hg hm ha hs) (lift_enumMW _)
theorem i_enumMS (hm : X.mg "enumerate" = none) (ha : PA X [e] (liftA X.K own .strong 1 pa)) (hg : Gl X "enumerate" := by rfl) (hs : starEach [e] X.env = [(false, eval e X.env)] := by rfl) :
    PI X (.Tuple elts kk tpos) (.Call (.Name "enumerate" p) [e] [] pos) (liftI X.K own .strong (sEnumM pa)) := pi_imp (pi_enumB hg hm ha hs) (lift_enumMS _)
end
theorem x_sEnumM {pa : TAD} {ρ : PEnv} {R : List D → Prop} : sEnumM pa ρ R = pa ρ fun ds => oneD ds fun x => dEnumM x R := propext Iff.rfl
theorem x_enM {x : D} {R : List D → Prop} : dEnumM x R = dSeq x fun xs => R (enumD xs) := propext Iff.rfl
end DL

set_option Elab.async false
set_option linter.all false
set_option maxRecDepth 100000
set_option maxHeartbeats 4000000
namespace DL
open PySem PySem.Spec PyProof.Rows L2

def b_l_deal_1 : TSD := (sSet 2 (p2 dMod (p2 dAdd (p2 dMul (pV 2) (pC (.int 48271))) (p2 dMod (pV 3) (pC (.int 2147483629)))) (pC (.int 2147483647))))
def p_l_deal_3 : TSD := (sRetDeal (pV 2) (p1 dRev (pComp (sSeq (pV 1)) (gN 3) (tV (p2 dGeI (pV 3) (p2 dPow (pC (.int 10)) (pC (.int 18))))) (pV 3) [3])))
def p_l_deal_2 : TSD := (sSeqD (sFor (sSeq (pV 1)) (gN 3) b_l_deal_1) p_l_deal_3)
def p_l_deal_1 : TSD := (sSeqD (sSet 2 (pC (.int 7919))) p_l_deal_2)
def p_l_deal : TSD := (sSeqD (sSet 1 (pComp (sSeq (pSl dSl (pV 0) oNone (oSome (pC (.int 63))))) (gN 3) tYesD (pL dMax2 (paC (pV 3) (paC (p2 dSub (pC (.int 0)) (pV 3)) paN))) [3])) p_l_deal_1)
def w_l_deal : List D → (D → Prop) → Prop := fnW .strong 4 p_l_deal
def b_l_in_land_1 : TSD := (sSeqD (sAsg (p2 dIx (pV 0) (p2 dMod (p2 dAdd (pV 4) (pC (.int 1))) (pL dLen (paC (pV 0) paN)))) (gT (gsC (gN 7) (gsC (gN 8) gsN)))) (sSeqD (sSet 9 (p2 dMul (p2 dSub (pV 7) (pV 5)) (p2 dSub (pV 2) (p2 dMul (pV 6) (pV 3))))) (sIf (tV (p2 dLtI (pV 9) (p2 dMul (p2 dSub (pV 8) (pV 6)) (p2 dSub (pV 1) (p2 dMul (pV 5) (pV 3)))))) (sRet (pC (.bl false))) sNext)))
def p_l_in_land : TSD := (sSeqD (sFor (sEnumM (paC (pV 0) paN)) (gT (gsC (gN 4) (gsC (gT (gsC (gN 5) (gsC (gN 6) gsN))) gsN))) b_l_in_land_1) (sRet (pC (.bl true))))
def w_l_in_land : List D → (D → Prop) → Prop := fnW .strong 10 p_l_in_land
def b_l_cells_in_1 : TSD := (sExt 3 (pComp (sRng2 (paC (pL dMin (paC (pV 2) paN)) (paC (p2 dAdd (pL dMax (paC (pV 2) paN)) (pC (.int 1))) paN))) (gN 6) (tV (pCall w_l_in_land (paC (pV 0) (paC (pV 4) (paC (pV 6) (paC (pC (.int 1)) paN)))))) (pTup (paC (pV 4) (paC (pV 6) paN))) [6]))
def p_l_cells_in_2 : TSD := (sSeqD (sFor (sRng2 (paC (pL dMin (paC (pV 1) paN)) (paC (p2 dAdd (pL dMax (paC (pV 1) paN)) (pC (.int 1))) paN))) (gN 4) b_l_cells_in_1) (sRet (pL dTuple (paC (pV 3) paN))))
def p_l_cells_in_1 : TSD := (sSeqD (sSet 3 (pLst paN)) p_l_cells_in_2)
def p_l_cells_in : TSD := (sSeqD (sPar 1 2 (paC (pComp (sSeq (pV 0)) (gN 5) tYesD (p2 dIx (pV 5) (pC (.int 0))) [5]) (paC (pComp (sSeq (pV 0)) (gN 5) tYesD (p2 dIx (pV 5) (pC (.int 1))) [5]) paN))) p_l_cells_in_1)
def w_l_cells_in : List D → (D → Prop) → Prop := fnW .strong 7 p_l_cells_in
abbrev w_l_draw : List D → (D → Prop) → Prop := wDraw
def p_l_turn_1 : TSD := (sRet (p2 dSub (pV 3) (p2 dMul (p2 dSub (p2 dIx (pV 1) (pC (.int 1))) (p2 dIx (pV 0) (pC (.int 1)))) (p2 dSub (p2 dIx (pV 2) (pC (.int 0))) (p2 dIx (pV 0) (pC (.int 0)))))))
def p_l_turn : TSD := (sSeqD (sSet 3 (p2 dMul (p2 dSub (p2 dIx (pV 1) (pC (.int 0))) (p2 dIx (pV 0) (pC (.int 0)))) (p2 dSub (p2 dIx (pV 2) (pC (.int 1))) (p2 dIx (pV 0) (pC (.int 1)))))) p_l_turn_1)
def w_l_turn : List D → (D → Prop) → Prop := fnW .strong 4 p_l_turn
def b_l_half_2 : TSD := (sSeqD (sWhile (tAndD (tV (p2 dGtI (pL dLen (paC (pV 1) paN)) (pC (.int 1)))) (tV (p2 dLeI (pCall w_l_turn (paC (p2 dIx (pV 1) (p1 dNeg (pC (.int 2)))) (paC (p2 dIx (pV 1) (p1 dNeg (pC (.int 1)))) (paC (pV 2) paN)))) (pC (.int 0))))) (sPop 1)) (sApp 1 (pV 2)))
def p_l_half_2 : TSD := (sRet (pSl dSl (pV 1) oNone (oSome (p1 dNeg (pC (.int 1))))))
def p_l_half_1 : TSD := (sSeqD (sFor (sSeq (pV 0)) (gN 2) b_l_half_2) p_l_half_2)
def p_l_half : TSD := (sSeqD (sSet 1 (pLst paN)) p_l_half_1)
def w_l_half : List D → (D → Prop) → Prop := fnW .strong 3 p_l_half
def b_l_ring_1 : TSD := (sApp 4 (pTup (paC (p2 dSub (p2 dAdd (pV 1) (pCall w_l_draw (paC (pV 0) (paC (p2 dMul (pC (.int 2)) (pV 3)) paN)))) (pV 3)) (paC (p2 dSub (p2 dAdd (pV 2) (pCall w_l_draw (paC (pV 0) (paC (p2 dMul (pC (.int 2)) (pV 3)) paN)))) (pV 3)) paN))))
def b_l_ring_2 : TSD := (sSeqD (sSet 10 (p2 dIx (pV 6) (p2 dMod (p2 dAdd (pV 8) (pC (.int 1))) (pL dLen (paC (pV 6) paN))))) (sSeqD (sApp 7 (pV 9)) (sIf (tAndD (tV (p2 dEq (p2 dMod (p2 dSub (p2 dIx (pV 10) (pC (.int 0))) (p2 dIx (pV 9) (pC (.int 0)))) (pC (.int 2))) (pC (.int 0)))) (tAndD (tV (p2 dEq (p2 dMod (p2 dSub (p2 dIx (pV 10) (pC (.int 1))) (p2 dIx (pV 9) (pC (.int 1)))) (pC (.int 2))) (pC (.int 0)))) (tV (p2 dEq (pCall w_l_draw (paC (pV 0) (paC (pC (.int 2)) paN))) (pC (.int 0)))))) (sApp 7 (pTup (paC (p2 dDiv (p2 dAdd (p2 dIx (pV 9) (pC (.int 0))) (p2 dIx (pV 10) (pC (.int 0)))) (pC (.int 2))) (paC (p2 dDiv (p2 dAdd (p2 dIx (pV 9) (pC (.int 1))) (p2 dIx (pV 10) (pC (.int 1)))) (pC (.int 2))) paN)))) sNext)))
def p_l_ring_9 : TSD := (sRet (pL dTuple (paC (p2 dAdd (pSl dSl (pV 7) (oSome (pV 11)) oNone) (pSl dSl (pV 7) oNone (oSome (pV 11)))) paN)))
def p_l_ring_8 : TSD := (sSeqD (sSet 11 (pCall w_l_draw (paC (pV 0) (paC (pL dLen (paC (pV 7) paN)) paN)))) p_l_ring_9)
def p_l_ring_7 : TSD := (sSeqD (sFor (sEnumM (paC (pV 6) paN)) (gT (gsC (gN 8) (gsC (gN 9) gsN))) b_l_ring_2) p_l_ring_8)
def p_l_ring_5 : TSD := (sSeqD (sSet 6 (p2 dAdd (pCall w_l_half (paC (pV 4) paN)) (pCall w_l_half (paC (p1 dRev (pV 4)) paN)))) (sSeqD (sSet 7 (pLst paN)) p_l_ring_7))
def p_l_ring_4 : TSD := (sSeqD (sSet 4 (p1 dSortSet (pV 4))) p_l_ring_5)
def p_l_ring_3 : TSD := (sSeqD (sFor (sRng1 (paC (pCall w_l_draw (paC (pV 0) (paC (pC (.int 9)) paN))) paN)) (gN 5) b_l_ring_1) p_l_ring_4)
def p_l_ring_2 : TSD := (sSeqD (sSet 4 (pLst (paC (pTup (paC (pV 1) (paC (pV 2) paN))) (paC (pTup (paC (p2 dAdd (pV 1) (pC (.int 1))) (paC (pV 2) paN))) (paC (pTup (paC (pV 1) (paC (p2 dAdd (pV 2) (pC (.int 1))) paN))) (paC (pTup (paC (p2 dAdd (pV 1) (pC (.int 1))) (paC (p2 dAdd (pV 2) (pC (.int 1))) paN))) paN)))))) p_l_ring_3)
def p_l_ring_1 : TSD := (sSeqD (sSet 3 (p2 dAdd (pC (.int 1)) (pCall w_l_draw (paC (pV 0) (paC (pC (.int 7)) paN))))) p_l_ring_2)
def p_l_ring : TSD := (sSeqD (sAsg (p2 dIx (pLst (paC (pTup (paC (pC (.int 0)) (paC (pC (.int 0)) paN))) (paC (pTup (paC (p2 dSub (pCall w_l_draw (paC (pV 0) (paC (p2 dMul (pC (.int 2)) (p2 dPow (pC (.int 10)) (pC (.int 6)))) paN))) (p2 dPow (pC (.int 10)) (pC (.int 6)))) (paC (p2 dPow (pC (.int 10)) (pC (.int 6))) paN))) paN))) (pL dToI (paC (p2 dEq (pCall w_l_draw (paC (pV 0) (paC (pC (.int 4)) paN))) (pC (.int 0))) paN))) (gT (gsC (gN 1) (gsC (gN 2) gsN)))) p_l_ring_1)
def w_l_ring : List D → (D → Prop) → Prop := fnW .strong 12 p_l_ring
def p_sides_round : TSD := (sRet (pComp (sRng1 (paC (pL dLen (paC (pV 0) paN)) paN)) (gN 1) tYesD (pTup (paC (p2 dIx (pV 0) (pV 1)) (paC (p2 dIx (pV 0) (p2 dMod (p2 dAdd (pV 1) (pC (.int 1))) (pL dLen (paC (pV 0) paN)))) paN))) [1]))
def w_sides_round : List D → (D → Prop) → Prop := fnW .strong 2 p_sides_round
def b_is_within_1 : TSD := (sSeqD (sSet 6 (p2 dSub (p2 dMul (p2 dSub (p2 dIx (pV 5) (pC (.int 0))) (p2 dIx (pV 4) (pC (.int 0)))) (p2 dSub (pV 2) (p2 dMul (p2 dIx (pV 4) (pC (.int 1))) (pV 3)))) (p2 dMul (p2 dSub (p2 dIx (pV 5) (pC (.int 1))) (p2 dIx (pV 4) (pC (.int 1)))) (p2 dSub (pV 1) (p2 dMul (p2 dIx (pV 4) (pC (.int 0))) (pV 3)))))) (sIf (tV (p2 dLtI (pV 6) (pC (.int 0)))) (sRet (pC (.bl false))) sNext))
def p_is_within : TSD := (sSeqD (sFor (sSeq (pV 0)) (gT (gsC (gN 4) (gsC (gN 5) gsN))) b_is_within_1) (sRet (pC (.bl true))))
def w_is_within : List D → (D → Prop) → Prop := fnW .strong 7 p_is_within
def b_land_cells_1 : TSD := (sIf (tV (pCall w_is_within (paC (pV 1) (paC (pV 3) (paC (pV 4) (paC (pC (.int 1)) paN)))))) (sApp 2 (pTup (paC (pV 3) (paC (pV 4) paN)))) sNext)
def b_land_cells_2 : TSD := (sFor (sRng2 (paC (pL dMin (paC (pComp (sSeq (pV 0)) (gN 5) tYesD (p2 dIx (pV 5) (pC (.int 1))) [5]) paN)) (paC (p2 dAdd (pL dMax (paC (pComp (sSeq (pV 0)) (gN 5) tYesD (p2 dIx (pV 5) (pC (.int 1))) [5]) paN)) (pC (.int 1))) paN))) (gN 4) b_land_cells_1)
def p_land_cells_2 : TSD := (sSeqD (sFor (sRng2 (paC (pL dMin (paC (pComp (sSeq (pV 0)) (gN 5) tYesD (p2 dIx (pV 5) (pC (.int 0))) [5]) paN)) (paC (p2 dAdd (pL dMax (paC (pComp (sSeq (pV 0)) (gN 5) tYesD (p2 dIx (pV 5) (pC (.int 0))) [5]) paN)) (pC (.int 1))) paN))) (gN 3) b_land_cells_2) (sRet (pL dTuple (paC (pV 2) paN))))
def p_land_cells_1 : TSD := (sSeqD (sSet 2 (pLst paN)) p_land_cells_2)
def p_land_cells : TSD := (sSeqD (sSet 1 (pCall w_sides_round (paC (pV 0) paN))) p_land_cells_1)
def w_land_cells : List D → (D → Prop) → Prop := fnW .strong 6 p_land_cells
def p_over_common_1 : TSD := (sRet (pTup (paC (p2 dMul (pV 1) (pV 4)) (paC (p2 dMul (pV 3) (pV 2)) (paC (p2 dMul (pV 2) (pV 4)) paN)))))
def p_over_common : TSD := (sSeqD (sAsg (pV 0) (gT (gsC (gT (gsC (gN 1) (gsC (gN 2) gsN))) (gsC (gT (gsC (gN 3) (gsC (gN 4) gsN))) gsN)))) p_over_common_1)
def w_over_common : List D → (D → Prop) → Prop := fnW .strong 5 p_over_common
def p_in_land_1 : TSD := (sRet (pCall w_is_within (paC (pCall w_sides_round (paC (pV 0) paN)) (paC (pV 2) (paC (pV 3) (paC (pV 4) paN))))))
def p_in_land : TSD := (sSeqD (sAsg (pCall w_over_common (paC (pV 1) paN)) (gT (gsC (gN 2) (gsC (gN 3) (gsC (gN 4) gsN))))) p_in_land_1)
def w_in_land : List D → (D → Prop) → Prop := fnW .strong 5 p_in_land
def b_l_fraction_1 : TSD := (sPar 2 3 (paC (pV 3) (paC (p2 dMod (pV 2) (pV 3)) paN)))
def p_l_fraction_2 : TSD := (sRet (pTup (paC (p2 dDiv (pV 0) (pV 2)) (paC (p2 dDiv (pV 1) (pV 2)) paN))))
def p_l_fraction_1 : TSD := (sSeqD (sWhile (tV (p2 dGtI (pV 3) (pC (.int 0)))) b_l_fraction_1) p_l_fraction_2)
def p_l_fraction : TSD := (sSeqD (sPar 2 3 (paC (pL dAbs (paC (pV 0) paN)) (paC (pV 1) paN))) p_l_fraction_1)
def w_l_fraction : List D → (D → Prop) → Prop := fnW .strong 4 p_l_fraction
def b_l_points_right_1 : TSD := (sSeqD (sPar 3 4 (paC (p2 dIx (pV 1) (pCall w_l_draw (paC (pV 0) (paC (pL dLen (paC (pV 1) paN)) paN)))) (paC (p2 dIx (pV 1) (pCall w_l_draw (paC (pV 0) (paC (pL dLen (paC (pV 1) paN)) paN)))) paN))) (sSeqD (sSet 5 (p2 dIx (pLst (paC (p2 dAdd (pC (.int 1)) (pCall w_l_draw (paC (pV 0) (paC (pC (.int 6)) paN)))) (paC (p2 dAdd (p2 dPow (pC (.int 10)) (pC (.int 20))) (pC (.int 1))) paN))) (pL dToI (paC (p2 dEq (pCall w_l_draw (paC (pV 0) (paC (pC (.int 4)) paN))) (pC (.int 0))) paN)))) (sSeqD (sSet 6 (pCall w_l_draw (paC (pV 0) (paC (p2 dAdd (pV 5) (pC (.int 2))) paN)))) (sSeqD (sSet 7 (p2 dSub (p2 dAdd (p2 dAdd (p2 dMul (p2 dIx (pV 3) (pC (.int 0))) (pV 5)) (p2 dMul (p2 dSub (p2 dIx (pV 4) (pC (.int 0))) (p2 dIx (pV 3) (pC (.int 0)))) (pV 6))) (pCall w_l_draw (paC (pV 0) (paC (pC (.int 3)) paN)))) (pC (.int 1)))) (sSeqD (sSet 8 (p2 dSub (p2 dAdd (p2 dAdd (p2 dMul (p2 dIx (pV 3) (pC (.int 1))) (pV 5)) (p2 dMul (p2 dSub (p2 dIx (pV 4) (pC (.int 1))) (p2 dIx (pV 3) (pC (.int 1)))) (pV 6))) (pCall w_l_draw (paC (pV 0) (paC (pC (.int 3)) paN)))) (pC (.int 1)))) (sSeqD (sSet 9 (pCall w_in_land (paC (pV 1) (paC (pTup (paC (pCall w_l_fraction (paC (pV 7) (paC (pV 5) paN))) (paC (pCall w_l_fraction (paC (pV 8) (paC (pV 5) paN))) paN))) paN)))) (sIf (tOrD (tNotD (tV (pL dIsi (paC (pV 9) (paC (pC (.ty "bool")) paN))))) (tV (p2 dNe (pV 9) (pCall w_l_in_land (paC (pV 1) (paC (pV 7) (paC (pV 8) (paC (pV 5) paN)))))))) (sRet (pC (.bl false))) sNext)))))))
def p_l_points_right : TSD := (sSeqD (sFor (sRng1 (paC (pC (.int 8)) paN)) (gN 2) b_l_points_right_1) (sRet (pC (.bl true))))
def w_l_points_right : List D → (D → Prop) → Prop := fnW .strong 10 p_l_points_right
def p_law_5 : TSD := (sRet (p2 dEq (pCall w_land_cells (paC (pV 2) paN)) (pV 4)))
def p_law_4 : TSD := (sSeqD (sIf (tOrD (tNotD (tV (pCall w_l_points_right (paC (pV 1) (paC (pV 3) paN))))) (tV (p2 dNe (pCall w_land_cells (paC (p2 dAdd (pSl dSl (pV 3) oNone (oSome (pC (.int 1)))) (pSl dSl (pV 3) (oSome (pC (.int 1))) oNone)) paN)) (pCall w_l_cells_in (paC (pV 3) paN))))) (sRet (pC (.bl false))) sNext) p_law_5)
def p_law_3 : TSD := (sSeqD (sIf (tOrD (tV (p2 dNe (pCall w_land_cells (paC (pV 2) paN)) (pV 4))) (tNotD (tV (pCall w_l_points_right (paC (pV 1) (paC (pV 2) paN)))))) (sRet (pC (.bl false))) sNext) p_law_4)
def p_law_2 : TSD := (sSeqD (sSet 4 (pCall w_l_cells_in (paC (pV 2) paN))) p_law_3)
def p_law_1 : TSD := (sSeqD (sPar 2 3 (paC (pCall w_l_ring (paC (pV 1) paN)) (paC (pCall w_l_ring (paC (pV 1) paN)) paN))) p_law_2)
def p_law : TSD := (sSeqD (sSet 1 (pCall w_l_deal (paC (pV 0) paN))) p_law_1)
def w_law : List D → (D → Prop) → Prop := fnW .strong 5 p_law

end DL

set_option Elab.async false
set_option linter.all false
set_option maxRecDepth 100000
set_option maxHeartbeats 4000000
namespace DL
open PySem PySem.Spec PyProof.Rows L2
local macro_rules | `(tactic| walk_at "dl") => `(tactic| simp only [x_fnS, x_fnF, x_seq, x_next, x_pass, x_brk, x_cnt, x_set, x_ret, x_retN, x_if, x_asg, x_drop, x_par, x_par3, x_two, x_three, x_for, x_gN, x_gsN, x_gsC, x_gT, x_gTl, x_pV, x_opt, x_pC, x_p1, x_p2, x_pL, x_call, x_callW, x_paN, x_paC, x_tup, x_lst, x_tV, x_tAnd, x_tOr, x_tNot, x_pAnd, x_pOr, x_pNot, x_pIf, x_chain, x_bl, x_int, x_addI, x_addS, x_addL, x_addT, x_cat, x_sub, x_mul, x_mulL, x_rep, x_div, x_mod, x_pow, x_neg, x_eq, x_ne, x_ltI, x_leI, x_gtI, x_geI, x_isN, x_notN, x_nN, x_nI, x_nB, x_nS, x_nT, x_nL, x_ixT, x_ixL, x_ixS, x_len_l, x_len_t, x_len_c, x_len_s, x_all, x_any, x_abs, x_max2, x_min2, x_toI, x_toB, x_tuL, x_tuT, x_liL, x_liT, x_rev, x_pSl, x_oN, x_oS, x_slL, x_slT, x_slC, x_slS, x_slLL, x_slLC, x_sSeq, x_seqL, x_seqT, x_one, x_rng1, x_rng2, x_comp, x_w0, x_w1, x_start, x_yes, x_comp0, x_for0, x_app, x_own, x_optL, x_item, x_draw, x_retDeal, ok_i, ok_b, ok_n, ok_t, ok_l, ok_0, ok_c, eq_ii, eq_tt, eq_ll, eq_0, eq_c, eq_ss, eq_bb, eq_nn, x_sZip, x_sEnum, x_twoD, x_oneD, x_zipL, x_zipT, x_zc, x_zn, x_enL, x_sZipM, x_zipM, x_inL, x_inT, x_niL, x_niT, x_sum, x_max, x_min, x_srt, x_sset, x_pop, x_revs, x_ext, x_ins, x_dLst, x_sEnumM, x_enM, isi_int_int, isi_int_bool, isi_int_str, isi_int_tuple, isi_int_list, isi_bl_int, isi_bl_bool, isi_bl_str, isi_bl_tuple, isi_bl_list, isi_str_int, isi_str_bool, isi_str_str, isi_str_tuple, isi_str_list, isi_non_int, isi_non_bool, isi_non_str, isi_non_tuple, isi_non_list, isi_tup_int, isi_tup_bool, isi_tup_str, isi_tup_tuple, isi_tup_list, isi_lst_int, isi_lst_bool, isi_lst_str, isi_lst_tuple, isi_lst_list, List.map_cons, List.map_nil, List.length_cons, List.length_nil, List.cons_append, List.nil_append, List.reduceReplicate, Nat.reduceSub, Nat.reduceAdd, Int.cast_ofNat_Int, List.getElem?_cons_zero, List.getElem?_cons_succ, List.set_cons_zero, List.set_cons_succ, atI_0, atI_1, atI_2, atI_3, Option.some.injEq, exists_eq_left', exists_eq_left, Bool.and_self, Bool.and_true, Bool.true_and, Bool.and_false, Bool.false_and, Bool.not_false, Bool.not_true, if_true, if_false, ite_true, ite_false, true_and, and_true, Bool.false_eq_true, beq_self_eq_true, decide_true, decide_false, Bool.not_not, reduceIte, decide_eq_true_eq])
local macro_rules | `(tactic| walk_at "un") => `(tactic| simp only [x_comp1, x_for1, x_fnS, x_fnF, x_seq, x_next, x_pass, x_brk, x_cnt, x_set, x_ret, x_retN, x_if, x_asg, x_drop, x_par, x_par3, x_two, x_three, x_for, x_gN, x_gsN, x_gsC, x_gT, x_gTl, x_pV, x_opt, x_pC, x_p1, x_p2, x_pL, x_call, x_callW, x_paN, x_paC, x_tup, x_lst, x_tV, x_tAnd, x_tOr, x_tNot, x_pAnd, x_pOr, x_pNot, x_pIf, x_chain, x_bl, x_int, x_addI, x_addS, x_addL, x_addT, x_cat, x_sub, x_mul, x_mulL, x_rep, x_div, x_mod, x_pow, x_neg, x_eq, x_ne, x_ltI, x_leI, x_gtI, x_geI, x_isN, x_notN, x_nN, x_nI, x_nB, x_nS, x_nT, x_nL, x_ixT, x_ixL, x_ixS, x_len_l, x_len_t, x_len_c, x_len_s, x_all, x_any, x_abs, x_max2, x_min2, x_toI, x_toB, x_tuL, x_tuT, x_liL, x_liT, x_rev, x_pSl, x_oN, x_oS, x_slL, x_slT, x_slC, x_slS, x_slLL, x_slLC, x_sSeq, x_seqL, x_seqT, x_one, x_rng1, x_rng2, x_comp, x_w0, x_w1, x_start, x_yes, x_comp0, x_for0, x_app, x_own, x_optL, x_item, x_draw, x_retDeal, ok_i, ok_b, ok_n, ok_t, ok_l, ok_0, ok_c, eq_ii, eq_tt, eq_ll, eq_0, eq_c, eq_ss, eq_bb, eq_nn, x_sZip, x_sEnum, x_twoD, x_oneD, x_zipL, x_zipT, x_zc, x_zn, x_enL, x_sZipM, x_zipM, x_inL, x_inT, x_niL, x_niT, x_sum, x_max, x_min, x_srt, x_sset, x_pop, x_revs, x_ext, x_ins, x_dLst, x_sEnumM, x_enM, isi_int_int, isi_int_bool, isi_int_str, isi_int_tuple, isi_int_list, isi_bl_int, isi_bl_bool, isi_bl_str, isi_bl_tuple, isi_bl_list, isi_str_int, isi_str_bool, isi_str_str, isi_str_tuple, isi_str_list, isi_non_int, isi_non_bool, isi_non_str, isi_non_tuple, isi_non_list, isi_tup_int, isi_tup_bool, isi_tup_str, isi_tup_tuple, isi_tup_list, isi_lst_int, isi_lst_bool, isi_lst_str, isi_lst_tuple, isi_lst_list, List.map_cons, List.map_nil, List.length_cons, List.length_nil, List.cons_append, List.nil_append, List.reduceReplicate, Nat.reduceSub, Nat.reduceAdd, Int.cast_ofNat_Int, List.getElem?_cons_zero, List.getElem?_cons_succ, List.set_cons_zero, List.set_cons_succ, atI_0, atI_1, atI_2, atI_3, Option.some.injEq, exists_eq_left', exists_eq_left, Bool.and_self, Bool.and_true, Bool.true_and, Bool.and_false, Bool.false_and, Bool.not_false, Bool.not_true, if_true, if_false, ite_true, ite_false, true_and, and_true, Bool.false_eq_true, beq_self_eq_true, decide_true, decide_false, Bool.not_not, reduceIte, decide_eq_true_eq])
theorem bnd_lit (n : Nat) : bnd (n.log2 + 1) (OfNat.ofNat n : Int) := by
  show (Int.natAbs (n : Int)) < _
  rw [Int.natAbs_natCast]
  exact Nat.lt_log2_self
theorem bnd_pos {k : Nat} {i j : Int} (h : bnd k j) (h0 : 0 ≤ i) (h1 : i ≤ j) : bnd k i := by unfold bnd at *; omega
local macro_rules | `(tactic| walk_at "bb") => `(tactic| first | assumption | with_reducible exact bnd_lit _ | (with_reducible apply bnd_sub <;> walk_at "bb") | (with_reducible apply bnd_add <;> walk_at "bb") | (with_reducible apply bnd_mul <;> walk_at "bb") | (with_reducible apply bnd_neg <;> walk_at "bb"))
local macro_rules | `(tactic| walk_at "mo") => `(tactic| exact bnd_mulOk (by walk_at "bb") (by walk_at "bb"))
local macro_rules | `(tactic| walk_at "bm") => `(tactic| exact bnd_mono (by walk_at "bb") (by decide))
theorem q_draw (m : Int) (hm : 0 < m) (hb : bnd 8000 m) (R : D → Prop) (h : ∀ r, 0 ≤ r → r < m → R (.int r)) : w_l_draw [.deal, .int m] R := by
  walk_at "dl"
  exact ⟨⟨hm, bnd_log hb⟩, h⟩
theorem drawK {m : Int} (hm : 0 < m) (hb : bnd 8000 m) : 0 < m ∧ m.natAbs.log2 < 9000 := ⟨hm, bnd_log hb⟩
theorem cut_ints (ns : List Int) (lo hi : Option Int) : ∃ ms : List Int, cutD (ns.map D.int) lo hi = ms.map D.int ∧ ms.length ≤ ns.length := by
  unfold cutD
  refine ⟨_, by rw [← List.map_drop, ← List.map_take], ?_⟩
  rw [List.length_take, List.length_drop]
  omega
def absI (i : Int) : Int := if 0 - i > i then 0 - i else i
theorem q_deal (ns : List Int) (hn : ns.length ≤ 63) (R : D → Prop) (h : R .deal) : w_l_deal [.scr ns] R := by
  unfold w_l_deal p_l_deal p_l_deal_1 p_l_deal_2 p_l_deal_3
  walk_at "dl"
  obtain ⟨cs, ec, hc⟩ := cut_ints ns none (some 63)
  rw [ec]
  have z1 : (cs.map D.int).length ≤ sizeLine := by rw [List.length_map]; exact sz_small (by omega)
  refine ⟨z1, ?_⟩
  let fa : D → D := fun d => match d with | .int i => .int (absI i) | d => d
  refine compM fa _ _ _ (fun d hd R hR => ?_) ?_
  · obtain ⟨i, _, rfl⟩ := List.mem_map.mp hd
    walk_at "dl"
    exact hR
  · have ea : (cs.map D.int).map fa = (cs.map absI).map D.int := by rw [List.map_map, List.map_map]; rfl
    rw [List.nil_append, ea]
    generalize hm : cs.map absI = ms
    have hml : ms.length ≤ 63 := by rw [← hm, List.length_map]; omega
    refine forI (fun rest ρ => (∃ js : List Int, rest = js.map D.int) ∧ ∃ (s : Int) (o : Option D), 0 ≤ s ∧ s < 2147483647 ∧ ρ = [some (.scr ns), some (.lst (ms.map D.int)), some (.int s), o]) ?_ ?_ _ _ ⟨⟨ms, rfl⟩, 7919, none, by decide, by decide, rfl⟩
    · rintro d rest ρ N ⟨⟨js, hj⟩, s, o, s0, s1, rfl⟩ hN
      match js, hj with
      | j :: js, hj =>
        injection hj with e1 e2
        subst e1; subst e2
        have bs : bnd 31 s := bnd_of (lo := 0) (hi := 2147483647) (by omega) (by omega)
        have bq : bnd 17 48271 := bnd_of (lo := 48271) (hi := 48271) (by decide) (by decide)
        unfold b_l_deal_1
        walk_at "dl"
        refine ⟨bnd_mulOk bs bq, by decide, by decide, ?_⟩
        obtain ⟨r0, r1⟩ := fmod_rng (s * 48271 + j.fmod 2147483629) (j := 2147483647) (by decide)
        exact hN _ ⟨⟨js, rfl⟩, _, _, r0, r1, rfl⟩
    · rintro ρ ⟨_, s, o, s0, s1, rfl⟩
      walk_at "dl"
      refine ⟨⟨s0, by omega⟩, by rw [List.length_map]; exact sz_small (by omega), ?_⟩
      refine compF (fun d => match d with | .int i => decide ((10 : Int) ^ Int.toNat 18 ≤ i) | _ => false) id _ _ _ (fun d hd K1 K2 h1 h2 => ?_) ?_
      · obtain ⟨i, _, rfl⟩ := List.mem_map.mp hd
        walk_at "dl"
        refine ⟨by decide, ?_⟩
        by_cases hi : (10 : Int) ^ Int.toNat 18 ≤ i
        · rw [if_pos hi]; exact h1 (decide_eq_true hi)
        · rw [if_neg hi]; exact h2 (decide_eq_false hi)
      · walk_at "dl"
        refine ⟨(ms.filter fun i => decide ((10 : Int) ^ Int.toNat 18 ≤ i)).reverse, ?_, fun x hx => ?_, ?_, h⟩
        · rw [List.map_id, List.map_reverse, List.filter_map]
          rfl
        · have := (List.mem_filter.mp (List.mem_reverse.mp hx)).2
          have h18 : (0 : Int) < 10 ^ Int.toNat 18 := by decide
          have h := of_decide_eq_true this
          omega
        · rw [List.length_reverse]
          exact Nat.le_trans (List.length_filter_le _ _) hml
theorem pick {xs : List D} {r : Int} {P : D → Prop} (h0 : 0 ≤ r) (h1 : r < xs.length) (h : ∀ d ∈ xs, P d) : ∃ d, L2.atI xs r = some d ∧ P d := ⟨_, atI_get h0 h1, h _ (List.getElem_mem _)⟩
theorem pick2 {a b : D} {r : Int} {P : D → Prop} (h0 : 0 ≤ r) (h1 : r < 2) (pa : P a) (pb : P b) : ∃ d, L2.atI [a, b] r = some d ∧ P d := pick h0 h1 (by simp [pa, pb])
theorem pick3 {a b c : D} {r : Int} {P : D → Prop} (h0 : 0 ≤ r) (h1 : r < 3) (pa : P a) (pb : P b) (pc : P c) : ∃ d, L2.atI [a, b, c] r = some d ∧ P d := pick h0 h1 (by simp [pa, pb, pc])
theorem pick4 {a b c e : D} {r : Int} {P : D → Prop} (h0 : 0 ≤ r) (h1 : r < 4) (pa : P a) (pb : P b) (pc : P c) (pe : P e) : ∃ d, L2.atI [a, b, c, e] r = some d ∧ P d := pick h0 h1 (by simp [pa, pb, pc, pe])
theorem paired4 {F : D → D → Prop} {a b c d : D} {ys : List D} (h : Paired F [a, b, c, d] ys) : ∃ p q r s, ys = [p, q, r, s] ∧ F a p ∧ F b q ∧ F c r ∧ F d s := by
  cases h with
  | cons h1 h => cases h with
    | cons h2 h => cases h with
      | cons h3 h => cases h with
        | cons h4 h => cases h; exact ⟨_, _, _, _, rfl, h1, h2, h3, h4⟩
theorem pairedD2 {F : D → D → Prop} {a b : D} {ys : List D} (h : Paired F [a, b] ys) : ∃ p q, ys = [p, q] ∧ F a p ∧ F b q := by
  cases h with
  | cons h1 h => cases h with
    | cons h2 h => cases h; exact ⟨_, _, rfl, h1, h2⟩
theorem pairedD3 {F : D → D → Prop} {a b c : D} {ys : List D} (h : Paired F [a, b, c] ys) : ∃ p q r, ys = [p, q, r] ∧ F a p ∧ F b q ∧ F c r := by
  cases h with
  | cons h1 h => cases h with
    | cons h2 h => cases h with
      | cons h3 h => cases h; exact ⟨_, _, _, rfl, h1, h2, h3⟩
theorem natAbs_fmod_lt (x y : Int) (hy : y ≠ 0) : (x.fmod y).natAbs < y.natAbs := by
  rcases Int.lt_or_gt_of_ne hy with h | h
  · have e : x.fmod y = -((-x).fmod (-y)) := by rw [← Int.neg_fmod_neg, Int.neg_neg, Int.neg_neg]
    have h1 := Int.fmod_nonneg_of_pos (-x) (b := -y) (by omega)
    have h2 := Int.fmod_lt_of_pos (-x) (b := -y) (by omega)
    omega
  · have h1 := Int.fmod_nonneg_of_pos x h
    have h2 := Int.fmod_lt_of_pos x h
    omega
theorem gcd_fmod (x y : Int) : Int.gcd y (x.fmod y) = Int.gcd x y := by
  rw [Int.fmod_def, Int.gcd_sub_mul_left_right, Int.gcd_comm]
def sgG (u l : Int) : Int := if l < 0 then 0 - ((Int.gcd u l : Nat) : Int) else ((Int.gcd u l : Nat) : Int)
def frU (u l : Int) : Int := u.fdiv (sgG u l)
def frL (u l : Int) : Int := l.fdiv (sgG u l)
theorem gcd_pos' {u l : Int} (hl : l ≠ 0) : 0 < Int.gcd u l := Nat.pos_of_ne_zero fun z => hl (Int.gcd_eq_zero_iff.mp z).2
theorem fr_spec (u l : Int) (hl : l ≠ 0) : 0 < frL u l ∧ Int.gcd (frU u l) (frL u l) = 1 ∧ frU u l * l = frL u l * u ∧ (frU u l).natAbs ≤ u.natAbs ∧ (frL u l).natAbs ≤ l.natAbs ∧ sgG u l ≠ 0 ∧ (sgG u l).natAbs ≤ l.natAbs := by
  have g0 := gcd_pos' (u := u) hl
  obtain ⟨u', hu⟩ := Int.gcd_dvd_left u l
  obtain ⟨l', hl'⟩ := Int.gcd_dvd_right u l
  have hgl : Int.gcd u l ≤ l.natAbs := Nat.le_of_dvd (Int.natAbs_pos.mpr hl) (by
    have := Int.natAbs_dvd_natAbs.mpr (Int.gcd_dvd_right u l)
    rwa [Int.natAbs_natCast] at this)
  unfold frU frL sgG
  generalize hg : Int.gcd u l = g at *
  have c1 : Int.gcd u' l' = 1 := by
    have h2 : Int.gcd u l = g * Int.gcd u' l' := by
      conv => lhs; rw [hu, hl']
      rw [Int.gcd_mul_left, Int.natAbs_natCast]
    rw [hg] at h2
    exact Nat.eq_of_mul_eq_mul_left g0 (by rw [← h2, Nat.mul_one])
  have gi : (0 : Int) < (g : Int) := by omega
  have bu : u'.natAbs ≤ u.natAbs := by
    rw [hu, Int.natAbs_mul, Int.natAbs_natCast]
    exact Nat.le_mul_of_pos_left _ g0
  have bl : l'.natAbs ≤ l.natAbs := by
    rw [hl', Int.natAbs_mul, Int.natAbs_natCast]
    exact Nat.le_mul_of_pos_left _ g0
  by_cases h : l < 0
  · rw [if_pos h]
    have e1 : u.fdiv (0 - (g : Int)) = -u' := by
      have : u = (0 - (g : Int)) * (-u') := by rw [Int.zero_sub, Int.neg_mul_neg]; exact hu
      rw [this]
      exact Int.mul_fdiv_cancel_left _ (by omega)
    have e2 : l.fdiv (0 - (g : Int)) = -l' := by
      have : l = (0 - (g : Int)) * (-l') := by rw [Int.zero_sub, Int.neg_mul_neg]; exact hl'
      rw [this]
      exact Int.mul_fdiv_cancel_left _ (by omega)
    rw [e1, e2]
    have p : 0 < -l' := by
      have : ¬ 0 ≤ l' := fun z => by
        have := Int.mul_nonneg (Int.le_of_lt gi) z
        omega
      omega
    refine ⟨p, by rw [Int.neg_gcd, Int.gcd_neg]; exact c1, ?_, by omega, by omega, by omega, by omega⟩
    conv => lhs; arg 2; rw [hl']
    conv => rhs; arg 2; rw [hu]
    rw [Int.neg_mul, Int.neg_mul, Int.mul_left_comm, Int.mul_left_comm l', Int.mul_comm u' l']
  · rw [if_neg h]
    have e1 : u.fdiv (g : Int) = u' := by
      conv => lhs; rw [hu]
      exact Int.mul_fdiv_cancel_left _ (by omega)
    have e2 : l.fdiv (g : Int) = l' := by
      conv => lhs; rw [hl']
      exact Int.mul_fdiv_cancel_left _ (by omega)
    rw [e1, e2]
    have p : 0 < l' := by
      have : ¬ l' ≤ 0 := fun z => by
        have := Int.mul_nonpos_of_nonneg_of_nonpos (Int.le_of_lt gi) z
        omega
      omega
    refine ⟨p, c1, ?_, by omega, by omega, by omega, by omega⟩
    conv => lhs; arg 2; rw [hl']
    conv => rhs; arg 2; rw [hu]
    rw [Int.mul_left_comm, Int.mul_left_comm l', Int.mul_comm u' l']
theorem bnd_le {k : Nat} {i j : Int} (h : bnd k j) (g : i.natAbs ≤ j.natAbs) : bnd k i := Nat.lt_of_le_of_lt g h
theorem fr_one {u l u' l' : Int} (hl : 0 < l) (hl' : 0 < l') (h : u * l' = u' * l) : frU u l = frU u' l' ∧ frL u l = frL u' l' := by
  obtain ⟨a1, a2, a3, _⟩ := fr_spec u l (by omega)
  obtain ⟨b1, b2, b3, _⟩ := fr_spec u' l' (by omega)
  generalize frU u l = p at *
  generalize frL u l = q at *
  generalize frU u' l' = p' at *
  generalize frL u' l' = q' at *
  have e : p * q' = p' * q := by
    have h0 : (l * l') * (p * q') = (l * l') * (p' * q) := by grind
    exact Int.eq_of_mul_eq_mul_left (Int.mul_ne_zero (by omega) (by omega)) h0
  have en : p.natAbs * q'.natAbs = p'.natAbs * q.natAbs := by rw [← Int.natAbs_mul, e, Int.natAbs_mul]
  have d1 : q'.natAbs ∣ q.natAbs := by
    have h1 : q'.natAbs ∣ p'.natAbs * q.natAbs := ⟨p.natAbs, by rw [← en, Nat.mul_comm]⟩
    have c : Nat.Coprime q'.natAbs p'.natAbs := by
      have : Nat.Coprime p'.natAbs q'.natAbs := b2
      exact this.symm
    exact c.dvd_of_dvd_mul_left h1
  have d2 : q.natAbs ∣ q'.natAbs := by
    have h1 : q.natAbs ∣ p.natAbs * q'.natAbs := ⟨p'.natAbs, by rw [en, Nat.mul_comm]⟩
    have c : Nat.Coprime q.natAbs p.natAbs := by
      have : Nat.Coprime p.natAbs q.natAbs := a2
      exact this.symm
    exact c.dvd_of_dvd_mul_left h1
  have eq1 := Nat.dvd_antisymm d1 d2
  have eq2 : q = q' := by omega
  subst eq2
  exact ⟨Int.eq_of_mul_eq_mul_right (by omega) e, rfl⟩
theorem fr_back (u l : Int) (hl : 0 < l) : ∃ g : Int, 0 < g ∧ u = g * frU u l ∧ l = g * frL u l := by
  have g0 := gcd_pos' (u := u) (l := l) (by omega)
  obtain ⟨u', hu⟩ := Int.gcd_dvd_left u l
  obtain ⟨l', hl'⟩ := Int.gcd_dvd_right u l
  refine ⟨((Int.gcd u l : Nat) : Int), by omega, ?_⟩
  unfold frU frL sgG
  rw [if_neg (by omega)]
  have e1 : u.fdiv ((Int.gcd u l : Nat) : Int) = u' := by
    generalize Int.gcd u l = g at *
    conv => lhs; rw [hu]
    exact Int.mul_fdiv_cancel_left _ (by omega)
  have e2 : l.fdiv ((Int.gcd u l : Nat) : Int) = l' := by
    generalize Int.gcd u l = g at *
    conv => lhs; rw [hl']
    exact Int.mul_fdiv_cancel_left _ (by omega)
  rw [e1, e2]
  exact ⟨hu, hl'⟩
def sgn (n : Int) : Int := if 0 < n then 1 else if n < 0 then -1 else 0
theorem sgn_neg (n : Int) : sgn (-n) = 0 - sgn n := by unfold sgn; repeat (first | omega | split)
theorem sgn_mul {g n : Int} (h : 0 < g) : sgn (g * n) = sgn n := by
  unfold sgn
  rcases Int.lt_trichotomy n 0 with hn | hn | hn
  · have := Int.mul_neg_of_pos_of_neg h hn
    rw [if_neg (by omega), if_pos this, if_neg (by omega), if_pos hn]
  · subst hn
    rw [Int.mul_zero]
  · have := Int.mul_pos h hn
    rw [if_pos this, if_pos hn]
theorem compG {α : Type} (g f : α → D) {tg : TGD} {te : TED} {ρ : PEnv} : ∀ (l : List α) (acc : List D) (R : List D → Prop), (∀ p ∈ l, ∀ R : D → Prop, R (f p) → tg (g p) ρ fun ρ1 => te ρ1 R) → R (acc ++ l.map f) → compR tg tYesD te ρ (l.map g) acc R
  | [], acc, R, _, h => by rw [List.map_nil, List.append_nil] at h; exact h
  | p :: l, acc, R, hs, h => by
    have e : ∀ (R' : D → Prop) (K2 : Prop), (fun ρ1 => tYesD ρ1 fun b => if b = true then te ρ1 R' else K2) = fun ρ1 => te ρ1 R' := fun _ _ => by funext ρ1; simp [tYesD]
    show tg (g p) ρ (fun ρ1 => tYesD ρ1 fun b => if b = true then te ρ1 (fun y => compR tg tYesD te ρ (l.map g) (acc ++ [y]) R) else compR tg tYesD te ρ (l.map g) acc R)
    rw [e]
    refine hs p List.mem_cons_self _ (compG g f l _ R (fun q hq => hs q (List.mem_cons_of_mem _ hq)) ?_)
    rw [List.map_cons] at h
    rw [List.append_assoc]
    exact h
theorem compGF {α : Type} (g f : α → D) (c : α → Bool) {tg : TGD} {tt : TTD} {te : TED} {ρ : PEnv} : ∀ (l : List α) (acc : List D) (R : List D → Prop),
    (∀ p ∈ l, ∀ (K1 : D → Prop) (K2 : Prop), (c p = true → K1 (f p)) → (c p = false → K2) → tg (g p) ρ fun ρ1 => tt ρ1 fun b => if b = true then te ρ1 K1 else K2) → R (acc ++ (l.filter c).map f) → compR tg tt te ρ (l.map g) acc R
  | [], acc, R, _, h => by rw [List.filter_nil, List.map_nil, List.append_nil] at h; exact h
  | p :: l, acc, R, hs, h => by
    refine hs p List.mem_cons_self _ _ (fun hc => ?_) fun hc => ?_
    · refine compGF g f c l _ R (fun q hq => hs q (List.mem_cons_of_mem _ hq)) ?_
      rw [List.filter_cons_of_pos hc] at h
      rw [List.append_assoc]
      exact h
    · refine compGF g f c l _ R (fun q hq => hs q (List.mem_cons_of_mem _ hq)) ?_
      rw [List.filter_cons_of_neg (by rw [hc]; exact Bool.false_ne_true)] at h
      exact h
theorem zipD_map {α : Type} (g f : α → D) : ∀ l : List α, zipD (l.map g) (l.map f) = l.map fun p => D.tup [g p, f p]
  | [] => rfl
  | p :: l => by
    show D.tup [g p, f p] :: zipD (l.map g) (l.map f) = _
    rw [zipD_map g f l] <;> rfl
theorem ok_prs : ∀ (l : List (Int × Int)) (n : Nat), okD.okDs (n + 1) (l.map prD) = true
  | [], n => by simp [okD.okDs]
  | p :: l, n => by
    show (okD (n + 1) (prD p) && okD.okDs (n + 1) (l.map prD)) = true
    rw [ok_prs l n]
    simp [prD, okD, okD.okDs]
theorem ok_p59 (l : List (Int × Int)) : okD.okDs 59 (l.map prD) = true := ok_prs l 58
theorem ok_tprs (l : List (Int × Int)) : okD 60 (.tup (l.map prD)) = true := ok_prs l 58
theorem eq_prs : ∀ l : List (Int × Int), eqD.eqDs (l.map prD) (l.map prD) = true
  | [] => by simp [eqD.eqDs]
  | p :: l => by
    show (eqD (prD p) (prD p) && eqD.eqDs (l.map prD) (l.map prD)) = true
    rw [eq_prs l]
    simp [prD, eqD, eqD.eqDs]
theorem eq_tprs (l : List (Int × Int)) : eqD (.tup (l.map prD)) (.tup (l.map prD)) = true := eq_prs l
theorem eq_tnil (l : List (Int × Int)) : eqD (.tup (l.map prD)) (.tup []) = decide (l = []) := by
  cases l with
  | nil => simp [eqD, eqD.eqDs]
  | cons p l => simp [eqD, eqD.eqDs]
theorem eq_pnil (l : List (Int × Int)) : eqD.eqDs (l.map prD) [] = decide (l = []) := by
  cases l with
  | nil => simp [eqD.eqDs]
  | cons p l => simp [eqD.eqDs]
def InB (X Y : Int) (p : Int × Int) : Prop := X - 7 ≤ p.1 ∧ p.1 ≤ X + 7 ∧ Y - 7 ≤ p.2 ∧ p.2 ≤ Y + 7
theorem atI_prs {l : List (Int × Int)} {i : Int} (h0 : 0 ≤ i) (h1 : i < l.length) : L2.atI (l.map prD) i = some (prD (l[i.toNat]'(by omega))) := by
  rw [atI_get h0 (by rw [List.length_map]; exact h1)]
  simp
theorem fmod_ix {k n : Int} (hn : 0 < n) : 0 ≤ (k + 1).fmod n ∧ (k + 1).fmod n < n := ⟨Int.fmod_nonneg_of_pos _ hn, Int.fmod_lt_of_pos _ hn⟩
def nxI (n k : Nat) : Nat := (((k : Int) + 1).fmod (n : Int)).toNat
theorem nxI_lt {n k : Nat} (hn : 0 < n) : nxI n k < n := by
  have := fmod_ix (k := k) (n := n) (by omega)
  unfold nxI
  omega
def sidesOf (l : List (Int × Int)) : List ((Int × Int) × (Int × Int)) := (List.range l.length).map fun k => (l.getD k (0, 0), l.getD (nxI l.length k) (0, 0))
def sdD (s : (Int × Int) × (Int × Int)) : D := .tup [prD s.1, prD s.2]
def acr (s : (Int × Int) × (Int × Int)) (x y w : Int) : Int := (s.2.1 - s.1.1) * (y - s.1.2 * w) - (s.2.2 - s.1.2) * (x - s.1.1 * w)
def wthn (l : List (Int × Int)) (x y w : Int) : Bool := (sidesOf l).all fun s => decide (0 ≤ acr s x y w)
def bl (k : Nat) (l : List (Int × Int)) : Prop := ∀ p ∈ l, bnd k p.1 ∧ bnd k p.2
theorem q_sides_round (l : List (Int × Int)) (h0 : 0 < l.length) (hl : l.length ≤ 500) (R : D → Prop) (h : R (.lst ((sidesOf l).map sdD))) : w_sides_round [.tup (l.map prD)] R := by
  unfold w_sides_round p_sides_round
  walk_at "dl"
  rw [List.length_map]
  refine ⟨by unfold small62; omega, by rw [show (rangeD 0 (l.length : Int)).length = l.length by unfold rangeD; simp]; exact sz_small (by omega), ?_⟩
  have er : rangeD 0 (l.length : Int) = (List.range l.length).map fun k => D.int ((k : Nat) : Int) := by
    unfold rangeD
    rw [show ((l.length : Int) - 0).toNat = l.length by omega]
    exact List.map_congr_left fun k _ => by rw [Int.zero_add]
  rw [er]
  refine compG (fun k : Nat => D.int (k : Int)) (fun k => sdD (l.getD k (0, 0), l.getD (nxI l.length k) (0, 0))) _ [] _ (fun k hk R hR => ?_) ?_
  · have kl : k < l.length := List.mem_range.mp hk
    have f := fmod_ix (k := (k : Int)) (n := (l.length : Int)) (by omega)
    walk_at "dl"
    rw [List.length_map]
    refine ⟨_, atI_prs (by omega) (by omega), by omega, _, atI_prs f.1 f.2, ?_⟩
    have g1 : l.getD k (0, 0) = l[((k : Nat) : Int).toNat]'(by omega) := by rw [List.getD_eq_getElem?_getD, List.getElem?_eq_getElem kl] <;> rfl
    have g2 : l.getD (nxI l.length k) (0, 0) = l[(((k : Int) + 1).fmod (l.length : Int)).toNat]'(by omega) := by rw [List.getD_eq_getElem?_getD, List.getElem?_eq_getElem (nxI_lt h0)] <;> rfl
    rw [g1, g2] at hR
    exact hR
  · walk_at "dl"
    unfold sidesOf at h
    rw [List.map_map] at h
    exact h
theorem sides_bl {k : Nat} {l : List (Int × Int)} (h : bl k l) : ∀ s ∈ sidesOf l, bnd k s.1.1 ∧ bnd k s.1.2 ∧ bnd k s.2.1 ∧ bnd k s.2.2 := by
  intro s hs
  obtain ⟨i, hi, rfl⟩ := List.mem_map.mp hs
  have il : i < l.length := List.mem_range.mp hi
  have m1 : l.getD i (0, 0) ∈ l := by rw [List.getD_eq_getElem?_getD, List.getElem?_eq_getElem il]; exact List.getElem_mem _
  have m2 : l.getD (nxI l.length i) (0, 0) ∈ l := by rw [List.getD_eq_getElem?_getD, List.getElem?_eq_getElem (nxI_lt (by omega))]; exact List.getElem_mem _
  exact ⟨(h _ m1).1, (h _ m1).2, (h _ m2).1, (h _ m2).2⟩
theorem q_is_within (ss : List ((Int × Int) × (Int × Int))) (hs : ∀ s ∈ ss, bnd 100 s.1.1 ∧ bnd 100 s.1.2 ∧ bnd 100 s.2.1 ∧ bnd 100 s.2.2) (x y w : Int) (bx : bnd 400 x) (bY : bnd 400 y) (bw : bnd 400 w) (R : D → Prop) (h : R (.bl (ss.all fun s => decide (0 ≤ acr s x y w)))) : w_is_within [.lst (ss.map sdD), .int x, .int y, .int w] R := by
  unfold w_is_within p_is_within
  walk_at "dl"
  refine forI (fun rest ρ => ∃ (us : List ((Int × Int) × (Int × Int))) (o1 o2 o3 : Option D), rest = us.map sdD ∧ (∀ s ∈ us, s ∈ ss) ∧ (ss.all fun s => decide (0 ≤ acr s x y w)) = (us.all fun s => decide (0 ≤ acr s x y w)) ∧ ρ = [some (.lst (ss.map sdD)), some (.int x), some (.int y), some (.int w), o1, o2, o3]) ?_ ?_ _ _ ⟨ss, none, none, none, rfl, fun _ h => h, rfl, rfl⟩
  · rintro d rest ρ N ⟨us, o1, o2, o3, hu, hm, he, rfl⟩ hN
    match us, hu with
    | u :: us, hu =>
      injection hu with e1 e2
      subst e1; subst e2
      obtain ⟨c1, c2, c3, c4⟩ := hs u (hm u List.mem_cons_self)
      unfold sdD prD
      walk_at "dl"
      unfold b_is_within_1
      walk_at "dl"
      refine ⟨by walk_at "mo", by walk_at "mo", by walk_at "mo", by walk_at "mo", ?_⟩
      have ea : (u.2.1 - u.1.1) * (y - u.1.2 * w) - (u.2.2 - u.1.2) * (x - u.1.1 * w) = acr u x y w := rfl
      rw [ea]
      by_cases hc : acr u x y w < 0
      · rw [if_pos hc]
        rw [he, List.all_cons, decide_eq_false (by omega), Bool.false_and] at h
        exact h
      · rw [if_neg hc]
        refine hN _ ⟨us, _, _, _, rfl, fun s h => hm s (List.mem_cons_of_mem _ h), ?_, rfl⟩
        rw [he, List.all_cons, decide_eq_true (by omega), Bool.true_and]
  · rintro ρ ⟨us, o1, o2, o3, hu, hm, he, rfl⟩
    have : us = [] := by cases us with | nil => rfl | cons _ _ => cases hu
    subst this
    walk_at "dl"
    rw [he] at h
    exact h

theorem enum_eq (l : List (Int × Int)) : enumD (l.map prD) = (List.range l.length).map fun k => D.tup [.int ((k : Nat) : Int), prD (l.getD k (0, 0))] := by
  unfold enumD zipD rangeD
  apply List.ext_getElem?
  intro i
  rw [List.length_map]
  by_cases hi : i < l.length
  · have h1 : (List.map (fun i => D.int (0 + ((i : Nat) : Int))) (List.range ((l.length : Int) - 0).toNat))[i]? = some (D.int (i : Int)) := by
      rw [List.getElem?_map, List.getElem?_range (by omega)]
      show some (D.int (0 + (i : Int))) = _
      rw [Int.zero_add]
    have h2 : (l.map prD)[i]? = some (prD l[i]) := by rw [List.getElem?_map, List.getElem?_eq_getElem hi] <;> rfl
    have h3 : l.getD i (0, 0) = l[i] := by rw [List.getD_eq_getElem?_getD, List.getElem?_eq_getElem hi] <;> rfl
    rw [List.getElem?_map, List.getElem?_range hi]
    show _ = some (D.tup [.int (i : Int), prD (l.getD i (0, 0))])
    rw [h3]
    exact List.getElem?_zipWith_eq_some.mpr ⟨_, _, h1, h2, rfl⟩
  · rw [List.getElem?_eq_none (by rw [List.length_zipWith, List.length_map, List.length_map, List.length_range]; omega), List.getElem?_eq_none (by rw [List.length_map, List.length_range]; omega)]
theorem q_l_in_land (l : List (Int × Int)) (h0 : 0 < l.length) (hl : l.length ≤ 500) (hb : bl 100 l) (x y w : Int) (bx : bnd 400 x) (bY : bnd 400 y) (bw : bnd 400 w) (R : D → Prop) (h : R (.bl (wthn l x y w))) : w_l_in_land [.tup (l.map prD), .int x, .int y, .int w] R := by
  unfold w_l_in_land p_l_in_land
  walk_at "dl"
  rw [enum_eq]
  have hs := sides_bl hb
  have key : wthn l x y w = (List.range l.length).all fun k => decide (0 ≤ acr (l.getD k (0, 0), l.getD (nxI l.length k) (0, 0)) x y w) := by
    unfold wthn sidesOf
    rw [List.all_map]
    rfl
  rw [key] at h
  refine forI (fun rest ρ => ∃ (ks : List Nat) (o1 o2 o3 o4 o5 o6 : Option D), rest = ks.map (fun k => D.tup [.int ((k : Nat) : Int), prD (l.getD k (0, 0))]) ∧ (∀ k ∈ ks, k < l.length) ∧
    ((List.range l.length).all fun k => decide (0 ≤ acr (l.getD k (0, 0), l.getD (nxI l.length k) (0, 0)) x y w)) = (ks.all fun k => decide (0 ≤ acr (l.getD k (0, 0), l.getD (nxI l.length k) (0, 0)) x y w)) ∧
    ρ = [some (.tup (l.map prD)), some (.int x), some (.int y), some (.int w), o1, o2, o3, o4, o5, o6]) ?_ ?_ _ _ ⟨List.range l.length, none, none, none, none, none, none, rfl, fun k h => List.mem_range.mp h, rfl, rfl⟩
  · rintro d rest ρ N ⟨ks, o1, o2, o3, o4, o5, o6, hu, hm, he, rfl⟩ hN
    match ks, hu with
    | k :: ks, hu =>
      injection hu with e1 e2
      subst e1; subst e2
      have kl := hm k List.mem_cons_self
      have f := fmod_ix (k := (k : Int)) (n := (l.length : Int)) (by omega)
      have g2 : l.getD (nxI l.length k) (0, 0) = l[(((k : Int) + 1).fmod (l.length : Int)).toNat]'(by omega) := by rw [List.getD_eq_getElem?_getD, List.getElem?_eq_getElem (nxI_lt h0)] <;> rfl
      have m1 : l.getD k (0, 0) ∈ l := by rw [List.getD_eq_getElem?_getD, List.getElem?_eq_getElem kl]; exact List.getElem_mem _
      have m2 : l.getD (nxI l.length k) (0, 0) ∈ l := by rw [List.getD_eq_getElem?_getD, List.getElem?_eq_getElem (nxI_lt h0)]; exact List.getElem_mem _
      obtain ⟨c1, c2⟩ := hb _ m1
      obtain ⟨c3, c4⟩ := hb _ m2
      have hA : ∀ p q : Int × Int, l.getD k (0, 0) = p → l.getD (nxI l.length k) (0, 0) = q → acr (l.getD k (0, 0), l.getD (nxI l.length k) (0, 0)) x y w = (q.1 - p.1) * (y - p.2 * w) - (q.2 - p.2) * (x - p.1 * w) := fun p q e1 e2 => by rw [e1, e2] <;> rfl
      show gT _ (.tup [.int (k : Int), prD (l.getD k (0, 0))]) _ _
      generalize hp : l.getD k (0, 0) = p at *
      generalize hq : l.getD (nxI l.length k) (0, 0) = q at *
      have hA' := hA p q rfl rfl
      show gT _ (.tup [.int (k : Int), .tup [.int p.1, .int p.2]]) _ _
      walk_at "dl"
      unfold b_l_in_land_1
      walk_at "dl"
      show _ ≠ _ ∧ _
      rw [List.length_map]
      refine ⟨by omega, _, atI_prs f.1 f.2, ?_⟩
      rw [← g2]
      show gT _ (.tup [.int q.1, .int q.2]) _ _
      walk_at "dl"
      refine ⟨by walk_at "mo", by walk_at "mo", by walk_at "mo", by walk_at "mo", ?_⟩
      by_cases hc : acr (p, q) x y w < 0
      · rw [if_pos (by omega)]
        rw [he, List.all_cons, hp, hq, decide_eq_false (by omega), Bool.false_and] at h
        exact h
      · rw [if_neg (by omega)]
        refine hN _ ⟨ks, _, _, _, _, _, _, rfl, fun j h => hm j (List.mem_cons_of_mem _ h), ?_, rfl⟩
        rw [he, List.all_cons, hp, hq, decide_eq_true (by omega), Bool.true_and]
  · rintro ρ ⟨ks, o1, o2, o3, o4, o5, o6, hu, hm, he, rfl⟩
    have : ks = [] := by cases ks with | nil => rfl | cons _ _ => cases hu
    subst this
    walk_at "dl"
    rw [he] at h
    exact h

def mnI : List Int → Int
  | [] => 0
  | [a] => a
  | a :: b :: l => if a ≤ mnI (b :: l) then a else mnI (b :: l)
def mxI : List Int → Int
  | [] => 0
  | [a] => a
  | a :: b :: l => if mxI (b :: l) ≤ a then a else mxI (b :: l)
theorem mnI_spec : ∀ l : List Int, l ≠ [] → mnI l ∈ l ∧ ∀ y ∈ l, mnI l ≤ y
  | [], h => absurd rfl h
  | [a], _ => by simp [mnI]
  | a :: b :: l, _ => by
    obtain ⟨h1, h2⟩ := mnI_spec (b :: l) (by simp)
    unfold mnI
    split
    · exact ⟨List.mem_cons_self, fun y hy => by
        rcases List.mem_cons.mp hy with z | z
        · omega
        · have := h2 y z; omega⟩
    · exact ⟨List.mem_cons_of_mem _ h1, fun y hy => by
        rcases List.mem_cons.mp hy with z | z
        · omega
        · exact h2 y z⟩
theorem mxI_spec : ∀ l : List Int, l ≠ [] → mxI l ∈ l ∧ ∀ y ∈ l, y ≤ mxI l
  | [], h => absurd rfl h
  | [a], _ => by simp [mxI]
  | a :: b :: l, _ => by
    obtain ⟨h1, h2⟩ := mxI_spec (b :: l) (by simp)
    unfold mxI
    split
    · exact ⟨List.mem_cons_self, fun y hy => by
        rcases List.mem_cons.mp hy with z | z
        · omega
        · have := h2 y z; omega⟩
    · exact ⟨List.mem_cons_of_mem _ h1, fun y hy => by
        rcases List.mem_cons.mp hy with z | z
        · omega
        · exact h2 y z⟩
theorem mnI_one {l : List Int} {m : Int} (h : m ∈ l) (g : ∀ y ∈ l, m ≤ y) : m = mnI l := by
  obtain ⟨h1, h2⟩ := mnI_spec l (fun z => by subst z; cases h)
  have := g _ h1
  have := h2 _ h
  omega
theorem mxI_one {l : List Int} {m : Int} (h : m ∈ l) (g : ∀ y ∈ l, y ≤ m) : m = mxI l := by
  obtain ⟨h1, h2⟩ := mxI_spec l (fun z => by subst z; cases h)
  have := g _ h1
  have := h2 _ h
  omega
def rng (a b : Int) : List Int := (List.range (b - a).toNat).map fun i => a + (i : Nat)
theorem rangeD_rng (a b : Int) : rangeD a b = (rng a b).map D.int := by unfold rangeD rng; rw [List.map_map] <;> rfl
theorem mem_rng {a b x : Int} (h : x ∈ rng a b) : a ≤ x ∧ x < b := by
  obtain ⟨i, hi, rfl⟩ := List.mem_map.mp h
  have := List.mem_range.mp hi
  omega
theorem rng_len (a b : Int) : (rng a b).length = (b - a).toNat := by unfold rng; rw [List.length_map, List.length_range]
structure Ring (l : List (Int × Int)) (X Y : Int) : Prop where
  pos : 0 < l.length
  len : l.length ≤ 500
  box : ∀ p ∈ l, InB X Y p
  bX : X.natAbs ≤ 2000000
  bY : Y.natAbs ≤ 2000000
theorem Ring.bl {l : List (Int × Int)} {X Y : Int} (h : Ring l X Y) : DL.bl 100 l := fun p hp => by
  obtain ⟨h1, h2, h3, h4⟩ := h.box p hp
  have := h.bX
  have := h.bY
  exact ⟨bnd_of (lo := -3000000) (hi := 3000000) (by omega) (by omega), bnd_of (lo := -3000000) (hi := 3000000) (by omega) (by omega)⟩
def x0 (l : List (Int × Int)) : Int := mnI (l.map (·.1))
def x1 (l : List (Int × Int)) : Int := mxI (l.map (·.1))
def y0 (l : List (Int × Int)) : Int := mnI (l.map (·.2))
def y1 (l : List (Int × Int)) : Int := mxI (l.map (·.2))
theorem Ring.rx {l : List (Int × Int)} {X Y : Int} (h : Ring l X Y) : X - 7 ≤ x0 l ∧ x1 l ≤ X + 7 ∧ Y - 7 ≤ y0 l ∧ y1 l ≤ Y + 7 ∧ x0 l ≤ X + 7 ∧ X - 7 ≤ x1 l ∧ y0 l ≤ Y + 7 ∧ Y - 7 ≤ y1 l := by
  have ne : l ≠ [] := List.length_pos_iff.mp h.pos
  have n1 : l.map (·.1) ≠ [] := fun z => ne (List.map_eq_nil_iff.mp z)
  have n2 : l.map (·.2) ≠ [] := fun z => ne (List.map_eq_nil_iff.mp z)
  obtain ⟨p1, h1, e1⟩ := List.mem_map.mp (mnI_spec _ n1).1
  obtain ⟨p2, h2, e2⟩ := List.mem_map.mp (mxI_spec _ n1).1
  obtain ⟨p3, h3, e3⟩ := List.mem_map.mp (mnI_spec _ n2).1
  obtain ⟨p4, h4, e4⟩ := List.mem_map.mp (mxI_spec _ n2).1
  have b1 := h.box p1 h1
  have b2 := h.box p2 h2
  have b3 := h.box p3 h3
  have b4 := h.box p4 h4
  unfold InB at *
  unfold x0 x1 y0 y1
  omega
def rowX (l : List (Int × Int)) (x : Int) : List (Int × Int) := ((rng (y0 l) (y1 l + 1)).filter fun y => wthn l x y 1).map fun y => (x, y)
def cellsIn (l : List (Int × Int)) : List (Int × Int) := (rng (x0 l) (x1 l + 1)).flatMap (rowX l)
theorem rowX_len {l : List (Int × Int)} {X Y : Int} (h : Ring l X Y) (x : Int) : (rowX l x).length ≤ 15 := by
  unfold rowX
  rw [List.length_map]
  refine Nat.le_trans (List.length_filter_le _ _) ?_
  rw [rng_len]
  have := h.rx
  omega
theorem ints_fst (l : List (Int × Int)) : (l.map fun p => D.int p.1) = (l.map (·.1)).map D.int := by rw [List.map_map] <;> rfl
theorem ints_snd (l : List (Int × Int)) : (l.map fun p => D.int p.2) = (l.map (·.2)).map D.int := by rw [List.map_map] <;> rfl
theorem q_cells_in (l : List (Int × Int)) {X Y : Int} (h : Ring l X Y) (R : D → Prop) (hR : R (.tup ((cellsIn l).map prD))) : w_l_cells_in [.tup (l.map prD)] R := by
  have zl : (l.map prD).length ≤ sizeLine := by rw [List.length_map]; exact sz_small (by have := h.len; omega)
  have rx := h.rx
  have bX := h.bX
  have bY := h.bY
  have ob : bnd 400 1 := bnd_of (lo := 1) (hi := 1) (by decide) (by decide)
  unfold w_l_cells_in p_l_cells_in
  walk_at "dl"
  refine ⟨zl, compG prD (fun p => .int p.1) l [] _ (fun p hp R hR => by unfold prD; walk_at "dl"; exact hR) ?_⟩
  walk_at "dl"
  refine ⟨zl, compG prD (fun p => .int p.2) l [] _ (fun p hp R hR => by unfold prD; walk_at "dl"; exact hR) ?_⟩
  unfold p_l_cells_in_1
  walk_at "dl"
  unfold p_l_cells_in_2
  walk_at "dl"
  refine ⟨_, ints_fst l, by rw [List.length_map]; exact h.pos, fun m m1 m2 => ⟨_, ints_fst l, by rw [List.length_map]; exact h.pos, fun m' m1' m2' => ?_⟩⟩
  obtain rfl : m = x0 l := mnI_one m1 m2
  obtain rfl : m' = x1 l := mxI_one m1' m2'
  refine ⟨by unfold small62; omega, by unfold small62; omega, ?_⟩
  rw [rangeD_rng]
  refine forI (fun rest ρ => ∃ (pre us : List Int) (o : Option D), rest = us.map D.int ∧ rng (x0 l) (x1 l + 1) = pre ++ us ∧ (pre.flatMap (rowX l)).length ≤ 15 * pre.length ∧ ρ = [some (.tup (l.map prD)), some (.lst (l.map fun p => .int p.1)), some (.lst (l.map fun p => .int p.2)), some (.lst ((pre.flatMap (rowX l)).map prD)), o, none, none]) ?_ ?_ _ _ ⟨[], _, none, rfl, rfl, Nat.le_refl _, rfl⟩
  · rintro d rest ρ N ⟨pre, us, o, hu, hr, hz, rfl⟩ hN
    match us, hu with
    | u :: us, hu =>
      injection hu with e1 e2
      subst e1; subst e2
      have hl : pre.length + (us.length + 1) ≤ 15 := by
        have := congrArg List.length hr
        rw [rng_len, List.length_append, List.length_cons] at this
        omega
      have hu := mem_rng (show u ∈ rng (x0 l) (x1 l + 1) by rw [hr]; simp)
      have bu : bnd 400 u := bnd_of (lo := -3000000) (hi := 3000000) (by omega) (by omega)
      unfold b_l_cells_in_1
      walk_at "dl"
      refine ⟨_, ints_snd l, by rw [List.length_map]; exact h.pos, fun m m1 m2 => ⟨_, ints_snd l, by rw [List.length_map]; exact h.pos, fun m' m1' m2' => ?_⟩⟩
      obtain rfl : m = y0 l := mnI_one m1 m2
      obtain rfl : m' = y1 l := mxI_one m1' m2'
      refine ⟨by unfold small62; omega, by unfold small62; omega, ?_⟩
      rw [rangeD_rng]
      refine ⟨by rw [List.length_map, rng_len]; exact sz_small (by omega), compGF D.int (fun y => prD (u, y)) (fun y => wthn l u y 1) _ [] _ (fun y hy K1 K2 h1 h2 => ?_) ?_⟩
      · have hy := mem_rng hy
        have bY' : bnd 400 y := bnd_of (lo := -3000000) (hi := 3000000) (by omega) (by omega)
        walk_at "dl"
        refine q_l_in_land l h.pos h.len h.bl u y 1 bu bY' ob _ ?_
        walk_at "dl"
        by_cases hc : wthn l u y 1 = true
        · rw [if_pos hc]; exact h1 hc
        · rw [if_neg hc]; exact h2 (by simpa using hc)
      · walk_at "dl"
        have er : ((rng (y0 l) (y1 l + 1)).filter fun y => wthn l u y 1).map (fun y => prD (u, y)) = (rowX l u).map prD := by unfold rowX; rw [List.map_map] <;> rfl
        rw [er]
        have rl := rowX_len h u
        refine ⟨by rw [List.length_map, List.length_map]; exact sz_small (by omega), hN _ ⟨pre ++ [u], us, some (.int u), rfl, by rw [hr]; simp, ?_, ?_⟩⟩
        · rw [List.flatMap_append, List.length_append, List.length_append, List.flatMap_cons, List.flatMap_nil, List.append_nil, List.length_singleton]
          omega
        · rw [List.flatMap_append, List.flatMap_cons, List.flatMap_nil, List.append_nil, List.map_append]
  · rintro ρ ⟨pre, us, o, hu, hr, hz, rfl⟩
    have : us = [] := by cases us with | nil => rfl | cons _ _ => cases hu
    subst this
    rw [List.append_nil] at hr
    walk_at "dl"
    unfold cellsIn at hR
    rw [hr] at hR
    exact hR

theorem q_land_cells (l : List (Int × Int)) {X Y : Int} (h : Ring l X Y) (R : D → Prop) (hR : R (.tup ((cellsIn l).map prD))) : w_land_cells [.tup (l.map prD)] R := by
  have zl : (l.map prD).length ≤ sizeLine := by rw [List.length_map]; exact sz_small (by have := h.len; omega)
  have rx := h.rx
  have bX := h.bX
  have bY := h.bY
  have ob : bnd 400 1 := bnd_of (lo := 1) (hi := 1) (by decide) (by decide)
  unfold w_land_cells p_land_cells
  walk_at "dl"
  refine q_sides_round l h.pos h.len _ ?_
  unfold p_land_cells_1
  walk_at "dl"
  unfold p_land_cells_2
  walk_at "dl"
  refine ⟨zl, compG prD (fun p => .int p.1) l [] _ (fun p hp R hR => by unfold prD; walk_at "dl"; exact hR) ?_⟩
  walk_at "dl"
  refine ⟨_, ints_fst l, by rw [List.length_map]; exact h.pos, fun m m1 m2 => ⟨zl, compG prD (fun p => .int p.1) l [] _ (fun p hp R hR => by unfold prD; walk_at "dl"; exact hR) ?_⟩⟩
  walk_at "dl"
  refine ⟨_, ints_fst l, by rw [List.length_map]; exact h.pos, fun m' m1' m2' => ?_⟩
  obtain rfl : m = x0 l := mnI_one m1 m2
  obtain rfl : m' = x1 l := mxI_one m1' m2'
  refine ⟨by unfold small62; omega, by unfold small62; omega, ?_⟩
  rw [rangeD_rng]
  refine forI (fun rest ρ => ∃ (pre us : List Int) (o o2 : Option D), rest = us.map D.int ∧ rng (x0 l) (x1 l + 1) = pre ++ us ∧ (pre.flatMap (rowX l)).length ≤ 15 * pre.length ∧ ρ = [some (.tup (l.map prD)), some (.lst ((sidesOf l).map sdD)), some (.lst ((pre.flatMap (rowX l)).map prD)), o, o2, none]) ?_ ?_ _ _ ⟨[], _, none, none, rfl, rfl, Nat.le_refl _, rfl⟩
  · rintro d rest ρ N ⟨pre, us, o, o2, hu, hr, hz, rfl⟩ hN
    match us, hu with
    | u :: us, hu =>
      injection hu with e1 e2
      subst e1; subst e2
      have hl : pre.length + (us.length + 1) ≤ 15 := by
        have := congrArg List.length hr
        rw [rng_len, List.length_append, List.length_cons] at this
        omega
      have hu := mem_rng (show u ∈ rng (x0 l) (x1 l + 1) by rw [hr]; simp)
      have bu : bnd 400 u := bnd_of (lo := -3000000) (hi := 3000000) (by omega) (by omega)
      unfold b_land_cells_2
      walk_at "dl"
      refine ⟨zl, compG prD (fun p => .int p.2) l [] _ (fun p hp R hR => by unfold prD; walk_at "dl"; exact hR) ?_⟩
      walk_at "dl"
      refine ⟨_, ints_snd l, by rw [List.length_map]; exact h.pos, fun m m1 m2 => ⟨zl, compG prD (fun p => .int p.2) l [] _ (fun p hp R hR => by unfold prD; walk_at "dl"; exact hR) ?_⟩⟩
      walk_at "dl"
      refine ⟨_, ints_snd l, by rw [List.length_map]; exact h.pos, fun m' m1' m2' => ?_⟩
      obtain rfl : m = y0 l := mnI_one m1 m2
      obtain rfl : m' = y1 l := mxI_one m1' m2'
      refine ⟨by unfold small62; omega, by unfold small62; omega, ?_⟩
      rw [rangeD_rng]
      have rl := rowX_len h u
      refine forI (fun rest ρ => ∃ (pr ys : List Int) (o2 : Option D), rest = ys.map D.int ∧ rng (y0 l) (y1 l + 1) = pr ++ ys ∧ ρ = [some (.tup (l.map prD)), some (.lst ((sidesOf l).map sdD)), some (.lst ((pre.flatMap (rowX l) ++ (pr.filter fun y => wthn l u y 1).map fun y => (u, y)).map prD)), some (.int u), o2, none]) ?_ ?_ _ _ ⟨[], _, o2, rfl, rfl, by simp⟩
      · rintro d rest ρ N' ⟨pr, ys, o2, hu2, hr2, rfl⟩ hN'
        match ys, hu2 with
        | y :: ys, hu2 =>
          injection hu2 with e1 e2
          subst e1; subst e2
          have hy := mem_rng (show y ∈ rng (y0 l) (y1 l + 1) by rw [hr2]; simp)
          have bY' : bnd 400 y := bnd_of (lo := -3000000) (hi := 3000000) (by omega) (by omega)
          have hp15 : (pr.filter fun y => wthn l u y 1).length ≤ 15 := by
            refine Nat.le_trans (List.length_filter_le _ _) ?_
            have := congrArg List.length hr2
            rw [rng_len, List.length_append, List.length_cons] at this
            omega
          unfold b_land_cells_1
          walk_at "dl"
          refine q_is_within _ (sides_bl h.bl) u y 1 bu bY' ob _ ?_
          walk_at "dl"
          have ew : ((sidesOf l).all fun s => decide (0 ≤ acr s u y 1)) = wthn l u y 1 := rfl
          rw [ew]
          by_cases hc : wthn l u y 1 = true
          · rw [if_pos hc]
            refine ⟨?_, hN' _ ⟨pr ++ [y], ys, some (.int y), rfl, by rw [hr2]; simp, ?_⟩⟩
            · rw [List.length_map, List.length_append, List.length_map]
              exact small1000 (by omega)
            · have hf : ([y].filter fun y => wthn l u y 1) = [y] := by simp [hc]
              rw [List.filter_append, hf]
              simp [prD]
          · rw [if_neg hc]
            refine hN' _ ⟨pr ++ [y], ys, some (.int y), rfl, by rw [hr2]; simp, ?_⟩
            have hf : ([y].filter fun y => wthn l u y 1) = [] := by simp [hc]
            rw [List.filter_append, hf, List.append_nil]
      · rintro ρ ⟨pr, ys, o2, hu2, hr2, rfl⟩
        have : ys = [] := by cases ys with | nil => rfl | cons _ _ => cases hu2
        subst this
        rw [List.append_nil] at hr2
        have er : ((pr.filter fun y => wthn l u y 1).map fun y => (u, y)) = rowX l u := by unfold rowX; rw [hr2]
        rw [er]
        refine hN _ ⟨pre ++ [u], us, some (.int u), o2, rfl, by rw [hr]; simp, ?_, ?_⟩
        · rw [List.flatMap_append, List.length_append, List.length_append, List.flatMap_cons, List.flatMap_nil, List.append_nil, List.length_singleton]
          omega
        · rw [List.flatMap_append, List.flatMap_cons, List.flatMap_nil, List.append_nil]
  · rintro ρ ⟨pre, us, o, o2, hu, hr, hz, rfl⟩
    have : us = [] := by cases us with | nil => rfl | cons _ _ => cases hu
    subst this
    rw [List.append_nil] at hr
    walk_at "dl"
    unfold cellsIn at hR
    rw [hr] at hR
    exact hR
theorem q_l_fraction (u l : Int) (hl : 0 < l) (b : bnd 400 l) (R : D → Prop) (h : R (prD (frU u l, frL u l))) : w_l_fraction [.int u, .int l] R := by
  obtain ⟨_, _, _, _, _, s0, s1⟩ := fr_spec u l (by omega)
  have sb : sgG u l ≠ 0 ∧ (sgG u l).natAbs.log2 < 9000 := ⟨s0, bnd_log (bnd_le b s1)⟩
  unfold prD frU frL at h
  unfold sgG at sb h
  rw [if_neg (by omega)] at sb h
  unfold w_l_fraction p_l_fraction p_l_fraction_1 p_l_fraction_2
  walk_at "dl"
  refine ⟨fun m ρ => ∃ x y : Int, ρ = [some (.int u), some (.int l), some (.int x), some (.int y)] ∧ 0 ≤ x ∧ 0 ≤ y ∧ Int.gcd x y = Int.gcd u l ∧ m = y.natAbs, ⟨_, _, l, rfl, by split <;> omega, by omega, ?_, rfl⟩, ?_⟩
  · split
    · exact Int.neg_gcd
    · rfl
  rintro m ρ ⟨x, y, rfl, hx, hy0, hg, rfl⟩
  unfold b_l_fraction_1
  walk_at "dl"
  by_cases hy : 0 < y
  · rw [if_pos hy]
    have := Int.fmod_nonneg_of_pos x hy
    exact ⟨by omega, _, natAbs_fmod_lt x y (by omega), _, _, rfl, hy0, this, by rw [gcd_fmod]; exact hg, rfl⟩
  · rw [if_neg hy]
    have : y = 0 := by omega
    subst this
    rw [Int.gcd_zero_right] at hg
    have e : x = ((Int.gcd u l : Nat) : Int) := by omega
    rw [e]
    exact ⟨sb, sb, h⟩
theorem acr_alg (a0 a1 b0 b1 px qx py qy g h w x y : Int) (gx : x = g * px) (gw : w = g * qx) (hy : y = h * py) (hw : w = h * qy) :
    g * h * ((b0 - a0) * (py * qx - a1 * (qx * qy)) - (b1 - a1) * (px * qy - a0 * (qx * qy))) = w * ((b0 - a0) * (y - a1 * w) - (b1 - a1) * (x - a0 * w)) := by
  have e1 : y - a1 * w = h * (py - a1 * qy) := by rw [hy, hw]; grind
  have e2 : x - a0 * w = g * (px - a0 * qx) := by rw [gx, gw]; grind
  rw [e1, e2, Int.mul_sub w]
  have f1 : w * ((b0 - a0) * (h * (py - a1 * qy))) = (g * qx) * ((b0 - a0) * (h * (py - a1 * qy))) := by rw [← gw]
  have f2 : w * ((b1 - a1) * (g * (px - a0 * qx))) = (h * qy) * ((b1 - a1) * (g * (px - a0 * qx))) := by rw [← hw]
  rw [f1, f2]
  grind
theorem nn_pos {c x : Int} (hc : 0 < c) : 0 ≤ c * x ↔ 0 ≤ x := by
  constructor
  · intro h
    by_cases hx : x < 0
    · have := Int.mul_neg_of_pos_of_neg hc hx
      omega
    · omega
  · exact fun h => Int.mul_nonneg (Int.le_of_lt hc) h
theorem wthn_fr (l : List (Int × Int)) (x y w : Int) (hw : 0 < w) : wthn l (frU x w * frL y w) (frU y w * frL x w) (frL x w * frL y w) = wthn l x y w := by
  obtain ⟨g, g0, gx, gw⟩ := fr_back x w hw
  obtain ⟨k, k0, ky, kw⟩ := fr_back y w hw
  unfold wthn
  congr 1
  funext s
  have e := acr_alg s.1.1 s.1.2 s.2.1 s.2.2 (frU x w) (frL x w) (frU y w) (frL y w) g k w x y gx gw ky kw
  have hgk : 0 < g * k := Int.mul_pos g0 k0
  have e' : g * k * acr s (frU x w * frL y w) (frU y w * frL x w) (frL x w * frL y w) = w * acr s x y w := e
  have i1 : 0 ≤ acr s (frU x w * frL y w) (frU y w * frL x w) (frL x w * frL y w) ↔ 0 ≤ acr s x y w := by
    rw [← nn_pos hgk, e', nn_pos hw]
  exact decide_eq_decide.mpr i1
theorem q_in_land (l : List (Int × Int)) {X Y : Int} (h : Ring l X Y) (a b c d : Int) (ba : bnd 180 a) (bb : bnd 180 b) (bc : bnd 180 c) (bd : bnd 180 d) (R : D → Prop) (hR : R (.bl (wthn l (a * d) (c * b) (b * d)))) : w_in_land [.tup (l.map prD), .tup [prD (a, b), prD (c, d)]] R := by
  unfold w_in_land p_in_land
  walk_at "dl"
  unfold w_over_common p_over_common p_over_common_1
  unfold prD
  walk_at "dl"
  refine ⟨by walk_at "mo", by walk_at "mo", by walk_at "mo", ?_⟩
  unfold p_in_land_1
  walk_at "dl"
  refine q_sides_round l h.pos h.len _ ?_
  exact q_is_within _ (sides_bl h.bl) _ _ _ (by walk_at "bm") (by walk_at "bm") (by walk_at "bm") _ hR

theorem q_points_right (l : List (Int × Int)) {X Y : Int} (h : Ring l X Y) (R : D → Prop) (hR : R (.bl true)) : w_l_points_right [.deal, .tup (l.map prD)] R := by
  have ll := h.len
  have lp := h.pos
  have b2 : bnd 2 2 := bnd_of (lo := 2) (hi := 2) (by decide) (by decide)
  unfold w_l_points_right p_l_points_right
  walk_at "dl"
  refine ⟨by unfold small62; omega, ?_⟩
  refine forI (fun rest ρ => ∃ o2 o3 o4 o5 o6 o7 o8 o9 : Option D, ρ = [some .deal, some (.tup (l.map prD)), o2, o3, o4, o5, o6, o7, o8, o9]) ?_ ?_ _ _ ⟨none, none, none, none, none, none, none, none, rfl⟩
  · rintro d rest ρ N ⟨o2, o3, o4, o5, o6, o7, o8, o9, rfl⟩ hN
    unfold b_l_points_right_1
    walk_at "dl"
    rw [List.length_map]
    have bn : bnd 8000 (l.length : Int) := bnd_mono (k := 10) (bnd_of (lo := 0) (hi := 500) (by omega) (by omega)) (by decide)
    refine ⟨drawK (by omega) bn, fun i i0 i1 => ⟨_, atI_prs i0 i1, drawK (by omega) bn, fun j j0 j1 => ⟨_, atI_prs j0 j1, ?_⟩⟩⟩
    have m1 : l[i.toNat]'(by omega) ∈ l := List.getElem_mem _
    have m2 : l[j.toNat]'(by omega) ∈ l := List.getElem_mem _
    obtain ⟨p1, p2⟩ := h.bl _ m1
    obtain ⟨q1, q2⟩ := h.bl _ m2
    generalize l[i.toNat]'(by omega) = p at *
    generalize l[j.toNat]'(by omega) = q at *
    refine ⟨⟨by decide, by decide +kernel⟩, fun r r0 r1 => ⟨by decide, ⟨by decide, by decide +kernel⟩, fun f f0 f1 => ?_⟩⟩
    obtain ⟨w, hw, w1, w2⟩ : ∃ w : Int, L2.atI [D.int (1 + r), D.int (10 ^ Int.toNat 20 + 1)] (if f = 0 then 1 else 0) = some (.int w) ∧ 1 ≤ w ∧ w ≤ 10 ^ 20 + 1 := by
      by_cases hf : f = 0
      · rw [if_pos hf]; exact ⟨_, atI_1, by decide, by decide⟩
      · rw [if_neg hf]; exact ⟨_, atI_0, by omega, by omega⟩
    have bw : bnd 67 w := bnd_of (lo := 1) (hi := 10 ^ 20 + 1) w1 w2
    refine ⟨_, hw, ?_⟩
    have ep : prD p = .tup [.int p.1, .int p.2] := rfl
    have eq : prD q = .tup [.int q.1, .int q.2] := rfl
    simp only [ep, eq]
    walk_at "dl"
    refine ⟨drawK (by omega) (by walk_at "bm"), fun b b0 b1 => ?_⟩
    have bb : bnd 68 b := bnd_of (lo := 0) (hi := 10 ^ 20 + 3) b0 (by omega)
    refine ⟨by walk_at "mo", by walk_at "mo", ⟨by decide, by decide +kernel⟩, fun s s0 s1 => ⟨by walk_at "mo", by walk_at "mo", ⟨by decide, by decide +kernel⟩, fun t t0 t1 => ?_⟩⟩
    have bs : bnd 2 s := bnd_of (lo := 0) (hi := 3) s0 (by omega)
    have bt : bnd 2 t := bnd_of (lo := 0) (hi := 3) t0 (by omega)
    have bx : bnd 180 (p.1 * w + (q.1 - p.1) * b + s - 1) := by walk_at "bm"
    have bY : bnd 180 (p.2 * w + (q.2 - p.2) * b + t - 1) := by walk_at "bm"
    generalize p.1 * w + (q.1 - p.1) * b + s - 1 = x at *
    generalize p.2 * w + (q.2 - p.2) * b + t - 1 = y at *
    obtain ⟨_, _, _, u4, u5, _, _⟩ := fr_spec x w (by omega)
    obtain ⟨_, _, _, v4, v5, _, _⟩ := fr_spec y w (by omega)
    have bw' : bnd 180 w := bnd_mono bw (by decide)
    refine q_l_fraction x w (by omega) (by walk_at "bm") _ (q_l_fraction y w (by omega) (by walk_at "bm") _ ?_)
    refine q_in_land l h _ _ _ _ (bnd_le bx u4) (bnd_le bw' u5) (bnd_le bY v4) (bnd_le bw' v5) _ ?_
    rw [wthn_fr l x y w (by omega)]
    walk_at "dl"
    refine q_l_in_land l h.pos h.len h.bl x y w (by walk_at "bm") (by walk_at "bm") (by walk_at "bm") _ ?_
    walk_at "dl"
    exact hN _ ⟨_, _, _, _, _, _, _, _, rfl⟩
  · rintro ρ ⟨o2, o3, o4, o5, o6, o7, o8, o9, rfl⟩
    walk_at "dl"
    exact hR

theorem q_turn (a b c : Int × Int) (ha : bnd 100 a.1 ∧ bnd 100 a.2) (hb : bnd 100 b.1 ∧ bnd 100 b.2) (hc : bnd 100 c.1 ∧ bnd 100 c.2) (R : D → Prop) (h : ∀ i : Int, R (.int i)) : w_l_turn [prD a, prD b, prD c] R := by
  obtain ⟨a1, a2⟩ := ha
  obtain ⟨b1, b2⟩ := hb
  obtain ⟨c1, c2⟩ := hc
  unfold w_l_turn p_l_turn p_l_turn_1 prD
  walk_at "dl"
  exact ⟨by walk_at "mo", by walk_at "mo", h _⟩
theorem neg_at {l : List (Int × Int)} {k : Nat} (h0 : 0 < k) (h : k ≤ l.length) : ∃ p ∈ l, L2.atI (l.map prD) (-(k : Int)) = some (prD p) := by
  have hi : l.length - k < l.length := by omega
  refine ⟨l[l.length - k], List.getElem_mem _, ?_⟩
  unfold L2.atI L2.ixN
  rw [List.length_map, if_neg (by omega), if_pos (by omega)]
  show (l.map prD)[(-(k : Int) + (l.length : Int)).toNat]? = _
  rw [show (-(k : Int) + (l.length : Int)).toNat = l.length - k by omega, List.getElem?_map, List.getElem?_eq_getElem hi]
  rfl
theorem cut_last (ds : List D) : cutD ds none (some (-1)) = ds.dropLast := by
  unfold cutD
  have e : HT.sIx ds.length ds.length (some (-1)) = ds.length - 1 := by
    show (if (-1 : Int) < 0 then ((-1 : Int) + (ds.length : Int)).toNat else min (-1 : Int).toNat ds.length) = _
    rw [if_pos (by decide)]
    omega
  rw [e, HT.sIx_none, List.drop_zero, Nat.sub_zero, List.dropLast_eq_take]
theorem dropLast_mem {α : Type} {l : List α} {x : α} (h : x ∈ l.dropLast) : x ∈ l := List.dropLast_subset l h
theorem q_half (l : List (Int × Int)) (P : Int × Int → Prop) (hP : ∀ p, P p → bnd 100 p.1 ∧ bnd 100 p.2) (hl : ∀ p ∈ l, P p) (h2 : 2 ≤ l.length) (h64 : l.length ≤ 64) (R : D → Prop) (h : ∀ m : List (Int × Int), (∀ p ∈ m, P p) → 0 < m.length → m.length ≤ 64 → R (.lst (m.map prD))) : w_l_half [.lst (l.map prD)] R := by
  unfold w_l_half p_l_half
  walk_at "dl"
  unfold p_l_half_1
  walk_at "dl"
  refine forI (fun rest ρ => ∃ (us fd : List (Int × Int)) (o : Option D), rest = us.map prD ∧ (∀ p ∈ us, P p) ∧ (∀ p ∈ fd, P p) ∧ fd.length + us.length ≤ l.length ∧ (us.length + 1 ≤ l.length → 1 ≤ fd.length) ∧ (us.length + 2 ≤ l.length → 2 ≤ fd.length) ∧ ρ = [some (.lst (l.map prD)), some (.lst (fd.map prD)), o]) ?_ ?_ _ _ ⟨l, [], none, rfl, hl, (fun _ h => nomatch h), by simp, by omega, by omega, rfl⟩
  · rintro d rest ρ N ⟨us, fd, o, hu, hus, hfd, hlen, hl1, hl2, rfl⟩ hN
    match us, hu with
    | u :: us, hu =>
      injection hu with e1 e2
      subst e1; subst e2
      rw [List.length_cons] at hlen hl1 hl2
      have pu := hus u List.mem_cons_self
      unfold b_l_half_2
      walk_at "dl"
      refine ⟨fun m ρ => ∃ fd : List (Int × Int), (∀ p ∈ fd, P p) ∧ fd.length + (us.length + 1) ≤ l.length ∧ (us.length + 1 + 1 ≤ l.length → 1 ≤ fd.length) ∧ m = fd.length ∧ ρ = [some (.lst (l.map prD)), some (.lst (fd.map prD)), some (prD u)], ⟨_, fd, hfd, hlen, hl1, rfl, rfl⟩, ?_⟩
      rintro m ρ ⟨fd, hfd, hlen, hl1, rfl, rfl⟩
      walk_at "dl"
      rw [List.length_map]
      have app : fd.length < sizeLine ∧ N [some (D.lst (List.map prD l)), some (D.lst (List.map prD fd ++ [prD u])), some (prD u)] := by
        refine ⟨small1000 (by omega), hN _ ⟨us, fd ++ [u], _, rfl, fun p hp => hus p (List.mem_cons_of_mem _ hp), fun p hp => ?_, by rw [List.length_append, List.length_singleton]; omega, fun _ => by rw [List.length_append, List.length_singleton]; omega, fun z => by rw [List.length_append, List.length_singleton]; have := hl1 (by omega); omega, by rw [List.map_append] <;> rfl⟩⟩
        rcases List.mem_append.mp hp with z | z
        · exact hfd p z
        · rw [List.mem_singleton.mp z]; exact pu
      by_cases h1 : 1 < (fd.length : Int)
      · rw [if_pos h1]
        obtain ⟨a, am, ae⟩ := neg_at (l := fd) (k := 2) (by decide) (by omega)
        obtain ⟨b, bm, be⟩ := neg_at (l := fd) (k := 1) (by decide) (by omega)
        refine ⟨_, ae, _, be, q_turn a b u (hP a (hfd a am)) (hP b (hfd b bm)) (hP u pu) _ fun i => ?_⟩
        walk_at "dl"
        by_cases hi : i ≤ 0
        · rw [if_pos hi]
          have ne : fd ≠ [] := fun z => by subst z; simp at h1
          refine ⟨fun z => ne (List.map_eq_nil_iff.mp z), _, ?_, fd.dropLast, fun p hp => hfd p (dropLast_mem hp), ?_, fun _ => ?_, rfl, ?_⟩
          · rw [List.length_dropLast]; omega
          · rw [List.length_dropLast]; omega
          · rw [List.length_dropLast]; omega
          · rw [List.map_dropLast]
        · rw [if_neg hi]
          exact app
      · rw [if_neg h1]
        exact app
  · rintro ρ ⟨us, fd, o, hu, hus, hfd, hlen, hl1, hl2, rfl⟩
    have : us = [] := by cases us with | nil => rfl | cons _ _ => cases hu
    subst this
    unfold p_l_half_2
    walk_at "dl"
    rw [cut_last, ← List.map_dropLast]
    rw [List.length_nil] at hlen hl2
    have := hl2 (by omega)
    exact h _ (fun p hp => hfd p (dropLast_mem hp)) (by rw [List.length_dropLast]; omega) (by rw [List.length_dropLast]; omega)
theorem range_len (n : Int) : (rangeD 0 n).length = n.toNat := by unfold rangeD; rw [List.length_map, List.length_range]; omega
theorem q_ring (R : D → Prop) (h : ∀ (l : List (Int × Int)) (X Y : Int), Ring l X Y → R (.tup (l.map prD))) : w_l_ring [.deal] R := by
  have b2 : bnd 2 2 := bnd_of (lo := 2) (hi := 2) (by decide) (by decide)
  have main : ∀ X Y : Int, X.natAbs ≤ 1000000 → Y.natAbs ≤ 1000000 → p_l_ring_1 ⟨fun _ => R .non, R, fun _ => False, fun _ => False⟩ [some .deal, some (.int X), some (.int Y), none, none, none, none, none, none, none, none, none] := by
    intro X Y hX hY
    have hP : ∀ p : Int × Int, InB X Y p → bnd 100 p.1 ∧ bnd 100 p.2 := fun p ⟨h1, h2, h3, h4⟩ => ⟨bnd_of (lo := -3000000) (hi := 3000000) (by omega) (by omega), bnd_of (lo := -3000000) (hi := 3000000) (by omega) (by omega)⟩
    unfold p_l_ring_1
    walk_at "dl"
    refine ⟨⟨by decide, by decide +kernel⟩, fun w w0 w1 => ?_⟩
    have bw : bnd 4 (1 + w) := bnd_of (lo := 1) (hi := 7) (by omega) (by omega)
    unfold p_l_ring_2
    walk_at "dl"
    unfold p_l_ring_3
    walk_at "dl"
    refine ⟨⟨by decide, by decide +kernel⟩, fun n n0 n1 => ⟨by unfold small62; omega, ?_⟩⟩
    refine forI (fun rest ρ => ∃ (ps : List (Int × Int)) (o : Option D), (∀ p ∈ ps, InB X Y p) ∧ (X, Y) ∈ ps ∧ (X + 1, Y) ∈ ps ∧ rest.length + ps.length ≤ 20 ∧ ρ = [some .deal, some (.int X), some (.int Y), some (.int (1 + w)), some (.lst (ps.map prD)), o, none, none, none, none, none, none]) ?_ ?_ _ _ ⟨[(X, Y), (X + 1, Y), (X, Y + 1), (X + 1, Y + 1)], none, fun p hp => ?_, by simp, by simp, ?_, rfl⟩
    · rintro d rest ρ N ⟨ps, o, hb, m1, m2, hl, rfl⟩ hN
      rw [List.length_cons] at hl
      unfold b_l_ring_1
      walk_at "dl"
      refine ⟨by walk_at "mo", drawK (by omega) (by walk_at "bm"), fun r r0 r1 => ⟨by walk_at "mo", drawK (by omega) (by walk_at "bm"), fun s s0 s1 => ⟨by rw [List.length_map]; exact small1000 (by omega), ?_⟩⟩⟩
      refine hN _ ⟨ps ++ [(X + r - (1 + w), Y + s - (1 + w))], some d, fun p hp => ?_, List.mem_append_left _ m1, List.mem_append_left _ m2, by rw [List.length_append, List.length_singleton]; omega, by rw [List.map_append] <;> rfl⟩
      rcases List.mem_append.mp hp with z | z
      · exact hb p z
      · rw [List.mem_singleton.mp z]
        unfold InB
        simp only
        omega
    · rintro ρ ⟨ps, o, hb, m1, m2, hl, rfl⟩
      rw [List.length_nil] at hl
      unfold p_l_ring_4
      walk_at "dl"
      refine ⟨ps, rfl, by omega, ?_⟩
      have hs : ∀ p ∈ sortU ps, InB X Y p := fun p hp => hb p (mem_sortU.mp hp)
      have hsl : (sortU ps).length ≤ 20 := Nat.le_trans (sortU_len ps) (by omega)
      have hs2 : 2 ≤ (sortU ps).length := by
        have n1 := mem_sortU.mpr m1
        have n2 := mem_sortU.mpr m2
        match hq : sortU ps, n1, n2 with
        | [], n1, _ => cases n1
        | [a], n1, n2 =>
          have e1 := List.mem_singleton.mp n1
          have e2 := List.mem_singleton.mp n2
          have := congrArg Prod.fst (e1.trans e2.symm)
          simp at this
          omega
        | a :: b :: r, _, _ => simp
      generalize sortU ps = so at *
      unfold p_l_ring_5
      walk_at "dl"
      refine q_half so (InB X Y) hP hs hs2 (by omega) _ fun c1 hc1 l1 k1 => ?_
      rw [← List.map_reverse]
      refine q_half so.reverse (InB X Y) hP (fun p hp => hs p (List.mem_reverse.mp hp)) (by rw [List.length_reverse]; exact hs2) (by rw [List.length_reverse]; omega) _ fun c2 hc2 l2 k2 => ?_
      walk_at "dl"
      rw [List.length_map, List.length_map, ← List.map_append]
      refine ⟨sz_small (by omega), ?_⟩
      have hcs : ∀ p ∈ c1 ++ c2, InB X Y p := fun p hp => by
        rcases List.mem_append.mp hp with z | z
        · exact hc1 p z
        · exact hc2 p z
      have hcl : 0 < (c1 ++ c2).length := by rw [List.length_append]; omega
      have hcu : (c1 ++ c2).length ≤ 128 := by rw [List.length_append]; omega
      generalize c1 ++ c2 = cs at *
      unfold p_l_ring_7
      walk_at "dl"
      rw [enum_eq]
      refine forI (fun rest ρ => ∃ (ks : List Nat) (rg : List (Int × Int)) (o8 o9 o10 : Option D), rest = ks.map (fun k => D.tup [.int ((k : Nat) : Int), prD (cs.getD k (0, 0))]) ∧ (∀ k ∈ ks, k < cs.length) ∧ (∀ p ∈ rg, InB X Y p) ∧ 2 * ks.length + rg.length ≤ 2 * cs.length ∧ (ks.length < cs.length → 0 < rg.length) ∧ ks.length ≤ cs.length ∧
        ∃ o4 o5, ρ = [some .deal, some (.int X), some (.int Y), some (.int (1 + w)), o4, o5, some (.lst (cs.map prD)), some (.lst (rg.map prD)), o8, o9, o10, none]) ?_ ?_ _ _ ⟨List.range cs.length, [], none, none, none, rfl, fun k h => List.mem_range.mp h, (fun _ h => nomatch h), by simp, by simp, by simp, _, _, rfl⟩
      · rintro d rest ρ N ⟨ks, rg, o8, o9, o10, hu, hm, hr, hlen, hp0, hkl, o4, o5, rfl⟩ hN
        match ks, hu with
        | k :: ks, hu =>
          injection hu with e1 e2
          subst e1; subst e2
          rw [List.length_cons] at hlen hp0 hkl
          have kl := hm k List.mem_cons_self
          have f := fmod_ix (k := (k : Int)) (n := (cs.length : Int)) (by omega)
          have m1 : cs.getD k (0, 0) ∈ cs := by rw [List.getD_eq_getElem?_getD, List.getElem?_eq_getElem kl]; exact List.getElem_mem _
          have hp := hcs _ m1
          show gT _ (.tup [.int (k : Int), prD (cs.getD k (0, 0))]) _ _
          generalize cs.getD k (0, 0) = p at *
          walk_at "dl"
          unfold b_l_ring_2
          walk_at "dl"
          rw [List.length_map]
          refine ⟨by omega, _, atI_prs f.1 f.2, ?_⟩
          have m2 : cs[(((k : Int) + 1).fmod (cs.length : Int)).toNat]'(by omega) ∈ cs := List.getElem_mem _
          have hq := hcs _ m2
          generalize cs[(((k : Int) + 1).fmod (cs.length : Int)).toNat]'(by omega) = q at *
          have l1 : (rg.map prD).length < sizeLine := by rw [List.length_map]; exact small1000 (by omega)
          have l2 : (rg.map prD ++ [prD p]).length < sizeLine := by rw [List.length_append, List.length_map, List.length_singleton]; exact small1000 (by omega)
          have plain : N [some D.deal, some (D.int X), some (D.int Y), some (D.int (1 + w)), o4, o5, some (D.lst (List.map prD cs)), some (D.lst (List.map prD rg ++ [prD p])), some (D.int ↑k), some (prD p), some (prD q), none] := by
            refine hN _ ⟨ks, rg ++ [p], some (.int k), some (prD p), some (prD q), rfl, fun j h => hm j (List.mem_cons_of_mem _ h), fun z hz => ?_, by rw [List.length_append, List.length_singleton]; omega, fun _ => by rw [List.length_append, List.length_singleton]; omega, by omega, o4, o5, by rw [List.map_append] <;> rfl⟩
            rcases List.mem_append.mp hz with hz | hz
            · exact hr z hz
            · rw [List.mem_singleton.mp hz]; exact hp
          have two : N [some D.deal, some (D.int X), some (D.int Y), some (D.int (1 + w)), o4, o5, some (D.lst (List.map prD cs)), some (D.lst (List.map prD rg ++ [prD p] ++ [prD ((p.1 + q.1).fdiv 2, (p.2 + q.2).fdiv 2)])), some (D.int ↑k), some (prD p), some (prD q), none] := by
            refine hN _ ⟨ks, rg ++ [p] ++ [((p.1 + q.1).fdiv 2, (p.2 + q.2).fdiv 2)], some (.int k), some (prD p), some (prD q), rfl, fun j h => hm j (List.mem_cons_of_mem _ h), fun z hz => ?_, by rw [List.length_append, List.length_append, List.length_singleton, List.length_singleton]; omega, fun _ => by rw [List.length_append, List.length_append, List.length_singleton, List.length_singleton]; omega, by omega, o4, o5, by rw [List.map_append, List.map_append] <;> rfl⟩
            rcases List.mem_append.mp hz with hz | hz
            · rcases List.mem_append.mp hz with hz | hz
              · exact hr z hz
              · rw [List.mem_singleton.mp hz]; exact hp
            · rw [List.mem_singleton.mp hz]
              unfold InB at *
              simp only [Int.fdiv_eq_ediv_of_nonneg _ (by decide : (0 : Int) ≤ 2)]
              omega
          have ep : prD p = .tup [.int p.1, .int p.2] := rfl
          have eq : prD q = .tup [.int q.1, .int q.2] := rfl
          refine ⟨l1, ?_⟩
          rw [ep, eq] at *
          walk_at "dl"
          repeat' first
            | exact plain
            | exact two
            | (refine And.intro (by decide) ?_)
            | (refine And.intro ⟨by decide, by decide +kernel⟩ ?_)
            | (refine And.intro l2 ?_)
            | (intro r r0 r1)
            | split
      · rintro ρ ⟨ks, rg, o8, o9, o10, hu, hm, hr, hlen, hp0, hkl, o4, o5, rfl⟩
        have : ks = [] := by cases ks with | nil => rfl | cons _ _ => cases hu
        subst this
        rw [List.length_nil] at hlen hp0
        have rp := hp0 hcl
        unfold p_l_ring_8
        walk_at "dl"
        rw [List.length_map]
        refine ⟨drawK (by omega) (bnd_mono (k := 10) (bnd_of (lo := 0) (hi := 500) (by omega) (by omega)) (by decide)), fun a a0 a1 => ?_⟩
        unfold p_l_ring_9
        walk_at "dl"
        obtain ⟨e, rfl⟩ : ∃ e : Nat, a = (e : Int) := ⟨a.toNat, by omega⟩
        have e1 : cutD (rg.map prD) (some (e : Int)) none = (rg.drop e).map prD := by
          unfold cutD
          rw [HT.sIx_nat, HT.sIx_none, List.length_map, Nat.min_eq_left (by omega), List.map_drop]
          exact List.take_of_length_le (by rw [List.length_drop, List.length_map]; exact Nat.le_refl _)
        have e2 : cutD (rg.map prD) none (some (e : Int)) = (rg.take e).map prD := by
          unfold cutD
          rw [HT.sIx_nat, HT.sIx_none, List.length_map, Nat.min_eq_left (by omega), List.map_take, List.drop_zero, Nat.sub_zero]
        rw [e1, e2, ← List.map_append]
        refine ⟨by rw [List.length_map, List.length_map]; exact sz_small (by rw [List.length_drop, List.length_take]; omega), h _ X Y ⟨by rw [List.length_append, List.length_drop]; omega, by rw [List.length_append, List.length_drop, List.length_take]; omega, fun z hz => ?_, by omega, by omega⟩⟩
        rcases List.mem_append.mp hz with hz | hz
        · exact hr z (List.mem_of_mem_drop hz)
        · exact hr z (List.mem_of_mem_take hz)
    · have : p = (X, Y) ∨ p = (X + 1, Y) ∨ p = (X, Y + 1) ∨ p = (X + 1, Y + 1) := by simpa using hp
      unfold InB
      rcases this with rfl | rfl | rfl | rfl <;> simp only <;> omega
    · rw [range_len]
      simp
      omega
  unfold w_l_ring p_l_ring
  walk_at "dl"
  have m6 : mulOk 2 (10 ^ Int.toNat 6) := bnd_mulOk (k := 2) (l := 20) b2 (bnd_of (lo := 0) (hi := 10 ^ 6) (by decide) (by decide))
  refine ⟨by decide, m6, ⟨by decide, by decide +kernel⟩, fun r r0 r1 => ⟨by decide, by decide, ⟨by decide, by decide +kernel⟩, fun f f0 f1 => ?_⟩⟩
  have hr : r < 2000000 := r1
  by_cases hf : f = 0
  · rw [if_pos hf]
    refine ⟨_, atI_1, ?_⟩
    walk_at "dl"
    exact main _ _ (by show (r - 1000000).natAbs ≤ _; omega) (by decide)
  · rw [if_neg hf]
    refine ⟨_, atI_0, ?_⟩
    walk_at "dl"
    exact main _ _ (by decide) (by decide)
theorem ok_l59 (l : List (Int × Int)) : okD 60 (.tup (l.map prD)) = true := ok_tprs l
theorem q_law (ns : List Int) (hn : ns.length ≤ 63) : w_law [.scr ns] fun d => d = .bl true := by
  unfold w_law p_law
  walk_at "dl"
  refine q_deal ns hn _ ?_
  unfold p_law_1
  walk_at "dl"
  refine q_ring _ fun l X Y h => ?_
  refine q_ring _ fun l2 X2 Y2 h2 => ?_
  unfold p_law_2
  walk_at "dl"
  refine q_cells_in l h _ ?_
  unfold p_law_3
  walk_at "dl"
  refine q_land_cells l h _ ?_
  walk_at "dl"
  rw [ok_p59, eq_prs]
  refine ⟨⟨rfl, rfl⟩, ?_⟩
  walk_at "dl"
  refine q_points_right l h _ ?_
  walk_at "dl"
  unfold p_law_4
  walk_at "dl"
  refine q_points_right l2 h2 _ ?_
  walk_at "dl"
  have lp := h2.pos
  have ll := h2.len
  have e1 : cutD (l2.map prD) (some 1) none = (l2.drop 1).map prD := by
    unfold cutD
    rw [show (some (1 : Int)) = some (((1 : Nat) : Int)) from rfl, HT.sIx_nat, HT.sIx_none, List.length_map, Nat.min_eq_left (by omega), List.map_drop]
    exact List.take_of_length_le (by rw [List.length_drop, List.length_map]; exact Nat.le_refl _)
  have e2 : cutD (l2.map prD) none (some 1) = (l2.take 1).map prD := by
    unfold cutD
    rw [show (some (1 : Int)) = some (((1 : Nat) : Int)) from rfl, HT.sIx_nat, HT.sIx_none, List.length_map, Nat.min_eq_left (by omega), List.map_take, List.drop_zero, Nat.sub_zero]
  rw [e1, e2, ← List.map_append, List.take_append_drop]
  refine ⟨by rw [List.length_map, List.length_map]; exact sz_small (by rw [List.length_drop, List.length_take]; omega), ?_⟩
  refine q_land_cells l2 h2 _ (q_cells_in l2 h2 _ ?_)
  rw [ok_tprs, eq_tprs]
  refine ⟨⟨rfl, rfl⟩, ?_⟩
  walk_at "dl"
  unfold p_law_5
  walk_at "dl"
  refine q_land_cells l h _ ?_
  rw [ok_p59, eq_tprs]
  exact ⟨⟨ok_tprs _, rfl⟩, rfl⟩
end DL

set_option Elab.async false
set_option linter.all false
set_option maxRecDepth 100000
set_option maxHeartbeats 4000000
namespace DL
open PySem PySem.Spec PyProof.Rows L2

def topS (i : Nat) : Stmt := PySem.Challenge.pw_healfloor_k81_cells_of_lands.main.body.getD i (.Pass ⟨0, 0, 0, 0⟩)
abbrev s_l_deal : Stmt := topS 7
abbrev N_l_deal : List Str := ["_law_script", "_law_some", "_law_number", "_law_one"]
theorem sc_l_deal : FnScope N_l_deal ["_law_script"] (defScope s_l_deal) := ⟨rfl, rfl, rfl, by decide +kernel, rfl, by decide +kernel, by decide +kernel⟩
abbrev s_l_in_land : Stmt := topS 10
abbrev N_l_in_land : List Str := ["_law_ring_here", "_law_x", "_law_y", "_law_lower", "_law_k", "_law_ax", "_law_ay", "_law_bx", "_law_by", "_law_across"]
theorem sc_l_in_land : FnScope N_l_in_land ["_law_ring_here", "_law_x", "_law_y", "_law_lower"] (defScope s_l_in_land) := ⟨rfl, rfl, rfl, by decide +kernel, rfl, by decide +kernel, by decide +kernel⟩
abbrev s_l_cells_in : Stmt := topS 14
abbrev N_l_cells_in : List Str := ["_law_ring_here", "_law_across", "_law_up", "_law_found", "_law_x", "_law_cell", "_law_y"]
theorem sc_l_cells_in : FnScope N_l_cells_in ["_law_ring_here"] (defScope s_l_cells_in) := ⟨rfl, rfl, rfl, by decide +kernel, rfl, by decide +kernel, by decide +kernel⟩
abbrev s_l_draw : Stmt := topS 8
abbrev N_l_draw : List Str := ["_law_deal_here", "_law_many", "_law_number", "_law_one", "_law_other"]
theorem sc_l_draw : FnScope N_l_draw ["_law_deal_here", "_law_many"] (defScope s_l_draw) := ⟨rfl, rfl, rfl, by decide +kernel, rfl, by decide +kernel, by decide +kernel⟩
abbrev s_l_turn : Stmt := topS 11
abbrev N_l_turn : List Str := ["_law_one", "_law_other", "_law_third", "_law_ahead"]
theorem sc_l_turn : FnScope N_l_turn ["_law_one", "_law_other", "_law_third"] (defScope s_l_turn) := ⟨rfl, rfl, rfl, by decide +kernel, rfl, by decide +kernel, by decide +kernel⟩
abbrev s_l_half : Stmt := topS 12
abbrev N_l_half : List Str := ["_law_cells", "_law_found", "_law_cell"]
theorem sc_l_half : FnScope N_l_half ["_law_cells"] (defScope s_l_half) := ⟨rfl, rfl, rfl, by decide +kernel, rfl, by decide +kernel, by decide +kernel⟩
abbrev s_l_ring : Stmt := topS 13
abbrev N_l_ring : List Str := ["_law_deal_here", "_law_x", "_law_y", "_law_wide", "_law_some", "_law_turn_here", "_law_corners", "_law_ring_here", "_law_k", "_law_corner", "_law_other", "_law_at"]
theorem sc_l_ring : FnScope N_l_ring ["_law_deal_here"] (defScope s_l_ring) := ⟨rfl, rfl, rfl, by decide +kernel, rfl, by decide +kernel, by decide +kernel⟩
abbrev s_sides_round : Stmt := topS 1
abbrev N_sides_round : List Str := ["ring", "k"]
theorem sc_sides_round : FnScope N_sides_round ["ring"] (defScope s_sides_round) := ⟨rfl, rfl, rfl, by decide +kernel, rfl, by decide +kernel, by decide +kernel⟩
abbrev s_is_within : Stmt := topS 2
abbrev N_is_within : List Str := ["sides", "x", "y", "lower", "one", "other", "across"]
theorem sc_is_within : FnScope N_is_within ["sides", "x", "y", "lower"] (defScope s_is_within) := ⟨rfl, rfl, rfl, by decide +kernel, rfl, by decide +kernel, by decide +kernel⟩
abbrev s_land_cells : Stmt := topS 5
abbrev N_land_cells : List Str := ["ring", "sides", "found", "x", "y", "cell"]
theorem sc_land_cells : FnScope N_land_cells ["ring"] (defScope s_land_cells) := ⟨rfl, rfl, rfl, by decide +kernel, rfl, by decide +kernel, by decide +kernel⟩
abbrev s_over_common : Stmt := topS 3
abbrev N_over_common : List Str := ["point", "x", "low", "y", "lower"]
theorem sc_over_common : FnScope N_over_common ["point"] (defScope s_over_common) := ⟨rfl, rfl, rfl, by decide +kernel, rfl, by decide +kernel, by decide +kernel⟩
abbrev s_in_land : Stmt := topS 4
abbrev N_in_land : List Str := ["ring", "point", "x", "y", "lower"]
theorem sc_in_land : FnScope N_in_land ["ring", "point"] (defScope s_in_land) := ⟨rfl, rfl, rfl, by decide +kernel, rfl, by decide +kernel, by decide +kernel⟩
abbrev s_l_fraction : Stmt := topS 9
abbrev N_l_fraction : List Str := ["_law_upper", "_law_lower", "_law_one", "_law_other"]
theorem sc_l_fraction : FnScope N_l_fraction ["_law_upper", "_law_lower"] (defScope s_l_fraction) := ⟨rfl, rfl, rfl, by decide +kernel, rfl, by decide +kernel, by decide +kernel⟩
abbrev s_l_points_right : Stmt := topS 15
abbrev N_l_points_right : List Str := ["_law_deal_here", "_law_ring_here", "_law_turn_here", "_law_here", "_law_there", "_law_lower", "_law_by", "_law_x", "_law_y", "_law_found"]
theorem sc_l_points_right : FnScope N_l_points_right ["_law_deal_here", "_law_ring_here"] (defScope s_l_points_right) := ⟨rfl, rfl, rfl, by decide +kernel, rfl, by decide +kernel, by decide +kernel⟩
abbrev s_law : Stmt := topS 16
abbrev N_law : List Str := ["_law_script", "_law_deal_here", "_law_ring_here", "_law_other", "_law_due"]
theorem sc_law : FnScope N_law ["_law_script"] (defScope s_law) := ⟨rfl, rfl, rfl, by decide +kernel, rfl, by decide +kernel, by decide +kernel⟩
structure Txt (mg : Str → Option Value) : Prop where
  g_abs : mg "abs" = none
  g_bool : mg "bool" = none
  g_enumerate : mg "enumerate" = none
  g_int : mg "int" = none
  g_isinstance : mg "isinstance" = none
  g_len : mg "len" = none
  g_list : mg "list" = none
  g_max : mg "max" = none
  g_min : mg "min" = none
  g_range : mg "range" = none
  g_reversed : mg "reversed" = none
  g_set : mg "set" = none
  g_sorted : mg "sorted" = none
  g_tuple : mg "tuple" = none
section
variable {P : Program} {w : World} {K : PySem.W.Frag} {mg : Str → Option Value} {base : Heap}
theorem ok_l_deal {f : Addr} {fd : FuncData} (F : Fun K "_law_deal" "_law_deal" s_l_deal f fd) (hm : mg "_law_deal" = some (.ref f)) (hb : Binds K fd ["_law_script"] []) (T : Txt mg) : DefD P w K mg base "_law_deal" 2 1 .strong w_l_deal := by
  refine ⟨f, fd, ["_law_script"], ?_, hm, F.kp, hb⟩
  refine fn_d (k := 1) (N := N_l_deal) (own := []) (fr := true) (ko := .strong) (p := p_l_deal) F sc_l_deal rfl (by decide) (by decide) (fun cdv A outer s H E hr => ?_)
  exact (s_cons (own' := []) (s_setLc 1 rfl sc_l_deal.nd (i_seqW (e_weak (e_sl (e_weak (e_var 0)) o_none (o_some (e_weak e_int))))) (blkOk_by (own := [("_law_one", 3)]) (N := N_l_deal) (sc := (defScope s_l_deal)) (by decide +kernel)) (fun _ _ _ _ _ => (pg_name (i := 3) sc_l_deal.nd rfl (by first | exact Or.inl rfl | exact Or.inr rfl))) (tg_name (by decide)) (fun _ _ _ _ _ => ts_nil) (fun _ _ _ _ _ => (e_callB (call_max2 rfl) c_max2 (a_cons (e_weak (e_var 3)) (a_cons (e_weak (e_op op_sub c_sub (e_weak e_int) (e_weak (e_var 3)))) a_nil)) T.g_max))) (s_cons (own' := []) (s_set 2 sc_l_deal.nd e_int) (s_cons (own' := []) (s_for PassesOwn.never rfl (i_seqS (e_var 1)) (pg_name (i := 3) sc_l_deal.nd rfl (by first | exact Or.inl rfl | exact Or.inr rfl)) (tg_name (by decide)) (s_one (s_set 2 sc_l_deal.nd (e_op op_modN c_mod (e_weak (e_op o_add c_add (e_weak (e_op o_mul c_mul (e_weak (e_var 2)) (e_weak e_int))) (e_weak (e_op op_modN c_mod (e_weak (e_var 3)) (e_weak e_int))))) (e_weak e_int))))) (s_one (s_retDeal (ps_ret (pe_disp (pps_cons pe_str (e_var 2) (pps_cons pe_str pe_int (pps_cons pe_str (e_lstRev rfl T.g_list T.g_reversed (e_weak (e_comp rfl sc_l_deal.nd (i_seqW (e_weak (e_var 1))) (blkOk_by (own := [("_law_one", 3)]) (N := N_l_deal) (sc := (defScope s_l_deal)) (by decide +kernel)) (fun _ _ _ _ _ => (pg_name (i := 3) sc_l_deal.nd rfl (by first | exact Or.inl rfl | exact Or.inr rfl))) (tg_name (by decide)) (fun _ _ _ _ _ => (ts_one (t_cmp (ko := .strong) op_ge c_geI (e_weak (e_var 3)) (e_weak (e_op op_pow c_pow (e_weak e_int) (e_weak e_int)))))) (fun _ _ _ _ _ => (e_var 3))))) pps_nil))) (by rfl) (by rfl) (fun z => by cases z) (by decide))))))))
theorem ok_l_in_land {f : Addr} {fd : FuncData} (F : Fun K "_law_in_land" "_law_in_land" s_l_in_land f fd) (hm : mg "_law_in_land" = some (.ref f)) (hb : Binds K fd ["_law_ring_here", "_law_x", "_law_y", "_law_lower"] []) (T : Txt mg) : DefD P w K mg base "_law_in_land" 2 4 .strong w_l_in_land := by
  refine ⟨f, fd, ["_law_ring_here", "_law_x", "_law_y", "_law_lower"], ?_, hm, F.kp, hb⟩
  refine fn_d (k := 1) (N := N_l_in_land) (own := []) (fr := true) (ko := .strong) (p := p_l_in_land) F sc_l_in_land rfl (by decide) (by decide) (fun cdv A outer s H E hr => ?_)
  exact (s_cons (own' := []) (s_for PassesOwn.never rfl (i_enumMS T.g_enumerate (a_consS (e_var 0) a_nil)) (pg_tupA rfl (pgs_cons (pg_name (i := 4) sc_l_in_land.nd rfl (by first | exact Or.inl rfl | exact Or.inr rfl)) (pgs_cons (pg_tupA rfl (pgs_cons (pg_name (i := 5) sc_l_in_land.nd rfl (by first | exact Or.inl rfl | exact Or.inr rfl)) (pgs_cons (pg_name (i := 6) sc_l_in_land.nd rfl (by first | exact Or.inl rfl | exact Or.inr rfl)) pgs_nil))) pgs_nil))) (tg_tup (tgs_cons (tg_name (by decide)) (tgs_cons (tg_tup (tgs_cons (tg_name (by decide)) (tgs_cons (tg_name (by decide)) tgs_nil)) (gs_len1 (gs_len1 gs_len0 (gN_some 6)) (gN_some 5))) tgs_nil)) (gs_len1 (gs_len1 gs_len0 (gT_some (gsC_some (gN_some 5) (gsC_some (gN_some 6) gsN_some)))) (gN_some 4))) (s_cons (own' := []) (s_asg (e_ix ix_seq c_ix (e_weak (e_var 0)) (e_weak (e_op op_modN c_mod (e_weak (e_op o_add c_add (e_weak (e_var 4)) (e_weak e_int))) (e_weak (e_callB b_len c_len (a_cons (e_weak (e_var 0)) a_nil) T.g_len))))) (pg_tupA rfl (pgs_cons (pg_name (i := 7) sc_l_in_land.nd rfl (by first | exact Or.inl rfl | exact Or.inr rfl)) (pgs_cons (pg_name (i := 8) sc_l_in_land.nd rfl (by first | exact Or.inl rfl | exact Or.inr rfl)) pgs_nil))) (tg_tup (tgs_cons (tg_name (by decide)) (tgs_cons (tg_name (by decide)) tgs_nil)) (gs_len1 (gs_len1 gs_len0 (gN_some 8)) (gN_some 7)))) (s_cons (own' := []) (s_set 9 sc_l_in_land.nd (e_op o_mul c_mul (e_weak (e_op op_sub c_sub (e_weak (e_var 7)) (e_weak (e_var 5)))) (e_weak (e_op op_sub c_sub (e_weak (e_var 2)) (e_weak (e_op o_mul c_mul (e_weak (e_var 6)) (e_weak (e_var 3)))))))) (s_one (s_if (t_cmp (ko := .strong) op_lt c_ltI (e_weak (e_var 9)) (e_weak (e_op o_mul c_mul (e_weak (e_op op_sub c_sub (e_weak (e_var 8)) (e_weak (e_var 6)))) (e_weak (e_op op_sub c_sub (e_weak (e_var 1)) (e_weak (e_op o_mul c_mul (e_weak (e_var 5)) (e_weak (e_var 3))))))))) (s_one (s_ret e_bl)) s_nil))))) (s_one (s_ret e_bl)))
theorem ok_l_cells_in {f : Addr} {fd : FuncData} (F : Fun K "_law_cells_in" "_law_cells_in" s_l_cells_in f fd) (hm : mg "_law_cells_in" = some (.ref f)) (hb : Binds K fd ["_law_ring_here"] []) (T : Txt mg) (D_l_in_land : DefD P w K mg base "_law_in_land" 2 4 .strong w_l_in_land) : DefD P w K mg base "_law_cells_in" 3 1 .strong w_l_cells_in := by
  refine ⟨f, fd, ["_law_ring_here"], ?_, hm, F.kp, hb⟩
  refine fn_d (k := 2) (N := N_l_cells_in) (own := [3]) (fr := true) (ko := .strong) (p := p_l_cells_in) F sc_l_cells_in rfl (by decide) (by decide) (fun cdv A outer s H E hr => ?_)
  exact (s_cons (own' := [3]) (s_par 1 2 rfl sc_l_cells_in.nd (a_consS (e_strong (e_comp rfl sc_l_cells_in.nd (i_seqW (e_weak (e_var 0))) (blkOk_by (own := [("_law_cell", 5)]) (N := N_l_cells_in) (sc := (defScope s_l_cells_in)) (by decide +kernel)) (fun _ _ _ _ _ => (pg_name (i := 5) sc_l_cells_in.nd rfl (by first | exact Or.inl rfl | exact Or.inr rfl))) (tg_name (by decide)) (fun _ _ _ _ _ => ts_nil) (fun _ _ _ _ _ => (e_ix ix_seq c_ix (e_weak (e_var 5)) (e_weak e_int))))) (a_consS (e_strong (e_comp rfl sc_l_cells_in.nd (i_seqW (e_weak (e_var 0))) (blkOk_by (own := [("_law_cell", 5)]) (N := N_l_cells_in) (sc := (defScope s_l_cells_in)) (by decide +kernel)) (fun _ _ _ _ _ => (pg_name (i := 5) sc_l_cells_in.nd rfl (by first | exact Or.inl rfl | exact Or.inr rfl))) (tg_name (by decide)) (fun _ _ _ _ _ => ts_nil) (fun _ _ _ _ _ => (e_ix ix_seq c_ix (e_weak (e_var 5)) (e_weak e_int))))) a_nil))) (s_cons (own' := [3]) (s_setO 3 sc_l_cells_in.nd (e_lst a_nil)) (s_cons (own' := []) (s_for PassesOwn.never rfl (i_rng2 T.g_range (a_cons (e_weak (e_callB (cr_min rfl) c_min (a_cons (e_weak (e_var 1)) a_nil) T.g_min)) (a_cons (e_weak (e_op o_add c_add (e_weak (e_callB (cr_max rfl) c_max (a_cons (e_weak (e_var 1)) a_nil) T.g_max)) (e_weak e_int))) a_nil))) (pg_name (i := 4) sc_l_cells_in.nd rfl (by first | exact Or.inl rfl | exact Or.inr rfl)) (tg_name (by decide)) (s_one (s_ext 3 (ps_expr (pe_bm PySem.F.plainAttrs_list PySem.F.slot_list_extend PySem.F.type_list_extend mt_extend (pv 3) (L2.pa_cons (e_weak (e_comp rfl sc_l_cells_in.nd (i_rng2 T.g_range (a_cons (e_weak (e_callB (cr_min rfl) c_min (a_cons (e_weak (e_var 2)) a_nil) T.g_min)) (a_cons (e_weak (e_op o_add c_add (e_weak (e_callB (cr_max rfl) c_max (a_cons (e_weak (e_var 2)) a_nil) T.g_max)) (e_weak e_int))) a_nil))) (blkOk_by (own := [("_law_y", 6)]) (N := N_l_cells_in) (sc := (defScope s_l_cells_in)) (by decide +kernel)) (fun _ _ _ _ _ => (pg_name (i := 6) sc_l_cells_in.nd rfl (by first | exact Or.inl rfl | exact Or.inr rfl))) (tg_name (by decide)) (fun _ _ _ _ _ => (ts_one (t_val (e_weak (e_callD D_l_in_land (hr.mono (by decide)) (a_consS (e_var 0) (a_consS (e_var 4) (a_consS (e_var 6) (a_consS e_int a_nil))))))))) (fun _ _ _ _ _ => (e_tup (a_consS (e_var 4) (a_consS (e_var 6) a_nil)))))) L2.pa_nil)))))) (s_one (s_ret (e_callTy call_tuple_of c_tuple (a_cons (e_weak (e_var 3)) a_nil) T.g_tuple))))))
theorem ok_l_draw {f : Addr} {fd : FuncData} (F : Fun K "_law_draw" "_law_draw" s_l_draw f fd) (hm : mg "_law_draw" = some (.ref f)) (hb : Binds K fd ["_law_deal_here", "_law_many"] []) (T : Txt mg) : DefD P w K mg base "_law_draw" 1 2 .strong w_l_draw := by
  refine ⟨f, fd, ["_law_deal_here", "_law_many"], ?_, hm, F.kp, hb⟩
  refine F.ok sc_l_draw (fun vs H Q E h => h.1) (fun cdv A outer s H vs Q E hr h => ⟨tDrawA K, ?_, draw_read rfl h⟩)
  have hu := hu_of hr
  exact pss_cons (ps_while PassesOwn.never (PW.pt (pw_and (pt_cmpR op_eq (pe_dget hu (pv 0) pe_str (fun _ _ => rfl)) pe_int (nomark _)) (pw_and1 (pt_cmpR op_gt (pe_callB b_len (by rfl) T.g_len (by decide +kernel) (L2.pa_cons (pe_dget hu (pv 0) pe_str (fun _ _ => rfl)) L2.pa_nil)) pe_int (nomark _)))))
      (pss_one (ps_dput hu (pv 0) pe_str (pe_bm0 PySem.F.plainAttrs_list PySem.F.slot_list_pop PySem.F.type_list_pop mt_pop (pe_dget hu (pv 0) pe_str (fun _ _ => rfl))) rfl)))
    (pss_cons (ps_set (i := 2) sc_l_draw.nd rfl (Or.inl rfl) (pe_dget hu (pv 0) pe_str (fun _ _ => rfl)))
    (pss_cons (ps_if (pt_cmpR op_gt (pv 2) pe_int (nomark _)) (pss_cons (ps_dput hu (pv 0) pe_str (pe_op o_fdiv (pv 2) (pv 1)) rfl) (pss_one (ps_ret (pe_op op_modN (pv 2) (pv 1))))) pss_nil)
    (pss_cons (ps_set (i := 3) sc_l_draw.nd rfl (Or.inl rfl) (pe_op op_modN (pe_op op_add (pe_op op_mulW (pe_dget hu (pv 0) pe_str (fun _ _ => rfl)) pe_int) pe_int) pe_int))
    (pss_cons (ps_dput hu (pv 0) pe_str (pe_op op_modN (pe_op op_add (pe_op op_mulW (pv 3) pe_int) pe_int) pe_int) rfl)
    (pss_cons (ps_set (i := 4) sc_l_draw.nd rfl (Or.inl rfl) (pe_op op_modN (pe_op op_mulW (pe_dget hu (pv 0) pe_str (fun _ _ => rfl)) (pe_dget hu (pv 0) pe_str (fun _ _ => rfl))) pe_int))
    (pss_one (ps_ret (pe_op op_modN (pe_op op_add (pe_op op_mulW (pe_op op_modN (pe_op op_mulW (pv 3) (pv 3)) pe_int) pe_int) (pv 4)) (pv 1)))))))))
theorem ok_l_turn {f : Addr} {fd : FuncData} (F : Fun K "_law_turn" "_law_turn" s_l_turn f fd) (hm : mg "_law_turn" = some (.ref f)) (hb : Binds K fd ["_law_one", "_law_other", "_law_third"] []) (T : Txt mg) : DefD P w K mg base "_law_turn" 2 3 .strong w_l_turn := by
  refine ⟨f, fd, ["_law_one", "_law_other", "_law_third"], ?_, hm, F.kp, hb⟩
  refine fn_d (k := 1) (N := N_l_turn) (own := []) (fr := true) (ko := .strong) (p := p_l_turn) F sc_l_turn rfl (by decide) (by decide) (fun cdv A outer s H E hr => ?_)
  exact (s_cons (own' := []) (s_set 3 sc_l_turn.nd (e_op o_mul c_mul (e_weak (e_op op_sub c_sub (e_weak (e_ix ix_seq c_ix (e_weak (e_var 1)) (e_weak e_int))) (e_weak (e_ix ix_seq c_ix (e_weak (e_var 0)) (e_weak e_int))))) (e_weak (e_op op_sub c_sub (e_weak (e_ix ix_seq c_ix (e_weak (e_var 2)) (e_weak e_int))) (e_weak (e_ix ix_seq c_ix (e_weak (e_var 0)) (e_weak e_int))))))) (s_one (s_ret (e_op op_sub c_sub (e_weak (e_var 3)) (e_weak (e_op o_mul c_mul (e_weak (e_op op_sub c_sub (e_weak (e_ix ix_seq c_ix (e_weak (e_var 1)) (e_weak e_int))) (e_weak (e_ix ix_seq c_ix (e_weak (e_var 0)) (e_weak e_int))))) (e_weak (e_op op_sub c_sub (e_weak (e_ix ix_seq c_ix (e_weak (e_var 2)) (e_weak e_int))) (e_weak (e_ix ix_seq c_ix (e_weak (e_var 0)) (e_weak e_int)))))))))))
theorem ok_l_half {f : Addr} {fd : FuncData} (F : Fun K "_law_half" "_law_half" s_l_half f fd) (hm : mg "_law_half" = some (.ref f)) (hb : Binds K fd ["_law_cells"] []) (T : Txt mg) (D_l_turn : DefD P w K mg base "_law_turn" 2 3 .strong w_l_turn) : DefD P w K mg base "_law_half" 3 1 .strong w_l_half := by
  refine ⟨f, fd, ["_law_cells"], ?_, hm, F.kp, hb⟩
  refine fn_d (k := 2) (N := N_l_half) (own := [1]) (fr := true) (ko := .strong) (p := p_l_half) F sc_l_half rfl (by decide) (by decide) (fun cdv A outer s H E hr => ?_)
  exact (s_cons (own' := [1]) (s_setO 1 sc_l_half.nd (e_lst a_nil)) (s_cons (own' := []) (s_for PassesOwn.never rfl (i_seqS (e_var 0)) (pg_name (i := 2) sc_l_half.nd rfl (by first | exact Or.inl rfl | exact Or.inr rfl)) (tg_name (by decide)) (s_cons (own' := [1]) (s_while PassesOwn.never (PW.pt (t_and (t_cmp (ko := .strong) op_gt c_gtI (e_weak (e_callB b_len c_len (a_cons (e_varO 1) a_nil) T.g_len)) (e_weak e_int)) (t_and1 (t_cmp (ko := .strong) op_le c_leI (e_weak (e_callD D_l_turn (hr.mono (by decide)) (a_consS (e_ix ix_seq c_ix (e_varO 1) (e_weak (e_un un_neg c_neg (e_weak e_int)))) (a_consS (e_ix ix_seq c_ix (e_varO 1) (e_weak (e_un un_neg c_neg (e_weak e_int)))) (a_consS (e_var 2) a_nil))))) (e_weak e_int))))) (s_one (s_pop 1 (ps_expr (pe_bm0 PySem.F.plainAttrs_list PySem.F.slot_list_pop PySem.F.type_list_pop mt_pop (pv 1)))))) (s_one (s_app 1 (ps_expr (pe_bm PySem.F.plainAttrs_list PySem.F.slot_list_append PySem.F.type_list_append mt_append (pv 1) (L2.pa_cons (e_var 2) L2.pa_nil))))))) (s_one (s_ret (e_sl (e_weak (e_var 1)) o_none (o_some (e_weak (e_un un_neg c_neg (e_weak e_int)))))))))
theorem ok_l_ring {f : Addr} {fd : FuncData} (F : Fun K "_law_ring" "_law_ring" s_l_ring f fd) (hm : mg "_law_ring" = some (.ref f)) (hb : Binds K fd ["_law_deal_here"] []) (T : Txt mg) (D_l_draw : DefD P w K mg base "_law_draw" 1 2 .strong w_l_draw) (D_l_half : DefD P w K mg base "_law_half" 3 1 .strong w_l_half) : DefD P w K mg base "_law_ring" 4 1 .strong w_l_ring := by
  refine ⟨f, fd, ["_law_deal_here"], ?_, hm, F.kp, hb⟩
  refine fn_d (k := 3) (N := N_l_ring) (own := [4, 7]) (fr := true) (ko := .strong) (p := p_l_ring) F sc_l_ring rfl (by decide) (by decide) (fun cdv A outer s H E hr => ?_)
  exact (s_cons (own' := [4, 7]) (s_asg (e_ix ix_seq c_ix (e_weak (e_lst (a_consS (e_tup (a_consS e_int (a_consS e_int a_nil))) (a_consS (e_tup (a_consS (e_op op_sub c_sub (e_weak (e_callD D_l_draw (hr.mono (by decide)) (a_consS (e_var 0) (a_consS (e_op o_mul c_mul (e_weak e_int) (e_weak (e_op op_pow c_pow (e_weak e_int) (e_weak e_int)))) a_nil)))) (e_weak (e_op op_pow c_pow (e_weak e_int) (e_weak e_int)))) (a_consS (e_op op_pow c_pow (e_weak e_int) (e_weak e_int)) a_nil))) a_nil)))) (e_weak (e_callTy call_int1 c_toI (a_cons (e_weak (e_cmp (op_eqD hr.units) c_eq (e_weak (e_callD D_l_draw (hr.mono (by decide)) (a_consS (e_var 0) (a_consS e_int a_nil)))) (e_weak e_int))) a_nil) T.g_int))) (pg_tupA rfl (pgs_cons (pg_name (i := 1) sc_l_ring.nd rfl (by first | exact Or.inl rfl | exact Or.inr rfl)) (pgs_cons (pg_name (i := 2) sc_l_ring.nd rfl (by first | exact Or.inl rfl | exact Or.inr rfl)) pgs_nil))) (tg_tup (tgs_cons (tg_name (by decide)) (tgs_cons (tg_name (by decide)) tgs_nil)) (gs_len1 (gs_len1 gs_len0 (gN_some 2)) (gN_some 1)))) (s_cons (own' := [4, 7]) (s_set 3 sc_l_ring.nd (e_op o_add c_add (e_weak e_int) (e_weak (e_callD D_l_draw (hr.mono (by decide)) (a_consS (e_var 0) (a_consS e_int a_nil)))))) (s_cons (own' := [4, 7]) (s_setO 4 sc_l_ring.nd (e_lst (a_consS (e_tup (a_consS (e_var 1) (a_consS (e_var 2) a_nil))) (a_consS (e_tup (a_consS (e_op o_add c_add (e_weak (e_var 1)) (e_weak e_int)) (a_consS (e_var 2) a_nil))) (a_consS (e_tup (a_consS (e_var 1) (a_consS (e_op o_add c_add (e_weak (e_var 2)) (e_weak e_int)) a_nil))) (a_consS (e_tup (a_consS (e_op o_add c_add (e_weak (e_var 1)) (e_weak e_int)) (a_consS (e_op o_add c_add (e_weak (e_var 2)) (e_weak e_int)) a_nil))) a_nil)))))) (s_cons (own' := [7]) (s_for PassesOwn.never rfl (i_rng1 T.g_range (a_cons (e_weak (e_callD D_l_draw (hr.mono (by decide)) (a_consS (e_var 0) (a_consS e_int a_nil)))) a_nil)) (pg_name (i := 5) sc_l_ring.nd rfl (by first | exact Or.inl rfl | exact Or.inr rfl)) (tg_name (by decide)) (s_one (s_app 4 (ps_expr (pe_bm PySem.F.plainAttrs_list PySem.F.slot_list_append PySem.F.type_list_append mt_append (pv 4) (L2.pa_cons (e_tup (a_consS (e_op op_sub c_sub (e_weak (e_op o_add c_add (e_weak (e_var 1)) (e_weak (e_callD D_l_draw (hr.mono (by decide)) (a_consS (e_var 0) (a_consS (e_op o_mul c_mul (e_weak e_int) (e_weak (e_var 3))) a_nil)))))) (e_weak (e_var 3))) (a_consS (e_op op_sub c_sub (e_weak (e_op o_add c_add (e_weak (e_var 2)) (e_weak (e_callD D_l_draw (hr.mono (by decide)) (a_consS (e_var 0) (a_consS (e_op o_mul c_mul (e_weak e_int) (e_weak (e_var 3))) a_nil)))))) (e_weak (e_var 3))) a_nil))) L2.pa_nil)))))) (s_cons (own' := [7]) (s_set 4 sc_l_ring.nd (e_strong (e_sortSet rfl hr T.g_sorted T.g_set (e_weak (e_var 4))))) (s_cons (own' := [7]) (s_set 6 sc_l_ring.nd (e_op o_add c_add (e_weak (e_callD D_l_half (hr.mono (by decide)) (a_consS (e_var 4) a_nil))) (e_weak (e_callD D_l_half (hr.mono (by decide)) (a_consS (e_strong (e_revL (e_weak (e_var 4)))) a_nil))))) (s_cons (own' := [7]) (s_setO 7 sc_l_ring.nd (e_lst a_nil)) (s_cons (own' := []) (s_for PassesOwn.never rfl (i_enumMS T.g_enumerate (a_consS (e_var 6) a_nil)) (pg_tupA rfl (pgs_cons (pg_name (i := 8) sc_l_ring.nd rfl (by first | exact Or.inl rfl | exact Or.inr rfl)) (pgs_cons (pg_name (i := 9) sc_l_ring.nd rfl (by first | exact Or.inl rfl | exact Or.inr rfl)) pgs_nil))) (tg_tup (tgs_cons (tg_name (by decide)) (tgs_cons (tg_name (by decide)) tgs_nil)) (gs_len1 (gs_len1 gs_len0 (gN_some 9)) (gN_some 8))) (s_cons (own' := [7]) (s_set 10 sc_l_ring.nd (e_ix ix_seq c_ix (e_weak (e_var 6)) (e_weak (e_op op_modN c_mod (e_weak (e_op o_add c_add (e_weak (e_var 8)) (e_weak e_int))) (e_weak (e_callB b_len c_len (a_cons (e_weak (e_var 6)) a_nil) T.g_len)))))) (s_cons (own' := [7]) (s_app 7 (ps_expr (pe_bm PySem.F.plainAttrs_list PySem.F.slot_list_append PySem.F.type_list_append mt_append (pv 7) (L2.pa_cons (e_var 9) L2.pa_nil)))) (s_one (s_if (PW.pt (t_and (t_cmp (ko := .strong) (op_eqD hr.units) c_eq (e_weak (e_op op_modN c_mod (e_weak (e_op op_sub c_sub (e_weak (e_ix ix_seq c_ix (e_weak (e_var 10)) (e_weak e_int))) (e_weak (e_ix ix_seq c_ix (e_weak (e_var 9)) (e_weak e_int))))) (e_weak e_int))) (e_weak e_int)) (t_and (t_cmp (ko := .strong) (op_eqD hr.units) c_eq (e_weak (e_op op_modN c_mod (e_weak (e_op op_sub c_sub (e_weak (e_ix ix_seq c_ix (e_weak (e_var 10)) (e_weak e_int))) (e_weak (e_ix ix_seq c_ix (e_weak (e_var 9)) (e_weak e_int))))) (e_weak e_int))) (e_weak e_int)) (t_and1 (t_cmp (ko := .strong) (op_eqD hr.units) c_eq (e_weak (e_callD D_l_draw (hr.mono (by decide)) (a_consS (e_var 0) (a_consS e_int a_nil)))) (e_weak e_int)))))) (s_one (s_app 7 (ps_expr (pe_bm PySem.F.plainAttrs_list PySem.F.slot_list_append PySem.F.type_list_append mt_append (pv 7) (L2.pa_cons (e_tup (a_consS (e_op o_fdiv c_div (e_weak (e_op o_add c_add (e_weak (e_ix ix_seq c_ix (e_weak (e_var 9)) (e_weak e_int))) (e_weak (e_ix ix_seq c_ix (e_weak (e_var 10)) (e_weak e_int))))) (e_weak e_int)) (a_consS (e_op o_fdiv c_div (e_weak (e_op o_add c_add (e_weak (e_ix ix_seq c_ix (e_weak (e_var 9)) (e_weak e_int))) (e_weak (e_ix ix_seq c_ix (e_weak (e_var 10)) (e_weak e_int))))) (e_weak e_int)) a_nil))) L2.pa_nil))))) s_nil))))) (s_cons (own' := []) (s_set 11 sc_l_ring.nd (e_callD D_l_draw (hr.mono (by decide)) (a_consS (e_var 0) (a_consS (e_callB b_len c_len (a_cons (e_weak (e_var 7)) a_nil) T.g_len) a_nil)))) (s_one (s_ret (e_callTy call_tuple_of c_tuple (a_cons (e_weak (e_op o_add c_add (e_weak (e_sl (e_weak (e_var 7)) (o_some (e_weak (e_var 11))) o_none)) (e_weak (e_sl (e_weak (e_var 7)) o_none (o_some (e_weak (e_var 11))))))) a_nil) T.g_tuple))))))))))))
theorem ok_sides_round {f : Addr} {fd : FuncData} (F : Fun K "sides_round" "sides_round" s_sides_round f fd) (hm : mg "sides_round" = some (.ref f)) (hb : Binds K fd ["ring"] []) (T : Txt mg) : DefD P w K mg base "sides_round" 2 1 .strong w_sides_round := by
  refine ⟨f, fd, ["ring"], ?_, hm, F.kp, hb⟩
  refine fn_d (k := 1) (N := N_sides_round) (own := []) (fr := true) (ko := .strong) (p := p_sides_round) F sc_sides_round rfl (by decide) (by decide) (fun cdv A outer s H E hr => ?_)
  exact (s_one (s_ret (e_strong (e_comp rfl sc_sides_round.nd (i_rng1 T.g_range (a_cons (e_weak (e_callB b_len c_len (a_cons (e_weak (e_var 0)) a_nil) T.g_len)) a_nil)) (blkOk_by (own := [("k", 1)]) (N := N_sides_round) (sc := (defScope s_sides_round)) (by decide +kernel)) (fun _ _ _ _ _ => (pg_name (i := 1) sc_sides_round.nd rfl (by first | exact Or.inl rfl | exact Or.inr rfl))) (tg_name (by decide)) (fun _ _ _ _ _ => ts_nil) (fun _ _ _ _ _ => (e_tup (a_consS (e_ix ix_seq c_ix (e_weak (e_var 0)) (e_weak (e_var 1))) (a_consS (e_ix ix_seq c_ix (e_weak (e_var 0)) (e_weak (e_op op_modN c_mod (e_weak (e_op o_add c_add (e_weak (e_var 1)) (e_weak e_int))) (e_weak (e_callB b_len c_len (a_cons (e_weak (e_var 0)) a_nil) T.g_len))))) a_nil))))))))
theorem ok_is_within {f : Addr} {fd : FuncData} (F : Fun K "is_within" "is_within" s_is_within f fd) (hm : mg "is_within" = some (.ref f)) (hb : Binds K fd ["sides", "x", "y", "lower"] []) (T : Txt mg) : DefD P w K mg base "is_within" 2 4 .strong w_is_within := by
  refine ⟨f, fd, ["sides", "x", "y", "lower"], ?_, hm, F.kp, hb⟩
  refine fn_d (k := 1) (N := N_is_within) (own := []) (fr := true) (ko := .strong) (p := p_is_within) F sc_is_within rfl (by decide) (by decide) (fun cdv A outer s H E hr => ?_)
  exact (s_cons (own' := []) (s_for PassesOwn.never rfl (i_seqS (e_var 0)) (pg_tupA rfl (pgs_cons (pg_name (i := 4) sc_is_within.nd rfl (by first | exact Or.inl rfl | exact Or.inr rfl)) (pgs_cons (pg_name (i := 5) sc_is_within.nd rfl (by first | exact Or.inl rfl | exact Or.inr rfl)) pgs_nil))) (tg_tup (tgs_cons (tg_name (by decide)) (tgs_cons (tg_name (by decide)) tgs_nil)) (gs_len1 (gs_len1 gs_len0 (gN_some 5)) (gN_some 4))) (s_cons (own' := []) (s_set 6 sc_is_within.nd (e_op op_sub c_sub (e_weak (e_op o_mul c_mul (e_weak (e_op op_sub c_sub (e_weak (e_ix ix_seq c_ix (e_weak (e_var 5)) (e_weak e_int))) (e_weak (e_ix ix_seq c_ix (e_weak (e_var 4)) (e_weak e_int))))) (e_weak (e_op op_sub c_sub (e_weak (e_var 2)) (e_weak (e_op o_mul c_mul (e_weak (e_ix ix_seq c_ix (e_weak (e_var 4)) (e_weak e_int))) (e_weak (e_var 3)))))))) (e_weak (e_op o_mul c_mul (e_weak (e_op op_sub c_sub (e_weak (e_ix ix_seq c_ix (e_weak (e_var 5)) (e_weak e_int))) (e_weak (e_ix ix_seq c_ix (e_weak (e_var 4)) (e_weak e_int))))) (e_weak (e_op op_sub c_sub (e_weak (e_var 1)) (e_weak (e_op o_mul c_mul (e_weak (e_ix ix_seq c_ix (e_weak (e_var 4)) (e_weak e_int))) (e_weak (e_var 3)))))))))) (s_one (s_if (t_cmp (ko := .strong) op_lt c_ltI (e_weak (e_var 6)) (e_weak e_int)) (s_one (s_ret e_bl)) s_nil)))) (s_one (s_ret e_bl)))
theorem ok_land_cells {f : Addr} {fd : FuncData} (F : Fun K "land_cells" "land_cells" s_land_cells f fd) (hm : mg "land_cells" = some (.ref f)) (hb : Binds K fd ["ring"] []) (T : Txt mg) (D_sides_round : DefD P w K mg base "sides_round" 2 1 .strong w_sides_round) (D_is_within : DefD P w K mg base "is_within" 2 4 .strong w_is_within) : DefD P w K mg base "land_cells" 3 1 .strong w_land_cells := by
  refine ⟨f, fd, ["ring"], ?_, hm, F.kp, hb⟩
  refine fn_d (k := 2) (N := N_land_cells) (own := [2]) (fr := true) (ko := .strong) (p := p_land_cells) F sc_land_cells rfl (by decide) (by decide) (fun cdv A outer s H E hr => ?_)
  exact (s_cons (own' := [2]) (s_set 1 sc_land_cells.nd (e_callD D_sides_round (hr.mono (by decide)) (a_consS (e_var 0) a_nil))) (s_cons (own' := [2]) (s_setO 2 sc_land_cells.nd (e_lst a_nil)) (s_cons (own' := []) (s_for PassesOwn.never rfl (i_rng2 T.g_range (a_cons (e_weak (e_callB (cr_min rfl) c_min (a_cons (e_weak (e_comp rfl sc_land_cells.nd (i_seqW (e_weak (e_var 0))) (blkOk_by (own := [("cell", 5)]) (N := N_land_cells) (sc := (defScope s_land_cells)) (by decide +kernel)) (fun _ _ _ _ _ => (pg_name (i := 5) sc_land_cells.nd rfl (by first | exact Or.inl rfl | exact Or.inr rfl))) (tg_name (by decide)) (fun _ _ _ _ _ => ts_nil) (fun _ _ _ _ _ => (e_ix ix_seq c_ix (e_weak (e_var 5)) (e_weak e_int))))) a_nil) T.g_min)) (a_cons (e_weak (e_op o_add c_add (e_weak (e_callB (cr_max rfl) c_max (a_cons (e_weak (e_comp rfl sc_land_cells.nd (i_seqW (e_weak (e_var 0))) (blkOk_by (own := [("cell", 5)]) (N := N_land_cells) (sc := (defScope s_land_cells)) (by decide +kernel)) (fun _ _ _ _ _ => (pg_name (i := 5) sc_land_cells.nd rfl (by first | exact Or.inl rfl | exact Or.inr rfl))) (tg_name (by decide)) (fun _ _ _ _ _ => ts_nil) (fun _ _ _ _ _ => (e_ix ix_seq c_ix (e_weak (e_var 5)) (e_weak e_int))))) a_nil) T.g_max)) (e_weak e_int))) a_nil))) (pg_name (i := 3) sc_land_cells.nd rfl (by first | exact Or.inl rfl | exact Or.inr rfl)) (tg_name (by decide)) (s_one (s_for PassesOwn.never rfl (i_rng2 T.g_range (a_cons (e_weak (e_callB (cr_min rfl) c_min (a_cons (e_weak (e_comp rfl sc_land_cells.nd (i_seqW (e_weak (e_var 0))) (blkOk_by (own := [("cell", 5)]) (N := N_land_cells) (sc := (defScope s_land_cells)) (by decide +kernel)) (fun _ _ _ _ _ => (pg_name (i := 5) sc_land_cells.nd rfl (by first | exact Or.inl rfl | exact Or.inr rfl))) (tg_name (by decide)) (fun _ _ _ _ _ => ts_nil) (fun _ _ _ _ _ => (e_ix ix_seq c_ix (e_weak (e_var 5)) (e_weak e_int))))) a_nil) T.g_min)) (a_cons (e_weak (e_op o_add c_add (e_weak (e_callB (cr_max rfl) c_max (a_cons (e_weak (e_comp rfl sc_land_cells.nd (i_seqW (e_weak (e_var 0))) (blkOk_by (own := [("cell", 5)]) (N := N_land_cells) (sc := (defScope s_land_cells)) (by decide +kernel)) (fun _ _ _ _ _ => (pg_name (i := 5) sc_land_cells.nd rfl (by first | exact Or.inl rfl | exact Or.inr rfl))) (tg_name (by decide)) (fun _ _ _ _ _ => ts_nil) (fun _ _ _ _ _ => (e_ix ix_seq c_ix (e_weak (e_var 5)) (e_weak e_int))))) a_nil) T.g_max)) (e_weak e_int))) a_nil))) (pg_name (i := 4) sc_land_cells.nd rfl (by first | exact Or.inl rfl | exact Or.inr rfl)) (tg_name (by decide)) (s_one (s_if (t_val (e_weak (e_callD D_is_within (hr.mono (by decide)) (a_consS (e_var 1) (a_consS (e_var 3) (a_consS (e_var 4) (a_consS e_int a_nil))))))) (s_one (s_app 2 (ps_expr (pe_bm PySem.F.plainAttrs_list PySem.F.slot_list_append PySem.F.type_list_append mt_append (pv 2) (L2.pa_cons (e_tup (a_consS (e_var 3) (a_consS (e_var 4) a_nil))) L2.pa_nil))))) s_nil))))) (s_one (s_ret (e_callTy call_tuple_of c_tuple (a_cons (e_weak (e_var 2)) a_nil) T.g_tuple))))))
theorem ok_over_common {f : Addr} {fd : FuncData} (F : Fun K "over_common" "over_common" s_over_common f fd) (hm : mg "over_common" = some (.ref f)) (hb : Binds K fd ["point"] []) (T : Txt mg) : DefD P w K mg base "over_common" 2 1 .strong w_over_common := by
  refine ⟨f, fd, ["point"], ?_, hm, F.kp, hb⟩
  refine fn_d (k := 1) (N := N_over_common) (own := []) (fr := true) (ko := .strong) (p := p_over_common) F sc_over_common rfl (by decide) (by decide) (fun cdv A outer s H E hr => ?_)
  exact (s_cons (own' := []) (s_asg (e_var 0) (pg_tupA rfl (pgs_cons (pg_tupA rfl (pgs_cons (pg_name (i := 1) sc_over_common.nd rfl (by first | exact Or.inl rfl | exact Or.inr rfl)) (pgs_cons (pg_name (i := 2) sc_over_common.nd rfl (by first | exact Or.inl rfl | exact Or.inr rfl)) pgs_nil))) (pgs_cons (pg_tupA rfl (pgs_cons (pg_name (i := 3) sc_over_common.nd rfl (by first | exact Or.inl rfl | exact Or.inr rfl)) (pgs_cons (pg_name (i := 4) sc_over_common.nd rfl (by first | exact Or.inl rfl | exact Or.inr rfl)) pgs_nil))) pgs_nil))) (tg_tup (tgs_cons (tg_tup (tgs_cons (tg_name (by decide)) (tgs_cons (tg_name (by decide)) tgs_nil)) (gs_len1 (gs_len1 gs_len0 (gN_some 2)) (gN_some 1))) (tgs_cons (tg_tup (tgs_cons (tg_name (by decide)) (tgs_cons (tg_name (by decide)) tgs_nil)) (gs_len1 (gs_len1 gs_len0 (gN_some 4)) (gN_some 3))) tgs_nil)) (gs_len1 (gs_len1 gs_len0 (gT_some (gsC_some (gN_some 3) (gsC_some (gN_some 4) gsN_some)))) (gT_some (gsC_some (gN_some 1) (gsC_some (gN_some 2) gsN_some)))))) (s_one (s_ret (e_tup (a_consS (e_op o_mul c_mul (e_weak (e_var 1)) (e_weak (e_var 4))) (a_consS (e_op o_mul c_mul (e_weak (e_var 3)) (e_weak (e_var 2))) (a_consS (e_op o_mul c_mul (e_weak (e_var 2)) (e_weak (e_var 4))) a_nil)))))))
theorem ok_in_land {f : Addr} {fd : FuncData} (F : Fun K "in_land" "in_land" s_in_land f fd) (hm : mg "in_land" = some (.ref f)) (hb : Binds K fd ["ring", "point"] []) (T : Txt mg) (D_over_common : DefD P w K mg base "over_common" 2 1 .strong w_over_common) (D_is_within : DefD P w K mg base "is_within" 2 4 .strong w_is_within) (D_sides_round : DefD P w K mg base "sides_round" 2 1 .strong w_sides_round) : DefD P w K mg base "in_land" 3 2 .strong w_in_land := by
  refine ⟨f, fd, ["ring", "point"], ?_, hm, F.kp, hb⟩
  refine fn_d (k := 2) (N := N_in_land) (own := []) (fr := true) (ko := .strong) (p := p_in_land) F sc_in_land rfl (by decide) (by decide) (fun cdv A outer s H E hr => ?_)
  exact (s_cons (own' := []) (s_asg (e_callD D_over_common (hr.mono (by decide)) (a_consS (e_var 1) a_nil)) (pg_tupA rfl (pgs_cons (pg_name (i := 2) sc_in_land.nd rfl (by first | exact Or.inl rfl | exact Or.inr rfl)) (pgs_cons (pg_name (i := 3) sc_in_land.nd rfl (by first | exact Or.inl rfl | exact Or.inr rfl)) (pgs_cons (pg_name (i := 4) sc_in_land.nd rfl (by first | exact Or.inl rfl | exact Or.inr rfl)) pgs_nil)))) (tg_tup (tgs_cons (tg_name (by decide)) (tgs_cons (tg_name (by decide)) (tgs_cons (tg_name (by decide)) tgs_nil))) (gs_len1 (gs_len1 (gs_len1 gs_len0 (gN_some 4)) (gN_some 3)) (gN_some 2)))) (s_one (s_ret (e_callD D_is_within (hr.mono (by decide)) (a_consS (e_callD D_sides_round (hr.mono (by decide)) (a_consS (e_var 0) a_nil)) (a_consS (e_var 2) (a_consS (e_var 3) (a_consS (e_var 4) a_nil))))))))
theorem ok_l_fraction {f : Addr} {fd : FuncData} (F : Fun K "_law_fraction" "_law_fraction" s_l_fraction f fd) (hm : mg "_law_fraction" = some (.ref f)) (hb : Binds K fd ["_law_upper", "_law_lower"] []) (T : Txt mg) : DefD P w K mg base "_law_fraction" 2 2 .strong w_l_fraction := by
  refine ⟨f, fd, ["_law_upper", "_law_lower"], ?_, hm, F.kp, hb⟩
  refine fn_d (k := 1) (N := N_l_fraction) (own := []) (fr := true) (ko := .strong) (p := p_l_fraction) F sc_l_fraction rfl (by decide) (by decide) (fun cdv A outer s H E hr => ?_)
  exact (s_cons (own' := []) (s_par 2 3 rfl sc_l_fraction.nd (a_consS (e_callB call_abs c_abs (a_cons (e_weak (e_var 0)) a_nil) T.g_abs) (a_consS (e_var 1) a_nil))) (s_cons (own' := []) (s_while PassesOwn.never (t_cmp (ko := .strong) op_gt c_gtI (e_weak (e_var 3)) (e_weak e_int)) (s_one (s_par 2 3 rfl sc_l_fraction.nd (a_consS (e_var 3) (a_consS (e_op op_modN c_mod (e_weak (e_var 2)) (e_weak (e_var 3))) a_nil))))) (s_one (s_ret (e_tup (a_consS (e_op o_fdiv c_div (e_weak (e_var 0)) (e_weak (e_var 2))) (a_consS (e_op o_fdiv c_div (e_weak (e_var 1)) (e_weak (e_var 2))) a_nil)))))))
theorem ok_l_points_right {f : Addr} {fd : FuncData} (F : Fun K "_law_points_right" "_law_points_right" s_l_points_right f fd) (hm : mg "_law_points_right" = some (.ref f)) (hb : Binds K fd ["_law_deal_here", "_law_ring_here"] []) (T : Txt mg) (D_l_draw : DefD P w K mg base "_law_draw" 1 2 .strong w_l_draw) (D_in_land : DefD P w K mg base "in_land" 3 2 .strong w_in_land) (D_l_fraction : DefD P w K mg base "_law_fraction" 2 2 .strong w_l_fraction) (D_l_in_land : DefD P w K mg base "_law_in_land" 2 4 .strong w_l_in_land) : DefD P w K mg base "_law_points_right" 4 2 .strong w_l_points_right := by
  refine ⟨f, fd, ["_law_deal_here", "_law_ring_here"], ?_, hm, F.kp, hb⟩
  refine fn_d (k := 3) (N := N_l_points_right) (own := []) (fr := true) (ko := .strong) (p := p_l_points_right) F sc_l_points_right rfl (by decide) (by decide) (fun cdv A outer s H E hr => ?_)
  exact (s_cons (own' := []) (s_for PassesOwn.never rfl (i_rng1 T.g_range (a_cons (e_weak e_int) a_nil)) (pg_name (i := 2) sc_l_points_right.nd rfl (by first | exact Or.inl rfl | exact Or.inr rfl)) (tg_name (by decide)) (s_cons (own' := []) (s_par 3 4 rfl sc_l_points_right.nd (a_consS (e_ix ix_seq c_ix (e_weak (e_var 1)) (e_weak (e_callD D_l_draw (hr.mono (by decide)) (a_consS (e_var 0) (a_consS (e_callB b_len c_len (a_cons (e_weak (e_var 1)) a_nil) T.g_len) a_nil))))) (a_consS (e_ix ix_seq c_ix (e_weak (e_var 1)) (e_weak (e_callD D_l_draw (hr.mono (by decide)) (a_consS (e_var 0) (a_consS (e_callB b_len c_len (a_cons (e_weak (e_var 1)) a_nil) T.g_len) a_nil))))) a_nil))) (s_cons (own' := []) (s_set 5 sc_l_points_right.nd (e_ix ix_seq c_ix (e_weak (e_lst (a_consS (e_op o_add c_add (e_weak e_int) (e_weak (e_callD D_l_draw (hr.mono (by decide)) (a_consS (e_var 0) (a_consS e_int a_nil))))) (a_consS (e_op o_add c_add (e_weak (e_op op_pow c_pow (e_weak e_int) (e_weak e_int))) (e_weak e_int)) a_nil)))) (e_weak (e_callTy call_int1 c_toI (a_cons (e_weak (e_cmp (op_eqD hr.units) c_eq (e_weak (e_callD D_l_draw (hr.mono (by decide)) (a_consS (e_var 0) (a_consS e_int a_nil)))) (e_weak e_int))) a_nil) T.g_int)))) (s_cons (own' := []) (s_set 6 sc_l_points_right.nd (e_callD D_l_draw (hr.mono (by decide)) (a_consS (e_var 0) (a_consS (e_op o_add c_add (e_weak (e_var 5)) (e_weak e_int)) a_nil)))) (s_cons (own' := []) (s_set 7 sc_l_points_right.nd (e_op op_sub c_sub (e_weak (e_op o_add c_add (e_weak (e_op o_add c_add (e_weak (e_op o_mul c_mul (e_weak (e_ix ix_seq c_ix (e_weak (e_var 3)) (e_weak e_int))) (e_weak (e_var 5)))) (e_weak (e_op o_mul c_mul (e_weak (e_op op_sub c_sub (e_weak (e_ix ix_seq c_ix (e_weak (e_var 4)) (e_weak e_int))) (e_weak (e_ix ix_seq c_ix (e_weak (e_var 3)) (e_weak e_int))))) (e_weak (e_var 6)))))) (e_weak (e_callD D_l_draw (hr.mono (by decide)) (a_consS (e_var 0) (a_consS e_int a_nil)))))) (e_weak e_int))) (s_cons (own' := []) (s_set 8 sc_l_points_right.nd (e_op op_sub c_sub (e_weak (e_op o_add c_add (e_weak (e_op o_add c_add (e_weak (e_op o_mul c_mul (e_weak (e_ix ix_seq c_ix (e_weak (e_var 3)) (e_weak e_int))) (e_weak (e_var 5)))) (e_weak (e_op o_mul c_mul (e_weak (e_op op_sub c_sub (e_weak (e_ix ix_seq c_ix (e_weak (e_var 4)) (e_weak e_int))) (e_weak (e_ix ix_seq c_ix (e_weak (e_var 3)) (e_weak e_int))))) (e_weak (e_var 6)))))) (e_weak (e_callD D_l_draw (hr.mono (by decide)) (a_consS (e_var 0) (a_consS e_int a_nil)))))) (e_weak e_int))) (s_cons (own' := []) (s_set 9 sc_l_points_right.nd (e_callD D_in_land (hr.mono (by decide)) (a_consS (e_var 1) (a_consS (e_tup (a_consS (e_callD D_l_fraction (hr.mono (by decide)) (a_consS (e_var 7) (a_consS (e_var 5) a_nil))) (a_consS (e_callD D_l_fraction (hr.mono (by decide)) (a_consS (e_var 8) (a_consS (e_var 5) a_nil))) a_nil))) a_nil)))) (s_one (s_if (PW.pt (t_or (t_not (t_val (e_weak (e_callB call_isi c_isi (a_cons (e_weak (e_var 9)) (a_cons (e_weak (e_ty T.g_bool)) a_nil)) T.g_isinstance)))) (t_or1 (t_cmp (ko := .strong) (op_neD hr.units) c_ne (e_weak (e_var 9)) (e_weak (e_callD D_l_in_land (hr.mono (by decide)) (a_consS (e_var 1) (a_consS (e_var 7) (a_consS (e_var 8) (a_consS (e_var 5) a_nil)))))))))) (s_one (s_ret e_bl)) s_nil))))))))) (s_one (s_ret e_bl)))
theorem ok_law {f : Addr} {fd : FuncData} (F : Fun K "law" "law" s_law f fd) (T : Txt mg) (D_l_deal : DefD P w K mg base "_law_deal" 2 1 .strong w_l_deal) (D_l_ring : DefD P w K mg base "_law_ring" 4 1 .strong w_l_ring) (D_l_cells_in : DefD P w K mg base "_law_cells_in" 3 1 .strong w_l_cells_in) (D_l_points_right : DefD P w K mg base "_law_points_right" 4 2 .strong w_l_points_right) (D_land_cells : DefD P w K mg base "land_cells" 3 1 .strong w_land_cells) : FnOk P w K mg base CX0 5 f fd ["_law_script"] (spD K 1 .strong w_law) := by
  refine fn_d (k := 4) (N := N_law) (own := []) (fr := true) (ko := .strong) (p := p_law) F sc_law rfl (by decide) (by decide) (fun cdv A outer s H E hr => ?_)
  exact (s_cons (own' := []) (s_set 1 sc_law.nd (e_callD D_l_deal (hr.mono (by decide)) (a_consS (e_var 0) a_nil))) (s_cons (own' := []) (s_par 2 3 rfl sc_law.nd (a_consS (e_callD D_l_ring (hr.mono (by decide)) (a_consS (e_var 1) a_nil)) (a_consS (e_callD D_l_ring (hr.mono (by decide)) (a_consS (e_var 1) a_nil)) a_nil))) (s_cons (own' := []) (s_set 4 sc_law.nd (e_callD D_l_cells_in (hr.mono (by decide)) (a_consS (e_var 2) a_nil))) (s_cons (own' := []) (s_if (PW.pt (t_or (t_cmp (ko := .strong) (op_neD hr.units) c_ne (e_weak (e_callD D_land_cells (hr.mono (by decide)) (a_consS (e_var 2) a_nil))) (e_weak (e_var 4))) (t_or1 (t_not (t_val (e_weak (e_callD D_l_points_right (hr.mono (by decide)) (a_consS (e_var 1) (a_consS (e_var 2) a_nil))))))))) (s_one (s_ret e_bl)) s_nil) (s_cons (own' := []) (s_if (PW.pt (t_or (t_not (t_val (e_weak (e_callD D_l_points_right (hr.mono (by decide)) (a_consS (e_var 1) (a_consS (e_var 3) a_nil)))))) (t_or1 (t_cmp (ko := .strong) (op_neD hr.units) c_ne (e_weak (e_callD D_land_cells (hr.mono (by decide)) (a_consS (e_op o_add c_add (e_weak (e_sl (e_weak (e_var 3)) o_none (o_some (e_weak e_int)))) (e_weak (e_sl (e_weak (e_var 3)) (o_some (e_weak e_int)) o_none))) a_nil))) (e_weak (e_callD D_l_cells_in (hr.mono (by decide)) (a_consS (e_var 3) a_nil))))))) (s_one (s_ret e_bl)) s_nil) (s_one (s_ret (e_cmp (op_eqD hr.units) c_eq (e_weak (e_callD D_land_cells (hr.mono (by decide)) (a_consS (e_var 2) a_nil))) (e_weak (e_var 4))))))))))
end
end DL

set_option Elab.async false
set_option linter.all false
set_option maxRecDepth 100000
set_option maxHeartbeats 4000000
namespace DL
open PySem PySem.Spec PyProof.Rows L2

theorem all_mk {l : PySem.W.OpenLaw} {w : World} {K : PySem.W.Frag} {h : Heap} {mg : Str → Option Value} {fa : Addr} (X : K.In h) (G : h.Ns mainGlobals mg) (hfa : mg "law" = some (.ref fa))
    {f0 : Addr} {od0 an0 : Option Addr} {sl0 : Array (Option Value)} {oc0 kV0 dc0 pm0 cd0 ct0 : Value}
    {f1 : Addr} {od1 an1 : Option Addr} {sl1 : Array (Option Value)} {oc1 kV1 dc1 pm1 cd1 ct1 : Value}
    {f2 : Addr} {od2 an2 : Option Addr} {sl2 : Array (Option Value)} {oc2 kV2 dc2 pm2 cd2 ct2 : Value}
    {f3 : Addr} {od3 an3 : Option Addr} {sl3 : Array (Option Value)} {oc3 kV3 dc3 pm3 cd3 ct3 : Value}
    {f4 : Addr} {od4 an4 : Option Addr} {sl4 : Array (Option Value)} {oc4 kV4 dc4 pm4 cd4 ct4 : Value}
    {f5 : Addr} {od5 an5 : Option Addr} {sl5 : Array (Option Value)} {oc5 kV5 dc5 pm5 cd5 ct5 : Value}
    {f6 : Addr} {od6 an6 : Option Addr} {sl6 : Array (Option Value)} {oc6 kV6 dc6 pm6 cd6 ct6 : Value}
    {f7 : Addr} {od7 an7 : Option Addr} {sl7 : Array (Option Value)} {oc7 kV7 dc7 pm7 cd7 ct7 : Value}
    {f8 : Addr} {od8 an8 : Option Addr} {sl8 : Array (Option Value)} {oc8 kV8 dc8 pm8 cd8 ct8 : Value}
    {f9 : Addr} {od9 an9 : Option Addr} {sl9 : Array (Option Value)} {oc9 kV9 dc9 pm9 cd9 ct9 : Value}
    {f10 : Addr} {od10 an10 : Option Addr} {sl10 : Array (Option Value)} {oc10 kV10 dc10 pm10 cd10 ct10 : Value}
    {f11 : Addr} {od11 an11 : Option Addr} {sl11 : Array (Option Value)} {oc11 kV11 dc11 pm11 cd11 ct11 : Value}
    {f12 : Addr} {od12 an12 : Option Addr} {sl12 : Array (Option Value)} {oc12 kV12 dc12 pm12 cd12 ct12 : Value}
    {f13 : Addr} {od13 an13 : Option Addr} {sl13 : Array (Option Value)} {oc13 kV13 dc13 pm13 cd13 ct13 : Value}
    {f14 : Addr} {od14 an14 : Option Addr} {sl14 : Array (Option Value)} {oc14 kV14 dc14 pm14 cd14 ct14 : Value}
    (a0 : PySem.W.nsIn K mainGlobals "_law_deal" = some (some (.ref f0))) (l0 : K.lookup f0 = some ⟨oc0, od0, .func (PySem.W.fnOf "_law_deal" "_law_deal" (defArgs s_l_deal) (defBody s_l_deal) (defScope s_l_deal) .none kV0 dc0 pm0 an0 cd0 ct0), sl0⟩) (c0 : PySem.W.codeIn K cd0 "_law_deal" = true) (k0 : PySem.W.keepIn K (.ref f0) = true)
    (a1 : PySem.W.nsIn K mainGlobals "_law_in_land" = some (some (.ref f1))) (l1 : K.lookup f1 = some ⟨oc1, od1, .func (PySem.W.fnOf "_law_in_land" "_law_in_land" (defArgs s_l_in_land) (defBody s_l_in_land) (defScope s_l_in_land) .none kV1 dc1 pm1 an1 cd1 ct1), sl1⟩) (c1 : PySem.W.codeIn K cd1 "_law_in_land" = true) (k1 : PySem.W.keepIn K (.ref f1) = true)
    (a2 : PySem.W.nsIn K mainGlobals "_law_cells_in" = some (some (.ref f2))) (l2 : K.lookup f2 = some ⟨oc2, od2, .func (PySem.W.fnOf "_law_cells_in" "_law_cells_in" (defArgs s_l_cells_in) (defBody s_l_cells_in) (defScope s_l_cells_in) .none kV2 dc2 pm2 an2 cd2 ct2), sl2⟩) (c2 : PySem.W.codeIn K cd2 "_law_cells_in" = true) (k2 : PySem.W.keepIn K (.ref f2) = true)
    (a3 : PySem.W.nsIn K mainGlobals "_law_draw" = some (some (.ref f3))) (l3 : K.lookup f3 = some ⟨oc3, od3, .func (PySem.W.fnOf "_law_draw" "_law_draw" (defArgs s_l_draw) (defBody s_l_draw) (defScope s_l_draw) .none kV3 dc3 pm3 an3 cd3 ct3), sl3⟩) (c3 : PySem.W.codeIn K cd3 "_law_draw" = true) (k3 : PySem.W.keepIn K (.ref f3) = true)
    (a4 : PySem.W.nsIn K mainGlobals "_law_turn" = some (some (.ref f4))) (l4 : K.lookup f4 = some ⟨oc4, od4, .func (PySem.W.fnOf "_law_turn" "_law_turn" (defArgs s_l_turn) (defBody s_l_turn) (defScope s_l_turn) .none kV4 dc4 pm4 an4 cd4 ct4), sl4⟩) (c4 : PySem.W.codeIn K cd4 "_law_turn" = true) (k4 : PySem.W.keepIn K (.ref f4) = true)
    (a5 : PySem.W.nsIn K mainGlobals "_law_half" = some (some (.ref f5))) (l5 : K.lookup f5 = some ⟨oc5, od5, .func (PySem.W.fnOf "_law_half" "_law_half" (defArgs s_l_half) (defBody s_l_half) (defScope s_l_half) .none kV5 dc5 pm5 an5 cd5 ct5), sl5⟩) (c5 : PySem.W.codeIn K cd5 "_law_half" = true) (k5 : PySem.W.keepIn K (.ref f5) = true)
    (a6 : PySem.W.nsIn K mainGlobals "_law_ring" = some (some (.ref f6))) (l6 : K.lookup f6 = some ⟨oc6, od6, .func (PySem.W.fnOf "_law_ring" "_law_ring" (defArgs s_l_ring) (defBody s_l_ring) (defScope s_l_ring) .none kV6 dc6 pm6 an6 cd6 ct6), sl6⟩) (c6 : PySem.W.codeIn K cd6 "_law_ring" = true) (k6 : PySem.W.keepIn K (.ref f6) = true)
    (a7 : PySem.W.nsIn K mainGlobals "sides_round" = some (some (.ref f7))) (l7 : K.lookup f7 = some ⟨oc7, od7, .func (PySem.W.fnOf "sides_round" "sides_round" (defArgs s_sides_round) (defBody s_sides_round) (defScope s_sides_round) .none kV7 dc7 pm7 an7 cd7 ct7), sl7⟩) (c7 : PySem.W.codeIn K cd7 "sides_round" = true) (k7 : PySem.W.keepIn K (.ref f7) = true)
    (a8 : PySem.W.nsIn K mainGlobals "is_within" = some (some (.ref f8))) (l8 : K.lookup f8 = some ⟨oc8, od8, .func (PySem.W.fnOf "is_within" "is_within" (defArgs s_is_within) (defBody s_is_within) (defScope s_is_within) .none kV8 dc8 pm8 an8 cd8 ct8), sl8⟩) (c8 : PySem.W.codeIn K cd8 "is_within" = true) (k8 : PySem.W.keepIn K (.ref f8) = true)
    (a9 : PySem.W.nsIn K mainGlobals "land_cells" = some (some (.ref f9))) (l9 : K.lookup f9 = some ⟨oc9, od9, .func (PySem.W.fnOf "land_cells" "land_cells" (defArgs s_land_cells) (defBody s_land_cells) (defScope s_land_cells) .none kV9 dc9 pm9 an9 cd9 ct9), sl9⟩) (c9 : PySem.W.codeIn K cd9 "land_cells" = true) (k9 : PySem.W.keepIn K (.ref f9) = true)
    (a10 : PySem.W.nsIn K mainGlobals "over_common" = some (some (.ref f10))) (l10 : K.lookup f10 = some ⟨oc10, od10, .func (PySem.W.fnOf "over_common" "over_common" (defArgs s_over_common) (defBody s_over_common) (defScope s_over_common) .none kV10 dc10 pm10 an10 cd10 ct10), sl10⟩) (c10 : PySem.W.codeIn K cd10 "over_common" = true) (k10 : PySem.W.keepIn K (.ref f10) = true)
    (a11 : PySem.W.nsIn K mainGlobals "in_land" = some (some (.ref f11))) (l11 : K.lookup f11 = some ⟨oc11, od11, .func (PySem.W.fnOf "in_land" "in_land" (defArgs s_in_land) (defBody s_in_land) (defScope s_in_land) .none kV11 dc11 pm11 an11 cd11 ct11), sl11⟩) (c11 : PySem.W.codeIn K cd11 "in_land" = true) (k11 : PySem.W.keepIn K (.ref f11) = true)
    (a12 : PySem.W.nsIn K mainGlobals "_law_fraction" = some (some (.ref f12))) (l12 : K.lookup f12 = some ⟨oc12, od12, .func (PySem.W.fnOf "_law_fraction" "_law_fraction" (defArgs s_l_fraction) (defBody s_l_fraction) (defScope s_l_fraction) .none kV12 dc12 pm12 an12 cd12 ct12), sl12⟩) (c12 : PySem.W.codeIn K cd12 "_law_fraction" = true) (k12 : PySem.W.keepIn K (.ref f12) = true)
    (a13 : PySem.W.nsIn K mainGlobals "_law_points_right" = some (some (.ref f13))) (l13 : K.lookup f13 = some ⟨oc13, od13, .func (PySem.W.fnOf "_law_points_right" "_law_points_right" (defArgs s_l_points_right) (defBody s_l_points_right) (defScope s_l_points_right) .none kV13 dc13 pm13 an13 cd13 ct13), sl13⟩) (c13 : PySem.W.codeIn K cd13 "_law_points_right" = true) (k13 : PySem.W.keepIn K (.ref f13) = true)
    (a14 : PySem.W.nsIn K mainGlobals "law" = some (some (.ref f14))) (l14 : K.lookup f14 = some ⟨oc14, od14, .func (PySem.W.fnOf "law" "law" (defArgs s_law) (defBody s_law) (defScope s_law) .none kV14 dc14 pm14 an14 cd14 ct14), sl14⟩) (c14 : PySem.W.codeIn K cd14 "law" = true) (k14 : PySem.W.keepIn K (.ref f14) = true)
    (z_abs : PySem.W.nsIn K mainGlobals "abs" = some none)
    (z_bool : PySem.W.nsIn K mainGlobals "bool" = some none)
    (z_enumerate : PySem.W.nsIn K mainGlobals "enumerate" = some none)
    (z_int : PySem.W.nsIn K mainGlobals "int" = some none)
    (z_isinstance : PySem.W.nsIn K mainGlobals "isinstance" = some none)
    (z_len : PySem.W.nsIn K mainGlobals "len" = some none)
    (z_list : PySem.W.nsIn K mainGlobals "list" = some none)
    (z_max : PySem.W.nsIn K mainGlobals "max" = some none)
    (z_min : PySem.W.nsIn K mainGlobals "min" = some none)
    (z_range : PySem.W.nsIn K mainGlobals "range" = some none)
    (z_reversed : PySem.W.nsIn K mainGlobals "reversed" = some none)
    (z_set : PySem.W.nsIn K mainGlobals "set" = some none)
    (z_sorted : PySem.W.nsIn K mainGlobals "sorted" = some none)
    (z_tuple : PySem.W.nsIn K mainGlobals "tuple" = some none) :
    ∃ fd : FuncData, (∀ (s : Shared) (v : Value), BindsTo s fd ⟨[v], []⟩ [("_law_script", v)]) ∧ ∀ base : Heap, K.In base → base.Ns mainGlobals mg → FnOk l.prog w K mg base CX0 5 fa fd ["_law_script"] (spLawD K) := by
  have e := hfa.symm.trans (PySem.W.mg_of X G a14)
  cases e
  have T : Txt mg := ⟨PySem.W.mg_none_of X G z_abs, PySem.W.mg_none_of X G z_bool, PySem.W.mg_none_of X G z_enumerate, PySem.W.mg_none_of X G z_int, PySem.W.mg_none_of X G z_isinstance, PySem.W.mg_none_of X G z_len, PySem.W.mg_none_of X G z_list, PySem.W.mg_none_of X G z_max, PySem.W.mg_none_of X G z_min, PySem.W.mg_none_of X G z_range, PySem.W.mg_none_of X G z_reversed, PySem.W.mg_none_of X G z_set, PySem.W.mg_none_of X G z_sorted, PySem.W.mg_none_of X G z_tuple⟩
  have F0 := fun_mk (st := s_l_deal) l0 c0 k0
  have b0 := F0.binds (ps := ["_law_script"]) fun _ _ _ _ _ _ us hl => match us, hl with | [_], _ => rfl
  have F1 := fun_mk (st := s_l_in_land) l1 c1 k1
  have b1 := F1.binds (ps := ["_law_ring_here", "_law_x", "_law_y", "_law_lower"]) fun _ _ _ _ _ _ us hl => match us, hl with | [_, _, _, _], _ => rfl
  have F2 := fun_mk (st := s_l_cells_in) l2 c2 k2
  have b2 := F2.binds (ps := ["_law_ring_here"]) fun _ _ _ _ _ _ us hl => match us, hl with | [_], _ => rfl
  have F3 := fun_mk (st := s_l_draw) l3 c3 k3
  have b3 := F3.binds (ps := ["_law_deal_here", "_law_many"]) fun _ _ _ _ _ _ us hl => match us, hl with | [_, _], _ => rfl
  have F4 := fun_mk (st := s_l_turn) l4 c4 k4
  have b4 := F4.binds (ps := ["_law_one", "_law_other", "_law_third"]) fun _ _ _ _ _ _ us hl => match us, hl with | [_, _, _], _ => rfl
  have F5 := fun_mk (st := s_l_half) l5 c5 k5
  have b5 := F5.binds (ps := ["_law_cells"]) fun _ _ _ _ _ _ us hl => match us, hl with | [_], _ => rfl
  have F6 := fun_mk (st := s_l_ring) l6 c6 k6
  have b6 := F6.binds (ps := ["_law_deal_here"]) fun _ _ _ _ _ _ us hl => match us, hl with | [_], _ => rfl
  have F7 := fun_mk (st := s_sides_round) l7 c7 k7
  have b7 := F7.binds (ps := ["ring"]) fun _ _ _ _ _ _ us hl => match us, hl with | [_], _ => rfl
  have F8 := fun_mk (st := s_is_within) l8 c8 k8
  have b8 := F8.binds (ps := ["sides", "x", "y", "lower"]) fun _ _ _ _ _ _ us hl => match us, hl with | [_, _, _, _], _ => rfl
  have F9 := fun_mk (st := s_land_cells) l9 c9 k9
  have b9 := F9.binds (ps := ["ring"]) fun _ _ _ _ _ _ us hl => match us, hl with | [_], _ => rfl
  have F10 := fun_mk (st := s_over_common) l10 c10 k10
  have b10 := F10.binds (ps := ["point"]) fun _ _ _ _ _ _ us hl => match us, hl with | [_], _ => rfl
  have F11 := fun_mk (st := s_in_land) l11 c11 k11
  have b11 := F11.binds (ps := ["ring", "point"]) fun _ _ _ _ _ _ us hl => match us, hl with | [_, _], _ => rfl
  have F12 := fun_mk (st := s_l_fraction) l12 c12 k12
  have b12 := F12.binds (ps := ["_law_upper", "_law_lower"]) fun _ _ _ _ _ _ us hl => match us, hl with | [_, _], _ => rfl
  have F13 := fun_mk (st := s_l_points_right) l13 c13 k13
  have b13 := F13.binds (ps := ["_law_deal_here", "_law_ring_here"]) fun _ _ _ _ _ _ us hl => match us, hl with | [_, _], _ => rfl
  have F14 := fun_mk (st := s_law) l14 c14 k14
  refine ⟨PySem.W.fnOf "law" "law" (defArgs s_law) (defBody s_law) (defScope s_law) .none kV14 dc14 pm14 an14 cd14 ct14, fun s v => .of_eq rfl, fun base _ _ => ?_⟩
  have D_l_deal := ok_l_deal (P := l.prog) (w := w) (base := base) F0 (PySem.W.mg_of X G a0) b0 T
  have D_l_in_land := ok_l_in_land (P := l.prog) (w := w) (base := base) F1 (PySem.W.mg_of X G a1) b1 T
  have D_l_cells_in := ok_l_cells_in (P := l.prog) (w := w) (base := base) F2 (PySem.W.mg_of X G a2) b2 T D_l_in_land
  have D_l_draw := ok_l_draw (P := l.prog) (w := w) (base := base) F3 (PySem.W.mg_of X G a3) b3 T
  have D_l_turn := ok_l_turn (P := l.prog) (w := w) (base := base) F4 (PySem.W.mg_of X G a4) b4 T
  have D_l_half := ok_l_half (P := l.prog) (w := w) (base := base) F5 (PySem.W.mg_of X G a5) b5 T D_l_turn
  have D_l_ring := ok_l_ring (P := l.prog) (w := w) (base := base) F6 (PySem.W.mg_of X G a6) b6 T D_l_draw D_l_half
  have D_sides_round := ok_sides_round (P := l.prog) (w := w) (base := base) F7 (PySem.W.mg_of X G a7) b7 T
  have D_is_within := ok_is_within (P := l.prog) (w := w) (base := base) F8 (PySem.W.mg_of X G a8) b8 T
  have D_land_cells := ok_land_cells (P := l.prog) (w := w) (base := base) F9 (PySem.W.mg_of X G a9) b9 T D_sides_round D_is_within
  have D_over_common := ok_over_common (P := l.prog) (w := w) (base := base) F10 (PySem.W.mg_of X G a10) b10 T
  have D_in_land := ok_in_land (P := l.prog) (w := w) (base := base) F11 (PySem.W.mg_of X G a11) b11 T D_over_common D_is_within D_sides_round
  have D_l_fraction := ok_l_fraction (P := l.prog) (w := w) (base := base) F12 (PySem.W.mg_of X G a12) b12 T
  have D_l_points_right := ok_l_points_right (P := l.prog) (w := w) (base := base) F13 (PySem.W.mg_of X G a13) b13 T D_l_draw D_in_land D_l_fraction D_l_in_land
  exact law_d (ok_law (P := l.prog) (w := w) (base := base) F14 T D_l_deal D_l_ring D_l_cells_in D_l_points_right D_land_cells) q_law
end DL
open PySem PySem.W PyProof.Rows
set_option maxRecDepth 100000 in
set_option maxHeartbeats 0 in
theorem PySem.Challenge.cw_healfloor_k81_cells_of_lands_holds : PySem.Challenge.rw_healfloor_k81_cells_of_lands.Holds := by
  w_on; o_law; k_head; (case hw => w_witness2)
  k_fill
  refine L2.walk_of (l := PySem.Challenge.rw_healfloor_k81_cells_of_lands) (n := 63) (k := 5) (x := "_law_script") (CX := fun _ => L2.CX0) (sp := fun w => DL.spLawD _) rfl (by decide) rfl ⟨rfl, by decide, by decide⟩ (fun w h Y => PySem.W.kIn_of Y) ?F (fun _ _ a ns hl _ hS => ⟨a, ns, rfl, hS, hl, fun _ => rfl⟩) fun _ _ _ _ _ z => z
  case F =>
    intro w mg fa h KX G hmg
    refine' DL.all_mk KX G hmg ?a0 ?l0 ?c0 ?k0 ?a1 ?l1 ?c1 ?k1 ?a2 ?l2 ?c2 ?k2 ?a3 ?l3 ?c3 ?k3 ?a4 ?l4 ?c4 ?k4 ?a5 ?l5 ?c5 ?k5 ?a6 ?l6 ?c6 ?k6 ?a7 ?l7 ?c7 ?k7 ?a8 ?l8 ?c8 ?k8 ?a9 ?l9 ?c9 ?k9 ?a10 ?l10 ?c10 ?k10 ?a11 ?l11 ?c11 ?k11 ?a12 ?l12 ?c12 ?k12 ?a13 ?l13 ?c13 ?k13 ?a14 ?l14 ?c14 ?k14 ?z_abs ?z_bool ?z_enumerate ?z_int ?z_isinstance ?z_len ?z_list ?z_max ?z_min ?z_range ?z_reversed ?z_set ?z_sorted ?z_tuple
    (case a0 => k_is)
    (case l0 => k_is)
    (case c0 => k_is)
    (case k0 => k_is)
    (case a1 => k_is)
    (case l1 => k_is)
    (case c1 => k_is)
    (case k1 => k_is)
    (case a2 => k_is)
    (case l2 => k_is)
    (case c2 => k_is)
    (case k2 => k_is)
    (case a3 => k_is)
    (case l3 => k_is)
    (case c3 => k_is)
    (case k3 => k_is)
    (case a4 => k_is)
    (case l4 => k_is)
    (case c4 => k_is)
    (case k4 => k_is)
    (case a5 => k_is)
    (case l5 => k_is)
    (case c5 => k_is)
    (case k5 => k_is)
    (case a6 => k_is)
    (case l6 => k_is)
    (case c6 => k_is)
    (case k6 => k_is)
    (case a7 => k_is)
    (case l7 => k_is)
    (case c7 => k_is)
    (case k7 => k_is)
    (case a8 => k_is)
    (case l8 => k_is)
    (case c8 => k_is)
    (case k8 => k_is)
    (case a9 => k_is)
    (case l9 => k_is)
    (case c9 => k_is)
    (case k9 => k_is)
    (case a10 => k_is)
    (case l10 => k_is)
    (case c10 => k_is)
    (case k10 => k_is)
    (case a11 => k_is)
    (case l11 => k_is)
    (case c11 => k_is)
    (case k11 => k_is)
    (case a12 => k_is)
    (case l12 => k_is)
    (case c12 => k_is)
    (case k12 => k_is)
    (case a13 => k_is)
    (case l13 => k_is)
    (case c13 => k_is)
    (case k13 => k_is)
    (case a14 => k_is)
    (case l14 => k_is)
    (case c14 => k_is)
    (case k14 => k_is)
    (case z_abs => k_is)
    (case z_bool => k_is)
    (case z_enumerate => k_is)
    (case z_int => k_is)
    (case z_isinstance => k_is)
    (case z_len => k_is)
    (case z_list => k_is)
    (case z_max => k_is)
    (case z_min => k_is)
    (case z_range => k_is)
    (case z_reversed => k_is)
    (case z_set => k_is)
    (case z_sorted => k_is)
    (case z_tuple => k_is)
