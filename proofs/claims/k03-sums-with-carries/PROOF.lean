import PyProof.Rows.All
import Wide.All
import OpenK.AllK
import Wide.FinOn
import HandS.ForMost
import HandS.Exc
import HandS.ExcOwn
import HandS.TryOnly
import HandS.WordsExc
import HandS.Lambda
import HandS.AnyAll
import HandS.TupAny
import HandS.Style
import KE.DataCmp
import KE.SortData
import KE.GoesMore
import KE.KRevSl
import PyProof.SliceStr2
import HandS.More
import HandS.ListItems
import HandS.DictComp
import HandS.Keys
import HandS.DictTup
import HandS.SortOrd
import HandS.SortRule
import KE.KStateDown
import HandS.Head0
import HandS.Head1
import HandS.Head2
import HandS.HeadHook1
import HandS.HeadHook2
import HandS.HeadHook3
import HandS.HeadHook4
import HandS.EndTab
import HandS.HeadWalk
import HandS.Zip
import HandS.CallLocal
import PySem.Challenge.RW_abacusstack_k03_sums_with_carries
set_option Elab.async false
set_option linter.all false
set_option maxRecDepth 100000
set_option maxHeartbeats 0
/-! Deep WP: a layer over the hand layer. Dv: values as data; Rp: how the heap bears them; Md, Tr: what a step keeps; Ew, Aw, Tw, Sw, Gw, Iw: readings, told over data. -/
namespace Dw
open PySem L2

inductive Dv where
  | non | bl (b : Bool) | int (i : Int) | str (x : Str) | adr (a : Addr)
  | lst (ds : List Dv) | tup (ds : List Dv) | mov (r : Int) (f : Str) (m : Int)

/-- the world: the written part, the class Move, the tables of generator expressions, of lambdas -/
structure Wd where
  K : PySem.W.Frag
  CM : Addr
  TG : List Addr
  TL : List (Addr × Str)

def movF (r : Int) (f : Str) (m : Int) : List (Str × V) := putF "many" (.int m) (putF "side" (.str f) (putF "rod" (.int r) []))

mutual
inductive Rp (W : Wd) (G : Hp) : Dv → V → Prop
  | non : Rp W G .non .non
  | bl (b : Bool) : Rp W G (.bl b) (.bl b)
  | int (i : Int) : Rp W G (.int i) (.int i)
  | str (x : Str) : Rp W G (.str x) (.str x)
  | adr (a : Addr) : Rp W G (.adr a) (.ref a)
  | lst {a : Addr} {xs : List V} {ds : List Dv} : G a = some (.lst xs) → RpA W G ds xs → Rp W G (.lst ds) (.ref a)
  | tup {a : Addr} {xs : List V} {ds : List Dv} : SqT W.K G a xs → RpA W G ds xs → Rp W G (.tup ds) (.ref a)
  | mov {a dx : Addr} {r : Int} {f : Str} {m : Int} : G a = some (.ins W.CM dx (movF r f m)) → Rp W G (.mov r f m) (.ref a)
inductive RpA (W : Wd) (G : Hp) : List Dv → List V → Prop
  | nil : RpA W G [] []
  | cons {d : Dv} {v : V} {ds : List Dv} {vs : List V} : Rp W G d v → RpA W G ds vs → RpA W G (d :: ds) (v :: vs)
end

def nT (o : HO) : Prop := ∀ ps, o ≠ .tbl ps
/-- all of G stands in G', tables aside -/
def Lq (G G' : Hp) : Prop := ∀ a o, G a = some o → nT o → G' a = some o
theorem Lq.sqT {W : Wd} {G G' : Hp} (l : Lq G G') {a : Addr} {xs : List V} (h : SqT W.K G a xs) : SqT W.K G' a xs := by
  rcases h with (h | ⟨o, h⟩) | h
  · exact .inl (.inl (l _ _ h fun _ z => by cases z))
  · exact .inl (.inr ⟨o, l _ _ h fun _ z => by cases z⟩)
  · exact .inr h
mutual
theorem Rp.lq {W : Wd} {G G' : Hp} (l : Lq G G') : ∀ {d : Dv} {v : V}, Rp W G d v → Rp W G' d v
  | _, _, .non => .non
  | _, _, .bl b => .bl b
  | _, _, .int i => .int i
  | _, _, .str x => .str x
  | _, _, .adr a => .adr a
  | _, _, .lst h r => .lst (l _ _ h fun _ z => by cases z) (RpA.lq l r)
  | _, _, .tup h r => .tup (l.sqT h) (RpA.lq l r)
  | _, _, .mov h => .mov (l _ _ h fun _ z => by cases z)
theorem RpA.lq {W : Wd} {G G' : Hp} (l : Lq G G') : ∀ {ds : List Dv} {vs : List V}, RpA W G ds vs → RpA W G' ds vs
  | _, _, .nil => .nil
  | _, _, .cons h r => .cons (Rp.lq l h) (RpA.lq l r)
end
theorem RpA.length {W : Wd} {G : Hp} : ∀ {ds : List Dv} {vs : List V}, RpA W G ds vs → ds.length = vs.length
  | _, _, .nil => rfl
  | _, _, .cons _ r => congrArg (· + 1) r.length
theorem RpA.get {W : Wd} {G : Hp} : ∀ {ds : List Dv} {vs : List V} {i : Nat} {d : Dv}, RpA W G ds vs → ds[i]? = some d → ∃ v, vs[i]? = some v ∧ Rp W G d v
  | _, _, _, _, .nil, e => by simp at e
  | _, _, 0, _, .cons h _, e => by simp at e; subst e; exact ⟨_, rfl, h⟩
  | _, _, i + 1, d, .cons _ r, e => by
    obtain ⟨v, h1, h2⟩ := RpA.get (i := i) (d := d) r (by simpa using e)
    exact ⟨v, by simpa using h1, h2⟩
theorem RpA.getV {W : Wd} {G : Hp} : ∀ {ds : List Dv} {vs : List V} {i : Nat} {v : V}, RpA W G ds vs → vs[i]? = some v → ∃ d, ds[i]? = some d ∧ Rp W G d v
  | _, _, _, _, .nil, e => by simp at e
  | _, _, 0, _, .cons h _, e => by simp at e; subst e; exact ⟨_, rfl, h⟩
  | _, _, i + 1, v, .cons _ r, e => by
    obtain ⟨d, h1, h2⟩ := RpA.getV (i := i) (v := v) r (by simpa using e)
    exact ⟨d, by simpa using h1, h2⟩
theorem RpA.append {W : Wd} {G : Hp} : ∀ {ds es : List Dv} {vs ws : List V}, RpA W G ds vs → RpA W G es ws → RpA W G (ds ++ es) (vs ++ ws)
  | _, _, _, _, .nil, s => s
  | _, _, _, _, .cons h r, s => .cons h (RpA.append r s)
theorem RpA.snoc {W : Wd} {G : Hp} {ds : List Dv} {vs : List V} {d : Dv} {v : V} (r : RpA W G ds vs) (h : Rp W G d v) : RpA W G (ds ++ [d]) (vs ++ [v]) := r.append (.cons h .nil)
theorem RpA.set {W : Wd} {G : Hp} {d : Dv} {v : V} (h : Rp W G d v) : ∀ {ds : List Dv} {vs : List V} (i : Nat), RpA W G ds vs → RpA W G (ds.set i d) (vs.set i v)
  | _, _, _, .nil => .nil
  | _, _, 0, .cons _ r => .cons h r
  | _, _, i + 1, .cons q r => .cons q (RpA.set h i r)
theorem RpA.take {W : Wd} {G : Hp} : ∀ {ds : List Dv} {vs : List V} (n : Nat), RpA W G ds vs → RpA W G (ds.take n) (vs.take n)
  | _, _, 0, _ => .nil
  | _, _, _ + 1, .nil => .nil
  | _, _, n + 1, .cons h r => .cons h (RpA.take n r)
theorem RpA.drop {W : Wd} {G : Hp} : ∀ {ds : List Dv} {vs : List V} (n : Nat), RpA W G ds vs → RpA W G (ds.drop n) (vs.drop n)
  | _, _, 0, r => r
  | _, _, _ + 1, .nil => .nil
  | _, _, n + 1, .cons _ r => RpA.drop n r
theorem RpA.replicate {W : Wd} {G : Hp} : ∀ {ds : List Dv} {vs : List V} (n : Nat), RpA W G ds vs → RpA W G (List.replicate n ds).flatten (List.replicate n vs).flatten
  | _, _, 0, _ => .nil
  | _, _, n + 1, r => by
    rw [List.replicate_succ, List.replicate_succ, List.flatten_cons, List.flatten_cons]
    exact r.append (RpA.replicate n r)
theorem RpA.reverse {W : Wd} {G : Hp} : ∀ {ds : List Dv} {vs : List V}, RpA W G ds vs → RpA W G ds.reverse vs.reverse
  | _, _, .nil => .nil
  | _, _, .cons h r => by
    rw [List.reverse_cons, List.reverse_cons]
    exact (RpA.reverse r).snoc h
theorem RpA.strs {W : Wd} {G : Hp} : ∀ {ys : List Str} {vs : List V}, RpA W G (ys.map Dv.str) vs → vs = ys.map V.str
  | [], _, .nil => rfl
  | y :: ys, _, .cons h r => by
    cases h
    rw [RpA.strs r]
    rfl
theorem RpA.ints {W : Wd} {G : Hp} : ∀ {ys : List Int} {vs : List V}, RpA W G (ys.map Dv.int) vs → vs = ys.map V.int
  | [], _, .nil => rfl
  | y :: ys, _, .cons h r => by
    cases h
    rw [RpA.ints r]
    rfl

/-! ### heaps without the changing ones -/
def off (S : List Addr) (H : Hp) : Hp := fun a => if a ∈ S then none else H a
theorem off_of {S : List Addr} {H : Hp} {a : Addr} {o : HO} (h : H a = some o) (n : a ∉ S) : off S H a = some o := by
  unfold off
  rw [if_neg n]
  exact h
theorem of_off {S : List Addr} {H : Hp} {a : Addr} {o : HO} (h : off S H a = some o) : H a = some o ∧ a ∉ S := by
  unfold off at h
  by_cases n : a ∈ S
  · rw [if_pos n] at h
    cases h
  · rw [if_neg n] at h
    exact ⟨h, n⟩
theorem off_lq (S : List Addr) (H : Hp) : Lq (off S H) H := fun a o h _ => (of_off h).1

/-- H' keeps all of H but what S names (tables may grow) -/
structure Md (W : Wd) (S : List Addr) (H H' : Hp) : Prop where
  keep : ∀ b o, H b = some o → b ∉ S → nT o → H' b = some o
  dom : ∀ b o, H b = some o → ∃ o', H' b = some o'
  tg : ∀ P ∈ W.TG, GxR.TabG H P → GxR.TabG H' P
  tl : ∀ p ∈ W.TL, LamX.TabS H p.1 p.2 → LamX.TabS H' p.1 p.2
  xt : ∀ b φ, H b = some (.ext φ) → H' b = some (.ext φ)
section
variable {W : Wd} {S S' S1 S2 : List Addr} {H H' H1 H2 : Hp}
theorem Md.refl : Md W S H H := ⟨fun _ _ h _ _ => h, fun _ o h => ⟨o, h⟩, fun _ _ h => h, fun _ _ h => h, fun _ _ h => h⟩
theorem Md.trans (a : Md W S H H1) (b : Md W S H1 H2) : Md W S H H2 :=
  ⟨fun c o h n t => b.keep c o (a.keep c o h n t) n t, fun c o h => let ⟨o1, h1⟩ := a.dom c o h; b.dom c o1 h1, fun P hP h => b.tg P hP (a.tg P hP h), fun p hp h => b.tl p hp (a.tl p hp h), fun c φ h => b.xt c φ (a.xt c φ h)⟩
theorem Md.mono (a : Md W S H H1) (h : ∀ x ∈ S, x ∈ S') : Md W S' H H1 := ⟨fun c o q n t => a.keep c o q (fun z => n (h c z)) t, a.dom, a.tg, a.tl, a.xt⟩
theorem Md.up (a : Md W [] H H1) : Md W S H H1 := a.mono fun _ z => nomatch z
theorem Md.at (a : Md W [] H H1) {b : Addr} {o : HO} (h : H b = some o) (n : nT o := by intro _ z; cases z) : H1 b = some o := a.keep b o h (fun z => nomatch z) n
theorem Md.free (a : Md W S H H1) {b : Addr} (h : H1 b = none) : H b = none := by
  cases q : H b with
  | none => rfl
  | some o =>
    obtain ⟨o', e⟩ := a.dom b o q
    rw [h] at e
    cases e
theorem Md.ext (h : ∀ b o, H b = some o → H' b = some o) : Md W S H H' :=
  ⟨fun b o e _ _ => h b o e, fun b o e => ⟨o, h b o e⟩, fun P _ ⟨ps, e, t⟩ => ⟨ps, h _ _ e, t⟩, fun p _ t => t.ext h, fun b φ e => h b _ e⟩
theorem Md.new {p : Addr} {o : HO} (h : H p = none) : Md W S H (upd H p o) := Md.ext fun b u e => by rw [upd_ne (ne_of_none e h)]; exact e
/-- of the kinds that change -/
def isM : HO → Bool
  | .lst _ => true
  | .dK _ => true
  | .dT _ => true
  | .ins _ _ _ => true
  | .frz _ _ => true
  | _ => false
theorem Md.upd {a : Addr} {o o' : HO} (h : H a = some o) (m : isM o = true) (hs : a ∈ S) : Md W S H (upd H a o') := by
  have ne : ∀ b ps, H b = some (.tbl ps) → b ≠ a := fun b ps e z => by
    rw [z, h] at e
    cases e
    cases m
  have nc : ∀ b q, H b = some (LamX.CodeO b q) → b ≠ a := fun b q e z => by
    rw [z, h] at e
    cases e
    cases m
  refine ⟨fun b u e n _ => ?_, fun b u e => ?_, fun P _ ⟨ps, e, t⟩ => ⟨ps, ?_, t⟩, fun p _ ⟨ps, e, t, k⟩ => ⟨ps, ?_, t, fun pos cv hc => ?_⟩, fun b φ e => ?_⟩
  · rw [upd_ne fun z => n (by rw [z]; exact hs)]
    exact e
  · by_cases hb : b = a
    · rw [hb]
      exact ⟨_, upd_same⟩
    · exact ⟨u, by rw [upd_ne hb]; exact e⟩
  · rw [upd_ne (ne _ _ e)]
    exact e
  · rw [upd_ne (ne _ _ e)]
    exact e
  · obtain ⟨c, e1, e2⟩ := k pos cv hc
    exact ⟨c, e1, by rw [upd_ne (nc _ _ e2)]; exact e2⟩
  · rw [upd_ne fun z => by rw [z, h] at e; cases e; cases m]
    exact e
/-- a step: S may change, S' from now on -/
structure Tr (W : Wd) (S : List Addr) (H : Hp) (S' : List Addr) (H' : Hp) : Prop where
  md : Md W S H H'
  sub : ∀ a ∈ S, a ∈ S'
  new : ∀ a ∈ S', a ∈ S ∨ H a = none
  dom : ∀ a ∈ S', ∃ o, H' a = some o
theorem Tr.refl (d : ∀ a ∈ S, ∃ o, H a = some o) : Tr W S H S H := ⟨.refl, fun _ h => h, fun _ h => .inl h, d⟩
theorem Tr.trans (a : Tr W S H S1 H1) (b : Tr W S1 H1 S2 H2) : Tr W S H S2 H2 := by
  refine ⟨⟨fun c o h n t => ?_, fun c o h => ?_, fun P hP h => b.md.tg P hP (a.md.tg P hP h), fun p hp h => b.md.tl p hp (a.md.tl p hp h), fun c φ h => b.md.xt c φ (a.md.xt c φ h)⟩, fun x hx => b.sub x (a.sub x hx), fun x hx => ?_, b.dom⟩
  · refine b.md.keep c o (a.md.keep c o h n t) (fun z => ?_) t
    rcases a.new c z with z | z
    · exact n z
    · rw [h] at z
      cases z
  · obtain ⟨o1, h1⟩ := a.md.dom c o h
    exact b.md.dom c o1 h1
  · rcases b.new x hx with z | z
    · exact a.new x z
    · exact .inr (a.md.free z)
theorem Tr.md1 (d : ∀ a ∈ S, ∃ o, H a = some o) (m : Md W S H H1) : Tr W S H S H1 := ⟨m, fun _ h => h, fun _ h => .inl h, fun a ha => let ⟨o, h⟩ := d a ha; m.dom a o h⟩
theorem Tr.lq (a : Tr W S H S1 H1) : Lq (off S H) (off S1 H1) := fun x o h t => by
  obtain ⟨h, n⟩ := of_off h
  refine off_of (a.md.keep x o h n t) fun z => ?_
  rcases a.new x z with z | z
  · exact n z
  · rw [h] at z
    cases z
theorem Tr.rp {d : Dv} {v : V} (a : Tr W S H S1 H1) (r : Rp W (off S H) d v) : Rp W (off S1 H1) d v := r.lq a.lq
theorem Tr.rpA {ds : List Dv} {vs : List V} (a : Tr W S H S1 H1) (r : RpA W (off S H) ds vs) : RpA W (off S1 H1) ds vs := r.lq a.lq
end

/-! ### the slots -/
abbrev Dn := List (Option Dv)
inductive EnvOk (W : Wd) (G : Hp) : Dn → L2.St → Prop
  | nil : EnvOk W G [] []
  | skip {x : Option V} {δ : Dn} {σ : L2.St} : EnvOk W G δ σ → EnvOk W G (none :: δ) (x :: σ)
  | cons {d : Dv} {v : V} {δ : Dn} {σ : L2.St} : Rp W G d v → EnvOk W G δ σ → EnvOk W G (some d :: δ) (some v :: σ)
section
variable {W : Wd} {G G' : Hp}
theorem EnvOk.lq (l : Lq G G') {δ : Dn} {σ : L2.St} (e : EnvOk W G δ σ) : EnvOk W G' δ σ := by
  induction e with
  | nil => exact .nil
  | skip _ ih => exact .skip ih
  | cons h _ ih => exact .cons (h.lq l) ih
theorem EnvOk.get : ∀ {δ : Dn} {σ : L2.St} {i : Nat} {d : Dv}, EnvOk W G δ σ → δ[i]? = some (some d) → ∃ v, σ[i]? = some (some v) ∧ Rp W G d v
  | _, _, _, _, .nil, e => by simp at e
  | _, _, 0, _, .skip _, e => by simp at e
  | _, _, 0, _, .cons h _, e => by simp at e; subst e; exact ⟨_, rfl, h⟩
  | _, _, i + 1, d, .skip r, e => by
    obtain ⟨v, h1, h2⟩ := EnvOk.get (i := i) (d := d) r (by simpa using e)
    exact ⟨v, by simpa using h1, h2⟩
  | _, _, i + 1, d, .cons _ r, e => by
    obtain ⟨v, h1, h2⟩ := EnvOk.get (i := i) (d := d) r (by simpa using e)
    exact ⟨v, by simpa using h1, h2⟩
theorem EnvOk.set {d : Dv} {v : V} (h : Rp W G d v) : ∀ {δ : Dn} {σ : L2.St} (i : Nat), EnvOk W G δ σ → EnvOk W G (δ.set i (some d)) (σ.set i (some v))
  | _, _, _, .nil => .nil
  | _, _, 0, .skip r => .cons h r
  | _, _, 0, .cons _ r => .cons h r
  | _, _, i + 1, .skip r => .skip (EnvOk.set h i r)
  | _, _, i + 1, .cons q r => .cons q (EnvOk.set h i r)
theorem EnvOk.forget {x : Option V} : ∀ {δ : Dn} {σ : L2.St} (i : Nat), EnvOk W G δ σ → EnvOk W G (δ.set i none) (σ.set i x)
  | _, _, _, .nil => .nil
  | _, _, 0, .skip r => .skip r
  | _, _, 0, .cons _ r => .skip r
  | _, _, i + 1, .skip r => .skip (EnvOk.forget i r)
  | _, _, i + 1, .cons q r => .cons q (EnvOk.forget i r)
def wipeD (δ : Dn) : List Nat → Dn
  | [] => δ
  | v :: vs => (wipeD δ vs).set v none
theorem EnvOk.wipe {δ : Dn} {σ : L2.St} (e : EnvOk W G δ σ) : ∀ vs : List Nat, EnvOk W G (wipeD δ vs) (wipe σ vs)
  | [] => e
  | v :: vs => (EnvOk.wipe e vs).forget v
theorem EnvOk.args : ∀ {ds : List Dv} {vs : List V} (n : Nat), RpA W G ds vs → EnvOk W G (ds.map some ++ List.replicate n none) (vs.map some ++ List.replicate n none)
  | _, _, 0, .nil => .nil
  | _, _, n + 1, .nil => .skip (EnvOk.args n .nil)
  | _, _, n, .cons h r => .cons h (EnvOk.args n r)
end
/-- the state is as the data tell -/
structure Cn (W : Wd) (S : List Addr) (δ : Dn) (σ : L2.St) (H : Hp) : Prop where
  dom : ∀ a ∈ S, ∃ o, H a = some o
  tg : ∀ P ∈ W.TG, GxR.TabG H P
  tl : ∀ p ∈ W.TL, LamX.TabS H p.1 p.2
  env : EnvOk W (off S H) δ σ
section
variable {W : Wd} {S S' S1 : List Addr} {H H' H1 : Hp} {δ δ' : Dn} {σ σ' : L2.St}
theorem Cn.tr (c : Cn W S δ σ H) (t : Tr W S H S1 H1) : Cn W S1 δ σ H1 := ⟨t.dom, fun P hP => t.md.tg P hP (c.tg P hP), fun p hp => t.md.tl p hp (c.tl p hp), c.env.lq t.lq⟩
theorem Cn.to (c : Cn W S δ σ H) (e : EnvOk W (off S H) δ' σ') : Cn W S δ' σ' H := ⟨c.dom, c.tg, c.tl, e⟩
theorem Cn.nil (c : Cn W S δ σ H) : Cn W S [] [] H := c.to .nil
theorem Cn.md (c : Cn W S δ σ H) (m : Md W [] H H1) : Tr W S H S H1 := Tr.md1 c.dom m.up
theorem Cn.set (c : Cn W S δ σ H) {d : Dv} {v : V} (i : Nat) (r : Rp W (off S H) d v) : Cn W S (δ.set i (some d)) (σ.set i (some v)) H := c.to (c.env.set r i)
end

/-! ### the judgements -/
abbrev Ph := Dv → List Addr → Hp → Prop
abbrev PhA := List Dv → List Addr → Hp → Prop
abbrev PhB := Bool → List Addr → Hp → Prop
abbrev PhN := Dn → List Addr → Hp → Prop
abbrev Px := Value → List Addr → Hp → Prop
/-- an exception that is wished for -/
def Xo (W : Wd) (E : XK) (S : List Addr) (H : Hp) (X : Px) : Prop := ∀ cls S' H' H2, X cls S' H' → Md W [] H' H2 → Tr W S H S' H2 → Cn W S' [] [] H2 → E cls none H2
def Vo (W : Wd) (S : List Addr) (H : Hp) (Φ : Ph) (Q : VK) : Prop := ∀ v d S' H' H2, Φ d S' H' → Md W [] H' H2 → Tr W S H S' H2 → Cn W S' [] [] H2 → Rp W (off S' H2) d v → Q v H2
def Ao (W : Wd) (S : List Addr) (H : Hp) (Φ : PhA) (Q : List V → Hp → Prop) : Prop := ∀ vs ds S' H' H2, Φ ds S' H' → Md W [] H' H2 → Tr W S H S' H2 → Cn W S' [] [] H2 → RpA W (off S' H2) ds vs → Q vs H2
def Bo (W : Wd) (S : List Addr) (H : Hp) (Φ : PhB) (Q : Bool → Hp → Prop) : Prop := ∀ b S' H' H2, Φ b S' H' → Md W [] H' H2 → Tr W S H S' H2 → Cn W S' [] [] H2 → Q b H2
def No (W : Wd) (S : List Addr) (H : Hp) (Φ : PhN) (Q : L2.St → Hp → Prop) : Prop := ∀ σ δ S' H' H2, Φ δ S' H' → Md W [] H' H2 → Tr W S H S' H2 → Cn W S' δ σ H2 → Q σ H2
section
variable {W : Wd} {S S1 : List Addr} {H H1 : Hp} {E : XK} {X : Px} {Φ : Ph} {Q : VK}
theorem Xo.tr (o : Xo W E S H X) (t : Tr W S H S1 H1) : Xo W E S1 H1 X := fun cls S' H' H2 x m t' c => o cls S' H' H2 x m (t.trans t') c
theorem Vo.tr (o : Vo W S H Φ Q) (t : Tr W S H S1 H1) : Vo W S1 H1 Φ Q := fun v d S' H' H2 x m t' c r => o v d S' H' H2 x m (t.trans t') c r
theorem Ao.tr {Φ : PhA} {Q : List V → Hp → Prop} (o : Ao W S H Φ Q) (t : Tr W S H S1 H1) : Ao W S1 H1 Φ Q := fun v d S' H' H2 x m t' c r => o v d S' H' H2 x m (t.trans t') c r
theorem Bo.tr {Φ : PhB} {Q : Bool → Hp → Prop} (o : Bo W S H Φ Q) (t : Tr W S H S1 H1) : Bo W S1 H1 Φ Q := fun b S' H' H2 x m t' c => o b S' H' H2 x m (t.trans t') c
theorem No.tr {Φ : PhN} {Q : L2.St → Hp → Prop} (o : No W S H Φ Q) (t : Tr W S H S1 H1) : No W S1 H1 Φ Q := fun σ δ S' H' H2 x m t' c => o σ δ S' H' H2 x m (t.trans t') c
end
def Ew (W : Wd) (E : XK) (te : TE) (δ : Dn) (S : List Addr) (H : Hp) (Φ : Ph) (X : Px) : Prop := ∀ (σ : L2.St) (H1 : Hp) (Q : VK), Md W [] H H1 → Cn W S δ σ H1 → Vo W S H1 Φ Q → Xo W E S H1 X → te σ H1 Q
def Aw (W : Wd) (E : XK) (ta : TA) (δ : Dn) (S : List Addr) (H : Hp) (Φ : PhA) (X : Px) : Prop := ∀ (σ : L2.St) (H1 : Hp) (Q : List V → Hp → Prop), Md W [] H H1 → Cn W S δ σ H1 → Ao W S H1 Φ Q → Xo W E S H1 X → ta σ H1 Q
def Tw (W : Wd) (E : XK) (tt : TT) (δ : Dn) (S : List Addr) (H : Hp) (Φ : PhB) (X : Px) : Prop := ∀ (σ : L2.St) (H1 : Hp) (Q : Bool → Hp → Prop), Md W [] H H1 → Cn W S δ σ H1 → Bo W S H1 Φ Q → Xo W E S H1 X → tt σ H1 Q
def Gw (W : Wd) (g : TG) (d : Dv) (δ : Dn) (S : List Addr) (H : Hp) (Φ : PhN) : Prop := ∀ (σ : L2.St) (H1 : Hp) (v : V) (Q : L2.St → Hp → Prop), Md W [] H H1 → Cn W S δ σ H1 → Rp W (off S H1) d v → No W S H1 Φ Q → g v σ H1 Q
def GwA (W : Wd) (g : TGs) (ds : List Dv) (δ : Dn) (S : List Addr) (H : Hp) (Φ : PhN) : Prop := ∀ (σ : L2.St) (H1 : Hp) (vs : List V) (Q : L2.St → Hp → Prop), Md W [] H H1 → Cn W S δ σ H1 → RpA W (off S H1) ds vs → No W S H1 Φ Q → g vs σ H1 Q
/-- what is wanted behind a statement -/
structure Ks where
  nx : PhN
  rt : Ph
  bk : PhN := fun _ _ _ => False
  ct : PhN := fun _ _ _ => False
structure So (W : Wd) (E : XK) (S : List Addr) (H : Hp) (k : Ks) (X : Px) (De : Ends) : Prop where
  nx : No W S H k.nx De.nx
  rt : Vo W S H k.rt De.rt
  bk : No W S H k.bk De.bk
  ct : No W S H k.ct De.ct
  ex : Xo W E S H X
theorem So.tr {W : Wd} {E : XK} {S S1 : List Addr} {H H1 : Hp} {k : Ks} {X : Px} {De : Ends} (o : So W E S H k X De) (t : Tr W S H S1 H1) : So W E S1 H1 k X De := ⟨o.nx.tr t, o.rt.tr t, o.bk.tr t, o.ct.tr t, o.ex.tr t⟩
def Sw (W : Wd) (E : XK) (t : TS) (δ : Dn) (S : List Addr) (H : Hp) (k : Ks) (X : Px) : Prop := ∀ (σ : L2.St) (H1 : Hp) (De : Ends), Md W [] H H1 → Cn W S δ σ H1 → So W E S H1 k X De → t De σ H1
/-- an iterator that gives these data while st holds -/
def Wk (W : Wd) (J : It) (ds : List Dv) (st : List Addr → Hp → Prop) (S0 : List Addr) (H0 : Hp) : Prop :=
  ∀ (i : Nat) (S : List Addr) (H' H : Hp), Tr W S0 H0 S H → Cn W S [] [] H → st S H' → Md W [] H' H →
    (∀ d, ds[i]? = some d → J.go i H ∧ ∀ x H2, J.yld i H x H2 → Md W [] H H2 ∧ Rp W (off S H2) d x) ∧ (ds.length ≤ i → J.stop i H)
abbrev PhI := List Dv → (List Addr → Hp → Prop) → List Addr → Hp → Prop
def Iw (W : Wd) (E : XK) (wi : TI) (δ : Dn) (S : List Addr) (H : Hp) (Φ : PhI) (X : Px) : Prop := ∀ (σ : L2.St) (H1 : Hp) (R : It → Hp → Prop), Md W [] H H1 → Cn W S δ σ H1 →
  (∀ J ds st S' H' H2, Φ ds st S' H' → Md W [] H' H2 → Tr W S H1 S' H2 → Wk W J ds st S' H2 → R J H2) → Xo W E S H1 X → wi σ H1 R

section
variable {W : Wd} {E : XK} {te ta tb tc : TE} {tt tu : TT} {δ : Dn} {S : List Addr} {H : Hp} {Φ : Ph} {X : Px} {d x y : Dv}
theorem Ew.mono {Φ' : Ph} {X' : Px} (h : Ew W E te δ S H Φ X) (f : ∀ d S' H', Φ d S' H' → Φ' d S' H') (g : ∀ c S' H', X c S' H' → X' c S' H') : Ew W E te δ S H Φ' X' := fun σ H1 Q m c o x =>
  h σ H1 Q m c (fun v d S' H' H2 p => o v d S' H' H2 (f _ _ _ p)) fun cl S' H' H2 p => x cl S' H' H2 (g _ _ _ p)
/-- a value, nothing changed -/
abbrev EvD (W : Wd) (E : XK) (te : TE) (δ : Dn) (S : List Addr) (H : Hp) (d : Dv) : Prop := ∀ (Φ : Ph) (X : Px), Φ d S H → Ew W E te δ S H Φ X
abbrev EvT (W : Wd) (E : XK) (tt : TT) (δ : Dn) (S : List Addr) (H : Hp) (b : Bool) : Prop := ∀ (Φ : PhB) (X : Px), Φ b S H → Tw W E tt δ S H Φ X

/-! ### names, constants -/
theorem ew_var {i : Nat} (h : δ[i]? = some (some d)) (q : Φ d S H) : Ew W E (tVar i) δ S H Φ X := fun σ H1 Q m c o _ => by
  obtain ⟨v, e, r⟩ := c.env.get h
  exact ⟨v, e, o v d S H H1 q m (Tr.refl c.dom) c.nil r⟩
theorem ew_c {v : V} (r : ∀ G, Rp W G d v) (q : Φ d S H) : Ew W E (tC v) δ S H Φ X := fun σ H1 Q m c o _ => o v d S H H1 q m (Tr.refl c.dom) c.nil (r _)
theorem ew_int {i : Int} (q : Φ (.int i) S H) : Ew W E (tC (.int i)) δ S H Φ X := ew_c (fun _ => .int i) q
theorem ew_str {x : Str} (q : Φ (.str x) S H) : Ew W E (tC (.str x)) δ S H Φ X := ew_c (fun _ => .str x) q
theorem ew_bl {b : Bool} (q : Φ (.bl b) S H) : Ew W E (tC (.bl b)) δ S H Φ X := ew_c (fun _ => .bl b) q
theorem ew_non (q : Φ .non S H) : Ew W E (tC .non) δ S H Φ X := ew_c (fun _ => .non) q
theorem ew_ref {a : Addr} (q : Φ (.adr a) S H) : Ew W E (tC (.ref a)) δ S H Φ X := ew_c (fun _ => .adr a) q

/-! ### operators -/
/-- an operator on values, told over data -/
def OpD (W : Wd) (r : R2) (B : Dv → Dv → Ph → List Addr → Hp → Prop) : Prop := ∀ (x y : Dv) (v u : V) (Φ : Ph) (S : List Addr) (H H1 : Hp) (Q : VK), Md W [] H H1 → Cn W S [] [] H1 → Rp W (off S H1) x v → Rp W (off S H1) y u → B x y Φ S H → Vo W S H1 Φ Q → r v u H1 Q
theorem ew_op {r : R2} {B : Dv → Dv → Ph → List Addr → Hp → Prop} (hr : OpD W r B) (h : Ew W E ta δ S H (fun x S1 H1 => Ew W E tb δ S1 H1 (fun y S2 H2 => B x y Φ S2 H2) X) X) : Ew W E (tOp r ta tb) δ S H Φ X := fun σ H1 Q m c o ex => by
  refine h σ H1 _ m c (fun v x S1 G1 H2 hx m1 t1 c1 r1 => ?_) ex
  refine hx σ H2 _ m1 (c.tr t1) (fun u y S2 G2 H3 hy m2 t2 c2 r2 => ?_) (ex.tr t1)
  exact hr x y v u Φ S2 G2 H3 Q m2 c2 (t2.rp r1) r2 hy (o.tr (t1.trans t2))
/-- a one-place operation, a call by values -/
def UnD (W : Wd) (r : V → Hp → VK → Prop) (B : Dv → Ph → List Addr → Hp → Prop) : Prop := ∀ (x : Dv) (v : V) (Φ : Ph) (S : List Addr) (H H1 : Hp) (Q : VK), Md W [] H H1 → Cn W S [] [] H1 → Rp W (off S H1) x v → B x Φ S H → Vo W S H1 Φ Q → r v H1 Q
theorem ew_un {r : V → Hp → VK → Prop} {B : Dv → Ph → List Addr → Hp → Prop} (hr : UnD W r B) (h : Ew W E ta δ S H (fun x S1 H1 => B x Φ S1 H1) X) : Ew W E (tUn r ta) δ S H Φ X := fun σ H1 Q m c o ex =>
  h σ H1 _ m c (fun v x S1 G1 H2 hx m1 t1 c1 r1 => hr x v Φ S1 G1 H2 Q m1 c1 r1 hx (o.tr t1)) ex
def CaD (W : Wd) (r : List V → Hp → VK → Prop) (B : List Dv → Ph → List Addr → Hp → Prop) : Prop := ∀ (xs : List Dv) (vs : List V) (Φ : Ph) (S : List Addr) (H H1 : Hp) (Q : VK), Md W [] H H1 → Cn W S [] [] H1 → RpA W (off S H1) xs vs → B xs Φ S H → Vo W S H1 Φ Q → r vs H1 Q
theorem ew_cb {r : List V → Hp → VK → Prop} {B : List Dv → Ph → List Addr → Hp → Prop} {t : TA} (hr : CaD W r B) (h : Aw W E t δ S H (fun xs S1 H1 => B xs Φ S1 H1) X) : Ew W E (tCB r t) δ S H Φ X := fun σ H1 Q m c o ex =>
  h σ H1 _ m c (fun vs xs S1 G1 H2 hx m1 t1 c1 r1 => hr xs vs Φ S1 G1 H2 Q m1 c1 r1 hx (o.tr t1)) ex
/-- a built-in's method: the receiver, the arguments -/
def MeD (W : Wd) (r : V → List V → Hp → VK → Prop) (B : Dv → List Dv → Ph → List Addr → Hp → Prop) : Prop := ∀ (x : Dv) (v : V) (xs : List Dv) (vs : List V) (Φ : Ph) (S : List Addr) (H H1 : Hp) (Q : VK), Md W [] H H1 → Cn W S [] [] H1 → Rp W (off S H1) x v → RpA W (off S H1) xs vs → B x xs Φ S H → Vo W S H1 Φ Q → r v vs H1 Q

/-! ### arguments -/
theorem aw_nil {Φ : PhA} (q : Φ [] S H) : Aw W E tNil δ S H Φ X := fun σ H1 Q m c o _ => o [] [] S H H1 q m (Tr.refl c.dom) c.nil .nil
theorem aw_cons {t : TA} {Φ : PhA} (h : Ew W E te δ S H (fun x S1 H1 => Aw W E t δ S1 H1 (fun xs S2 H2 => Φ (x :: xs) S2 H2) X) X) : Aw W E (tCons te t) δ S H Φ X := fun σ H1 Q m c o ex => by
  refine h σ H1 _ m c (fun v x S1 G1 H2 hx m1 t1 c1 r1 => ?_) ex
  refine hx σ H2 _ m1 (c.tr t1) (fun vs xs S2 G2 H3 hy m2 t2 c2 r2 => ?_) (ex.tr t1)
  exact o (v :: vs) (x :: xs) S2 G2 H3 hy m2 (t1.trans t2) c2 (.cons (t2.rp r1) r2)
/-- a new object, told as data -/
theorem Vo.new {Q : VK} {H1 : Hp} {p : Addr} {o : HO} (k : Vo W S H1 Φ Q) (c : Cn W S [] [] H1) (m : Md W [] H H1) (hp : H1 p = none) (hq : Φ d S H) (r : Rp W (off S (upd H1 p o)) d (.ref p)) : Q (.ref p) (upd H1 p o) :=
  k (.ref p) d S H _ hq (m.trans (Md.new hp)) (c.md (Md.new hp)) (c.tr (c.md (Md.new hp))) r
theorem notS {δ : Dn} {σ : L2.St} {H1 : Hp} {p : Addr} (c : Cn W S δ σ H1) (hp : H1 p = none) : p ∉ S := fun z => by
  obtain ⟨o, e⟩ := c.dom p z
  rw [hp] at e
  cases e
theorem new_tup {H1 : Hp} {p : Addr} {xs : List V} {ds : List Dv} (c : Cn W S [] [] H1) (hp : H1 p = none) (r : RpA W (off S H1) ds xs) : Rp W (off S (upd H1 p (.tup xs))) (.tup ds) (.ref p) :=
  .tup (.inl (.inl (off_of upd_same (notS c hp)))) ((c.md (Md.new hp)).rpA r)
theorem new_lst {H1 : Hp} {p : Addr} {xs : List V} {ds : List Dv} (c : Cn W S [] [] H1) (hp : H1 p = none) (r : RpA W (off S H1) ds xs) : Rp W (off S (upd H1 p (.lst xs))) (.lst ds) (.ref p) :=
  .lst (off_of upd_same (notS c hp)) ((c.md (Md.new hp)).rpA r)
theorem ew_tup {t : TA} (h : Aw W E t δ S H (fun xs S1 H1 => xs.length ≤ sizeLine ∧ Φ (.tup xs) S1 H1) X) : Ew W E (tTup t) δ S H Φ X := fun σ H1 Q m c o ex =>
  h σ H1 _ m c (fun vs xs S1 G1 H2 hx m1 t1 c1 r1 => ⟨by rw [← r1.length]; exact hx.1, fun p hp => (o.tr t1).new c1 m1 hp hx.2 (new_tup c1 hp r1)⟩) ex
/-- a list that stays as it is -/
theorem ew_lst {t : TA} (h : Aw W E t δ S H (fun xs S1 H1 => xs.length ≤ sizeLine ∧ Φ (.lst xs) S1 H1) X) : Ew W E (tLst t) δ S H Φ X := fun σ H1 Q m c o ex =>
  h σ H1 _ m c (fun vs xs S1 G1 H2 hx m1 t1 c1 r1 => ⟨by rw [← r1.length]; exact hx.1, fun p hp => (o.tr t1).new c1 m1 hp hx.2 (new_lst c1 hp r1)⟩) ex
/-- a changing list, by what it holds -/
def LstAt (W : Wd) (S : List Addr) (H : Hp) (a : Addr) (ds : List Dv) : Prop := a ∈ S ∧ ∃ xs, H a = some (.lst xs) ∧ RpA W (off S H) ds xs
theorem tr_grow {H1 : Hp} {p : Addr} {o : HO} (c : Cn W S [] [] H1) (hp : H1 p = none) : Tr W S H1 (p :: S) (upd H1 p o) := by
  refine ⟨Md.new hp, fun a ha => List.mem_cons_of_mem _ ha, fun a ha => ?_, fun a ha => ?_⟩
  · rcases List.mem_cons.mp ha with z | z
    · rw [z]
      exact .inr hp
    · exact .inl z
  · rcases List.mem_cons.mp ha with z | z
    · rw [z]
      exact ⟨_, upd_same⟩
    · obtain ⟨u, e⟩ := c.dom a z
      exact ⟨u, by rw [upd_ne (ne_of_none e hp)]; exact e⟩
/-- a list that will change -/
theorem ew_lstM {t : TA} (h : Aw W E t δ S H (fun xs S1 H1 => xs.length ≤ sizeLine ∧ ∀ p H2, Md W [] H1 H2 → H1 p = none → p ∉ S1 → LstAt W (p :: S1) H2 p xs → Φ (.adr p) (p :: S1) H2) X) : Ew W E (tLst t) δ S H Φ X := fun σ H1 Q m c o ex =>
  h σ H1 _ m c (fun vs xs S1 G1 H2 hx m1 t1 c1 r1 => ⟨by rw [← r1.length]; exact hx.1, fun p hp => (o.tr t1) (.ref p) (.adr p) (p :: S1) _ _ (hx.2 p _ (m1.trans (Md.new hp)) (m1.free hp) (notS c1 hp) ⟨List.mem_cons_self, vs, upd_same, (tr_grow c1 hp).rpA r1⟩) .refl (tr_grow c1 hp) (c1.tr (tr_grow c1 hp)) (.adr p)⟩) ex

/-! ### tests -/
theorem tw_test {Φ : PhB} (h : Ew W E te δ S H (fun d S1 H1 => ∃ b, d = .bl b ∧ Φ b S1 H1) X) : Tw W E (tTest te) δ S H Φ X := fun σ H1 Q m c o ex =>
  h σ H1 _ m c (fun v d S1 G1 H2 ⟨b, e, q⟩ m1 t1 c1 r1 => by subst e; cases r1; exact ⟨b, rfl, o b S1 G1 H2 q m1 t1 c1⟩) ex
theorem tw_B {Φ : PhB} (h : Ew W E te δ S H (fun d S1 H1 => ∃ b, d = .bl b ∧ Φ b S1 H1) X) : Tw W E (tB te) δ S H Φ X := fun σ H1 Q m c o ex =>
  h σ H1 _ m c (fun v d S1 G1 H2 ⟨b, e, q⟩ m1 t1 c1 r1 => by subst e; cases r1; exact ⟨b, rfl, o b S1 G1 H2 q m1 t1 c1⟩) ex
theorem tw_and {Φ : PhB} (h : Tw W E tt δ S H (fun b S1 H1 => (b = true → Tw W E tu δ S1 H1 Φ X) ∧ (b = false → Φ false S1 H1)) X) : Tw W E (tAnd tt tu) δ S H Φ X := fun σ H1 Q m c o ex => by
  refine h σ H1 _ m c (fun b S1 G1 H2 q m1 t1 c1 => ?_) ex
  cases b with
  | true => exact iteT (q.1 rfl σ H2 Q m1 (c.tr t1) (o.tr t1) (ex.tr t1))
  | false => exact iteF (o false S1 G1 H2 (q.2 rfl) m1 t1 c1)
theorem tw_or {Φ : PhB} (h : Tw W E tt δ S H (fun b S1 H1 => (b = false → Tw W E tu δ S1 H1 Φ X) ∧ (b = true → Φ true S1 H1)) X) : Tw W E (tOr tt tu) δ S H Φ X := fun σ H1 Q m c o ex => by
  refine h σ H1 _ m c (fun b S1 G1 H2 q m1 t1 c1 => ?_) ex
  cases b with
  | true => exact iteT (o true S1 G1 H2 (q.2 rfl) m1 t1 c1)
  | false => exact iteF (q.1 rfl σ H2 Q m1 (c.tr t1) (o.tr t1) (ex.tr t1))
theorem tw_not {Φ : PhB} (h : Tw W E tt δ S H (fun b S1 H1 => Φ (!b) S1 H1) X) : Tw W E (tNot tt) δ S H Φ X := fun σ H1 Q m c o ex =>
  h σ H1 _ m c (fun b S1 G1 H2 q m1 t1 c1 => o (!b) S1 G1 H2 q m1 t1 c1) ex
theorem tw_yes {Φ : PhB} (q : Φ true S H) : Tw W E tYes δ S H Φ X := fun σ H1 Q m c o ex => o true S H H1 q m (Tr.refl c.dom) c.nil
theorem ew_andV (h : Ew W E ta δ S H (fun x S1 H1 => ∃ b, x = .bl b ∧ (b = true → Ew W E tb δ S1 H1 Φ X) ∧ (b = false → Φ (.bl false) S1 H1)) X) : Ew W E (tAndV ta tb) δ S H Φ X := fun σ H1 Q m c o ex => by
  refine h σ H1 _ m c (fun v x S1 G1 H2 ⟨b, e, q⟩ m1 t1 c1 r1 => ?_) ex
  subst e
  cases r1
  refine ⟨b, rfl, ?_⟩
  cases b with
  | true => exact iteT (q.1 rfl σ H2 Q m1 (c.tr t1) (o.tr t1) (ex.tr t1))
  | false => exact iteF (o (.bl false) (.bl false) S1 G1 H2 (q.2 rfl) m1 t1 c1 (.bl false))
theorem ew_orV (h : Ew W E ta δ S H (fun x S1 H1 => ∃ b, x = .bl b ∧ (b = false → Ew W E tb δ S1 H1 Φ X) ∧ (b = true → Φ (.bl true) S1 H1)) X) : Ew W E (tOrV ta tb) δ S H Φ X := fun σ H1 Q m c o ex => by
  refine h σ H1 _ m c (fun v x S1 G1 H2 ⟨b, e, q⟩ m1 t1 c1 r1 => ?_) ex
  subst e
  cases r1
  refine ⟨b, rfl, ?_⟩
  cases b with
  | true => exact iteT (o (.bl true) (.bl true) S1 G1 H2 (q.2 rfl) m1 t1 c1 (.bl true))
  | false => exact iteF (q.1 rfl σ H2 Q m1 (c.tr t1) (o.tr t1) (ex.tr t1))
theorem ew_notV (h : Ew W E ta δ S H (fun x S1 H1 => ∃ b, x = .bl b ∧ Φ (.bl (!b)) S1 H1) X) : Ew W E (tNotV ta) δ S H Φ X := fun σ H1 Q m c o ex =>
  h σ H1 _ m c (fun v x S1 G1 H2 ⟨b, e, q⟩ m1 t1 c1 r1 => by subst e; cases r1; exact ⟨b, rfl, o _ _ S1 G1 H2 q m1 t1 c1 (.bl _)⟩) ex
theorem ew_if (h : Tw W E tt δ S H (fun b S1 H1 => (b = true → Ew W E ta δ S1 H1 Φ X) ∧ (b = false → Ew W E tb δ S1 H1 Φ X)) X) : Ew W E (tIf tt ta tb) δ S H Φ X := fun σ H1 Q m c o ex => by
  refine h σ H1 _ m c (fun b S1 G1 H2 q m1 t1 c1 => ?_) ex
  cases b with
  | true => exact iteT (q.1 rfl σ H2 Q m1 (c.tr t1) (o.tr t1) (ex.tr t1))
  | false => exact iteF (q.2 rfl σ H2 Q m1 (c.tr t1) (o.tr t1) (ex.tr t1))
/-- a chain of two comparisons -/
theorem ew_chain {r r' : R2} {B B' : Dv → Dv → Ph → List Addr → Hp → Prop} (hr : OpD W r B) (hr' : OpD W r' B')
    (h : Ew W E ta δ S H (fun x S1 H1 => Ew W E tb δ S1 H1 (fun y S2 H2 => B x y (fun z S3 H3 => ∃ b, z = .bl b ∧ (b = true → Ew W E tc δ S3 H3 (fun w S4 H4 => B' y w Φ S4 H4) X) ∧ (b = false → Φ (.bl false) S3 H3)) S2 H2) X) X) : Ew W E (tChain r r' ta tb tc) δ S H Φ X := fun σ H1 Q m c o ex => by
  refine h σ H1 _ m c (fun v x S1 G1 H2 hx m1 t1 c1 r1 => ?_) ex
  refine hx σ H2 _ m1 (c.tr t1) (fun u y S2 G2 H3 hy m2 t2 c2 r2 => ?_) (ex.tr t1)
  refine hr x y v u _ S2 G2 H3 _ m2 c2 (t2.rp r1) r2 hy (fun z d S3 G3 H4 ⟨b, e, q⟩ m3 t3 c3 r3 => ?_)
  have t := (t1.trans t2).trans t3
  subst e
  cases r3
  refine ⟨b, rfl, ?_⟩
  cases b with
  | true =>
    refine iteT (q.1 rfl σ H4 _ m3 (c.tr t) (fun w' z S4 G4 H5 hz m4 t4 c4 r4 => ?_) (ex.tr t))
    exact hr' y z u w' Φ S4 G4 H5 Q m4 c4 ((t3.trans t4).rp r2) r4 hz (o.tr (t.trans t4))
  | false => exact iteF (o (.bl false) (.bl false) S3 G3 H4 (q.2 rfl) m3 t c3 (.bl false))
end
end Dw

namespace Dw
open PySem L2
section
variable {W : Wd} {E : XK} {te ta tb tc : TE} {tt tu : TT} {δ : Dn} {S : List Addr} {H : Hp} {X : Px} {d x y : Dv} {k : Ks} {t u : TS} {g : TG}

/-! ### statements -/
theorem sw_next (q : k.nx δ S H) : Sw W E tNext δ S H k X := fun σ H1 De m c o => o.nx σ δ S H H1 q m (Tr.refl c.dom) c
theorem sw_break (q : k.bk δ S H) : Sw W E tBreak δ S H k X := fun σ H1 De m c o => o.bk σ δ S H H1 q m (Tr.refl c.dom) c
theorem sw_cont (q : k.ct δ S H) : Sw W E tCont δ S H k X := fun σ H1 De m c o => o.ct σ δ S H H1 q m (Tr.refl c.dom) c
theorem sw_seq (h : Sw W E t δ S H { k with nx := fun δ' S' H' => Sw W E u δ' S' H' k X } X) : Sw W E (tSeq t u) δ S H k X := fun σ H1 De m c o =>
  h σ H1 { De with nx := u De } m c ⟨fun σ' δ' S' H' H2 q m' t' c' => q σ' H2 De m' c' (o.tr t'), o.rt, o.bk, o.ct, o.ex⟩
/-- a word between two statements -/
theorem sw_mid (Mid : PhN) (h : Sw W E t δ S H { k with nx := Mid } X) (h2 : ∀ δ' S' H', Mid δ' S' H' → Sw W E u δ' S' H' k X) : Sw W E (tSeq t u) δ S H k X := fun σ H1 De m c o =>
  h σ H1 { De with nx := u De } m c ⟨fun σ' δ' S' H' H2 q m' t' c' => h2 δ' S' H' q σ' H2 De m' c' (o.tr t'), o.rt, o.bk, o.ct, o.ex⟩
theorem sw_drop (h : Ew W E te δ S H (fun _ S1 H1 => k.nx δ S1 H1) X) : Sw W E (tDrop te) δ S H k X := fun σ H1 De m c o =>
  h σ H1 _ m c (fun v x S1 G1 H2 q m1 t1 c1 _ => o.nx σ δ S1 G1 H2 q m1 t1 (c.tr t1)) o.ex
theorem sw_ret (h : Ew W E te δ S H k.rt X) : Sw W E (tRet te) δ S H k X := fun σ H1 De m c o => h σ H1 _ m c o.rt o.ex
theorem sw_retN (q : k.rt .non S H) : Sw W E tRetN δ S H k X := fun σ H1 De m c o => o.rt .non .non S H H1 q m (Tr.refl c.dom) c.nil .non
theorem sw_if (h : Tw W E tt δ S H (fun b S1 H1 => (b = true → Sw W E t δ S1 H1 k X) ∧ (b = false → Sw W E u δ S1 H1 k X)) X) : Sw W E (tIfS tt t u) δ S H k X := fun σ H1 De m c o => by
  refine h σ H1 _ m c (fun b S1 G1 H2 q m1 t1 c1 => ?_) o.ex
  cases b with
  | true => exact iteT (q.1 rfl σ H2 De m1 (c.tr t1) (o.tr t1))
  | false => exact iteF (q.2 rfl σ H2 De m1 (c.tr t1) (o.tr t1))
theorem sw_asg (h : Ew W E te δ S H (fun x S1 H1 => Gw W g x δ S1 H1 k.nx) X) : Sw W E (tAsg te g) δ S H k X := fun σ H1 De m c o =>
  h σ H1 _ m c (fun v x S1 G1 H2 q m1 t1 c1 r1 => q σ H2 v De.nx m1 (c.tr t1) r1 (o.nx.tr t1)) o.ex
theorem sw_set {i : Nat} (h : Ew W E te δ S H (fun x S1 H1 => k.nx (δ.set i (some x)) S1 H1) X) : Sw W E (tAsg te (gName i)) δ S H k X := fun σ H1 De m c o =>
  h σ H1 _ m c (fun v x S1 G1 H2 q m1 t1 c1 r1 => o.nx _ _ S1 G1 H2 q m1 t1 ((c.tr t1).set i r1)) o.ex

/-! ### targets -/
theorem gw_name {i : Nat} {Φ : PhN} (q : Φ (δ.set i (some d)) S H) : Gw W (gName i) d δ S H Φ := fun σ H1 v Q m c r o => o _ _ S H H1 q m (Tr.refl c.dom) (c.set i r)
theorem gwA_nil {Φ : PhN} (q : Φ δ S H) : GwA W gNil [] δ S H Φ := fun σ H1 vs Q m c r o => by
  cases r
  exact ⟨rfl, o σ δ S H H1 q m (Tr.refl c.dom) c⟩
theorem gwA_cons {gs : TGs} {ds : List Dv} {Φ : PhN} (h : Gw W g d δ S H (fun δ1 S1 H1 => GwA W gs ds δ1 S1 H1 Φ)) : GwA W (gCons g gs) (d :: ds) δ S H Φ := fun σ H1 vs Q m c r o => by
  cases r with
  | cons r rr =>
    refine ⟨_, _, rfl, h σ H1 _ _ m c r fun σ' δ' S' H' H2 q m' t' c' => ?_⟩
    exact q σ' H2 _ Q m' c' (t'.rpA rr) (o.tr t')
theorem gw_tup {gs : TGs} {n : Nat} {ds : List Dv} {Φ : PhN} (hn : ds.length = n) (h : GwA W gs ds δ S H Φ) : Gw W (gTup W.K n gs) (.tup ds) δ S H Φ := fun σ H1 v Q m c r o => by
  cases r with
  | tup hs ra => exact ⟨_, _, rfl, (off_lq S H1).sqT hs, by rw [← ra.length]; exact hn, h σ H1 _ Q m c ra o⟩
theorem sqL_off {a : Addr} {xs : List V} {H1 : Hp} (h : off S H1 a = some (.lst xs)) : SqL W.K H1 a xs := .inl (.inl (of_off h).1)
theorem gw_lst {gs : TGs} {n : Nat} {ds : List Dv} {Φ : PhN} (hn : ds.length = n) (h : GwA W gs ds δ S H Φ) : Gw W (gLst W.K n gs) (.lst ds) δ S H Φ := fun σ H1 v Q m c r o => by
  cases r with
  | lst hs ra => exact ⟨_, _, rfl, sqL_off hs, by rw [← ra.length]; exact hn, h σ H1 _ Q m c ra o⟩
/-- a tuple or a list -/
def gSeq (K : PySem.W.Frag) (n : Nat) (t : TGs) : TG := fun v σ H Q => gTup K n t v σ H Q ∨ gLst K n t v σ H Q
theorem gw_seqT {gs : TGs} {n : Nat} {ds : List Dv} {Φ : PhN} (hn : ds.length = n) (h : GwA W gs ds δ S H Φ) : Gw W (gSeq W.K n gs) (.tup ds) δ S H Φ := fun σ H1 v Q m c r o => .inl (gw_tup hn h σ H1 v Q m c r o)
theorem gw_seqL {gs : TGs} {n : Nat} {ds : List Dv} {Φ : PhN} (hn : ds.length = n) (h : GwA W gs ds δ S H Φ) : Gw W (gSeq W.K n gs) (.lst ds) δ S H Φ := fun σ H1 v Q m c r o => .inr (gw_lst hn h σ H1 v Q m c r o)

/-! ### while -/
theorem sw_while (I : Nat → PhN) (h0 : ∃ m, I m δ S H) (hs : ∀ m δ' S' H', I m δ' S' H' → Tw W E tt δ' S' H' (fun b S1 H1 =>
    (b = true → Sw W E t δ' S1 H1 { nx := fun δ2 S2 H2 => ∃ m', m' < m ∧ I m' δ2 S2 H2, ct := fun δ2 S2 H2 => ∃ m', m' < m ∧ I m' δ2 S2 H2, bk := k.nx, rt := k.rt } X) ∧ (b = false → k.nx δ' S1 H1)) X) : Sw W E (tWhile tt t) δ S H k X := fun σ H1 De m c o => by
  obtain ⟨m0, i0⟩ := h0
  refine ⟨fun n σ' H' => ∃ δ' S' Hs, I n δ' S' Hs ∧ Md W [] Hs H' ∧ Tr W S H1 S' H' ∧ Cn W S' δ' σ' H', ⟨m0, δ, S, H, i0, m, Tr.refl c.dom, c⟩, ?_⟩
  rintro n σ' H' ⟨δ', S', Hs, i, m1, t1, c1⟩
  refine hs n δ' S' Hs i σ' H' _ m1 c1 (fun b S2 G2 H2 q m2 t2 c2 => ?_) (o.ex.tr t1)
  have tr := t1.trans t2
  cases b with
  | true =>
    refine iteT ⟨fun σ3 H3 => ∃ m', m' < n ∧ ∃ δ' S' Hs, I m' δ' S' Hs ∧ Md W [] Hs H3 ∧ Tr W S H1 S' H3 ∧ Cn W S' δ' σ3 H3, fun _ _ z => z, ?_⟩
    exact q.1 rfl σ' H2 _ m2 (c1.tr t2) ⟨fun σ3 δ3 S3 G3 H3 ⟨m', l, i3⟩ m3 t3 c3 => ⟨m', l, δ3, S3, G3, i3, m3, tr.trans t3, c3⟩, (o.tr tr).rt, (o.tr tr).nx,
      fun σ3 δ3 S3 G3 H3 ⟨m', l, i3⟩ m3 t3 c3 => ⟨m', l, δ3, S3, G3, i3, m3, tr.trans t3, c3⟩, (o.tr tr).ex⟩
  | false => exact iteF (o.nx σ' δ' S2 G2 H2 (q.2 rfl) m2 tr (c1.tr t2))

/-! ### for -/
theorem sw_for {wi : TI} (h : Iw W E wi δ S H (fun ds st S1 H1 => ∃ I : Nat → PhN, I 0 δ S1 H1 ∧ (∀ i δ' S' H', I i δ' S' H' → st S' H') ∧
      (∀ i d δ' S' H', ds[i]? = some d → I i δ' S' H' → Gw W g d δ' S' H' (fun δ2 S2 H2 => Sw W E t δ2 S2 H2 { nx := I (i + 1), ct := I (i + 1), bk := k.nx, rt := k.rt } X)) ∧
      ∀ δ' S' H', I ds.length δ' S' H' → k.nx δ' S' H') X) : Sw W E (tFor wi g t) δ S H k X := fun σ H1 De m c o => by
  refine h σ H1 _ m c (fun J ds st S1 G1 H2 ⟨I, i0, hst, hs, hd⟩ m1 t1 wk => ?_) o.ex
  refine ⟨fun i n σ' H' => n = ds.length - i ∧ i ≤ ds.length ∧ ∃ δ' S' Hs, I i δ' S' Hs ∧ Md W [] Hs H' ∧ Tr W S1 H2 S' H' ∧ Cn W S' δ' σ' H', ⟨_, rfl, Nat.zero_le _, δ, S1, G1, i0, m1, Tr.refl t1.dom, c.tr t1⟩, ?_⟩
  rintro i n σ' H' ⟨rfl, hi, δ', S', Hs, ii, m2, t2, c2⟩
  have w := wk i S' Hs H' t2 c2.nil (hst i δ' S' Hs ii) m2
  have tr := t1.trans t2
  by_cases hlt : i < ds.length
  · refine .inr ⟨(w.1 ds[i] (List.getElem?_eq_getElem hlt)).1, fun σ3 H3 => ∃ δ' S' Hs, I (i + 1) δ' S' Hs ∧ Md W [] Hs H3 ∧ Tr W S1 H2 S' H3 ∧ Cn W S' δ' σ3 H3, fun σ3 H3 z => ⟨_, by omega, rfl, hlt, z⟩, fun x H3 yl => ?_⟩
    obtain ⟨mx, rx⟩ := (w.1 ds[i] (List.getElem?_eq_getElem hlt)).2 x H3 yl
    have tx := c2.md mx
    refine hs i ds[i] δ' S' Hs (List.getElem?_eq_getElem hlt) ii σ' H3 x _ (m2.trans mx) (c2.tr tx) rx fun σ4 δ4 S4 G4 H4 q m4 t4 c4 => ?_
    have tr4 := (t2.trans tx).trans t4
    refine q σ4 H4 _ m4 c4 ⟨fun σ5 δ5 S5 G5 H5 i5 m5 t5 c5 => ⟨δ5, S5, G5, i5, m5, tr4.trans t5, c5⟩, o.rt.tr (t1.trans tr4), o.nx.tr (t1.trans tr4), fun σ5 δ5 S5 G5 H5 i5 m5 t5 c5 => ⟨δ5, S5, G5, i5, m5, tr4.trans t5, c5⟩, o.ex.tr (t1.trans tr4)⟩
  · have e : i = ds.length := by omega
    subst e
    exact .inl ⟨w.2 (Nat.le_refl _), o.nx σ' δ' S' Hs H' (hd δ' S' Hs ii) m2 tr c2⟩

/-! ### what is walked -/
theorem iw_range1 {t : TA} {Φ : PhI} (h : Aw W E t δ S H (fun xs S1 H1 => ∃ j : Int, xs = [.int j] ∧ -(2 ^ 62) ≤ j ∧ j < 2 ^ 62 ∧ Φ ((List.range j.toNat).map fun (i : Nat) => Dv.int (i : Int)) (fun _ _ => True) S1 H1) X) : Iw W E (iRng1 t) δ S H Φ X := fun σ H1 R m c o ex =>
  h σ H1 _ m c (fun vs xs S1 G1 H2 ⟨j, e, h1, h2, q⟩ m1 t1 c1 r1 => by
    subst e
    cases r1 with
    | cons r1 r2 =>
      cases r1
      cases r2
      refine ⟨j, rfl, h1, h2, o _ _ _ S1 G1 H2 q m1 t1 fun i S' G' H' tr c' _ _ => ⟨fun d hd => ?_, fun hl => ?_⟩⟩
      · obtain ⟨hlt, e⟩ := List.getElem?_eq_some_iff.mp hd
        rw [List.length_map, List.length_range] at hlt
        refine ⟨hlt, fun x H3 ⟨e1, e2⟩ => ?_⟩
        subst e1 e2
        rw [List.getElem_map, List.getElem_range] at e
        subst e
        exact ⟨.refl, by rw [Int.zero_add]; exact .int _⟩
      · rw [List.length_map, List.length_range] at hl
        exact hl) ex
theorem iw_range2 {t : TA} {Φ : PhI} (h : Aw W E t δ S H (fun xs S1 H1 => ∃ i j : Int, xs = [.int i, .int j] ∧ (-(2 ^ 62) ≤ i ∧ i < 2 ^ 62 ∧ -(2 ^ 62) ≤ j ∧ j < 2 ^ 62) ∧ Φ ((List.range (j - i).toNat).map fun (n : Nat) => Dv.int (i + (n : Int))) (fun _ _ => True) S1 H1) X) : Iw W E (iRng2 t) δ S H Φ X := fun σ H1 R m c o ex =>
  h σ H1 _ m c (fun vs xs S1 G1 H2 ⟨i, j, e, h1, q⟩ m1 t1 c1 r1 => by
    subst e
    cases r1 with
    | cons r1 r2 =>
      cases r1
      cases r2 with
      | cons r1 r2 =>
        cases r1
        cases r2
        refine ⟨i, j, rfl, h1, o _ _ _ S1 G1 H2 q m1 t1 fun n S' G' H' tr c' _ _ => ⟨fun d hd => ?_, fun hl => ?_⟩⟩
        · obtain ⟨hlt, e⟩ := List.getElem?_eq_some_iff.mp hd
          rw [List.length_map, List.length_range] at hlt
          refine ⟨hlt, fun x H3 ⟨e1, e2⟩ => ?_⟩
          subst e1 e2
          rw [List.getElem_map, List.getElem_range] at e
          subst e
          exact ⟨.refl, .int _⟩
        · rw [List.length_map, List.length_range] at hl
          exact hl) ex
theorem iw_range3 {t : TA} {Φ : PhI} (h : Aw W E t δ S H (fun xs S1 H1 => ∃ (i j c : Int) (n : Nat), xs = [.int i, .int j, .int c] ∧ RgC i j c n ∧ Φ ((List.range n).map fun (m : Nat) => Dv.int (i + (m : Int) * c)) (fun _ _ => True) S1 H1) X) : Iw W E (iRng3 t) δ S H Φ X := fun σ H1 R m c o ex =>
  h σ H1 _ m c (fun vs xs S1 G1 H2 ⟨i, j, cc, n, e, h1, q⟩ m1 t1 c1 r1 => by
    subst e
    cases r1 with
    | cons r1 r2 =>
      cases r1
      cases r2 with
      | cons r1 r2 =>
        cases r1
        cases r2 with
        | cons r1 r2 =>
          cases r1
          cases r2
          refine ⟨i, j, cc, n, rfl, h1, o _ _ _ S1 G1 H2 q m1 t1 fun n S' G' H' tr c' _ _ => ⟨fun d hd => ?_, fun hl => ?_⟩⟩
          · obtain ⟨hlt, e⟩ := List.getElem?_eq_some_iff.mp hd
            rw [List.length_map, List.length_range] at hlt
            refine ⟨hlt, fun x H3 ⟨e1, e2⟩ => ?_⟩
            subst e1 e2
            rw [List.getElem_map, List.getElem_range] at e
            subst e
            exact ⟨.refl, .int _⟩
          · rw [List.length_map, List.length_range] at hl
            exact hl) ex
/-- the list, the tuple, the changing list -/
def SeqO (d : Dv) (W : Wd) (ds : List Dv) (st : List Addr → Hp → Prop) : Prop := (d = .lst ds ∧ st = fun _ _ => True) ∨ (∃ a, d = .adr a ∧ st = fun S H => LstAt W S H a ds)
theorem wk_list {a : Addr} {xs : List V} {ds : List Dv} {st : List Addr → Hp → Prop} {S1 : List Addr} {H2 : Hp} (hs : off S1 H2 a = some (.lst xs)) (ra : RpA W (off S1 H2) ds xs) : Wk W (Itl W.K a) ds st S1 H2 := fun i S' G' H' tr c' _ _ => by
  have hs' := tr.lq _ _ hs (fun _ z => by cases z)
  have ra' := tr.rpA ra
  refine ⟨fun d hd => ?_, fun hl => ⟨xs, sqL_off hs', by rw [← ra.length]; exact hl⟩⟩
  obtain ⟨v, e, r⟩ := ra'.get hd
  refine ⟨⟨xs, v, sqL_off hs', e⟩, fun x H3 ⟨e1, e2⟩ => ?_⟩
  subst e1
  have e3 := e2 xs (sqL_off hs')
  rw [e] at e3
  cases e3
  exact ⟨.refl, r⟩
theorem wk_mlist {a : Addr} {ds : List Dv} {S1 : List Addr} {H2 : Hp} : Wk W (Itl W.K a) ds (fun S H => LstAt W S H a ds) S1 H2 := fun i S' G' H' tr c' ⟨ha, xs, hx, ra⟩ m => by
  have hx' := m.at hx
  have lq : Lq (off S' G') (off S' H') := fun b o e n => by
    obtain ⟨e1, e2⟩ := of_off e
    exact off_of (m.keep b o e1 (fun z => nomatch z) n) e2
  refine ⟨fun d hd => ?_, fun hl => ⟨xs, .inl (.inl hx'), by rw [← ra.length]; exact hl⟩⟩
  obtain ⟨v, e, r⟩ := (ra.lq lq).get hd
  refine ⟨⟨xs, v, .inl (.inl hx'), e⟩, fun x H3 ⟨e1, e2⟩ => ?_⟩
  subst e1
  have e3 := e2 xs (.inl (.inl hx'))
  rw [e] at e3
  cases e3
  exact ⟨.refl, r⟩
theorem iw_list {tl : TE} {Φ : PhI} (h : Ew W E tl δ S H (fun d S1 H1 => ∃ ds, d = .lst ds ∧ Φ ds (fun _ _ => True) S1 H1) X) : Iw W E (iList W.K tl) δ S H Φ X := fun σ H1 R m c o ex =>
  h σ H1 _ m c (fun v d S1 G1 H2 ⟨ds, e, q⟩ m1 t1 c1 r1 => by
    subst e
    cases r1 with
    | lst hs ra => exact ⟨_, rfl, ⟨_, sqL_off hs⟩, o _ ds _ S1 G1 H2 q m1 t1 (wk_list hs ra)⟩) ex
theorem iw_mlist {tl : TE} {Φ : PhI} (h : Ew W E tl δ S H (fun d S1 H1 => ∃ a ds, d = .adr a ∧ LstAt W S1 H1 a ds ∧ Φ ds (fun S H => LstAt W S H a ds) S1 H1) X) : Iw W E (iList W.K tl) δ S H Φ X := fun σ H1 R m c o ex =>
  h σ H1 _ m c (fun v d S1 G1 H2 ⟨a, ds, e, l, q⟩ m1 t1 c1 r1 => by
    subst e
    cases r1
    obtain ⟨ha, xs, hx, ra⟩ := id l
    exact ⟨_, rfl, ⟨_, .inl (.inl (m1.at hx))⟩, o _ ds _ S1 G1 H2 q m1 t1 wk_mlist⟩) ex
theorem iw_tup {tl : TE} {Φ : PhI} (h : Ew W E tl δ S H (fun d S1 H1 => ∃ ds, d = .tup ds ∧ Φ ds (fun _ _ => True) S1 H1) X) : Iw W E (iTup W.K tl) δ S H Φ X := fun σ H1 R m c o ex =>
  h σ H1 _ m c (fun v d S1 G1 H2 ⟨ds, e, q⟩ m1 t1 c1 r1 => by
    subst e
    cases r1 with
    | tup hs ra =>
      rename_i a xs
      refine ⟨a, rfl, ⟨_, (off_lq S1 H2).sqT hs⟩, o _ ds _ S1 G1 H2 q m1 t1 fun i S' G' H' tr c' _ _ => ?_⟩
      have hs' := (off_lq S' H').sqT (tr.lq.sqT hs)
      have ra' := tr.rpA ra
      refine ⟨fun d hd => ?_, fun hl => ⟨xs, hs', by rw [← ra.length]; exact hl⟩⟩
      obtain ⟨v, e, r⟩ := ra'.get hd
      refine ⟨⟨xs, v, hs', e⟩, fun x H3 ⟨e1, e2⟩ => ?_⟩
      subst e1
      have e3 := e2 xs hs'
      rw [e] at e3
      cases e3
      exact ⟨.refl, r⟩) ex
/-- a text's signs -/
def signs (x : Str) : List Dv := x.cps.toList.map fun c => .str ⟨#[c]⟩
theorem iw_str {tl : TE} {Φ : PhI} (h : Ew W E tl δ S H (fun d S1 H1 => ∃ x, d = .str x ∧ Φ (signs x) (fun _ _ => True) S1 H1) X) : Iw W E (iStr tl) δ S H Φ X := fun σ H1 R m c o ex =>
  h σ H1 _ m c (fun v d S1 G1 H2 ⟨z, e, q⟩ m1 t1 c1 r1 => by
    subst e
    cases r1
    refine ⟨z, rfl, o _ _ _ S1 G1 H2 q m1 t1 fun i S' G' H' tr c' _ _ => ⟨fun d hd => ?_, fun hl => ?_⟩⟩
    · unfold signs at hd
      rw [List.getElem?_map] at hd
      cases e : z.cps.toList[i]? with
      | none =>
        rw [e] at hd
        cases hd
      | some cc =>
        rw [e] at hd
        cases hd
        have e2 : z.cps[i]? = some cc := by rw [← Array.getElem?_toList]; exact e
        have hlt : i < z.cps.size := by
          obtain ⟨h9, _⟩ := Array.getElem?_eq_some_iff.mp e2
          exact h9
        refine ⟨hlt, fun x H3 ⟨e1, c3, e3, e4⟩ => ?_⟩
        subst e1
        rw [e2] at e3
        cases e3
        subst e4
        exact ⟨.refl, .str _⟩
    · have e9 : (signs z).length = z.cps.size := by unfold signs; simp
      rw [e9] at hl
      exact hl) ex
/-- any of these -/
def iAny (K : PySem.W.Frag) (tl : TE) : TI := fun σ H R => iList K tl σ H R ∨ iTup K tl σ H R ∨ iStr tl σ H R
theorem iw_anyL {tl : TE} {Φ : PhI} (h : Ew W E tl δ S H (fun d S1 H1 => ∃ ds, d = .lst ds ∧ Φ ds (fun _ _ => True) S1 H1) X) : Iw W E (iAny W.K tl) δ S H Φ X := fun σ H1 R m c o ex => .inl (iw_list h σ H1 R m c o ex)
theorem iw_anyM {tl : TE} {Φ : PhI} (h : Ew W E tl δ S H (fun d S1 H1 => ∃ a ds, d = .adr a ∧ LstAt W S1 H1 a ds ∧ Φ ds (fun S H => LstAt W S H a ds) S1 H1) X) : Iw W E (iAny W.K tl) δ S H Φ X := fun σ H1 R m c o ex => .inl (iw_mlist h σ H1 R m c o ex)
theorem iw_anyT {tl : TE} {Φ : PhI} (h : Ew W E tl δ S H (fun d S1 H1 => ∃ ds, d = .tup ds ∧ Φ ds (fun _ _ => True) S1 H1) X) : Iw W E (iAny W.K tl) δ S H Φ X := fun σ H1 R m c o ex => .inr (.inl (iw_tup h σ H1 R m c o ex))
theorem iw_anyS {tl : TE} {Φ : PhI} (h : Ew W E tl δ S H (fun d S1 H1 => ∃ x, d = .str x ∧ Φ (signs x) (fun _ _ => True) S1 H1) X) : Iw W E (iAny W.K tl) δ S H Φ X := fun σ H1 R m c o ex => .inr (.inr (iw_str h σ H1 R m c o ex))

/-! ### comprehensions whose turns change nothing -/
def gather : List (Option Dv) → List Dv
  | [] => []
  | some d :: r => d :: gather r
  | none :: r => gather r
theorem gather_append : ∀ a b : List (Option Dv), gather (a ++ b) = gather a ++ gather b
  | [], _ => rfl
  | some d :: r, b => congrArg (d :: ·) (gather_append r b)
  | none :: r, b => gather_append r b
theorem gather_map_some : ∀ ds : List Dv, gather (ds.map some) = ds
  | [] => rfl
  | d :: r => congrArg (d :: ·) (gather_map_some r)
theorem gather_filter {α : Type} (p : α → Bool) (f : α → Dv) : ∀ xs : List α, gather (xs.map fun x => if p x = true then some (f x) else none) = (xs.filter p).map f
  | [] => rfl
  | x :: r => by
    rw [List.map_cons]
    by_cases h : p x = true
    · rw [if_pos h, List.filter_cons_of_pos h, List.map_cons]
      exact congrArg (f x :: ·) (gather_filter p f r)
    · rw [if_neg h, List.filter_cons_of_neg h]
      exact gather_filter p f r
theorem gather_take_succ {out : List (Option Dv)} {i : Nat} {o : Option Dv} (h : out[i]? = some o) : gather (out.take (i + 1)) = gather (out.take i) ++ gather [o] := by
  rw [← gather_append]
  congr 1
  obtain ⟨hl, e⟩ := List.getElem?_eq_some_iff.mp h
  rw [List.take_succ_eq_append_getElem hl, e]
theorem gather_len : ∀ l : List (Option Dv), (gather l).length ≤ l.length
  | [] => Nat.le_refl _
  | some d :: r => Nat.succ_le_succ (gather_len r)
  | none :: r => Nat.le_succ_of_le (gather_len r)
/-- the target's store within a comprehension -/
def Cg (W : Wd) (g : TG) (d : Dv) (vs : List Nat) (δ δ' : Dn) : Prop := ∀ (S : List Addr) (σ : L2.St) (H1 : Hp) (v : V) (Q : L2.St → Hp → Prop), Cn W S δ σ H1 → Rp W (off S H1) d v → (∀ σ2, Cn W S δ' σ2 H1 → wipe σ2 vs = wipe σ vs → Q σ2 H1) → g v (wipe σ vs) H1 Q
theorem off_new {S : List Addr} {H : Hp} {p : Addr} (h : H p = none) : off (p :: S) H = off S H := by
  funext a
  unfold off
  by_cases ha : a ∈ S
  · rw [if_pos ha, if_pos (List.mem_cons_of_mem _ ha)]
  · rw [if_neg ha]
    by_cases hb : a = p
    · rw [if_pos (by rw [hb]; exact List.mem_cons_self), hb, h]
    · rw [if_neg (by intro z; rcases List.mem_cons.mp z with z | z; exact hb z; exact ha z)]
/-- a changing object that the spec's heap does not know is written -/
theorem md_out {W : Wd} {G H5 : Hp} {p : Addr} {o o' : HO} (m : Md W [] G H5) (g : G p = none) (h : H5 p = some o) (i : isM o = true) : Md W [] G (upd H5 p o') := by
  have mu := Md.upd (W := W) (S := [p]) (o' := o') h i (List.mem_singleton.mpr rfl)
  refine ⟨fun b u e _ n => ?_, fun b u e => ?_, fun P hP tp => mu.tg P hP (m.tg P hP tp), fun q hq tp => mu.tl q hq (m.tl q hq tp), fun b φ e => mu.xt b φ (m.xt b φ e)⟩
  · rw [upd_ne (fun z => by rw [z, g] at e; cases e)]
    exact m.at e n
  · obtain ⟨u1, e1⟩ := m.dom b u e
    exact mu.dom b u1 e1
theorem tr_out {W : Wd} {S S1 : List Addr} {G H5 : Hp} {p : Addr} {o o' : HO} (t : Tr W S G S1 H5) (h : H5 p = some o) (i : isM o = true) (hp : p ∈ S1) : Tr W S G S1 (upd H5 p o') := by
  refine t.trans (Tr.md1 t.dom (Md.upd h i hp))
/-- a pure growth -/
structure Up (W : Wd) (S : List Addr) (H : Hp) (S' : List Addr) (H' : Hp) : Prop where
  md : Md W [] H H'
  sub : ∀ a ∈ S, a ∈ S'
  new : ∀ a ∈ S', a ∈ S ∨ H a = none
theorem Up.refl : Up W S H S H := ⟨.refl, fun _ h => h, fun _ h => .inl h⟩
theorem Up.of {H' : Hp} (m : Md W [] H H') : Up W S H S H' := ⟨m, fun _ h => h, fun _ h => .inl h⟩
theorem Up.trans {S1 S2 : List Addr} {H1 H2 : Hp} (a : Up W S H S1 H1) (b : Up W S1 H1 S2 H2) : Up W S H S2 H2 := ⟨a.md.trans b.md, fun x h => b.sub x (a.sub x h), fun x h => (b.new x h).elim (a.new x) fun z => .inr (a.md.free z)⟩
theorem Up.lq {S' : List Addr} {H' : Hp} (u : Up W S H S' H') : Lq (off S H) (off S' H') := fun a o e n => by
  obtain ⟨e1, e2⟩ := of_off e
  refine off_of (u.md.at e1 n) fun z => ?_
  rcases u.new a z with z | z
  · exact e2 z
  · rw [e1] at z
    cases z
theorem LstAt.up {S' : List Addr} {H' : Hp} {a : Addr} {ds : List Dv} (u : Up W S H S' H') (l : LstAt W S H a ds) : LstAt W S' H' a ds := by
  obtain ⟨ha, xs, hx, r⟩ := l
  exact ⟨u.sub a ha, xs, u.md.at hx, r.lq u.lq⟩
theorem ew_lc {wi : TI} {vs : List Nat} {Φ : Ph} (h : Iw W E wi δ S H (fun ds st S1 H1 => ds.length < sizeLine ∧ ∃ (out : List (Option Dv)) (δs : Nat → Dn), out.length = ds.length ∧ (∀ i d, ds[i]? = some d → Cg W g d vs δ (δs i)) ∧
      (∀ S2 H2, Up W S1 H1 S2 H2 → st S2 H2 ∧ (∀ i d, ds[i]? = some d → Tw W E tt (δs i) S2 H2 (fun b S3 H3 => S3 = S2 ∧ H3 = H2 ∧ b = (out.getD i none).isSome) X) ∧
        (∀ i d z, ds[i]? = some d → out[i]? = some (some z) → Ew W E te (δs i) S2 H2 (fun y S3 H3 => S3 = S2 ∧ H3 = H2 ∧ y = z) X)) ∧ Φ (.lst (gather out)) S1 H1) X) :
    Ew W E (tLc wi g tt te vs) δ S H Φ X := fun σ H1 Q m c o ex => by
  refine h σ H1 _ m c (fun J ds st S1 G1 H2 ⟨hz, out, δs, hlen, hg, hrun, q⟩ m1 t1 wk Dl hD => ?_) ex
  have c2 := c.tr t1
  have nS := notS c2 hD
  have gD : G1 Dl = none := m1.free hD
  have tD : Tr W S1 H2 (Dl :: S1) (upd H2 Dl (.lst [])) := tr_grow c2.nil hD
  have memD : Dl ∈ Dl :: S1 := List.mem_cons_self
  have upg : ∀ {Hx : Hp}, Md W [] G1 Hx → Up W S1 G1 (Dl :: S1) Hx := fun {Hx} mx => ⟨mx, fun a ha => List.mem_cons_of_mem _ ha, fun a ha => (List.mem_cons.mp ha).elim (fun z => .inr (by rw [z]; exact gD)) .inl⟩
  refine ⟨fun i n H' => n = ds.length - i ∧ i ≤ ds.length ∧ Md W [] G1 H' ∧ Tr W S1 H2 (Dl :: S1) H' ∧ ∃ xs, H' Dl = some (.lst xs) ∧ RpA W (off (Dl :: S1) H') (gather (out.take i)) xs, ⟨_, rfl, Nat.zero_le _, m1.trans (Md.new hD), tD, [], upd_same, .nil⟩, ?_⟩
  rintro i n H' ⟨rfl, hi, mG, tr, xs, hx, rx⟩
  have c3 := c2.tr tr
  have w := wk i (Dl :: S1) H' H' tr c3.nil (hrun _ _ (upg mG)).1 .refl
  by_cases hlt : i < ds.length
  · have hd : ds[i]? = some ds[i] := List.getElem?_eq_getElem hlt
    refine .inr ⟨(w.1 _ hd).1, fun H' => i + 1 ≤ ds.length ∧ Md W [] G1 H' ∧ Tr W S1 H2 (Dl :: S1) H' ∧ ∃ xs, H' Dl = some (.lst xs) ∧ RpA W (off (Dl :: S1) H') (gather (out.take (i + 1))) xs, fun H4 ⟨a1, a2, a3, a4⟩ => ⟨_, by omega, rfl, a1, a2, a3, a4⟩, fun x H3 yl => ?_⟩
    obtain ⟨mx, rxx⟩ := (w.1 _ hd).2 x H3 yl
    have tx := c3.md mx
    have t3 := tr.trans tx
    have m3 := mG.trans mx
    obtain ⟨_, ht, he⟩ := hrun _ H3 (upg m3)
    refine hg i _ hd (Dl :: S1) σ H3 x _ (c3.tr tx) rxx fun σ2 cs hw => ⟨hw, ?_⟩
    have hx3 : H3 Dl = some (.lst xs) := mx.at hx
    have rx3 := tx.rpA rx
    refine ht i _ hd σ2 H3 _ .refl cs (fun b S4 G4 H4 ⟨e1, e2, e3⟩ m4 t4 c5 => ?_) ((ex.tr t1).tr t3)
    subst e1 e2
    have hlo : i < out.length := by rw [hlen]; exact hlt
    have ho : out[i]? = some out[i] := List.getElem?_eq_getElem hlo
    have hgd : out.getD i none = out[i] := by rw [List.getD_eq_getElem?_getD, ho]; rfl
    rw [hgd] at e3
    have hx4 : H4 Dl = some (.lst xs) := m4.at hx3
    cases ez : out[i] with
    | none =>
      rw [ez] at e3 ho
      subst e3
      refine iteF ⟨hlt, m3.trans m4, t3.trans t4, xs, hx4, ?_⟩
      rw [gather_take_succ ho]
      have e9 : gather (out.take i) ++ gather [none] = gather (out.take i) := by
        show gather (out.take i) ++ [] = _
        rw [List.append_nil]
      rw [e9]
      exact t4.rpA rx3
    | some z =>
      rw [ez] at e3 ho
      subst e3
      refine iteT (he i _ z hd ho σ2 H4 _ m4 (cs.tr t4) (fun y d5 S5 G5 H5 ⟨a1, a2, a3⟩ m5 t5 c6 r6 => ?_) (((ex.tr t1).tr t3).tr t4))
      subst a1 a2 a3
      have hx5 : H5 Dl = some (.lst xs) := m5.at hx3
      have rx5 := t5.rpA (t4.rpA rx3)
      have lx : xs.length < sizeLine := by
        rw [← rx.length]
        have h1 := gather_len (out.take i)
        have h2 : (out.take i).length ≤ i := by rw [List.length_take]; exact Nat.min_le_left _ _
        omega
      have lq6 : Lq (off (Dl :: S1) H5) (off (Dl :: S1) (upd H5 Dl (.lst (xs ++ [y])))) := fun a u e n => by
        obtain ⟨e1, e2⟩ := of_off e
        exact off_of (by rw [upd_ne (fun z => e2 (by rw [z]; exact memD))]; exact e1) e2
      refine ⟨xs, hx5, lx, hlt, md_out (m3.trans m5) gD hx5 rfl, tr_out (t3.trans (t4.trans t5)) hx5 rfl memD, xs ++ [y], upd_same, ?_⟩
      rw [gather_take_succ ho]
      exact (rx5.lq lq6).snoc (r6.lq lq6)
  · have e : i = ds.length := by omega
    subst e
    refine .inl ⟨w.2 (Nat.le_refl _), ?_⟩
    have e9 : out.take ds.length = out := by rw [← hlen, List.take_length]
    rw [e9] at rx
    have lqs : Lq (off (Dl :: S1) H') (off S1 H') := fun a u e n => by
      obtain ⟨e1, e2⟩ := of_off e
      exact off_of e1 fun z => e2 (List.mem_cons_of_mem _ z)
    have ts : Tr W S1 H2 S1 H' := by
      refine ⟨tr.md, fun _ h => h, fun _ h => .inl h, fun a ha => tr.dom a (List.mem_cons_of_mem _ ha)⟩
    exact o (.ref Dl) (.lst (gather out)) S1 G1 H' q mG (t1.trans ts) (c2.nil.tr ts) (.lst (off_of hx nS) (rx.lq lqs))
theorem wipe_set' : ∀ (vs : List Nat) (σ : L2.St) (i : Nat) (x : Option V), wipe (σ.set i x) vs = (wipe σ vs).set i (if i ∈ vs then none else x)
  | [], σ, i, x => rfl
  | b :: r, σ, i, x => by
    show (wipe (σ.set i x) r).set b none = ((wipe σ r).set b none).set i _
    rw [wipe_set' r σ i x]
    by_cases hb : i = b
    · subst hb
      rw [List.set_set, List.set_set, if_pos List.mem_cons_self]
    · rw [List.set_comm _ _ (by exact hb)]
      congr 1
      by_cases hr : i ∈ r
      · rw [if_pos hr, if_pos (List.mem_cons_of_mem _ hr)]
      · rw [if_neg hr, if_neg (fun z => by rcases List.mem_cons.mp z with z | z; exact hb z; exact hr z)]
theorem wipe_none : ∀ (vs : List Nat) (σ : L2.St) (i : Nat), i ∈ vs → (wipe σ vs).set i none = wipe σ vs
  | [], _, _, h => nomatch h
  | b :: r, σ, i, h => by
    unfold wipe
    by_cases hb : i = b
    · subst hb
      rw [List.set_set]
    · have hr : i ∈ r := (List.mem_cons.mp h).resolve_left hb
      rw [List.set_comm _ _ (fun z => hb z.symm), wipe_none r σ i hr]
theorem wipe_set {vs : List Nat} {σ : L2.St} {i : Nat} {x : Option V} (h : i ∈ vs) : wipe (σ.set i x) vs = wipe σ vs := by
  rw [wipe_set', if_pos h, wipe_none vs σ i h]
theorem wipe_wipe : ∀ (vs us : List Nat) (σ : L2.St), (∀ i ∈ us, i ∈ vs) → wipe (wipe σ us) vs = wipe σ vs
  | vs, [], σ, _ => rfl
  | vs, b :: r, σ, h => by
    show wipe ((wipe σ r).set b none) vs = _
    rw [wipe_set (h b List.mem_cons_self), wipe_wipe vs r σ fun i hi => h i (List.mem_cons_of_mem _ hi)]
/-- a target's stores, all within vs -/
def Cs (W : Wd) (g : TG) (d : Dv) (vs : List Nat) (δ δ' : Dn) : Prop := ∀ (S : List Addr) (σ : L2.St) (H1 : Hp) (v : V) (Q : L2.St → Hp → Prop), Cn W S δ σ H1 → Rp W (off S H1) d v → (∀ σ2, Cn W S δ' σ2 H1 → wipe σ2 vs = wipe σ vs → Q σ2 H1) → g v σ H1 Q
def CsA (W : Wd) (g : TGs) (ds : List Dv) (vs : List Nat) (δ δ' : Dn) : Prop := ∀ (S : List Addr) (σ : L2.St) (H1 : Hp) (us : List V) (Q : L2.St → Hp → Prop), Cn W S δ σ H1 → RpA W (off S H1) ds us → (∀ σ2, Cn W S δ' σ2 H1 → wipe σ2 vs = wipe σ vs → Q σ2 H1) → g us σ H1 Q
theorem cg_of {vs : List Nat} {δ' : Dn} (h : Cs W g d vs (wipeD δ vs) δ') : Cg W g d vs δ δ' := fun S σ H1 v Q c r k =>
  h S (wipe σ vs) H1 v Q (c.to (c.env.wipe vs)) r fun σ2 c2 e => k σ2 c2 (by rw [e, wipe_wipe vs vs σ fun _ h => h])
theorem cs_name {i : Nat} {vs : List Nat} (hi : i ∈ vs) : Cs W (gName i) d vs δ (δ.set i (some d)) := fun S σ H1 v Q c r k => k _ (c.set i r) (wipe_set hi)
theorem csA_nil {vs : List Nat} : CsA W gNil [] vs δ δ := fun S σ H1 us Q c r k => by
  cases r
  exact ⟨rfl, k σ c rfl⟩
theorem csA_cons {gs : TGs} {ds : List Dv} {vs : List Nat} {δ1 δ2 : Dn} (h : Cs W g d vs δ δ1) (h2 : CsA W gs ds vs δ1 δ2) : CsA W (gCons g gs) (d :: ds) vs δ δ2 := fun S σ H1 us Q c r k => by
  cases r with
  | cons r rr => exact ⟨_, _, rfl, h S σ H1 _ _ c r fun σ2 c2 e2 => h2 S σ2 H1 _ Q c2 rr fun σ3 c3 e3 => k σ3 c3 (e3.trans e2)⟩
theorem cs_seqT {gs : TGs} {n : Nat} {ds : List Dv} {vs : List Nat} {δ' : Dn} (hn : ds.length = n) (h : CsA W gs ds vs δ δ') : Cs W (gSeq W.K n gs) (.tup ds) vs δ δ' := fun S σ H1 v Q c r k => by
  cases r with
  | tup hs ra => exact .inl ⟨_, _, rfl, (off_lq S H1).sqT hs, by rw [← ra.length]; exact hn, h S σ H1 _ Q c ra k⟩
theorem cs_seqL {gs : TGs} {n : Nat} {ds : List Dv} {vs : List Nat} {δ' : Dn} (hn : ds.length = n) (h : CsA W gs ds vs δ δ') : Cs W (gSeq W.K n gs) (.lst ds) vs δ δ' := fun S σ H1 v Q c r k => by
  cases r with
  | lst hs ra => exact .inr ⟨_, _, rfl, sqL_off hs, by rw [← ra.length]; exact hn, h S σ H1 _ Q c ra k⟩
end
end Dw

namespace Dw
open PySem PySem.Spec PyProof.Rows L2
/-! ### defs -/
/-- a def told over data: arguments, what may change, the heap, the wanted value, the wanted exception -/
abbrev Fs := List Dv → List Addr → Hp → Ph → Px → Prop
def toSp (W : Wd) (F : Fs) : Sp := fun vs H Q E => ∃ ds S H0 Φ X, F ds S H0 Φ X ∧ Md W [] H0 H ∧ Cn W S [] [] H ∧ RpA W (off S H) ds vs ∧ Vo W S H Φ Q ∧ Xo W E S H X
def startD (N : List Str) (ds : List Dv) : Dn := ds.map some ++ List.replicate (N.length - ds.length) none
section
variable {W : Wd} {E : XK} {te ta tb tc : TE} {tt tu : TT} {δ : Dn} {S : List Addr} {H : Hp} {X : Px} {d x y : Dv} {k : Ks} {t u : TS} {g : TG} {Φ : Ph}
theorem run_body {N : List Str} {F : Fs} {De : Ends} {vs : List V} {Q : VK} (hb : ∀ ds S H0 Φ X, F ds S H0 Φ X → Sw W E t (startD N ds) S H0 { nx := fun _ S' H' => Φ .non S' H', rt := Φ } X)
    (h : toSp W F vs H Q E) : t { nx := fun _ H' => Q .non H', rt := Q } (L2.start N vs) H := by
  obtain ⟨ds, S, H0, Φ, X, hF, m, c, r, hv, hx⟩ := h
  refine hb ds S H0 Φ X hF (L2.start N vs) H _ m (c.to ?_) ⟨fun σ δ S' H' H2 q m' t' c' => hv .non .non S' H' H2 q m' t' c'.nil .non, hv, fun _ _ _ _ _ z => z.elim, fun _ _ _ _ _ z => z.elim, hx⟩
  unfold startD L2.start
  rw [r.length]
  exact EnvOk.args _ r
theorem ew_call {F : Fs} {ta : TA} (h : Aw W E ta δ S H (fun ds S1 H1 => F ds S1 H1 Φ X) X) : Ew W E (tCall (toSp W F) [] E ta) δ S H Φ X := fun σ H1 Q m c o ex =>
  h σ H1 _ m c (fun vs ds S1 G1 H2 hF m1 t1 c1 r1 => ⟨ds, S1, G1, Φ, X, hF, m1, c1, by rw [List.append_nil]; exact r1, o.tr t1, ex.tr t1⟩) ex
theorem ew_meth {F : Fs} {C : Addr} {nm : Str} {t : TA} (h : Ew W E ta δ S H (fun d S1 H1 => ∃ a dx fs, d = .adr a ∧ H1 a = some (.ins C dx fs) ∧ fs.lookup nm = none ∧ Aw W E t δ S1 H1 (fun ds S2 H2 => F (.adr a :: ds) S2 H2 Φ X) X) X) :
    Ew W E (tMeth C nm (toSp W F) [] E ta t) δ S H Φ X := fun σ H1 Q m c o ex =>
  h σ H1 _ m c (fun v d S1 G1 H2 ⟨a, dx, fs, e, ha, hl, q⟩ m1 t1 c1 r1 => by
    subst e
    cases r1
    exact ⟨a, dx, fs, rfl, m1.at ha, hl, q σ H2 _ m1 (c.tr t1) (fun vs ds S2 G2 H3 hF m2 t2 c2 r2 => ⟨_, S2, G2, Φ, X, hF, m2, c2, by rw [List.append_nil]; exact .cons (.adr a) r2, o.tr (t1.trans t2), ex.tr (t1.trans t2)⟩) (ex.tr t1)⟩) ex
/-- a method of a Move -/
theorem ew_methV {F : Fs} {nm : Str} {t : TA} (hn : ∀ r f m, (movF r f m).lookup nm = none) (h : Ew W E ta δ S H (fun d S1 H1 => ∃ r f m, d = .mov r f m ∧ Aw W E t δ S1 H1 (fun ds S2 H2 => F (d :: ds) S2 H2 Φ X) X) X) :
    Ew W E (tMeth W.CM nm (toSp W F) [] E ta t) δ S H Φ X := fun σ H1 Q m c o ex =>
  h σ H1 _ m c (fun v d S1 G1 H2 ⟨r, f, mm, e, q⟩ m1 t1 c1 r1 => by
    subst e
    cases r1 with
    | mov ha => exact ⟨_, _, _, rfl, (of_off ha).1, hn _ _ _, q σ H2 _ m1 (c.tr t1) (fun vs ds S2 G2 H3 hF m2 t2 c2 r2 => ⟨_, S2, G2, Φ, X, hF, m2, c2, by rw [List.append_nil]; exact .cons (t2.rp (.mov ha)) r2, o.tr (t1.trans t2), ex.tr (t1.trans t2)⟩) (ex.tr t1)⟩) ex
/-- a new instance: x is from now on among what may change -/
theorem ew_make {F : Fs} {C : Addr} {t : TA} (h : Aw W E t δ S H (fun ds S1 H1 => ∀ x dx H2, Up W S1 H1 (x :: S1) H2 → H1 x = none → x ∉ S1 → H2 x = some (.ins C dx []) →
      F (.adr x :: ds) (x :: S1) H2 (fun d S' H' => d = .non ∧ Φ (.adr x) S' H') X) X) : Ew W E (tMake C (toSp W F) [] E t) δ S H Φ X := fun σ H1 Q m c o ex =>
  h σ H1 _ m c (fun vs ds S1 G1 H2 q m1 t1 c1 r1 => fun x dx hx hdx ne => by
    have k0 : ∀ b o, H2 b = some o → upd (upd H2 dx (.own x)) x (.ins C dx []) b = some o := fun b o e => by rw [upd_ne (ne_of_none e hx), upd_ne (ne_of_none e hdx)]; exact e
    have hm : Md W [] H2 (upd (upd H2 dx (.own x)) x (.ins C dx [])) := Md.ext k0
    have nS := notS c1 hx
    have tr : Tr W S1 H2 (x :: S1) (upd (upd H2 dx (.own x)) x (.ins C dx [])) := by
      refine ⟨hm.up, fun a ha => List.mem_cons_of_mem _ ha, fun a ha => (List.mem_cons.mp ha).elim (fun z => .inr (by rw [z]; exact hx)) .inl, fun a ha => ?_⟩
      rcases List.mem_cons.mp ha with z | z
      · rw [z]
        exact ⟨_, upd_same⟩
      · obtain ⟨u, e⟩ := c1.dom a z
        exact ⟨u, k0 _ _ e⟩
    refine ⟨_, x :: S1, _, _, X, q x dx _ ⟨m1.trans hm, fun a ha => List.mem_cons_of_mem _ ha, fun a ha => (List.mem_cons.mp ha).elim (fun z => .inr (by rw [z]; exact m1.free hx)) .inl⟩ (m1.free hx) nS upd_same, .refl, c1.tr tr, by rw [List.append_nil]; exact .cons (.adr x) (tr.rpA r1), fun v d S' H' H3 ⟨e, q3⟩ m3 t3 c3 r3 => ?_, (ex.tr t1).tr tr⟩
    subst e
    cases r3
    exact ⟨rfl, o (.ref x) (.adr x) S' H' H3 q3 m3 ((t1.trans tr).trans t3) c3 (Rp.adr x)⟩) ex

/-! ### fields -/
theorem ew_fld {f : Str} (h : Ew W E ta δ S H (fun d S1 H1 => ∃ a C dx fs v x, d = .adr a ∧ H1 a = some (.ins C dx fs) ∧ Cls W.K C ∧ NoAttr W.K C f ∧ fs.lookup f = some v ∧ Rp W (off S1 H1) x v ∧ Φ x S1 H1) X) : Ew W E (tFld W.K ta f) δ S H Φ X := fun σ H1 Q m c o ex =>
  h σ H1 _ m c (fun v d S1 G1 H2 ⟨a, C, dx, fs, u, x, e, ha, hc, hn, hl, r, q⟩ m1 t1 c1 r1 => by
    subst e
    cases r1
    have lq : Lq (off S1 G1) (off S1 H2) := fun b u e n => by
      obtain ⟨e1, e2⟩ := of_off e
      exact off_of (m1.at e1 n) e2
    exact ⟨a, C, dx, fs, u, rfl, m1.at ha, hc, hn, hl, o u x S1 G1 H2 q m1 t1 c1 (r.lq lq)⟩) ex
/-- a Move's -/
theorem movF_eq (r : Int) (f : Str) (m : Int) : movF r f m = ([("rod", V.int r), ("side", V.str f), ("many", V.int m)] : List (Str × V)) := by
  have h1 : ¬ (("rod" : Str) = "side") := by decide +kernel
  have h2 : ¬ (("rod" : Str) = "many") := by decide +kernel
  have h3 : ¬ (("side" : Str) = "many") := by decide +kernel
  unfold movF
  simp only [putF, if_neg h1, if_neg h2, if_neg h3]
theorem ew_fldV {f : Str} (hc : Cls W.K W.CM) (hn : NoAttr W.K W.CM f) (h : Ew W E ta δ S H (fun d S1 H1 => ∃ r s m x, d = .mov r s m ∧ ((f = "rod" ∧ x = .int r) ∨ (f = "side" ∧ x = .str s) ∨ (f = "many" ∧ x = .int m)) ∧ Φ x S1 H1) X) : Ew W E (tFld W.K ta f) δ S H Φ X := fun σ H1 Q m c o ex =>
  h σ H1 _ m c (fun v d S1 G1 H2 ⟨r, s, mm, x, e, hx, q⟩ m1 t1 c1 r1 => by
    subst e
    cases r1 with
    | mov ha =>
      have n1 : ¬ (("rod" : Str) = "many") := by decide +kernel
      have n2 : ¬ (("rod" : Str) = "side") := by decide +kernel
      have n3 : ¬ (("side" : Str) = "many") := by decide +kernel
      have l1 : (movF r s mm).lookup ("rod" : Str) = some (.int r) := by
        unfold movF
        rw [lookup_putF, if_neg n1, lookup_putF, if_neg n2, lookup_putF, if_pos rfl]
      have l2 : (movF r s mm).lookup ("side" : Str) = some (.str s) := by
        unfold movF
        rw [lookup_putF, if_neg n3, lookup_putF, if_pos rfl]
      have l3 : (movF r s mm).lookup ("many" : Str) = some (.int mm) := by
        unfold movF
        rw [lookup_putF, if_pos rfl]
      rcases hx with ⟨rfl, rfl⟩ | ⟨rfl, rfl⟩ | ⟨rfl, rfl⟩
      · exact ⟨_, _, _, _, _, rfl, (of_off ha).1, hc, hn, l1, o _ _ S1 G1 H2 q m1 t1 c1 (Rp.int _)⟩
      · exact ⟨_, _, _, _, _, rfl, (of_off ha).1, hc, hn, l2, o _ _ S1 G1 H2 q m1 t1 c1 (Rp.str _)⟩
      · exact ⟨_, _, _, _, _, rfl, (of_off ha).1, hc, hn, l3, o _ _ S1 G1 H2 q m1 t1 c1 (Rp.int _)⟩) ex
/-- o.f = e: the new heap by what it holds -/
theorem sw_fld {f : Str} {tv : TE} (h : Ew W E tv δ S H (fun x S1 H1 => Ew W E ta δ S1 H1 (fun d S2 H2 => ∃ a C dx fs, d = .adr a ∧ a ∈ S2 ∧ H2 a = some (.ins C dx fs) ∧ Cls W.K C ∧ NoAttr W.K C f ∧ fs.length < 1000 ∧
      ∀ v H3, Rp W (off S2 H3) x v → Md W [a] H2 H3 → H3 a = some (.ins C dx (putF f v fs)) → k.nx δ S2 H3) X) X) : Sw W E (sFld W.K ta tv f) δ S H k X := fun σ H1 De m c o => by
  refine h σ H1 _ m c (fun v x S1 G1 H2 q m1 t1 c1 r1 => ?_) o.ex
  refine q σ H2 _ m1 (c.tr t1) (fun u d S2 G2 H3 ⟨a, C, dx, fs, e, hs, ha, hc, hn, hl, q2⟩ m2 t2 c2 r2 => ?_) (o.ex.tr t1)
  subst e
  cases r2
  have mu : Md W [a] H3 (upd H3 a (.ins C dx (putF f v fs))) := Md.upd (m2.at ha) rfl (List.mem_singleton.mpr rfl)
  have tr : Tr W S2 H3 S2 (upd H3 a (.ins C dx (putF f v fs))) := Tr.md1 c2.dom (mu.mono fun z hz => by rw [List.mem_singleton.mp hz]; exact hs)
  have t12 := t1.trans t2
  exact ⟨a, C, dx, fs, rfl, m2.at ha, hc, hn, hl, o.nx σ δ S2 _ _ (q2 v _ (tr.rp (t2.rp r1)) (m2.up.trans mu) upd_same) .refl (t12.trans tr) ((c.tr t12).tr tr)⟩

/-! ### raising -/
theorem sw_raise {cls : Value} (q : X cls S H) : Sw W E (fun _ σ H => (fun (c : Value) (d : Option Addr) (H' : Hp) => E c d H') cls none H) δ S H k X := fun σ H1 De m c o => o.ex cls S H H1 q m (Tr.refl c.dom) c.nil
end

/-! ### a def by its body; its call -/
section
variable {P : Program} {w : World} {K : PySem.W.Frag} {mg : Str → Option Value} {base : Heap}
theorem okD {x qual : Str} {st : Stmt} {f : Addr} {fd : FuncData} {N ps : List Str} {kk : Nat} {W : Wd} {F : Fs} (Fn : Fun K x qual st f fd) (Sc : FnScope N ps (defScope st)) (len : ∀ ds S H Φ X, F ds S H Φ X → ds.length = ps.length)
    (body : ∀ (cdv : Value) (A : Around) (outer : List Env) (s : Shared) (H : Hp) (E : XK), PySem.W.codeIn K cdv qual = true → Room kk (A.deeper (envOfC qual (defScope st) s.heap.objs.size f cdv)) →
      ∃ t, PSs (cxOf (L2.CX P w) P w K mg base N qual (defScope st) f cdv A outer s H E) (defBody st) t ∧ ∀ ds S H0 Φ X, F ds S H0 Φ X → Sw W E t (startD N ds) S H0 { nx := fun _ S' H' => Φ .non S' H', rt := Φ } X) :
    FnOk P w K mg base (L2.CX P w) (kk + 1) f fd ps (toSp W F) := by
  obtain ⟨oc, od, kV, doc, pm, an, cdv, ct, osl, rfl, lk, hcd⟩ := Fn.ex
  refine fn_of lk hcd Sc (fun vs H Q E h => ?_) fun A outer s H vs Q E hr hsp => ?_
  · obtain ⟨ds, S, H0, Φ, X, hF, _, _, r, _⟩ := h
    rw [← r.length]
    exact len _ _ _ _ _ hF
  · obtain ⟨t, ht, hb⟩ := body cdv A outer s H E hcd hr
    exact ⟨t, ht, run_body (De := ⟨fun _ _ => False, fun _ _ => False, fun _ _ => False, fun _ _ => False⟩) hb hsp⟩
/-- the same, the code object told -/
theorem okD2 {x qual : Str} {st : Stmt} {f : Addr} {fd : FuncData} {N ps : List Str} {kk : Nat} {W : Wd} {F : Fs} {c : Addr} (Fn : Fun K x qual st f fd) (hc : fd.code = .ref c) (Sc : FnScope N ps (defScope st)) (len : ∀ ds S H Φ X, F ds S H Φ X → ds.length = ps.length)
    (body : ∀ (A : Around) (outer : List Env) (s : Shared) (H : Hp) (E : XK), Room kk (A.deeper (envOfC qual (defScope st) s.heap.objs.size f (.ref c))) →
      ∃ t, PSs (cxOf (L2.CX P w) P w K mg base N qual (defScope st) f (.ref c) A outer s H E) (defBody st) t ∧ ∀ ds S H0 Φ X, F ds S H0 Φ X → Sw W E t (startD N ds) S H0 { nx := fun _ S' H' => Φ .non S' H', rt := Φ } X) :
    FnOk P w K mg base (L2.CX P w) (kk + 1) f fd ps (toSp W F) := by
  obtain ⟨oc, od, kV, doc, pm, an, cdv, ct, osl, rfl, lk, hcd⟩ := Fn.ex
  have hc : cdv = .ref c := hc
  subst hc
  refine fn_of lk hcd Sc (fun vs H Q E h => ?_) fun A outer s H vs Q E hr hsp => ?_
  · obtain ⟨ds, S, H0, Φ, X, hF, _, _, r, _⟩ := h
    rw [← r.length]
    exact len _ _ _ _ _ hF
  · obtain ⟨t, ht, hb⟩ := body A outer s H E hr
    exact ⟨t, ht, run_body (De := ⟨fun _ _ => False, fun _ _ => False, fun _ _ => False, fun _ _ => False⟩) hb hsp⟩
/-- may be called by its name -/
structure CalX (P : Program) (w : World) (K : PySem.W.Frag) (mg : Str → Option Value) (base : Heap) (k : Nat) (x : Str) (n : Nat) (sp : Sp) : Prop where
  ex : ∃ (f : Addr) (fd : FuncData) (ps : List Str), FnOk P w K mg base (L2.CX P w) k f fd ps sp ∧ mg x = some (.ref f) ∧ PySem.W.keepIn K (.ref f) = true ∧ Binds K fd ps []
/-- a method of the class at C -/
structure MetX (P : Program) (w : World) (K : PySem.W.Frag) (mg : Str → Option Value) (base : Heap) (k : Nat) (C : Addr) (m : Str) (sp : Sp) : Prop where
  ex : ∃ (f : Addr) (fd : FuncData) (ps : List Str), Cls K C ∧ Meth K C m f ∧ FnOk P w K mg base (L2.CX P w) k f fd ps sp ∧ Binds K fd ps []
/-- a class that may be made by its name -/
structure MakX (P : Program) (w : World) (K : PySem.W.Frag) (mg : Str → Option Value) (base : Heap) (k : Nat) (x : Str) (C : Addr) (sp : Sp) : Prop where
  ex : ∃ (f : Addr) (fd : FuncData) (ps : List Str), Mk K C f ∧ FnOk P w K mg base (L2.CX P w) k f fd ps sp ∧ mg x = some (.ref C) ∧ Binds K fd ps []
end
section
variable {X : Cx} {k j n : Nat} {C : Addr} {x m : Str} {sp : Sp} {p pos apos : Pos} {e o : Expr} {es : List Expr} {ta : TE} {t : TA} {E : XK}
/-- what leaves a callee is wished for by the def -/
abbrev Tk (X : Cx) (E : XK) : Prop := Takes X (fun c d _ H => E c d H)
theorem px_c (c : CalX X.prog X.w X.K X.mg X.base k x n sp) (hr : Room j X.A) (tk : Tk X E) (ha : PA X (e :: es) t) (hk : k ≤ j := by decide) (hg : Gl X x := by rfl)
    (hdb : (x == ("__debug__" : Str)) = false := by decide) (he : starEach (e :: es) X.env = (false, eval e X.env) :: starEach es X.env := by rfl) (hpl : (backTo pos (starEach es X.env)).any (·.1) = false := by rfl) :
    PE X (.Call (.Name x p) (e :: es) [] pos) (tCall sp [] E t) := by
  obtain ⟨f, fd, ps, F, hm, kp, b⟩ := c.ex
  exact pe_call F (hr.mono hk) hg hm kp b .nil (passes_call tk fun _ _ _ _ h => h) ha hdb he hpl
theorem px_mk (c : MakX X.prog X.w X.K X.mg X.base k x C sp) (hr : Room j X.A) (tk : Tk X E) (ha : PA X (e :: es) t) (hk : k + 1 ≤ j := by decide) (hg : Gl X x := by rfl)
    (hdb : (x == ("__debug__" : Str)) = false := by decide) (he : starEach (e :: es) X.env = (false, eval e X.env) :: starEach es X.env := by rfl) (hpl : (backTo pos (starEach es X.env)).any (·.1) = false := by rfl) :
    PE X (.Call (.Name x p) (e :: es) [] pos) (tMake C sp [] E t) := by
  obtain ⟨f, fd, ps, M, F, hm, b⟩ := c.ex
  exact pe_make M F (hr.mono hk) hg hm b .nil (passes_call tk fun _ _ _ _ h => h) ha hdb he hpl
theorem px_mk0 (c : MakX X.prog X.w X.K X.mg X.base k x C sp) (hr : Room j X.A) (tk : Tk X E) (hk : k + 1 ≤ j := by decide) (hg : Gl X x := by rfl) (hdb : (x == ("__debug__" : Str)) = false := by decide) :
    PE X (.Call (.Name x p) [] [] pos) (tMake C sp [] E tNil) := by
  obtain ⟨f, fd, ps, M, F, hm, b⟩ := c.ex
  exact pe_make0 M F (hr.mono hk) hg hm b .nil (passes_call tk fun _ _ _ _ h => h) hdb
theorem px_mt {pl : Sem Bool} (c : MetX X.prog X.w X.K X.mg X.base k C m sp) (hr : Room j X.A) (tk : Tk X E) (he : PE X o ta) (ha : PA X (e :: es) t) (hk : k ≤ j := by decide)
    (hst : starEach (e :: es) X.env = (false, eval e X.env) :: starEach es X.env := by rfl) (hpl : (backTo pos (starEach es X.env)).any (·.1) = false := by rfl)
    (ht : eval (.Call (.Attribute o m apos) (e :: es) [] pos) X.env = (do
      let ov ← eval o X.env
      standAt apos.atName
      let (f, first) ← holding [ov] (getMethod ov m pl)
      callWith pos f first (backTo pos (starEach (e :: es) X.env)) (backToKw pos (keywordEach [] X.env))) := by rfl) :
    PE X (.Call (.Attribute o m apos) (e :: es) [] pos) (tMeth C m sp [] E ta t) := by
  obtain ⟨f, fd, ps, hc, hm, F, b⟩ := c.ex
  exact pe_meth (pl := pl) he hc hm F (hr.mono hk) b .nil (passes_call tk fun _ _ _ _ h => h) ha hst hpl ht
theorem px_mt0 {pl : Sem Bool} (c : MetX X.prog X.w X.K X.mg X.base k C m sp) (hr : Room j X.A) (tk : Tk X E) (he : PE X o ta) (hk : k ≤ j := by decide)
    (ht : eval (.Call (.Attribute o m apos) [] [] pos) X.env = (do
      let ov ← eval o X.env
      standAt apos.atName
      let (f, first) ← holding [ov] (getMethod ov m pl)
      callWith pos f first (backTo pos (starEach [] X.env)) (backToKw pos (keywordEach [] X.env))) := by rfl) :
    PE X (.Call (.Attribute o m apos) [] [] pos) (tMeth C m sp [] E ta tNil) := by
  obtain ⟨f, fd, ps, hc, hm, F, b⟩ := c.ex
  exact pe_meth0 (pl := pl) he hc hm F (hr.mono hk) b .nil (passes_call tk fun _ _ _ _ h => h) ht
end
end Dw

namespace Dw
open PySem PySem.Spec PyProof.Rows L2

/-! ### data without objects, as the library's data -/
mutual
def toP : Dv → PyData
  | .non => .none
  | .bl b => .bool b
  | .int i => .int i
  | .str x => .str x
  | .adr _ => .none
  | .lst ds => .list (toPs ds)
  | .tup ds => .tuple (toPs ds)
  | .mov _ _ _ => .none
def toPs : List Dv → List PyData
  | [] => []
  | d :: r => toP d :: toPs r
def pureD : Dv → Bool
  | .adr _ => false
  | .mov _ _ _ => false
  | .lst ds => pureDs ds
  | .tup ds => pureDs ds
  | _ => true
def pureDs : List Dv → Bool
  | [] => true
  | d :: r => pureD d && pureDs r
end
theorem toPs_map : ∀ ds : List Dv, toPs ds = ds.map toP
  | [] => by rw [toPs]; rfl
  | d :: r => by rw [toPs, toPs_map r]; rfl
mutual
theorem Rp.dp {W : Wd} {S : List Addr} {H : Hp} : ∀ {d : Dv} {v : V}, Rp W (off S H) d v → pureD d = true → Dp W.K H v (toP d)
  | _, _, .non, _ => by unfold toP; exact .non
  | _, _, .bl b, _ => by unfold toP; exact .bl b
  | _, _, .int i, _ => by unfold toP; exact .int i
  | _, _, .str x, _ => by unfold toP; exact .str x
  | _, _, .adr a, h => by unfold pureD at h; cases h
  | _, _, .lst hs r, h => by
    unfold pureD at h
    unfold toP
    exact .lst (.inl (.inl (of_off hs).1)) (RpA.dp r h)
  | _, _, .tup hs r, h => by
    unfold pureD at h
    unfold toP
    exact .tup ((off_lq S H).sqT hs) (RpA.dp r h)
  | _, _, .mov _, h => by unfold pureD at h; cases h
theorem RpA.dp {W : Wd} {S : List Addr} {H : Hp} : ∀ {ds : List Dv} {vs : List V}, RpA W (off S H) ds vs → pureDs ds = true → DpAll W.K H vs (toPs ds)
  | _, _, .nil, _ => by unfold toPs; exact .nil
  | _, _, .cons h r, q => by
    unfold pureDs at q
    unfold toPs
    rw [Bool.and_eq_true] at q
    exact .cons (Rp.dp h q.1) (RpA.dp r q.2)
end
/-- fit for == -/
def eqOk (d : Dv) : Bool := pureD d && SeqAt.shaped (toP d)
def eqD (x y : Dv) : Bool := PyData.eqv (toP x) (toP y)
theorem eqD_refl {d : Dv} (h : eqOk d = true) : eqD d d = true := by
  unfold eqOk at h
  rw [Bool.and_eq_true] at h
  exact SeqAt.eqv_refl _ (SeqAt.canLay_of_shaped h.2)

/-! ### readings by union -/
def rLtD (K : PySem.W.Frag) : R2 := fun x y H Q => ∃ d e, Dp K H x d ∧ Dp K H y e ∧ PySem.W.alike d e = true ∧ d ≠ .none ∧ min d.depth e.depth ≤ 64 ∧ Q (.bl (PySem.W.dataLt d e)) H
def rGtD (K : PySem.W.Frag) : R2 := fun x y H Q => ∃ d e, Dp K H x d ∧ Dp K H y e ∧ PySem.W.alike d e = true ∧ d ≠ .none ∧ min d.depth e.depth ≤ 64 ∧ Q (.bl (PySem.W.dataLt e d)) H
section
variable {X : Cx}
theorem op_ltD (hu : X.A.units + 64 < cLine) : OpR X (compareOp .Lt) (rLtD X.K) := by
  intro pins s σ H x y v u Q I rx ry h
  obtain ⟨d, e, hd, he, ha, hn, hz, q⟩ := h
  obtain ⟨as, r1⟩ := Dp.reads I d x v hd rx
  obtain ⟨bs, r2⟩ := Dp.reads I e y u he ry
  exact PySem.W.lt_data r1 r2 ha hn (by omega) ⟨.bl _, H, I, rfl, q⟩
theorem op_gtD (hu : X.A.units + 64 < cLine) : OpR X (compareOp .Gt) (rGtD X.K) := by
  intro pins s σ H x y v u Q I rx ry h
  obtain ⟨d, e, hd, he, ha, hn, hz, q⟩ := h
  obtain ⟨as, r1⟩ := Dp.reads I d x v hd rx
  obtain ⟨bs, r2⟩ := Dp.reads I e y u he ry
  exact PySem.W.gt_data r1 r2 ha hn (by omega) ⟨.bl _, H, I, rfl, q⟩
def rLt : R2 := rI0 fun i j => .bl (decide (i < j))
def rLe : R2 := rI0 fun i j => .bl (decide (i ≤ j))
def rGt' : R2 := rI0 fun i j => .bl (decide (j < i))
def rGe' : R2 := rI0 fun i j => .bl (decide (j ≤ i))
def rOr (a b : R2) : R2 := fun x y H Q => a x y H Q ∨ b x y H Q
def rLtU (K : PySem.W.Frag) : R2 := rOr rLt (rLtD K)
theorem u_lt (hu : X.A.units + 64 < cLine) : OpR X (compareOp .Lt) (rLtU X.K) := OpR.or op_lt (op_ltD hu)
theorem u_le : OpR X (compareOp .LtE) rLe := op_le
theorem u_gt : OpR X (compareOp .Gt) rGt' := op_gt
theorem u_ge : OpR X (compareOp .GtE) rGe' := op_ge
theorem u_eq (hu : X.A.units + 64 < cLine) : OpR X (compareOp .Eq) (rEqD X.K) := op_eqD hu
theorem u_ne (hu : X.A.units + 64 < cLine) : OpR X (compareOp .NotEq) (rNeD X.K) := op_neD hu
def rAddI : R2 := rI0 fun i j => .int (i + j)
def rSubI : R2 := rI0 fun i j => .int (i - j)
def rAddT : R2 := fun x y H Q => ∃ i j, x = .str i ∧ y = .str j ∧ i.length + j.length ≤ sizeLine ∧ Q (.str (i ++ j)) H
def rAddU (K : PySem.W.Frag) : R2 := rOr rAddI (rOr rAddT (rOr rCat (rCatA K)))
theorem u_add : OpR X (binaryOp .Add) (rAddU X.K) := OpR.or op_add (OpR.or op_add_str (OpR.or op_cat op_catA))
theorem u_sub : OpR X (binaryOp .Sub) rSubI := op_sub
def rMulI : R2 := rI CMul fun i j => .int (i * j)
/-- a text n times -/
def repS (x : Str) (n : Int) : Str := ⟨(List.replicate n.toNat x.cps.toList).flatten.toArray⟩
def rMulS : R2 := fun x y H Q => ∃ z n, x = .str z ∧ y = .int n ∧ -(2 ^ 63) ≤ n ∧ n < 2 ^ 63 ∧ z.length * n.toNat ≤ 1000000 ∧ Q (.str (repS z n)) H
theorem foldl_app (a : Array Nat) : ∀ (l : List (Array Nat)) (acc : Array Nat), (l.foldl (· ++ ·) acc).toList = acc.toList ++ (l.map Array.toList).flatten
  | [], acc => by simp
  | b :: l, acc => by
    rw [List.foldl_cons, foldl_app a l, List.map_cons, List.flatten_cons, Array.toList_append, List.append_assoc]
theorem op_mulS : OpR X (binaryOp .Mult) rMulS := by
  intro pins s σ H x y v u Q I rx ry h
  obtain ⟨z, n, rfl, rfl, h1, h2, hz, q⟩ := h
  obtain ⟨t, rfl⟩ := rx
  obtain ⟨t', rfl⟩ := ry
  have key : ∀ w : Str, w = repS z n → EP X pins σ Q (.str w s.toks) { s with toks := s.toks + 1 } := fun w e => by
    subst e
    exact ⟨.str (repS z n), H, I.tok _, ⟨_, rfl⟩, q⟩
  refine PySem.P.mul_str ?_ (fun a b => ?_) (fun a b => ?_) ?_
  · rw [decide_eq_false (by omega), decide_eq_false (by omega)]; rfl
  · have hn : 1 < n := by
      simp only [Bool.or_eq_false_iff] at b
      have := b.1
      have h3 : ¬ n = 1 := by simpa using this
      omega
    have h4 : ((z.length : Nat) : Int) * n ≤ 1000000 := by
      have : ((z.length * n.toNat : Nat) : Int) = (z.length : Int) * n := by
        rw [Int.natCast_mul, Int.toNat_of_nonneg (by omega)]
      omega
    intro h5
    have h6 : (2 ^ 63 - 1 : Int) / n * n + (2 ^ 63 - 1) % n = 2 ^ 63 - 1 := Int.ediv_mul_add_emod _ _
    have h7 : (2 ^ 63 - 1 : Int) % n < n := Int.emod_lt_of_pos _ (by omega)
    have h8 : ((2 ^ 63 - 1 : Int) / n + 1) * n ≤ (z.length : Int) * n := Int.mul_le_mul_of_nonneg_right (by omega) (by omega)
    rw [Int.add_mul, Int.one_mul] at h8
    omega
  · have hb : (z.length * n.toNat) ≤ 1000000 := hz
    have hs : (1000000 : Nat) ≤ sizeLine := by decide
    unfold Builtin.Str.tooLong
    first
      | exact decide_eq_false (by omega)
      | (simp; omega)
  · by_cases a : n < 1
    · rw [if_pos a]
      refine ⟨by decide, key _ ?_⟩
      unfold repS
      have : n.toNat = 0 := by omega
      rw [this]
      rfl
    · rw [if_neg a]
      by_cases b : (n == 1 || z.length == 0) = true
      · rw [if_pos b]
        show EP X pins σ Q (.str z t) s
        have e : z = repS z n := by
          unfold repS
          rcases Bool.or_eq_true _ _ ▸ b with c | c
          · have : n = 1 := by simpa using c
            subst this
            show z = ⟨(List.replicate 1 z.cps.toList).flatten.toArray⟩
            simp
          · have : z.length = 0 := by simpa using c
            have : z.cps.toList = [] := by
              have h9 : z.cps.size = 0 := this
              have : z.cps.toList.length = 0 := by rw [Array.length_toList]; exact h9
              exact List.eq_nil_of_length_eq_zero this
            have e2 : (List.replicate n.toNat z.cps.toList).flatten = [] := by rw [this]; simp
            rw [e2]
            cases z with
            | mk c =>
              simp only at this ⊢
              congr 1
              exact Array.toList_inj.mp (by rw [this])
        exact ⟨.str z, H, I, ⟨t, rfl⟩, by rw [e]; exact q⟩
      · rw [if_neg b]
        refine ⟨?_, key _ ?_⟩
        · have e : ((List.replicate n.toNat z.cps).foldl (· ++ ·) #[]).size = z.length * n.toNat := by
            rw [← Array.length_toList, foldl_app z.cps, List.map_replicate]
            simp [Str.length, Nat.mul_comm]
          first
            | (show ((List.replicate n.toNat z.cps).foldl (· ++ ·) #[]).size ≤ sizeLine; rw [e]; exact Nat.le_trans hz (by decide))
            | (show Str.length ⟨(List.replicate n.toNat z.cps).foldl (· ++ ·) #[]⟩ ≤ sizeLine; show ((List.replicate n.toNat z.cps).foldl (· ++ ·) #[]).size ≤ sizeLine; rw [e]; exact Nat.le_trans hz (by decide))
        · unfold repS
          congr 1
          refine Array.toList_inj.mp ?_
          rw [foldl_app z.cps, List.map_replicate]
          rfl
def rMulU : R2 := rOr rMulI (rOr rMulS rRep)
theorem u_mul : OpR X (binaryOp .Mult) rMulU := OpR.or op_mul (OpR.or op_mulS op_rep)
def rDivI : R2 := rI CDiv fun i j => .int (i / j)
def rModI : R2 := rI (fun _ j => 0 < j) fun i j => .int (i % j)
def rPowI : R2 := rI CPow fun i j => .int (i ^ j.toNat)
theorem u_div : OpR X (binaryOp .FloorDiv) rDivI := op_fdiv
theorem u_mod : OpR X (binaryOp .Mod) rModI := op_mod
theorem u_pow : OpR X (binaryOp .Pow) rPowI := op_pow
def rIxU (K : PySem.W.Frag) : R2 := rOr (rIxL K) (rOr (rIxT K) rIxS)
theorem u_ix : IxR X (rIxU X.K) := IxR.or ix_list (IxR.or ix_tup ix_str)
def rInS : R2 := fun x y H Q => ∃ (c : Nat) (z : Str), x = .str ⟨#[c]⟩ ∧ y = .str z ∧ Q (.bl (decide (c ∈ z.cps.toList))) H
def rNotInS : R2 := fun x y H Q => ∃ (c : Nat) (z : Str), x = .str ⟨#[c]⟩ ∧ y = .str z ∧ Q (.bl (!decide (c ∈ z.cps.toList))) H
def rInU (K : PySem.W.Frag) : R2 := rOr rInS (rIn K false)
def rNotInU (K : PySem.W.Frag) : R2 := rOr rNotInS (rIn K true)
theorem u_in : OpR X (compareOp .In) (rInU X.K) := OpR.or op_in_sign op_in_seq
theorem u_notin : OpR X (compareOp .NotIn) (rNotInU X.K) := OpR.or op_notIn_sign op_notIn_seq
def rIsN' : R2 := fun x y H Q => y = .non ∧ Q (.bl (decide (x = .non))) H
def rNotN' : R2 := fun x y H Q => y = .non ∧ Q (.bl (!decide (x = .non))) H
theorem u_isN : OpR X (compareOp .Is) rIsN' := op_isN
theorem u_notN : OpR X (compareOp .IsNot) rNotN' := op_notN
end

/-! ### the same over data -/
section
variable {W : Wd}
def iiB (C : Int → Int → Prop) (g : Int → Int → Dv) : Dv → Dv → Ph → List Addr → Hp → Prop := fun x y Φ S H => ∃ i j, x = .int i ∧ y = .int j ∧ C i j ∧ Φ (g i j) S H
theorem Vo.pure {S : List Addr} {H H1 : Hp} {Φ : Ph} {Q : VK} {v : V} {d : Dv} (o : Vo W S H1 Φ Q) (c : Cn W S [] [] H1) (m : Md W [] H H1) (r : Rp W (off S H1) d v) (q : Φ d S H) : Q v H1 := o v d S H H1 q m (Tr.refl c.dom) c r
theorem opD_I {C : Int → Int → Prop} {g : Int → Int → V} {g' : Int → Int → Dv} (h : ∀ i j G, Rp W G (g' i j) (g i j)) : OpD W (rI C g) (iiB C g') := fun x y v u Φ S H H1 Q m c rx ry ⟨i, j, e1, e2, hc, q⟩ o => by
  subst e1 e2
  cases rx
  cases ry
  exact ⟨i, j, rfl, rfl, hc, o.pure c m (h i j _) q⟩
theorem opD_I0 {g : Int → Int → V} {g' : Int → Int → Dv} (h : ∀ i j G, Rp W G (g' i j) (g i j)) : OpD W (rI0 g) (iiB (fun _ _ => True) g') := fun x y v u Φ S H H1 Q m c rx ry ⟨i, j, e1, e2, hc, q⟩ o => by
  subst e1 e2
  cases rx
  cases ry
  exact ⟨i, j, rfl, rfl, o.pure c m (h i j _) q⟩
def orB (a b : Dv → Dv → Ph → List Addr → Hp → Prop) : Dv → Dv → Ph → List Addr → Hp → Prop := fun x y Φ S H => a x y Φ S H ∨ b x y Φ S H
theorem opD_or {r r' : R2} {B B' : Dv → Dv → Ph → List Addr → Hp → Prop} (h : OpD W r B) (h' : OpD W r' B') : OpD W (rOr r r') (orB B B') := fun x y v u Φ S H H1 Q m c rx ry hb o =>
  hb.elim (fun q => .inl (h x y v u Φ S H H1 Q m c rx ry q o)) fun q => .inr (h' x y v u Φ S H H1 Q m c rx ry q o)
def addB : Dv → Dv → Ph → List Addr → Hp → Prop := fun x y Φ S H => (∃ i j, x = .int i ∧ y = .int j ∧ Φ (.int (i + j)) S H) ∨ (∃ i j, x = .str i ∧ y = .str j ∧ i.length + j.length ≤ sizeLine ∧ Φ (.str (i ++ j)) S H) ∨
  (∃ i j, x = .lst i ∧ y = .lst j ∧ i.length + j.length ≤ sizeLine ∧ Φ (.lst (i ++ j)) S H) ∨ (∃ i j, x = .tup i ∧ y = .tup j ∧ i.length + j.length ≤ sizeLine ∧ Φ (.tup (i ++ j)) S H)
theorem dAdd : OpD W (rAddU W.K) addB := fun x y v u Φ S H H1 Q m c rx ry h o => by
  rcases h with ⟨i, j, e1, e2, q⟩ | ⟨i, j, e1, e2, hz, q⟩ | ⟨i, j, e1, e2, hz, q⟩ | ⟨i, j, e1, e2, hz, q⟩
  · subst e1 e2
    cases rx
    cases ry
    exact .inl ⟨i, j, rfl, rfl, o.pure c m (.int _) q⟩
  · subst e1 e2
    cases rx
    cases ry
    exact .inr (.inl ⟨i, j, rfl, rfl, hz, o.pure c m (.str _) q⟩)
  · subst e1 e2
    cases rx with
    | lst h1 r1 =>
      cases ry with
      | lst h2 r2 => exact .inr (.inr (.inl ⟨_, _, _, _, rfl, rfl, (of_off h1).1, (of_off h2).1, by rw [← r1.length, ← r2.length]; exact hz, fun p hp => o.new c m hp q (new_lst c hp (r1.append r2))⟩))
  · subst e1 e2
    cases rx with
    | tup h1 r1 =>
      cases ry with
      | tup h2 r2 =>
        refine .inr (.inr (.inr ⟨_, _, _, _, rfl, rfl, (off_lq S H1).sqT h1, (off_lq S H1).sqT h2, by rw [← r1.length, ← r2.length]; exact hz, fun e => ?_, fun _ e => ?_, fun _ _ p hp => o.new c m hp q (new_tup c hp (r1.append r2))⟩))
        · subst e
          cases r1
          exact o.pure c m (.tup h2 r2) q
        · subst e
          cases r2
          refine o.pure c m (.tup h1 ?_) q
          rw [List.append_nil]
          exact r1
theorem dSub : OpD W rSubI (iiB (fun _ _ => True) fun i j => .int (i - j)) := opD_I0 fun _ _ _ => .int _
def mulB : Dv → Dv → Ph → List Addr → Hp → Prop := fun x y Φ S H => (∃ i j, x = .int i ∧ y = .int j ∧ CMul i j ∧ Φ (.int (i * j)) S H) ∨ (∃ z n, x = .str z ∧ y = .int n ∧ -(2 ^ 63) ≤ n ∧ n < 2 ^ 63 ∧ z.length * n.toNat ≤ 1000000 ∧ Φ (.str (repS z n)) S H) ∨
  (∃ ds n, x = .lst ds ∧ y = .int n ∧ -(2 ^ 63) ≤ n ∧ n < 2 ^ 63 ∧ ds.length * n.toNat ≤ sizeLine ∧ Φ (.lst (List.replicate n.toNat ds).flatten) S H)
theorem dMul : OpD W rMulU mulB := fun x y v u Φ S H H1 Q m c rx ry h o => by
  rcases h with ⟨i, j, e1, e2, hc, q⟩ | ⟨i, j, e1, e2, h1, h2, hz, q⟩ | ⟨i, j, e1, e2, h1, h2, hz, q⟩
  · subst e1 e2
    cases rx
    cases ry
    exact .inl ⟨i, j, rfl, rfl, hc, o.pure c m (.int _) q⟩
  · subst e1 e2
    cases rx
    cases ry
    exact .inr (.inl ⟨i, j, rfl, rfl, h1, h2, hz, o.pure c m (.str _) q⟩)
  · subst e1 e2
    cases ry
    cases rx with
    | lst h3 r1 => exact .inr (.inr ⟨_, _, _, rfl, rfl, (of_off h3).1, h1, h2, by rw [← r1.length]; exact hz, fun p hp => o.new c m hp q (new_lst c hp (r1.replicate _))⟩)
theorem dDiv : OpD W rDivI (iiB CDiv fun i j => .int (i / j)) := opD_I fun _ _ _ => .int _
theorem dMod : OpD W rModI (iiB (fun _ j => 0 < j) fun i j => .int (i % j)) := opD_I fun _ _ _ => .int _
theorem dPow : OpD W rPowI (iiB CPow fun i j => .int (i ^ j.toNat)) := opD_I fun _ _ _ => .int _
theorem dLe : OpD W rLe (iiB (fun _ _ => True) fun i j => .bl (decide (i ≤ j))) := opD_I0 fun _ _ _ => .bl _
theorem dGt : OpD W rGt' (iiB (fun _ _ => True) fun i j => .bl (decide (j < i))) := opD_I0 fun _ _ _ => .bl _
theorem dGe : OpD W rGe' (iiB (fun _ _ => True) fun i j => .bl (decide (j ≤ i))) := opD_I0 fun _ _ _ => .bl _
def ltDB : Dv → Dv → Ph → List Addr → Hp → Prop := fun x y Φ S H => pureD x = true ∧ pureD y = true ∧ PySem.W.alike (toP x) (toP y) = true ∧ toP x ≠ .none ∧ min (toP x).depth (toP y).depth ≤ 64 ∧ Φ (.bl (PySem.W.dataLt (toP x) (toP y))) S H
theorem dLt : OpD W (rLtU W.K) (orB (iiB (fun _ _ => True) fun i j => .bl (decide (i < j))) ltDB) := opD_or (opD_I0 fun _ _ _ => .bl _) fun x y v u Φ S H H1 Q m c rx ry ⟨h1, h2, h3, h4, h5, q⟩ o =>
  ⟨_, _, rx.dp h1, ry.dp h2, h3, h4, h5, o.pure c m (.bl _) q⟩
def eqB (neg : Bool) : Dv → Dv → Ph → List Addr → Hp → Prop := fun x y Φ S H => eqOk x = true ∧ eqOk y = true ∧ Φ (.bl (if neg then !eqD x y else eqD x y)) S H
theorem dEq : OpD W (rEqD W.K) (eqB false) := fun x y v u Φ S H H1 Q m c rx ry ⟨h1, h2, q⟩ o => by
  unfold eqOk at h1 h2
  rw [Bool.and_eq_true] at h1 h2
  exact ⟨_, _, rx.dp h1.1, ry.dp h2.1, h1.2, h2.2, o.pure c m (.bl _) q⟩
theorem dNe : OpD W (rNeD W.K) (eqB true) := fun x y v u Φ S H H1 Q m c rx ry ⟨h1, h2, q⟩ o => by
  unfold eqOk at h1 h2
  rw [Bool.and_eq_true] at h1 h2
  exact ⟨_, _, rx.dp h1.1, ry.dp h2.1, h1.2, h2.2, o.pure c m (.bl _) q⟩
def ixB : Dv → Dv → Ph → List Addr → Hp → Prop := fun x y Φ S H => (∃ ds i d, x = .lst ds ∧ y = .int i ∧ atI ds i = some d ∧ Φ d S H) ∨ (∃ a ds i d, x = .adr a ∧ y = .int i ∧ LstAt W S H a ds ∧ atI ds i = some d ∧ Φ d S H) ∨
  (∃ ds i d, x = .tup ds ∧ y = .int i ∧ atI ds i = some d ∧ Φ d S H) ∨ (∃ z i cc, x = .str z ∧ y = .int i ∧ z.length ≤ sizeLine ∧ atI z.cps.toList i = some cc ∧ Φ (.str ⟨#[cc]⟩) S H)
theorem RpA.at {G : Hp} {ds : List Dv} {vs : List V} {i : Int} {d : Dv} (r : RpA W G ds vs) (h : atI ds i = some d) : ∃ v, atI vs i = some v ∧ Rp W G d v := by
  unfold atI at h ⊢
  rw [← r.length]
  cases e : ixN ds.length i with
  | none =>
    rw [e] at h
    cases h
  | some j =>
    rw [e] at h
    exact r.get (i := j) h
theorem lq_md {S : List Addr} {H H1 : Hp} (m : Md W [] H H1) : Lq (off S H) (off S H1) := fun b u e n => by
  obtain ⟨e1, e2⟩ := of_off e
  exact off_of (m.at e1 n) e2
theorem dIx : OpD W (rIxU W.K) (ixB (W := W)) := fun x y v u Φ S H H1 Q m c rx ry h o => by
  rcases h with ⟨ds, i, d, e1, e2, ha, q⟩ | ⟨a, ds, i, d, e1, e2, l, ha, q⟩ | ⟨ds, i, d, e1, e2, ha, q⟩ | ⟨z, i, cc, e1, e2, hz, ha, q⟩
  · subst e1 e2
    cases ry
    cases rx with
    | lst h1 r1 =>
      obtain ⟨w, e, r⟩ := r1.at ha
      exact .inl ⟨_, _, _, _, rfl, rfl, sqL_off h1, e, o.pure c m r q⟩
  · subst e1 e2
    cases ry
    cases rx
    obtain ⟨hs, xs, hx, r1⟩ := l
    obtain ⟨w, e, r⟩ := (r1.lq (lq_md m)).at ha
    exact .inl ⟨_, _, _, _, rfl, rfl, .inl (.inl (m.at hx)), e, o.pure c m r q⟩
  · subst e1 e2
    cases ry
    cases rx with
    | tup h1 r1 =>
      obtain ⟨w, e, r⟩ := r1.at ha
      exact .inr (.inl ⟨_, _, _, _, rfl, rfl, (off_lq S H1).sqT h1, e, o.pure c m r q⟩)
  · subst e1 e2
    cases ry
    cases rx
    exact .inr (.inr ⟨_, _, _, rfl, rfl, hz, ha, o.pure c m (.str _) q⟩)
def flatD : Dv → Bool
  | .non => true
  | .bl _ => true
  | .int _ => true
  | .str _ => true
  | _ => false
def flV : Dv → V
  | .non => .non
  | .bl b => .bl b
  | .int i => .int i
  | .str x => .str x
  | _ => .non
theorem Rp.flat {G : Hp} {d : Dv} {v : V} (r : Rp W G d v) (h : flatD d = true) : v = flV d ∧ flatV v = true := by
  cases r <;> first
    | exact ⟨rfl, rfl⟩
    | cases h
theorem RpA.flat {G : Hp} : ∀ {ds : List Dv} {vs : List V}, RpA W G ds vs → ds.all flatD = true → vs = ds.map flV ∧ vs.all flatV = true
  | _, _, .nil, _ => ⟨rfl, rfl⟩
  | _, _, .cons h r, q => by
    rw [List.all_cons, Bool.and_eq_true] at q
    obtain ⟨e1, e2⟩ := h.flat q.1
    obtain ⟨e3, e4⟩ := RpA.flat r q.2
    rw [e3] at e4 ⊢
    rw [e1] at e2 ⊢
    exact ⟨rfl, by rw [List.all_cons, e2, e4]; rfl⟩
def inD (x : Dv) (ds : List Dv) : Bool := inV (flV x) (ds.map flV)
def inB (neg : Bool) : Dv → Dv → Ph → List Addr → Hp → Prop := fun x y Φ S H => (∃ cc z, x = .str ⟨#[cc]⟩ ∧ y = .str z ∧ Φ (.bl (if neg then !decide (cc ∈ z.cps.toList) else decide (cc ∈ z.cps.toList))) S H) ∨
  (∃ ds, (y = .lst ds ∨ y = .tup ds) ∧ flatD x = true ∧ ds.all flatD = true ∧ Φ (.bl (if neg then !inD x ds else inD x ds)) S H)
theorem inD_of {S : List Addr} {H1 : Hp} {neg : Bool} {x y : Dv} {v u : V} {Φ : Ph} {H : Hp} {Q : VK} (m : Md W [] H H1) (c : Cn W S [] [] H1) (rx : Rp W (off S H1) x v) (ry : Rp W (off S H1) y u)
    (h : ∃ ds, (y = .lst ds ∨ y = .tup ds) ∧ flatD x = true ∧ ds.all flatD = true ∧ Φ (.bl (if neg then !inD x ds else inD x ds)) S H) (o : Vo W S H1 Φ Q) : rIn W.K neg v u H1 Q := by
  obtain ⟨ds, e, hx, hf, q⟩ := h
  obtain ⟨e1, e2⟩ := rx.flat hx
  rcases e with e | e
  · subst e
    cases ry with
    | lst h1 r1 =>
      obtain ⟨e3, e4⟩ := r1.flat hf
      refine ⟨_, _, rfl, .inl (sqL_off h1), e2, e4, ?_⟩
      rw [e1, e3]
      exact o.pure c m (.bl _) q
  · subst e
    cases ry with
    | tup h1 r1 =>
      obtain ⟨e3, e4⟩ := r1.flat hf
      refine ⟨_, _, rfl, .inr ((off_lq S H1).sqT h1), e2, e4, ?_⟩
      rw [e1, e3]
      exact o.pure c m (.bl _) q
theorem dIn : OpD W (rInU W.K) (inB false) := fun x y v u Φ S H H1 Q m c rx ry h o => by
  rcases h with ⟨cc, z, e1, e2, q⟩ | h
  · subst e1 e2
    cases rx
    cases ry
    exact .inl ⟨_, _, rfl, rfl, o.pure c m (.bl _) q⟩
  · exact .inr (inD_of (neg := false) m c rx ry h o)
theorem dNotIn : OpD W (rNotInU W.K) (inB true) := fun x y v u Φ S H H1 Q m c rx ry h o => by
  rcases h with ⟨cc, z, e1, e2, q⟩ | h
  · subst e1 e2
    cases rx
    cases ry
    exact .inl ⟨_, _, rfl, rfl, o.pure c m (.bl _) q⟩
  · exact .inr (inD_of (neg := true) m c rx ry h o)
def isN : Dv → Bool
  | .non => true
  | _ => false
theorem Rp.isN {G : Hp} {d : Dv} {v : V} (r : Rp W G d v) : decide (v = .non) = isN d := by
  cases r <;> rfl
def isNB (neg : Bool) : Dv → Dv → Ph → List Addr → Hp → Prop := fun x y Φ S H => y = .non ∧ Φ (.bl (if neg then !isN x else isN x)) S H
theorem dIsN : OpD W rIsN' (isNB false) := fun x y v u Φ S H H1 Q m c rx ry ⟨e, q⟩ o => by
  subst e
  cases ry
  refine ⟨rfl, ?_⟩
  rw [rx.isN]
  exact o.pure c m (.bl _) q
theorem dNotN : OpD W rNotN' (isNB true) := fun x y v u Φ S H H1 Q m c rx ry ⟨e, q⟩ o => by
  subst e
  cases ry
  refine ⟨rfl, ?_⟩
  rw [rx.isN]
  exact o.pure c m (.bl _) q
end
end Dw

namespace Dw
open PySem PySem.Spec PyProof.Rows L2
/-! ### built-in functions -/
abbrev Rc := List V → Hp → VK → Prop
abbrev Bc := List Dv → Ph → List Addr → Hp → Prop
def rAbs : Rc := fun xs H Q => ∃ i, xs = [.int i] ∧ Q (.int (if i < 0 then -i else i)) H
def rIntI : Rc := fun xs H Q => (∃ i, xs = [.int i] ∧ Q (.int i) H) ∨ ∃ k, xs = [.bl k] ∧ Q (.int (if k then 1 else 0)) H
def rIntS : Rc := fun xs H Q => ∃ a n, xs = [.str a] ∧ PySem.intText? a = some n ∧ a.length ≤ 640 ∧ Q (.int n) H
def rIntU : Rc := fun xs H Q => rIntI xs H Q ∨ rIntS xs H Q
def rStrI : Rc := fun xs H Q => ∃ i, xs = [.int i] ∧ i.natAbs.log2 < 1920 ∧ Q (.str (toString i)) H
def rMax2 : Rc := fun xs H Q => ∃ i j, xs = [.int i, .int j] ∧ Q (.int (if j > i then j else i)) H
def rMin2 : Rc := fun xs H Q => ∃ i j, xs = [.int i, .int j] ∧ Q (.int (if j < i then j else i)) H
def rLenU (K : PySem.W.Frag) : Rc := fun xs H Q => ∃ x n, xs = [x] ∧ LenV K x H n ∧ Q (.int n) H
def rListO (K : PySem.W.Frag) : Rc := fun xs H Q => ∃ p ys, xs = [.ref p] ∧ (SqL K H p ys ∨ SqT K H p ys) ∧ ∀ l, H l = none → Q (.ref l) (upd H l (.lst ys))
def rTupO (K : PySem.W.Frag) : Rc := fun xs H Q => ∃ p ys, xs = [.ref p] ∧ ((SqL K H p ys ∧ ∀ l, H l = none → Q (.ref l) (upd H l (.tup ys))) ∨ (SqT K H p ys ∧ Q (.ref p) H))
section
variable {X : Cx}
theorem CallR.or {f : Value} {r r' : Rc} (h : CallR X f r) (h' : CallR X f r') : CallR X f (fun xs H Q => r xs H Q ∨ r' xs H Q) := by
  intro pins s σ H xs us Q I r q
  rcases q with q | q
  · exact h pins s σ H xs us Q I r q
  · exact h' pins s σ H xs us Q I r q
theorem c_abs : CallR X (.builtin "abs") rAbs := call_abs
theorem c_int : CallR X (.type "int") rIntU := CallR.or call_int1 call_int_str
theorem c_str : CallR X (.type "str") rStrI := call_str_int
theorem c_max2 (hc : X.calm = true := by rfl) : CallR X (.builtin "max") rMax2 := call_max2 hc
theorem c_min2 (hc : X.calm = true := by rfl) : CallR X (.builtin "min") rMin2 := call_min2 hc
theorem c_len : CallR X (.builtin "len") (rLenU X.K) := call_len
theorem c_list : CallR X (.type "list") (rListO X.K) := call_list_of
theorem c_tuple : CallR X (.type "tuple") (rTupO X.K) := call_tuple_of
theorem c_sum (hc : X.calm = true := by rfl) : CallR X (.builtin "sum") (rSum X.K) := cr_sum hc
end
section
variable {W : Wd}
theorem RpA.one {G : Hp} {d : Dv} {vs : List V} (r : RpA W G [d] vs) : ∃ v, vs = [v] ∧ Rp W G d v := by
  cases r with
  | cons r rr =>
    cases rr
    exact ⟨_, rfl, r⟩
/-- by a shape of the arguments -/
theorem caD_abs : CaD W rAbs (fun xs Φ S H => ∃ i, xs = [.int i] ∧ Φ (.int (if i < 0 then -i else i)) S H) := fun xs vs Φ S H H1 Q m c r ⟨i, e, q⟩ o => by
  subst e
  cases r with
  | cons r rr =>
    cases r
    cases rr
    exact ⟨i, rfl, o.pure c m (.int _) q⟩
def intB : Bc := fun xs Φ S H => (∃ i, xs = [.int i] ∧ Φ (.int i) S H) ∨ (∃ k : Bool, xs = [.bl k] ∧ Φ (.int (if k then 1 else 0)) S H) ∨ ∃ a n, xs = [.str a] ∧ PySem.intText? a = some n ∧ a.length ≤ 640 ∧ Φ (.int n) S H
theorem caD_int : CaD W rIntU intB := fun xs vs Φ S H H1 Q m c r h o => by
  rcases h with ⟨i, e, q⟩ | ⟨i, e, q⟩ | ⟨a, n, e, h1, h2, q⟩
  all_goals
    subst e
    obtain ⟨v, rfl, r1⟩ := RpA.one r
    cases r1
  · exact .inl (.inl ⟨i, rfl, o.pure c m (.int _) q⟩)
  · exact .inl (.inr ⟨i, rfl, o.pure c m (.int _) q⟩)
  · exact .inr ⟨a, n, rfl, h1, h2, o.pure c m (.int _) q⟩
theorem caD_str : CaD W rStrI (fun xs Φ S H => ∃ i : Int, xs = [.int i] ∧ i.natAbs.log2 < 1920 ∧ Φ (.str (toString i)) S H) := fun xs vs Φ S H H1 Q m c r ⟨i, e, h1, q⟩ o => by
  subst e
  cases r with
  | cons r rr =>
    cases r
    cases rr
    exact ⟨i, rfl, h1, o.pure c m (.str _) q⟩
theorem caD_max2 : CaD W rMax2 (fun xs Φ S H => ∃ i j : Int, xs = [.int i, .int j] ∧ Φ (.int (if j > i then j else i)) S H) := fun xs vs Φ S H H1 Q m c r ⟨i, j, e, q⟩ o => by
  subst e
  cases r with
  | cons r rr =>
    cases r
    cases rr with
    | cons r rr =>
      cases r
      cases rr
      exact ⟨i, j, rfl, o.pure c m (.int _) q⟩
theorem caD_min2 : CaD W rMin2 (fun xs Φ S H => ∃ i j : Int, xs = [.int i, .int j] ∧ Φ (.int (if j < i then j else i)) S H) := fun xs vs Φ S H H1 Q m c r ⟨i, j, e, q⟩ o => by
  subst e
  cases r with
  | cons r rr =>
    cases r
    cases rr with
    | cons r rr =>
      cases r
      cases rr
      exact ⟨i, j, rfl, o.pure c m (.int _) q⟩
def lenB : Bc := fun xs Φ S H => (∃ z, xs = [.str z] ∧ z.length ≤ sizeLine ∧ Φ (.int (z.length : Nat)) S H) ∨ (∃ ds, (xs = [.lst ds] ∨ xs = [.tup ds]) ∧ Φ (.int (ds.length : Nat)) S H) ∨ ∃ a ds, xs = [.adr a] ∧ LstAt W S H a ds ∧ Φ (.int (ds.length : Nat)) S H
theorem caD_len : CaD W (rLenU W.K) (lenB (W := W)) := fun xs vs Φ S H H1 Q m c r h o => by
  rcases h with ⟨z, e, h1, q⟩ | ⟨ds, e | e, q⟩ | ⟨a, ds, e, ⟨hs, ys, hy, ra⟩, q⟩
  all_goals
    subst e
    obtain ⟨v, rfl, r1⟩ := RpA.one r
  · cases r1
    exact ⟨_, _, rfl, ⟨h1, rfl⟩, o.pure c m (.int _) q⟩
  · cases r1 with
    | lst h2 ra => exact ⟨_, _, rfl, .inl ⟨_, sqL_off h2, rfl⟩, by rw [← ra.length]; exact o.pure c m (.int _) q⟩
  · cases r1 with
    | tup h2 ra => exact ⟨_, _, rfl, .inr ⟨_, (off_lq S H1).sqT h2, rfl⟩, by rw [← ra.length]; exact o.pure c m (.int _) q⟩
  · cases r1
    exact ⟨_, _, rfl, .inl ⟨_, .inl (.inl (m.at hy)), rfl⟩, by rw [← ra.length]; exact o.pure c m (.int _) q⟩
/-- list(xs): a list that stays -/
def seqB (g : List Dv → Dv) : Bc := fun xs Φ S H => (∃ ds, (xs = [.lst ds] ∨ xs = [.tup ds]) ∧ Φ (g ds) S H) ∨ ∃ a ds, xs = [.adr a] ∧ LstAt W S H a ds ∧ Φ (g ds) S H
theorem caD_list : CaD W (rListO W.K) (seqB (W := W) .lst) := fun xs vs Φ S H H1 Q m c r h o => by
  rcases h with ⟨ds, e | e, q⟩ | ⟨a, ds, e, ⟨hs, ys, hy, ra⟩, q⟩
  all_goals
    subst e
    obtain ⟨v, rfl, r1⟩ := RpA.one r
  · cases r1 with
    | lst h2 ra => exact ⟨_, _, rfl, .inl (sqL_off h2), fun p hp => o.new c m hp q (new_lst c hp ra)⟩
  · cases r1 with
    | tup h2 ra => exact ⟨_, _, rfl, .inr ((off_lq S H1).sqT h2), fun p hp => o.new c m hp q (new_lst c hp ra)⟩
  · cases r1
    exact ⟨_, _, rfl, .inl (.inl (.inl (m.at hy))), fun p hp => o.new c m hp q (new_lst c hp (ra.lq (lq_md m)))⟩
theorem caD_tuple : CaD W (rTupO W.K) (seqB (W := W) .tup) := fun xs vs Φ S H H1 Q m c r h o => by
  rcases h with ⟨ds, e | e, q⟩ | ⟨a, ds, e, ⟨hs, ys, hy, ra⟩, q⟩
  all_goals
    subst e
    obtain ⟨v, rfl, r1⟩ := RpA.one r
  · cases r1 with
    | lst h2 ra => exact ⟨_, _, rfl, .inl ⟨sqL_off h2, fun p hp => o.new c m hp q (new_tup c hp ra)⟩⟩
  · cases r1 with
    | tup h2 ra => exact ⟨_, _, rfl, .inr ⟨(off_lq S H1).sqT h2, o.pure c m (.tup h2 ra) q⟩⟩
  · cases r1
    exact ⟨_, _, rfl, .inl ⟨.inl (.inl (m.at hy)), fun p hp => o.new c m hp q (new_tup c hp (ra.lq (lq_md m)))⟩⟩
theorem caD_sum : CaD W (rSum W.K) (fun xs Φ S H => ∃ ns : List Int, (xs = [.lst (ns.map .int)]) ∧ Φ (.int ns.sum) S H) := fun xs vs Φ S H H1 Q m c r ⟨ns, e, q⟩ o => by
  subst e
  cases r with
  | cons r rr =>
    cases rr
    cases r with
    | lst h2 ra =>
      rw [ra.ints] at h2
      exact ⟨_, ns, rfl, sqL_off h2, o.pure c m (.int _) q⟩

/-! ### methods of built-ins -/
def tyD (W : Wd) (T : String) (d : Dv) (S : List Addr) (H : Hp) : Prop := match d with
  | .str _ => T = "str"
  | .lst _ => T = "list"
  | .adr a => (T = "list" ∧ ∃ ds, LstAt W S H a ds)
  | _ => False
theorem tyD_V {T : String} {d : Dv} {v : V} {S : List Addr} {H H1 : Hp} (m : Md W [] H H1) (r : Rp W (off S H1) d v) (h : tyD W T d S H) : tyV W.K T v H1 := by
  cases r with
  | str x => exact h
  | lst h1 _ => exact .inl ⟨h, _, sqL_off h1⟩
  | adr a =>
    obtain ⟨e, ds, hs, xs, hx, _⟩ := h
    exact .inl ⟨e, xs, .inl (.inl (m.at hx))⟩
  | _ => exact h.elim
theorem ew_bm {E : XK} {to : TE} {t : TA} {δ : Dn} {S : List Addr} {H : Hp} {Φ : Ph} {X : Px} {T : String} {r : V → List V → Hp → VK → Prop} {B : Dv → List Dv → Ph → List Addr → Hp → Prop} (hr : MeD W r B)
    (h : Ew W E to δ S H (fun d S1 H1 => tyD W T d S1 H1 ∧ Aw W E t δ S1 H1 (fun ds S2 H2 => B d ds Φ S2 H2) X) X) : Ew W E (tBM W.K T r to t) δ S H Φ X := fun σ H1 Q m c o ex => by
  refine h σ H1 _ m c (fun v d S1 G1 H2 ⟨ty, q⟩ m1 t1 c1 r1 => ⟨tyD_V m1 r1 ty, ?_⟩) ex
  exact q σ H2 _ m1 (c.tr t1) (fun vs ds S2 G2 H3 q2 m2 t2 c2 r2 => hr d v ds vs Φ S2 G2 H3 Q m2 c2 (t2.rp r1) r2 q2 (o.tr (t1.trans t2))) (ex.tr t1)
theorem ew_bm0 {E : XK} {to : TE} {δ : Dn} {S : List Addr} {H : Hp} {Φ : Ph} {X : Px} {T : String} {r : V → List V → Hp → VK → Prop} {B : Dv → List Dv → Ph → List Addr → Hp → Prop} (hr : MeD W r B)
    (h : Ew W E to δ S H (fun d S1 H1 => tyD W T d S1 H1 ∧ B d [] Φ S1 H1) X) : Ew W E (tBM0 W.K T r to) δ S H Φ X := fun σ H1 Q m c o ex =>
  h σ H1 _ m c (fun v d S1 G1 H2 ⟨ty, q⟩ m1 t1 c1 r1 => ⟨tyD_V m1 r1 ty, hr d v [] [] Φ S1 G1 H2 Q m1 c1 r1 .nil q (o.tr t1)⟩) ex
theorem ew_m1 {E : XK} {to te : TE} {δ : Dn} {S : List Addr} {H : Hp} {Φ : Ph} {X : Px} {r : V → List V → Hp → VK → Prop} {B : Dv → List Dv → Ph → List Addr → Hp → Prop} (hr : MeD W r B)
    (h : Ew W E to δ S H (fun d S1 H1 => (∃ z, d = .str z) ∧ Ew W E te δ S1 H1 (fun y S2 H2 => B d [y] Φ S2 H2) X) X) : Ew W E (tM1 r to te) δ S H Φ X := fun σ H1 Q m c o ex => by
  refine h σ H1 _ m c (fun v d S1 G1 H2 ⟨⟨z, e⟩, q⟩ m1 t1 c1 r1 => ?_) ex
  subst e
  cases r1
  exact ⟨⟨z, rfl⟩, q σ H2 _ m1 (c.tr t1) (fun u y S2 G2 H3 q2 m2 t2 c2 r2 => hr _ _ [y] [u] Φ S2 G2 H3 Q m2 c2 (.str z) (.cons r2 .nil) q2 (o.tr (t1.trans t2))) (ex.tr t1)⟩
/-- a list is written -/
theorem LstAt.put {S : List Addr} {H1 : Hp} {a : Addr} {es : List Dv} {ys : List V} (h : a ∈ S) (r : RpA W (off S H1) es ys) : LstAt W S (upd H1 a (.lst ys)) a es := by
  refine ⟨h, ys, upd_same, r.lq fun b o e n => ?_⟩
  obtain ⟨e1, e2⟩ := of_off e
  exact off_of (by rw [upd_ne (fun z => e2 (by rw [z]; exact h))]; exact e1) e2
theorem Vo.put {S : List Addr} {H1 : Hp} {Φ : Ph} {Q : VK} {a : Addr} {v : V} {d : Dv} {o0 o1 : HO} (o : Vo W S H1 Φ Q) (c : Cn W S [] [] H1) (h : a ∈ S) (hx : H1 a = some o0) (i : isM o0 = true) (q : Φ d S (upd H1 a o1)) (r : Rp W (off S (upd H1 a o1)) d v) : Q v (upd H1 a o1) := by
  have t : Tr W S H1 S (upd H1 a o1) := Tr.md1 c.dom (Md.upd hx i h)
  exact o v d S _ _ q .refl t (c.tr t) r
def appB : Dv → List Dv → Ph → List Addr → Hp → Prop := fun d ds Φ S H => ∃ a xs y, d = .adr a ∧ ds = [y] ∧ LstAt W S H a xs ∧ xs.length < sizeLine ∧ ∀ H', Md W [a] H H' → LstAt W S H' a (xs ++ [y]) → Φ .non S H'
theorem meD_append : MeD W rAppend (appB (W := W)) := fun x v xs vs Φ S H H1 Q m c rx rs ⟨a, ds, y, e1, e2, ⟨hs, ws, hw, ra⟩, hz, q⟩ o => by
  subst e1 e2
  cases rx
  cases rs with
  | cons ry rr =>
    cases rr
    have hw1 := m.at hw
    refine ⟨a, ws, _, rfl, rfl, hw1, by rw [← ra.length]; exact hz, ?_⟩
    exact o.put c hs hw1 rfl (q _ (m.up.trans (Md.upd hw1 rfl (List.mem_singleton.mpr rfl))) (LstAt.put hs ((ra.lq (lq_md m)).snoc ry))) .non
def popB : Dv → List Dv → Ph → List Addr → Hp → Prop := fun d ds Φ S H => ∃ a xs y, d = .adr a ∧ ds = [] ∧ LstAt W S H a (xs ++ [y]) ∧ ∀ H', Md W [a] H H' → LstAt W S H' a xs → Φ y S H'
theorem meD_pop : MeD W rPop (popB (W := W)) := fun x v xs vs Φ S H H1 Q m c rx rs ⟨a, ds, y, e1, e2, ⟨hs, ws, hw, ra⟩, q⟩ o => by
  subst e1 e2
  cases rx
  cases rs
  have hw1 := m.at hw
  have ra1 := ra.lq (lq_md m)
  have hl := ra.length
  rw [List.length_append] at hl
  have hl : ds.length + 1 = ws.length := hl
  obtain ⟨u, e, r⟩ := ra1.get (i := ds.length) (d := y) (by simp)
  have hd : ws.dropLast = ws.take ds.length := by rw [List.dropLast_eq_take]; congr 1; omega
  refine ⟨a, ws, u, rfl, rfl, hw1, by rw [← hl]; exact e, ?_⟩
  have rt := ra1.take ds.length
  rw [List.take_left] at rt
  rw [hd]
  have lput := LstAt.put (W := W) hs rt
  have lq6 : Lq (off S H1) (off S (upd H1 a (.lst (ws.take ds.length)))) := fun b o e n => by
    obtain ⟨e1, e2⟩ := of_off e
    exact off_of (by rw [upd_ne (fun z => e2 (by rw [z]; exact hs))]; exact e1) e2
  exact o.put c hs hw1 rfl (q _ (m.up.trans (Md.upd hw1 rfl (List.mem_singleton.mpr rfl))) lput) (r.lq lq6)
/-- xs[i] = v -/
def setD (W : Wd) (t : TSet) (B : Dv → Dv → Dv → List Addr → Hp → (List Addr → Hp → Prop) → Prop) : Prop := ∀ (o i v : Dv) (ov iv u : V) (S : List Addr) (H H1 : Hp) (Φ : List Addr → Hp → Prop) (Q : Hp → Prop), Md W [] H H1 → Cn W S [] [] H1 → Rp W (off S H1) o ov → Rp W (off S H1) i iv → Rp W (off S H1) v u →
  B o i v S H Φ → (∀ S' H' H2, Φ S' H' → Md W [] H' H2 → Tr W S H1 S' H2 → Cn W S' [] [] H2 → Q H2) → t ov iv u H1 Q
theorem gw_sub {to ti : TE} {t : TSet} {d : Dv} {δ : Dn} {S : List Addr} {H : Hp} {Φ : PhN} {B : Dv → Dv → Dv → List Addr → Hp → (List Addr → Hp → Prop) → Prop} (hr : setD W t B) (h : Ew W E0 to δ S H (fun o S1 H1 => Ew W E0 ti δ S1 H1 (fun i S2 H2 => B o i d S2 H2 (fun S3 H3 => Φ δ S3 H3)) (fun _ _ _ => False)) (fun _ _ _ => False)) :
    Gw W (gSub to ti t) d δ S H Φ := fun σ H1 v Q m c r o => by
  have xo : ∀ S H, Xo W E0 S H (fun _ _ _ => False) := fun _ _ _ _ _ _ z => z.elim
  refine h σ H1 _ m c (fun ov od S1 G1 H2 q m1 t1 c1 r1 => ?_) (xo _ _)
  refine q σ H2 _ m1 (c.tr t1) (fun iv id S2 G2 H3 q2 m2 t2 c2 r2 => ?_) (xo _ _)
  exact hr od id d ov iv v S2 G2 H3 _ _ m2 c2 (t2.rp r1) r2 ((t1.trans t2).rp r) q2 fun S' H' H4 q3 m3 t3 c3 => o σ δ S' H' H4 q3 m3 ((t1.trans t2).trans t3) ((c.tr (t1.trans t2)).tr t3)
theorem setD_list : setD W rSetL (fun o i v S H Φ => ∃ a xs k j, o = .adr a ∧ i = .int k ∧ LstAt W S H a xs ∧ ixN xs.length k = some j ∧ ∀ H', Md W [a] H H' → LstAt W S H' a (xs.set j v) → Φ S H') := fun o i v ov iv u S H H1 Φ Q m c ro ri rv ⟨a, xs, k, j, e1, e2, ⟨hs, ws, hw, ra⟩, hj, q⟩ ok => by
  subst e1 e2
  cases ro
  cases ri
  have hw1 := m.at hw
  refine ⟨a, ws, k, j, rfl, rfl, hw1, by rw [← ra.length]; exact hj, ?_⟩
  have mu : Md W [a] H1 (upd H1 a (.lst (ws.set j u))) := Md.upd hw1 rfl (List.mem_singleton.mpr rfl)
  have t : Tr W S H1 S (upd H1 a (.lst (ws.set j u))) := Tr.md1 c.dom (Md.upd hw1 rfl hs)
  exact ok S _ _ (q _ (m.up.trans mu) (LstAt.put hs ((ra.lq (lq_md m)).set rv j))) .refl t (c.tr t)
/-- sep.join -/
def rJoin (K : PySem.W.Frag) : V → List V → Hp → VK → Prop := fun x xs H Q => ∃ a p, ∃ ys : List Str, x = .str a ∧ xs = [.ref p] ∧ (SqL K H p (ys.map V.str) ∨ SqT K H p (ys.map V.str)) ∧ (ys.map (·.length)).sum + ys.length * a.length ≤ 16777216 ∧ Q (.str (Txt.join a ys)) H
theorem meD_join : MeD W (rJoin W.K) (fun d ds Φ S H => ∃ a ys, d = .str a ∧ ds = [.lst (ys.map .str)] ∧ (ys.map (·.length)).sum + ys.length * a.length ≤ 16777216 ∧ Φ (.str (Txt.join a ys)) S H) := fun x v xs vs Φ S H H1 Q m c rx rs ⟨a, ys, e1, e2, hz, q⟩ o => by
  subst e1 e2
  cases rx
  cases rs with
  | cons ry rr =>
    cases rr
    cases ry with
    | lst h2 ra =>
      rw [ra.strs] at h2
      exact ⟨a, _, ys, rfl, rfl, .inl (sqL_off h2), hz, o.pure c m (.str _) q⟩

/-! ### slices -/
def Ow (W : Wd) (E : XK) (to : TO) (δ : Dn) (S : List Addr) (H : Hp) (Φ : Option Int → List Addr → Hp → Prop) (X : Px) : Prop := ∀ (σ : L2.St) (H1 : Hp) (Q : Option Int → Hp → Prop), Md W [] H H1 → Cn W S δ σ H1 → (∀ i S' H' H2, Φ i S' H' → Md W [] H' H2 → Tr W S H1 S' H2 → Cn W S' [] [] H2 → Q i H2) → Xo W E S H1 X → to σ H1 Q
theorem ow_none {E : XK} {δ : Dn} {S : List Addr} {H : Hp} {X : Px} {Φ : Option Int → List Addr → Hp → Prop} (q : Φ none S H) : Ow W E tNoPart δ S H Φ X := fun σ H1 Q m c o _ => o none S H H1 q m (Tr.refl c.dom) c.nil
theorem ow_some {E : XK} {te : TE} {δ : Dn} {S : List Addr} {H : Hp} {X : Px} {Φ : Option Int → List Addr → Hp → Prop} (h : Ew W E te δ S H (fun d S1 H1 => ∃ i, d = .int i ∧ Φ (some i) S1 H1) X) : Ow W E (tPart te) δ S H Φ X := fun σ H1 Q m c o ex =>
  h σ H1 _ m c (fun v d S1 G1 H2 ⟨i, e, q⟩ m1 t1 c1 r1 => by subst e; cases r1; exact ⟨i, rfl, o (some i) S1 G1 H2 q m1 t1 c1⟩) ex
def rSlU (K : PySem.W.Frag) : V → Option Int → Option Int → Hp → VK → Prop := fun x lo hi H Q => rSlL K x lo hi H Q ∨ (rSlA K x lo hi H Q ∨ rSlS x lo hi H Q)
theorem u_sl {X : Cx} : SlR X (rSlU X.K) := SlR.or sl_list (SlR.or sl_tupA sl_str)
def cutD (xs : List Dv) (lo hi : Option Int) : List Dv := (xs.drop (HT.sIx xs.length 0 lo)).take (HT.sIx xs.length xs.length hi - HT.sIx xs.length 0 lo)
theorem RpA.cut {G : Hp} {ds : List Dv} {vs : List V} (r : RpA W G ds vs) (lo hi : Option Int) : RpA W G (cutD ds lo hi) (cutV vs lo hi) := by
  unfold cutD cutV
  rw [r.length]
  exact (r.drop _).take _
def slB : Dv → Option Int → Option Int → Ph → List Addr → Hp → Prop := fun d lo hi Φ S H => (∃ ds, d = .lst ds ∧ Φ (.lst (cutD ds lo hi)) S H) ∨ (∃ ds, d = .tup ds ∧ Φ (.tup (cutD ds lo hi)) S H) ∨ ∃ z, d = .str z ∧ z.length ≤ sizeLine ∧ Φ (.str (cutS z lo hi)) S H
theorem ew_sl {E : XK} {te : TE} {tl th : TO} {δ : Dn} {S : List Addr} {H : Hp} {Φ : Ph} {X : Px}
    (h : Ew W E te δ S H (fun d S1 H1 => Ow W E tl δ S1 H1 (fun lo S2 H2 => Ow W E th δ S2 H2 (fun hi S3 H3 => slB d lo hi Φ S3 H3) X) X) X) : Ew W E (tSl (rSlU W.K) te tl th) δ S H Φ X := fun σ H1 Q m c o ex => by
  refine h σ H1 _ m c (fun v d S1 G1 H2 q m1 t1 c1 r1 => ?_) ex
  refine q σ H2 _ m1 (c.tr t1) (fun lo S2 G2 H3 q2 m2 t2 c2 => ?_) (ex.tr t1)
  refine q2 σ H3 _ m2 ((c.tr t1).tr t2) (fun hi S3 G3 H4 q3 m3 t3 c3 => ?_) ((ex.tr t1).tr t2)
  have r3 := (t2.trans t3).rp r1
  have o3 := o.tr (t1.trans (t2.trans t3))
  rcases q3 with ⟨ds, e, qq⟩ | ⟨ds, e, qq⟩ | ⟨z, e, hz, qq⟩
  · subst e
    cases r3 with
    | lst h2 ra => exact .inl ⟨_, _, rfl, sqL_off h2, fun p hp => o3.new c3 m3 hp qq (new_lst c3 hp (ra.cut lo hi))⟩
  · subst e
    cases r3 with
    | tup h2 ra =>
      refine .inr (.inl ⟨_, _, rfl, (off_lq S3 H4).sqT h2, fun hw => ?_, fun _ p hp => o3.new c3 m3 hp qq (new_tup c3 hp (ra.cut lo hi))⟩)
      refine o3.pure c3 m3 (.tup h2 ?_) qq
      have e : cutD ds lo hi = ds := by
        rw [← ra.length] at hw
        unfold cutD
        rw [hw.1, hw.2, List.drop_zero, Nat.sub_zero, List.take_length]
      rw [e]
      exact ra
  · subst e
    cases r3
    exact .inr (.inr ⟨z, rfl, hz, o3.pure c3 m3 (.str _) qq⟩)
theorem ew_revL {E : XK} {te : TE} {δ : Dn} {S : List Addr} {H : Hp} {Φ : Ph} {X : Px} (h : Ew W E te δ S H (fun d S1 H1 => (∃ ds, d = .lst ds ∧ Φ (.lst ds.reverse) S1 H1) ∨ ∃ a ds, d = .adr a ∧ LstAt W S1 H1 a ds ∧ Φ (.lst ds.reverse) S1 H1) X) : Ew W E (tRevL W.K te) δ S H Φ X := fun σ H1 Q m c o ex =>
  h σ H1 _ m c (fun v d S1 G1 H2 q m1 t1 c1 r1 => by
    rcases q with ⟨ds, e, q⟩ | ⟨a, ds, e, ⟨hs, ys, hy, ra⟩, q⟩
    · subst e
      cases r1 with
      | lst h2 ra => exact ⟨_, _, rfl, sqL_off h2, fun p hp => (o.tr t1).new c1 m1 hp q (new_lst c1 hp ra.reverse)⟩
    · subst e
      cases r1
      exact ⟨_, _, rfl, .inl (.inl (m1.at hy)), fun p hp => (o.tr t1).new c1 m1 hp q (new_lst c1 hp (ra.lq (lq_md m1)).reverse)⟩) ex
end
/-! ### a text back to front -/
def revS (z : Str) : Str := ⟨z.cps.toList.reverse.toArray⟩
def tRevS (te : TE) : TE := fun σ H Q => te σ H fun x H1 => ∃ z, x = .str z ∧ z.length ≤ 100000 ∧ Q (.str (revS z)) H1
theorem pe_revS {X : Cx} {e : Expr} {te : TE} {k : Nat} {p1 p2 p3 pos : Pos} (he : PE X e te) : PE X (.Subscript e (.Slice none none (some (.UnaryOp .USub (.Constant (.int 1) k p1) p2)) p3) pos) (tRevS te) := by
  refine ⟨fun pins s σ H Q I h => ?_⟩
  refine Subscript_ (thn (he.run pins s σ H _ I h) fun v s1 ⟨x, H1, I1, r1, q1⟩ => ?_)
  obtain ⟨z, ex, hz, q⟩ := q1
  subst ex
  obtain ⟨t, rfl⟩ := r1
  have hst : PO X (some (.UnaryOp .USub (.Constant (.int 1) k p1) p2)) (tPart (tUn (rU fun i => .int (-i)) (tC (.int 1)))) := po_some (pe_un un_neg pe_int)
  refine wpAny_Slice (thn (po_none.run pins s1 σ H1 (fun o H2 => o = none ∧ H2 = H1) I1 ⟨rfl, rfl⟩) fun vl s2 ⟨l, H2, I2, pl, el, e2⟩ => ?_)
  subst el e2
  refine thn (po_none.run pins s2 σ H2 (fun o H3 => o = none ∧ H3 = H2) I2 ⟨rfl, rfl⟩) fun vu s3 ⟨u, H3, I3, pu, eu, e3⟩ => ?_
  subst eu e3
  refine thn (hst.run pins s3 σ H3 (fun o H4 => o = some (-1) ∧ H4 = H3) I3 ⟨1, rfl, -1, rfl, rfl, rfl⟩) fun vs s4 ⟨o, H4, I4, ps, eo, e4⟩ => ?_
  subst eo e4
  have I5 : Inv X pins σ H4 { s4 with heap := s4.heap.push { cls := .type "slice", data := .fields #[vl, vu, vs] } } := I4.kept (t' := s4.toks) fun b ob q => Heap.get?_push_of_some _ q
  obtain ⟨l, rfl, hl1⟩ := IsPart.raw pl
  obtain ⟨u, rfl, hu1⟩ := IsPart.raw pu
  obtain ⟨st, rfl, hs1⟩ := IsPart.raw ps
  have el : l = none := by cases l with | none => rfl | some _ => cases hl1
  have eu : u = none := by cases u with | none => rfl | some _ => cases hu1
  subst el eu
  have es : ∃ tk, st = some (-1, tk) := by
    cases st with
    | none => cases hs1
    | some w =>
      obtain ⟨a, b⟩ := w
      cases hs1
      exact ⟨b, rfl⟩
  obtain ⟨tk, rfl⟩ := es
  show wpAny (model X.prog X.w) X.A (subscriptTail e (.Slice none none (some (.UnaryOp .USub (.Constant (.int 1) k p1) p2)) p3) (.str z t) (.ref s4.heap.objs.size)) (EP X pins σ Q) X.xe _
  refine tail_any (ops := [.str z t, .ref s4.heap.objs.size]) (T := "str") (typeIs_str _ _ _) F.slot_str_getitem.lookup ?_ (by with_unfolding_all rfl)
  obtain ⟨os, hos, hcs, hds⟩ := Heap.IsSliceOf.new s4.heap (partValue (none : Option (Int × Tok))) (partValue (none : Option (Int × Tok))) (partValue (some ((-1 : Int), tk)))
  refine wpAny_getItem_str_slice (l := none) (u := none) (st := some (-1, tk)) ⟨os, hos, hcs, hds⟩ rfl ?_
  have hne : ¬ (((((some ((-1 : Int), tk)).map (·.1)).getD 1 == 1) && ((slicePicked z none none (some (-1, tk))).length == z.length)) = true) := by
    have : ((((some ((-1 : Int), tk)).map (·.1)).getD 1 == 1)) = false := rfl
    rw [this]; simp
  have hp : (slicePicked z none none (some (-1, tk))).filterMap (z.cps[·]?) = z.cps.toList.reverse := by
    show (Builtin.Str.strSliceIndices none none (-1) z.length).filterMap (z.cps[·]?) = _
    rw [picked_rev, PySem.W.krv_range, List.filterMap_reverse]
    have := PySem.W.krv_all z.cps
    show ((List.range z.cps.size).filterMap (z.cps[·]?)).reverse = _
    rw [this]
  unfold sliceMade
  rw [if_neg hne, hp]
  refine ⟨?_, .str (revS z), H4, I5.tok _, ⟨_, rfl⟩, q⟩
  have e : (z.cps.toList.reverse.toArray).size = z.length := by simp [Str.length]
  show (z.cps.toList.reverse.toArray).size ≤ sizeLine
  rw [e]
  exact Nat.le_trans hz (by decide)
theorem ew_revS {W : Wd} {E : XK} {te : TE} {δ : Dn} {S : List Addr} {H : Hp} {Φ : Ph} {X : Px} (h : Ew W E te δ S H (fun d S1 H1 => ∃ z, d = .str z ∧ z.length ≤ 100000 ∧ Φ (.str (revS z)) S1 H1) X) : Ew W E (tRevS te) δ S H Φ X := fun σ H1 Q m c o ex =>
  h σ H1 _ m c (fun v d S1 G1 H2 ⟨z, e, hz, q⟩ m1 t1 c1 r1 => by
    subst e
    cases r1
    exact ⟨z, rfl, hz, (o.tr t1).pure c1 m1 (.str _) q⟩) ex

/-! ### enumerate of a text -/
def Ites (x : Str) : It := ⟨fun i _ => i < x.cps.size, fun i H v H' => ∃ T c, v = .ref T ∧ H T = none ∧ H' = upd H T (.tup [.int (i : Nat), .str ⟨#[c]⟩]) ∧ x.cps[i]? = some c, fun i _ => x.cps.size ≤ i⟩
theorem turn_enumS {P : Program} {w : World} {K : PySem.W.Frag} {elts : List Expr} {kk : Nat} {tpos : Pos} (e it : Addr) (x : Str) (t : Tok) :
    Turn P w K (.Tuple elts kk tpos) (Ites x) [e, it] e (fun i h => (∃ old, IsEnum h e it ((i : Nat) : Int) old) ∧ h.IsStrIter it (strIterType x) x t i ∧ e ≠ it ∧ i ≤ x.cps.size) where
  mem := by simp
  obj := fun i h st b hb => by
    obtain ⟨⟨old, he⟩, ⟨o, ho, hc, hd⟩, _⟩ := st
    have e' : b = e ∨ b = it := by simpa using hb
    rcases e' with z | z
    · rw [z]; exact ⟨_, he, fun v q => nomatch q⟩
    · rw [z]; exact ⟨o, ho, fun v q => by rw [hd] at q; cases q⟩
  keep := fun i h h' st k => let ⟨⟨old, he⟩, ⟨o, ho, r⟩, hne⟩ := st; ⟨⟨old, k e (by simp) _ he⟩, ⟨o, k it (by simp) o ho, r⟩, hne⟩
  item := by
    intro X hP hw hK hc i pins s σ H E I hf st hg
    subst hP hw hK
    obtain ⟨⟨old, he⟩, hit, hne, hle⟩ := st
    have hel : e < s.heap.objs.size := Heap.lt_size he
    have hil : it < s.heap.objs.size := by obtain ⟨_, q, _⟩ := hit; exact Heap.lt_size q
    have D := Draws.text (prog := X.prog) (w := X.w) (A := X.A.in1) (I.ok.hd hc) it x t
    refine wpAny_pyNext_enum_itemD D he hit hg hne (fun z => hne (by simpa using z)) fun u h' tk hP ho hit' hT hsz hk => ?_
    obtain ⟨c, u2, hcx, rfl⟩ := hP
    refine ⟨_, rfl, wpAny_letOwnedTupleGo_enum (s := { s with heap := h', toks := tk + 1 }) ho fun h'' he' sb => ?_⟩
    have hT2 := (sb.2 _ (Nat.ne_of_gt hel)).trans hT
    have new : ObjOk X.prog X.w (upd H s.heap.objs.size (.tup [.int (i : Nat), .str ⟨#[c]⟩])) h'' s.heap.objs.size (.tup [.int (i : Nat), .str ⟨#[c]⟩]) :=
      ⟨by show 2 ≤ sizeLine; decide, [.int i tk, .str ⟨#[c]⟩ u2], .cons ⟨_, rfl⟩ (.cons ⟨_, rfl⟩ .nil), ⟨_, hT2, rfl, _, rfl⟩⟩
    have I1 : Inv X pins σ (upd H s.heap.objs.size (.tup [.int (i : Nat), .str ⟨#[c]⟩])) { s with heap := h'', toks := tk + 1 } :=
      I.turnedNew (ch := [e, it]) (fun b ob hb q => (sb.2 b (fun z => hb (by simp [z]))).trans (hk b ob (fun z => hb (by simp [z])) (fun z => hb (by simp [z])) q)) hf (Nat.le_refl _) new
    refine ⟨.ref s.heap.objs.size, _, I1, rfl, ⟨_, c, rfl, I.hok.fresh (Nat.le_refl _), rfl, hcx⟩, ⟨⟨.str ⟨#[c]⟩ u2, ?_⟩, ?_, hne, hg⟩, fun b hb => ?_⟩
    · have e1 : ((i + 1 : Nat) : Int) = (i : Int) + 1 := by omega
      rw [e1]; exact he'
    · obtain ⟨oi, hi1, hi2⟩ := hit'
      exact ⟨oi, (sb.2 it (Ne.symm hne)).trans hi1, hi2⟩
    · have hb' : b < s.heap.objs.size := by
        have e' : b = e ∨ b = it := by simpa using hb
        rcases e' with z | z
        · rw [z]; exact hel
        · rw [z]; exact hil
      rw [upd_ne (Nat.ne_of_lt hb')]
      exact (hf b hb).1
  done := by
    intro X hP hw hK hc i pins s σ H E I hf st hg
    subst hP hw hK
    obtain ⟨⟨old, he⟩, hit, hne, hle⟩ := st
    obtain ⟨f0, f1, f2, f3, f4, f5⟩ := hf it (by simp)
    have D := Draws.text (prog := X.prog) (w := X.w) (A := X.A.in1) (I.ok.hd hc) it x t
    have hge : x.cps.size ≤ i := hg
    have ei : i = x.cps.size := Nat.le_antisymm hle hge
    subst ei
    exact wpAny_pyNext_enum_endD D he hit fun h' eb => ⟨rfl, I.turned (t' := s.toks) (fun b o hb q => eb b o hb q) f0 f1 f3 f4 f5⟩
  self := fun A i s Q E st h => let ⟨⟨_, he⟩, _⟩ := st; wpAny_pyIter_enum he h
def iEnumS (ta : TA) : TI := fun σ H R => ta σ H fun vs H1 => ∃ x, vs = [.str x] ∧ R (Ites x) H1
theorem pi_enumS {X : Cx} {e : Expr} {ta : TA} {p pos tpos : Pos} {elts : List Expr} {kk : Nat} (hg : Gl X "enumerate") (hm : X.mg "enumerate" = none) (ha : PA X [e] ta) (hs : starEach [e] X.env = [(false, eval e X.env)] := by rfl) :
    PI X (.Tuple elts kk tpos) (.Call (.Name "enumerate" p) [e] [] pos) (iEnumS ta) := by
  refine ⟨fun pins s σ H R I h => ?_⟩
  refine Call_ (ld_blt I hg hm boot_enumerate (PyProof.Rows.callWith_type1 (thn (ha.run pos pins s σ H _ I h) fun us s1 ⟨vs, H1, I1, r1, q1⟩ => ?_) hs rfl))
  obtain ⟨x, ex, q⟩ := q1
  subst ex
  cases r1 with
  | cons r rr =>
    cases rr
    obtain ⟨t, rfl⟩ := r
    refine call_enumerate_str fun h' he hit hsz hk => wpAny_pyIter_enum he ?_
    have I2 : Inv X pins σ H1 { s1 with heap := h' } := I1.kept (t' := s1.toks) hk
    refine ⟨s1.heap.objs.size + 1, [s1.heap.objs.size + 1, s1.heap.objs.size], _, _, H1, rfl, I2, turn_enumS (s1.heap.objs.size + 1) s1.heap.objs.size x t, ⟨⟨.none, he⟩, hit, Nat.succ_ne_self _, Nat.zero_le _⟩, fun b hb => ?_, q⟩
    have e' : b = s1.heap.objs.size + 1 ∨ b = s1.heap.objs.size := by simpa using hb
    have hle : s1.heap.objs.size ≤ b := by
      rcases e' with z | z
      · rw [z]; exact Nat.le_add_right _ _
      · rw [z]; exact Nat.le_refl _
    exact I1.fpOk hle (I1.hok.fresh hle)
/-- numbered -/
def numb : Nat → List Dv → List Dv
  | _, [] => []
  | n, d :: r => .tup [.int n, d] :: numb (n + 1) r
theorem numb_get : ∀ {ds : List Dv} {n i : Nat} {d : Dv}, (numb n ds)[i]? = some d → ∃ x, ds[i]? = some x ∧ d = .tup [.int ((n + i : Nat) : Int), x]
  | [], _, _, _, h => by simp [numb] at h
  | x :: r, n, 0, d, h => by
    simp [numb] at h
    exact ⟨x, rfl, by rw [← h]; rfl⟩
  | x :: r, n, i + 1, d, h => by
    have h' : (numb (n + 1) r)[i]? = some d := by simpa [numb] using h
    obtain ⟨y, e1, e2⟩ := numb_get h'
    exact ⟨y, by simpa using e1, by rw [e2]; congr 3; omega⟩
theorem numb_len : ∀ (ds : List Dv) (n : Nat), (numb n ds).length = ds.length
  | [], _ => rfl
  | _ :: r, n => congrArg (· + 1) (numb_len r (n + 1))
section
variable {W : Wd}
theorem pair_new {S : List Addr} {H H3 : Hp} {T : Addr} {i : Nat} {d : Dv} {v : V} (c : Cn W S [] [] H) (hT : H T = none) (e : H3 = upd H T (.tup [.int (i : Nat), v])) (r : Rp W (off S H) d v) : Md W [] H H3 ∧ Rp W (off S H3) (.tup [.int (i : Nat), d]) (.ref T) := by
  subst e
  exact ⟨Md.new hT, new_tup c hT (.cons (.int _) (.cons r .nil))⟩
theorem iw_enumS {E : XK} {ta : TA} {δ : Dn} {S : List Addr} {H : Hp} {X : Px} {Φ : PhI} (h : Aw W E ta δ S H (fun xs S1 H1 => ∃ x, xs = [.str x] ∧ Φ (numb 0 (signs x)) (fun _ _ => True) S1 H1) X) : Iw W E (iEnumS ta) δ S H Φ X := fun σ H1 R m c o ex =>
  h σ H1 _ m c (fun vs xs S1 G1 H2 ⟨z, e, q⟩ m1 t1 c1 r1 => by
    subst e
    cases r1 with
    | cons r rr =>
      cases r
      cases rr
      have e9 : (signs z).length = z.cps.size := by unfold signs; simp
      refine ⟨z, rfl, o _ _ _ S1 G1 H2 q m1 t1 fun i S' G' H' tr c' _ _ => ⟨fun d hd => ?_, fun hl => ?_⟩⟩
      · obtain ⟨x, hx, ed⟩ := numb_get hd
        have hx0 := hx
        unfold signs at hx
        rw [List.getElem?_map] at hx
        cases e : z.cps.toList[i]? with
        | none =>
          rw [e] at hx
          cases hx
        | some cc =>
          rw [e] at hx
          cases hx
          have e2 : z.cps[i]? = some cc := by rw [← Array.getElem?_toList]; exact e
          have hlt : i < z.cps.size := by
            obtain ⟨h9, _⟩ := Array.getElem?_eq_some_iff.mp e2
            exact h9
          refine ⟨hlt, fun v H3 ⟨T, c3, e1, hT, e3, e4⟩ => ?_⟩
          subst e1
          rw [e2] at e4
          cases e4
          subst ed
          rw [Nat.zero_add]
          exact pair_new c' hT e3 (.str _)
      · rw [numb_len, e9] at hl
        exact hl) ex
theorem iw_enum {E : XK} {ta : TA} {δ : Dn} {S : List Addr} {H : Hp} {X : Px} {Φ : PhI} (h : Aw W E ta δ S H (fun xs S1 H1 => (∃ ds, xs = [.lst ds] ∧ Φ (numb 0 ds) (fun _ _ => True) S1 H1) ∨ ∃ a ds, xs = [.adr a] ∧ LstAt W S1 H1 a ds ∧ Φ (numb 0 ds) (fun S H => LstAt W S H a ds) S1 H1) X) : Iw W E (iEnum W.K ta) δ S H Φ X := fun σ H1 R m c o ex =>
  h σ H1 _ m c (fun vs xs S1 G1 H2 q m1 t1 c1 r1 => by
    have go : ∀ {a : Addr} {ds : List Dv} {st : List Addr → Hp → Prop}, Wk W (Itl W.K a) ds st S1 H2 → Wk W (Ite W.K a) (numb 0 ds) st S1 H2 := fun {a ds st} w i S' G' H' tr c' hs m' => by
      obtain ⟨w1, w2⟩ := w i S' G' H' tr c' hs m'
      refine ⟨fun d hd => ?_, fun hl => w2 (by rw [numb_len] at hl; exact hl)⟩
      obtain ⟨x, hx, ed⟩ := numb_get hd
      obtain ⟨⟨xs, v, e1, e2⟩, w4⟩ := w1 x hx
      refine ⟨⟨xs, v, e1, e2⟩, fun u H3 ⟨T, y, f1, f2, f3, f4⟩ => ?_⟩
      subst f1
      obtain ⟨_, rv⟩ := w4 y H' ⟨rfl, f4⟩
      subst ed
      rw [Nat.zero_add]
      exact pair_new c' f2 f3 rv
    rcases q with ⟨ds, e, q⟩ | ⟨a, ds, e, l, q⟩
    · subst e
      cases r1 with
      | cons r rr =>
        cases rr
        cases r with
        | lst hs ra => exact ⟨_, _, rfl, sqL_off hs, o _ _ _ S1 G1 H2 q m1 t1 (go (wk_list hs ra))⟩
    · subst e
      cases r1 with
      | cons r rr =>
        cases rr
        cases r
        obtain ⟨hs, ys, hy, ra⟩ := id l
        exact ⟨_, _, rfl, .inl (.inl (m1.at hy)), o _ _ _ S1 G1 H2 q m1 t1 (go wk_mlist)⟩) ex
end
end Dw

namespace Dw
open PySem PySem.Spec PyProof.Rows L2
section
variable {X : Cx} {pos : Pos}
theorem pg_seq {es : List Expr} {k : Nat} {t : TGs} {n : Nat} (hc : X.calm = true) (h : PGs X es t) (hn : (assignEach es X.env).length = n := by rfl) (hst : (assignEach es X.env).findIdx? (·.1) = none := by rfl) : PG X (.Tuple es k pos) (gSeq X.K n t) :=
  ⟨fun pins s σ H v u Q I r hw => hw.elim (fun q => (pg_tup hc h hn hst).run pins s σ H v u Q I r q) fun q => (pg_lst hc h hn hst).run pins s σ H v u Q I r q⟩
theorem pi_any {tg l : Expr} {tl : TE} (hl : PE X l tl) : PI X tg l (iAny X.K tl) :=
  ⟨fun pins s σ H R I h => h.elim (fun q => (pi_list hl).run pins s σ H R I q) fun q => q.elim (fun q => (pi_tup hl).run pins s σ H R I q) fun q => (pi_str hl).run pins s σ H R I q⟩
/-- an own exception class over ValueError -/
structure XF (K : PySem.W.Frag) (mg : Str → Option Value) (x : Str) (C : Addr) : Prop where
  g : mg x = some (.ref C)
  x : PySem.W.excIn K C [.type "ValueError", .type "Exception", .type "BaseException", .type "object"] "ValueError.__new__" = true
  k : PySem.W.keepIn K (.ref C) = true
  b : PySem.W.subIn K (.ref C) (.type "BaseException") = some true
  t : PySem.W.typeIn K (.ref C) = some (.type "type")
def tRz (E : XK) (cls : Value) : TS := fun _ _ H => E cls none H
theorem px_raise {x m : Str} {j : Nat} {p p2 pos2 : Pos} {C : Addr} {E : XK} (T : XF X.K X.mg x C) (tk : Tk X E) (hc : X.calm = true := by rfl) (hg : Gl X x := by rfl) (hdb : (x == ("__debug__" : Str)) = false := by decide) :
    PS X (.Raise (some (.Call (.Name x p) [.Constant (.str m) j p2] [] pos)) none pos2) (tRz E (.ref C)) :=
  ps_raise hc tk (pmk_own PySem.F.excBase_ValueError T.x T.g T.k (raises_own T.b T.t) hg hdb)
/-- d[key], a written dict of the module -/
def rKix (K : PySem.W.Frag) (d : Addr) : R2 := fun x y H Q => ∃ (z : Str) (u0 : Value) (v0 : V), x = .ref d ∧ y = .str z ∧ PySem.W.nsIn K d z = some (some u0) ∧ RelV v0 u0 ∧ Q v0 H
def rKin (K : PySem.W.Frag) (d : Addr) : R2 := fun x y H Q => ∃ (z : Str) (r : Option Value), x = .str z ∧ y = .ref d ∧ PySem.W.nsIn K d z = some r ∧ Q (.bl r.isSome) H
def rKnot (K : PySem.W.Frag) (d : Addr) : R2 := fun x y H Q => ∃ (z : Str) (r : Option Value), x = .str z ∧ y = .ref d ∧ PySem.W.nsIn K d z = some r ∧ Q (.bl (!r.isSome)) H
theorem u_kin {d : Addr} {es : Array DictEntry} {n : Nat} (D : KDict X.K X.w d es n) : OpR X (compareOp .In) (rKin X.K d) := op_in_kd D
theorem u_knot {d : Addr} {es : Array DictEntry} {n : Nat} (D : KDict X.K X.w d es n) : OpR X (compareOp .NotIn) (rKnot X.K d) := op_notIn_kd D
theorem pe_kix {a b : Expr} {ta tb : TE} {d : Addr} {es : Array DictEntry} {n : Nat} (D : KDict X.K X.w d es n) (ha : PE X a (tC (.ref d))) (hb : PE X b tb) (hs : PlainIx b := by intro _ _; rfl) : PE X (.Subscript a b pos) (tOp (rKix X.K d) (tC (.ref d)) tb) := by
  refine pe_ix (r := rKix X.K d) ?_ ha hb hs
  intro value slice pins s σ H x y v u Q I rx ry h hsp
  obtain ⟨z, u0, v0, rfl, rfl, e, r, q⟩ := h
  cases rx
  have ty := kd_type D I
  obtain ⟨t, rfl⟩ := ry
  refine subscriptTail_builtinR (Q := fun r s' => EP X pins σ Q r s') (x := u0) ty PySem.F.slot_dict_getitem.lookup ?_ hsp
  exact wpAny_getItem_of (PySem.strKind_is X.prog X.w z t) (PySem.W.mapOf_K (prog := X.prog) I.kIn D.at_ D.lit) (PySem.W.find_K D.at_ e) ⟨rfl, v0, H, I.tok _, r, q⟩
end
section
variable {W : Wd} {E : XK} {δ : Dn} {S : List Addr} {H : Hp} {Φ : Ph} {X : Px} {k : Ks}
theorem sw_rz {cls : Value} (q : X cls S H) : Sw W E (tRz E cls) δ S H k X := fun σ H1 De m c o => o.ex cls S H H1 q m (Tr.refl c.dom) c.nil
theorem sw_par {i j : Nat} {ta : TA} (h : Aw W E ta δ S H (fun xs S1 H1 => ∃ x y, xs = [x, y] ∧ k.nx ((δ.set i (some x)).set j (some y)) S1 H1) X) : Sw W E (tPar i j ta) δ S H k X := fun σ H1 De m c o =>
  h σ H1 _ m c (fun vs xs S1 G1 H2 ⟨x, y, e, q⟩ m1 t1 c1 r1 => by
    subst e
    cases r1 with
    | cons r r1 =>
      obtain ⟨w, rfl, r2⟩ := RpA.one r1
      exact ⟨_, _, rfl, o.nx _ _ S1 G1 H2 q m1 t1 (((c.tr t1).set i r).set j r2)⟩) o.ex
theorem sw_par3 {i j l : Nat} {ta : TA} (h : Aw W E ta δ S H (fun xs S1 H1 => ∃ x y z, xs = [x, y, z] ∧ k.nx (((δ.set i (some x)).set j (some y)).set l (some z)) S1 H1) X) : Sw W E (tPar3 i j l ta) δ S H k X := fun σ H1 De m c o =>
  h σ H1 _ m c (fun vs xs S1 G1 H2 ⟨x, y, z, e, q⟩ m1 t1 c1 r1 => by
    subst e
    cases r1 with
    | cons r r1 =>
      cases r1 with
      | cons r' r1 =>
        obtain ⟨w, rfl, r2⟩ := RpA.one r1
        exact ⟨_, _, _, rfl, o.nx _ _ S1 G1 H2 q m1 t1 ((((c.tr t1).set i r).set j r').set l r2)⟩) o.ex
theorem sw_aug {i : Nat} {te : TE} {ti : TIp} {B : Dv → Dv → Ph → List Addr → Hp → Prop} {d : Dv} (hr : OpD W ti B) (hd : δ[i]? = some (some d)) (h : Ew W E te δ S H (fun y S1 H1 => B d y (fun z S2 H2 => k.nx (δ.set i (some z)) S2 H2) S1 H1) X) : Sw W E (tAug i te ti) δ S H k X := fun σ H1 De m c o => by
  obtain ⟨v, ev, rv⟩ := c.env.get hd
  refine ⟨v, ev, ?_⟩
  refine h σ H1 _ m c (fun u y S1 G1 H2 q m1 t1 c1 r1 => ?_) o.ex
  refine hr d y v u _ S1 G1 H2 _ m1 c1 (t1.rp rv) r1 q fun w z S2 G2 H3 q2 m2 t2 c2 r2 => ?_
  exact o.nx _ _ S2 G2 H3 q2 m2 (t1.trans t2) ((c.tr (t1.trans t2)).set i r2)
theorem dKix {K : PySem.W.Frag} {d : Addr} (hK : K = W.K) : OpD W (rKix K d) (fun x y Φ S H => ∃ (z : Str) (u0 : Value) (v0 : V) (x0 : Dv), x = .adr d ∧ y = .str z ∧ PySem.W.nsIn W.K d z = some (some u0) ∧ RelV v0 u0 ∧ (∀ G, Rp W G x0 v0) ∧ Φ x0 S H) := fun x y v u Φ S H H1 Q m c rx ry ⟨z, u0, v0, x0, e1, e2, h1, h2, h3, q⟩ o => by
  subst e1 e2
  cases rx
  cases ry
  exact ⟨z, u0, v0, rfl, rfl, by rw [hK]; exact h1, h2, o.pure c m (h3 _) q⟩
theorem dKin {K : PySem.W.Frag} {d : Addr} (hK : K = W.K) : OpD W (rKin K d) (fun x y Φ S H => ∃ (z : Str) (r : Option Value), x = .str z ∧ y = .adr d ∧ PySem.W.nsIn W.K d z = some r ∧ Φ (.bl r.isSome) S H) := fun x y v u Φ S H H1 Q m c rx ry ⟨z, r, e1, e2, h1, q⟩ o => by
  subst e1 e2
  cases rx
  cases ry
  exact ⟨z, r, rfl, rfl, by rw [hK]; exact h1, o.pure c m (.bl _) q⟩
theorem dKnot {K : PySem.W.Frag} {d : Addr} (hK : K = W.K) : OpD W (rKnot K d) (fun x y Φ S H => ∃ (z : Str) (r : Option Value), x = .str z ∧ y = .adr d ∧ PySem.W.nsIn W.K d z = some r ∧ Φ (.bl (!r.isSome)) S H) := fun x y v u Φ S H H1 Q m c rx ry ⟨z, r, e1, e2, h1, q⟩ o => by
  subst e1 e2
  cases rx
  cases ry
  exact ⟨z, r, rfl, rfl, by rw [hK]; exact h1, o.pure c m (.bl _) q⟩

/-! ### leaves -/
variable {B B' : Dv → Dv → Ph → List Addr → Hp → Prop}
theorem lf_add_int {i j : Int} (q : Φ (.int (i + j)) S H) : addB (.int i) (.int j) Φ S H := .inl ⟨i, j, rfl, rfl, q⟩
theorem lf_add_str {i j : Str} (h : i.length + j.length ≤ sizeLine) (q : Φ (.str (i ++ j)) S H) : addB (.str i) (.str j) Φ S H := .inr (.inl ⟨i, j, rfl, rfl, h, q⟩)
theorem lf_add_lst {i j : List Dv} (h : i.length + j.length ≤ sizeLine) (q : Φ (.lst (i ++ j)) S H) : addB (.lst i) (.lst j) Φ S H := .inr (.inr (.inl ⟨i, j, rfl, rfl, h, q⟩))
theorem lf_add_tup {i j : List Dv} (h : i.length + j.length ≤ sizeLine) (q : Φ (.tup (i ++ j)) S H) : addB (.tup i) (.tup j) Φ S H := .inr (.inr (.inr ⟨i, j, rfl, rfl, h, q⟩))
theorem lf_ii {C : Int → Int → Prop} {g : Int → Int → Dv} {i j : Int} (h : C i j) (q : Φ (g i j) S H) : iiB C g (.int i) (.int j) Φ S H := ⟨i, j, rfl, rfl, h, q⟩
theorem lf_ii0 {g : Int → Int → Dv} {i j : Int} (q : Φ (g i j) S H) : iiB (fun _ _ => True) g (.int i) (.int j) Φ S H := ⟨i, j, rfl, rfl, trivial, q⟩
theorem lf_mul_int {i j : Int} (h : CMul i j) (q : Φ (.int (i * j)) S H) : mulB (.int i) (.int j) Φ S H := .inl ⟨i, j, rfl, rfl, h, q⟩
theorem lf_mul_str {z : Str} {n : Int} (h1 : -(2 ^ 63) ≤ n) (h2 : n < 2 ^ 63) (h3 : z.length * n.toNat ≤ 1000000) (q : Φ (.str (repS z n)) S H) : mulB (.str z) (.int n) Φ S H := .inr (.inl ⟨z, n, rfl, rfl, h1, h2, h3, q⟩)
theorem lf_mul_lst {ds : List Dv} {n : Int} (h1 : -(2 ^ 63) ≤ n) (h2 : n < 2 ^ 63) (h3 : ds.length * n.toNat ≤ sizeLine) (q : Φ (.lst (List.replicate n.toNat ds).flatten) S H) : mulB (.lst ds) (.int n) Φ S H := .inr (.inr ⟨ds, n, rfl, rfl, h1, h2, h3, q⟩)
theorem lf_lt {i j : Int} (q : Φ (.bl (decide (i < j))) S H) : orB (iiB (fun _ _ => True) fun i j => .bl (decide (i < j))) B' (.int i) (.int j) Φ S H := .inl ⟨i, j, rfl, rfl, trivial, q⟩
theorem lf_or_r {x y : Dv} (h : B' x y Φ S H) : orB B B' x y Φ S H := .inr h
theorem eqD_int (i j : Int) : eqD (.int i) (.int j) = decide (i = j) := by
  unfold eqD toP PyData.eqv
  exact Bool.beq_eq_decide_eq i j
theorem eqD_bl (i j : Bool) : eqD (.bl i) (.bl j) = decide (i = j) := by
  unfold eqD toP PyData.eqv
  exact Bool.beq_eq_decide_eq i j
theorem eqD_str (i j : Str) : eqD (.str i) (.str j) = decide (i = j) := by
  unfold eqD toP PyData.eqv
  exact Bool.beq_eq_decide_eq i j
theorem lf_eq {x y : Dv} {b : Bool} (h1 : eqOk x = true) (h2 : eqOk y = true) (e : eqD x y = b) (q : Φ (.bl b) S H) : eqB false x y Φ S H := ⟨h1, h2, by rw [e]; exact q⟩
theorem lf_ne {x y : Dv} {b : Bool} (h1 : eqOk x = true) (h2 : eqOk y = true) (e : eqD x y = b) (q : Φ (.bl (!b)) S H) : eqB true x y Φ S H := ⟨h1, h2, by rw [e]; exact q⟩
theorem ok_int (i : Int) : eqOk (.int i) = true := by unfold eqOk pureD toP SeqAt.shaped PyData.canLay0 PyData.depth; rfl
theorem ok_bl (i : Bool) : eqOk (.bl i) = true := by unfold eqOk pureD toP SeqAt.shaped PyData.canLay0 PyData.depth; rfl
theorem ok_non : eqOk .non = true := by unfold eqOk pureD toP SeqAt.shaped PyData.canLay0 PyData.depth; rfl
theorem lf_eq_int {i j : Int} (q : Φ (.bl (decide (i = j))) S H) : eqB false (.int i) (.int j) Φ S H := lf_eq (ok_int i) (ok_int j) (eqD_int i j) q
theorem lf_ne_int {i j : Int} (q : Φ (.bl (!decide (i = j))) S H) : eqB true (.int i) (.int j) Φ S H := lf_ne (ok_int i) (ok_int j) (eqD_int i j) q
theorem lf_ix_lst {ds : List Dv} {i : Int} {d : Dv} (h : atI ds i = some d) (q : Φ d S H) : ixB (W := W) (.lst ds) (.int i) Φ S H := .inl ⟨ds, i, d, rfl, rfl, h, q⟩
theorem lf_ix_adr {a : Addr} {ds : List Dv} {i : Int} {d : Dv} (l : LstAt W S H a ds) (h : atI ds i = some d) (q : Φ d S H) : ixB (W := W) (.adr a) (.int i) Φ S H := .inr (.inl ⟨a, ds, i, d, rfl, rfl, l, h, q⟩)
theorem lf_ix_tup {ds : List Dv} {i : Int} {d : Dv} (h : atI ds i = some d) (q : Φ d S H) : ixB (W := W) (.tup ds) (.int i) Φ S H := .inr (.inr (.inl ⟨ds, i, d, rfl, rfl, h, q⟩))
theorem lf_ix_str {z : Str} {i : Int} {c : Nat} (h1 : z.length ≤ sizeLine) (h : atI z.cps.toList i = some c) (q : Φ (.str ⟨#[c]⟩) S H) : ixB (W := W) (.str z) (.int i) Φ S H := .inr (.inr (.inr ⟨z, i, c, rfl, rfl, h1, h, q⟩))
theorem lf_len_lst {ds : List Dv} (q : Φ (.int (ds.length : Nat)) S H) : lenB (W := W) [.lst ds] Φ S H := .inr (.inl ⟨ds, .inl rfl, q⟩)
theorem lf_len_tup {ds : List Dv} (q : Φ (.int (ds.length : Nat)) S H) : lenB (W := W) [.tup ds] Φ S H := .inr (.inl ⟨ds, .inr rfl, q⟩)
theorem lf_len_adr {a : Addr} {ds : List Dv} (l : LstAt W S H a ds) (q : Φ (.int (ds.length : Nat)) S H) : lenB (W := W) [.adr a] Φ S H := .inr (.inr ⟨a, ds, rfl, l, q⟩)
theorem lf_len_str {z : Str} (h : z.length ≤ sizeLine) (q : Φ (.int (z.length : Nat)) S H) : lenB (W := W) [.str z] Φ S H := .inl ⟨z, rfl, h, q⟩
theorem lf_int_int {i : Int} (q : Φ (.int i) S H) : intB [.int i] Φ S H := .inl ⟨i, rfl, q⟩
theorem lf_int_bl {k : Bool} (q : Φ (.int (if k then 1 else 0)) S H) : intB [.bl k] Φ S H := .inr (.inl ⟨k, rfl, q⟩)
theorem lf_int_str {a : Str} {n : Int} (h : PySem.intText? a = some n) (h2 : a.length ≤ 640) (q : Φ (.int n) S H) : intB [.str a] Φ S H := .inr (.inr ⟨a, n, rfl, h, h2, q⟩)
theorem ew_neg {ta : TE} (h : Ew W E ta δ S H (fun d S1 H1 => ∃ i, d = .int i ∧ Φ (.int (-i)) S1 H1) X) : Ew W E (tUn (rU fun i => .int (-i)) ta) δ S H Φ X :=
  ew_un (B := fun d Φ S1 H1 => ∃ i, d = .int i ∧ Φ (.int (-i)) S1 H1) (fun x v Φ S H H1 Q m c r ⟨i, e, q⟩ o => by
    subst e
    cases r
    exact ⟨i, rfl, o.pure c m (.int _) q⟩) h
end
end Dw

namespace Dw
open PySem PySem.Spec PyProof.Rows L2
/-! ### the rules with the written part K told -/
section
variable {X : Cx} {K : PySem.W.Frag}
theorem w_add (hK : X.K = K) : OpR X (binaryOp .Add) (rAddU K) := by subst hK; exact u_add
theorem w_ix (hK : X.K = K) : IxR X (rIxU K) := by subst hK; exact u_ix
theorem w_in (hK : X.K = K) : OpR X (compareOp .In) (rInU K) := by subst hK; exact u_in
theorem w_notin (hK : X.K = K) : OpR X (compareOp .NotIn) (rNotInU K) := by subst hK; exact u_notin
theorem w_lt (hK : X.K = K) (hu : X.A.units + 64 < cLine) : OpR X (compareOp .Lt) (rLtU K) := by subst hK; exact u_lt hu
theorem w_eq (hK : X.K = K) (hu : X.A.units + 64 < cLine) : OpR X (compareOp .Eq) (rEqD K) := by subst hK; exact u_eq hu
theorem w_ne (hK : X.K = K) (hu : X.A.units + 64 < cLine) : OpR X (compareOp .NotEq) (rNeD K) := by subst hK; exact u_ne hu
theorem w_kin {w : World} (hK : X.K = K) (hw : X.w = w) {d : Addr} {es : Array DictEntry} {n : Nat} (D : KDict K w d es n) : OpR X (compareOp .In) (rKin K d) := by subst hK hw; exact u_kin D
theorem w_knot {w : World} (hK : X.K = K) (hw : X.w = w) {d : Addr} {es : Array DictEntry} {n : Nat} (D : KDict K w d es n) : OpR X (compareOp .NotIn) (rKnot K d) := by subst hK hw; exact u_knot D
theorem w_kix {w : World} {a b : Expr} {tb : TE} {pos : Pos} (hK : X.K = K) (hw : X.w = w) {d : Addr} {es : Array DictEntry} {n : Nat} (D : KDict K w d es n) (ha : PE X a (tC (.ref d))) (hb : PE X b tb) (hs : PlainIx b := by intro _ _; rfl) : PE X (.Subscript a b pos) (tOp (rKix K d) (tC (.ref d)) tb) := by
  subst hK hw; exact pe_kix (ta := tC (.ref d)) D ha hb hs
theorem w_fld {e : Expr} {f : Str} {pos : Pos} {ta : TE} (hK : X.K = K) (he : PE X e ta) (hb : attributeBase e f X.env (eval e X.env) = eval e X.env := by rfl) : PE X (.Attribute e f pos) (tFld K ta f) := by subst hK; exact pe_fld he hb
theorem w_sfld {o value : Expr} {f : Str} {pos pos' : Pos} {ta tv : TE} (hK : X.K = K) (ha : PE X o ta) (hv : PE X value tv) (hs : swapsWith value (some (.Attribute o f pos')) pos.line X.env = pure false := by rfl) : PS X (.Assign [.Attribute o f pos'] value pos) (sFld K ta tv f) := by
  subst hK; exact ps_fld ha hv hs
theorem w_len (hK : X.K = K) : CallR X (.builtin "len") (rLenU K) := by subst hK; exact c_len
theorem w_list (hK : X.K = K) : CallR X (.type "list") (rListO K) := by subst hK; exact c_list
theorem w_tuple (hK : X.K = K) : CallR X (.type "tuple") (rTupO K) := by subst hK; exact c_tuple
theorem w_sum (hK : X.K = K) (hc : X.calm = true := by rfl) : CallR X (.builtin "sum") (rSum K) := by subst hK; exact c_sum hc
theorem w_sl (hK : X.K = K) : SlR X (rSlU K) := by subst hK; exact u_sl
theorem w_revL {e : Expr} {te : TE} {k : Nat} {p1 p2 p3 pos : Pos} (hK : X.K = K) (he : PE X e te) : PE X (.Subscript e (.Slice none none (some (.UnaryOp .USub (.Constant (.int 1) k p1) p2)) p3) pos) (tRevL K te) := by subst hK; exact pe_revL he
theorem w_any {tg l : Expr} {tl : TE} (hK : X.K = K) (hl : PE X l tl) : PI X tg l (iAny K tl) := by subst hK; exact pi_any hl
theorem w_enum {e : Expr} {ta : TA} {p pos tpos : Pos} {elts : List Expr} {kk : Nat} (hK : X.K = K) (hg : Gl X "enumerate") (hm : X.mg "enumerate" = none) (ha : PA X [e] ta) (hs : starEach [e] X.env = [(false, eval e X.env)] := by rfl) :
    PI X (.Tuple elts kk tpos) (.Call (.Name "enumerate" p) [e] [] pos) (iEnum K ta) := by subst hK; exact pi_enum hg hm ha hs
theorem w_zip {e e2 : Expr} {ta : TA} {p pos tpos : Pos} {elts : List Expr} {kk : Nat} (hK : X.K = K) (hg : Gl X "zip") (hm : X.mg "zip" = none) (ha : PA X [e, e2] ta)
    (hs : starEach [e, e2] X.env = (false, eval e X.env) :: starEach [e2] X.env := by rfl) (hpl : (backTo pos (starEach [e2] X.env)).any (·.1) = false := by rfl) :
    PI X (.Tuple elts kk tpos) (.Call (.Name "zip" p) [e, e2] [] pos) (iZip K ta) := by subst hK; exact pi_zip hg hm ha hs hpl
theorem w_seq {es : List Expr} {k : Nat} {pos : Pos} {t : TGs} {n : Nat} (hK : X.K = K) (hc : X.calm = true) (h : PGs X es t) (hn : (assignEach es X.env).length = n := by rfl) (hst : (assignEach es X.env).findIdx? (·.1) = none := by rfl) : PG X (.Tuple es k pos) (gSeq K n t) := by
  subst hK; exact pg_seq hc h hn hst
theorem w_join {o e : Expr} {to te : TE} {apos pos : Pos} (hK : X.K = K) (ho : PE X o to) (he : PE X e te) (hs : starEach [e] X.env = [(false, eval e X.env)] := by rfl) (hbase : attributeBase o "join" X.env (eval o X.env) = eval o X.env := by rfl) (hline : (apos.endLine == pos.line) = true := by rfl) :
    PE X (.Call (.Attribute o "join" apos) [e] [] pos) (tM1 (rJoin K) to te) := by subst hK; exact pe_join ho he hs hbase hline
section
variable {o e : Expr} {es : List Expr} {to : TE} {t : TA} {name : Str} {apos cpos : Pos} {T id : String} {r : V → List V → Hp → VK → Prop}
theorem w_bm0 (hK : X.K = K) (pa : PlainAttrs T) (slot : Slot T name id) (hty : typeOf (.builtin id) = pure (.type "method_descriptor")) (hm : MtR X id r) (ho : PE X o to)
    (hbase : attributeBase o name X.env (eval o X.env) = eval o X.env := by rfl) (hline : (apos.endLine == cpos.line) = true := by rfl) : PE X (.Call (.Attribute o name apos) [] [] cpos) (tBM0 K T r to) := by
  subst hK; exact pe_bm0 pa slot hty hm ho hbase hline
theorem w_bm (hK : X.K = K) (pa : PlainAttrs T) (slot : Slot T name id) (hty : typeOf (.builtin id) = pure (.type "method_descriptor")) (hm : MtR X id r) (ho : PE X o to) (ha : PA X (e :: es) t)
    (hbase : attributeBase o name X.env (eval o X.env) = eval o X.env := by rfl)
    (hfew : ((backTo cpos (starEach (e :: es) X.env)).all (fun x => !x.1) && (backToKw cpos (keywordEach [] X.env)).all (fun x => x.1.isSome)
      && decide ((e :: es).length + ([] : List Keyword).length + (if ([] : List Keyword).isEmpty then 0 else 1) < 30)) = true := by rfl)
    (hline : (apos.endLine == cpos.line) = true := by rfl) (hs : starEach (e :: es) X.env = (false, eval e X.env) :: starEach es X.env := by rfl) (hplain : (backTo cpos (starEach es X.env)).any (·.1) = false := by rfl) :
    PE X (.Call (.Attribute o name apos) (e :: es) [] cpos) (tBM K T r to t) := by subst hK; exact pe_bm pa slot hty hm ho ha hbase hfew hline hs hplain
end
end
/-! ### named leaves -/
section
variable {W : Wd} {E : XK} {ta : TE} {δ : Dn} {S : List Addr} {H : Hp} {Φ : Ph} {X : Px} {k : Ks} {d x y : Dv}
def fldB (W : Wd) (f : Str) (d : Dv) (Φ : Ph) (S1 : List Addr) (H1 : Hp) : Prop := ∃ a C dx fs v x, d = .adr a ∧ H1 a = some (.ins C dx fs) ∧ Cls W.K C ∧ NoAttr W.K C f ∧ fs.lookup f = some v ∧ Rp W (off S1 H1) x v ∧ Φ x S1 H1
theorem ew_fldN {f : Str} (h : Ew W E ta δ S H (fun d S1 H1 => fldB W f d Φ S1 H1) X) : Ew W E (tFld W.K ta f) δ S H Φ X := ew_fld h
def sfB (W : Wd) (f : Str) (d x : Dv) (Φ : List Addr → Hp → Prop) (S2 : List Addr) (H2 : Hp) : Prop := ∃ a C dx fs, d = .adr a ∧ a ∈ S2 ∧ H2 a = some (.ins C dx fs) ∧ Cls W.K C ∧ NoAttr W.K C f ∧ fs.length < 1000 ∧
      ∀ v H3, Rp W (off S2 H3) x v → Md W [a] H2 H3 → H3 a = some (.ins C dx (putF f v fs)) → Φ S2 H3
theorem sw_fldN {f : Str} {tv : TE} (h : Ew W E tv δ S H (fun x S1 H1 => Ew W E ta δ S1 H1 (fun d S2 H2 => sfB W f d x (fun S3 H3 => k.nx δ S3 H3) S2 H2) X) X) : Sw W E (sFld W.K ta tv f) δ S H k X := sw_fld h
def seqL (d : Dv) (n : Nat) (R : List Dv → Prop) : Prop := ∃ ds, (d = .tup ds ∨ d = .lst ds) ∧ ds.length = n ∧ R ds
theorem gw_seqN {gs : TGs} {n : Nat} {Ψ : PhN} (h : seqL d n fun ds => GwA W gs ds δ S H Ψ) : Gw W (gSeq W.K n gs) d δ S H Ψ := by
  obtain ⟨ds, e | e, hn, q⟩ := h
  · subst e
    exact gw_seqT hn q
  · subst e
    exact gw_seqL hn q
theorem seqL_t {ds : List Dv} {n : Nat} {R : List Dv → Prop} (hn : ds.length = n) (h : R ds) : seqL (.tup ds) n R := ⟨ds, .inl rfl, hn, h⟩
theorem seqL_l {ds : List Dv} {n : Nat} {R : List Dv → Prop} (hn : ds.length = n) (h : R ds) : seqL (.lst ds) n R := ⟨ds, .inr rfl, hn, h⟩
/-- a written dict's -/
def kixB (W : Wd) (kd : Addr) (x y : Dv) (Φ : Ph) (S : List Addr) (H : Hp) : Prop := ∃ (z : Str) (u0 : Value) (v0 : V) (x0 : Dv), x = .adr kd ∧ y = .str z ∧ PySem.W.nsIn W.K kd z = some (some u0) ∧ RelV v0 u0 ∧ (∀ G, Rp W G x0 v0) ∧ Φ x0 S H
def kinB (W : Wd) (kd : Addr) (neg : Bool) (x y : Dv) (Φ : Ph) (S : List Addr) (H : Hp) : Prop := ∃ (z : Str) (r : Option Value), x = .str z ∧ y = .adr kd ∧ PySem.W.nsIn W.K kd z = some r ∧ Φ (.bl (if neg then !r.isSome else r.isSome)) S H
theorem dKix' {kd : Addr} : OpD W (rKix W.K kd) (kixB W kd) := dKix rfl
theorem dKin' {kd : Addr} : OpD W (rKin W.K kd) (kinB W kd false) := dKin rfl
theorem dKnot' {kd : Addr} : OpD W (rKnot W.K kd) (kinB W kd true) := dKnot rfl
/-- an instance whose methods are no attributes -/
def mtB (m : Str) (d : Dv) (C : Addr) (H1 : Hp) (R : Addr → Prop) : Prop := ∃ a dx fs, d = .adr a ∧ H1 a = some (.ins C dx fs) ∧ fs.lookup m = none ∧ R a
theorem ew_methN {F : Fs} {C : Addr} {nm : Str} {t : TA} (h : Ew W E ta δ S H (fun d S1 H1 => mtB nm d C H1 fun a => Aw W E t δ S1 H1 (fun ds S2 H2 => F (.adr a :: ds) S2 H2 Φ X) X) X) :
    Ew W E (tMeth C nm (toSp W F) [] E ta t) δ S H Φ X := ew_meth h
/-- a text's length is small -/
theorem lf_tup0 {a : Dv} {r : List Dv} (q : Φ a S H) : ixB (W := W) (.tup (a :: r)) (.int 0) Φ S H := lf_ix_tup (atI_nat (j := 0) rfl) q
theorem lf_tup1 {a b : Dv} {r : List Dv} (q : Φ b S H) : ixB (W := W) (.tup (a :: b :: r)) (.int 1) Φ S H := lf_ix_tup (atI_nat (j := 1) rfl) q
theorem lf_tup2 {a b c : Dv} {r : List Dv} (q : Φ c S H) : ixB (W := W) (.tup (a :: b :: c :: r)) (.int 2) Φ S H := lf_ix_tup (atI_nat (j := 2) rfl) q
theorem lf_lst0 {a : Dv} {r : List Dv} (q : Φ a S H) : ixB (W := W) (.lst (a :: r)) (.int 0) Φ S H := lf_ix_lst (atI_nat (j := 0) rfl) q
theorem lf_lst1 {a b : Dv} {r : List Dv} (q : Φ b S H) : ixB (W := W) (.lst (a :: b :: r)) (.int 1) Φ S H := lf_ix_lst (atI_nat (j := 1) rfl) q
theorem lf_lst2 {a b c : Dv} {r : List Dv} (q : Φ c S H) : ixB (W := W) (.lst (a :: b :: c :: r)) (.int 2) Φ S H := lf_ix_lst (atI_nat (j := 2) rfl) q
theorem lf_adr0 {l : Addr} {a : Dv} {r : List Dv} (h : LstAt W S H l (a :: r)) (q : Φ a S H) : ixB (W := W) (.adr l) (.int 0) Φ S H := lf_ix_adr h (atI_nat (j := 0) rfl) q
theorem lf_adr1 {l : Addr} {a b : Dv} {r : List Dv} (h : LstAt W S H l (a :: b :: r)) (q : Φ b S H) : ixB (W := W) (.adr l) (.int 1) Φ S H := lf_ix_adr h (atI_nat (j := 1) rfl) q
theorem lf_adr2 {l : Addr} {a b c : Dv} {r : List Dv} (h : LstAt W S H l (a :: b :: c :: r)) (q : Φ c S H) : ixB (W := W) (.adr l) (.int 2) Φ S H := lf_ix_adr h (atI_nat (j := 2) rfl) q
theorem and_len2 {a b : Dv} {q : Prop} (k : q) : [a, b].length ≤ sizeLine ∧ q := ⟨Nat.le_trans (by decide : 2 ≤ 1000) (by decide), k⟩
theorem and_len1 {a : Dv} {q : Prop} (k : q) : [a].length ≤ sizeLine ∧ q := ⟨Nat.le_trans (by decide : 1 ≤ 1000) (by decide), k⟩
theorem and_len0 {q : Prop} (k : q) : ([] : List Dv).length ≤ sizeLine ∧ q := ⟨Nat.zero_le _, k⟩
theorem and_len3 {a b c : Dv} {q : Prop} (k : q) : [a, b, c].length ≤ sizeLine ∧ q := ⟨Nat.le_trans (by decide : 3 ≤ 1000) (by decide), k⟩
theorem and_len {ds : List Dv} {n : Nat} {q : Prop} (e : ds.length = n) (h : n ≤ 1000) (k : q) : ds.length ≤ sizeLine ∧ q := ⟨by rw [e]; exact Nat.le_trans h (by decide), k⟩
/-- a new instance -/
def mkB (W : Wd) (C : Addr) (F : Fs) (ds : List Dv) (Φ : Ph) (X : Px) (S1 : List Addr) (H1 : Hp) : Prop := ∀ x dx H2, Up W S1 H1 (x :: S1) H2 → H1 x = none → x ∉ S1 → H2 x = some (.ins C dx []) → F (.adr x :: ds) (x :: S1) H2 (fun d S' H' => d = .non ∧ Φ (.adr x) S' H') X
theorem ew_makeN {F : Fs} {C : Addr} {t : TA} (h : Aw W E t δ S H (fun ds S1 H1 => mkB W C F ds Φ X S1 H1) X) : Ew W E (tMake C (toSp W F) [] E t) δ S H Φ X := ew_make h
theorem ok_str {x : Str} (h : PyData.strOk x = true) : eqOk (.str x) = true := by unfold eqOk pureD toP SeqAt.shaped PyData.canLay0 PyData.depth; rw [h]; rfl
theorem lf_eq_str {i j : Str} (hi : PyData.strOk i = true) (hj : PyData.strOk j = true) (q : Φ (.bl (decide (i = j))) S H) : eqB false (.str i) (.str j) Φ S H := lf_eq (ok_str hi) (ok_str hj) (eqD_str i j) q
theorem lf_ne_str {i j : Str} (hi : PyData.strOk i = true) (hj : PyData.strOk j = true) (q : Φ (.bl (!decide (i = j))) S H) : eqB true (.str i) (.str j) Φ S H := lf_ne (ok_str hi) (ok_str hj) (eqD_str i j) q
theorem lf_eq_bl {i j : Bool} (q : Φ (.bl (decide (i = j))) S H) : eqB false (.bl i) (.bl j) Φ S H := lf_eq (ok_bl i) (ok_bl j) (eqD_bl i j) q
theorem lf_ne_bl {i j : Bool} (q : Φ (.bl (!decide (i = j))) S H) : eqB true (.bl i) (.bl j) Φ S H := lf_ne (ok_bl i) (ok_bl j) (eqD_bl i j) q
end
end Dw

namespace Dw
open PySem PySem.Spec PyProof.Rows L2
section
variable {W : Wd} {E : XK} {te ta : TE} {tt : TT} {δ : Dn} {S : List Addr} {H : Hp} {Φ : Ph} {X : Px} {k : Ks} {t : TS} {g : TG}
/-! ### loops -/
def LoopB (W : Wd) (E : XK) (g : TG) (t : TS) (k : Ks) (X : Px) (δ : Dn) (ds : List Dv) (st : List Addr → Hp → Prop) (S1 : List Addr) (H1 : Hp) : Prop := ∃ I : Nat → PhN, I 0 δ S1 H1 ∧ (∀ i δ' S' H', I i δ' S' H' → st S' H') ∧
      (∀ i d δ' S' H', ds[i]? = some d → I i δ' S' H' → Gw W g d δ' S' H' (fun δ2 S2 H2 => Sw W E t δ2 S2 H2 { nx := I (i + 1), ct := I (i + 1), bk := k.nx, rt := k.rt } X)) ∧
      ∀ δ' S' H', I ds.length δ' S' H' → k.nx δ' S' H'
theorem sw_forN {wi : TI} (h : Iw W E wi δ S H (fun ds st S1 H1 => LoopB W E g t k X δ ds st S1 H1) X) : Sw W E (tFor wi g t) δ S H k X := sw_for h
/-- over typed items -/
theorem loop_of {α : Type} {xs : List α} {D : α → Dv} {st : List Addr → Hp → Prop} (I : Nat → PhN) (h0 : I 0 δ S H) (hst : ∀ i δ' S' H', I i δ' S' H' → st S' H')
    (hs : ∀ i x δ' S' H', xs[i]? = some x → I i δ' S' H' → Gw W g (D x) δ' S' H' (fun δ2 S2 H2 => Sw W E t δ2 S2 H2 { nx := I (i + 1), ct := I (i + 1), bk := k.nx, rt := k.rt } X))
    (he : ∀ δ' S' H', I xs.length δ' S' H' → k.nx δ' S' H') : LoopB W E g t k X δ (xs.map D) st S H := by
  refine ⟨I, h0, hst, fun i d δ' S' H' hd hi => ?_, fun δ' S' H' hi => he δ' S' H' (by rw [List.length_map] at hi; exact hi)⟩
  rw [List.getElem?_map] at hd
  cases e : xs[i]? with
  | none =>
    rw [e] at hd
    cases hd
  | some x =>
    rw [e] at hd
    cases hd
    exact hs i x δ' S' H' e hi
theorem loop_rng {n : Nat} {f : Nat → Dv} (I : Nat → PhN) (h0 : I 0 δ S H)
    (hs : ∀ i δ' S' H', i < n → I i δ' S' H' → Gw W g (f i) δ' S' H' (fun δ2 S2 H2 => Sw W E t δ2 S2 H2 { nx := I (i + 1), ct := I (i + 1), bk := k.nx, rt := k.rt } X))
    (he : ∀ δ' S' H', I n δ' S' H' → k.nx δ' S' H') : LoopB W E g t k X δ ((List.range n).map f) (fun _ _ => True) S H := by
  refine loop_of (xs := List.range n) (D := f) I h0 (fun _ _ _ _ _ => trivial) (fun i x δ' S' H' hx hi => ?_) (fun δ' S' H' hi => he δ' S' H' (by rw [List.length_range] at hi; exact hi))
  obtain ⟨hl, e⟩ := List.getElem?_eq_some_iff.mp hx
  rw [List.length_range] at hl
  rw [List.getElem_range] at e
  subst e
  exact hs i δ' S' H' hl hi
/-! ### ranges -/
theorem lf_rng1 {j : Int} {n : Nat} {Ψ : PhI} (e : j = n) (h : n < 1000000) (q : Ψ ((List.range n).map fun (i : Nat) => Dv.int (i : Int)) (fun _ _ => True) S H) : -(2 ^ 62) ≤ j ∧ j < 2 ^ 62 ∧ Ψ ((List.range j.toNat).map fun (i : Nat) => Dv.int (i : Int)) (fun _ _ => True) S H := by
  subst e
  exact ⟨by omega, by omega, by rw [Int.toNat_natCast]; exact q⟩
theorem ixN_at {n j : Nat} (hj : j < n) : ixN n (j : Int) = some j := by
  unfold ixN
  rw [if_pos (by omega), if_pos (by omega)]
  simp
theorem lf_rng2 {i j : Int} {n : Nat} {Ψ : PhI} (e : j - i = n) (h : n < 1000000) (h2 : -1000000 < i) (h3 : i < 1000000) (q : Ψ ((List.range n).map fun (m : Nat) => Dv.int (i + (m : Int))) (fun _ _ => True) S H) : ∃ i' j' : Int, [Dv.int i, Dv.int j] = [.int i', .int j'] ∧ (-(2 ^ 62) ≤ i' ∧ i' < 2 ^ 62 ∧ -(2 ^ 62) ≤ j' ∧ j' < 2 ^ 62) ∧ Ψ ((List.range (j' - i').toNat).map fun (n : Nat) => Dv.int (i' + (n : Int))) (fun _ _ => True) S H := by
  refine ⟨i, j, rfl, by omega, ?_⟩
  rw [e, Int.toNat_natCast]
  exact q
/-- range(n - 1, -1, -1) -/
theorem lf_rngD {i j c : Int} {n : Nat} {Ψ : PhI} (e : i = (n : Int) - 1) (e2 : j = -1) (e3 : c = -1) (h : n < 1000000) (q : Ψ ((List.range n).map fun (m : Nat) => Dv.int ((n : Int) - 1 - (m : Int))) (fun _ _ => True) S H) :
    ∃ (i' j' c' : Int) (n : Nat), [Dv.int i, Dv.int j, Dv.int c] = [.int i', .int j', .int c'] ∧ RgC i' j' c' n ∧ Ψ ((List.range n).map fun (m : Nat) => Dv.int (i' + (m : Int) * c')) (fun _ _ => True) S H := by
  subst e e2 e3
  refine ⟨_, _, _, n, rfl, ?_, ?_⟩
  · have := RgC.neg (i := (n : Int) - 1) (j := -1) (by omega) (by omega) (by omega) (by omega)
    have e : ((n : Int) - 1 - -1).toNat = n := by omega
    rw [e] at this
    exact this
  · have e : (fun (m : Nat) => Dv.int ((n : Int) - 1 + (m : Int) * -1)) = fun (m : Nat) => Dv.int ((n : Int) - 1 - (m : Int)) := by
      funext m
      congr 1
      omega
    rw [e]
    exact q
/-! ### no exception within -/
theorem ew_e0 (h : Ew W E0 te δ S H Φ (fun _ _ _ => False)) : Ew W E te δ S H Φ X := fun σ H1 Q m c o _ => h σ H1 Q m c o fun _ _ _ _ z => z.elim
theorem tw_e0 {Φ : PhB} (h : Tw W E0 tt δ S H Φ (fun _ _ _ => False)) : Tw W E tt δ S H Φ X := fun σ H1 Q m c o _ => h σ H1 Q m c o fun _ _ _ _ z => z.elim
/-- only this value, nothing changed -/
def same (S2 : List Addr) (H2 : Hp) (z : Dv) : Ph := fun y S3 H3 => S3 = S2 ∧ H3 = H2 ∧ y = z
def sameB (S2 : List Addr) (H2 : Hp) (z : Bool) : PhB := fun y S3 H3 => S3 = S2 ∧ H3 = H2 ∧ y = z
theorem same_rfl {S2 : List Addr} {H2 : Hp} {y z : Dv} (e : y = z) : same S2 H2 z y S2 H2 := ⟨rfl, rfl, e⟩
theorem sameB_rfl {S2 : List Addr} {H2 : Hp} {y z : Bool} (e : y = z) : sameB S2 H2 z y S2 H2 := ⟨rfl, rfl, e⟩
/-! ### comprehensions -/
def LcB (W : Wd) (E : XK) (g : TG) (tt : TT) (te : TE) (vs : List Nat) (δ : Dn) (Φ : Ph) (X : Px) (ds : List Dv) (st : List Addr → Hp → Prop) (S1 : List Addr) (H1 : Hp) : Prop := ds.length < sizeLine ∧ ∃ (out : List (Option Dv)) (δs : Nat → Dn), out.length = ds.length ∧ (∀ i d, ds[i]? = some d → Cg W g d vs δ (δs i)) ∧
      (∀ S2 H2, Up W S1 H1 S2 H2 → st S2 H2 ∧ (∀ i d, ds[i]? = some d → Tw W E tt (δs i) S2 H2 (fun b S3 H3 => S3 = S2 ∧ H3 = H2 ∧ b = (out.getD i none).isSome) X) ∧
        (∀ i d z, ds[i]? = some d → out[i]? = some (some z) → Ew W E te (δs i) S2 H2 (fun y S3 H3 => S3 = S2 ∧ H3 = H2 ∧ y = z) X)) ∧ Φ (.lst (gather out)) S1 H1
theorem ew_lcN {wi : TI} {vs : List Nat} (h : Iw W E wi δ S H (fun ds st S1 H1 => LcB W E g tt te vs δ Φ X ds st S1 H1) X) : Ew W E (tLc wi g tt te vs) δ S H Φ X := ew_lc h
theorem lc_filter {α : Type} {xs : List α} {D : α → Dv} {st : List Addr → Hp → Prop} {vs : List Nat} (δs : α → Dn) (p : α → Bool) (f : α → Dv) (hz : xs.length < 1000000) (hst : ∀ S2 H2, Up W S H S2 H2 → st S2 H2) (hg : ∀ x ∈ xs, Cg W g (D x) vs δ (δs x))
    (hp : ∀ x ∈ xs, ∀ S2 H2, Up W S H S2 H2 → Tw W E0 tt (δs x) S2 H2 (sameB S2 H2 (p x)) (fun _ _ _ => False))
    (he : ∀ x ∈ xs, p x = true → ∀ S2 H2, Up W S H S2 H2 → Ew W E0 te (δs x) S2 H2 (same S2 H2 (f x)) (fun _ _ _ => False)) (q : Φ (.lst ((xs.filter p).map f)) S H) : LcB W E g tt te vs δ Φ X (xs.map D) st S H := by
  have hx : ∀ {i d}, (xs.map D)[i]? = some d → ∃ h : i < xs.length, d = D xs[i] := fun {i d} h => by
    rw [List.getElem?_map] at h
    cases e : xs[i]? with
    | none =>
      rw [e] at h
      cases h
    | some x =>
      rw [e] at h
      cases h
      obtain ⟨hl, e2⟩ := List.getElem?_eq_some_iff.mp e
      exact ⟨hl, by rw [e2]⟩
  have hd : ∀ i (h : i < xs.length), (if h : i < xs.length then δs xs[i] else []) = δs xs[i] := fun i h => by rw [dif_pos h]
  refine ⟨by rw [List.length_map]; exact Nat.lt_of_lt_of_le hz (by decide), xs.map fun x => if p x = true then some (f x) else none, fun i => if h : i < xs.length then δs xs[i] else [], by rw [List.length_map, List.length_map], fun i d h => ?_, fun S2 H2 u => ⟨hst S2 H2 u, fun i d h => ?_, fun i d z h ho => ?_⟩, ?_⟩
  · obtain ⟨hl, rfl⟩ := hx h
    dsimp only
    rw [hd i hl]
    exact hg _ (List.getElem_mem hl)
  · obtain ⟨hl, rfl⟩ := hx h
    dsimp only
    rw [hd i hl]
    have e : ((xs.map fun x => if p x = true then some (f x) else none).getD i none).isSome = p xs[i] := by
      rw [List.getD_eq_getElem?_getD, List.getElem?_map, List.getElem?_eq_getElem hl]
      show (if p xs[i] = true then some (f xs[i]) else none).isSome = _
      cases p xs[i] <;> rfl
    rw [e]
    exact tw_e0 (hp _ (List.getElem_mem hl) S2 H2 u)
  · obtain ⟨hl, rfl⟩ := hx h
    dsimp only
    rw [hd i hl]
    rw [List.getElem?_map, List.getElem?_eq_getElem hl] at ho
    by_cases hq : p xs[i] = true
    · have e : some (f xs[i]) = some z := by
        have this : (if p xs[i] = true then some (f xs[i]) else none) = some z := Option.some.inj ho
        rw [if_pos hq] at this
        exact this
      cases e
      exact ew_e0 (he _ (List.getElem_mem hl) hq S2 H2 u)
    · have this : (if p xs[i] = true then some (f xs[i]) else none) = some z := Option.some.inj ho
      rw [if_neg hq] at this
      cases this
  · rw [gather_filter]
    exact q
theorem lc_map {α : Type} {xs : List α} {D : α → Dv} {st : List Addr → Hp → Prop} {vs : List Nat} (δs : α → Dn) (f : α → Dv) (hz : xs.length < 1000000) (hst : ∀ S2 H2, Up W S H S2 H2 → st S2 H2) (hg : ∀ x ∈ xs, Cg W g (D x) vs δ (δs x))
    (he : ∀ x ∈ xs, ∀ S2 H2, Up W S H S2 H2 → Ew W E0 te (δs x) S2 H2 (same S2 H2 (f x)) (fun _ _ _ => False)) (q : Φ (.lst (xs.map f)) S H) : LcB W E g tYes te vs δ Φ X (xs.map D) st S H := by
  refine lc_filter δs (fun _ => true) f hz hst hg (fun x _ S2 H2 _ => tw_yes ⟨rfl, rfl, rfl⟩) (fun x hx _ => he x hx) ?_
  rw [List.filter_eq_self.mpr (fun _ _ => rfl)]
  exact q
/-- the same, the new list among what may change -/
theorem ew_lcM0 {wi : TI} {vs : List Nat} {Φ : Ph} (h : Iw W E wi δ S H (fun ds st S1 H1 => ds.length < sizeLine ∧ ∃ (out : List (Option Dv)) (δs : Nat → Dn), out.length = ds.length ∧ (∀ i d, ds[i]? = some d → Cg W g d vs δ (δs i)) ∧
      (∀ S2 H2, Up W S1 H1 S2 H2 → st S2 H2 ∧ (∀ i d, ds[i]? = some d → Tw W E tt (δs i) S2 H2 (fun b S3 H3 => S3 = S2 ∧ H3 = H2 ∧ b = (out.getD i none).isSome) X) ∧
        (∀ i d z, ds[i]? = some d → out[i]? = some (some z) → Ew W E te (δs i) S2 H2 (fun y S3 H3 => S3 = S2 ∧ H3 = H2 ∧ y = z) X)) ∧ ∀ p H3, Md W [] H1 H3 → H1 p = none → p ∉ S1 → LstAt W (p :: S1) H3 p (gather out) → Φ (.adr p) (p :: S1) H3) X) :
    Ew W E (tLc wi g tt te vs) δ S H Φ X := fun σ H1 Q m c o ex => by
  refine h σ H1 _ m c (fun J ds st S1 G1 H2 ⟨hz, out, δs, hlen, hg, hrun, q⟩ m1 t1 wk Dl hD => ?_) ex
  have c2 := c.tr t1
  have nS := notS c2 hD
  have gD : G1 Dl = none := m1.free hD
  have tD : Tr W S1 H2 (Dl :: S1) (upd H2 Dl (.lst [])) := tr_grow c2.nil hD
  have memD : Dl ∈ Dl :: S1 := List.mem_cons_self
  have upg : ∀ {Hx : Hp}, Md W [] G1 Hx → Up W S1 G1 (Dl :: S1) Hx := fun {Hx} mx => ⟨mx, fun a ha => List.mem_cons_of_mem _ ha, fun a ha => (List.mem_cons.mp ha).elim (fun z => .inr (by rw [z]; exact gD)) .inl⟩
  refine ⟨fun i n H' => n = ds.length - i ∧ i ≤ ds.length ∧ Md W [] G1 H' ∧ Tr W S1 H2 (Dl :: S1) H' ∧ ∃ xs, H' Dl = some (.lst xs) ∧ RpA W (off (Dl :: S1) H') (gather (out.take i)) xs, ⟨_, rfl, Nat.zero_le _, m1.trans (Md.new hD), tD, [], upd_same, .nil⟩, ?_⟩
  rintro i n H' ⟨rfl, hi, mG, tr, xs, hx, rx⟩
  have c3 := c2.tr tr
  have w := wk i (Dl :: S1) H' H' tr c3.nil (hrun _ _ (upg mG)).1 .refl
  by_cases hlt : i < ds.length
  · have hd : ds[i]? = some ds[i] := List.getElem?_eq_getElem hlt
    refine .inr ⟨(w.1 _ hd).1, fun H' => i + 1 ≤ ds.length ∧ Md W [] G1 H' ∧ Tr W S1 H2 (Dl :: S1) H' ∧ ∃ xs, H' Dl = some (.lst xs) ∧ RpA W (off (Dl :: S1) H') (gather (out.take (i + 1))) xs, fun H4 ⟨a1, a2, a3, a4⟩ => ⟨_, by omega, rfl, a1, a2, a3, a4⟩, fun x H3 yl => ?_⟩
    obtain ⟨mx, rxx⟩ := (w.1 _ hd).2 x H3 yl
    have tx := c3.md mx
    have t3 := tr.trans tx
    have m3 := mG.trans mx
    obtain ⟨_, ht, he⟩ := hrun _ H3 (upg m3)
    refine hg i _ hd (Dl :: S1) σ H3 x _ (c3.tr tx) rxx fun σ2 cs hw => ⟨hw, ?_⟩
    have hx3 : H3 Dl = some (.lst xs) := mx.at hx
    have rx3 := tx.rpA rx
    refine ht i _ hd σ2 H3 _ .refl cs (fun b S4 G4 H4 ⟨e1, e2, e3⟩ m4 t4 c5 => ?_) ((ex.tr t1).tr t3)
    subst e1 e2
    have hlo : i < out.length := by rw [hlen]; exact hlt
    have ho : out[i]? = some out[i] := List.getElem?_eq_getElem hlo
    have hgd : out.getD i none = out[i] := by rw [List.getD_eq_getElem?_getD, ho]; rfl
    rw [hgd] at e3
    have hx4 : H4 Dl = some (.lst xs) := m4.at hx3
    cases ez : out[i] with
    | none =>
      rw [ez] at e3 ho
      subst e3
      refine iteF ⟨hlt, m3.trans m4, t3.trans t4, xs, hx4, ?_⟩
      rw [gather_take_succ ho]
      have e9 : gather (out.take i) ++ gather [none] = gather (out.take i) := by
        show gather (out.take i) ++ [] = _
        rw [List.append_nil]
      rw [e9]
      exact t4.rpA rx3
    | some z =>
      rw [ez] at e3 ho
      subst e3
      refine iteT (he i _ z hd ho σ2 H4 _ m4 (cs.tr t4) (fun y d5 S5 G5 H5 ⟨a1, a2, a3⟩ m5 t5 c6 r6 => ?_) (((ex.tr t1).tr t3).tr t4))
      subst a1 a2 a3
      have hx5 : H5 Dl = some (.lst xs) := m5.at hx3
      have rx5 := t5.rpA (t4.rpA rx3)
      have lx : xs.length < sizeLine := by
        rw [← rx.length]
        have h1 := gather_len (out.take i)
        have h2 : (out.take i).length ≤ i := by rw [List.length_take]; exact Nat.min_le_left _ _
        omega
      have lq6 : Lq (off (Dl :: S1) H5) (off (Dl :: S1) (upd H5 Dl (.lst (xs ++ [y])))) := fun a u e n => by
        obtain ⟨e1, e2⟩ := of_off e
        exact off_of (by rw [upd_ne (fun z => e2 (by rw [z]; exact memD))]; exact e1) e2
      refine ⟨xs, hx5, lx, hlt, md_out (m3.trans m5) gD hx5 rfl, tr_out (t3.trans (t4.trans t5)) hx5 rfl memD, xs ++ [y], upd_same, ?_⟩
      rw [gather_take_succ ho]
      exact (rx5.lq lq6).snoc (r6.lq lq6)
  · have e : i = ds.length := by omega
    subst e
    refine .inl ⟨w.2 (Nat.le_refl _), ?_⟩
    have e9 : out.take ds.length = out := by rw [← hlen, List.take_length]
    rw [e9] at rx
    exact o (.ref Dl) (.adr Dl) (Dl :: S1) H' H' (q Dl H' mG gD nS ⟨memD, xs, hx, rx⟩) .refl (t1.trans tr) (c2.nil.tr tr) (.adr Dl)
def LcM (W : Wd) (E : XK) (g : TG) (te : TE) (vs : List Nat) (δ : Dn) (Φ : Ph) (X : Px) (ds : List Dv) (st : List Addr → Hp → Prop) (S1 : List Addr) (H1 : Hp) : Prop := LcB W E g tYes te vs δ (fun d S2 H2 => ∀ es, d = .lst es → ∀ p H3, Md W [] H2 H3 → H2 p = none → p ∉ S2 → LstAt W (p :: S2) H3 p es → Φ (.adr p) (p :: S2) H3) X ds st S1 H1
theorem ew_lcM {wi : TI} {vs : List Nat} (h : Iw W E wi δ S H (fun ds st S1 H1 => LcM W E g te vs δ Φ X ds st S1 H1) X) : Ew W E (tLc wi g tYes te vs) δ S H Φ X := ew_lcM0 fun σ H1 R m c o ex => h σ H1 R m c (fun J ds st S' H' H2 ⟨a, out, δs, b, d, e, q⟩ => o J ds st S' H' H2 ⟨a, out, δs, b, d, e, fun p H3 => q _ rfl p H3⟩) ex
end
end Dw

/-! Numbers, their digits, their texts. -/
namespace Dw
open PySem PySem.Spec PyProof.Rows L2
/-- the text of n -/
def nS (n : Nat) : Str := Str.ofString (toString ((n : Nat) : Int))
/-- how many digits -/
def nD (n : Nat) : Nat := (TL.numL n).length
theorem nS_cps (n : Nat) : (nS n).cps.toList = TL.numL n := TL.tl_num n
theorem nS_len (n : Nat) : (nS n).length = nD n := by
  show (nS n).cps.size = _
  rw [← Array.length_toList, nS_cps]
  rfl
theorem nD_pos (n : Nat) : 0 < nD n := List.length_pos_iff.mpr (TL.numL_ne n)
theorem nD_lt {n : Nat} (h : n < 10) : nD n = 1 := by unfold nD; rw [TL.numL_lt h]; rfl
theorem nD_step {n : Nat} (h : 10 ≤ n) : nD n = nD (n / 10) + 1 := by unfold nD; rw [TL.numL_step h, List.length_append]; rfl
theorem lt_nD : ∀ n : Nat, n < 10 ^ nD n := by
  intro n
  induction n using Nat.strongRecOn with
  | ind n ih =>
    by_cases h : n < 10
    · rw [nD_lt h]
      exact h
    · have h' : 10 ≤ n := by omega
      rw [nD_step h', Nat.pow_succ]
      have := ih (n / 10) (by omega)
      omega
theorem nD_le_of {n k : Nat} (hk : 0 < k) (h : n < 10 ^ k) : nD n ≤ k := TL.numL_len hk h
theorem nD_le_iff {n k : Nat} (hk : 0 < k) : nD n ≤ k ↔ n < 10 ^ k :=
  ⟨fun h => Nat.lt_of_lt_of_le (lt_nD n) (Nat.pow_le_pow_right (by decide) h), nD_le_of hk⟩
/-- the digit at place i -/
def dg (n i : Nat) : Nat := n / 10 ^ i % 10
theorem dg_lt (n i : Nat) : dg n i < 10 := Nat.mod_lt _ (by decide)
theorem dg_zero (n : Nat) : dg n 0 = n % 10 := by unfold dg; rw [Nat.pow_zero, Nat.div_one]
theorem dg_succ (n i : Nat) : dg n (i + 1) = dg (n / 10) i := by unfold dg; rw [Nat.pow_succ, Nat.mul_comm, ← Nat.div_div_eq_div_mul]
theorem dg_big {n i : Nat} (h : nD n ≤ i) : dg n i = 0 := by
  unfold dg
  rw [Nat.div_eq_of_lt (Nat.lt_of_lt_of_le (lt_nD n) (Nat.pow_le_pow_right (by decide) h))]
theorem numL_rev (n : Nat) : (TL.numL n).reverse = (List.range (nD n)).map fun i => 48 + dg n i := by
  induction n using Nat.strongRecOn with
  | ind n ih =>
    by_cases h : n < 10
    · rw [nD_lt h, TL.numL_lt h]
      show [48 + n] = [48 + dg n 0]
      rw [dg_zero, Nat.mod_eq_of_lt h]
    · have h' : 10 ≤ n := by omega
      rw [nD_step h', TL.numL_step h', List.reverse_append, ih (n / 10) (by omega), List.range_succ_eq_map, List.map_cons, List.map_map]
      show (48 + n % 10) :: _ = _
      rw [dg_zero]
      congr 1
      refine List.map_congr_left fun i _ => ?_
      show 48 + dg (n / 10) i = 48 + dg n (i + 1)
      rw [dg_succ]
theorem numL_eq (n : Nat) : TL.numL n = (List.range (nD n)).map fun i => 48 + dg n (nD n - 1 - i) := by
  have h := congrArg List.reverse (numL_rev n)
  rw [List.reverse_reverse] at h
  rw [h]
  refine List.ext_getElem? fun i => ?_
  by_cases hi : i < nD n
  · rw [List.getElem?_reverse (by rw [List.length_map, List.length_range]; exact hi), List.length_map, List.length_range, List.getElem?_map, List.getElem?_map, List.getElem?_range (by omega), List.getElem?_range hi]
    rfl
  · rw [List.getElem?_eq_none (by rw [List.length_reverse, List.length_map, List.length_range]; omega), List.getElem?_eq_none (by rw [List.length_map, List.length_range]; omega)]
/-- a sign of a digit -/
def sg (d : Nat) : Str := ⟨#[48 + d]⟩
theorem int_sg {d : Nat} (h : d < 10) : PySem.intText? (sg d) = some (d : Int) := by
  have := TL.int_num (n := d) (by rw [TL.numL_lt h]; show 1 ≤ 4300; decide)
  rw [← this]
  congr 1
  have e : (Str.ofString (toString ((d : Nat) : Int))).cps.toList = [48 + d] := by rw [show (Str.ofString (toString ((d : Nat) : Int))).cps.toList = TL.numL d from TL.tl_num d, TL.numL_lt h]
  unfold sg
  cases q : Str.ofString (toString ((d : Nat) : Int)) with
  | mk c =>
    rw [q] at e
    congr 1
    exact Array.toList_inj.mp e.symm
theorem signs_rev (n : Nat) : signs (revS (nS n)) = (List.range (nD n)).map fun i => .str (sg (dg n i)) := by
  unfold signs revS
  show List.map _ (nS n).cps.toList.reverse = _
  rw [nS_cps, numL_rev, List.map_map]
  rfl
theorem signs_nS (n : Nat) : signs (nS n) = (List.range (nD n)).map fun i => .str (sg (dg n (nD n - 1 - i))) := by
  unfold signs
  rw [nS_cps, numL_eq, List.map_map]
  rfl
theorem revS_len (x : Str) : (revS x).length = x.length := by
  show (revS x).cps.size = x.cps.size
  unfold revS
  simp
theorem nS_ok (n : Nat) : PyData.strOk (nS n) = true := by
  unfold PyData.strOk
  rw [← Array.all_toList, nS_cps, numL_eq, List.all_map, List.all_eq_true]
  intro i _
  have := dg_lt n (nD n - 1 - i)
  show decide (48 + dg n (nD n - 1 - i) < 1114112) = true
  exact decide_eq_true (by omega)
theorem numb_map {α : Type} {f : α → Dv} : ∀ (n : Nat) (xs : List α), numb n (xs.map f) = (xs.zipIdx n).map fun p => .tup [.int (p.2 : Nat), f p.1]
  | _, [] => rfl
  | n, x :: r => by
    rw [List.map_cons, List.zipIdx_cons, List.map_cons]
    show _ :: numb (n + 1) (r.map f) = _
    rw [numb_map (n + 1) r]
theorem numb_range {f : Nat → Dv} (m : Nat) : numb 0 ((List.range m).map f) = (List.range m).map fun i => .tup [.int (i : Nat), f i] := by
  refine List.ext_getElem? fun i => ?_
  by_cases hi : i < m
  · rw [List.getElem?_map, List.getElem?_range hi]
    cases e : (numb 0 ((List.range m).map f))[i]? with
    | none =>
      have := List.getElem?_eq_none_iff.mp e
      rw [numb_len, List.length_map, List.length_range] at this
      omega
    | some d =>
      obtain ⟨x, hx, ed⟩ := numb_get e
      rw [List.getElem?_map, List.getElem?_range hi] at hx
      cases hx
      rw [ed, Nat.zero_add]
      rfl
  · rw [List.getElem?_eq_none (by rw [numb_len, List.length_map, List.length_range]; omega), List.getElem?_eq_none (by rw [List.length_map, List.length_range]; omega)]
/-- fit for str -/
theorem log_small {i : Int} (h : -(10 ^ 30) < i) (h2 : i < 10 ^ 30) : i.natAbs.log2 < 1920 := by
  have h3 : i.natAbs < 2 ^ 100 := by
    have e : (10 : Int) ^ 30 ≤ 2 ^ 100 := by decide +kernel
    have e2 : ((2 ^ 100 : Nat) : Int) = 2 ^ 100 := by norm_cast
    omega
  by_cases h0 : i.natAbs = 0
  · rw [h0]
    decide
  · have := (Nat.log2_lt h0).mpr h3
    omega
theorem and_log {i : Int} {q : Prop} (h : -(10 ^ 30) < i) (h2 : i < 10 ^ 30) (k : q) : i.natAbs.log2 < 1920 ∧ q := ⟨log_small h h2, k⟩
/-- the text of a whole number -/
def iS (z : Int) : Str := Str.ofString (toString z)
theorem iS_nat {z : Int} (h : 0 ≤ z) : iS z = nS z.toNat := by
  unfold iS nS
  rw [Int.toNat_of_nonneg h]
theorem iS_small {z : Int} (h : -(10 ^ 30) < z) (h2 : z < 10 ^ 30) : (iS z).length ≤ sizeLine := int_text_fits (log_small h h2)
theorem lf_len_iS {W : Wd} {S : List Addr} {H : Hp} {Φ : Ph} {z : Int} (h : -(10 ^ 30) < z) (h2 : z < 10 ^ 30) (q : Φ (.int ((iS z).length : Nat)) S H) : lenB (W := W) [.str (iS z)] Φ S H := lf_len_str (iS_small h h2) q
def strB (xs : List Dv) (Φ : Ph) (S : List Addr) (H : Hp) : Prop := ∃ i : Int, xs = [.int i] ∧ (-(10 ^ 30) < i ∧ i < 10 ^ 30) ∧ Φ (.str (iS i)) S H
theorem caD_iS {W : Wd} : CaD W rStrI strB := fun xs vs Φ S H H1 Q m c r ⟨i, e, h, q⟩ o => caD_str xs vs Φ S H H1 Q m c r ⟨i, e, log_small h.1 h.2, q⟩ o
theorem lf_str {S : List Addr} {H : Hp} {Φ : Ph} {i : Int} (h : -(10 ^ 30) < i) (h2 : i < 10 ^ 30) (q : Φ (.str (iS i)) S H) : strB [.int i] Φ S H := ⟨i, rfl, ⟨h, h2⟩, q⟩
end Dw

namespace Dw
open PySem PySem.Spec PyProof.Rows L2
/-! ### what is fresh may be forgotten -/
section
variable {W : Wd} {S S1 S2 T : List Addr} {H H1 H2 : Hp}
theorem Md.drop (a : Md W [] H H1) (b : Md W T H1 H2) (h : ∀ x ∈ T, H x = none) : Md W [] H H2 :=
  ⟨fun c o e n t => b.keep c o (a.keep c o e n t) (fun z => by rw [h c z] at e; cases e) t, fun c o e => let ⟨o1, h1⟩ := a.dom c o e; b.dom c o1 h1, fun P hP h => b.tg P hP (a.tg P hP h), fun p hp h => b.tl p hp (a.tl p hp h), fun c φ h => b.xt c φ (a.xt c φ h)⟩
theorem Up.drop (a : Up W S H S1 H1) (b : Md W T H1 H2) (h : ∀ x ∈ T, H x = none) : Up W S H S1 H2 := ⟨a.md.drop b h, a.sub, a.new⟩
theorem Up.free (a : Up W S H S1 H1) {x : Addr} (h : H1 x = none) : H x = none := a.md.free h
theorem Up.cons {p : Addr} (m : Md W [] H H1) (h : H p = none) : Up W S H (p :: S) H1 := ⟨m, fun a ha => List.mem_cons_of_mem _ ha, fun a ha => (List.mem_cons.mp ha).elim (fun z => .inr (by rw [z]; exact h)) .inl⟩
/-- the result alone matters -/
def Fg (W : Wd) (S : List Addr) (H : Hp) (Φ : Ph) : Ph := fun d S1 H1 => Md W [] H H1 ∧ (∀ a ∈ S, a ∈ S1) ∧ Φ d S H
def FgX (W : Wd) (S : List Addr) (H : Hp) (X : Px) : Px := fun c S1 H1 => Md W [] H H1 ∧ (∀ a ∈ S, a ∈ S1) ∧ X c S H
theorem vo_forget {Φ : Ph} {Q : VK} (o : Vo W S H1 Φ Q) (m0 : Md W [] H H1) : Vo W S H1 (Fg W S H Φ) Q := fun v d S' H' H2 ⟨m, hs, q⟩ m' t c r => by
  have t' : Tr W S H1 S H2 := ⟨t.md, fun _ h => h, fun _ h => .inl h, fun a ha => t.dom a (hs a ha)⟩
  exact o v d S H H2 q (m.trans m') t' ⟨t'.dom, c.tg, c.tl, .nil⟩ (r.lq fun a u e n => let ⟨e1, e2⟩ := of_off e; off_of e1 fun z => e2 (hs a z))
theorem xo_forget {X : Px} {E : XK} (o : Xo W E S H1 X) (m0 : Md W [] H H1) : Xo W E S H1 (FgX W S H X) := fun cls S' H' H2 ⟨m, hs, q⟩ m' t c => by
  have t' : Tr W S H1 S H2 := ⟨t.md, fun _ h => h, fun _ h => .inl h, fun a ha => t.dom a (hs a ha)⟩
  exact o cls S H H2 q (m.trans m') t' ⟨t'.dom, c.tg, c.tl, .nil⟩
theorem ew_forget {E : XK} {te : TE} {δ : Dn} {Φ : Ph} {X : Px} (h : Ew W E te δ S H (Fg W S H Φ) X) : Ew W E te δ S H Φ X := fun σ H1 Q m c o ex => h σ H1 Q m c (vo_forget o m) ex
theorem sw_forget {E : XK} {t : TS} {δ : Dn} {k : Ks} {X : Px} (h : Sw W E t δ S H { k with rt := Fg W S H k.rt } (FgX W S H X)) : Sw W E t δ S H k X := fun σ H1 De m c o => h σ H1 De m c ⟨o.nx, vo_forget o.rt m, o.bk, o.ct, xo_forget o.ex m⟩
theorem fg_pure {Φ : Ph} {d : Dv} (u : Up W S H S1 H1) (q : Φ d S H) : Fg W S H Φ d S1 H1 := ⟨u.md, u.sub, q⟩
theorem fgX_pure {X : Px} {c : Value} (u : Up W S H S1 H1) (q : X c S H) : FgX W S H X c S1 H1 := ⟨u.md, u.sub, q⟩
/-! ### lists that grow -/
theorem lf_app {Φ : Ph} {a : Addr} {xs : List Dv} {y : Dv} (l : LstAt W S H a xs) (hl : xs.length < 1000000) (q : ∀ H', Md W [a] H H' → LstAt W S H' a (xs ++ [y]) → Φ .non S H') : appB (W := W) (.adr a) [y] Φ S H := ⟨a, xs, y, rfl, rfl, l, Nat.lt_of_lt_of_le hl (by decide), q⟩
theorem lf_pop {Φ : Ph} {a : Addr} {xs : List Dv} {y : Dv} (l : LstAt W S H a (xs ++ [y])) (q : ∀ H', Md W [a] H H' → LstAt W S H' a xs → Φ y S H') : popB (W := W) (.adr a) [] Φ S H := ⟨a, xs, y, rfl, rfl, l, q⟩
theorem lf_tyl {a : Addr} {xs : List Dv} {q : Prop} (l : LstAt W S H a xs) (k : q) : tyD W "list" (.adr a) S H ∧ q := ⟨⟨rfl, xs, l⟩, k⟩
theorem lf_tyd {xs : List Dv} {q : Prop} (k : q) : tyD W "list" (.lst xs) S H ∧ q := ⟨rfl, k⟩
theorem LstAt.md {a : Addr} {xs : List Dv} (l : LstAt W S H a xs) (m : Md W T H H1) (h : a ∉ T) (hs : ∀ x ∈ T, x ∈ S) : LstAt W S H1 a xs := by
  obtain ⟨ha, ys, hy, r⟩ := l
  refine ⟨ha, ys, m.keep _ _ hy h (fun _ z => by cases z), r.lq fun b u e n => ?_⟩
  obtain ⟨e1, e2⟩ := of_off e
  exact off_of (m.keep _ _ e1 (fun z => e2 (hs _ z)) n) e2
end
/-! ### dicts -/
abbrev Ky := L2.Key
def kD : Ky → Dv
  | .inl i => .int i
  | .inr x => .str x
inductive KR (W : Wd) (G : Hp) : List (Ky × Dv) → List (Ky × V) → Prop
  | nil : KR W G [] []
  | cons {k : Ky} {d : Dv} {v : V} {ps : List (Ky × Dv)} {kvs : List (Ky × V)} : Rp W G d v → KR W G ps kvs → KR W G ((k, d) :: ps) ((k, v) :: kvs)
def valD (ps : List (Ky × Dv)) (k : Ky) : Option Dv := (ps.find? fun p => decide (p.1 = k)).map (·.2)
def putD (ps : List (Ky × Dv)) (k : Ky) (d : Dv) : List (Ky × Dv) := if (ps.any fun p => decide (p.1 = k)) = true then ps.map (fun p => if p.1 = k then (p.1, d) else p) else ps ++ [(k, d)]
def mergeD (ps more : List (Ky × Dv)) : List (Ky × Dv) := more.foldl (fun acc p => putD acc p.1 p.2) ps
section
variable {W : Wd} {G G' : Hp}
theorem KR.lq (l : Lq G G') {ps : List (Ky × Dv)} {kvs : List (Ky × V)} (r : KR W G ps kvs) : KR W G' ps kvs := by
  induction r with
  | nil => exact .nil
  | cons h _ ih => exact .cons (h.lq l) ih
theorem KR.length {ps : List (Ky × Dv)} {kvs : List (Ky × V)} (r : KR W G ps kvs) : ps.length = kvs.length := by
  induction r with
  | nil => rfl
  | cons h _ ih => exact congrArg (· + 1) ih
theorem KR.keys {ps : List (Ky × Dv)} {kvs : List (Ky × V)} (r : KR W G ps kvs) : kvs.map (·.1) = ps.map (·.1) := by
  induction r with
  | nil => rfl
  | cons h _ ih => rw [List.map_cons, List.map_cons, ih]
theorem KR.val {ps : List (Ky × Dv)} {kvs : List (Ky × V)} (r : KR W G ps kvs) (k : Ky) : (valD ps k = none ∧ valV kvs k = none) ∨ ∃ d v, valD ps k = some d ∧ valV kvs k = some v ∧ Rp W G d v := by
  induction r with
  | nil => exact .inl ⟨rfl, rfl⟩
  | @cons k' d v ps kvs h _ ih =>
    by_cases e : k' = k
    · refine .inr ⟨d, v, ?_, ?_, h⟩
      · unfold valD
        rw [List.find?_cons_of_pos (by simpa using e)]
        rfl
      · unfold valV
        rw [List.find?_cons_of_pos (by simpa using e)]
        rfl
    · have e1 : valD ((k', d) :: ps) k = valD ps k := by
        unfold valD
        rw [List.find?_cons_of_neg (by simpa using e)]
      have e2 : valV ((k', v) :: kvs) k = valV kvs k := by
        unfold valV
        rw [List.find?_cons_of_neg (by simpa using e)]
      rw [e1, e2]
      exact ih
theorem KR.repl {ps : List (Ky × Dv)} {kvs : List (Ky × V)} (r : KR W G ps kvs) (k : Ky) {d : Dv} {v : V} (h : Rp W G d v) : KR W G (ps.map fun p => if p.1 = k then (p.1, d) else p) (kvs.map fun p => if p.1 = k then (p.1, v) else p) := by
  induction r with
  | nil => exact .nil
  | @cons k' d' v' ps kvs h' _ ih =>
    rw [List.map_cons, List.map_cons]
    by_cases e : k' = k
    · rw [if_pos e, if_pos e]
      exact .cons h ih
    · rw [if_neg e, if_neg e]
      exact .cons h' ih
theorem KR.snoc {ps : List (Ky × Dv)} {kvs : List (Ky × V)} (r : KR W G ps kvs) (k : Ky) {d : Dv} {v : V} (h : Rp W G d v) : KR W G (ps ++ [(k, d)]) (kvs ++ [(k, v)]) := by
  induction r with
  | nil => exact .cons h .nil
  | cons h' _ ih => exact .cons h' ih
theorem KR.any {ps : List (Ky × Dv)} {kvs : List (Ky × V)} (r : KR W G ps kvs) (k : Ky) : (ps.any fun p => decide (p.1 = k)) = kvs.any fun p => decide (p.1 = k) := by
  induction r with
  | nil => rfl
  | cons h _ ih => rw [List.any_cons, List.any_cons, ih]
theorem KR.put {ps : List (Ky × Dv)} {kvs : List (Ky × V)} (r : KR W G ps kvs) (k : Ky) {d : Dv} {v : V} (h : Rp W G d v) : KR W G (putD ps k d) (putK kvs k v) := by
  unfold putD putK
  rw [r.any k]
  by_cases e : (kvs.any fun p => decide (p.1 = k)) = true
  · rw [if_pos e, if_pos e]
    exact r.repl k h
  · rw [if_neg e, if_neg e]
    exact r.snoc k h
theorem KR.merge {ms : List (Ky × Dv)} {mvs : List (Ky × V)} (r : KR W G ms mvs) : ∀ {ps : List (Ky × Dv)} {kvs : List (Ky × V)}, KR W G ps kvs → KR W G (mergeD ps ms) (mergeK kvs mvs) := by
  induction r with
  | nil => exact fun q => q
  | cons h _ ih => exact fun q => ih (q.put _ h)
theorem KR.at {ps : List (Ky × Dv)} {kvs : List (Ky × V)} (r : KR W G ps kvs) {i : Nat} {k : Ky} {d : Dv} (h : ps[i]? = some (k, d)) : ∃ v, kvs[i]? = some (k, v) ∧ Rp W G d v := by
  induction r generalizing i with
  | nil => simp at h
  | cons h' _ ih =>
    cases i with
    | zero =>
      simp at h
      obtain ⟨rfl, rfl⟩ := h
      exact ⟨_, rfl, h'⟩
    | succ i => exact ih (by simpa using h)
end
/-- a dict that may be read; that may be written -/
def DictAt (W : Wd) (S : List Addr) (H : Hp) (a : Addr) (ps : List (Ky × Dv)) : Prop := a ∈ S ∧ ∃ kvs, Rd H a (.dK kvs) ∧ KR W (off S H) ps kvs
def DictW (W : Wd) (S : List Addr) (H : Hp) (a : Addr) (ps : List (Ky × Dv)) : Prop := a ∈ S ∧ ∃ kvs, H a = some (.dK kvs) ∧ KR W (off S H) ps kvs
section
variable {W : Wd} {E : XK} {te td ty tv tx : TE} {δ : Dn} {S S' T : List Addr} {H H' : Hp} {Φ : Ph} {X : Px} {k : Ks} {a : Addr} {ps : List (Ky × Dv)}
theorem DictW.rd (d : DictW W S H a ps) : DictAt W S H a ps := let ⟨h, kvs, e, r⟩ := d; ⟨h, kvs, .inl e, r⟩
theorem Md.rd (m : Md W [] H H') {u : HO} (h : Rd H a u) (n : nT u) : Rd H' a u := h.elim (fun e => .inl (m.at e n)) fun ⟨o, e⟩ => .inr ⟨o, m.at e (fun _ z => by cases z)⟩
theorem DictAt.up (u : Up W S H S' H') (d : DictAt W S H a ps) : DictAt W S' H' a ps := let ⟨h, kvs, e, r⟩ := d; ⟨u.sub _ h, kvs, u.md.rd e (fun _ z => by cases z), r.lq u.lq⟩
theorem DictW.up (u : Up W S H S' H') (d : DictW W S H a ps) : DictW W S' H' a ps := let ⟨h, kvs, e, r⟩ := d; ⟨u.sub _ h, kvs, u.md.at e, r.lq u.lq⟩
theorem lq_mdS (m : Md W T H H') (hs : ∀ x ∈ T, x ∈ S) : Lq (off S H) (off S H') := fun b u e n => by
  obtain ⟨e1, e2⟩ := of_off e
  exact off_of (m.keep _ _ e1 (fun z => e2 (hs _ z)) n) e2
theorem DictAt.md (d : DictAt W S H a ps) (m : Md W T H H') (h : a ∉ T) (hs : ∀ x ∈ T, x ∈ S) : DictAt W S H' a ps := let ⟨ha, kvs, e, r⟩ := d; ⟨ha, kvs, e.elim (fun e => .inl (m.keep _ _ e h (fun _ z => by cases z))) (fun ⟨o, e⟩ => .inr ⟨o, m.keep _ _ e h (fun _ z => by cases z)⟩), r.lq (lq_mdS m hs)⟩
theorem DictW.md (d : DictW W S H a ps) (m : Md W T H H') (h : a ∉ T) (hs : ∀ x ∈ T, x ∈ S) : DictW W S H' a ps := let ⟨ha, kvs, e, r⟩ := d; ⟨ha, kvs, m.keep _ _ e h (fun _ z => by cases z), r.lq (lq_mdS m hs)⟩
theorem Rp.key {G : Hp} {ky : Ky} {v : V} (r : Rp W G (kD ky) v) : v = kV ky := by
  cases ky with
  | inl i => cases r; rfl
  | inr x => cases r; rfl
/-- {} -/
def newDB (W : Wd) (ps : List (Ky × Dv)) (Φ : Ph) (S : List Addr) (H : Hp) : Prop := ∀ p H2, Md W [] H H2 → H p = none → p ∉ S → DictW W (p :: S) H2 p ps → Φ (.adr p) (p :: S) H2
theorem ew_dnew (h : newDB W [] Φ S H) : Ew W E tDNewK δ S H Φ X := fun σ H1 Q m c o ex => fun p hp =>
  o (.ref p) (.adr p) (p :: S) _ _ (h p _ (m.trans (Md.new hp)) (m.free hp) (notS c hp) ⟨List.mem_cons_self, [], upd_same, .nil⟩) .refl (tr_grow c.nil hp) (c.nil.tr (tr_grow c.nil hp)) (.adr p)
/-- d[k] -/
def dgetB (W : Wd) (d y : Dv) (Φ : Ph) (S : List Addr) (H : Hp) : Prop := ∃ a ps ky z, d = .adr a ∧ y = kD ky ∧ DictAt W S H a ps ∧ valD ps ky = some z ∧ Φ z S H
theorem ew_dget (h : Ew W E td δ S H (fun d S1 H1 => Ew W E ty δ S1 H1 (fun y S2 H2 => dgetB W d y Φ S2 H2) X) X) : Ew W E (tDGet td ty) δ S H Φ X := fun σ H1 Q m c o ex => by
  refine h σ H1 _ m c (fun v d S1 G1 H2 q m1 t1 c1 r1 => ?_) ex
  refine q σ H2 _ m1 (c.tr t1) (fun u y S2 G2 H3 ⟨a, ps, ky, z, e1, e2, ⟨ha, kvs, hd, kr⟩, hv, qq⟩ m2 t2 c2 r2 => ?_) (ex.tr t1)
  subst e1 e2
  cases r1
  obtain rfl := r2.key
  rcases kr.val ky with ⟨e, _⟩ | ⟨z', v', e, ev, rv⟩
  · rw [hv] at e
    cases e
  · rw [hv] at e
    cases e
    exact ⟨a, v', rfl, .inl ⟨kvs, ky, m2.rd hd (fun _ z => by cases z), rfl, ev.symm⟩, (o.tr (t1.trans t2)).pure c2 m2 (rv.lq (lq_md m2)) qq⟩
/-- d.get(k, z) -/
def dget2B (W : Wd) (d y z : Dv) (Φ : Ph) (S : List Addr) (H : Hp) : Prop := ∃ a ps ky, d = .adr a ∧ y = kD ky ∧ DictAt W S H a ps ∧ Φ ((valD ps ky).getD z) S H
theorem ew_dget2 (h : Ew W E td δ S H (fun d S1 H1 => (∃ a ps, d = .adr a ∧ DictAt W S1 H1 a ps) ∧ Ew W E ty δ S1 H1 (fun y S2 H2 => Ew W E tx δ S2 H2 (fun z S3 H3 => dget2B W d y z Φ S3 H3) X) X) X) : Ew W E (tDGet2 td ty tx) δ S H Φ X := fun σ H1 Q m c o ex => by
  refine h σ H1 _ m c (fun v d S1 G1 H2 ⟨⟨a0, ps0, e0, ⟨ha0, kvs0, hd0, _⟩⟩, q⟩ m1 t1 c1 r1 => ?_) ex
  subst e0
  cases r1
  refine ⟨a0, rfl, .inl ⟨kvs0, m1.rd hd0 (fun _ z => by cases z)⟩, ?_⟩
  refine q σ H2 _ m1 (c.tr t1) (fun u y S2 G2 H3 q2 m2 t2 c2 r2 => ?_) (ex.tr t1)
  refine q2 σ H3 _ m2 ((c.tr t1).tr t2) (fun u' z S3 G3 H4 ⟨a, ps, ky, e1, e2, ⟨ha, kvs, hd, kr⟩, qq⟩ m3 t3 c3 r3 => ?_) ((ex.tr t1).tr t2)
  cases e1
  subst e2
  obtain rfl := r2.key
  have o3 := o.tr ((t1.trans t2).trans t3)
  have g : DGet H4 a0 (kV ky) (valV kvs ky) := .inl ⟨kvs, ky, m3.rd hd (fun _ z => by cases z), rfl, rfl⟩
  refine ⟨_, g, ?_⟩
  rcases kr.val ky with ⟨e, ev⟩ | ⟨z', v', e, ev, rv⟩
  · rw [ev]
    rw [e] at qq
    exact o3.pure c3 m3 r3 qq
  · rw [ev]
    rw [e] at qq
    exact o3.pure c3 m3 (rv.lq (lq_md m3)) qq
def dget1B (W : Wd) (d y : Dv) (Φ : Ph) (S : List Addr) (H : Hp) : Prop := ∃ a ps ky, d = .adr a ∧ y = kD ky ∧ DictAt W S H a ps ∧ Φ ((valD ps ky).getD .non) S H
theorem ew_dget1 (h : Ew W E td δ S H (fun d S1 H1 => (∃ a ps, d = .adr a ∧ DictAt W S1 H1 a ps) ∧ Ew W E ty δ S1 H1 (fun y S2 H2 => dget1B W d y Φ S2 H2) X) X) : Ew W E (tDGet1 td ty) δ S H Φ X := fun σ H1 Q m c o ex => by
  refine h σ H1 _ m c (fun v d S1 G1 H2 ⟨⟨a0, ps0, e0, ⟨ha0, kvs0, hd0, _⟩⟩, q⟩ m1 t1 c1 r1 => ?_) ex
  subst e0
  cases r1
  refine ⟨a0, rfl, .inl ⟨kvs0, m1.rd hd0 (fun _ z => by cases z)⟩, ?_⟩
  refine q σ H2 _ m1 (c.tr t1) (fun u y S2 G2 H3 ⟨a, ps, ky, e1, e2, ⟨ha, kvs, hd, kr⟩, qq⟩ m2 t2 c2 r2 => ?_) (ex.tr t1)
  cases e1
  subst e2
  obtain rfl := r2.key
  have o3 := o.tr (t1.trans t2)
  have g : DGet H3 a0 (kV ky) (valV kvs ky) := .inl ⟨kvs, ky, m2.rd hd (fun _ z => by cases z), rfl, rfl⟩
  refine ⟨_, g, ?_⟩
  rcases kr.val ky with ⟨e, ev⟩ | ⟨z', v', e, ev, rv⟩
  · rw [ev]
    rw [e] at qq
    exact o3.pure c2 m2 .non qq
  · rw [ev]
    rw [e] at qq
    exact o3.pure c2 m2 (rv.lq (lq_md m2)) qq
/-- k in d -/
def dinB (W : Wd) (neg : Bool) (y d : Dv) (Φ : Ph) (S : List Addr) (H : Hp) : Prop := ∃ a ps ky, d = .adr a ∧ y = kD ky ∧ DictAt W S H a ps ∧ Φ (.bl (if neg then !(valD ps ky).isSome else (valD ps ky).isSome)) S H
theorem KR.some {G : Hp} {kvs : List (Ky × V)} (r : KR W G ps kvs) (ky : Ky) : (valV kvs ky).isSome = (valD ps ky).isSome := by
  rcases r.val ky with ⟨e, ev⟩ | ⟨z', v', e, ev, rv⟩
  · rw [e, ev]
    all_goals rfl
  · rw [e, ev]
    all_goals rfl
theorem ew_din (h : Ew W E ty δ S H (fun y S1 H1 => Ew W E td δ S1 H1 (fun d S2 H2 => dinB W false y d Φ S2 H2) X) X) : Ew W E (tDIn ty td) δ S H Φ X := fun σ H1 Q m c o ex => by
  refine h σ H1 _ m c (fun v y S1 G1 H2 q m1 t1 c1 r1 => ?_) ex
  refine q σ H2 _ m1 (c.tr t1) (fun u d S2 G2 H3 ⟨a, ps, ky, e1, e2, ⟨ha, kvs, hd, kr⟩, qq⟩ m2 t2 c2 r2 => ?_) (ex.tr t1)
  subst e1 e2
  cases r2
  obtain rfl := r1.key
  have g : DGet H3 a (kV ky) (valV kvs ky) := .inl ⟨kvs, ky, m2.rd hd (fun _ z => by cases z), rfl, rfl⟩
  refine ⟨a, _, rfl, g, ?_⟩
  rw [kr.some]
  exact (o.tr (t1.trans t2)).pure c2 m2 (.bl _) qq
theorem ew_dnotin (h : Ew W E ty δ S H (fun y S1 H1 => Ew W E td δ S1 H1 (fun d S2 H2 => dinB W true y d Φ S2 H2) X) X) : Ew W E (tDNotIn ty td) δ S H Φ X := fun σ H1 Q m c o ex => by
  refine h σ H1 _ m c (fun v y S1 G1 H2 q m1 t1 c1 r1 => ?_) ex
  refine q σ H2 _ m1 (c.tr t1) (fun u d S2 G2 H3 ⟨a, ps, ky, e1, e2, ⟨ha, kvs, hd, kr⟩, qq⟩ m2 t2 c2 r2 => ?_) (ex.tr t1)
  subst e1 e2
  cases r2
  obtain rfl := r1.key
  have g : DGet H3 a (kV ky) (valV kvs ky) := .inl ⟨kvs, ky, m2.rd hd (fun _ z => by cases z), rfl, rfl⟩
  refine ⟨a, _, rfl, g, ?_⟩
  rw [kr.some]
  exact (o.tr (t1.trans t2)).pure c2 m2 (.bl _) qq
/-- d[k] = v -/
def dputB (W : Wd) (d y v : Dv) (Φ : List Addr → Hp → Prop) (S : List Addr) (H : Hp) : Prop := ∃ a ps ky, d = .adr a ∧ y = kD ky ∧ DictW W S H a ps ∧ ps.length < 1000000 ∧ ∀ H', Md W [a] H H' → DictW W S H' a (putD ps ky v) → Φ S H'
theorem sw_dput (h : Ew W E tv δ S H (fun v S1 H1 => Ew W E td δ S1 H1 (fun d S2 H2 => Ew W E ty δ S2 H2 (fun y S3 H3 => dputB W d y v (fun S4 H4 => k.nx δ S4 H4) S3 H3) X) X) X) : Sw W E (sDPut td ty tv) δ S H k X := fun σ H1 De m c o => by
  refine h σ H1 _ m c (fun u v S1 G1 H2 q m1 t1 c1 r1 => ?_) o.ex
  refine q σ H2 _ m1 (c.tr t1) (fun u2 d S2 G2 H3 q2 m2 t2 c2 r2 => ?_) (o.ex.tr t1)
  refine q2 σ H3 _ m2 ((c.tr t1).tr t2) (fun u3 y S3 G3 H4 ⟨a, ps, ky, e1, e2, ⟨ha, kvs, hd, kr⟩, hz, qq⟩ m3 t3 c3 r3 => ?_) ((o.ex.tr t1).tr t2)
  subst e1 e2
  cases r2
  obtain rfl := r3.key
  have hd4 := m3.at hd
  have mu : Md W [a] H4 (upd H4 a (.dK (putK kvs ky u))) := Md.upd hd4 rfl (List.mem_singleton.mpr rfl)
  have tr : Tr W S3 H4 S3 (upd H4 a (.dK (putK kvs ky u))) := Tr.md1 c3.dom (Md.upd hd4 rfl ha)
  have t123 := (t1.trans t2).trans t3
  have kr4 : KR W (off S3 H4) ps kvs := kr.lq (lq_md m3)
  refine ⟨a, _, rfl, .inl ⟨kvs, ky, hd4, rfl, by rw [← kr.length]; exact Nat.lt_of_lt_of_le hz (by decide), rfl⟩, ?_⟩
  refine o.nx σ δ S3 _ _ (qq _ (m3.up.trans mu) ⟨ha, _, upd_same, ?_⟩) .refl (t123.trans tr) ((c.tr t123).tr tr)
  exact (kr4.lq (lq_mdS (W := W) (S := S3) (Md.upd (S := [a]) hd4 rfl (List.mem_singleton.mpr rfl)) (fun x hx => by rw [List.mem_singleton.mp hx]; exact ha))).put ky (tr.rp ((t2.trans t3).rp r1))
/-- {k: v, ..}, the pairs read without a change -/
def Prs (W : Wd) (E : XK) (X : Px) (δ : Dn) : List (TE × TE) → List (Ky × Dv) → List Addr → Hp → Prop
  | [], [], _, _ => True
  | (tk, tv) :: r, (ky, d) :: ps, S, H => Ew W E tk δ S H (same S H (kD ky)) X ∧ Ew W E tv δ S H (same S H d) X ∧ Prs W E X δ r ps S H
  | _, _, _, _ => False
theorem pairs_run {δ : Dn} : ∀ {trs : List (TE × TE)} {ps : List (Ky × Dv)} {S : List Addr} {σ : L2.St} {H0 H1 : Hp} {Q : List (V × V) → Hp → Prop}, Prs W E X δ trs ps S H0 → Md W [] H0 H1 → Cn W S δ σ H1 → Xo W E S H1 X →
    (∀ (kvs : List (Ky × V)) H2, Md W [] H0 H2 → Tr W S H1 S H2 → Cn W S δ σ H2 → KR W (off S H2) ps kvs → Q (kvs.map fun kv => (kV kv.1, kv.2)) H2) → tPairs trs σ H1 Q
  | [], [], S, σ, H0, H1, Q, _, m, c, _, k => k [] H1 m (Tr.refl c.dom) c .nil
  | (tk, tv) :: r, (ky, d) :: ps, S, σ, H0, H1, Q, ⟨h1, h2, h3⟩, m, c, ex, k => by
    refine h1 σ H1 _ m c (fun v y S1 G1 H2 ⟨e1, e2, e3⟩ m1 t1 c1 r1 => ?_) ex
    subst e1 e2 e3
    refine h2 σ H2 _ m1 (c.tr t1) (fun u z S2 G2 H3 ⟨e1, e2, e3⟩ m2 t2 c2 r2 => ?_) (ex.tr t1)
    subst e1 e2 e3
    obtain rfl := r1.key
    have tt := t1.trans t2
    exact pairs_run h3 m2 (c.tr tt) (ex.tr tt) fun kvs H4 n2 t3 c3 kr => k ((ky, u) :: kvs) H4 n2 (tt.trans t3) c3 (.cons (t3.rp r2) kr)
  | [], _ :: _, _, _, _, _, _, h, _, _, _, _ => h.elim
  | _ :: _, [], _, _, _, _, _, h, _, _, _, _ => h.elim
theorem ew_disp {trs : List (TE × TE)} (hp : ∀ S2 H2, Up W S H S2 H2 → Prs W E X δ trs ps S2 H2) (h15 : ps.length ≤ 15) (h : newDB W (mergeD [] ps) Φ S H) : Ew W E (tDisp trs) δ S H Φ X := fun σ H1 Q m c o ex => fun p hn => by
  have g := m.free hn
  have nS := notS c hn
  have t0 : Tr W S H1 (p :: S) (upd H1 p (.dK [])) := tr_grow c.nil hn
  refine pairs_run (hp (p :: S) (upd H1 p (.dK [])) (Up.cons (m.trans (Md.new hn)) g)) .refl (c.tr t0) (ex.tr t0) fun kvs H2 n2 t3 c3 kr => ?_
  have hp2 : H2 p = some (.dK []) := n2.at upd_same
  have memD : p ∈ p :: S := List.mem_cons_self
  refine ⟨hp2, kvs, rfl, by rw [← kr.length]; exact h15, ?_⟩
  have tz := tr_out (o' := .dK (mergeK [] kvs)) (t0.trans t3) hp2 rfl memD
  refine o (.ref p) (.adr p) (p :: S) _ _ (h p _ (md_out ((m.trans (Md.new hn)).trans n2) g hp2 rfl) g nS ⟨memD, _, upd_same, ?_⟩) .refl tz (c.nil.tr tz) (.adr p)
  exact (KR.merge kr .nil).lq fun a u e n => by
    obtain ⟨e1, e2⟩ := of_off e
    exact off_of (by rw [upd_ne (fun z => e2 (by rw [z]; exact memD))]; exact e1) e2
end
end Dw

namespace Dw
open PySem PySem.Spec PyProof.Rows L2
section
variable {W : Wd} {E : XK} {te td ty tv tx : TE} {tt : TT} {g : TG} {t : TS} {δ : Dn} {S S' T : List Addr} {H H' : Hp} {Φ : Ph} {X : Px} {k : Ks} {a : Addr} {ps : List (Ky × Dv)}
/-! ### a dict's keys, the dict locked -/
theorem kD_rp {G : Hp} (ky : Ky) : Rp W G (kD ky) (kV ky) := by
  cases ky with
  | inl z => exact .int z
  | inr z => exact .str z
theorem Gw.mono {d : Dv} {Ψ Ψ' : PhN} (h : Gw W g d δ S H Ψ) (f : ∀ δ' S' H', Ψ δ' S' H' → Ψ' δ' S' H') : Gw W g d δ S H Ψ' := fun σ H1 v Q m c r o => h σ H1 v Q m c r fun σ δ' S' H' H2 q => o σ δ' S' H' H2 (f _ _ _ q)
theorem Sw.mono {k' : Ks} (h : Sw W E t δ S H k X) (h1 : ∀ δ' S' H', k.nx δ' S' H' → k'.nx δ' S' H') (h2 : ∀ d S' H', k.rt d S' H' → k'.rt d S' H') (h3 : ∀ δ' S' H', k.bk δ' S' H' → k'.bk δ' S' H') (h4 : ∀ δ' S' H', k.ct δ' S' H' → k'.ct δ' S' H') : Sw W E t δ S H k' X := fun σ H1 De m c o =>
  h σ H1 De m c ⟨fun σ δ' S' H' H2 q => o.nx σ δ' S' H' H2 (h1 _ _ _ q), fun v d S' H' H2 q => o.rt v d S' H' H2 (h2 _ _ _ q), fun σ δ' S' H' H2 q => o.bk σ δ' S' H' H2 (h3 _ _ _ q), fun σ δ' S' H' H2 q => o.ct σ δ' S' H' H2 (h4 _ _ _ q), o.ex⟩
theorem iw_keys {i : Nat} {od : Obj} {kvs : List (Ky × V)} {Ψ : PhI} (hd : δ[i]? = some (some (.adr a))) (ha : H a = some (.frz od (.dK kvs))) (kr : KR W (off S H) ps kvs)
    (q : Ψ (ps.map fun p => kD p.1) (fun S' H' => H' a = some (.frz od (.dK kvs))) S H) : Iw W E (iKeys (tVar i)) δ S H Ψ X := fun σ H1 R m c o ex => by
  obtain ⟨v, ev, rv⟩ := c.env.get hd
  cases rv
  have h1 : H1 a = some (.frz od (.dK kvs)) := m.at ha
  refine ⟨.ref a, ev, a, od, rfl, .inl ⟨kvs, h1, ?_⟩⟩
  have hk : kvs.map (·.1) = ps.map (·.1) := kr.keys
  have hl : kvs.length = ps.length := kr.length.symm
  refine o _ _ _ S H H1 q m (Tr.refl c.dom) fun j S' G' H' tr c' hs m' => ?_
  have h' : H' a = some (.frz od (.dK kvs)) := m'.at hs
  refine ⟨fun d hd => ?_, fun hl' => ⟨h', by rw [List.length_map] at hl'; omega⟩⟩
  rw [List.getElem?_map] at hd
  cases e : ps[j]? with
  | none =>
    rw [e] at hd
    cases hd
  | some p =>
    rw [e] at hd
    cases hd
    obtain ⟨v, ev, rv⟩ := kr.at (k := p.1) (d := p.2) e
    obtain ⟨hlt, _⟩ := List.getElem?_eq_some_iff.mp e
    refine ⟨⟨h', by omega⟩, fun x H3 ⟨e1, k2, v2, e2, e3⟩ => ?_⟩
    subst e1
    rw [ev] at e2
    cases e2
    subst e3
    exact ⟨.refl, kD_rp _⟩
/-- for k in d: -/
def LockB (W : Wd) (E : XK) (g : TG) (t : TS) (k : Ks) (X : Px) (δ : Dn) (S : List Addr) (a : Addr) (ps : List (Ky × Dv)) (Hf : Hp) : Prop := ∃ I : Nat → PhN, I 0 δ S Hf ∧ (∀ j δ' S' H', I j δ' S' H' → a ∈ S' ∧ H' a = Hf a) ∧
  (∀ j p δ' S' H', ps[j]? = some p → I j δ' S' H' → Gw W g (kD p.1) δ' S' H' (fun δ2 S2 H2 => Sw W E t δ2 S2 H2 { nx := I (j + 1), ct := I (j + 1), bk := fun _ _ _ => False, rt := fun _ _ _ => False } X)) ∧
  (∀ δ' S' H', I ps.length δ' S' H' → ∀ H2, Md W [a] H' H2 → DictW W S' H2 a ps → k.nx δ' S' H2)
theorem sw_lockfor {i : Nat} (hd : δ[i]? = some (some (.adr a))) (dw : DictW W S H a ps) (h : ∀ Hf, Md W [a] H Hf → DictAt W S Hf a ps → LockB W E g t k X δ S a ps Hf) : Sw W E (tLock (tFor (iKeys (tVar i)) g t)) δ S H k X := fun σ H1 De m c o => by
  obtain ⟨ha, kvs, hk, kr⟩ := dw
  have h1 : H1 a = some (.dK kvs) := m.at hk
  refine ⟨a, .dK kvs, h1, True.intro, fun od => ?_⟩
  have mu : Md W [a] H1 (upd H1 a (.frz od (.dK kvs))) := Md.upd h1 rfl (List.mem_singleton.mpr rfl)
  have tr : Tr W S H1 S (upd H1 a (.frz od (.dK kvs))) := Tr.md1 c.dom (Md.upd h1 rfl ha)
  have hsub : ∀ x ∈ [a], x ∈ S := fun x hx => by rw [List.mem_singleton.mp hx]; exact ha
  have kr2 : KR W (off S (upd H1 a (.frz od (.dK kvs)))) ps kvs := (kr.lq (lq_md m)).lq (lq_mdS mu hsub)
  obtain ⟨I, i0, ik, is, ie⟩ := h _ (m.up.trans mu) ⟨ha, kvs, .inr ⟨od, upd_same⟩, kr2⟩
  have hfa : (upd H1 a (.frz od (.dK kvs))) a = some (.frz od (.dK kvs)) := upd_same
  have F : Sw W E (tFor (iKeys (tVar i)) g t) δ S (upd H1 a (.frz od (.dK kvs))) { nx := I ps.length, rt := fun _ _ _ => False } X := by
    refine sw_forN (iw_keys hd hfa kr2 ?_)
    refine loop_of (xs := ps) (D := fun p => kD p.1) I i0 (fun j δ' S' H' hi => by rw [(ik j δ' S' H' hi).2]; exact hfa) (fun j p δ' S' H' hp hi => (is j p δ' S' H' hp hi).mono fun δ2 S2 H2 q => q.mono (fun _ _ _ z => z) (fun _ _ _ z => z) (fun _ _ _ z => z.elim) (fun _ _ _ z => z)) fun δ' S' H' hi => hi
  refine F σ _ _ .refl (c.tr tr) ⟨fun σ' δ' S' G' H' hi m' t' c' => ?_, fun _ _ _ _ _ z => z.elim, fun _ _ _ _ _ z => z.elim, fun _ _ _ _ _ z => z.elim, o.ex.tr tr⟩
  obtain ⟨ha', hga⟩ := ik _ _ _ _ hi
  rw [hfa] at hga
  have h3 : H' a = some (.frz od (.dK kvs)) := m'.at hga
  have mu2 : Md W [a] H' (upd H' a (.dK kvs)) := Md.upd h3 rfl (List.mem_singleton.mpr rfl)
  have tr2 : Tr W S' H' S' (upd H' a (.dK kvs)) := Tr.md1 c'.dom (Md.upd h3 rfl ha')
  have hsub' : ∀ x ∈ [a], x ∈ S' := fun x hx => by rw [List.mem_singleton.mp hx]; exact ha'
  have kr3 : KR W (off S' (upd H' a (.dK kvs))) ps kvs := ((kr2.lq t'.lq)).lq (lq_mdS mu2 hsub')
  refine ⟨h3, ?_⟩
  have tt := (tr.trans t').trans tr2
  exact o.nx σ' δ' S' _ _ (ie _ _ _ hi _ (m'.up.trans mu2) ⟨ha', kvs, upd_same, kr3⟩) .refl tt (c'.tr tr2)
/-! ### list(d.items()), sorted(d) -/
def litB (W : Wd) (d : Dv) (Φ : Ph) (S : List Addr) (H : Hp) : Prop := ∃ a ps, d = .adr a ∧ DictW W S H a ps ∧ Φ (.lst (ps.map fun p => .tup [kD p.1, p.2])) S H
theorem RpA.pairs {W : Wd} {S : List Addr} {H1 H2 : Hp} (hN : ∀ b ∈ S, H1 b ≠ none) : ∀ {ps : List (Ky × Dv)} {kvs : List (Ky × V)} {ts : List Addr}, KR W (off S H2) ps kvs → (∀ t ∈ ts, H1 t = none) → Paired (fun (t : Addr) (q : Ky × V) => H2 t = some (.tup [kV q.1, q.2])) ts kvs → RpA W (off S H2) (ps.map fun p => .tup [kD p.1, p.2]) (ts.map V.ref)
  | _, _, _, .nil, _, .nil => .nil
  | _, _, _, @KR.cons _ _ ky d v ps kvs r rr, ht, .cons h t => by
    rename_i a as
    refine .cons (.tup (.inl (.inl (off_of h fun z => hN _ z (ht _ List.mem_cons_self)))) (.cons ?_ (.cons r .nil))) (RpA.pairs hN rr (fun t ht' => ht t (List.mem_cons_of_mem _ ht')) t)
    exact kD_rp ky
theorem ew_lit (h : Ew W E td δ S H (fun d S1 H1 => litB W d Φ S1 H1) X) : Ew W E (LiI.tListItems td) δ S H Φ X := fun σ H1 Q m c o ex => by
  refine h σ H1 _ m c (fun v d S1 G1 H2 ⟨a, ps, e, ⟨ha, kvs, hk, kr⟩, q⟩ m1 t1 c1 r1 => ?_) ex
  subst e
  cases r1
  refine ⟨a, kvs, rfl, m1.at hk, fun H' p ts ext hp hts hpts hl hpr => ?_⟩
  have hN : ∀ b ∈ S1, H2 b ≠ none := fun b hb => by
    obtain ⟨u, e⟩ := c1.dom b hb
    rw [e]
    exact fun z => by cases z
  have mx : Md W [] H2 H' := Md.ext ext
  have tx := c1.md mx
  have krx := (kr.lq (lq_md m1)).lq (lq_md mx)
  exact (o.tr t1) (.ref p) _ S1 G1 H' q (m1.trans mx) tx (c1.tr tx) (.lst (off_of hl fun z => hN p z hp) (RpA.pairs hN krx hts hpr))
def rSortDI : Rc := fun xs H Q => ∃ (a : Addr) (kvs : List (Key × V)) (ks : List Int), xs = [.ref a] ∧ Rd H a (.dK kvs) ∧ kvs.map (·.1) = ks.map Sum.inl ∧ ks.length < 64 ∧
    ∀ (ys : List Int) (p : Addr), ys.Perm ks → ys.Pairwise (· ≤ ·) → H p = none → Q (.ref p) (upd H p (.lst (ys.map V.int)))
theorem c_sortDI {X : Cx} (hc : X.calm = true := by rfl) : CallR X (.builtin "sorted") rSortDI := call_sortedDI hc
def sortDB (W : Wd) (xs : List Dv) (Φ : Ph) (S : List Addr) (H : Hp) : Prop := ∃ a ps, ∃ ks : List Int, xs = [.adr a] ∧ DictAt W S H a ps ∧ ps.map (·.1) = ks.map Sum.inl ∧ ks.length < 64 ∧ ∀ ys : List Int, ys.Perm ks → ys.Pairwise (· ≤ ·) → Φ (.lst (ys.map .int)) S H
theorem RpA.ofInts {W : Wd} {G : Hp} : ∀ ys : List Int, RpA W G (ys.map .int) (ys.map V.int)
  | [] => .nil
  | y :: r => .cons (.int y) (RpA.ofInts r)
theorem caD_sortD : CaD W rSortDI (sortDB W) := fun xs vs Φ S H H1 Q m c r ⟨a, ps, ks, e, ⟨ha, kvs, hk, kr⟩, hks, hl, q⟩ o => by
  subst e
  obtain ⟨v, rfl, r1⟩ := RpA.one r
  cases r1
  exact ⟨a, kvs, ks, rfl, m.rd hk (fun _ z => by cases z), by rw [kr.keys]; exact hks, hl, fun ys p h1 h2 hp => o.new c m hp (q ys h1 h2) (new_lst c hp (RpA.ofInts ys))⟩
/-! ### dict comprehensions whose turns change nothing -/
theorem mergeD_take {out : List (Ky × Dv)} {i : Nat} {k : Ky} {d : Dv} (h : out[i]? = some (k, d)) : mergeD [] (out.take (i + 1)) = putD (mergeD [] (out.take i)) k d := by
  obtain ⟨hl, e⟩ := List.getElem?_eq_some_iff.mp h
  rw [List.take_succ_eq_append_getElem hl, e]
  unfold mergeD
  rw [List.foldl_append]
  rfl
theorem putD_len (ps : List (Ky × Dv)) (k : Ky) (d : Dv) : (putD ps k d).length ≤ ps.length + 1 := by
  unfold putD
  split
  · rw [List.length_map]; omega
  · rw [List.length_append, List.length_cons, List.length_nil]; omega
theorem mergeD_len : ∀ (more : List (Ky × Dv)) (ps : List (Ky × Dv)), (mergeD ps more).length ≤ ps.length + more.length
  | [], ps => by show ps.length ≤ ps.length + 0; omega
  | p :: r, ps => by
    have h1 := mergeD_len r (putD ps p.1 p.2)
    have h2 := putD_len ps p.1 p.2
    show (mergeD (putD ps p.1 p.2) r).length ≤ _
    rw [List.length_cons]; omega
theorem ew_dc {wi : TI} {tk : TE} {vs : List Nat} (h : Iw W E wi δ S H (fun ds st S1 H1 => ds.length < sizeLine ∧ ∃ (out : List (Ky × Dv)) (δs : Nat → Dn), out.length = ds.length ∧ (∀ i d, ds[i]? = some d → Cg W g d vs δ (δs i)) ∧
      (∀ S2 H2, Up W S1 H1 S2 H2 → st S2 H2 ∧ (∀ i k z, out[i]? = some (k, z) → Ew W E0 tk (δs i) S2 H2 (same S2 H2 (kD k)) (fun _ _ _ => False) ∧ Ew W E0 tv (δs i) S2 H2 (same S2 H2 z) (fun _ _ _ => False))) ∧ newDB W (mergeD [] out) Φ S1 H1) X) :
    Ew W E (tDc wi g tYes tk tv vs) δ S H Φ X := fun σ H1 Q m c o ex => by
  refine h σ H1 _ m c (fun J ds st S1 G1 H2 ⟨hz, out, δs, hlen, hg, hrun, q⟩ m1 t1 wk Dl hD => ?_) ex
  have c2 := c.tr t1
  have nS := notS c2 hD
  have gD : G1 Dl = none := m1.free hD
  have tD : Tr W S1 H2 (Dl :: S1) (upd H2 Dl (.dK [])) := tr_grow c2.nil hD
  have memD : Dl ∈ Dl :: S1 := List.mem_cons_self
  have upg : ∀ {Hx : Hp}, Md W [] G1 Hx → Up W S1 G1 (Dl :: S1) Hx := fun {Hx} mx => Up.cons mx gD
  have xo : ∀ {S H}, Xo W E0 S H (fun _ _ _ => False) := fun _ _ _ _ z => z.elim
  refine ⟨fun i n H' => n = ds.length - i ∧ i ≤ ds.length ∧ Md W [] G1 H' ∧ Tr W S1 H2 (Dl :: S1) H' ∧ ∃ xs, H' Dl = some (.dK xs) ∧ KR W (off (Dl :: S1) H') (mergeD [] (out.take i)) xs, ⟨_, rfl, Nat.zero_le _, m1.trans (Md.new hD), tD, [], upd_same, .nil⟩, ?_⟩
  rintro i n H' ⟨rfl, hi, mG, tr, xs, hx, rx⟩
  have c3 := c2.tr tr
  have w := wk i (Dl :: S1) H' H' tr c3.nil (hrun _ _ (upg mG)).1 .refl
  by_cases hlt : i < ds.length
  · have hd : ds[i]? = some ds[i] := List.getElem?_eq_getElem hlt
    have hlo : i < out.length := by rw [hlen]; exact hlt
    have ho : out[i]? = some (out[i].1, out[i].2) := List.getElem?_eq_getElem hlo
    refine .inr ⟨(w.1 _ hd).1, fun H' => i + 1 ≤ ds.length ∧ Md W [] G1 H' ∧ Tr W S1 H2 (Dl :: S1) H' ∧ ∃ xs, H' Dl = some (.dK xs) ∧ KR W (off (Dl :: S1) H') (mergeD [] (out.take (i + 1))) xs, fun H4 ⟨a1, a2, a3, a4⟩ => ⟨_, by omega, rfl, a1, a2, a3, a4⟩, fun x H3 yl => ?_⟩
    obtain ⟨mx, rxx⟩ := (w.1 _ hd).2 x H3 yl
    have tx := c3.md mx
    have t3 := tr.trans tx
    have m3 := mG.trans mx
    obtain ⟨_, he⟩ := hrun _ H3 (upg m3)
    refine hg i _ hd (Dl :: S1) σ H3 x _ (c3.tr tx) rxx fun σ2 cs hw => ?_
    refine And.intro hw ?_
    unfold tYes
    dsimp only
    rw [if_pos rfl]
    have hx3 : H3 Dl = some (.dK xs) := mx.at hx
    have rx3 := rx.lq tx.lq
    obtain ⟨ek, ev⟩ := he i _ _ ho
    refine ek σ2 H3 _ .refl cs (fun y d4 S4 G4 H4 ⟨a1, a2, a3⟩ m4 t4 c4 r4 => ?_) xo
    subst a1 a2 a3
    obtain rfl := r4.key
    refine ev σ2 H4 _ m4 (cs.tr t4) (fun z d5 S5 G5 H5 ⟨a1, a2, a3⟩ m5 t5 c5 r5 => ?_) xo
    subst a1 a2 a3
    have hx5 : H5 Dl = some (.dK xs) := m5.at hx3
    have rx5 := rx3.lq (t4.trans t5).lq
    have lx : xs.length < sizeLine := by
      rw [← rx.length]
      have h1 := mergeD_len (out.take i) []
      have h2 : (out.take i).length ≤ i := by rw [List.length_take]; exact Nat.min_le_left _ _
      rw [List.length_nil] at h1
      omega
    have lq6 : Lq (off (Dl :: S1) H5) (off (Dl :: S1) (upd H5 Dl (.dK (putK xs out[i].1 z)))) := fun a u e n => by
      obtain ⟨e1, e2⟩ := of_off e
      exact off_of (by rw [upd_ne (fun z => e2 (by rw [z]; exact memD))]; exact e1) e2
    refine ⟨xs, out[i].1, rfl, hx5, lx, hlt, md_out (m3.trans m5) gD hx5 rfl, tr_out (t3.trans (t4.trans t5)) hx5 rfl memD, _, upd_same, ?_⟩
    rw [mergeD_take ho]
    exact (rx5.lq lq6).put _ (r5.lq lq6)
  · have e : i = ds.length := by omega
    subst e
    refine .inl ⟨w.2 (Nat.le_refl _), ?_⟩
    have e9 : out.take ds.length = out := by rw [← hlen, List.take_length]
    rw [e9] at rx
    exact o (.ref Dl) (.adr Dl) (Dl :: S1) H' H' (q Dl H' mG gD nS ⟨memD, xs, hx, rx⟩) .refl (t1.trans tr) (c2.nil.tr tr) (.adr Dl)
end
end Dw

/-! Dicts of whole numbers; sorted lists. -/
namespace Dw
open PySem PySem.Spec PyProof.Rows L2
abbrev ID := List (Int × Int)
def idD (d : ID) : List (Ky × Dv) := d.map fun p => (Sum.inl p.1, .int p.2)
def valI (d : ID) (k : Int) : Option Int := (d.find? fun p => decide (p.1 = k)).map (·.2)
def putI (d : ID) (k v : Int) : ID := if (d.any fun p => decide (p.1 = k)) = true then d.map (fun p => if p.1 = k then (p.1, v) else p) else d ++ [(k, v)]
theorem val_idD (d : ID) (k : Int) : valD (idD d) (Sum.inl k) = (valI d k).map .int := by
  induction d with
  | nil => rfl
  | cons p d ih =>
    by_cases e : p.1 = k
    · unfold valD valI idD
      rw [List.map_cons, List.find?_cons_of_pos (by simpa using e), List.find?_cons_of_pos (by simpa using e)]
      rfl
    · have e1 : valD (idD (p :: d)) (Sum.inl k) = valD (idD d) (Sum.inl k) := by
        unfold valD idD
        rw [List.map_cons, List.find?_cons_of_neg (by simpa using e)]
      have e2 : valI (p :: d) k = valI d k := by
        unfold valI
        rw [List.find?_cons_of_neg (by simpa using e)]
      rw [e1, e2]
      exact ih
theorem any_idD (d : ID) (k : Int) : ((idD d).any fun p => decide (p.1 = Sum.inl k)) = d.any fun p => decide (p.1 = k) := by
  unfold idD
  rw [List.any_map]
  congr 1
  funext p
  show decide ((Sum.inl p.1 : Ky) = Sum.inl k) = decide (p.1 = k)
  by_cases e : p.1 = k
  · rw [e, decide_eq_true rfl, decide_eq_true rfl]
  · rw [decide_eq_false e, decide_eq_false (fun z => e (by injection z))]
theorem put_idD (d : ID) (k v : Int) : putD (idD d) (Sum.inl k) (.int v) = idD (putI d k v) := by
  unfold putD putI
  rw [any_idD]
  by_cases h : (d.any fun p => decide (p.1 = k)) = true
  · rw [if_pos h, if_pos h]
    unfold idD
    rw [List.map_map, List.map_map]
    refine List.map_congr_left fun p _ => ?_
    show (if (Sum.inl p.1 : Ky) = Sum.inl k then ((Sum.inl p.1 : Ky), Dv.int v) else (Sum.inl p.1, .int p.2)) = ((Sum.inl (if p.1 = k then (p.1, v) else p).1 : Ky), Dv.int (if p.1 = k then (p.1, v) else p).2)
    by_cases e : p.1 = k
    · rw [if_pos (by rw [e]), if_pos e]
    · rw [if_neg (fun z => e (by injection z)), if_neg e]
  · rw [if_neg h, if_neg h]
    unfold idD
    rw [List.map_append]
    rfl
theorem idD_len (d : ID) : (idD d).length = d.length := List.length_map _
theorem valI_mem {d : ID} {p : Int × Int} (h : p ∈ d) : ∃ v, valI d p.1 = some v := by
  unfold valI
  cases e : d.find? fun q => decide (q.1 = p.1) with
  | none =>
    have := List.find?_eq_none.mp e p h
    simp at this
  | some q => exact ⟨q.2, rfl⟩
theorem valI_in {d : ID} {k v : Int} (h : valI d k = some v) : (k, v) ∈ d := by
  unfold valI at h
  cases e : d.find? fun q => decide (q.1 = k) with
  | none =>
    rw [e] at h
    cases h
  | some q =>
    rw [e] at h
    cases h
    have h1 := List.find?_some e
    have h2 := List.mem_of_find?_eq_some e
    have h3 : q.1 = k := by simpa using h1
    rw [← h3]
    exact h2
theorem putI_len (d : ID) (k v : Int) : d.length ≤ (putI d k v).length ∧ (putI d k v).length ≤ d.length + 1 := by
  unfold putI
  split
  · rw [List.length_map]; omega
  · rw [List.length_append, List.length_cons, List.length_nil]; omega
theorem getD_idD (d : ID) (k z : Int) : (valD (idD d) (Sum.inl k)).getD (.int z) = .int ((valI d k).getD z) := by
  rw [val_idD]
  cases valI d k <;> rfl
def mergeI (d more : ID) : ID := more.foldl (fun acc p => putI acc p.1 p.2) d
theorem merge_idD : ∀ (more d : ID), mergeD (idD d) (idD more) = idD (mergeI d more)
  | [], d => rfl
  | p :: r, d => by
    show mergeD (putD (idD d) (Sum.inl p.1) (.int p.2)) (idD r) = idD (mergeI (putI d p.1 p.2) r)
    rw [put_idD, merge_idD r]
/-- two sorted lists of the same items are one -/
theorem sorted_eq : ∀ {xs ys : List Int}, xs.Perm ys → xs.Pairwise (· ≤ ·) → ys.Pairwise (· ≤ ·) → xs = ys
  | [], ys, h, _, _ => (List.nil_perm.mp h).symm
  | x :: xs, [], h, _, _ => by
    have := h.length_eq
    simp at this
  | x :: xs, y :: ys, h, h1, h2 => by
    have h1' := List.pairwise_cons.mp h1
    have h2' := List.pairwise_cons.mp h2
    have e : x = y := by
      have a : x ∈ y :: ys := h.mem_iff.mp List.mem_cons_self
      have b : y ∈ x :: xs := h.mem_iff.mpr List.mem_cons_self
      have c1 : y ≤ x := by
        rcases List.mem_cons.mp a with z | z
        · omega
        · exact h2'.1 x z
      have c2 : x ≤ y := by
        rcases List.mem_cons.mp b with z | z
        · omega
        · exact h1'.1 y z
      omega
    subst e
    rw [sorted_eq (List.Perm.cons_inv h) h1'.2 h2'.2]
def ins1 (x : Int) : List Int → List Int
  | [] => [x]
  | y :: r => if x ≤ y then x :: y :: r else y :: ins1 x r
def isort : List Int → List Int
  | [] => []
  | x :: r => ins1 x (isort r)
theorem ins1_perm (x : Int) : ∀ l : List Int, (ins1 x l).Perm (x :: l)
  | [] => .refl _
  | y :: r => by
    unfold ins1
    split
    · exact .refl _
    · exact ((ins1_perm x r).cons y).trans (List.Perm.swap x y r)
theorem isort_perm : ∀ l : List Int, (isort l).Perm l
  | [] => .refl _
  | x :: r => (ins1_perm x (isort r)).trans ((isort_perm r).cons x)
theorem ins1_sorted (x : Int) : ∀ {l : List Int}, l.Pairwise (· ≤ ·) → (ins1 x l).Pairwise (· ≤ ·)
  | [], _ => by simp [ins1]
  | y :: r, h => by
    have h' := List.pairwise_cons.mp h
    unfold ins1
    split
    · rename_i hxy
      refine List.pairwise_cons.mpr ⟨fun z hz => ?_, h⟩
      rcases List.mem_cons.mp hz with e | e
      · omega
      · have := h'.1 z e; omega
    · rename_i hxy
      refine List.pairwise_cons.mpr ⟨fun z hz => ?_, ins1_sorted x h'.2⟩
      rcases List.mem_cons.mp ((ins1_perm x r).mem_iff.mp hz) with e | e
      · omega
      · exact h'.1 z e
theorem isort_sorted : ∀ l : List Int, (isort l).Pairwise (· ≤ ·)
  | [] => .nil
  | x :: r => ins1_sorted x (isort_sorted r)
theorem fold_take {α β : Type} (f : β → α → β) {l : List α} {i : Nat} {x : α} (h : l[i]? = some x) (b : β) : (l.take (i + 1)).foldl f b = f ((l.take i).foldl f b) x := by
  obtain ⟨hl, e⟩ := List.getElem?_eq_some_iff.mp h
  rw [List.take_succ_eq_append_getElem hl, e, List.foldl_append]
  rfl
theorem take_range {n i : Nat} (h : i ≤ n) : (List.range n).take i = List.range i := by
  rw [List.take_range, Nat.min_eq_left h]
theorem range_snoc {β : Type} (f : β → Nat → β) (i : Nat) (b : β) : (List.range (i + 1)).foldl f b = f ((List.range i).foldl f b) i := by
  rw [List.range_succ, List.foldl_append]
  rfl
end Dw

/-! Generator expressions with any target, no test. -/
namespace Gz
open PySem PySem.Spec PyProof.Rows L2
abbrev gE (elt tg iter : Expr) (scope : Scope) (pos : Pos) : Expr := .GeneratorExp elt [⟨tg, iter, [], 0⟩] scope pos
abbrev allT : Nat → Bool := fun _ => true
/-- s' is s but for the frame at L, whose names are m; toks aside -/
def Chg (L : Addr) (s s' : Shared) : Prop := ∃ (h : Heap) (t : Nat) (m : Str → Option Value), s' = { s with heap := h, toks := t } ∧ h.Ns L m ∧ ∀ b o, b ≠ L → s.heap.get? b = some o → h.get? b = some o
/-- one turn: the item goes to the target, the element is evaluated -/
def Turns (prog : Program) (w : World) (cenv : Env) (tg elt : Expr) (I : Addr) (old : List Addr) (wr : List Addr) (P F : Nat → Value → Prop) (St : Nat → Heap → Prop) (href : Heap) : Prop :=
  ∀ (B : Around) (Er : Value → Shared → Prop) (i : Nat) (v : Value) (s : Shared) (m : Str → Option Value), B.handled = none → P i v → St (i + 1) s.heap → s.heap.Ns cenv.locals m → (∀ b ∈ old, b ∉ wr → ∀ o, href.get? b = some o → s.heap.get? b = some o) →
    wpAny (model prog w) B (letOwnedTupleGo tg (.ref I) v) (fun _ s1 => wpAny (model prog w) B (assign tg cenv v) (fun _ s2 => Chg cenv.locals s s2 ∧ ∀ Ez : Value → Shared → Prop, wpAny (model prog w) B (eval elt cenv) (fun y s3 => F i y ∧ Keeps s2 s3) Ez s2) Er s1) Er s
section
variable {prog : Program} {w : World} {A : Around} {elt tg iter : Expr} {scope : Scope} {pos : Pos} {I : Addr} {old wr : List Addr} {n : Nat} {P F : Nat → Value → Prop} {St : Nat → Heap → Prop} {cenv : Env}
abbrev Fi (C : Addr) (wr : List Addr) : Nat → Shared → Result → Shared → Prop := fun k s0 r s1 => r = .ok .next ∧ (k = 0 ∧ GenSince C wr s0 s1)
theorem loop (hA : A.handled = none) (Wk : ∀ B : Around, B.handled = none → Walks prog w B I old wr n P St) (href : Heap) (hco : cenv.scope.isCoroutine = false) (hC : cenv.locals ∉ old) (q : Turns prog w cenv tg elt I old wr P F St href) :
    ∀ (k i : Nat) (s0 s : Shared) (m : Str → Option Value), n - i = k → i ≤ n → St i s.heap → s.heap.Ns cenv.locals m → GenSince cenv.locals wr s0 s → (∀ b ∈ old, b ∉ wr → ∀ o, href.get? b = some o → s.heap.get? b = some o) →
      Seg (model prog w) A (Fi cenv.locals wr) (genProto cenv.locals old wr allT n F) (passing allT n i).length s0 (.compLoop (gE elt tg iter scope pos) 0 (.ref I) .none cenv) ((model prog w).den (.compLoop (gE elt tg iter scope pos) 0 (.ref I) .none cenv)) [] s := by
  have hB : (A.over (.compLoop (gE elt tg iter scope pos) 0 (.ref I) .none cenv) []).handled = none := hA
  have hCw : cenv.locals ∉ wr := fun z => hC ((Wk A hA).sub _ z)
  intro k
  induction k with
  | zero =>
    intro i s0 s m hk hi st hn sn kp
    obtain rfl : i = n := by omega
    show Seg _ A _ _ _ s0 _ ((compTurn (gE elt tg iter scope pos) 0 (.ref I) .none cenv).onRaise (leaving cenv)) [] s
    rw [compTurn_gen, Sem.onRaise_eq_wrap]
    refine seg_bind_wrap (wpAny_standAt (seg_bind_wrap ((Wk _ hB).done s _ _ st fun h tk hk' => ?_)))
    refine seg_end (.ok .next) ⟨rfl, ?_, sn.step fun b o _ hw e => hk' b o hw e⟩
    rw [passing_end]
    rfl
  | succ k ih =>
    intro i s0 s m hk hi st hn sn kp
    have hlt : i < n := by omega
    show Seg _ A _ _ _ s0 _ ((compTurn (gE elt tg iter scope pos) 0 (.ref I) .none cenv).onRaise (leaving cenv)) [] s
    rw [compTurn_gen, Sem.onRaise_eq_wrap]
    refine seg_bind_wrap (wpAny_standAt (seg_bind_wrap ((Wk _ hB).item i s _ _ hlt st fun v h1 t1 hP st1 k1 => ?_)))
    have kp1 : ∀ b ∈ old, b ∉ wr → ∀ o, href.get? b = some o → h1.get? b = some o := fun b hb hw o e => k1 b o hw (kp b hb hw o e)
    refine seg_bind_wrap (wpAny_mono (q _ _ i v _ _ hB hP st1 (hn.at' fun o e => k1 _ o hCw e) kp1) (fun _ sa ha => ?_) fun _ _ z => z)
    refine seg_bind_wrap (wpAny_mono ha (fun _ sb hb => ?_) fun _ _ z => z)
    obtain ⟨⟨h2, t2, m2, rfl, hn2, k2⟩, he⟩ := hb
    have up2 : ∀ b o, b ≠ cenv.locals → b ∉ wr → s.heap.get? b = some o → h2.get? b = some o := fun b o hb hw e => k2 b o hb (k1 b o hw e)
    have st2 : St (i + 1) h2 := (Wk A hA).frame _ _ _ st1 fun b hb o e => k2 b o (fun z => hC (z ▸ hb)) e
    have kp2 : ∀ b ∈ old, b ∉ wr → ∀ o, href.get? b = some o → h2.get? b = some o := fun b hb hw o e => k2 b o (fun z => hC (z ▸ hb)) (kp1 b hb hw o e)
    simp only [List.forIn_nil]
    refine seg_bind_wrap (wpAny_pure ?_)
    rw [passing_true hlt rfl, List.length_cons]
    have hy : ∀ v, yieldOut cenv v = yieldValue v := fun v => by simp only [yieldOut, hco, Bool.false_eq_true, if_false]
    simp only [if_true, hy]
    rw [Sem.bind_eq_wrap', Sem.bind_eq_wrap', Sem.wrap_wrap, Sem.wrap_wrap]
    refine seg_wrap (wpAny_mono (he _) (fun y sc hc => ?_) fun _ _ z => z)
    obtain ⟨hF, h3, t3, rfl, k3⟩ := hc
    have sn3 : GenSince cenv.locals wr s0 { s with heap := h3, toks := t3 } := sn.step fun b o hb hw e => k3 b o (up2 b o hb hw e)
    refine seg_at (seg_yield rfl rfl rfl ⟨⟨i, passing_here hlt rfl, hF⟩, sn3, fun s' al => ?_⟩)
    exact seg_again rfl (ih (i + 1) s' s' _ (by omega) hlt ((Wk A hA).frame _ _ _ st2 fun b hb o e => al b (List.mem_cons_of_mem _ hb) o (k3 b o e)) ((hn2.keeps k3).at' fun o e => al _ List.mem_cons_self o e) (GenSince.refl _ _ _)
      fun b hb hw o e => al b (List.mem_cons_of_mem _ hb) o (k3 b o (kp2 b hb hw o e)))
theorem start (hA : A.handled = none) (Wk : ∀ B : Around, B.handled = none → Walks prog w B I old wr n P St) (href : Heap) (hco : cenv.scope.isCoroutine = false) (hC : cenv.locals ∉ old) (q : Turns prog w cenv tg elt I old wr P F St href)
    (s0 s : Shared) (m : Str → Option Value) (st : St 0 s.heap) (hn : s.heap.Ns cenv.locals m) (sn : GenSince cenv.locals wr s0 s) (kp : ∀ b ∈ old, b ∉ wr → ∀ o, href.get? b = some o → s.heap.get? b = some o) :
    Seg (model prog w) A (Fi cenv.locals wr) (genProto cenv.locals old wr allT n F) (passing allT n 0).length s0 (.compStart (gE elt tg iter scope pos) 0 (.ref I) .none cenv) ((model prog w).den (.compStart (gE elt tg iter scope pos) 0 (.ref I) .none cenv)) [] s := by
  have hB : (A.over (.compStart (gE elt tg iter scope pos) 0 (.ref I) .none cenv) []).handled = none := hA
  have go := loop (iter := iter) (scope := scope) (pos := pos) hA Wk href hco hC q n 0 s0 s m (Nat.sub_zero _) (Nat.zero_le _) st hn sn kp
  show Seg _ A _ _ _ s0 _ ((compStart (gE elt tg iter scope pos) 0 (.ref I) .none cenv).onRaise (leaving cenv)) [] s
  unfold compStart
  rw [Sem.onRaise_eq_wrap]
  show Seg _ A _ _ _ s0 _ ((ask >>= _).wrap _ _ _ _) [] s
  refine seg_bind_wrap (wpAny_askSetting ?_)
  split
  · exact seg_again rfl go
  · refine seg_bind_wrap (wpAny_rule ?_)
    show Seg _ A _ _ _ s0 _ ((standAt iter.pos >>= _).wrap _ _ _ _) [] s
    exact seg_bind_wrap (wpAny_standAt (seg_bind_wrap ((Wk _ hB).self 0 s _ _ st (seg_again rfl go))))
end
/-- the scope of a generator expression within a def of the scope sc -/
structure Sc (sc scope : Scope) : Prop where
  kind : scope.kind = .function
  co : scope.isCoroutine = false
  cell : ∀ y ∈ scope.names, y.2 ≠ .cell
  dot : scope.names.lookup (".0" : Str) = some NameKind.local
  free : ∀ y ∈ scope.names, y.2 = .free → sc.names.lookup y.1 = some .cell ∨ sc.names.lookup y.1 = some .free
def scB (sc scope : Scope) : Bool := decide (scope.kind = .function) && (!scope.isCoroutine && (decide (scope.names.lookup (".0" : Str) = some NameKind.local) && scope.names.all fun y => !decide (y.2 = .cell) && (!decide (y.2 = .free) || (decide (sc.names.lookup y.1 = some .cell) || decide (sc.names.lookup y.1 = some .free)))))
theorem sc_of {sc scope : Scope} (h : scB sc scope = true) : Sc sc scope := by
  unfold scB at h
  simp only [Bool.and_eq_true, Bool.or_eq_true, Bool.not_eq_true', decide_eq_true_eq, decide_eq_false_iff_not, List.all_eq_true] at h
  obtain ⟨h1, h2, h3, h4⟩ := h
  exact ⟨h1, h2, fun y hy => (h4 y hy).1, h3, fun y hy e => (h4 y hy).2.resolve_left fun z => z e⟩
section
variable {prog : Program} {w : World} {A : Around} {E : Value → Shared → Prop} {s : Shared}
theorem make {env : Env} {sc : Scope} {elt tg iter : Expr} {scope : Scope} {cl : List (Str × Addr)} {pos : Pos} {Q : Value → Shared → Prop} (hA : A.handled = none) (S : Sc sc scope) (hcl : closureFor scope env = pure cl) (hroom : A.depth < recursionLimit)
    (h : wpAny (model prog w) A (eval iter env) (fun xv s1 => wpAny (model prog w) A (pyIter xv) (fun it s2 => s2.heap.NoLimit ∧
      wpAny (model prog w) A (genexprCode env pos (env.qual ++ "<genexpr>") scope) (fun code s3 => wpAny (model prog w) A (builtinsFor env.globals env.builtins) (fun bi s4 =>
        ∃ I fp wr n P St F, it = .ref I ∧ (∀ B : Around, B.handled = none → Walks prog w B I fp wr n P St) ∧ St 0 s4.heap ∧ (∀ b ∈ fp, b < s4.heap.objs.size) ∧ s4.heap.NoLimit ∧ cStatics ∉ wr ∧
          (∀ href : Heap, (∀ b o, s4.heap.get? b = some o → href.get? b = some o) → Turns prog w (genEnv scope cl s4.heap.objs.size code bi env) tg elt I (List.range s4.heap.objs.size) wr P F St href) ∧
          (∀ a h5 tk gs, gs.bare = true → s4.heap.objs.size < a → h5.objs.size = a + 1 → (∀ b o, s4.heap.get? b = some o → h5.get? b = some o) →
            WalksS prog w A.in4 a (a :: s4.heap.objs.size :: List.range s4.heap.objs.size) (s4.heap.objs.size :: wr) (GenOnlyQ s4.gens.size) (passing allT n 0).length (fun j y => ∃ i, (passing allT n 0)[j]? = some i ∧ F i y) (GenAt prog w A.in4 a s4.gens.size s4.heap.objs.size (List.range s4.heap.objs.size) wr allT n F) →
            GenAt prog w A.in4 a s4.gens.size s4.heap.objs.size (List.range s4.heap.objs.size) wr allT n F 0 { s4 with gens := s4.gens.push gs, toks := tk, heap := h5 } → Q (.ref a) { s4 with gens := s4.gens.push gs, toks := tk, heap := h5 })) E s3) E s2) E s1) E s)
    (hs : ∀ x, genFold iter env x = pure x) : wpAny (model prog w) A (eval (gE elt tg iter scope pos) env) Q E s := by
  refine wpAny_GeneratorExp_make S.co hcl S.cell S.dot S.kind hroom (wpAny_mono h (fun xv s1 h1 => wpAny_mono h1 (fun it s2 h2 => ⟨h2.1, wpAny_mono h2.2 (fun code s3 h3 => wpAny_mono h3 (fun bi s4 h4 => ?_) fun _ _ z => z) fun _ _ z => z⟩) fun _ _ z => z) fun _ _ z => z) hs
  obtain ⟨I, fp, wr, n, P, St, F, rfl, Wk, st, hfp, hl, hcw, hq, hQ⟩ := h4
  intro h6 hn6 hs6
  have hclt : cStatics < s4.heap.objs.size := let ⟨_, z, _⟩ := hl; z.lt
  have z6 : h6.objs.size = s4.heap.objs.size + 1 := by rw [hs6.1, Heap.size_push]
  have k6 : ∀ b o, s4.heap.get? b = some o → h6.get? b = some o := fun b o e => hs6.extBut b o (Nat.ne_of_lt (Heap.lt_size e)) (Heap.get?_push_of_some _ e)
  have sub : ∀ b ∈ wr, b ∈ List.range s4.heap.objs.size := fun b hb => List.mem_range.mpr (hfp b ((Wk A hA).sub b hb))
  have naC : h6.objs.size ≠ s4.heap.objs.size := by
    rw [z6]
    exact Nat.succ_ne_self _
  have naf : h6.objs.size ∉ List.range s4.heap.objs.size := fun z => by
    have := List.mem_range.mp z
    omega
  refine hQ _ _ _ _ rfl (by omega) (by rw [Heap.size_push]) (fun b o e => Heap.get?_push_of_some _ (k6 b o e)) (WalksS.genexpQ (A := A.in4) hA _ _ _ _ wr allT n F naC naf sub hroom (List.mem_range.mpr hclt) (Nat.ne_of_lt hclt) hcw) ?_
  refine ⟨⟨_, _, _, Heap.get?_push_size _ rfl, rfl, rfl, rfl⟩, hl.keeps fun b o e => Heap.get?_push_of_some _ (k6 b o e), _, Array.getElem?_push_size .., fun s7 al => ⟨rfl, ?_⟩⟩
  have WkB : ∀ B : Around, B.handled = none → Walks prog w B I (List.range s4.heap.objs.size) wr n P St := fun B hB =>
    { sub := sub, frame := fun i h h' st k => (Wk B hB).frame i h h' st fun b hb o e => k b (List.mem_range.mpr (hfp b hb)) o e, item := (Wk B hB).item, done := (Wk B hB).done, self := (Wk B hB).self }
  refine start (A := A.in4.in1) (cenv := genEnv scope cl s4.heap.objs.size code bi env) hA WkB _ S.co (fun z => Nat.lt_irrefl _ (List.mem_range.mp z)) (hq _ fun b o e => Heap.get?_push_of_some _ (k6 b o e)) s7 s7 (fun y => if y = ".0" then some (.ref I) else none) ?_ ?_ (GenSince.refl _ _ _) fun b hb hw o e => al b (List.mem_cons_of_mem _ hb) o e
  · exact (Wk A hA).frame _ _ _ ((Wk A hA).frame _ _ _ st fun b _ o e => Heap.get?_push_of_some _ (k6 b o e)) fun b hb o e => al b (List.mem_cons_of_mem _ (List.mem_range.mpr (hfp b hb))) o e
  · exact (hn6.push _).at' fun o e => al _ List.mem_cons_self o e
end
end Gz

namespace Gz
open PySem PySem.Spec PyProof.Rows L2 GxR
section
variable {X : Cx} {pins : List (Addr × Obj)} {σ : L2.St} {H : Hp} {s : Shared}
theorem pass_all (n : Nat) : passing allT n 0 = List.range n := GxR.passing_true n
/-- turns over what stood at s1, the def's table at Pt aside -/
def TurnsAt (prog : Program) (w : World) (cenv : Env) (tg elt : Expr) (I Pt : Addr) (s1 : Shared) (P F : Nat → Value → Prop) (St : Nat → Heap → Prop) : Prop :=
  ∀ (B : Around) (Er : Value → Shared → Prop) (i : Nat) (v : Value) (s : Shared) (m : Str → Option Value), B.handled = none → P i v → St (i + 1) s.heap → s.heap.Ns cenv.locals m → (∀ b o, b ≠ Pt → s1.heap.get? b = some o → s.heap.get? b = some o) →
    wpAny (model prog w) B (letOwnedTupleGo tg (.ref I) v) (fun _ sa => wpAny (model prog w) B (assign tg cenv v) (fun _ sb => Chg cenv.locals s sb ∧ ∀ Ez : Value → Shared → Prop, wpAny (model prog w) B (eval elt cenv) (fun y sc => F i y ∧ Keeps sb sc) Ez sb) Er sa) Er s
/-- the generator g of n items, ready to be walked; H1: what was held before -/
def Fx (n : Nat) (F : Nat → Value → Prop) : Nat → Value → Prop := fun j y => ∃ i, (List.range n)[j]? = some i ∧ F i y
theorem Fx.at {n : Nat} {F : Nat → Value → Prop} {j : Nat} {y : Value} (h : Fx n F j y) : j < n ∧ F j y := by
  obtain ⟨i, hij, hF⟩ := h
  obtain ⟨hj, ej⟩ := List.getElem?_eq_some_iff.mp hij
  rw [List.length_range] at hj
  rw [List.getElem_range] at ej
  subst ej
  exact ⟨hj, hF⟩
def Ready (X : Cx) (pins : List (Addr × Obj)) (σ : L2.St) (H1 : Hp) (Pt : Addr) (n : Nat) (F : Nat → Value → Prop) (g : Addr) (s5 : Shared) : Prop :=
  ∃ (fp wr : List Addr) (G : Array GenState → Array GenState → Prop) (St : Nat → Shared → Prop), WalksS X.prog X.w X.A.in1 g fp wr G n (Fx n F) St ∧ St 0 s5 ∧ (∀ b ∈ fp, b < s5.heap.objs.size) ∧
    ∀ s', Moved wr G s5 s' → ∃ H2, Tabbed Pt H1 H2 ∧ Inv X pins σ H2 s'
/-- what the walked thing gives: an iterator's object o, its items -/
def Src (X : Cx) (xv : Value) (s1 : Shared) (n : Nat) (Pv : Nat → Value → Prop) (St : Nat → Heap → Prop) : Prop := ∃ (o : Obj) (fp : List Addr), (∀ Q E, Q (.ref s1.heap.objs.size) { s1 with heap := s1.heap.push o } → wpAny (model X.prog X.w) X.A (pyIter xv) Q E s1) ∧
  (∀ B : Around, B.handled = none → Walks X.prog X.w B s1.heap.objs.size fp [s1.heap.objs.size] n Pv St) ∧ St 0 (s1.heap.push o) ∧ (∀ b ∈ fp, b < s1.heap.objs.size + 1) ∧ (∀ b ∈ fp, b ≠ s1.heap.objs.size → ∃ u : Obj, s1.heap.get? b = some u ∧ u.cls ≠ .none)
theorem gen {c Pt : Addr} {elt tg iter : Expr} {gpos : Pos} {scope : Scope} {te : TE} {k : Nat} {Q' : Value → Shared → Prop} {Z : V → Hp → Prop} (hr : Room k X.A) (TB : TabB X.base X.mg c Pt) (hcode : X.env.code = .ref c) (S : Sc X.env.scope scope) (hi : PE X iter te)
    (hs : ∀ v, genFold iter X.env v = pure v) (I : Inv X pins σ H s) (h : te σ H Z) (hZ : ∀ v H1, Z v H1 → TabG H1 Pt)
    (hz : ∀ v H1 s1 xv, Inv X pins σ H1 s1 → RelV v xv → Z v H1 → ∃ (n : Nat) (Pv F : Nat → Value → Prop) (St : Nat → Heap → Prop), Src X xv s1 n Pv St ∧
      (∀ cenv : Env, cenv.scope = scope → cenv.cells = cloFrom X.env.cells scope.names [] → cenv.globals = X.env.globals → cenv.builtins = builtinsNs → (∀ b o, s1.heap.get? b = some o → b ≠ cenv.locals) → TurnsAt X.prog X.w cenv tg elt s1.heap.objs.size Pt s1 Pv F St) ∧
      ∀ g s5, Ready X pins σ H1 Pt n F g s5 → Q' (.ref g) s5) :
    wpAny (model X.prog X.w) X.A (eval (gE elt tg iter scope gpos) X.env) Q' X.xe s := by
  refine make hr.hd S (closure_ok fun y hy e => I.ok.has _ (S.free y hy e)) (by have := hr.dp; omega) ?_ hs
  refine thn (hi.run pins s σ H _ I h) fun xv s1 ⟨v, H1, I1, r1, z⟩ => ?_
  obtain ⟨ps, hP, ht⟩ := hZ v H1 z
  obtain ⟨n, Pv, F, St, ⟨o, fp, hit, Wk, st, hfp, hcl⟩, hT, hQ⟩ := hz v H1 s1 xv I1 r1 z
  refine hit _ _ ?_
  have hPs : s1.heap.get? Pt = some { cls := .none, data := .fields ps } := I1.hok Pt _ hP
  have hPlt : Pt < s1.heap.objs.size := Heap.lt_size hPs
  have hP2 : (s1.heap.push o).get? Pt = some { cls := .none, data := .fields ps } := Heap.get?_push_of_some _ hPs
  have cd : PySem.W.CodeHd (s1.heap.push o) c Pt := TB.code.keeps fun b u e => Heap.get?_push_of_some _ (I1.bk b u e)
  have lim : (s1.heap.push o).NoLimit := I1.nolimit.push o
  have more : ∀ (code : Value) (h3 : Heap) (tk : Nat) (qs : Array Value), Heap.ExtBut Pt (s1.heap.push o) h3 → (s1.heap.push o).objs.size ≤ h3.objs.size → h3.get? Pt = some { cls := .none, data := .fields qs } → (∃ w, qs = ps ++ w) → TriplesOk qs.toList →
      wpAny (model X.prog X.w) X.A (builtinsFor X.env.globals X.env.builtins) (fun bi s4 =>
        ∃ I fp wr n P St F, Value.ref s1.heap.objs.size = .ref I ∧ (∀ B : Around, B.handled = none → Walks X.prog X.w B I fp wr n P St) ∧ St 0 s4.heap ∧ (∀ b ∈ fp, b < s4.heap.objs.size) ∧ s4.heap.NoLimit ∧ cStatics ∉ wr ∧
          (∀ href : Heap, (∀ b o, s4.heap.get? b = some o → href.get? b = some o) → Turns X.prog X.w (genEnv scope (cloFrom X.env.cells scope.names []) s4.heap.objs.size code bi X.env) tg elt I (List.range s4.heap.objs.size) wr P F St href) ∧
          (∀ a h5 tk gs, gs.bare = true → s4.heap.objs.size < a → h5.objs.size = a + 1 → (∀ b o, s4.heap.get? b = some o → h5.get? b = some o) →
            WalksS X.prog X.w X.A.in4 a (a :: s4.heap.objs.size :: List.range s4.heap.objs.size) (s4.heap.objs.size :: wr) (GenOnlyQ s4.gens.size) (passing allT n 0).length (fun j y => ∃ i, (passing allT n 0)[j]? = some i ∧ F i y) (GenAt X.prog X.w X.A.in4 a s4.gens.size s4.heap.objs.size (List.range s4.heap.objs.size) wr allT n F) →
            GenAt X.prog X.w X.A.in4 a s4.gens.size s4.heap.objs.size (List.range s4.heap.objs.size) wr allT n F 0 { s4 with gens := s4.gens.push gs, toks := tk, heap := h5 } → Q' (.ref a) { s4 with gens := s4.gens.push gs, toks := tk, heap := h5 })) X.xe { s1 with heap := h3, toks := tk } := by
    intro code h3 tk qs hx hsz hP3 hmore ht3
    obtain ⟨bm, ob, e1, e2, e3, e4, e5, e6, e7, e8⟩ := TB.bm
    have hcP : cStatics ≠ Pt := fun e => by
      obtain ⟨_, hns, _⟩ := I1.nolimit
      obtain ⟨o', es, ep, ho, hd, _⟩ := hns
      rw [e, hPs] at ho
      cases ho
      cases hd
    have hcl2 : cStatics < s1.heap.objs.size := let ⟨_, hns, _⟩ := I1.nolimit; hns.lt
    have sz2 : (s1.heap.push o).objs.size = s1.heap.objs.size + 1 := Heap.size_push ..
    have k3 : ∀ b u, b ≠ Pt → s1.heap.get? b = some u → h3.get? b = some u := fun b u hb e => hx b u hb (Heap.get?_push_of_some _ e)
    refine wpAny_builtinsFor (m := X.mg) (by rw [I1.ok.glob]; exact ((I1.mod.glob.keeps I1.bk).push o).extBut hx TB.gP) e1 e2 (k3 _ _ e4 (I1.bk _ _ e5)) e6 e7 e8 ?_
    have old : ∀ b u, s1.heap.get? b = some u → b ∈ List.range h3.objs.size ∧ b ∉ [s1.heap.objs.size] := fun b u e => by
      have hl : (b : Nat) < s1.heap.objs.size := Heap.lt_size e
      have h3' : s1.heap.objs.size + 1 ≤ h3.objs.size := by rw [← sz2]; exact hsz
      exact ⟨List.mem_range.mpr (Nat.lt_of_lt_of_le hl (by omega)), fun z => by rw [List.mem_singleton.mp z] at hl; exact Nat.lt_irrefl _ hl⟩
    refine ⟨s1.heap.objs.size, fp, [s1.heap.objs.size], n, Pv, St, F, rfl, Wk, ?_, ?_, lim.extBut hx hcP, ?_, ?_, ?_⟩
    · refine (Wk X.A hr.hd).frame _ _ _ st fun b hb u e => hx b u (fun z => ?_) e
      by_cases hb2 : b = s1.heap.objs.size
      · exact Nat.ne_of_lt hPlt (z.symm.trans hb2)
      · obtain ⟨u2, e2, n2⟩ := hcl b hb hb2
        rw [z, hPs] at e2
        cases e2
        exact n2 rfl
    · intro b hb
      have h3' : s1.heap.objs.size + 1 ≤ h3.objs.size := by rw [← sz2]; exact hsz
      exact Nat.lt_of_lt_of_le (hfp b hb) h3'
    · intro z
      exact Nat.ne_of_lt hcl2 (List.mem_singleton.mp z)
    · intro href hh B Er i v' sx m hB hPi hst hn kx
      refine hT (genEnv scope (cloFrom X.env.cells scope.names []) h3.objs.size code _ X.env) rfl rfl rfl rfl (fun b u e z => ?_) B Er i v' sx m hB hPi hst hn fun b u hb e => ?_
      · have h1 := Heap.lt_size e
        have h2 : b = h3.objs.size := z
        have h3' : s1.heap.objs.size + 1 ≤ h3.objs.size := by rw [← sz2]; exact hsz
        have h4 : (b : Nat) < s1.heap.objs.size := h1
        rw [h2] at h4
        exact absurd (Nat.lt_of_lt_of_le h4 (Nat.le_of_succ_le h3')) (Nat.lt_irrefl _)
      · obtain ⟨a1, a2⟩ := old b u e
        exact kx b a1 a2 u (hh b u (k3 b u hb e))
    · intro g h5 tk5 gs hgb hag hsz5 hk5 W5 hat
      rw [pass_all, List.length_range] at W5
      refine hQ g _ ⟨_, _, _, _, W5.in4_1, hat, ?_, fun s' hm => ?_⟩
      · intro b hb
        show b < h5.objs.size
        rw [hsz5]
        rcases List.mem_cons.mp hb with z | z
        · rw [z]
          exact Nat.lt_succ_self _
        · rcases List.mem_cons.mp z with z | z
          · rw [z]
            exact Nat.lt_succ_of_lt hag
          · exact Nat.lt_succ_of_lt (Nat.lt_trans (List.mem_range.mp z) hag)
      · obtain ⟨w, em⟩ := hmore
        have nwr : ∀ b u, s1.heap.get? b = some u → b ∉ h3.objs.size :: [s1.heap.objs.size] := fun b u e hb => by
          have hl : (b : Nat) < s1.heap.objs.size := Heap.lt_size e
          have h3' : s1.heap.objs.size + 1 ≤ h3.objs.size := by rw [← sz2]; exact hsz
          rcases List.mem_cons.mp hb with z | z
          · rw [z] at hl
            exact absurd (Nat.lt_of_lt_of_le hl (Nat.le_of_succ_le h3')) (Nat.lt_irrefl _)
          · exact (old b u e).2 z
        have J := inv_tab (more := w) (h' := s'.heap) (g' := s'.gens) (d' := s'.drawn) (t' := s'.toks) I1 hP (fun b u hb e => hm.heap b u (nwr b u e) (hk5 b u (k3 b u hb e)))
          (by rw [← em]; exact hm.heap Pt _ (nwr Pt _ hPs) (hk5 Pt _ hP3)) (AllBare.movedS (I1.bare.push hgb) hm)
        rw [sh_eta s1 s' hm.os] at J
        exact ⟨upd H1 Pt (.tbl (ps ++ w)), ⟨⟨ps ++ w, upd_same, by rw [← em]; exact ht3⟩, fun b hb => upd_ne hb⟩, J⟩
  refine ⟨lim, ?_⟩
  cases hf : codeAmong gpos ps.toList with
  | none =>
    refine wpAny_genexprCodeX hcode (cd.code hP2 ht) (cd.tab hP2) hf fun c' h' tk hx hge hlt hco' _ htab' _ => ?_
    obtain ⟨o1, vs, f1, tf, fl, tg, inF, tx, tt, op, _, _, _, _, _, _, _, _, _, htr, _⟩ := hco'
    exact more _ h' tk _ hx (Nat.le_trans hge (Nat.le_of_lt hlt)) htab'.2 ⟨_, rfl⟩ htr
  | some cv =>
    refine wpAny_genexprCode_hit hcode (cd.code hP2 ht) hf ?_
    exact more cv (s1.heap.push o) s1.toks ps (Heap.ExtBut.refl _ _) (Nat.le_refl _) hP2 ⟨#[], by simp⟩ ht
/-! ### what is walked -/
def StL (I l : Addr) (its : Array Value) : Nat → Heap → Prop := fun i h => h.IsListIter I l i ∧ h.IsList l its
theorem src_list {a : Addr} {its : Array Value} {s1 : Shared} (hl : s1.heap.IsList a its) : Src X (.ref a) s1 its.size (fun i v => its[i]? = some v) (StL s1.heap.objs.size a its) := by
  have ne : a ≠ s1.heap.objs.size := by
    obtain ⟨o, ho, _⟩ := hl
    exact Nat.ne_of_lt (Heap.lt_size ho)
  refine ⟨{ cls := .type "list_iterator", data := .fields #[.ref a, .int 0 0] }, [s1.heap.objs.size, a], fun Q E hQ => wpAny_pyIter_list hl hQ, fun B hB => Walks.list hB s1.heap.objs.size a ne its, ⟨⟨_, Heap.get?_push_size _ rfl, rfl, rfl⟩, ?_⟩, fun b hb => ?_, fun b hb hne => ?_⟩
  · obtain ⟨o, ho, r⟩ := hl
    exact ⟨o, Heap.get?_push_of_some _ ho, r⟩
  · obtain ⟨o, ho, _⟩ := hl
    rcases List.mem_cons.mp hb with z | z
    · rw [z]; exact Nat.lt_succ_self _
    · rw [List.mem_singleton.mp z]; exact Nat.lt_succ_of_lt (Heap.lt_size ho)
  · obtain ⟨o, ho, hc, _⟩ := hl
    rcases List.mem_cons.mp hb with z | z
    · exact absurd z hne
    · rw [List.mem_singleton.mp z]
      exact ⟨o, ho, by rw [hc]; exact fun z => by cases z⟩
/-! ### who walks -/
/-- a reading of the elements as tests -/
abbrev ElB := L2.St → V → Hp → Nat → (Nat → Bool) → Prop
def ElOk (X : Cx) (Pt : Addr) (scope : Scope) (tg elt : Expr) (El : ElB) (G : Nat → (Nat → Bool) → Nat → Value → Prop) : Prop := ∀ σ v H1 n pb, El σ v H1 n pb → ∀ (pins : List (Addr × Obj)) (s1 : Shared) (xv : Value), Inv X pins σ H1 s1 → TabG H1 Pt → RelV v xv → ∃ (Pv : Nat → Value → Prop) (St : Nat → Heap → Prop), Src X xv s1 n Pv St ∧
  ∀ cenv : Env, cenv.scope = scope → cenv.cells = cloFrom X.env.cells scope.names [] → cenv.globals = X.env.globals → cenv.builtins = builtinsNs → (∀ b o, s1.heap.get? b = some o → b ≠ cenv.locals) → TurnsAt X.prog X.w cenv tg elt s1.heap.objs.size Pt s1 Pv (G n pb) St
abbrev isB : Nat → (Nat → Bool) → Nat → Value → Prop := fun _ pb i y => y = .bool (pb i)
def tAllG (Pt : Addr) (El : ElB) (te : TE) : TE := fun σ H Q => te σ H fun v H1 => TabG H1 Pt ∧ ∃ n pb, El σ v H1 n pb ∧ ∀ H2, Tabbed Pt H1 H2 → Q (.bl ((List.range n).all pb)) H2
def tAnyG (Pt : Addr) (El : ElB) (te : TE) : TE := fun σ H Q => te σ H fun v H1 => TabG H1 Pt ∧ ∃ n pb, El σ v H1 n pb ∧ ∀ H2, Tabbed Pt H1 H2 → Q (.bl ((List.range n).any pb)) H2
theorem truth_of {n : Nat} {pb : Nat → Bool} : TruthOf X.prog X.w X.A.in1 (Fx n (isB n pb)) pb := by
  intro j y sj Qj Ej hy hQj
  obtain ⟨_, e⟩ := hy.at
  have e : y = .bool (pb j) := e
  subst e
  exact wpAny_truthy_bool hQj
theorem pe_allG {c Pt : Addr} {elt tg iter : Expr} {p pos gpos : Pos} {scope : Scope} {El : ElB} {te : TE} {k : Nat} (hr : Room k X.A) (hg : Gl X "all") (hm : X.mg "all" = none) (TB : TabB X.base X.mg c Pt) (hcode : X.env.code = .ref c) (S : Sc X.env.scope scope) (hi : PE X iter te)
    (hel : ElOk X Pt scope tg elt El isB) (hs : ∀ v, genFold iter X.env v = pure v := by intro _; rfl)
    (he : starEach [gE elt tg iter scope gpos] X.env = (false, eval (gE elt tg iter scope gpos) X.env) :: starEach [] X.env := by rfl) : PE X (.Call (.Name "all" p) [gE elt tg iter scope gpos] [] pos) (tAllG Pt El te) := by
  refine ⟨fun pins s σ H Q I h => ?_⟩
  refine wpAny_Call_Name_kw (ld_blt I hg hm (show bootBuiltins "all" = some (.builtin "all") by decide +kernel) (PyProof.Rows.callWith_builtin1 ?_ he (by rfl)))
  rw [he]
  show wpAny _ _ (spliced ((false, eval (gE elt tg iter scope gpos) X.env) :: backTo pos (starEach [] X.env))) _ _ s
  refine Calls.spliced_cons (gen (Z := fun v H1 => TabG H1 Pt ∧ ∃ n pb, El σ v H1 n pb ∧ ∀ H2, Tabbed Pt H1 H2 → Q (.bl ((List.range n).all pb)) H2) hr TB hcode S hi hs I h (fun _ _ z => z.1) fun v H1 s1 xv I1 rv z => ?_)
  obtain ⟨hTab, n, pb, hE, hQ⟩ := z
  obtain ⟨Pv, St, hS, hT⟩ := hel σ v H1 n pb hE pins s1 xv I1 hTab rv
  refine ⟨n, Pv, isB n pb, St, hS, fun cenv a1 a2 a3 a4 a5 => hT cenv a1 a2 a3 a4 a5, fun g s5 hR => Calls.spliced_nil ?_⟩
  obtain ⟨fp, wr, G, St2, Wx, hst, _, hI⟩ := hR
  refine call_all_walkS (Wx.self 0 _ _ _ hst ⟨g, fp, wr, G, _, _, St2, _, rfl, Wx, hst, truth_of, fun s' hmv => ?_⟩)
  obtain ⟨H2, hT2, J⟩ := hI s' hmv
  exact ⟨.bl _, H2, J, rfl, hQ H2 hT2⟩
theorem pe_anyG {c Pt : Addr} {elt tg iter : Expr} {p pos gpos : Pos} {scope : Scope} {El : ElB} {te : TE} {k : Nat} (hr : Room k X.A) (hg : Gl X "any") (hm : X.mg "any" = none) (TB : TabB X.base X.mg c Pt) (hcode : X.env.code = .ref c) (S : Sc X.env.scope scope) (hi : PE X iter te)
    (hel : ElOk X Pt scope tg elt El isB) (hs : ∀ v, genFold iter X.env v = pure v := by intro _; rfl)
    (he : starEach [gE elt tg iter scope gpos] X.env = (false, eval (gE elt tg iter scope gpos) X.env) :: starEach [] X.env := by rfl) : PE X (.Call (.Name "any" p) [gE elt tg iter scope gpos] [] pos) (tAnyG Pt El te) := by
  refine ⟨fun pins s σ H Q I h => ?_⟩
  refine wpAny_Call_Name_kw (ld_blt I hg hm (show bootBuiltins "any" = some (.builtin "any") by decide +kernel) (PyProof.Rows.callWith_builtin1 ?_ he (by rfl)))
  rw [he]
  show wpAny _ _ (spliced ((false, eval (gE elt tg iter scope gpos) X.env) :: backTo pos (starEach [] X.env))) _ _ s
  refine Calls.spliced_cons (gen (Z := fun v H1 => TabG H1 Pt ∧ ∃ n pb, El σ v H1 n pb ∧ ∀ H2, Tabbed Pt H1 H2 → Q (.bl ((List.range n).any pb)) H2) hr TB hcode S hi hs I h (fun _ _ z => z.1) fun v H1 s1 xv I1 rv z => ?_)
  obtain ⟨hTab, n, pb, hE, hQ⟩ := z
  obtain ⟨Pv, St, hS, hT⟩ := hel σ v H1 n pb hE pins s1 xv I1 hTab rv
  refine ⟨n, Pv, isB n pb, St, hS, fun cenv a1 a2 a3 a4 a5 => hT cenv a1 a2 a3 a4 a5, fun g s5 hR => Calls.spliced_nil ?_⟩
  obtain ⟨fp, wr, G, St2, Wx, hst, _, hI⟩ := hR
  refine call_any_walkS (Wx.self 0 _ _ _ hst ⟨g, fp, wr, G, _, _, St2, _, rfl, Wx, hst, truth_of, fun s' hmv => ?_⟩)
  obtain ⟨H2, hT2, J⟩ := hI s' hmv
  exact ⟨.bl _, H2, J, rfl, hQ H2 hT2⟩
end
end Gz

/-! Generator expressions told over data; the elements that the program has. -/
namespace Gz
open PySem PySem.Spec PyProof.Rows L2 GxR Dw
theorem chg_refl {L : Addr} {s : Shared} {m : Str → Option Value} (h : s.heap.Ns L m) : Chg L s s := ⟨s.heap, s.toks, m, rfl, h, fun _ _ _ e => e⟩
section
variable {W : Wd} {S S1 : List Addr} {H H1 H2 : Hp} {E : XK} {te : TE} {δ : Dn} {Φ : Ph} {X : Px} {Pt : Addr}
theorem md_tab (hP : TabG H1 Pt) (h : Tabbed Pt H1 H2) (hL : ∀ p ∈ W.TL, p.1 ≠ Pt) : Md W [] H1 H2 := by
  obtain ⟨ps, hp, _⟩ := hP
  have nP : ∀ b o, H1 b = some o → nT o → b ≠ Pt := fun b o e n z => by
    rw [z, hp] at e
    cases e
    exact n ps rfl
  refine ⟨fun b o e _ n => by rw [h.2 b (nP b o e n)]; exact e, fun b o e => ?_, fun P _ hT => ?_, fun p hp2 hT => ?_, fun b φ e => by rw [h.2 b (nP b _ e fun _ z => by cases z)]; exact e⟩
  · by_cases hb : b = Pt
    · obtain ⟨⟨qs, hq, _⟩, _⟩ := h
      exact ⟨_, by rw [hb]; exact hq⟩
    · exact ⟨o, by rw [h.2 b hb]; exact e⟩
  · by_cases hb : P = Pt
    · rw [hb]
      exact h.1
    · obtain ⟨qs, hq, hq2⟩ := hT
      exact ⟨qs, by rw [h.2 P hb]; exact hq, hq2⟩
  · obtain ⟨qs, a1, a2, a3⟩ := hT
    refine ⟨qs, by rw [h.2 _ (hL p hp2)]; exact a1, a2, fun pos cv hc => ?_⟩
    obtain ⟨c0, e1, e2⟩ := a3 pos cv hc
    refine ⟨c0, e1, ?_⟩
    rw [h.2 c0 (nP c0 _ e2 fun _ z => by unfold LamX.CodeO at z; cases z)]
    exact e2
/-- all(..): by what the elements read off the data -/
theorem ew_allG {El : ElB} {B : Dv → List Addr → Hp → Nat → (Nat → Bool) → Prop} (hT : Pt ∈ W.TG) (hL : ∀ p ∈ W.TL, p.1 ≠ Pt) (hB : ∀ σ d v S1 H1 H2 n pb, B d S1 H1 n pb → Md W [] H1 H2 → Cn W S1 δ σ H2 → Rp W (off S1 H2) d v → El σ v H2 n pb)
    (h : Ew W E te δ S H (fun d S1 H1 => ∃ n pb, B d S1 H1 n pb ∧ Φ (.bl ((List.range n).all pb)) S1 H1) X) : Ew W E (tAllG Pt El te) δ S H Φ X := fun σ H1 Q m c o ex =>
  h σ H1 _ m c (fun v d S1 G1 H2 ⟨n, pb, b, q⟩ m1 t1 c1 r1 => ⟨c1.tg Pt hT, n, pb, hB σ d v S1 G1 H2 n pb b m1 (c.tr t1) r1, fun H3 ht => by
    have mt := md_tab (c1.tg Pt hT) ht hL
    have tt := c1.md mt
    exact (o.tr t1) _ _ S1 G1 H3 q (m1.trans mt) tt (c1.tr tt) (.bl _)⟩) ex
theorem ew_anyG {El : ElB} {B : Dv → List Addr → Hp → Nat → (Nat → Bool) → Prop} (hT : Pt ∈ W.TG) (hL : ∀ p ∈ W.TL, p.1 ≠ Pt) (hB : ∀ σ d v S1 H1 H2 n pb, B d S1 H1 n pb → Md W [] H1 H2 → Cn W S1 δ σ H2 → Rp W (off S1 H2) d v → El σ v H2 n pb)
    (h : Ew W E te δ S H (fun d S1 H1 => ∃ n pb, B d S1 H1 n pb ∧ Φ (.bl ((List.range n).any pb)) S1 H1) X) : Ew W E (tAnyG Pt El te) δ S H Φ X := fun σ H1 Q m c o ex =>
  h σ H1 _ m c (fun v d S1 G1 H2 ⟨n, pb, b, q⟩ m1 t1 c1 r1 => ⟨c1.tg Pt hT, n, pb, hB σ d v S1 G1 H2 n pb b m1 (c.tr t1) r1, fun H3 ht => by
    have mt := md_tab (c1.tg Pt hT) ht hL
    have tt := c1.md mt
    exact (o.tr t1) _ _ S1 G1 H3 q (m1.trans mt) tt (c1.tr tt) (.bl _)⟩) ex
end
/-! ### pairs of whole numbers in a list -/
section
variable {X : Cx}
/-- a list of lists of two whole numbers -/
def ElP (K : PySem.W.Frag) (f : Int → Int → Bool) : ElB := fun _ v H n pb => ∃ (a : Addr) (xs : List V), v = .ref a ∧ SqL K H a xs ∧ n = xs.length ∧ ∀ i x, xs[i]? = some x → ∃ (r : Addr) (p q : Int), x = .ref r ∧ SqL K H r [.int p, .int q] ∧ pb i = f p q
/-- the element reads two names that hold whole numbers -/
def Elt2 (prog : Program) (w : World) (scope : Scope) (x y : Str) (elt : Expr) (f : Int → Int → Bool) : Prop := ∀ (cenv : Env) (B : Around) (Ez : Value → Shared → Prop) (p q : Int) (t u : Tok) (s : Shared) (m : Str → Option Value), cenv.scope = scope → s.heap.Ns cenv.locals m → m x = some (.int p t) → m y = some (.int q u) →
  wpAny (model prog w) B (eval elt cenv) (fun z s' => z = .bool (f p q) ∧ Keeps s s') Ez s
theorem el_pairs {K : PySem.W.Frag} {Pt : Addr} {scope : Scope} {x y : Str} {px py pt : Pos} {kt : Nat} {elt : Expr} {f : Int → Int → Bool} (hK : X.K = K) (hk : scope.kind = .function) (hx : scope.names.lookup x = some .local) (hy : scope.names.lookup y = some .local) (hxy : x ≠ y) (he : Elt2 X.prog X.w scope x y elt f) :
    ElOk X Pt scope (.Tuple [.Name x px, .Name y py] kt pt) elt (ElP K f) isB := by
  rintro σ v H1 n pb ⟨a, xs, rfl, hs, rfl, hx2⟩ pins s1 xv I hTab rv
  subst hK
  cases rv
  obtain ⟨its, rvs, pl, hz⟩ := I.list hs
  have hl := pl.isList
  have hlen : its.length = xs.length := rvs.length.symm
  refine ⟨_, _, by have := src_list (X := X) hl; rw [List.size_toArray, hlen] at this; exact this, fun cenv e1 e2 e3 _ hfr B Er i v s m hB hv st hn kp => ?_⟩
  have hv' : its[i]? = some v := by simpa using hv
  obtain ⟨xi, hxi, rx⟩ : ∃ xi, xs[i]? = some xi ∧ RelV xi v := by
    have hi : i < xs.length := by rw [← hlen]; exact (List.getElem?_eq_some_iff.mp hv').1
    refine ⟨xs[i], List.getElem?_eq_getElem hi, ?_⟩
    obtain ⟨u, h1, h2⟩ := rvs.get (List.getElem?_eq_getElem hi)
    rw [hv'] at h1
    cases h1
    exact h2
  obtain ⟨r, p, q, rfl, hr, hpb⟩ := hx2 i xi hxi
  cases rx
  obtain ⟨jts, rj, pj, _⟩ := I.list hr
  obtain ⟨t, u, rfl⟩ : ∃ t u, jts = [Value.int p t, Value.int q u] := by
    cases rj with
    | cons h1 h2 =>
      cases h2 with
      | cons h3 h4 =>
        cases h4
        obtain ⟨t, rfl⟩ := h1
        obtain ⟨u, rfl⟩ := h3
        exact ⟨t, u, rfl⟩
  have hj : s.heap.IsList r ([Value.int p t, Value.int q u] : List Value).toArray := by
    obtain ⟨o, ho, hc, r2⟩ := pj.isList
    refine ⟨o, kp r o (fun z => ?_) ho, hc, r2⟩
    obtain ⟨ps, hP, _⟩ := hTab
    have h9 : s1.heap.get? Pt = some { cls := .none, data := .fields ps } := I.hok Pt _ hP
    rw [← z, ho] at h9
    cases h9
    cases hc
  refine wpAny_letOwnedTupleGo_listiter st.1 ?_
  have ka : cenv.kindOf x = some .local := by
    show cenv.scope.names.lookup x = some .local
    rw [e1]
    exact hx
  have kb : cenv.kindOf y = some .local := by
    show cenv.scope.names.lookup y = some .local
    rw [e1]
    exact hy
  have hp : (cenv.scope.kind == .class || (cenv.scope.kind == .module && cenv.locals != cenv.globals)) = false := by
    rw [e1, hk]
    rfl
  rw [PyProof.Rows.assign_Tuple]
  refine wpAny_bind (wpAny_standAt ?_)
  unfold unpack
  have hsz : (assignEach [Expr.Name x px, Expr.Name y py] cenv).length = ([Value.int p t, Value.int q u] : List Value).toArray.size := rfl
  have hst : (assignEach [Expr.Name x px, Expr.Name y py] cenv).findIdx? (·.1) = none := rfl
  rw [hsz, hst]
  refine wpAny_bind (wpAny_holding (PySem.W.kun_itemsOf hB hj fun h' hx' => ?_))
  show wpAny _ _ (do holding [Value.int q u] (assign (.Name x px) cenv (Value.int p t)); do holding [] (assign (.Name y py) cenv (Value.int q u)); pure ()) _ _ _
  have k1 : ∀ b o, s.heap.get? b = some o → h'.get? b = some o := fun b o e => hx' b o (Nat.ne_of_lt (Heap.lt_size e)) e
  refine wpAny_bind (wpAny_holding (wpAny_assign_Name (wpAny_storeName_local ka (hn.keeps k1) (fun h2 hn2 hs2 => ?_) hp)))
  refine wpAny_bind (wpAny_holding (wpAny_assign_Name (wpAny_storeName_local kb hn2 (fun h3 hn3 hs3 => wpAny_pure ?_) hp)))
  have k3 : ∀ b o, b ≠ cenv.locals → s.heap.get? b = some o → h3.get? b = some o := fun b o hb e => hs3.extBut b o hb (hs2.extBut b o hb (k1 b o e))
  refine ⟨⟨h3, _, _, rfl, hn3, k3⟩, fun Ez => ?_⟩
  refine wpAny_mono (he cenv B Ez p q t u _ _ e1 hn3 (by simp [hxy]) (by simp)) (fun z s' hz => ⟨?_, hz.2⟩) fun _ _ z => z
  show z = .bool (pb i)
  rw [hpb]
  exact hz.1
/-- 5 * x + y < 10 and y < 5 -/
theorem elt_plain {prog : Program} {w : World} {scope : Scope} {x y : Str} {j1 j2 j3 : Nat} {p1 p2 p3 p4 p5 p6 p7 p8 p9 p10 p11 : Pos} (hk : scope.kind = .function) (hx : scope.names.lookup x = some .local) (hy : scope.names.lookup y = some .local) (dx : (x == ("__debug__" : Str)) = false := by decide) (dy : (y == ("__debug__" : Str)) = false := by decide) :
    Elt2 prog w scope x y (.BoolOp .And [.Compare (.BinOp (.BinOp (.Constant (.int 5) j1 p1) .Mult (.Name x p2) p3) .Add (.Name y p4) p5) [.Lt] [.Constant (.int 10) j2 p6] p7, .Compare (.Name y p8) [.Lt] [.Constant (.int 5) j3 p9] p10] p11) (fun p q => decide (5 * p + q < 10) && decide (q < 5)) := by
  intro cenv B Ez p q t u s m hs hn mx my
  have ka : cenv.scope.kind = .function := by rw [hs]; exact hk
  have la : cenv.scope.names.lookup x = some .local := by rw [hs]; exact hx
  have lb : cenv.scope.names.lookup y = some .local := by rw [hs]; exact hy
  have hp : ∀ {s2 : Shared} {k : Nat}, s2.heap = s.heap → s2.gens = s.gens → s2.drawn = s.drawn → s2.os = s.os → Keeps s s2 := fun {s2 k} h1 h2 h3 h4 => ⟨s.heap, s2.toks, by cases s2; cases h1; cases h2; cases h3; cases h4; rfl, fun _ _ e => e⟩
  refine BoolOp_and (wpAny_Compare1 (wpAny_BinOp (wpAny_BinOp (wpAny_Constant_int (wpAny_Name (wpAny_loadName_local ka la hn mx ?_) dx)))))
  refine mul_int ?_ (by mul_fits)
  refine wpAny_Name (wpAny_loadName_local ka lb hn my ?_) dy
  refine add_int ?_
  refine wpAny_Constant_int ?_
  refine lt_int ?_
  refine wpAny_truthy_bool ?_
  cases h1 : decide (5 * p + q < 10) with
  | true =>
    refine iteT ?_
    refine BoolOp_one (wpAny_Compare1 (wpAny_Name (wpAny_loadName_local ka lb hn my ?_) dy))
    refine wpAny_Constant_int (lt_int ⟨?_, hp (k := 0) rfl rfl rfl rfl⟩)
    show Value.bool _ = Value.bool (decide (5 * p + q < 10) && decide (q < 5))
    rw [h1, Bool.true_and]
  | false =>
    refine iteF ⟨?_, hp (k := 0) rfl rfl rfl rfl⟩
    show Value.bool _ = Value.bool (decide (5 * p + q < 10) && decide (q < 5))
    rw [h1, Bool.false_and]
end
end Gz

/-! Elements that ask a captured name, a built-in. -/
namespace Gz
open PySem PySem.Spec PyProof.Rows L2 GxR Dw
section
variable {X : Cx} {pins : List (Addr × Obj)} {σ : L2.St} {H H1 : Hp} {s s1 : Shared} {Pt : Addr}
def StT (I l : Addr) (its : Array Value) : Nat → Heap → Prop := fun i h => h.IsTupleIter I l i ∧ h.IsTuple l its
theorem src_tuple {a : Addr} {its : Array Value} {s1 : Shared} (hl : IsTup s1.heap a its) : Src X (.ref a) s1 its.size (fun i v => its[i]? = some v) (StT s1.heap.objs.size a its) := by
  have ne : a ≠ s1.heap.objs.size := by
    obtain ⟨o, ho, _⟩ := hl
    exact Nat.ne_of_lt (Heap.lt_size ho)
  refine ⟨{ cls := .type "tuple_iterator", data := .fields #[.ref a, .int 0 0] }, [s1.heap.objs.size, a], fun Q E hQ => wpAny_pyIter_tuple hl hQ, fun B hB => Walks.tuple hB s1.heap.objs.size a ne its, ⟨⟨_, Heap.get?_push_size _ rfl, rfl, rfl⟩, ?_⟩, fun b hb => ?_, fun b hb hne => ?_⟩
  · obtain ⟨o, ho, r⟩ := hl
    exact ⟨o, Heap.get?_push_of_some _ ho, r⟩
  · obtain ⟨o, ho, _⟩ := hl
    rcases List.mem_cons.mp hb with z | z
    · rw [z]; exact Nat.lt_succ_self _
    · rw [List.mem_singleton.mp z]; exact Nat.lt_succ_of_lt (Heap.lt_size ho)
  · obtain ⟨o, ho, hc, _⟩ := hl
    rcases List.mem_cons.mp hb with z | z
    · exact absurd z hne
    · rw [List.mem_singleton.mp z]
      exact ⟨o, ho, by rw [hc]; exact fun z => by cases z⟩
theorem src_str {x : Str} {t : Tok} {s1 : Shared} : Src X (.str x t) s1 x.cps.size (SignAt x) (fun i h => h.IsStrIter s1.heap.objs.size (strIterType x) x t i) := by
  refine ⟨{ cls := .type (strIterType x), data := .fields #[.str x t, .int 0 0] }, [s1.heap.objs.size], fun Q E hQ => wpAny_pyIter_strU hQ, fun B hB => ?_, ⟨_, Heap.get?_push_size _ rfl, rfl, rfl⟩, fun b hb => ?_, fun b hb hne => absurd (List.mem_singleton.mp hb) hne⟩
  · cases ha : x.cps.all (· < 128) with
    | true =>
      have e : strIterType x = "str_ascii_iterator" := by simp [strIterType, ha]
      rw [e]
      exact Walks.strAscii hB _ x t
    | false =>
      have e : strIterType x = "str_iterator" := by simp [strIterType, ha]
      rw [e]
      exact Walks.strWide hB _ x t
  · rw [List.mem_singleton.mp hb]
    exact Nat.lt_succ_self _
/-- the table's object is no other -/
theorem tab_obj (I : Inv X pins σ H1 s1) (hT : TabG H1 Pt) {b : Addr} {o : Obj} (e : s1.heap.get? b = some o) (hc : o.cls ≠ .none) : b ≠ Pt := fun z => by
  obtain ⟨ps, hP, _⟩ := hT
  have h9 : s1.heap.get? Pt = some { cls := .none, data := .fields ps } := I.hok Pt _ hP
  rw [← z, e] at h9
  cases h9
  exact hc rfl
/-- a built-in by its name, within a generator expression -/
theorem ld_len {cenv : Env} {B : Around} {E : Value → Shared → Prop} {Q : Value → Shared → Prop} {x : Str} {u : Value} {p : Pos} (I : Inv X pins σ H1 s1) (hT : TabG H1 Pt) (gP : mainGlobals ≠ Pt) (hk : cenv.scope.kind = .function) (hg : cenv.kindOf x = some .globalImplicit) (e3 : cenv.globals = X.env.globals) (e4 : cenv.builtins = builtinsNs)
    (hm : X.mg x = none) (hv : bootBuiltins x = some u) (kp : ∀ b o, b ≠ Pt → s1.heap.get? b = some o → s.heap.get? b = some o) (h : Q u s) (hn : x ≠ "__name__" := by decide) (hd : (x == ("__debug__" : Str)) = false := by decide) : wpAny (model X.prog X.w) B (eval (.Name x p) cenv) Q E s := by
  obtain ⟨mb, h1, h2⟩ := I.mod.blt
  have g1 : s1.heap.Ns mainGlobals X.mg := I.mod.glob.keeps I.bk
  have g2 : s1.heap.Ns builtinsNs mb := h1.keeps I.bk
  have nb : builtinsNs ≠ Pt := fun z => by
    obtain ⟨o, es, ep, ho, hd, _⟩ := g2
    obtain ⟨ps, hP, _⟩ := hT
    have h9 : s1.heap.get? Pt = some { cls := .none, data := .fields ps } := I.hok Pt _ hP
    rw [z, h9] at ho
    cases ho
    cases hd
  refine Calls.Name_function_global hk hg (Calls.loadGlobal_builtin (by rw [e3, I.ok.glob]; exact g1.at' fun o e => kp _ o gP e) hm (by rw [e4]; exact g2.at' fun o e => kp _ o nb e) ((h2 x hn).trans hv) h) hd
end
/-- texts in a list or a tuple that a captured name holds too -/
def ElS (K : PySem.W.Frag) (j : Nat) (f : Str → Str → Bool) : ElB := fun σ v H n pb => ∃ (a : Addr) (ys : List Str) (y0 : Str), v = .ref a ∧ (SqL K H a (ys.map V.str) ∨ SqT K H a (ys.map V.str)) ∧ ys[0]? = some y0 ∧ σ[j]? = some (some (.ref a)) ∧ n = ys.length ∧ (∀ y ∈ ys, y.length ≤ sizeLine) ∧ ∀ i y, ys[i]? = some y → pb i = f y y0
/-- what a genexpr's captured name holds -/
theorem captured {X : Cx} {pins : List (Addr × Obj)} {σ : L2.St} {H1 : Hp} {s1 : Shared} {scope : Scope} {j : Nat} {y : Str} {v : V} (I : Inv X pins σ H1 s1) (hy : scope.names.lookup y = some .free) (hN : X.N[j]? = some y) (hv : X.env.kindOf y = some .cell) (hj : σ[j]? = some (some v)) :
    ∃ (c : Addr) (u : Value), (cloFrom X.env.cells scope.names []).lookup y = some c ∧ RelV v u ∧ s1.heap.IsCell c (some u) := by
  obtain ⟨m, _, hl⟩ := I.loc
  obtain ⟨u, r, q⟩ := hl j y v hN hj (.inr (.inl hv))
  rcases q with ⟨k', _⟩ | ⟨_, c, e, z⟩
  · rw [hv] at k'
    cases k'
  · obtain ⟨c2, h2⟩ := mem_lookup (cloFrom_has (cells := X.env.cells) (acc := []) (PySem.mem_of_lookup hy))
    rcases cloFrom_mem (PySem.mem_of_lookup h2) with hm | ⟨h3, h4⟩
    · cases hm
    · have e2 : c2 = c := by
        rw [h4, e]
        rfl
      rw [e2] at h2
      exact ⟨c, u, h2, r, z⟩
theorem wp_len {M : Program} {w : World} {B : Around} {E : Value → Shared → Prop} {cenv : Env} {s : Shared} {e : Expr} {p pos : Pos} {Q : Value → Shared → Prop} (he : starEach [e] cenv = (false, eval e cenv) :: starEach [] cenv) (hf : wpAny (model M w) B (eval (.Name "len" p) cenv) (fun u s' => u = .builtin "len" ∧ s' = s) E s)
    (h : wpAny (model M w) B (eval e cenv) (fun v s2 => ∃ (z : Str) (t : Tok), v = .str z t ∧ z.length ≤ sizeLine ∧ Q (.int z.length (s2.toks + 1)) { s2 with toks := s2.toks + 1 + 1 }) E s) : wpAny (model M w) B (eval (.Call (.Name "len" p) [e] [] pos) cenv) Q E s := by
  refine wpAny_Call_Name_kw (wpAny_mono hf (fun u s' hu => ?_) fun _ _ z => z)
  obtain ⟨rfl, rfl⟩ := hu
  refine PyProof.Rows.callWith_builtin1 ?_ he (by rfl)
  rw [he]
  show wpAny _ _ (spliced ((false, eval e cenv) :: backTo pos (starEach [] cenv))) _ _ _
  refine Calls.spliced_cons (wpAny_mono h (fun v s2 hv => ?_) fun _ _ z => z)
  obtain ⟨z, t, rfl, hz, q⟩ := hv
  have := line63
  exact Calls.spliced_nil (len_str (by omega) q)
/-- len(x) != len(xs[0]), xs captured -/
theorem el_lens {X : Cx} {K : PySem.W.Frag} {c Pt : Addr} {j : Nat} {scope : Scope} {x xs : Str} {k1 : Nat} {p0 p1 p2 p3 p4 p5 p6 p7 p8 p9 : Pos} (hK : X.K = K) (TB : TabB X.base X.mg c Pt) (hk : scope.kind = .function) (hx : scope.names.lookup x = some .local) (hxs : scope.names.lookup xs = some .free) (hlen : scope.names.lookup ("len" : Str) = some .globalImplicit)
    (hm : X.mg "len" = none) (hN : X.N[j]? = some xs) (hv : X.env.kindOf xs = some .cell) (dx : (x == ("__debug__" : Str)) = false := by decide) (dxs : (xs == ("__debug__" : Str)) = false := by decide) (dc : (xs == ("__classdict__" : Str)) = false := by decide) :
    ElOk X Pt scope (.Name x p0) (.Compare (.Call (.Name "len" p1) [.Name x p2] [] p3) [.NotEq] [.Call (.Name "len" p4) [.Subscript (.Name xs p5) (.Constant (.int 0) k1 p6) p7] [] p8] p9) (ElS K j fun y z => !decide (y.length = z.length)) isB := by
  rintro σ v H1 n pb ⟨a, ys, y0, rfl, hs, h0, hj, rfl, hsz, hpb⟩ pins s1 xv I hTab rv
  subst hK
  cases rv
  obtain ⟨cl, u0, hcl, ru0, hcell⟩ := captured I hxs hN hv hj
  cases ru0
  have hboot : bootBuiltins "len" = some (.builtin "len") := by decide +kernel
  -- the items, of a list or a tuple
  obtain ⟨its, rvs, hseq⟩ : ∃ its : List Value, Vals (ys.map V.str) its ∧ (s1.heap.IsList a its.toArray ∨ IsTup s1.heap a its.toArray) := by
    rcases hs with hs | hs
    · obtain ⟨its, r, pl, _⟩ := I.list hs
      exact ⟨its, r, .inl pl.isList⟩
    · obtain ⟨its, r, pl, _⟩ := I.tuple hs
      exact ⟨its, r, .inr pl⟩
  have hlenI : its.length = ys.length := by rw [← rvs.length, List.length_map]
  have at_ : ∀ i y, ys[i]? = some y → ∃ t : Tok, its[i]? = some (Value.str y t) := fun i y e => by
    obtain ⟨u, h1, h2⟩ := rvs.get (i := i) (x := V.str y) (by rw [List.getElem?_map, e]; rfl)
    obtain ⟨t, rfl⟩ := h2
    exact ⟨t, h1⟩
  obtain ⟨t0, ht0⟩ := at_ 0 y0 h0
  have hz0 := hsz y0 (List.mem_of_getElem? h0)
  have turn : ∀ (St : Nat → Heap → Prop) (cenv : Env), cenv.scope = scope → cenv.cells = cloFrom X.env.cells scope.names [] → cenv.globals = X.env.globals → cenv.builtins = builtinsNs → (∀ b o, s1.heap.get? b = some o → b ≠ cenv.locals) →
      TurnsAt X.prog X.w cenv (.Name x p0) (.Compare (.Call (.Name "len" p1) [.Name x p2] [] p3) [.NotEq] [.Call (.Name "len" p4) [.Subscript (.Name xs p5) (.Constant (.int 0) k1 p6) p7] [] p8] p9) s1.heap.objs.size Pt s1 (fun i v => its.toArray[i]? = some v) (isB ys.length pb) St := by
    intro St cenv e1 e2 e3 e4 hfr B Er i v s m hB hv' st hn kp
    have hvi : its[i]? = some v := by simpa using hv'
    have hi : i < ys.length := by rw [← hlenI]; exact (List.getElem?_eq_some_iff.mp hvi).1
    obtain ⟨t, ht⟩ := at_ i ys[i] (List.getElem?_eq_getElem hi)
    rw [hvi] at ht
    cases ht
    have hzi := hsz ys[i] (List.getElem_mem hi)
    have ck : cenv.scope.kind = .function := by rw [e1]; exact hk
    have ka : cenv.kindOf x = some .local := by show cenv.scope.names.lookup x = _; rw [e1]; exact hx
    have kx : cenv.kindOf xs = some .free := by show cenv.scope.names.lookup xs = _; rw [e1]; exact hxs
    have kl : cenv.kindOf "len" = some .globalImplicit := by show cenv.scope.names.lookup ("len" : Str) = _; rw [e1]; exact hlen
    have hp : (cenv.scope.kind == .class || (cenv.scope.kind == .module && cenv.locals != cenv.globals)) = false := by rw [e1, hk]; rfl
    refine wpAny_of_eq (rfl : letOwnedTupleGo (.Name x p0) (.ref s1.heap.objs.size) (.str ys[i] t) = pure ()) ?_
    refine wpAny_assign_Name (wpAny_storeName_local ka hn (fun h2 hn2 hs2 => ?_) hp)
    have k2 : ∀ b o, b ≠ cenv.locals → s.heap.get? b = some o → h2.get? b = some o := fun b o hb e => hs2.extBut b o hb e
    refine ⟨⟨h2, _, _, rfl, hn2, k2⟩, fun Ez => ?_⟩
    have kp2 : ∀ (tk : Nat) b o, b ≠ Pt → s1.heap.get? b = some o → ({ s with heap := h2, toks := tk } : Shared).heap.get? b = some o := fun _ b o hb e => k2 b o (hfr b o e) (kp b o hb e)
    refine wpAny_Compare1 ?_
    refine wp_len rfl (ld_len I hTab TB.gP ck kl e3 e4 hm hboot (kp2 _) ⟨rfl, rfl⟩) ?_
    refine wpAny_Name (wpAny_loadName_local ck ka hn2 (if_pos rfl) ?_) dx
    refine ⟨ys[i], t, rfl, hzi, ?_⟩
    refine wp_len rfl (ld_len I hTab TB.gP ck kl e3 e4 hm hboot (kp2 _) ⟨rfl, rfl⟩) ?_
    have hcell2 : h2.IsCell cl (some (.ref a)) := by
      obtain ⟨o, ho, hd⟩ := hcell
      refine ⟨o, kp2 0 cl o (fun z => ?_) ho, hd⟩
      obtain ⟨ps, hP, _⟩ := hTab
      have h9 : s1.heap.get? Pt = some { cls := .none, data := .fields ps } := I.hok Pt _ hP
      rw [← z, ho] at h9
      cases h9
      cases hd
    refine Subscript_ (wpAny_Name (wpAny_loadName_free ck kx (by rw [e2]; exact hcl) hcell2 ?_ dc) dxs)
    refine wpAny_Constant_int ?_
    have fin : ∀ {s3 : Shared}, s3.heap = h2 → s3.gens = s.gens → s3.drawn = s.drawn → s3.os = s.os → Keeps { s with heap := h2, toks := s.toks + 1 } s3 := fun {s3} q1 q2 q3 q4 => ⟨h2, s3.toks, by cases s3; cases q1; cases q2; cases q3; cases q4; rfl, fun _ _ e => e⟩
    have done : ∀ (s3 : Shared), s3.heap = h2 → s3.gens = s.gens → s3.drawn = s.drawn → s3.os = s.os → ∃ (z : Str) (t' : Tok), (Value.str y0 t0) = .str z t' ∧ z.length ≤ sizeLine ∧
        wpAny (model X.prog X.w) B (compareOp .NotEq (.int ys[i].length (s.toks + 1 + 1)) (.int z.length (s3.toks + 1))) (fun y sc => isB ys.length pb i y ∧ Keeps { s with heap := h2, toks := s.toks + 1 } sc) Ez { s3 with toks := s3.toks + 1 + 1 } := fun s3 q1 q2 q3 q4 => by
      refine ⟨y0, t0, rfl, hz0, ne_int ⟨?_, fin q1 q2 q3 q4⟩⟩
      show Value.bool _ = .bool (pb i)
      rw [hpb i ys[i] (List.getElem?_eq_getElem hi)]
      congr 1
      show ((ys[i].length : Int) != (y0.length : Int)) = !decide (ys[i].length = y0.length)
      by_cases q : ys[i].length = y0.length
      · rw [decide_eq_true q, q]
        simp
      · have q2 : ((ys[i].length : Nat) : Int) ≠ (y0.length : Nat) := by omega
        rw [decide_eq_false q]
        simpa using q2
    rcases hseq with hl | hl
    · have hl2 : h2.IsList a its.toArray := by
        obtain ⟨o, ho, hc, r⟩ := hl
        exact ⟨o, kp2 0 a o (tab_obj I hTab ho (by rw [hc]; exact fun z => by cases z)) ho, hc, r⟩
      exact item_listR (s := { s with heap := h2, toks := _ }) hl2 (by decide) (by decide) (by simpa using ht0) (done _ rfl rfl rfl rfl)
    · have hl2 : IsTup h2 a its.toArray := by
        obtain ⟨o, ho, hc, r⟩ := hl
        exact ⟨o, kp2 0 a o (tab_obj I hTab ho (by rw [hc]; exact fun z => by cases z)) ho, hc, r⟩
      exact subscriptTail_builtinR (x := Value.str y0 t0) (s := { s with heap := h2, toks := _ }) (Heap.IsTuple.typeIs hl2) slot_tuple_getitem.lookup (PyProof.Rows.getItem_tuple (j := 0) hl2 (by decide) (by decide) (seqIndex_of (by decide) (by simp [hlenI]; omega)) (by simpa using ht0) ⟨rfl, done _ rfl rfl rfl rfl⟩)
  rcases hseq with hl | hl
  · refine ⟨_, _, by have := src_list (X := X) hl; rw [List.size_toArray, hlenI] at this; exact this, turn _⟩
  · refine ⟨_, _, by have := src_tuple (X := X) hl; rw [List.size_toArray, hlenI] at this; exact this, turn _⟩
end Gz

/-! list.count, list.index of flat items. -/
namespace Dw
open PySem PySem.Spec PyProof.Rows L2
def rCountF (K : PySem.W.Frag) : V → List V → Hp → VK → Prop := fun x xs H Q => ∃ (a : Addr) (ys : List V) (y : V), x = V.ref a ∧ xs = [y] ∧ SqL K H a ys ∧ flatV y = true ∧ ys.all flatV = true ∧ Q (.int (ys.countP fun z => eqV z y : Nat)) H
theorem count_vals {y : V} : ∀ {ys : List V} {its : List Value}, Vals ys its → ys.all flatV = true → its.countP (eqU y) = ys.countP fun z => eqV z y
  | _, _, .nil, _ => rfl
  | _, _, @Paired.cons _ _ _ z u zs us h t, q => by
    rw [List.all_cons, Bool.and_eq_true] at q
    have ih := count_vals (y := y) t q.2
    have e := eqU_of (x := y) h q.1
    rw [List.countP_cons, List.countP_cons, ih, e]
theorem mt_countF {X : Cx} : MtR X "list.count" (rCountF X.K) := by
  intro pins s σ H x xs v us Q I rx rxs h
  obtain ⟨a, ys, y, rfl, rfl, hs, fy, fys, q⟩ := h
  cases rx
  cases rxs with
  | cons ry rt =>
    rename_i uy ut
    cases rt
    obtain ⟨its, rv, ⟨⟨cls, dd, data, sl⟩, n, ho, hc, hdn, hd⟩, hlen⟩ := I.list hs
    simp only at hc hd
    subst hc hd
    refine call_meets PySem.F.slot_list_count ⟨_, ho, rfl⟩ PySem.F.entry_list_count (PySem.F.args_list_count_2 _ _) (SeqAt.list_countAt a its.toArray n dd sl uy (eqU y)) ⟨ho, fun u' hu' => mem_eqAt ry fy rv fys u' (by simpa using hu'), ?_⟩
    refine ⟨.int (ys.countP fun z => eqV z y : Nat), H, I.tok _, ⟨s.toks, ?_⟩, q⟩
    show Value.int ((its.toArray.toList.countP (eqU y) : Nat) : Int) s.toks = Value.int _ s.toks
    rw [show its.toArray.toList = its from rfl, count_vals rv fys]
theorem w_countF {X : Cx} {K : PySem.W.Frag} (hK : X.K = K) : MtR X "list.count" (rCountF K) := by subst hK; exact mt_countF
theorem w_index {X : Cx} {K : PySem.W.Frag} (hK : X.K = K) : MtR X "list.index" (rIndex K) := by subst hK; exact mt_index
section
variable {W : Wd}
def eqF (z x : Dv) : Bool := eqV (flV z) (flV x)
def countB (d : Dv) (xs : List Dv) (Φ : Ph) (S : List Addr) (H : Hp) : Prop := ∃ ds x, d = .lst ds ∧ xs = [x] ∧ flatD x = true ∧ ds.all flatD = true ∧ Φ (.int (ds.countP fun z => eqF z x : Nat)) S H
theorem meD_count : MeD W (rCountF W.K) countB := fun d v xs vs Φ S H H1 Q m c rx rs ⟨ds, x, e1, e2, h1, h2, q⟩ o => by
  subst e1 e2
  obtain ⟨u, rfl, ru⟩ := RpA.one rs
  obtain ⟨f1, f2⟩ := ru.flat h1
  cases rx with
  | lst hs ra =>
    obtain ⟨g1, g2⟩ := ra.flat h2
    refine ⟨_, _, u, rfl, rfl, sqL_off hs, f2, g2, ?_⟩
    rw [g1, List.countP_map, f1]
    exact o.pure c m (.int _) q
/-- the first place -/
def indexB (d : Dv) (xs : List Dv) (Φ : Ph) (S : List Addr) (H : Hp) : Prop := ∃ ds x j, d = .lst ds ∧ xs = [x] ∧ flatD x = true ∧ ds.all flatD = true ∧ ds.findIdx? (fun z => eqF z x) = some j ∧ Φ (.int (j : Nat)) S H
theorem meD_index : MeD W (rIndex W.K) indexB := fun d v xs vs Φ S H H1 Q m c rx rs ⟨ds, x, j, e1, e2, h1, h2, hj, q⟩ o => by
  subst e1 e2
  obtain ⟨u, rfl, ru⟩ := RpA.one rs
  obtain ⟨f1, f2⟩ := ru.flat h1
  cases rx with
  | lst hs ra =>
    obtain ⟨g1, g2⟩ := ra.flat h2
    obtain ⟨hl, hp, hn⟩ := List.findIdx?_eq_some_iff_getElem.mp hj
    refine ⟨_, _, u, j, flV ds[j], rfl, rfl, sqL_off hs, f2, g2, ?_, ?_, fun k z hk hz => ?_, o.pure c m (.int _) q⟩
    · rw [g1, List.getElem?_map, List.getElem?_eq_getElem hl]
      rfl
    · rw [f1]
      exact hp
    · rw [g1, List.getElem?_map, List.getElem?_eq_getElem (Nat.lt_trans hk hl)] at hz
      cases hz
      have := hn k hk
      rw [f1]
      simpa [eqF] using this
end
end Dw
namespace Gz
open PySem PySem.Spec PyProof.Rows L2 GxR Dw
section
variable {W : Wd} {S : List Addr} {H : Hp} {E : XK} {δ : Dn} {Φ : Ph} {X : Px} {Pt : Addr}
/-- over a name's own thing -/
theorem ew_anyV {El : ElB} {j n : Nat} {pb : Nat → Bool} {d : Dv} (hT : Pt ∈ W.TG) (hL : ∀ p ∈ W.TL, p.1 ≠ Pt) (hd : δ[j]? = some (some d)) (hB : ∀ σ v H2, Md W [] H H2 → Cn W S δ σ H2 → σ[j]? = some (some v) → Rp W (off S H2) d v → El σ v H2 n pb)
    (q : Φ (.bl ((List.range n).any pb)) S H) : Ew W E (tAnyG Pt El (tVar j)) δ S H Φ X := fun σ H1 Q m c o ex => by
  obtain ⟨v, e, r⟩ := c.env.get hd
  refine ⟨v, e, c.tg Pt hT, n, pb, hB σ v H1 m c e r, fun H3 ht => ?_⟩
  have mt := md_tab (c.tg Pt hT) ht hL
  have tt := c.md mt
  exact o _ _ S H H3 q (m.trans mt) tt (c.nil.tr tt) (.bl _)
/-- a list or a tuple of texts -/
def strsD (ys : List Str) (d : Dv) : Prop := d = .lst (ys.map .str) ∨ d = .tup (ys.map .str)
theorem elS_of {j : Nat} {f : Str → Str → Bool} {ys : List Str} {y0 : Str} {d : Dv} {σ : L2.St} {v : V} {H2 : Hp} {pb : Nat → Bool} (hd : strsD ys d) (r : Rp W (off S H2) d v) (hj : σ[j]? = some (some v)) (h0 : ys[0]? = some y0) (hs : ∀ y ∈ ys, y.length ≤ sizeLine) (hp : ∀ i y, ys[i]? = some y → pb i = f y y0) : ElS W.K j f σ v H2 ys.length pb := by
  rcases hd with e | e
  · subst e
    cases r with
    | lst h ra =>
      rw [ra.strs] at h
      exact ⟨_, ys, y0, rfl, .inl (sqL_off h), h0, hj, rfl, hs, hp⟩
  · subst e
    cases r with
    | tup h ra =>
      rw [ra.strs] at h
      exact ⟨_, ys, y0, rfl, .inr ((off_lq S H2).sqT h), h0, hj, rfl, hs, hp⟩
end
end Gz

/-! Slices, counts and places over lists of signs. -/
namespace Dw
open PySem PySem.Spec PyProof.Rows L2
/-- a text of one sign -/
def sg1 (c : Nat) : Str := ⟨#[c]⟩
def sgD (c : Nat) : Dv := .str (sg1 c)
theorem sg1_ok {c : Nat} (h : c < 1114112) : PyData.strOk (sg1 c) = true := by
  unfold PyData.strOk sg1
  simpa using h
theorem cut_take {xs : List Dv} {n : Nat} : cutD xs none (some (n : Int)) = xs.take n := by
  unfold cutD
  rw [HT.sIx_none, HT.sIx_nat, List.drop_zero, Nat.sub_zero]
  exact List.take_eq_take_iff.mpr (by omega)
theorem cut_drop {xs : List Dv} {n : Nat} : cutD xs (some (n : Int)) none = xs.drop n := by
  unfold cutD
  rw [HT.sIx_none, HT.sIx_nat]
  by_cases h : n ≤ xs.length
  · rw [Nat.min_eq_left h]
    refine List.take_of_length_le ?_
    rw [List.length_drop]
    exact Nat.le_refl _
  · rw [Nat.min_eq_right (by omega), List.drop_of_length_le (Nat.le_refl _), List.drop_of_length_le (by omega), List.take_nil]
theorem eqF_sg (c q : Nat) : eqF (sgD c) (sgD q) = (c == q) := by
  show ((sg1 c) == (sg1 q)) = (c == q)
  by_cases h : c = q
  · subst h
    simp
  · have h2 : sg1 c ≠ sg1 q := fun e => h (by unfold sg1 at e; injection e with e; simpa using e)
    rw [beq_eq_false_iff_ne.mpr h2, beq_eq_false_iff_ne.mpr h]
theorem count_sg (q : Nat) (col : List Nat) : (col.map sgD).countP (fun z => eqF z (sgD q)) = col.count q := by
  rw [List.countP_map, List.count_eq_countP]
  congr 1
  funext c
  exact eqF_sg c q
theorem index_sg {q : Nat} {col : List Nat} (h : q ∈ col) : (col.map sgD).findIdx? (fun z => eqF z (sgD q)) = some (col.idxOf q) := by
  rw [List.findIdx?_map]
  have e : ((fun z => eqF z (sgD q)) ∘ sgD) = fun c => c == q := by funext c; exact eqF_sg c q
  rw [e]
  show col.findIdx? (· == q) = some (col.findIdx (· == q))
  exact List.findIdx?_eq_some_of_exists ⟨q, h, by simp⟩
theorem flat_sg (col : List Nat) : (col.map sgD).all flatD = true := by
  rw [List.all_map, List.all_eq_true]
  intro c _
  rfl
end Dw

/-! Lambdas as values: made anywhere, known by an object of their own, called by a def that catches. -/
namespace Lm
open PySem PySem.Spec PyProof.Rows L2 LamX

/-- a lambda's function object -/
def LamO (F : Addr) (q : Str) (params : Arguments) (body : Expr) (scope : Scope) (cl : List (Str × Addr)) (c' : Addr) : HO :=
  .ext fun h => ∃ pm ctv, h.get? F = some (PySem.W.kla_obj "<lambda>" q params body scope cl pm c' ctv)
/-- the body's term, wherever the lambda of X is called with room k -/
structure BodyOk (X : Cx) (k : Nat) (params : Arguments) (body : Expr) (scope : Scope) (t : XK → TE) : Prop where
  L : LamS X.env.scope scope
  bind : ∀ (q : Str) (cl : List (Str × Addr)) (pm cv ctv : Value), bindArgs (PySem.W.kla_fn "<lambda>" q params body scope cl pm cv ctv) ⟨[], []⟩ = pure []
  run : ∀ (A : Around) (outer : List Env) (s : Shared) (H : Hp) (E : XK) (f c' : Addr), Room k (A.deeper (lamEnv X scope s.heap.objs.size f c')) → PE (lamCx X A outer s H E scope f c') body (t E)
abbrev qualL (X : Cx) : Str := X.env.qual ++ "<lambda>"
def LamR (X : Cx) (k : Nat) (G : Hp) (F : Addr) (t : XK → TE) : Prop := ∃ (params : Arguments) (body : Expr) (scope : Scope) (c' : Addr),
  G F = some (LamO F (qualL X) params body scope (cloFrom X.env.cells scope.names []) c') ∧ G c' = some (CodeO c' (qualL X)) ∧ BodyOk X k params body scope t
theorem LamR.ext {X : Cx} {k : Nat} {G G' : Hp} {F : Addr} {t : XK → TE} (r : LamR X k G F t) (l : Dw.Lq G G') : LamR X k G' F t := by
  obtain ⟨p, b, sc, c', h1, h2, h3⟩ := r
  exact ⟨p, b, sc, c', l _ _ h1 (fun _ z => by unfold LamO at z; cases z), l _ _ h2 (fun _ z => by unfold CodeO at z; cases z), h3⟩
/-- the heap behind the making: only the table at P has grown -/
structure Gro (P : Addr) (q : Str) (F : Addr) (H H' : Hp) : Prop where
  keep : ∀ b o, H b = some o → b ≠ P → H' b = some o
  tab : TabS H' P q
  fresh : H F = none
def tLamV (X : Cx) (k : Nat) (P : Addr) (t : XK → TE) : TE := fun σ H Q => TabS H P (qualL X) ∧ ∀ F H', Gro P (qualL X) F H H' → LamR X k H' F t → Q (.ref F) H'
section
variable {X : Cx} {pins : List (Addr × Obj)} {σ : L2.St} {H : Hp} {s : Shared}
/-- the function object laid: known from now on -/
theorem lay_fn {h' : Heap} {t' : Nat} {q : Str} {params : Arguments} {body : Expr} {scope : Scope} {cl : List (Str × Addr)} {pm ctv : Value} {c' : Addr} (I : Inv X pins σ H { s with heap := h', toks := t' }) :
    Inv X pins σ (upd H h'.objs.size (LamO h'.objs.size q params body scope cl c')) { s with heap := h'.push (PySem.W.kla_obj "<lambda>" q params body scope cl pm c' ctv), toks := t' } := by
  have e := Heap.get?_push_size h' (o := PySem.W.kla_obj "<lambda>" q params body scope cl pm c' ctv) rfl
  have I' := I.laid (a := h'.objs.size) (o := LamO h'.objs.size q params body scope cl c') (t' := t') (h' := h'.push (PySem.W.kla_obj "<lambda>" q params body scope cl pm c' ctv)) (fun b u eb => Heap.get?_push_of_some _ eb) (Nat.le_refl _)
    ⟨⟨pm, ctv, e⟩, ⟨_, e⟩, fun h1 h2 ⟨pm, ctv, a⟩ st => ⟨pm, ctv, st _ a⟩⟩
  exact I'
theorem pe_lamV {k : Nat} {c P : Addr} {params : Arguments} {body : Expr} {scope : Scope} {pos : Pos} {t : XK → TE} (TB : TabB X.base X.mg c P) (hcode : X.env.code = .ref c) (hdef : defaultsOf params X.env = ([], [])) (B : BodyOk X k params body scope t) :
    PE X (.Lambda params body scope pos) (tLamV X k P t) := by
  refine ⟨fun pins s σ H Q I h => ?_⟩
  obtain ⟨⟨ps, hP, ht, ha⟩, hq⟩ := h
  refine PySem.W.kla_eval hdef ?_
  have P' : s.heap.get? P = some { cls := .none, data := .fields ps } := I.hok P _ hP
  have clo := closure_ok (B.L.has I.ok)
  have glo := I.mod.glob.keeps I.bk
  have bP := TB.bm.keeps I.bk
  cases hc : codeAmong pos ps.toList with
  | some cv =>
    obtain ⟨c', rfl, hco⟩ := ha pos cv hc
    refine PySem.W.kla_makeFunctionHit (mg := X.mg) clo I.ok.glob glo hcode (TB.code.keeps I.bk) P' ht hc bP (fun ctv h' tk hx hsz => ?_)
    have I1 : Inv X pins σ H { s with heap := h', toks := tk } := I.kept hx
    have nF : H h'.objs.size = none := I.hok.fresh hsz
    have nPF : P ≠ h'.objs.size := ne_of_none hP nF
    refine ⟨.ref h'.objs.size, _, lay_fn I1, rfl, hq _ _ ⟨fun b o e _ => ?_, ?_, nF⟩ ⟨params, body, scope, c', upd_same, ?_, B⟩⟩
    · rw [upd_ne (ne_of_none e nF)]; exact e
    · exact TabS.ext ⟨ps, hP, ht, ha⟩ fun b o e => by rw [upd_ne (ne_of_none e nF)]; exact e
    · rw [upd_ne (ne_of_none hco nF)]; exact hco
  | none =>
    refine PySem.W.kla_makeFunction (mg := X.mg) clo I.ok.glob glo hcode (TB.code.keeps I.bk) P' ht hc TB.gP bP (fun c' ctv h' tk hx hge hlt hrec htb => ?_)
    obtain ⟨c2, oc, vs, tt, e2, hoc, hd, hv⟩ := hrec
    cases e2
    have nC : H c' = none := I.hok.fresh hge
    have nPc : P ≠ c' := ne_of_none hP nC
    have I1 := inv_table (t' := tk) (q := qualL X) (more := #[rawInt pos.line, rawInt pos.col, .ref c']) (h' := h') I hP hx htb hge ⟨oc, vs, tt, hoc, hd, hv⟩
    have nF : upd (upd H P (.tbl (ps ++ #[rawInt pos.line, rawInt pos.col, .ref c']))) c' (CodeO c' (qualL X)) h'.objs.size = none := I1.hok.fresh (Nat.le_refl _)
    have sz : s.heap.objs.size ≤ h'.objs.size := Nat.le_trans hge (Nat.le_of_lt hlt)
    have nF0 : H h'.objs.size = none := I.hok.fresh sz
    have kp : ∀ b o, H b = some o → b ≠ P → upd (upd H P (.tbl (ps ++ #[rawInt pos.line, rawInt pos.col, .ref c']))) c' (CodeO c' (qualL X)) b = some o := fun b o e n => by
      rw [upd_ne (ne_of_none e nC), upd_ne n]; exact e
    have tab : TabS (upd (upd H P (.tbl (ps ++ #[rawInt pos.line, rawInt pos.col, .ref c']))) c' (CodeO c' (qualL X))) P (qualL X) := by
      refine ⟨ps ++ #[rawInt pos.line, rawInt pos.col, .ref c'], by rw [upd_ne nPc, upd_same], ?_, fun p' cv hcv => ?_⟩
      · rw [Array.toList_append]; exact PySem.TriplesOk_snoc _ _ _ _ ht
      · rw [Array.toList_append] at hcv
        rcases among_app _ ht hcv with z | z
        · obtain ⟨c0, e1, e2⟩ := ha p' cv z
          refine ⟨c0, e1, kp _ _ e2 fun z => ?_⟩
          rw [z, hP] at e2
          exact codeO_ne ps (Option.some.inj e2).symm
        · exact ⟨c', z, upd_same⟩
    refine ⟨.ref h'.objs.size, _, lay_fn I1, rfl, hq _ _ ⟨fun b o e n => ?_, ?_, nF0⟩ ⟨params, body, scope, c', upd_same, ?_, B⟩⟩
    · rw [upd_ne (ne_of_none e nF0)]; exact kp b o e n
    · exact tab.ext fun b o e => by rw [upd_ne (ne_of_none e nF)]; exact e
    · rw [upd_ne (Nat.ne_of_lt hlt), upd_same]

/-- x(), in the def that got the lambda -/
theorem pe_actV {CXg : CXT} {Eg : XK} {Ng : List Str} {qg : Str} {sg : Scope} {g F c' : Addr} {cdg : Value} {params : Arguments} {body : Expr} {scope : Scope} {k i : Nat} {a : Str} {pn : List (Addr × Obj)} {xe : Value → Shared → Prop} {W : WX} {E : XK} {t : XK → TE} {p1 p2 : Pos}
    (I : Inv X pins σ H s) (B : BodyOk X k params body scope t)
    (tk : Takes ((cxOf CXg X.prog X.w X.K X.mg X.base Ng qg sg g cdg X.A X.stack s H Eg).tr pn xe) W) (hW : ∀ cls d σ' H', E cls d H' → W cls d σ' H') (hr : Room (k + 1) (X.A.deeper (envOfC qg sg s.heap.objs.size g cdg)))
    (hN : Ng[i]? = some a) (hv : Vis sg a) (hd : (a == ("__debug__" : Str)) = false := by decide) (hcd : (a == ("__classdict__" : Str)) = false := by decide) :
    PE ((cxOf CXg X.prog X.w X.K X.mg X.base Ng qg sg g cdg X.A X.stack s H Eg).tr pn xe) (.Call (.Name a p1) [] [] p2)
      (fun σZ HZ Q => σZ[i]? = some (some (.ref F)) ∧ HZ c' = some (CodeO c' (qualL X)) ∧ (HZ F = some (LamO F (qualL X) params body scope (cloFrom X.env.cells scope.names []) c') ∧ t E σ HZ Q)) := by
  refine ⟨fun pinsZ sZ σZ HZ Q IZ h => ?_⟩
  obtain ⟨hs, hc, hF, ht⟩ := h
  have hname := (pe_var (X := (cxOf CXg X.prog X.w X.K X.mg X.base Ng qg sg g cdg X.A X.stack s H Eg).tr pn xe) (pos := p1) (i := i) hN hv hd hcd).run pinsZ sZ σZ HZ (fun v H1 => v = .ref F ∧ H1 = HZ) IZ ⟨.ref F, hs, rfl, rfl⟩
  refine wpAny_Call_Name_kw (thn hname fun u s1 hu => ?_)
  obtain ⟨v, H1, I1, r1, rfl, rfl⟩ := hu
  obtain rfl : u = Value.ref F := r1
  obtain ⟨⟨pm, ctv, of1⟩, _, _⟩ := I1.hok F _ hF
  obtain ⟨⟨oc, vs, tt, hoc, hdc, hvc⟩, _, _⟩ := I1.hok c' _ hc
  have un : Un (frs X.stack) [] H H1 s.heap s1.heap := I1.base
  refine PySem.W.callWith_F0 ⟨_, _, _, _, of1⟩ ?_
  have rc : codeAny (model X.prog X.w) (X.A.deeper (envOfC qg sg s.heap.objs.size g cdg)) (.call (.ref F) ⟨[], []⟩) (CR (L2.CX X.prog X.w) (envOfC qg sg s.heap.objs.size g cdg :: X.stack) X.prog X.w H1 s1 Q E) s1 := by
    refine PySem.W.kla_callFunE hr.depth of1 rfl B.L.co B.L.gen rfl ⟨c', oc, vs, tt, rfl, hoc, hdc, hvc⟩ ?_
    rw [B.bind]
    refine wpAny_pure (wpAny_newFunctionEnv (fun y hy => (B.L.own y hy).2) (fun y hy => absurd hy (by simp)) (fun h₁ hns hsb => ⟨I1.nolimit.fresh _ hsb, ?_⟩) B.L.kind)
    show codeAny _ _ (.expr body (lamEnv X scope s1.heap.objs.size F c')) _ _
    have J := lam_start2 (A := X.A.deeper (envOfC qg sg s.heap.objs.size g cdg)) (outer := envOfC qg sg s.heap.objs.size g cdg :: X.stack) (E := E) (scope := scope) (f := F) (c' := c') (h₁ := h₁) (tk := s1.toks + ([] : List (Str × Value)).length) I B.L I1.env0 hr.hd un hns
      (fun b o e => hsb.extBut b o (Nat.ne_of_lt (Heap.lt_size e)) (Heap.get?_push_of_some _ e))
    refine PySem.W.kla_codeExpr (wpAny_mono ((B.run _ _ s1 H1 E F c' (hr.deeper _)).run [] _ _ H1 Q J ht) (fun v s' hq => ?_) fun e s' hq => hq)
    obtain ⟨w', H', J', rv, q⟩ := hq
    exact ⟨w', H', J'.os, J'.bare, J'.base, J'.hok, rv, q⟩
  have hx := passes_call tk hW
  refine wpAny_call (codeAny_mono rc fun r s' hq => ?_)
  cases r with
  | error e => exact hx pinsZ σZ H1 s1 e s' I1 hq
  | ok fl =>
    cases fl with
    | ret u => exact I1.after hq
    | next => exact False.elim hq
    | brk => exact False.elim hq
    | cont => exact False.elim hq
/-- the def that calls what it gets, and catches -/
structure Told (K : PySem.W.Frag) (mg : Str → Option Value) (x ret : Str) (g CS : Addr) : Prop where
  hm : mg x = some (.ref g)
  kp : PySem.W.keepIn K (.ref g) = true
  ex : ∃ (pg : Arguments) (sg : Scope) (dV kV doc pm cdv ct oc : Value) (an od : Option Addr) (osl : Array (Option Value)) (a e : Str) (j : Nat) (p1 p2 p3 p4 p5 p6 p7 p8 : Pos),
    K.lookup g = some ⟨oc, od, .func (PySem.W.fnOf x x pg [.Try [.Return (some (.Call (.Name a p1) [] [] p2)) p3] [.ExceptHandler (some (.Name e p4)) none [.Return (some (.Constant (.str ret) j p5)) p6] p7] [] [] p8] sg dV kV doc pm an cdv ct), osl⟩ ∧
    PySem.W.codeIn K cdv x = true ∧ L2.Binds K (PySem.W.fnOf x x pg [.Try [.Return (some (.Call (.Name a p1) [] [] p2)) p3] [.ExceptHandler (some (.Name e p4)) none [.Return (some (.Constant (.str ret) j p5)) p6] p7] [] [] p8] sg dV kV doc pm an cdv ct) [a] [] ∧
    FnScope [a] [a] sg ∧ Vis sg a ∧ sg.names.lookup e = some .globalImplicit ∧ mg e = some (.ref CS) ∧ (e == ("__debug__" : Str)) = false ∧ (a == ("__debug__" : Str)) = false ∧ (a == ("__classdict__" : Str)) = false
theorem told_run {k : Nat} {x ret : Str} {g CS F : Addr} {t : XK → TE} {Q : VK} (I : Inv X pins σ H s) (T : Told X.K X.mg x ret g CS) (hr : Room (k + 2) X.A) (R : LamR X k H F t)
    (h : TTold X.K CS ret (fun E H' Q' => t E σ H' Q') H Q) : codeAny (model X.prog X.w) X.A (.call (.ref g) ⟨[.ref F], []⟩) (CR C8.CX0 X.stack X.prog X.w H s Q C8.E0) s := by
  obtain ⟨pg, sg, dV, kV, doc, pm, cdv, ct, oc, an, od, osl, a, e, j, p1, p2, p3, p4, p5, p6, p7, p8, lk, hcg, hb, Sg, hva, hge, hme, hde, hda, hdc⟩ := T.ex
  obtain ⟨params, body, scope, c', hF, hco, B⟩ := R
  refine run_ofS (N := [a]) (ps := [a]) (us := [.ref F]) (vs := [.ref F]) lk hcg Sg hr I.env0 (hb s [.ref F] I.kIn rfl) (.cons rfl .nil) rfl fun hr' => ?_
  have G := told_gives (X := X) (Ng := [a]) (x := x) (a := a) (e := e) (q := qualL X) (ret := ret) (sg := sg) (g := g) (CS := CS) (cdg := cdv) (j := j) (p1 := p1) (p2 := p2) (p3 := p3) (p4 := p4) (p5 := p5) (p6 := p6) (p7 := p7) (p8 := p8) hge hme hde (fun f => rfl)
  obtain ⟨t', ht', hq'⟩ := G F c' s H Q (fun E H' Q' => H' F = some (LamO F (qualL X) params body scope (cloFrom X.env.cells scope.names []) c') ∧ t E σ H' Q') (fun W pn xe E q1 q2 tk hW => pe_actV (i := 0) I B tk hW hr' rfl hva hda hdc) hco ⟨hF, h⟩
  exact ⟨t', ht'.nox, hq'⟩
def tToldV (X : Cx) (k : Nat) (CS : Addr) (ret : Str) (te : TE) : TE := fun σ H Q => te σ H fun v H1 => ∃ F t, v = .ref F ∧ LamR X k H1 F t ∧ TTold X.K CS ret (fun E H' Q' => t E σ H' Q') H1 Q
theorem told_end {x : Str} {g : Addr} {v : Value} {Q : VK} {H1 : Hp} {s' : Shared} (I1 : Inv X pins σ H1 s') (rc : codeAny (model X.prog X.w) X.A (.call (.ref g) ⟨[v], []⟩) (CR C8.CX0 X.stack X.prog X.w H1 s' Q C8.E0) s') :
    wpAny (model X.prog X.w) X.A (call (.ref g) [v]) (EP X pins σ Q) X.xe s' := by
  refine wpAny_call (codeAny_mono rc fun r s2 hq => ?_)
  cases r with
  | error e => exact (show False from hq).elim
  | ok fl =>
    cases fl with
    | ret u => exact I1.after hq
    | next => exact False.elim hq
    | brk => exact False.elim hq
    | cont => exact False.elim hq
end
end Lm

/-! told(x), told(lambda: ..); a comprehension that keeps nothing. -/
namespace Lm
open PySem PySem.Spec PyProof.Rows L2 LamX
section
variable {X : Cx}
theorem pe_toldV {k : Nat} {x ret : Str} {g CS : Addr} {e : Expr} {te : TE} {p pos : Pos} (T : Told X.K X.mg x ret g CS) (hg : Gl X x) (hr : Room (k + 2) X.A) (he : PE X e te)
    (hst : starEach [e] X.env = (false, eval e X.env) :: starEach [] X.env := by rfl) (hdb : (x == ("__debug__" : Str)) = false := by decide) :
    PE X (.Call (.Name x p) [e] [] pos) (tToldV X k CS ret te) := by
  refine ⟨fun pins s σ H Q I h => ?_⟩
  refine wpAny_Call_Name_kw (ld_glob I hg T.hm ?_ hdb)
  refine PySem.W.callWith_K (h₀ := X.base) I.ok.mod.kin T.kp ?_ hst rfl
  rw [hst]
  show wpAny _ _ (spliced ((false, eval e X.env) :: backTo pos (starEach [] X.env))) _ _ s
  refine Calls.spliced_cons (thn (he.run pins s σ H _ I h) fun u s1 hu => ?_)
  obtain ⟨v, H1, I1, r1, F, t, rfl, R, q⟩ := hu
  obtain rfl : u = Value.ref F := r1
  refine Calls.spliced_nil ⟨I1.kIn, ?_⟩
  exact told_end (x := x) I1 (told_run I1 T hr R q)
/-- the test of a comprehension's block, with the def's own state at hand: u the slots ahead of the block -/
abbrev BlkT (X : Cx) (scope : Scope) (ifs : List Expr) (tt : L2.St → TT) : Prop := ∀ (pins : List (Addr × Obj)) (σ : L2.St) (s : Shared) (H : Hp), Inv X pins σ H s → ∀ (C : Addr) (cl : List (Str × Addr)) (fp : List Addr),
  (∀ pins2 σ2 H2 s2, Inv (X.blk s H scope (compEnvC scope cl C X.env) fp) pins2 σ2 H2 s2 → Inv X pins σ H2 s2) → PTs (X.blk s H scope (compEnvC scope cl C X.env) fp) ifs (tt σ)
/-- [elt for target in iter if test], where no test holds -/
def tLcN (wi : TI) (g : TG) (tt : L2.St → TT) (vs : List Nat) : TE := fun σ H Q => wi σ H fun J H1 => ∀ D, H1 D = none → ∃ W : Nat → Nat → Hp → Prop, (∃ m, W 0 m (upd H1 D (.lst []))) ∧ ∀ i m H, W i m H →
  (J.stop i H ∧ Q (.ref D) H) ∨ (J.go i H ∧ ∃ Nx : Hp → Prop, (∀ H', Nx H' → ∃ m', m' < m ∧ W (i + 1) m' H') ∧ ∀ x H', J.yld i H x H' → g x (wipe σ vs) H' fun σ2 H2 => wipe σ2 vs = wipe σ vs ∧ tt σ σ2 H2 fun b H3 => b = false ∧ Nx H3)
theorem pe_lcN {elt tg iter : Expr} {ifs : List Expr} {scope : Scope} {own : List (Str × Nat)} {pos : Pos} {wi : TI} {g : TG} {tt : L2.St → TT} (hc : X.calm = true) (hN : X.N.Nodup) (hi : PI X tg iter wi) (ok : BlkOk X.N X.env.scope scope own)
    (hg : ∀ (s : Shared) (H : Hp) (C : Addr) (cl : List (Str × Addr)) (fp : List Addr), PG (X.blk s H scope (compEnvC scope cl C X.env) fp) tg g) (ht : BlkT X scope ifs tt) (hs : ∀ x, foldedSetIterable iter X.env x = pure x := by intro _; rfl) :
    PE X (.ListComp elt [⟨tg, iter, ifs, 0⟩] scope pos) (tLcN wi g tt (own.map (·.2))) := by
  refine ⟨fun pins s σ H Q I h => ?_⟩
  rw [eval_ListComp]
  have fr : ∀ y ∈ scope.names, y.2 = .free → ∃ c, X.env.cells.lookup y.1 = some c := fun y hy e =>
    (ok.free y hy e).elim (fun k => I.ok.has _ (.inl k)) fun k => I.ok.has _ (.inr k)
  refine wpAny_comprehension_free rfl hs (closure_ok fr) ok.kind (fun y hy e => by rw [ok.uniq y hy, e]) (thn (hi.run pins s σ H _ I h) fun xv s1 hx => thn hx fun itv s2 h2 => ?_)
  obtain ⟨it, fp, tn, J, H2, rfl, I2, T, st2, f2, q⟩ := h2
  refine wpAny_newObj_type (newEnv_comp ?_) (by show 0 ≤ sizeLine; decide)
  have hDn : H2 s2.heap.objs.size = none := I2.hok.fresh (Nat.le_refl _)
  obtain ⟨W, ⟨m0, w0⟩, turn⟩ := q _ hDn
  have I3 : Inv X pins σ (upd H2 s2.heap.objs.size (.lst [])) { s2 with heap := s2.heap.push { cls := .type "list", data := .seq ([] : List Value).toArray } } :=
    I2.laid (t' := s2.toks) (fun b o e => Heap.get?_push_of_some _ e) (Nat.le_refl _) ⟨Nat.zero_le _, [], 0, .nil, Heap.get?_push_size _ rfl⟩
  have f3 : ∀ b ∈ fp, FpOk X pins (upd H2 s2.heap.objs.size (.lst [])) b ∧ b < (s2.heap.push { cls := .type "list", data := .seq ([] : List Value).toArray }).objs.size := fun b hb => by
    obtain ⟨o, e, _⟩ := T.obj _ _ st2 b hb
    have lt := Heap.lt_size e
    refine ⟨⟨by rw [upd_ne (Nat.ne_of_lt lt)]; exact (f2 b hb).1, (f2 b hb).2⟩, by rw [Heap.size_push]; exact Nat.lt_succ_of_lt lt⟩
  have st3 : tn 0 (s2.heap.push { cls := .type "list", data := .seq ([] : List Value).toArray }) := T.keep _ _ _ st2 fun b _ o e => Heap.get?_push_of_some _ e
  generalize hD : s2.heap.objs.size = D at hDn w0 turn I3 f3 ⊢
  generalize hs3 : ({ s2 with heap := s2.heap.push { cls := .type "list", data := .seq ([] : List Value).toArray } } : Shared) = s3 at I3 ⊢
  have h3 : s3.heap = s2.heap.push { cls := .type "list", data := .seq ([] : List Value).toArray } := by rw [← hs3]
  rw [← h3] at f3 st3
  generalize hH3 : upd H2 D (.lst []) = H3 at I3 w0 f3
  have I4 := block_start I3 ok hN f3
  have nfp : ∀ b ∈ fp, H3 b = none := fun b hb => (f3 b hb).1.1
  have back : ∀ (cl : List (Str × Addr)) (C : Addr) pins2 σ2 H2 s2, Inv (X.blk s3 H3 scope (compEnvC scope cl C X.env) fp) pins2 σ2 H2 s2 → Inv X pins σ H2 s2 := fun cl C _ _ _ _ I' =>
    I3.call' (ch := fp) I'.os I'.base I'.hok I'.bare fun b hb => ⟨(f3 b hb).1.2.2.2.1, (f3 b hb).1.2.1, (f3 b hb).1.2.2.2.2.1, (f3 b hb).1.2.2.2.2.2⟩
  show codeAny _ _ (.compStart (.ListComp elt [⟨tg, iter, ifs, 0⟩] scope pos) 0 (.ref it) (.ref D) (compEnvC scope (cellsFrom (s3.heap.objs.size + 1) scope.names (cloFrom X.env.cells scope.names [])) s3.heap.objs.size X.env)) _ { s3 with heap := pushCells (s3.heap.push { cls := .type "dict", data := .dict #[] }) scope.names }
  have st4 : tn 0 (pushCells (s3.heap.push { cls := .type "dict", data := .dict #[] }) scope.names) := T.keep _ _ _ st3 fun b _ o e => pushCells_keeps _ _ _ _ (Heap.get?_push_of_some _ e)
  generalize hs4 : ({ s3 with heap := pushCells (s3.heap.push { cls := .type "dict", data := .dict #[] }) scope.names } : Shared) = s4 at I4 ⊢
  have st4 : tn 0 s4.heap := by rw [← hs4]; exact st4
  generalize hcl : cellsFrom (s3.heap.objs.size + 1) scope.names (cloFrom X.env.cells scope.names []) = cl at I4 ⊢
  have pg := hg s3 H3 s3.heap.objs.size cl fp
  have pt := ht pins σ s3 H3 I3 s3.heap.objs.size cl fp (back cl _)
  have back := back cl s3.heap.objs.size
  have hB : ∀ {ce : Env}, ce = compEnvC scope cl s3.heap.objs.size X.env → ce.locals = s3.heap.objs.size := fun e => by rw [e]; rfl
  generalize hce : compEnvC scope cl s3.heap.objs.size X.env = ce at I4 pg pt back ⊢
  have cL := hB hce.symm
  have still : ∀ {σ' : L2.St} {H' : Hp} {s' : Shared}, Inv (X.blk s3 H3 scope ce fp) [] σ' H' s' → (∀ b ∈ fp, H' b = none) → ∀ b ∈ fp, FpOk (X.blk s3 H3 scope ce fp) [] H' b := fun {σ' H' s'} I' n b hb =>
    have z := I'.ok.exf b hb
    ⟨n b hb, z.1, I'.ok.exfs b hb, .inl hb, fun x c e => z.2 x c e, fun p hp => absurd (show p ∈ ([] : List (Addr × Obj)) ++ [] from hp) (by simp)⟩
  have loop : codeAny (model X.prog X.w) X.A (.compLoop (.ListComp elt [⟨tg, iter, ifs, 0⟩] scope pos) 0 (.ref it) (.ref D) ce) (compPost (model X.prog X.w) X.A X.xe none (EP X pins σ Q) (.ref D) s3.heap.objs.size) s4 := by
    refine compLoop_any (fun n s' => ∃ i H', Inv (X.blk s3 H3 scope ce fp) [] (wipe σ (own.map (·.2))) H' s' ∧ tn i s'.heap ∧ (∀ b ∈ fp, H' b = none) ∧ W i n H') ?_ m0 ⟨0, H3, I4, st4, nfp, w0⟩
    rintro n s5 ⟨i, H5, I5, st5, n5, w5⟩
    rcases turn i n H5 w5 with ⟨stop, qq⟩ | ⟨go, Nx, hNx, step⟩
    · refine thnF (T.done (X.blk s3 H3 scope ce fp) rfl rfl rfl hc i [] s5 _ H5 (fun _ _ => False) I5 (still I5 n5) st5 stop) fun r s6 h6 => ?_
      obtain ⟨rfl, I6⟩ := h6
      have I7 := back _ _ _ _ I6
      have nC : H5 ce.locals = none := I6.free
      obtain ⟨m, hn, _⟩ := I6.loc
      have hn : s6.heap.Ns ce.locals m := hn
      rw [cL] at hn nC
      refine ⟨m, hn, fun h'' sb => ?_⟩
      obtain ⟨f0, f1, f2, f3, f4, f5⟩ := I3.fpOk (H' := H5) (Nat.le_refl _) nC
      exact ⟨.ref D, H5, I7.turned (t' := s6.toks) (fun b o hb e => (sb.2 b hb).trans e) f0 f1 f3 f4 f5, rfl, qq⟩
    · refine thnF (T.item (X.blk s3 H3 scope ce fp) rfl rfl rfl hc i [] s5 _ H5 (fun _ _ => False) I5 (still I5 n5) st5 go) fun r s6 h6 => ?_
      obtain ⟨u, rfl, h6⟩ := h6
      refine thnF h6 fun _ s7 h7 => ?_
      obtain ⟨x, H7, I7, r7, y7, st7, n7⟩ := h7
      refine thnF (pg.run _ s7 _ H7 x u _ (I7.pinned (still I7 n7) (T.obj _ _ st7)) r7 (step x H7 y7)) fun _ s8 h8 => ?_
      obtain ⟨σ8, H8, I8, hw8, q8⟩ := h8
      refine thnF (pt.run _ s8 σ8 H8 _ I8 q8) fun b s9 h9 => ?_
      obtain ⟨H9, I9, rfl, nx⟩ := h9
      simp only [Bool.false_eq_true, if_false]
      obtain ⟨m', hm, w'⟩ := hNx H9 nx
      have pin' : ∀ b ∈ fp, ∀ o, s7.heap.get? b = some o → s9.heap.get? b = some o ∧ H9 b = none := fun b hb o e =>
        let z := I9.pin (b, o) (List.mem_append_right _ (List.mem_append_right _ (mem_pinsAt hb e)))
        ⟨z.1, z.2.1⟩
      refine ⟨m', hm, i + 1, H9, (I9.unpinned (pins := [])).weak (by rw [← hw8, wipe_length]) (fun j v e => ?_), T.keep _ _ _ st7 fun b hb o e => (pin' b hb o e).1, fun b hb => ?_, w'⟩
      · rw [← hw8] at e
        exact (wipe_some e).1
      · obtain ⟨o, e, _⟩ := T.obj _ _ st7 b hb
        exact (pin' b hb o e).2
  exact codeAny_compStart_list loop (T.self X.A 0 _ _ _ st4 loop)
end
end Lm

/-! Lambdas over data. -/
namespace Lm
open PySem PySem.Spec PyProof.Rows L2 LamX Dw
section
variable {X : Cx} {W : Wd} {E : XK} {δ : Dn} {S S' : List Addr} {H H' : Hp} {Φ : Ph} {Y : Px} {k : Nat} {F P : Addr} {t : XK → TE}
theorem LamR.md (r : LamR X k H F t) (m : Md W S H H') : LamR X k H' F t := by
  obtain ⟨p, b, sc, c', h1, h2, h3⟩ := r
  exact ⟨p, b, sc, c', m.xt _ _ h1, m.xt _ _ h2, h3⟩
theorem md_gro {q : Str} (g : Gro P q F H H') (hP : TabS H P q) (hu : ∀ p ∈ W.TL, p.1 = P → p.2 = q) (hG : P ∉ W.TG) : Md W [] H H' := by
  obtain ⟨ps, hp, _⟩ := hP
  have nP : ∀ b o, H b = some o → nT o → b ≠ P := fun b o e n z => by
    rw [z, hp] at e
    cases e
    exact n ps rfl
  refine ⟨fun b o e _ n => g.keep b o e (nP b o e n), fun b o e => ?_, fun Q hQ ⟨qs, e, t⟩ => ⟨qs, g.keep _ _ e (fun z => hG (by rw [← z]; exact hQ)), t⟩, fun p hp2 hT => ?_, fun b φ e => g.keep b _ e (nP b _ e fun _ z => by cases z)⟩
  · by_cases hb : b = P
    · obtain ⟨qs, e2, _⟩ := g.tab
      exact ⟨_, by rw [hb]; exact e2⟩
    · exact ⟨o, g.keep b o e hb⟩
  · by_cases hb : p.1 = P
    · rw [hb, hu p hp2 hb]
      exact g.tab
    · obtain ⟨qs, a1, a2, a3⟩ := hT
      refine ⟨qs, g.keep _ _ a1 hb, a2, fun pos cv hc => ?_⟩
      obtain ⟨c0, e1, e2⟩ := a3 pos cv hc
      exact ⟨c0, e1, g.keep _ _ e2 (nP _ _ e2 fun _ z => by unfold CodeO at z; cases z)⟩
theorem ew_lamV (hT : (P, qualL X) ∈ W.TL) (hu : ∀ p ∈ W.TL, p.1 = P → p.2 = qualL X) (hG : P ∉ W.TG) (q : ∀ F H2, Md W [] H H2 → H F = none → LamR X k H2 F t → Φ (.adr F) S H2) :
    Ew W E (tLamV X k P t) δ S H Φ Y := fun σ H1 Q m c o _ => ⟨c.tl _ hT, fun F H' g r => by
  have mg := md_gro (W := W) g (c.tl _ hT) hu hG
  exact o (.ref F) (.adr F) S H' H' (q F H' (m.trans mg) (m.free g.fresh) r) .refl (c.md mg) (c.nil.tr (c.md mg)) (.adr F)⟩
/-- what is wanted of a body that is called and caught -/
def catB (W : Wd) (CS : Addr) (ret : Str) (Φ : Ph) : Px := fun cls S' H' => PySem.W.exmOne W.K cls (.ref CS) = some true ∧ Φ (.str ret) S' H'
theorem ew_toldV {CS : Addr} {ret : Str} {te : TE} (hK : X.K = W.K) (h : Ew W E te δ S H (fun d S1 H1 => ∃ F t, d = .adr F ∧ LamR X k H1 F t ∧ ∀ E', Ew W E' (t E') δ S1 H1 Φ (catB W CS ret Φ)) Y) :
    Ew W E (tToldV X k CS ret te) δ S H Φ Y := fun σ H1 Q m c o ex =>
  h σ H1 _ m c (fun v d S1 G1 H2 ⟨F, t, e, R, hh⟩ m1 t1 c1 r1 => by
    subst e
    cases r1
    refine ⟨F, t, rfl, R.md m1, hh _ σ H2 Q m1 (c.tr t1) (o.tr t1) fun cls S' H' H3 ⟨e, q⟩ m3 t3 c3 => ⟨true, by rw [hK]; exact e, fun _ => (o.tr t1) _ _ S' H' H3 q m3 t3 c3 (.str _), fun z => by cases z⟩⟩) ex
/-- told(lambda: ..) -/
theorem ew_told {CS : Addr} {ret : Str} (hK : X.K = W.K) (hT : (P, qualL X) ∈ W.TL) (hu : ∀ p ∈ W.TL, p.1 = P → p.2 = qualL X) (hG : P ∉ W.TG) (h : ∀ E' H2, Md W [] H H2 → Ew W E' (t E') δ S H2 Φ (catB W CS ret Φ)) :
    Ew W E (tToldV X k CS ret (tLamV X k P t)) δ S H Φ Y :=
  ew_toldV hK (ew_lamV hT hu hG fun F H2 m _ r => ⟨F, t, rfl, r, fun E' => h E' H2 m⟩)
/-! ### lambdas in a list -/
def lamsA (X : Cx) (k : Nat) (P : Addr) : List (XK → TE) → TA
  | [] => tNil
  | t :: ts => tCons (tLamV X k P t) (lamsA X k P ts)
inductive LamsR (X : Cx) (k : Nat) (H : Hp) : List Addr → List (XK → TE) → Prop
  | nil : LamsR X k H [] []
  | cons {F : Addr} {t : XK → TE} {Fs : List Addr} {ts : List (XK → TE)} : LamR X k H F t → LamsR X k H Fs ts → LamsR X k H (F :: Fs) (t :: ts)
theorem LamsR.md {Fs : List Addr} {ts : List (XK → TE)} (r : LamsR X k H Fs ts) (m : Md W S H H') : LamsR X k H' Fs ts := by
  induction r with
  | nil => exact .nil
  | cons h _ ih => exact .cons (h.md m) ih
theorem LamsR.length {Fs : List Addr} {ts : List (XK → TE)} (r : LamsR X k H Fs ts) : Fs.length = ts.length := by
  induction r with
  | nil => rfl
  | cons _ _ ih => rw [List.length_cons, List.length_cons, ih]
theorem LamsR.at {Fs : List Addr} {ts : List (XK → TE)} (r : LamsR X k H Fs ts) {i : Nat} {d : Dv} (h : (Fs.map Dv.adr)[i]? = some d) : ∃ F, ∃ t ∈ ts, d = .adr F ∧ Fs[i]? = some F ∧ LamR X k H F t := by
  induction r generalizing i with
  | nil => simp at h
  | cons h1 r1 ih =>
    rename_i F t Fs ts
    cases i with
    | zero =>
      have e : Dv.adr F = d := by simpa using h
      subst e
      exact ⟨F, t, List.mem_cons_self, rfl, rfl, h1⟩
    | succ i =>
      obtain ⟨G, u, hu, e1, e2, e3⟩ := ih (i := i) (by simpa using h)
      exact ⟨G, u, List.mem_cons_of_mem _ hu, e1, by simpa using e2, e3⟩
theorem aw_lams (hT : (P, qualL X) ∈ W.TL) (hu : ∀ p ∈ W.TL, p.1 = P → p.2 = qualL X) (hG : P ∉ W.TG) : ∀ {ts : List (XK → TE)} {Φ : PhA} {S : List Addr} {H : Hp}, (∀ Fs H2, Md W [] H H2 → LamsR X k H2 Fs ts → Φ (Fs.map .adr) S H2) →
    Aw W E (lamsA X k P ts) δ S H Φ Y
  | [], Φ, S, H, q => aw_nil (q [] H .refl .nil)
  | t :: ts, Φ, S, H, q => aw_cons (ew_lamV hT hu hG fun F H2 m _ r => aw_lams hT hu hG fun Fs H3 m3 rs => q (F :: Fs) H3 (m.trans m3) (.cons (r.md m3) rs))
/-! ### a comprehension that keeps nothing -/
def Tw2 (W : Wd) (tt : L2.St → TT) (δ δ' : Dn) (S : List Addr) (H : Hp) : Prop := ∀ (σ0 σ : L2.St) (Q : Bool → Hp → Prop), Cn W S δ σ0 H → Cn W S δ' σ H → Bo W S H (fun b S3 H3 => S3 = S ∧ H3 = H ∧ b = false) Q → tt σ0 σ H Q
theorem ew_lcNone {wi : TI} {g : TG} {tt : L2.St → TT} {vs : List Nat} (h : Iw W E wi δ S H (fun ds st S1 H1 => ∃ δs : Nat → Dn, (∀ i d, ds[i]? = some d → Cg W g d vs δ (δs i)) ∧
      (∀ S2 H2, Up W S1 H1 S2 H2 → st S2 H2 ∧ (∀ i d, ds[i]? = some d → Tw2 W tt δ (δs i) S2 H2)) ∧ Φ (.lst []) S1 H1) Y) :
    Ew W E (tLcN wi g tt vs) δ S H Φ Y := fun σ H1 Q m c o ex => by
  refine h σ H1 _ m c (fun J ds st S1 G1 H2 ⟨δs, hg, hrun, q⟩ m1 t1 wk Dl hD => ?_) ex
  have c2 := c.tr t1
  have gD : G1 Dl = none := m1.free hD
  have upg : ∀ {Hx : Hp}, Md W [] G1 Hx → Up W S1 G1 (Dl :: S1) Hx := fun {Hx} mx => Up.cons mx gD
  refine ⟨fun i n H' => n = ds.length - i ∧ i ≤ ds.length ∧ Md W [] G1 H' ∧ Tr W S1 H2 (Dl :: S1) H' ∧ H' Dl = some (.lst []), ⟨_, rfl, Nat.zero_le _, m1.trans (Md.new hD), tr_grow c2.nil hD, upd_same⟩, ?_⟩
  rintro i n H' ⟨rfl, hi, mG, tr, hx⟩
  have c3 := c2.tr tr
  have w := wk i (Dl :: S1) H' H' tr c3.nil (hrun _ _ (upg mG)).1 .refl
  by_cases hlt : i < ds.length
  · have hd : ds[i]? = some ds[i] := List.getElem?_eq_getElem hlt
    refine .inr ⟨(w.1 _ hd).1, fun H' => i + 1 ≤ ds.length ∧ Md W [] G1 H' ∧ Tr W S1 H2 (Dl :: S1) H' ∧ H' Dl = some (.lst []), fun H4 ⟨a1, a2, a3, a4⟩ => ⟨_, by omega, rfl, a1, a2, a3, a4⟩, fun x H3 yl => ?_⟩
    obtain ⟨mx, rxx⟩ := (w.1 _ hd).2 x H3 yl
    have tx := c3.md mx
    have t3 := tr.trans tx
    have m3 := mG.trans mx
    refine hg i _ hd (Dl :: S1) σ H3 x _ (c3.tr tx) rxx fun σ2 cs hw => ⟨hw, ?_⟩
    refine (hrun _ H3 (upg m3)).2 i _ hd σ σ2 _ (c3.tr tx) cs fun b S4 G4 H4 ⟨e1, e2, e3⟩ m4 t4 c5 => ?_
    subst e1 e2 e3
    exact ⟨rfl, hlt, m3.trans m4, t3.trans t4, m4.at (mx.at hx)⟩
  · have e : i = ds.length := by omega
    subst e
    refine .inl ⟨w.2 (Nat.le_refl _), ?_⟩
    have ts : Tr W S1 H2 S1 H' := ⟨⟨fun b u eb nb tb => (tr.md).keep b u eb nb tb, tr.md.dom, tr.md.tg, tr.md.tl, tr.md.xt⟩, fun _ h => h, fun _ h => .inl h, fun a ha => tr.dom a (List.mem_cons_of_mem _ ha)⟩
    exact o (.ref Dl) (.lst []) S1 G1 H' q mG (t1.trans ts) (c2.nil.tr ts) (.lst (off_of hx (notS c2 hD)) .nil)
/-- told(f), in a comprehension's test: f any of the lambdas -/
def tToldB (X : Cx) (k : Nat) (CS : Addr) (ret : Str) (σ0 : L2.St) (te : TE) : TE := fun σ H Q => te σ H fun v H1 => ∃ F t, v = .ref F ∧ LamR X k H1 F t ∧ TTold X.K CS ret (fun E H' Q' => t E σ0 H' Q') H1 Q
theorem ew_toldB {δ0 : Dn} {σ0 : L2.St} {i : Nat} {CS : Addr} {ret : Str} (hK : X.K = W.K) (c0 : Cn W S δ0 σ0 H) (hi : δ[i]? = some (some (.adr F))) (R : LamR X k H F t)
    (h : ∀ E', Ew W E' (t E') δ0 S H (fun _ _ _ => False) (catB W CS ret Φ)) : Ew W E (tToldB X k CS ret σ0 (tVar i)) δ S H Φ Y := fun σ H1 Q m c o ex => by
  obtain ⟨v, e, r⟩ := c.env.get hi
  cases r
  exact ⟨_, e, F, t, rfl, R.md m, h _ σ0 H1 Q m (c0.tr (c0.md m)) (fun _ _ _ _ _ z => z.elim) fun cls S' H' H3 ⟨e, q⟩ m3 t3 c3 => ⟨true, by rw [hK]; exact e, fun _ => o _ _ S' H' H3 q m3 t3 c3 (.str _), fun z => by cases z⟩⟩
/-- [1 for f in bad if told(f) != ret]: each is refused -/
theorem ew_bad {ib iv : Nat} {CS : Addr} {ret : Str} {Fs : List Addr} {ts : List (XK → TE)} (hK : X.K = W.K) (hb : δ[ib]? = some (some (.lst (Fs.map .adr)))) (hv : iv < δ.length) (hs : PyData.strOk ret = true) (hL : LamsR X k H Fs ts)
    (hall : ∀ t ∈ ts, ∀ E' S2 H2, Up W S H S2 H2 → Ew W E' (t E') δ S2 H2 (fun _ _ _ => False) (fun cls S' H' => PySem.W.exmOne W.K cls (.ref CS) = some true ∧ Md W [] H2 H' ∧ ∀ a ∈ S2, a ∈ S')) (q : Φ (.lst []) S H) :
    Ew W E (tLcN (iAny W.K (tVar ib)) (gName iv) (fun σ0 => tTest (tOp (rNeD W.K) (tToldB X k CS ret σ0 (tVar iv)) (tC (.str ret)))) [iv]) δ S H Φ Y := by
  refine ew_lcNone (iw_anyL (ew_var hb ⟨Fs.map .adr, rfl, fun i => (wipeD δ [iv]).set iv (some (.adr (Fs.getD i 0))), fun i d hd => ?_, fun S2 H2 u => ⟨trivial, fun i d hd => ?_⟩, q⟩))
  · obtain ⟨F, t, _, rfl, e2, _⟩ := hL.at hd
    have e3 : Fs.getD i 0 = F := by rw [List.getD_eq_getElem?_getD, e2]; rfl
    dsimp only
    rw [e3]
    exact cg_of (cs_name (List.mem_singleton.mpr rfl))
  · obtain ⟨F, t, ht, rfl, e2, R⟩ := hL.at hd
    have e3 : Fs.getD i 0 = F := by rw [List.getD_eq_getElem?_getD, e2]; rfl
    intro σ0 σ Q c0 c o
    dsimp only at c
    rw [e3] at c
    have key : Tw W E0 (tTest (tOp (rNeD W.K) (tToldB X k CS ret σ0 (tVar iv)) (tC (.str ret)))) ((wipeD δ [iv]).set iv (some (.adr F))) S2 H2 (fun b S3 H3 => S3 = S2 ∧ H3 = H2 ∧ b = false) (fun _ _ _ => False) := by
      refine tw_test (ew_op dNe (ew_forget ?_))
      refine ew_toldB hK c0 (by unfold wipeD wipeD; rw [List.getElem?_set_self (by rw [List.length_set]; exact hv)]) (R.md u.md) fun E' => ?_
      refine (hall t ht E' S2 H2 u).mono (fun _ _ _ z => z) fun cls S' H' ⟨e, m, s⟩ => ⟨e, m, s, ?_⟩
      exact ew_str (lf_ne_str hs hs ⟨_, rfl, rfl, rfl, by simp⟩)
    exact key σ H2 Q .refl c o (fun _ _ _ _ z => z.elim)
end
section
variable {X : Cx}
theorem pe_toldB {k : Nat} {x ret : Str} {g CS : Addr} {e : Expr} {te : TE} {p pos : Pos} {pins : List (Addr × Obj)} {σ0 : L2.St} {s0 : Shared} {H0 : Hp} {scope : Scope} {ce : Env} {fp : List Addr} (back : ∀ pins2 σ2 H2 s2, Inv (X.blk s0 H0 scope ce fp) pins2 σ2 H2 s2 → Inv X pins σ0 H2 s2)
    (T : Told X.K X.mg x ret g CS) (hg : Gl (X.blk s0 H0 scope ce fp) x) (hr : Room (k + 2) X.A) (he : PE (X.blk s0 H0 scope ce fp) e te)
    (hst : starEach [e] ce = (false, eval e ce) :: starEach [] ce := by rfl) (hdb : (x == ("__debug__" : Str)) = false := by decide) :
    PE (X.blk s0 H0 scope ce fp) (.Call (.Name x p) [e] [] pos) (tToldB X k CS ret σ0 te) := by
  refine ⟨fun pins' s σ H Q I h => ?_⟩
  refine wpAny_Call_Name_kw (ld_glob I hg T.hm ?_ hdb)
  refine PySem.W.callWith_K (h₀ := X.base) I.ok.mod.kin T.kp ?_ hst rfl
  rw [hst]
  show wpAny _ _ (spliced ((false, eval e ce) :: backTo pos (starEach [] ce))) _ _ s
  refine Calls.spliced_cons (thn (he.run pins' s σ H _ I h) fun u s1 hu => ?_)
  obtain ⟨v, H1, I1, r1, F, t, rfl, R, q⟩ := hu
  obtain rfl : u = Value.ref F := r1
  refine Calls.spliced_nil ⟨I1.kIn, ?_⟩
  have rc := told_run (X := X) (back _ _ _ _ I1) T hr R q
  exact told_end (X := X.blk s0 H0 scope ce fp) (x := x) I1 rc
/-- [1 for f in bad if told(f) != ret], as an expression of the def -/
theorem pe_bad {k : Nat} {K : PySem.W.Frag} {x ret : Str} {g CS : Addr} {fv : Str} {ib iv kk kr : Nat} {elt l : Expr} {scope : Scope} {q1 q2 q3 q4 q5 q6 q7 : Pos} (hK : X.K = K) (hc : X.calm = true) (hN : X.N.Nodup) (hr : Room (k + 2) X.A) (hu : X.A.units + 64 < cLine) (T : Told X.K X.mg x ret g CS)
    (hl : PE X l (tVar ib)) (ok : BlkOk X.N X.env.scope scope [(fv, iv)]) (hx : ∀ s H C cl fp, Gl (X.blk s H scope (compEnvC scope cl C X.env) fp) x)
    (hpv : ∀ s H C cl fp, PE (X.blk s H scope (compEnvC scope cl C X.env) fp) (.Name fv q3) (tVar iv)) (hpg : ∀ s H C cl fp, PG (X.blk s H scope (compEnvC scope cl C X.env) fp) (.Name fv q1) (gName iv))
    (hs : ∀ x, foldedSetIterable l X.env x = pure x := by intro _; rfl) (hdb : (x == ("__debug__" : Str)) = false := by decide) :
    PE X (.ListComp elt [⟨.Name fv q1, l, [.Compare (.Call (.Name x q2) [.Name fv q3] [] q4) [.NotEq] [.Constant (.str ret) kr q5] q6], 0⟩] scope q7)
      (tLcN (iAny K (tVar ib)) (gName iv) (fun σ0 => tTest (tOp (rNeD K) (tToldB X k CS ret σ0 (tVar iv)) (tC (.str ret)))) [iv]) := by
  refine pe_lcN (own := [(fv, iv)]) hc hN (w_any hK hl) ok hpg (fun pins σ s H I C cl fp back => ?_) hs
  exact pts_one (pt_cmpR (w_ne (X := X.blk s H scope (compEnvC scope cl C X.env) fp) hK hu) (pe_toldB back T (hx _ _ _ _ _) hr (hpv _ _ _ _ _) rfl hdb) pe_str (nomark _))
end
end Lm

/-! Equality of data: what is fit for ==, and its outcome; changing lists, too. A comprehension whose elements make changing things. -/
namespace Dw
open PySem L2
/-- fit for ==, at most n deep -/
structure OkN (n : Nat) (d : Dv) : Prop where
  pure : pureD d = true
  lay : (toP d).canLay0 = true
  dep : (toP d).depth ≤ n
theorem OkN.mono {n m : Nat} {d : Dv} (h : OkN n d) (q : n ≤ m) : OkN m d := ⟨h.pure, h.lay, Nat.le_trans h.dep q⟩
theorem OkN.ok {n : Nat} {d : Dv} (h : OkN n d) (q : n ≤ 64 := by decide) : eqOk d = true := by
  unfold eqOk SeqAt.shaped
  rw [h.pure, h.lay, decide_eq_true (Nat.le_trans h.dep q)]
  rfl
theorem okN_int (i : Int) : OkN 0 (.int i) := ⟨by unfold pureD; rfl, by unfold toP PyData.canLay0; rfl, by unfold toP PyData.depth; exact Nat.le_refl _⟩
theorem okN_bl (i : Bool) : OkN 0 (.bl i) := ⟨by unfold pureD; rfl, by unfold toP PyData.canLay0; rfl, by unfold toP PyData.depth; exact Nat.le_refl _⟩
theorem okN_non : OkN 0 .non := ⟨by unfold pureD; rfl, by unfold toP PyData.canLay0; rfl, by unfold toP PyData.depth; exact Nat.le_refl _⟩
theorem okN_str {x : Str} (h : PyData.strOk x = true) : OkN 0 (.str x) := ⟨by unfold pureD; rfl, by unfold toP PyData.canLay0; exact h, by unfold toP PyData.depth; exact Nat.le_refl _⟩
theorem okNs {n : Nat} : ∀ {ds : List Dv}, (∀ d ∈ ds, OkN n d) → pureDs ds = true ∧ PyData.canLayAll0 (toPs ds) = true ∧ PyData.depthAll (toPs ds) ≤ n
  | [], _ => ⟨by unfold pureDs; rfl, by unfold toPs PyData.canLayAll0; rfl, by unfold toPs PyData.depthAll; exact Nat.zero_le _⟩
  | d :: ds, h => by
    obtain ⟨a, b, c⟩ := okNs (ds := ds) fun x hx => h x (List.mem_cons_of_mem _ hx)
    have q := h d List.mem_cons_self
    refine ⟨by unfold pureDs; rw [q.pure, a]; rfl, by unfold toPs PyData.canLayAll0; rw [q.lay, b]; rfl, ?_⟩
    unfold toPs PyData.depthAll
    exact Nat.max_le.mpr ⟨q.dep, c⟩
theorem okN_lst {n : Nat} {ds : List Dv} (h : ∀ d ∈ ds, OkN n d) : OkN (n + 1) (.lst ds) := by
  obtain ⟨a, b, c⟩ := okNs h
  refine ⟨by unfold pureD; exact a, by unfold toP PyData.canLay0; exact b, ?_⟩
  unfold toP PyData.depth
  omega
theorem okN_tup {n : Nat} {ds : List Dv} (h : ∀ d ∈ ds, OkN n d) : OkN (n + 1) (.tup ds) := by
  obtain ⟨a, b, c⟩ := okNs h
  refine ⟨by unfold pureD; exact a, by unfold toP PyData.canLay0; exact b, ?_⟩
  unfold toP PyData.depth
  omega
/-- f tells data apart as values are -/
structure Tells {α : Type} [DecidableEq α] (n : Nat) (f : α → Dv) : Prop where
  ok : ∀ x, OkN n (f x)
  eq : ∀ x y, eqD (f x) (f y) = decide (x = y)
theorem eqvAll_map {α : Type} [DecidableEq α] {f : α → Dv} (h : ∀ x y, eqD (f x) (f y) = decide (x = y)) : ∀ xs ys : List α, PyData.eqvAll (toPs (xs.map f)) (toPs (ys.map f)) = decide (xs = ys)
  | [], [] => by unfold List.map toPs PyData.eqvAll; rfl
  | [], y :: ys => by unfold List.map toPs PyData.eqvAll; exact (decide_eq_false (by simp)).symm
  | x :: xs, [] => by unfold List.map toPs PyData.eqvAll; exact (decide_eq_false (by simp)).symm
  | x :: xs, y :: ys => by
    rw [List.map_cons, List.map_cons]
    unfold toPs PyData.eqvAll
    rw [eqvAll_map h xs ys]
    have e := h x y
    unfold eqD at e
    rw [e, Bool.eq_iff_iff]
    simp
theorem tells_lst {α : Type} [DecidableEq α] {n : Nat} {f : α → Dv} (t : Tells n f) : Tells (n + 1) fun xs : List α => Dv.lst (xs.map f) :=
  ⟨fun xs => okN_lst fun d hd => by obtain ⟨x, _, rfl⟩ := List.mem_map.mp hd; exact t.ok x, fun xs ys => by
    unfold eqD toP PyData.eqv
    exact eqvAll_map t.eq xs ys⟩
theorem tells_tup {α : Type} [DecidableEq α] {n : Nat} {f : α → Dv} (t : Tells n f) : Tells (n + 1) fun xs : List α => Dv.tup (xs.map f) :=
  ⟨fun xs => okN_tup fun d hd => by obtain ⟨x, _, rfl⟩ := List.mem_map.mp hd; exact t.ok x, fun xs ys => by
    unfold eqD toP PyData.eqv
    exact eqvAll_map t.eq xs ys⟩
theorem tells_int : Tells 0 Dv.int := ⟨okN_int, eqD_int⟩
theorem eqv_two {a b c d : PyData} : PyData.eqv (.tuple [a, b]) (.tuple [c, d]) = (PyData.eqv a c && PyData.eqv b d) := by
  rw [PyData.eqv, PyData.eqvAll, PyData.eqvAll, PyData.eqvAll, Bool.and_true]
theorem eqv_twoL {a b c d : PyData} : PyData.eqv (.list [a, b]) (.list [c, d]) = (PyData.eqv a c && PyData.eqv b d) := by
  rw [PyData.eqv, PyData.eqvAll, PyData.eqvAll, PyData.eqvAll, Bool.and_true]
theorem tells_pair {α β : Type} [DecidableEq α] [DecidableEq β] {n : Nat} {f : α → Dv} {g : β → Dv} (t : Tells n f) (u : Tells n g) : Tells (n + 1) fun p : α × β => Dv.tup [f p.1, g p.2] :=
  ⟨fun p => okN_tup fun d hd => by
    rcases List.mem_cons.mp hd with rfl | hd
    · exact t.ok _
    · rw [List.mem_singleton.mp hd]; exact u.ok _, fun p q => by
    have e1 := t.eq p.1 q.1
    have e2 := u.eq p.2 q.2
    unfold eqD at e1 e2 ⊢
    unfold toP
    unfold toPs toPs toPs
    rw [eqv_two, e1, e2, Bool.eq_iff_iff]
    simp [Prod.ext_iff]⟩
theorem tells_pairL {α β : Type} [DecidableEq α] [DecidableEq β] {n : Nat} {f : α → Dv} {g : β → Dv} (t : Tells n f) (u : Tells n g) : Tells (n + 1) fun p : α × β => Dv.lst [f p.1, g p.2] :=
  ⟨fun p => okN_lst fun d hd => by
    rcases List.mem_cons.mp hd with rfl | hd
    · exact t.ok _
    · rw [List.mem_singleton.mp hd]; exact u.ok _, fun p q => by
    have e1 := t.eq p.1 q.1
    have e2 := u.eq p.2 q.2
    unfold eqD at e1 e2 ⊢
    unfold toP
    unfold toPs toPs toPs
    rw [eqv_twoL, e1, e2, Bool.eq_iff_iff]
    simp [Prod.ext_iff]⟩
section
variable {W : Wd} {E : XK} {S : List Addr} {H : Hp} {Φ : Ph} {δ : Dn} {X : Px}
theorem lf_eqT {α : Type} [DecidableEq α] {n : Nat} {f : α → Dv} {x y : α} (t : Tells n f) (q : Φ (.bl (decide (x = y))) S H) (h : n ≤ 64 := by decide) : eqB false (f x) (f y) Φ S H := lf_eq ((t.ok x).ok h) ((t.ok y).ok h) (t.eq x y) q
theorem lf_neT {α : Type} [DecidableEq α] {n : Nat} {f : α → Dv} {x y : α} (t : Tells n f) (q : Φ (.bl (!decide (x = y))) S H) (h : n ≤ 64 := by decide) : eqB true (f x) (f y) Φ S H := lf_ne ((t.ok x).ok h) ((t.ok y).ok h) (t.eq x y) q
/-! ### changing lists in a comparison -/
/-- d, told as a list that stays -/
def As (W : Wd) (S : List Addr) (H : Hp) (d e : Dv) : Prop := d = e ∨ ∃ a ds, d = .adr a ∧ LstAt W S H a ds ∧ e = .lst ds
def eqB2 (W : Wd) (neg : Bool) (x y : Dv) (Φ : Ph) (S : List Addr) (H : Hp) : Prop := ∃ x' y', As W S H x x' ∧ As W S H y y' ∧ eqOk x' = true ∧ eqOk y' = true ∧ Φ (.bl (if neg then !eqD x' y' else eqD x' y')) S H
theorem as_dp {H1 : Hp} {d e : Dv} {v : V} (m : Md W [] H H1) (r : Rp W (off S H1) d v) (h : As W S H d e) (p : pureD e = true) : Dp W.K H1 v (toP e) := by
  rcases h with rfl | ⟨a, ds, rfl, l, rfl⟩
  · exact r.dp p
  · cases r
    obtain ⟨_, xs, hx, ra⟩ := LstAt.up (Up.of m) l
    unfold toP
    unfold pureD at p
    exact .lst (.inl (.inl hx)) (ra.dp p)
theorem eqOk_pure {d : Dv} (h : eqOk d = true) : pureD d = true := (Bool.and_eq_true_iff.mp h).1
theorem eqOk_shaped {d : Dv} (h : eqOk d = true) : SeqAt.shaped (toP d) = true := (Bool.and_eq_true_iff.mp h).2
theorem dEq2 : OpD W (rEqD W.K) (eqB2 W false) := fun x y v u Φ S H H1 Q m c rx ry ⟨x', y', a1, a2, h1, h2, q⟩ o =>
  ⟨toP x', toP y', as_dp m rx a1 (eqOk_pure h1), as_dp m ry a2 (eqOk_pure h2), eqOk_shaped h1, eqOk_shaped h2, o.pure c m (.bl _) q⟩
theorem dNe2 : OpD W (rNeD W.K) (eqB2 W true) := fun x y v u Φ S H H1 Q m c rx ry ⟨x', y', a1, a2, h1, h2, q⟩ o =>
  ⟨toP x', toP y', as_dp m rx a1 (eqOk_pure h1), as_dp m ry a2 (eqOk_pure h2), eqOk_shaped h1, eqOk_shaped h2, o.pure c m (.bl _) q⟩
theorem lf_ne2 {α : Type} [DecidableEq α] {n : Nat} {f : α → Dv} {a b : Dv} {x y : α} (t : Tells n f) (ha : As W S H a (f x)) (hb : As W S H b (f y)) (q : Φ (.bl (!decide (x = y))) S H) (h : n ≤ 64 := by decide) : eqB2 W true a b Φ S H :=
  ⟨_, _, ha, hb, (t.ok x).ok h, (t.ok y).ok h, by rw [t.eq]; exact q⟩
theorem lf_eq2 {α : Type} [DecidableEq α] {n : Nat} {f : α → Dv} {a b : Dv} {x y : α} (t : Tells n f) (ha : As W S H a (f x)) (hb : As W S H b (f y)) (q : Φ (.bl (decide (x = y))) S H) (h : n ≤ 64 := by decide) : eqB2 W false a b Φ S H :=
  ⟨_, _, ha, hb, (t.ok x).ok h, (t.ok y).ok h, by rw [t.eq]; exact q⟩
theorem as_adr {a : Addr} {ds : List Dv} (l : LstAt W S H a ds) : As W S H (.adr a) (.lst ds) := .inr ⟨a, ds, rfl, l, rfl⟩
theorem as_of {d : Dv} : As W S H d d := .inl rfl
/-! ### different kinds -/
theorem eqv_int_str (i : Int) (x : Str) : eqD (.int i) (.str x) = false := by unfold eqD toP PyData.eqv; rfl
theorem eqv_non_str (x : Str) : eqD .non (.str x) = false := by unfold eqD toP PyData.eqv; rfl
theorem eqv_tup_str (ds : List Dv) (x : Str) : eqD (.tup ds) (.str x) = false := by unfold eqD toP PyData.eqv; rfl
end
end Dw

/-! A comprehension whose elements make changing things: by an invariant. -/
namespace Dw
open PySem L2
section
variable {W : Wd} {E : XK} {S : List Addr} {H : Hp} {Φ : Ph} {δ : Dn} {X : Px} {g : TG} {te : TE}
structure LcG (W : Wd) (E : XK) (g : TG) (te : TE) (vs : List Nat) (δ : Dn) (Φ : Ph) (X : Px) (ds : List Dv) (st : List Addr → Hp → Prop) (S1 : List Addr) (H1 : Hp) (δs : Nat → Dn) (I : Nat → Addr → List Dv → List Addr → Hp → Prop) : Prop where
  len : ds.length < sizeLine
  tgt : ∀ i d, ds[i]? = some d → Cg W g d vs δ (δs i)
  start : ∀ p H2, Md W [] H1 H2 → H1 p = none → p ∉ S1 → LstAt W (p :: S1) H2 p [] → I 0 p [] (p :: S1) H2
  stay : ∀ i p es S2 H2, I i p es S2 H2 → st S2 H2
  turn : ∀ i d p es S2 H2, ds[i]? = some d → I i p es S2 H2 → Ew W E te (δs i) S2 H2 (fun y S3 H3 => LstAt W S3 H3 p es ∧ ∀ H4, Md W [p] H3 H4 → LstAt W S3 H4 p (es ++ [y]) → I (i + 1) p (es ++ [y]) S3 H4) X
  done : ∀ p es S2 H2, I ds.length p es S2 H2 → Φ (.adr p) S2 H2
theorem ew_lcG {wi : TI} {vs : List Nat} (h : Iw W E wi δ S H (fun ds st S1 H1 => ∃ δs I, LcG W E g te vs δ Φ X ds st S1 H1 δs I) X) : Ew W E (tLc wi g tYes te vs) δ S H Φ X := fun σ H1 Q m c o ex => by
  refine h σ H1 _ m c (fun J ds st S1 G1 H2 ⟨δs, I, L⟩ m1 t1 wk Dl hD => ?_) ex
  have c2 := c.tr t1
  have nS := notS c2 hD
  have gD : G1 Dl = none := m1.free hD
  have tD : Tr W S1 H2 (Dl :: S1) (upd H2 Dl (.lst [])) := tr_grow c2.nil hD
  refine ⟨fun i n H' => n = ds.length - i ∧ i ≤ ds.length ∧ ∃ es S' G, es.length ≤ i ∧ I i Dl es S' G ∧ Md W [] G H' ∧ Tr W S1 H2 S' H', ⟨_, rfl, Nat.zero_le _, [], Dl :: S1, _, Nat.zero_le _, L.start Dl _ (m1.trans (Md.new hD)) gD nS ⟨List.mem_cons_self, [], upd_same, .nil⟩, .refl, tD⟩, ?_⟩
  rintro i n H' ⟨rfl, hi, es, S', G, le, hI, mG, tr⟩
  have c3 := c2.tr tr
  have w := wk i S' G H' tr c3.nil (L.stay _ _ _ _ _ hI) mG
  by_cases hlt : i < ds.length
  · have hd : ds[i]? = some ds[i] := List.getElem?_eq_getElem hlt
    refine .inr ⟨(w.1 _ hd).1, fun H' => i + 1 ≤ ds.length ∧ ∃ es S' G, es.length ≤ i + 1 ∧ I (i + 1) Dl es S' G ∧ Md W [] G H' ∧ Tr W S1 H2 S' H', fun H4 ⟨a1, a2⟩ => ⟨_, by omega, rfl, a1, a2⟩, fun x H3 yl => ?_⟩
    obtain ⟨mx, rxx⟩ := (w.1 _ hd).2 x H3 yl
    have tx := c3.md mx
    have t3 := tr.trans tx
    refine L.tgt i _ hd S' σ H3 x _ (c3.tr tx) rxx fun σ2 cs hw => ⟨hw, ?_⟩
    unfold tYes
    dsimp only
    rw [if_pos rfl]
    refine L.turn i _ Dl es S' G hd hI σ2 H3 _ (mG.trans mx) cs (fun y d S5 G5 H5 ⟨l5, k5⟩ m5 t5 c5 r5 => ?_) ((ex.tr t1).tr t3)
    obtain ⟨hS5, xs, hx, rx⟩ := LstAt.up (Up.of m5) l5
    have lx : xs.length < sizeLine := by
      rw [← rx.length]
      have := L.len
      omega
    have mu : Md W [Dl] H5 (upd H5 Dl (.lst (xs ++ [y]))) := Md.upd hx rfl (List.mem_singleton.mpr rfl)
    have tu : Tr W S5 H5 S5 (upd H5 Dl (.lst (xs ++ [y]))) := Tr.md1 c5.dom (mu.mono fun z hz => by rw [List.mem_singleton.mp hz]; exact hS5)
    refine ⟨xs, hx, lx, hlt, es ++ [d], S5, _, by rw [List.length_append]; exact Nat.succ_le_succ le, k5 _ (m5.up.trans mu) ⟨hS5, xs ++ [y], upd_same, tu.rpA (rx.snoc r5)⟩, .refl, t3.trans (t5.trans tu)⟩
  · have e : i = ds.length := by omega
    subst e
    exact .inl ⟨w.2 (Nat.le_refl _), o (.ref Dl) (.adr Dl) S' G H' (L.done _ _ _ _ hI) mG (t1.trans tr) (c2.nil.tr tr) (.adr Dl)⟩
end
end Dw

/-! The script: a list that is read alone. -/
namespace Dw
open PySem L2
section
variable {W : Wd} {E : XK} {S S' : List Addr} {H H' : Hp} {Φ : Ph} {δ : Dn} {X : Px} {te : TE} {tl th : TO}
def ScrAt (W : Wd) (S : List Addr) (H : Hp) (a : Addr) (ns : List Int) : Prop := SqL W.K (off S H) a (ns.map V.int)
theorem ScrAt.lq {G G' : Hp} {a : Addr} {xs : List V} (l : Lq G G') (h : SqL W.K G a xs) : SqL W.K G' a xs := by
  rcases h with (h | ⟨o, h⟩) | h
  · exact .inl (.inl (l _ _ h fun _ z => by cases z))
  · exact .inl (.inr ⟨o, l _ _ h fun _ z => by cases z⟩)
  · exact .inr h
theorem ScrAt.up {a : Addr} {ns : List Int} (u : Up W S H S' H') (h : ScrAt W S H a ns) : ScrAt W S' H' a ns := ScrAt.lq u.lq h
theorem ScrAt.md {a : Addr} {ns : List Int} (h : ScrAt W S H a ns) (m : Md W S H H') : ScrAt W S H' a ns := ScrAt.lq (lq_mdS m fun _ z => z) h
theorem rpa_ints {G : Hp} : ∀ ns : List Int, RpA W G (ns.map Dv.int) (ns.map V.int)
  | [] => .nil
  | n :: ns => .cons (.int n) (rpa_ints ns)
theorem ew_slScr (h : Ew W E te δ S H (fun d S1 H1 => ∃ a ns, d = .adr a ∧ ScrAt W S1 H1 a ns ∧ Ow W E tl δ S1 H1 (fun lo S2 H2 => Ow W E th δ S2 H2 (fun hi S3 H3 => ScrAt W S3 H3 a ns ∧ Φ (.lst (cutD (ns.map .int) lo hi)) S3 H3) X) X) X) : Ew W E (tSl (rSlU W.K) te tl th) δ S H Φ X := fun σ H1 Q m c o ex => by
  refine h σ H1 _ m c (fun v d S1 G1 H2 ⟨a, ns, e, _, q⟩ m1 t1 c1 r1 => ?_) ex
  subst e
  cases r1
  refine q σ H2 _ m1 (c.tr t1) (fun lo S2 G2 H3 q2 m2 t2 c2 => ?_) (ex.tr t1)
  refine q2 σ H3 _ m2 ((c.tr t1).tr t2) (fun hi S3 G3 H4 ⟨sa, q3⟩ m3 t3 c3 => ?_) ((ex.tr t1).tr t2)
  have o3 := o.tr (t1.trans (t2.trans t3))
  have sq : SqL W.K H4 a (ns.map V.int) := ScrAt.lq (off_lq S3 H4) (ScrAt.up (Up.of m3) sa)
  exact .inl ⟨a, _, rfl, sq, fun p hp => o3.new c3 m3 hp q3 (new_lst c3 hp ((rpa_ints ns).cut lo hi))⟩
end
end Dw

/-! sorted(d.items()), keys and values whole numbers. -/
namespace Si
open PySem PySem.Spec PyProof.Rows L2
abbrev entI (p : Int × Int) : Key × V := (Sum.inl p.1, V.int p.2)
def kOf (as : List Addr) (ks : List (Int × Int)) : Value → Int × Int
  | .ref b => ks.getD (as.idxOf b) (0, 0)
  | _ => (0, 0)
def rSortIt (x : V) (H : Hp) (Q : VK) : Prop := ∃ (d : Addr) (ks : List (Int × Int)), x = .ref d ∧ H d = some (.dK (ks.map entI)) ∧ ks.length < 1000 ∧
  ∀ (H' : Hp) (p : Addr) (zs : List (Addr × Int × Int)), (∀ b o, H b = some o → H' b = some o) → H p = none → (∀ z ∈ zs, H z.1 = none) → (∀ z ∈ zs, z.1 ≠ p) → (zs.map (·.2)).Perm ks → (zs.map (·.2)).Pairwise (fun a b => SrtO.lexB b a = false) →
    H' p = some (.lst (zs.map fun z => V.ref z.1)) → (∀ z ∈ zs, H' z.1 = some (.tup [.int z.2.1, .int z.2.2])) → Q (.ref p) H'
def tSortIt (te : TE) : TE := fun σ H Q => te σ H fun x H1 => rSortIt x H1 Q
theorem pairs_at {P : Program} {w : World} {K : Type} [DecidableEq K] {knd : PySem.KeyKind P w K} : ∀ {es : List DictEntry} {vs : List (K × Value)} {j : Nat} {e : DictEntry}, Pairs knd es vs → es[j]? = some e → ∃ kv, vs[j]? = some kv ∧ knd.is kv.1 e.key = true ∧ e.val = kv.2
  | _, _, _, _, .nil, h => by simp at h
  | _, _, 0, e, .cons h1 h2 _, h => by
    have := Option.some.inj h
    subst this
    exact ⟨_, rfl, h1, h2⟩
  | _, _, j + 1, e, .cons _ _ r, h => by
    obtain ⟨kv, a, b⟩ := pairs_at (j := j) (e := e) r (by simpa using h)
    exact ⟨kv, by simpa using a, b⟩
section
variable {X : Cx} {e : Expr} {te : TE} {p apos cpos pos : Pos}
theorem sort_view {pins : List (Addr × Obj)} {σ : L2.St} {H : Hp} {s : Shared} {Q : VK} {r d : Addr} {ks : List (Int × Int)} (hc : X.calm = true) (I : Inv X pins σ H s) (hv : s.heap.IsItemsView r d) (hd : H d = some (.dK (ks.map entI))) (hk : ks.length < 1000)
    (q : ∀ (H' : Hp) (p : Addr) (zs : List (Addr × Int × Int)), (∀ b o, H b = some o → H' b = some o) → H p = none → (∀ z ∈ zs, H z.1 = none) → (∀ z ∈ zs, z.1 ≠ p) → (zs.map (·.2)).Perm ks → (zs.map (·.2)).Pairwise (fun a b => SrtO.lexB b a = false) →
      H' p = some (.lst (zs.map fun z => V.ref z.1)) → (∀ z ∈ zs, H' z.1 = some (.tup [.int z.2.1, .int z.2.2])) → Q (.ref p) H') :
    wpAny (model X.prog X.w) X.A (call (.builtin "sorted") [.ref r]) (EP X pins σ Q) X.xe s := by
  obtain ⟨hz, hs0, vs, kv, hdo⟩ := I.hok d _ hd
  obtain ⟨od, es, ep, hod, hx, hdat, _, hpr, _⟩ := hdo
  have lk : (ks.map entI).length = vs.length := Paired.length kv
  rw [List.length_map] at lk
  have les : es.size = vs.length := by
    have : ∀ {l : List DictEntry} {m : List (Key × Value)}, Pairs (mixKind X.prog X.w) l m → l.length = m.length := fun h => by
      induction h with
      | nil => rfl
      | cons _ _ _ ih => rw [List.length_cons, List.length_cons, ih]
    rw [← this hpr, Array.length_toList]
  refine DT.sortedI (es := es) (ep := ep) (I.ok.hd hc) hv ⟨od, hod, hx, hdat⟩ (by rw [les, ← lk]; exact Nat.le_trans (Nat.le_of_lt hk) (by decide)) fun h' tk as hkp hlt hl hG => ?_
  have lak : as.length = ks.length := by omega
  have nd : as.Nodup := List.Pairwise.imp (fun h => Nat.ne_of_lt h) hG.rise
  have pr : ∀ (j : Nat) (b : Addr), as[j]? = some b → ∃ (qq : Int × Int) (t u : Tok), ks[j]? = some qq ∧ h'.get? b = some { cls := .type "tuple", data := .seq #[Value.int qq.1 t, Value.int qq.2 u] } := by
    intro j b hj
    obtain ⟨en, he, hg⟩ := hG.pairs j b hj
    obtain ⟨kv', h1, h2, h3⟩ := pairs_at hpr (show es.toList[j]? = some en by rw [Array.getElem?_toList]; exact he)
    have hjl : j < ks.length := by rw [← lak]; exact (List.getElem?_eq_some_iff.mp hj).1
    have hkj : (ks.map entI)[j]? = some (entI ks[j]) := by rw [List.getElem?_map, List.getElem?_eq_getElem hjl]; rfl
    obtain ⟨kv2, g1, g2, g3⟩ := LiI.paired_get kv hkj
    rw [h1] at g1
    cases g1
    obtain ⟨u, hu⟩ : ∃ u, kv'.2 = Value.int ks[j].2 u := g3
    have hkey : keyIs (Sum.inl ks[j].1) en.key = true := by rw [← g2] at h2; exact h2
    obtain ⟨t, ht⟩ : ∃ t, en.key = Value.int ks[j].1 t := relV_key hkey
    refine ⟨ks[j], t, u, List.getElem?_eq_getElem hjl, ?_⟩
    rw [hg, ht, h3, hu]
  have kof : ∀ (j : Nat) (b : Addr) (qq : Int × Int), as[j]? = some b → ks[j]? = some qq → kOf as ks (.ref b) = qq := fun j b qq h1 h2 => by
    obtain ⟨hj, e⟩ := List.getElem?_eq_some_iff.mp h1
    have hi : as.idxOf b = j := by rw [← e]; exact List.Nodup.idxOf_getElem nd j hj
    show ks.getD (as.idxOf b) (0, 0) = qq
    rw [hi, List.getD_eq_getElem?_getD, h2]
    rfl
  have hob : (h'.push { cls := .type "list", data := .seq (as.map Value.ref).toArray }).get? h'.objs.size = some (seqObj "list" (as.map Value.ref).toArray 0) := Heap.get?_push_size _ rfl
  have kb : ∀ b o, s.heap.get? b = some o → (h'.push { cls := .type "list", data := .seq (as.map Value.ref).toArray }).get? b = some o := fun b o e => Heap.get?_push_of_some _ (hkp b o e)
  have ne0 : ∀ b o, h'.get? b = some o → b ≠ h'.objs.size := fun b o e => Nat.ne_of_lt (Heap.lt_size e)
  generalize hh2 : h'.push { cls := .type "list", data := .seq (as.map Value.ref).toArray } = h2 at hob kb ⊢
  have ka : ∀ b o, h'.get? b = some o → h2.get? b = some o := fun b o e => by rw [← hh2]; exact Heap.get?_push_of_some _ e
  have hp : ∀ v ∈ as.map Value.ref, Srt.IsPair h2 v (kOf as ks v).1 (kOf as ks v).2 := fun v hv' => by
    obtain ⟨b, hb, rfl⟩ := List.mem_map.mp hv'
    obtain ⟨j, hj⟩ := List.mem_iff_getElem?.mp hb
    obtain ⟨qq, t, u, e1, e2⟩ := pr j b hj
    rw [kof j b qq hj e1]
    exact ⟨b, _, t, u, 0, rfl, ka _ _ e2, rfl, rfl⟩
  refine wpAny_call_entry PyProof.Rows.slot_list_sort ⟨_, hob, rfl⟩ PyProof.Rows.entry_list_sort
    (SrtO.list_sort_ord (s := { s with heap := h2, toks := tk }) (SrtO.swo_lex fun u => kOf as ks u) hob (by rw [List.length_map, lak]; exact Nat.le_trans (Nat.le_of_lt hk) (by decide)) (fun h2' => SrtO.pairs_sortableO (by omega) hp fun o e => ?_) fun out h1 h2s => ⟨.none, rfl, ?_⟩) (PyProof.Rows.args_list_sort _)
  · have e' : some o = some (seqObj "list" (as.map Value.ref).toArray 0) := e.symm.trans hob
    cases e'
    intro c
    exact absurd (Value.type.inj c) (by decide)
  · show EP X pins σ Q (.ref h'.objs.size) { s with heap := sortedHeap h2 h'.objs.size (as.map Value.ref) out.toArray, toks := tk }
    obtain ⟨bs, pb, eb⟩ := perm_lift Value.ref h2s.perm as rfl
    let zs : List (Addr × Int × Int) := bs.map fun b => (b, kOf as ks (.ref b))
    have mem : ∀ b ∈ bs, ∃ j qq t u, as[j]? = some b ∧ ks[j]? = some qq ∧ kOf as ks (.ref b) = qq ∧ h'.get? b = some { cls := .type "tuple", data := .seq #[Value.int qq.1 t, Value.int qq.2 u] } := fun b hb => by
      obtain ⟨j, hj⟩ := List.mem_iff_getElem?.mp (pb.mem_iff.mp hb)
      obtain ⟨qq, t, u, e1, e2⟩ := pr j b hj
      exact ⟨j, qq, t, u, hj, e1, kof j b qq hj e1, e2⟩
    have ez2 : as.map (fun b => kOf as ks (.ref b)) = ks := by
      refine List.ext_getElem? fun j => ?_
      rw [List.getElem?_map]
      cases hj : as[j]? with
      | none =>
        have : as.length ≤ j := List.getElem?_eq_none_iff.mp hj
        rw [List.getElem?_eq_none (by omega)]
        rfl
      | some b =>
        obtain ⟨qq, t, u, e1, _⟩ := pr j b hj
        rw [e1]
        exact congrArg some (kof j b qq hj e1)
    have hperm : (zs.map (·.2)).Perm ks := by
      have e := pb.map (fun b => kOf as ks (.ref b))
      rw [ez2] at e
      have e9 : zs.map (·.2) = bs.map fun b => kOf as ks (.ref b) := by
        show (bs.map _).map _ = _
        rw [List.map_map]
        rfl
      rw [e9]
      exact e
    have hsort : (zs.map (·.2)).Pairwise (fun a b => SrtO.lexB b a = false) := by
      have e9 : zs.map (·.2) = bs.map fun b => kOf as ks (.ref b) := by
        show (bs.map _).map _ = _
        rw [List.map_map]
        rfl
      rw [e9, List.pairwise_map]
      have h1' := h1
      rw [← eb] at h1'
      exact List.pairwise_map.mp h1'
    have kF : ∀ b o, b ≠ h'.objs.size → h2.get? b = some o → (sortedHeap h2 h'.objs.size (as.map Value.ref) out.toArray).get? b = some o := fun b o hb e => (PyProof.Rows.sortedHeap_old hb (Heap.lt_size e)).trans e
    have kS : ∀ b o, s.heap.get? b = some o → (sortedHeap h2 h'.objs.size (as.map Value.ref) out.toArray).get? b = some o := fun b o e => kF b o (ne0 _ _ (hkp b o e)) (kb b o e)
    obtain ⟨eF, heF⟩ := PyProof.Rows.sortedHeap_at (vs := as.map Value.ref) (out := out.toArray) hob
    have I1 : Inv X pins σ H { s with heap := sortedHeap h2 h'.objs.size (as.map Value.ref) out.toArray, toks := tk } := I.kept (t' := tk) kS
    have hn0 : H h'.objs.size = none := I.hok.fresh (Nat.le_of_lt hlt)
    have hlen : (zs.map fun z => V.ref z.1).length ≤ sizeLine := by
      have e := hperm.length_eq
      rw [List.length_map] at e
      rw [List.length_map, e]
      exact Nat.le_trans (Nat.le_of_lt hk) (by decide)
    have ezr : (zs.map fun z => V.ref z.1) = bs.map V.ref := by
      show (bs.map _).map _ = _
      rw [List.map_map]
      rfl
    have rv : Vals (zs.map fun z => V.ref z.1) out := by
      rw [ezr, ← eb]
      exact vals_maps V.ref Value.ref bs fun _ _ => rfl
    have I2 : Inv X pins σ (upd H h'.objs.size (.lst (zs.map fun z => V.ref z.1))) { s with heap := sortedHeap h2 h'.objs.size (as.map Value.ref) out.toArray, toks := tk } :=
      I1.take (h' := sortedHeap h2 h'.objs.size (as.map Value.ref) out.toArray) (t' := tk) (fun b ob _ e => e) (I.fpOk (Nat.le_of_lt hlt) hn0) ⟨hlen, out, eF, rv, heF⟩
    obtain ⟨H2, I3, g, qt⟩ := L2.DX.takeT (P := fun b vs => vs = [.int (kOf as ks (.ref b)).1, .int (kOf as ks (.ref b)).2]) I bs _ I2 (pb.nodup_iff.mpr nd) fun b hb => by
      obtain ⟨j, qq, t, u, e1, e2, e3, e4⟩ := mem b hb
      have hbl : s.heap.objs.size ≤ b := Nat.le_of_lt (hG.above b (List.mem_of_getElem? e1))
      refine ⟨hbl, ?_, _, rfl, fun H3 => ⟨(by show 2 ≤ sizeLine; decide), [Value.int qq.1 t, Value.int qq.2 u], ?_, ⟨_, kF _ _ (ne0 _ _ e4) (ka _ _ e4), rfl, 0, rfl⟩⟩⟩
      · rw [upd_ne (ne0 _ _ e4)]
        exact I.hok.fresh hbl
      · rw [e3]
        exact .cons ⟨t, rfl⟩ (.cons ⟨u, rfl⟩ .nil)
    have gr : ∀ b o, H b = some o → H2 b = some o := fun b o e => g b o (by rw [upd_ne (ne_of_none e hn0)]; exact e)
    have inz : ∀ z ∈ zs, ∃ b ∈ bs, z = (b, kOf as ks (.ref b)) := fun z hz => by
      obtain ⟨b, hb, e⟩ := List.mem_map.mp hz
      exact ⟨b, hb, e.symm⟩
    refine ⟨.ref h'.objs.size, H2, I3, rfl, q H2 h'.objs.size zs gr hn0 (fun z hz => ?_) (fun z hz => ?_) hperm hsort (g _ _ upd_same) fun z hz => ?_⟩
    · obtain ⟨b, hb, rfl⟩ := inz z hz
      obtain ⟨j, qq, t, u, e1, _⟩ := mem b hb
      exact I.hok.fresh (Nat.le_of_lt (hG.above b (List.mem_of_getElem? e1)))
    · obtain ⟨b, hb, rfl⟩ := inz z hz
      obtain ⟨j, qq, t, u, e1, e2, e3, e4⟩ := mem b hb
      exact ne0 _ _ e4
    · obtain ⟨b, hb, rfl⟩ := inz z hz
      obtain ⟨vs', ev, hH⟩ := qt b hb
      rw [ev] at hH
      exact hH
theorem pe_sortIt (hc : X.calm = true) (he : PE X e te) (hg : Gl X "sorted") (hm : X.mg "sorted" = none) (hv : bootBuiltins "sorted" = some (.builtin "sorted")) (hbase : attributeBase e "items" X.env (eval e X.env) = eval e X.env := by rfl) (hline : (apos.endLine == cpos.line) = true := by rfl)
    (hs : starEach [.Call (.Attribute e "items" apos) [] [] cpos] X.env = (false, eval (.Call (.Attribute e "items" apos) [] [] cpos) X.env) :: starEach [] X.env := by rfl) :
    PE X (.Call (.Name "sorted" p) [.Call (.Attribute e "items" apos) [] [] cpos] [] pos) (tSortIt te) := by
  refine ⟨fun pins s σ H Q I hq => ?_⟩
  refine wpAny_Call_Name_kw (ld_blt I hg hm hv ?_)
  refine PyProof.Rows.callWith_builtin1 ?_ hs rfl
  rw [hs]
  show wpAny _ _ (spliced ((false, eval (.Call (.Attribute e "items" apos) [] [] cpos) X.env) :: backTo pos (starEach [] X.env))) _ _ s
  refine Calls.spliced_cons ?_
  refine wpAny_Call_method (T := "dict") (id := "dict.items") hbase rfl hline F.plainAttrs_dict F.slot_dict_items F.type_dict_items (thn (he.run pins s σ H _ I hq) fun u s1 hx => ?_)
  obtain ⟨x, H1, I1, rx, d, ks, rfl, hd, hk, q⟩ := hx
  obtain rfl : u = Value.ref d := rx
  obtain ⟨hz, hs0, vs, kv, hdo⟩ := I1.hok d _ hd
  have I2 : Inv X pins σ H1 { s1 with heap := s1.heap.push { cls := .type "dict_items", data := .fields #[.ref d] } } := I1.kept (t' := s1.toks) fun b ob q => Heap.get?_push_of_some _ q
  refine ⟨hdo.typeIs, hdo.mapOf.noDict, ?_⟩
  show wpAny _ _ (callWith cpos (.builtin "dict.items") [.ref d] [] []) _ X.xe s1
  refine method_meetsIn F.slot_dict_items F.entry_dict_items rfl (PySem.evalArgs_none ⟨rfl, hdo.typeIs, F.args_dict_items_1 _, _, meets_dict_items (mixKind X.prog X.w) d hs0, ⟨vs, hdo⟩, ?_⟩)
  refine Calls.spliced_nil ?_
  exact sort_view hc I2 ⟨_, Heap.get?_push_size _ rfl, rfl, rfl⟩ hd hk q
end
end Si
namespace Dw
open PySem L2
def sitB (W : Wd) (d : Dv) (Φ : Ph) (S : List Addr) (H : Hp) : Prop := ∃ a ks, d = .adr a ∧ DictW W S H a (idD ks) ∧ ks.length < 1000 ∧ ∀ zs : ID, zs.Perm ks → zs.Pairwise (fun a b => SrtO.lexB b a = false) → Φ (.lst (zs.map fun z => .tup [.int z.1, .int z.2])) S H
theorem kr_ints {W : Wd} {G : Hp} : ∀ {ks : ID} {kvs : List (Ky × V)}, KR W G (idD ks) kvs → kvs = ks.map Si.entI
  | [], _, r => by cases r; rfl
  | k :: ks, _, r => by
    cases r with
    | cons h r =>
      cases h
      rw [kr_ints r]
      rfl
theorem ew_sortIt {W : Wd} {E : XK} {td : TE} {δ : Dn} {S : List Addr} {H : Hp} {Φ : Ph} {X : Px} (h : Ew W E td δ S H (fun d S1 H1 => sitB W d Φ S1 H1) X) : Ew W E (Si.tSortIt td) δ S H Φ X := fun σ H1 Q m c o ex => by
  refine h σ H1 _ m c (fun v d S1 G1 H2 ⟨a, ks, e, ⟨ha, kvs, hk, kr⟩, hl, q⟩ m1 t1 c1 r1 => ?_) ex
  subst e
  cases r1
  have e1 := kr_ints kr
  subst e1
  refine ⟨a, ks, rfl, m1.at hk, hl, fun H' p zs kp hp hf hne hperm hs hl' ht => ?_⟩
  have m2 : Md W [] H2 H' := Md.ext kp
  have t2 := c1.md m2
  refine (o.tr t1) (.ref p) (.lst ((zs.map (·.2)).map fun z => .tup [.int z.1, .int z.2])) S1 G1 H' (q _ hperm hs) (m1.trans m2) t2 (c1.tr t2) (.lst (off_of hl' (notS c1 hp)) ?_)
  have key : ∀ l : List (Addr × Int × Int), (∀ z ∈ l, z ∈ zs) → RpA W (off S1 H') ((l.map (·.2)).map fun z => Dv.tup [.int z.1, .int z.2]) (l.map fun z => V.ref z.1) := fun l => by
    induction l with
    | nil => exact fun _ => .nil
    | cons z l ih =>
      intro hm
      have hz := hm z List.mem_cons_self
      exact .cons (.tup (.inl (.inl (off_of (ht z hz) (notS c1 (hf z hz))))) (.cons (.int _) (.cons (.int _) .nil))) (ih fun y hy => hm y (List.mem_cons_of_mem _ hy))
  exact key zs fun _ h => h
end Dw

/-! Small steps for the laws' walks. -/
namespace Dw
open PySem L2
def bodyOf : Stmt → List Stmt
  | .For _ _ b _ _ => b
  | .If _ b _ _ => b
  | .While _ b _ _ => b
  | _ => []
theorem orF {P Q : Prop} (h : P) : ((false = false) → P) ∧ ((false = true) → Q) := ⟨fun _ => h, fun z => by cases z⟩
theorem orT {P Q : Prop} (h : Q) : ((true = false) → P) ∧ ((true = true) → Q) := ⟨fun z => (by cases z), fun _ => h⟩
theorem ifF {P Q : Prop} (h : Q) : ((false = true) → P) ∧ ((false = false) → Q) := ⟨fun z => (by cases z), fun _ => h⟩
theorem ifT {P Q : Prop} (h : P) : ((true = true) → P) ∧ ((true = false) → Q) := ⟨fun _ => h, fun z => by cases z⟩
section
variable {W : Wd} {E : XK} {S S' : List Addr} {H H' : Hp} {Φ : Ph} {δ : Dn} {X : Px}
theorem lf_eq_same {α : Type} [DecidableEq α] {n : Nat} {f : α → Dv} {x y : α} (t : Tells n f) (e : x = y) (q : Φ (.bl true) S H) (h : n ≤ 64 := by decide) : eqB false (f x) (f y) Φ S H := lf_eqT t (by rw [decide_eq_true e]; exact q) h
theorem lf_ne_same {α : Type} [DecidableEq α] {n : Nat} {f : α → Dv} {x y : α} (t : Tells n f) (e : x = y) (q : Φ (.bl false) S H) (h : n ≤ 64 := by decide) : eqB true (f x) (f y) Φ S H := lf_neT t (by rw [decide_eq_true e]; exact q) h
theorem lf_eq2_same {α : Type} [DecidableEq α] {n : Nat} {f : α → Dv} {a b : Dv} {x y : α} (t : Tells n f) (ha : As W S H a (f x)) (hb : As W S H b (f y)) (e : x = y) (q : Φ (.bl true) S H) (h : n ≤ 64 := by decide) : eqB2 W false a b Φ S H := lf_eq2 t ha hb (by rw [decide_eq_true e]; exact q) h
theorem lf_ne2_same {α : Type} [DecidableEq α] {n : Nat} {f : α → Dv} {a b : Dv} {x y : α} (t : Tells n f) (ha : As W S H a (f x)) (hb : As W S H b (f y)) (e : x = y) (q : Φ (.bl false) S H) (h : n ≤ 64 := by decide) : eqB2 W true a b Φ S H := lf_ne2 t ha hb (by rw [decide_eq_true e]; exact q) h
theorem lf_eq_no {x y : Dv} (h1 : eqOk x = true) (h2 : eqOk y = true) (e : eqD x y = false) (q : Φ (.bl false) S H) : eqB false x y Φ S H := lf_eq h1 h2 e q
theorem lf_eq_yes {x : Dv} (h1 : eqOk x = true) (q : Φ (.bl true) S H) : eqB false x x Φ S H := lf_eq h1 h1 (eqD_refl h1) q
theorem lf_ne_no {x : Dv} (h1 : eqOk x = true) (q : Φ (.bl false) S H) : eqB true x x Φ S H := lf_ne h1 h1 (eqD_refl h1) q
theorem lf_ne_int_same {i j : Int} (e : i = j) (q : Φ (.bl false) S H) : eqB true (.int i) (.int j) Φ S H := lf_ne_int (by rw [decide_eq_true e]; exact q)
theorem lf_eq_int_same {i j : Int} (e : i = j) (q : Φ (.bl true) S H) : eqB false (.int i) (.int j) Φ S H := lf_eq_int (by rw [decide_eq_true e]; exact q)
theorem lf_ne_bl_same {i j : Bool} (e : i = j) (q : Φ (.bl false) S H) : eqB true (.bl i) (.bl j) Φ S H := lf_ne_bl (by rw [decide_eq_true e]; exact q)
theorem lf_eq_bl_no {i j : Bool} (e : i ≠ j) (q : Φ (.bl false) S H) : eqB false (.bl i) (.bl j) Φ S H := lf_eq_bl (by rw [decide_eq_false e]; exact q)
theorem LstAt.of_md {a : Addr} {xs : List Dv} (l : LstAt W S H a xs) (m : Md W [] H H') : LstAt W S H' a xs := l.up (Up.of m)
/-- the Md's of a walk, joined -/
theorem Md.to {T T' : List Addr} (m : Md W T H H') (h : ∀ x ∈ T, x ∈ T') : Md W T' H H' := m.mono h
end
end Dw

/-! Lambdas in a display, one by one. -/
namespace Lm
open PySem PySem.Spec PyProof.Rows L2 LamX Dw
section
variable {X : Cx} {W : Wd} {E : XK} {δ : Dn} {S : List Addr} {H : Hp} {Y : Px} {k : Nat} {P : Addr} {t : XK → TE} {ta : TA} {Φ : PhA} {Fs : List Addr} {ts : List (XK → TE)}
theorem LamsR.snoc {F : Addr} (r : LamsR X k H Fs ts) (h : LamR X k H F t) : LamsR X k H (Fs ++ [F]) (ts ++ [t]) := by
  induction r with
  | nil => exact .cons h .nil
  | cons a _ ih => exact .cons a ih
theorem aw_lamA (hT : (P, qualL X) ∈ W.TL) (hu : ∀ p ∈ W.TL, p.1 = P → p.2 = qualL X) (hG : P ∉ W.TG) {H0 : Hp} (m0 : Md W [] H0 H) (hL : LamsR X k H Fs ts)
    (h : ∀ F H2, Md W [] H0 H2 → LamsR X k H2 (Fs ++ [F]) (ts ++ [t]) → Aw W E ta δ S H2 (fun ds S3 H3 => Φ (.adr F :: ds) S3 H3) Y) : Aw W E (tCons (tLamV X k P t) ta) δ S H Φ Y :=
  aw_cons (ew_lamV hT hu hG fun F H2 m _ r => h F H2 (m0.trans m) ((hL.md m).snoc r))
theorem all_snoc {p : (XK → TE) → Prop} (h : ∀ u ∈ ts, p u) (q : p t) : ∀ u ∈ ts ++ [t], p u := fun u hu => by
  rcases List.mem_append.mp hu with z | z
  · exact h u z
  · rw [List.mem_singleton.mp z]; exact q
theorem all_none {p : (XK → TE) → Prop} : ∀ u ∈ ([] : List (XK → TE)), p u := fun _ h => nomatch h
end
end Lm

/-! The end: from the head's facts to what the walks ask. -/
namespace Eh
open PySem PySem.Spec PyProof.Rows L2 Dw
section
variable {K : PySem.W.Frag} {P : Program} {w : World} {mg : Str → Option Value} {base : Heap}
theorem fun_of {x qual : Str} {st : Stmt} {f : Addr} {fd : FuncData} (F : FunD K x qual (defArgs st) (defBody st) (defScope st) [] [] f fd) : Fun K x qual st f fd := by
  obtain ⟨oc, od, dV, kV, doc, pm, an, cdv, ct, osl, e, lk, hc, hD, _⟩ := F.ex
  rcases hD with ⟨_, rfl⟩ | ⟨z, _⟩
  · exact ⟨⟨oc, od, kV, doc, pm, an, cdv, ct, osl, e, lk, hc⟩, F.kp⟩
  · exact absurd rfl z
theorem hc_of {x qual : Str} {a : Arguments} {b : List Stmt} {s : Scope} {p : Str × Option Str} {fd : FuncData} (F : FunD K x qual a b s [] [] (He.fAd K p) fd) : fd.code = .ref (He.cT K p).1 := by
  obtain ⟨oc, od, dV, kV, doc, pm, an, cdv, ct, osl, e, lk, hc, _, _⟩ := F.ex
  obtain ⟨c, rfl⟩ := He.codeIn_ref hc
  have ec : fd.code = .ref c := by rw [e]
  rw [ec]
  exact congrArg Value.ref (He.codeOf_eq lk ec).symm
abbrev BindN (x qual : Str) (a : Arguments) (b : List Stmt) (s : Scope) (ps : List Str) : Prop := ∀ (kV doc pm : Value) (an : Option Addr) (cdv ct : Value) (us : List Value), us.length = ps.length → bindArgs (PySem.W.fnOf x qual a b s .none kV doc pm an cdv ct) ⟨us, []⟩ = pure (ps.zip us)
theorem calX_of {x : Str} {a : Arguments} {b : List Stmt} {s : Scope} {fd : FuncData} {k n : Nat} {ps : List Str} {sp : Sp} (F : FunD K x x a b s [] [] (He.fAd K (x, none)) fd) (ok : FnOk P w K mg base (L2.CX P w) k (He.fAd K (x, none)) fd ps sp)
    (hm : mg x = some (.ref (He.ga K x))) (hb : BindN x x a b s ps) : CalX P w K mg base k x n sp := ⟨_, fd, ps, ok, hm, F.kp, F.bindsN hb⟩
theorem metX_of {c x qual : Str} {a : Arguments} {b : List Stmt} {s : Scope} {fd : FuncData} {k : Nat} {ps : List Str} {sp : Sp} (F : FunD K x qual a b s [] [] (He.fAd K (c, some x)) fd) (ok : FnOk P w K mg base (L2.CX P w) k (He.fAd K (c, some x)) fd ps sp)
    (hc : Cls K (He.ga K c)) (hm : Meth K (He.ga K c) x (He.fAd K (c, some x))) (hb : BindN x qual a b s ps) : MetX P w K mg base k (He.ga K c) x sp := ⟨_, fd, ps, hc, hm, ok, F.bindsN hb⟩
theorem makX_of {c x qual : Str} {a : Arguments} {b : List Stmt} {s : Scope} {fd : FuncData} {k : Nat} {ps : List Str} {sp : Sp} (F : FunD K x qual a b s [] [] (He.fAd K (c, some "__init__")) fd) (ok : FnOk P w K mg base (L2.CX P w) k (He.fAd K (c, some "__init__")) fd ps sp)
    (hk : Mk K (He.ga K c) (He.fAd K (c, some "__init__"))) (hm : mg c = some (.ref (He.ga K c))) (hb : BindN x qual a b s ps) : MakX P w K mg base k c (He.ga K c) sp := ⟨_, fd, ps, hk, ok, hm, F.bindsN hb⟩
theorem xf_of {h : Heap} {x : Str} (X : K.In h) (G : h.Ns mainGlobals mg) (c : (He.Fa.exc x).ok K = true) (c2 : (He.Fa.glo x).ok K = true) : XF K mg x (He.ga K x) :=
  let ⟨a, b, d, e⟩ := He.exc_ok c
  ⟨He.glo_ok X G c2, a, b, d, e⟩
/-- a tuple of two whole numbers, known -/
def pairB (K : PySem.W.Frag) (a : Addr) (i j : Int) : Bool := match K.lookup a with
  | some ⟨.type c, _, .seq its _, _⟩ => decide (c = "tuple") && (decide (its.size ≤ sizeLine) && He.relAll [.int i, .int j] its.toList)
  | _ => false
theorem pairB_ok {a : Addr} {i j : Int} (h : pairB K a i j = true) (H : Hp) : SqT K H a [.int i, .int j] := by
  unfold pairB at h
  cases q : K.lookup a with
  | none => rw [q] at h; cases h
  | some o =>
    obtain ⟨oc, od, dt, osl⟩ := o
    rw [q] at h
    cases oc with
    | type c =>
      cases dt with
      | seq its n =>
        have h : (decide (c = "tuple") && (decide (its.size ≤ sizeLine) && He.relAll [.int i, .int j] its.toList)) = true := h
        rw [Bool.and_eq_true, Bool.and_eq_true] at h
        obtain ⟨h1, h2, h3⟩ := h
        exact .inr ⟨_, its, n, q, congrArg Value.type (of_decide_eq_true h1), rfl, of_decide_eq_true h2, He.relAll_ok h3⟩
      | _ => cases h
    | _ => cases dt <;> cases h
def kdB (K : PySem.W.Frag) (kd : Addr) (z : Str) (i j : Int) : Bool := match PySem.W.nsIn K kd z with
  | some (some (.ref a)) => pairB K a i j
  | _ => false
theorem kdB_ok {kd : Addr} {z : Str} {i j : Int} {cm : Addr} {tg : List Addr} {tl : List (Addr × Str)} (h : kdB K kd z i j = true) : ∃ a : Addr, PySem.W.nsIn K kd z = some (some (.ref a)) ∧ ∀ G, Rp ⟨K, cm, tg, tl⟩ G (.tup [.int i, .int j]) (.ref a) := by
  unfold kdB at h
  cases q : PySem.W.nsIn K kd z with
  | none => rw [q] at h; cases h
  | some r =>
    cases r with
    | none => rw [q] at h; cases h
    | some v =>
      cases v with
      | ref a =>
        rw [q] at h
        exact ⟨a, rfl, fun G => .tup (pairB_ok h G) (.cons (.int _) (.cons (.int _) .nil))⟩
      | _ => rw [q] at h; cases h
def kdNo (K : PySem.W.Frag) (kd : Addr) (z : Str) : Bool := He.eqO (PySem.W.nsIn K kd z) (some none)
/-- the def that catches -/
theorem told_of {x ret a e : Str} {CS : Addr} {pg : Arguments} {sg : Scope} {b : List Stmt} {fd : FuncData} {j : Nat} {p1 p2 p3 p4 p5 p6 p7 p8 : Pos} (F : FunD K x x pg b sg [] [] (He.fAd K (x, none)) fd) (hm : mg x = some (.ref (He.ga K x)))
    (hbody : b = [.Try [.Return (some (.Call (.Name a p1) [] [] p2)) p3] [.ExceptHandler (some (.Name e p4)) none [.Return (some (.Constant (.str ret) j p5)) p6] p7] [] [] p8])
    (hb : BindN x x pg b sg [a]) (Sg : FnScope [a] [a] sg) (hv : Vis sg a) (hg : sg.names.lookup e = some .globalImplicit) (he : mg e = some (.ref CS)) (d1 : (e == ("__debug__" : Str)) = false := by decide) (d2 : (a == ("__debug__" : Str)) = false := by decide) (d3 : (a == ("__classdict__" : Str)) = false := by decide) :
    Lm.Told K mg x ret (He.ga K x) CS := by
  have B := F.bindsN hb
  obtain ⟨oc, od, dV, kV, doc, pm, an, cdv, ct, osl, e1, lk, hc, hD, _⟩ := F.ex
  subst hbody
  rw [e1] at lk B
  exact ⟨hm, F.kp, pg, sg, dV, kV, doc, pm, cdv, ct, oc, an, od, osl, a, e, j, p1, p2, p3, p4, p5, p6, p7, p8, lk, hc, B, Sg, hv, hg, he, d1, d2, d3⟩
/-- the start: nothing but the script and the tables -/
theorem start_ok {W : Wd} {F : Fs} {a : Addr} {ns : List Int} {H : Hp} (hF : F [.adr a] [] H (fun d _ _ => d = .bl true) (fun _ _ _ => False)) (hg : ∀ P ∈ W.TG, H P = some (.tbl #[])) (hl : ∀ p ∈ W.TL, H p.1 = some (.tbl #[])) : toSp W F [.ref a] H (fun v _ => v = .bl true) fun _ _ _ => False :=
  ⟨[.adr a], [], H, _, _, hF, .refl, ⟨fun _ h => (nomatch h), fun P hP => ⟨#[], hg P hP, True.intro⟩, fun p hp => LamX.TabS.nil (hl p hp), .nil⟩, .cons (.adr a) .nil, fun v d S' H' H2 q _ _ _ r => by
    subst q
    cases r
    rfl, fun _ _ _ _ z => z.elim⟩
theorem scr_ok {W : Wd} {a : Addr} {ns : List Int} {H : Hp} (h : SqL W.K H a (ns.map V.int)) : ScrAt W [] H a ns :=
  ScrAt.lq (fun b o e _ => off_of e fun z => nomatch z) h
theorem tab_gx {c P : Addr} (t : LamX.TabB base mg c P) : GxR.TabB base mg c P := ⟨t.code, t.bm, t.gP⟩
end
end Eh

/-! A new Move, told as data. -/
namespace Dw
open PySem PySem.Spec PyProof.Rows L2
section
variable {W : Wd} {E : XK} {te ta : TE} {δ : Dn} {S : List Addr} {H : Hp} {Φ : Ph} {X : Px}
def mkM (W : Wd) (F : Fs) (ds : List Dv) (Φ : Ph) (X : Px) (S1 : List Addr) (H1 : Hp) : Prop := ∀ x dx H2, Up W S1 H1 (x :: S1) H2 → H1 x = none → x ∉ S1 → H2 x = some (.ins W.CM dx []) →
  F (.adr x :: ds) (x :: S1) H2 (fun d S' H' => d = .non ∧ ∃ r s m, S' = x :: S1 ∧ Md W [x] H2 H' ∧ H' x = some (.ins W.CM dx (movF r s m)) ∧ Φ (.mov r s m) S1 H1) X
theorem ew_makeM {F : Fs} {t : TA} (h : Aw W E t δ S H (fun ds S1 H1 => mkM W F ds Φ X S1 H1) X) : Ew W E (tMake W.CM (toSp W F) [] E t) δ S H Φ X := fun σ H1 Q m c o ex =>
  h σ H1 _ m c (fun vs ds S1 G1 H2 q m1 t1 c1 r1 => fun x dx hx hdx ne => by
    have k0 : ∀ b o, H2 b = some o → upd (upd H2 dx (.own x)) x (.ins W.CM dx []) b = some o := fun b o e => by rw [upd_ne (ne_of_none e hx), upd_ne (ne_of_none e hdx)]; exact e
    have hm : Md W [] H2 (upd (upd H2 dx (.own x)) x (.ins W.CM dx [])) := Md.ext k0
    have nS := notS c1 hx
    have tr : Tr W S1 H2 (x :: S1) (upd (upd H2 dx (.own x)) x (.ins W.CM dx [])) := by
      refine ⟨hm.up, fun a ha => List.mem_cons_of_mem _ ha, fun a ha => (List.mem_cons.mp ha).elim (fun z => .inr (by rw [z]; exact hx)) .inl, fun a ha => ?_⟩
      rcases List.mem_cons.mp ha with z | z
      · rw [z]
        exact ⟨_, upd_same⟩
      · obtain ⟨u, e⟩ := c1.dom a z
        exact ⟨u, k0 _ _ e⟩
    have u1 : Up W S1 G1 (x :: S1) (upd (upd H2 dx (.own x)) x (.ins W.CM dx [])) := ⟨m1.trans hm, fun a ha => List.mem_cons_of_mem _ ha, fun a ha => (List.mem_cons.mp ha).elim (fun z => .inr (by rw [z]; exact m1.free hx)) .inl⟩
    refine ⟨_, x :: S1, _, _, X, q x dx _ u1 (m1.free hx) nS upd_same, .refl, c1.tr tr, by rw [List.append_nil]; exact .cons (.adr x) (tr.rpA r1), fun v d S' H' H3 ⟨e, r, s, mm, eS, m2, e2, q3⟩ m3 t3 c3 r3 => ?_, (ex.tr t1).tr tr⟩
    subst e
    subst eS
    cases r3
    have e3 : H3 x = some (.ins W.CM dx (movF r s mm)) := m3.at e2
    have mm3 : Md W [] G1 H3 := (u1.md.drop m2 fun y hy => by rw [List.mem_singleton.mp hy]; exact m1.free hx).trans m3
    have t4 : Tr W S1 H2 S1 H3 := ⟨(tr.trans t3).md, fun _ z => z, fun _ z => .inl z, fun a ha => t3.dom a (List.mem_cons_of_mem _ ha)⟩
    exact ⟨rfl, o (.ref x) (.mov r s mm) S1 G1 H3 q3 mm3 (t1.trans t4) (c1.nil.tr t4) (Rp.mov (off_of e3 nS))⟩) ex
/-- the parts of a Move -/
theorem ew_movM {F : Fs} {t : TA} {nm : Str} (hn : ∀ r f m, (movF r f m).lookup nm = none) {P : Int → Str → Int → Prop} (h : Ew W E ta δ S H (fun d S1 H1 => ∃ r f m, d = .mov r f m ∧ Aw W E t δ S1 H1 (fun ds S2 H2 => F (d :: ds) S2 H2 Φ X) X) X) :
    Ew W E (tMeth W.CM nm (toSp W F) [] E ta t) δ S H Φ X := ew_methV hn h
theorem movF_no {nm : Str} (h1 : ¬ nm = "rod") (h2 : ¬ nm = "side") (h3 : ¬ nm = "many") (r : Int) (f : Str) (m : Int) : (movF r f m).lookup nm = none := by
  unfold movF
  rw [lookup_putF, if_neg h3, lookup_putF, if_neg h2, lookup_putF, if_neg h1]
  all_goals rfl
end
end Dw

/-! In-place words over ints. -/
namespace Dw
open PySem PySem.Spec PyProof.Rows L2
section
variable {W : Wd} {X : Cx}
theorem ip_mul : PIp X .Mult (rI CMul fun i j => .int (i * j)) := by
  intro pins s σ H x y v u Q I r1 r2 h
  obtain ⟨i, j, e1, e2, hc, q⟩ := h
  subst e1; subst e2
  obtain ⟨t, rfl⟩ := r1
  obtain ⟨t', rfl⟩ := r2
  exact imul_int ⟨.int _, H, I.tok _, ⟨_, rfl⟩, q⟩ hc.ok
theorem dIp {f : Int → Int → Int} : OpD W (ipI f) (iiB (fun _ _ => True) fun i j => .int (f i j)) := fun x y v u Φ S H H1 Q m c rx ry ⟨i, j, e1, e2, _, q⟩ o => by
  subst e1 e2
  cases rx
  cases ry
  exact ⟨i, j, rfl, rfl, o.pure c m (.int _) q⟩
theorem dIpC {C : Int → Int → Prop} {f : Int → Int → Int} : OpD W (rI C fun i j => .int (f i j)) (iiB C fun i j => .int (f i j)) := fun x y v u Φ S H H1 Q m c rx ry ⟨i, j, e1, e2, hc, q⟩ o => by
  subst e1 e2
  cases rx
  cases ry
  exact ⟨i, j, rfl, rfl, hc, o.pure c m (.int _) q⟩
end
end Dw

/-! find, slices of texts, pairs of unlike kinds. -/
namespace Dw
open PySem PySem.Spec PyProof.Rows L2
section
variable {W : Wd} {E : XK} {S : List Addr} {H : Hp} {Φ : Ph} {δ : Dn} {X : Px}
def findB : Dv → List Dv → Ph → List Addr → Hp → Prop := fun d ds Φ S H => ∃ a b, d = .str a ∧ ds = [.str b] ∧ Φ (.int (Txt.find a b)) S H
theorem meD_find : MeD W (fun x xs H Q => ∃ a b, x = .str a ∧ xs = [.str b] ∧ Q (.int (Txt.find a b)) H) findB := fun d v xs vs Φ S H H1 Q m c rx rs ⟨a, b, e1, e2, q⟩ o => by
  subst e1 e2
  cases rx
  cases rs with
  | cons r1 rr =>
    cases r1
    cases rr
    exact ⟨a, b, rfl, rfl, o.pure c m (.int _) q⟩
theorem lf_find {a b : Str} (q : Φ (.int (Txt.find a b)) S H) : findB (.str a) [.str b] Φ S H := ⟨a, b, rfl, rfl, q⟩
theorem lf_sl_str {z : Str} {lo hi : Option Int} (h : z.length ≤ sizeLine) (q : Φ (.str (cutS z lo hi)) S H) : slB (.str z) lo hi Φ S H := .inr (.inr ⟨z, rfl, h, q⟩)
theorem eqD_two {a b c d : Dv} : eqD (.tup [a, b]) (.tup [c, d]) = (eqD a c && eqD b d) := by
  have e : ∀ x y : Dv, toP (.tup [x, y]) = .tuple [toP x, toP y] := fun x y => by simp only [toP, toPs]
  unfold eqD
  rw [e, e]
  exact eqv_two
theorem okN_two {n : Nat} {a b : Dv} (h1 : OkN n a) (h2 : OkN n b) : OkN (n + 1) (.tup [a, b]) := okN_tup fun d hd => by
  rcases List.mem_cons.mp hd with rfl | hd
  · exact h1
  · rw [List.mem_singleton.mp hd]; exact h2
theorem lf_eq_is {i j : Int} {s t : Str} (hs : PyData.strOk s = true) (ht : PyData.strOk t = true) (q : Φ (.bl (decide (i = j ∧ s = t))) S H) : eqB false (.tup [.int i, .str s]) (.tup [.int j, .str t]) Φ S H := by
  refine lf_eq ((okN_two (okN_int i) (okN_str hs)).ok (by decide)) ((okN_two (okN_int j) (okN_str ht)).ok (by decide)) ?_ q
  rw [eqD_two, eqD_int, eqD_str, Bool.eq_iff_iff]
  simp
end
end Dw

/-! Whether a list of any things is empty, asked by != []. -/
namespace Dw
open PySem PySem.Spec PyProof.Rows L2
section
variable {X : Cx} {K : PySem.W.Frag}
def rNeE (K : PySem.W.Frag) : R2 := fun x y H Q => ∃ a b xs ys, x = .ref a ∧ y = .ref b ∧ SqL K H a xs ∧ SqL K H b ys ∧ (xs.length = ys.length → xs = []) ∧ Q (.bl (decide (xs.length ≠ ys.length))) H
theorem op_neE (hu : X.A.units + 64 < cLine) : OpR X (compareOp .NotEq) (rNeE X.K) := by
  intro pins s σ H x y v u Q I rx ry h
  obtain ⟨a, b, xs, ys, rfl, rfl, h1, h2, hz, q⟩ := h
  obtain ⟨is1, r1, p1, _⟩ := I.list h1
  obtain ⟨is2, r2, p2, _⟩ := I.list h2
  obtain rfl : v = Value.ref a := rx
  obtain rfl : u = Value.ref b := ry
  have l1 := r1.length
  have l2 := r2.length
  by_cases e : xs.length = ys.length
  · have e0 := hz e
    have es : is1.toArray.size = is2.toArray.size := by simp; omega
    have ez : is1.toArray.size = 0 := by rw [e0] at l1; rw [List.size_toArray]; exact l1.symm
    rw [decide_eq_false (fun z => z e)] at q
    refine SeqAt.RcNeAt.lists (e := fun _ => true) p1.isList p2.isList es (by omega) (fun j h1 _ => absurd (ez ▸ h1 : j < 0) (Nat.not_lt_zero j)) X.prog X.w _ _ ?_
    rw [ez]
    exact ⟨.bl _, H, I, rfl, q⟩
  · rw [decide_eq_true e] at q
    refine SeqAt.RcNeAt.lists_lengths p1.isList p2.isList (by simp; omega) (by omega) X.prog X.w _ _ ?_
    exact ⟨.bl _, H, I, rfl, q⟩
theorem w_neE (hK : X.K = K) (hu : X.A.units + 64 < cLine) : OpR X (compareOp .NotEq) (rNeE K) := by subst hK; exact op_neE hu
end
section
variable {W : Wd} {E : XK} {S : List Addr} {H : Hp} {Φ : Ph} {δ : Dn} {X : Px}
def AsL (W : Wd) (S : List Addr) (H : Hp) (d : Dv) (xs : List Dv) : Prop := d = .lst xs ∨ ∃ a, d = .adr a ∧ LstAt W S H a xs
def neEB (W : Wd) : Dv → Dv → Ph → List Addr → Hp → Prop := fun x y Φ S H => ∃ xs ys, AsL W S H x xs ∧ AsL W S H y ys ∧ (xs.length = ys.length → xs = []) ∧ Φ (.bl (decide (xs.length ≠ ys.length))) S H
theorem asL_sq {H1 : Hp} {d : Dv} {xs : List Dv} {v : V} (m : Md W [] H H1) (r : Rp W (off S H1) d v) (h : AsL W S H d xs) : ∃ a vs, v = .ref a ∧ SqL W.K H1 a vs ∧ vs.length = xs.length := by
  rcases h with rfl | ⟨a, rfl, l⟩
  · cases r with
    | lst h ra => exact ⟨_, _, rfl, sqL_off h, ra.length.symm⟩
  · cases r
    obtain ⟨_, ys, hx, ra⟩ := LstAt.up (Up.of m) l
    exact ⟨a, ys, rfl, .inl (.inl hx), ra.length.symm⟩
theorem dNeE : OpD W (rNeE W.K) (neEB W) := fun x y v u Φ S H H1 Q m c rx ry ⟨xs, ys, a1, a2, hz, q⟩ o => by
  obtain ⟨a, vs, rfl, s1, l1⟩ := asL_sq m rx a1
  obtain ⟨b, us, rfl, s2, l2⟩ := asL_sq m ry a2
  refine ⟨a, b, vs, us, rfl, rfl, s1, s2, fun e => ?_, ?_⟩
  · have e0 := hz (by omega)
    rw [e0] at l1
    exact List.eq_nil_of_length_eq_zero l1
  · rw [l1, l2]
    exact o.pure c m (.bl _) q
theorem lf_neE_adr {a : Addr} {xs : List Dv} (l : LstAt W S H a xs) (q : Φ (.bl (decide (xs ≠ []))) S H) : neEB W (.adr a) (.lst []) Φ S H := ⟨xs, [], .inr ⟨a, rfl, l⟩, .inl rfl, fun e => List.eq_nil_of_length_eq_zero e, by
  have e : decide (xs.length ≠ ([] : List Dv).length) = decide (xs ≠ []) := by
    rw [Bool.eq_iff_iff]
    simp
  rw [e]
  exact q⟩
end
end Dw

/-! sum of a generator expression over whole numbers. -/
namespace Gz
open PySem PySem.Spec PyProof.Rows L2 GxR Dw
section
variable {X : Cx} {pins : List (Addr × Obj)} {σ : L2.St} {H : Hp} {s : Shared}
abbrev ElI := L2.St → V → Hp → Nat → (Nat → Int) → Prop
def ElOkI (X : Cx) (Pt : Addr) (scope : Scope) (tg elt : Expr) (El : ElI) (G : Nat → (Nat → Int) → Nat → Value → Prop) : Prop := ∀ σ v H1 n pb, El σ v H1 n pb → ∀ (pins : List (Addr × Obj)) (s1 : Shared) (xv : Value), Inv X pins σ H1 s1 → TabG H1 Pt → RelV v xv → ∃ (Pv : Nat → Value → Prop) (St : Nat → Heap → Prop), Src X xv s1 n Pv St ∧
  ∀ cenv : Env, cenv.scope = scope → cenv.cells = cloFrom X.env.cells scope.names [] → cenv.globals = X.env.globals → cenv.builtins = builtinsNs → (∀ b o, s1.heap.get? b = some o → b ≠ cenv.locals) → TurnsAt X.prog X.w cenv tg elt s1.heap.objs.size Pt s1 Pv (G n pb) St
abbrev isI : Nat → (Nat → Int) → Nat → Value → Prop := fun _ pb i y => ∃ t, y = .int (pb i) t
def tSumG (Pt : Addr) (El : ElI) (te : TE) : TE := fun σ H Q => te σ H fun v H1 => TabG H1 Pt ∧ ∃ n pb, El σ v H1 n pb ∧ (∀ j, j < n → InLong (pb j) ∧ InLong (preSum pb (j + 1))) ∧ ∀ H2, Tabbed Pt H1 H2 → Q (.int (preSum pb n)) H2
theorem pe_sumG {c Pt : Addr} {elt tg iter : Expr} {p pos gpos : Pos} {scope : Scope} {El : ElI} {te : TE} {k : Nat} (hr : Room k X.A) (hg : Gl X "sum") (hm : X.mg "sum" = none) (TB : TabB X.base X.mg c Pt) (hcode : X.env.code = .ref c) (S : Sc X.env.scope scope) (hi : PE X iter te)
    (hel : ElOkI X Pt scope tg elt El isI) (hs : ∀ v, genFold iter X.env v = pure v := by intro _; rfl)
    (he : starEach [gE elt tg iter scope gpos] X.env = (false, eval (gE elt tg iter scope gpos) X.env) :: starEach [] X.env := by rfl) : PE X (.Call (.Name "sum" p) [gE elt tg iter scope gpos] [] pos) (tSumG Pt El te) := by
  refine ⟨fun pins s σ H Q I h => ?_⟩
  refine wpAny_Call_Name_kw (ld_blt I hg hm (show bootBuiltins "sum" = some (.builtin "sum") by decide +kernel) (PyProof.Rows.callWith_builtin1 ?_ he (by rfl)))
  rw [he]
  show wpAny _ _ (spliced ((false, eval (gE elt tg iter scope gpos) X.env) :: backTo pos (starEach [] X.env))) _ _ s
  refine Calls.spliced_cons (gen (Z := fun v H1 => TabG H1 Pt ∧ ∃ n pb, El σ v H1 n pb ∧ (∀ j, j < n → InLong (pb j) ∧ InLong (preSum pb (j + 1))) ∧ ∀ H2, Tabbed Pt H1 H2 → Q (.int (preSum pb n)) H2) hr TB hcode S hi hs I h (fun _ _ z => z.1) fun v H1 s1 xv I1 rv z => ?_)
  obtain ⟨hTab, n, pb, hE, hfit, hQ⟩ := z
  obtain ⟨Pv, St, hS, hT⟩ := hel σ v H1 n pb hE pins s1 xv I1 hTab rv
  refine ⟨n, Pv, isI n pb, St, hS, fun cenv a1 a2 a3 a4 a5 => hT cenv a1 a2 a3 a4 a5, fun g s5 hR => Calls.spliced_nil ?_⟩
  obtain ⟨fp, wr, G, St2, Wx, hst, hfp, hI⟩ := hR
  refine call_sum_walkS (Wx.self 0 _ _ _ hst ⟨g, fp, wr, G, _, _, St2, pb, rfl, Wx, hst, hfp, fun i v hv => hv.at.2, hfit, fun s' t' hmv => ?_⟩)
  obtain ⟨H2, hT2, J⟩ := hI s' hmv
  exact ⟨.int _, H2, J, ⟨_, rfl⟩, hQ H2 hT2⟩
end
section
variable {W : Wd} {E : XK} {te : TE} {δ : Dn} {S : List Addr} {H : Hp} {Φ : Ph} {X : Px} {Pt : Addr}
theorem ew_sumG {El : ElI} {B : Dv → List Addr → Hp → Nat → (Nat → Int) → Prop} (hT : Pt ∈ W.TG) (hL : ∀ p ∈ W.TL, p.1 ≠ Pt) (hB : ∀ σ d v S1 H1 H2 n pb, B d S1 H1 n pb → Md W [] H1 H2 → Cn W S1 δ σ H2 → Rp W (off S1 H2) d v → El σ v H2 n pb)
    (h : Ew W E te δ S H (fun d S1 H1 => ∃ n pb, B d S1 H1 n pb ∧ (∀ j, j < n → InLong (pb j) ∧ InLong (preSum pb (j + 1))) ∧ Φ (.int (preSum pb n)) S1 H1) X) : Ew W E (tSumG Pt El te) δ S H Φ X := fun σ H1 Q m c o ex =>
  h σ H1 _ m c (fun v d S1 G1 H2 ⟨n, pb, b, hfit, q⟩ m1 t1 c1 r1 => ⟨c1.tg Pt hT, n, pb, hB σ d v S1 G1 H2 n pb b m1 (c.tr t1) r1, hfit, fun H3 ht => by
    have mt := md_tab (c1.tg Pt hT) ht hL
    have tt := c1.md mt
    exact (o.tr t1) _ _ S1 G1 H3 q (m1.trans mt) tt (c1.tr tt) (.int _)⟩) ex
end
end Gz

/-! The element abs(x.many), over Moves. -/
namespace Gz
open PySem PySem.Spec PyProof.Rows L2 GxR Dw
def absI (m : Int) : Int := if m < 0 then -m else m
/-- Moves in a list or a tuple -/
def ElM (K : PySem.W.Frag) (C : Addr) : ElI := fun _ v H n pb => ∃ (a : Addr) (xs : List V), v = .ref a ∧ (SqL K H a xs ∨ SqT K H a xs) ∧ n = xs.length ∧ ∀ i x, xs[i]? = some x → ∃ (r dx : Addr) (q : Int) (f : Str) (m : Int), x = .ref r ∧ H r = some (.ins C dx (movF q f m)) ∧ pb i = absI m
theorem wp_abs {M : Program} {w : World} {B : Around} {E : Value → Shared → Prop} {cenv : Env} {s : Shared} {e : Expr} {p pos : Pos} {Q : Value → Shared → Prop} (he : starEach [e] cenv = (false, eval e cenv) :: starEach [] cenv) (hf : wpAny (model M w) B (eval (.Name "abs" p) cenv) (fun u s' => u = .builtin "abs" ∧ s' = s) E s)
    (h : wpAny (model M w) B (eval e cenv) (fun v s2 => ∃ (z : Int) (t : Tok), v = .int z t ∧ ∀ u tk, Q (.int (absI z) u) { s2 with toks := tk }) E s) : wpAny (model M w) B (eval (.Call (.Name "abs" p) [e] [] pos) cenv) Q E s := by
  refine wpAny_Call_Name_kw (wpAny_mono hf (fun u s' hu => ?_) fun _ _ z => z)
  obtain ⟨rfl, rfl⟩ := hu
  refine PyProof.Rows.callWith_builtin1 ?_ he (by rfl)
  rw [he]
  show wpAny _ _ (spliced ((false, eval e cenv) :: backTo pos (starEach [] cenv))) _ _ _
  refine Calls.spliced_cons (wpAny_mono h (fun v s2 hv => ?_) fun _ _ z => z)
  obtain ⟨z, t, rfl, q⟩ := hv
  exact Calls.spliced_nil (call_abs_int fun u tk => q u tk)
theorem el_abs {X : Cx} {K : PySem.W.Frag} {C c Pt : Addr} {scope : Scope} {x : Str} {p0 p1 p2 p3 p4 : Pos} (hK : X.K = K) (TB : TabB X.base X.mg c Pt) (hc : Cls K C) (hn0 : NoAttr K C "many") (hk : scope.kind = .function) (hx : scope.names.lookup x = some .local) (hab : scope.names.lookup ("abs" : Str) = some .globalImplicit)
    (hm : X.mg "abs" = none) (dx : (x == ("__debug__" : Str)) = false := by decide) :
    ElOkI X Pt scope (.Name x p0) (.Call (.Name "abs" p1) [.Attribute (.Name x p2) "many" p3] [] p4) (ElM K C) isI := by
  rintro σ v H1 n pb ⟨a, xs, rfl, hs, rfl, hpb⟩ pins s1 xv I hTab rv
  subst hK
  cases rv
  have hboot : bootBuiltins "abs" = some (.builtin "abs") := by decide +kernel
  obtain ⟨its, rvs, hseq⟩ : ∃ its : List Value, Vals xs its ∧ (s1.heap.IsList a its.toArray ∨ IsTup s1.heap a its.toArray) := by
    rcases hs with hs | hs
    · obtain ⟨its, r, pl, _⟩ := I.list hs
      exact ⟨its, r, .inl pl.isList⟩
    · obtain ⟨its, r, pl, _⟩ := I.tuple hs
      exact ⟨its, r, .inr pl⟩
  have hlenI : its.length = xs.length := by rw [← rvs.length]
  have turn : ∀ (St : Nat → Heap → Prop) (cenv : Env), cenv.scope = scope → cenv.cells = cloFrom X.env.cells scope.names [] → cenv.globals = X.env.globals → cenv.builtins = builtinsNs → (∀ b o, s1.heap.get? b = some o → b ≠ cenv.locals) →
      TurnsAt X.prog X.w cenv (.Name x p0) (.Call (.Name "abs" p1) [.Attribute (.Name x p2) "many" p3] [] p4) s1.heap.objs.size Pt s1 (fun i v => its.toArray[i]? = some v) (isI xs.length pb) St := by
    intro St cenv e1 e2 e3 e4 hfr B Er i v s m hB hv' st hn kp
    have hvi : its[i]? = some v := by simpa using hv'
    have hi : i < xs.length := by rw [← hlenI]; exact (List.getElem?_eq_some_iff.mp hvi).1
    obtain ⟨r, dxx, q, f, mm, exi, hr, epb⟩ := hpb i xs[i] (List.getElem?_eq_getElem hi)
    obtain rfl : v = .ref r := by
      obtain ⟨u, h1, h2⟩ := rvs.get (List.getElem?_eq_getElem hi)
      rw [hvi] at h1
      cases h1
      rw [exi] at h2
      exact h2
    have ck : cenv.scope.kind = .function := by rw [e1]; exact hk
    have ka : cenv.kindOf x = some .local := by
      show cenv.scope.names.lookup x = some .local
      rw [e1]
      exact hx
    have kl : cenv.kindOf "abs" = some .globalImplicit := by
      show cenv.scope.names.lookup _ = _
      rw [e1]
      exact hab
    have hp : (cenv.scope.kind == .class || (cenv.scope.kind == .module && cenv.locals != cenv.globals)) = false := by
      rw [e1, hk]
      rfl
    refine wpAny_of_eq (rfl : letOwnedTupleGo (.Name x p0) (.ref s1.heap.objs.size) (.ref r) = pure ()) ?_
    refine wpAny_assign_Name (wpAny_storeName_local ka hn (fun h2 hn2 hs2 => ?_) hp)
    have k2 : ∀ b o, b ≠ cenv.locals → s.heap.get? b = some o → h2.get? b = some o := fun b o hb e => hs2.extBut b o hb e
    refine ⟨⟨h2, _, _, rfl, hn2, k2⟩, fun Ez => ?_⟩
    have kp2 : ∀ (tk : Nat) b o, b ≠ Pt → s1.heap.get? b = some o → ({ s with heap := h2, toks := tk } : Shared).heap.get? b = some o := fun _ b o hb e => k2 b o (hfr b o e) (kp b o hb e)
    have hK2 : X.K.In h2 := I.ok.mod.kin.keeps fun b o e => kp2 0 b o (fun z => by
      obtain ⟨ps, hP, _⟩ := hTab
      have := (I.bs b o e).2
      rw [z, hP] at this
      cases this) (I.bk b o e)
    obtain ⟨mA, O, rO, _, _, _⟩ := ins_get I.hok hr
    have O2 : ObjM h2 r dxx C mA := by
      refine ⟨kp2 0 r _ (tab_obj I hTab O.obj (by intro z; cases z)) O.obj, ?_, O.ne⟩
      obtain ⟨od, es, ep, ed, dd, _⟩ := O.ns
      refine O.ns.at fun o e => kp2 0 dxx o (fun z => ?_) e
      obtain ⟨ps, hP, _⟩ := hTab
      have h9 : s1.heap.get? Pt = some { cls := .none, data := .fields ps } := I.hok Pt _ hP
      rw [← z, ed] at h9
      cases h9
      cases dd
    have hl : (movF q f mm).lookup ("many" : Str) = some (.int mm) := by
      unfold movF
      rw [lookup_putF, if_pos rfl]
    obtain ⟨u, hu, ru⟩ := RelO.some_of (v := .int mm) (o := mA "many") (by rw [← hl]; exact rO "many")
    obtain ⟨t, rfl⟩ := ru
    refine wp_abs rfl (ld_len I hTab TB.gP ck kl e3 e4 hm hboot (kp2 _) ⟨rfl, rfl⟩) ?_
    refine attr_of rfl (wpAny_Name (wpAny_loadName_local ck ka hn2 (if_pos rfl) ?_) dx)
    refine get_map hK2 O2 (hc.get "many") hc.hd hn0 hu rfl ?_
    refine ⟨mm, t, rfl, fun u tk => ⟨⟨u, by rw [epb]⟩, ⟨h2, tk, rfl, fun _ _ e => e⟩⟩⟩
  rcases hseq with hl | hl
  · refine ⟨_, _, by have := src_list (X := X) hl; rw [List.size_toArray, hlenI] at this; exact this, turn _⟩
  · refine ⟨_, _, by have := src_tuple (X := X) hl; rw [List.size_toArray, hlenI] at this; exact this, turn _⟩
section
variable {W : Wd} {E : XK} {te : TE} {δ : Dn} {S : List Addr} {H : Hp} {Φ : Ph} {X : Px} {Pt : Addr}
theorem preSum_of (ns : List Int) : ∀ n, n ≤ ns.length → preSum (fun i => ns.getD i 0) n = (ns.take n).sum
  | 0, _ => by simp [preSum]
  | n + 1, h => by
    have e := preSum_of ns n (by omega)
    rw [List.take_add_one, List.getElem?_eq_getElem (by omega), List.sum_append]
    show preSum _ n + _ = _
    rw [e]
    simp [List.getD, List.getElem?_eq_getElem (show n < ns.length by omega)]
/-- sum(abs(x.many) for x in moves) -/
theorem ew_sumAbs {ms : List (Int × Str × Int)} (hT : Pt ∈ W.TG) (hL : ∀ p ∈ W.TL, p.1 ≠ Pt) (hb : ms.length ≤ 1000000) (hm : ∀ x ∈ ms, -1000 ≤ x.2.2 ∧ x.2.2 ≤ 1000)
    (h : Ew W E te δ S H (fun d S1 H1 => (d = .lst (ms.map fun x => .mov x.1 x.2.1 x.2.2) ∨ d = .tup (ms.map fun x => .mov x.1 x.2.1 x.2.2)) ∧ Φ (.int (ms.map fun x => absI x.2.2).sum) S1 H1) X) : Ew W E (tSumG Pt (ElM W.K W.CM) te) δ S H Φ X := by
  refine ew_sumG (B := fun d S1 H1 n pb => (d = .lst (ms.map fun x => .mov x.1 x.2.1 x.2.2) ∨ d = .tup (ms.map fun x => .mov x.1 x.2.1 x.2.2)) ∧ n = ms.length ∧ pb = fun i => (ms.map fun x => absI x.2.2).getD i 0) hT hL (fun σ d v S1 H1 H2 n pb ⟨hd, en, ep⟩ m c r => ?_) fun σ H1 Q m c o ex => h σ H1 _ m c (fun v d S1 G1 H2 ⟨hd, q⟩ m1 t1 c1 r1 => o v d S1 G1 H2 ⟨ms.length, _, ⟨hd, rfl, rfl⟩, fun j hj => ?_, ?_⟩ m1 t1 c1 r1) ex
  · subst en ep
    have items : ∀ {xs : List V}, RpA W (off S1 H2) (ms.map fun x => Dv.mov x.1 x.2.1 x.2.2) xs → xs.length = ms.length ∧ ∀ i x, xs[i]? = some x → ∃ (r dx : Addr) (q : Int) (f : Str) (m : Int), x = .ref r ∧ H2 r = some (.ins W.CM dx (movF q f m)) ∧ (ms.map fun x => absI x.2.2).getD i 0 = absI m := fun {xs} ra => by
      refine ⟨by rw [← ra.length, List.length_map], fun i x hx => ?_⟩
      obtain ⟨d, h1, h2⟩ := ra.getV hx
      rw [List.getElem?_map] at h1
      cases e : ms[i]? with
      | none => rw [e] at h1; cases h1
      | some y =>
        rw [e] at h1
        cases h1
        cases h2 with
        | mov ha => exact ⟨_, _, _, _, _, rfl, (of_off ha).1, by simp [List.getD, e]⟩
    rcases hd with rfl | rfl
    · cases r with
      | lst h2 ra => exact ⟨_, _, rfl, .inl (sqL_off h2), (items ra).1.symm, (items ra).2⟩
    · cases r with
      | tup h2 ra => exact ⟨_, _, rfl, .inr ((off_lq _ _).sqT h2), (items ra).1.symm, (items ra).2⟩
  · have hl : (ms.map fun x => absI x.2.2).length = ms.length := List.length_map ..
    have bd : ∀ (ns : List Int), (∀ z ∈ ns, 0 ≤ z ∧ z ≤ 1000) → 0 ≤ ns.sum ∧ ns.sum ≤ 1000 * ns.length := fun ns => by
      induction ns with
      | nil => intro _; simp
      | cons a ns ih =>
        intro hz
        have h1 := ih fun z hz2 => hz z (List.mem_cons_of_mem _ hz2)
        have h2 := hz a List.mem_cons_self
        rw [List.sum_cons, List.length_cons]
        omega
    have hall : ∀ z ∈ (ms.map fun x => absI x.2.2), 0 ≤ z ∧ z ≤ 1000 := fun z hz => by
      obtain ⟨x, hx, rfl⟩ := List.mem_map.mp hz
      have := hm x hx
      unfold absI
      split <;> omega
    refine ⟨?_, ?_⟩
    · have : (ms.map fun x => absI x.2.2).getD j 0 ∈ (ms.map fun x => absI x.2.2) := by
        rw [List.getD_eq_getElem?_getD, List.getElem?_eq_getElem (by omega)]
        exact List.getElem_mem _
      have := hall _ this
      unfold InLong
      omega
    · rw [preSum_of _ _ (by omega)]
      have h1 := bd ((ms.map fun x => absI x.2.2).take (j + 1)) fun z hz => hall z (List.mem_of_mem_take hz)
      have h2 : ((ms.map fun x => absI x.2.2).take (j + 1)).length ≤ ms.length := by rw [List.length_take]; omega
      unfold InLong
      omega
  · rw [preSum_of _ _ (by rw [List.length_map]; exact Nat.le_refl _)]
    have e : (ms.map fun x => absI x.2.2).take ms.length = ms.map fun x => absI x.2.2 := List.take_of_length_le (by rw [List.length_map]; exact Nat.le_refl _)
    rw [e]
    exact q
end
end Gz

/-! The element (sign in text), over a text. -/
namespace Gz
open PySem PySem.Spec PyProof.Rows L2 GxR Dw
/-- a text's signs, each asked whether it stands in y -/
def ElC (y : Str) : ElB := fun _ v _ n pb => ∃ z : Str, v = .str z ∧ n = z.cps.size ∧ ∀ i c, z.cps[i]? = some c → pb i = decide (c ∈ y.cps.toList)
theorem el_signs {X : Cx} {K : PySem.W.Frag} {Pt : Addr} {scope : Scope} {x y : Str} {k1 : Nat} {p0 p1 p2 p3 : Pos} (hK : X.K = K) (hk : scope.kind = .function) (hx : scope.names.lookup x = some .local) (dx : (x == ("__debug__" : Str)) = false := by decide) :
    ElOk X Pt scope (.Name x p0) (.Compare (.Name x p1) [.In] [.Constant (.str y) k1 p2] p3) (ElC y) isB := by
  rintro σ v H1 n pb ⟨z, rfl, rfl, hpb⟩ pins s1 xv I hTab rv
  subst hK
  obtain ⟨tz, rfl⟩ := rv
  refine ⟨_, _, src_str (X := X), fun cenv e1 e2 e3 e4 hfr B Er i v s m hB hv st hn kp => ?_⟩
  obtain ⟨c, t, hc, rfl⟩ := hv
  have ck : cenv.scope.kind = .function := by rw [e1]; exact hk
  have ka : cenv.kindOf x = some .local := by
    show cenv.scope.names.lookup x = some .local
    rw [e1]
    exact hx
  have hp : (cenv.scope.kind == .class || (cenv.scope.kind == .module && cenv.locals != cenv.globals)) = false := by
    rw [e1, hk]
    rfl
  refine wpAny_of_eq (rfl : letOwnedTupleGo (.Name x p0) (.ref s1.heap.objs.size) (.str ⟨#[c]⟩ t) = pure ()) ?_
  refine wpAny_assign_Name (wpAny_storeName_local ka hn (fun h2 hn2 hs2 => ?_) hp)
  have k2 : ∀ b o, b ≠ cenv.locals → s.heap.get? b = some o → h2.get? b = some o := fun b o hb e => hs2.extBut b o hb e
  refine ⟨⟨h2, _, _, rfl, hn2, k2⟩, fun Ez => ?_⟩
  refine wpAny_Compare1 ?_
  refine wpAny_Name (wpAny_loadName_local ck ka hn2 (if_pos rfl) ?_) dx
  refine wpAny_Constant_str ?_
  refine in_str ⟨?_, ⟨h2, _, rfl, fun _ _ e => e⟩⟩
  show Value.bool _ = .bool (pb i)
  rw [hpb i c hc]
  congr 1
  have e := StrLaws.found_one y c
  exact e
section
variable {W : Wd} {E : XK} {te : TE} {δ : Dn} {S : List Addr} {H : Hp} {Φ : Ph} {X : Px} {Pt : Addr}
theorem all_range {α : Type} (d : α) (f : α → Bool) (l : List α) : (List.range l.length).all (fun i => f (l.getD i d)) = l.all f := by
  rw [Bool.eq_iff_iff, List.all_eq_true, List.all_eq_true]
  refine ⟨fun h x hx => ?_, fun h i hi => ?_⟩
  · obtain ⟨i, hi, e⟩ := List.mem_iff_getElem.mp hx
    have := h i (List.mem_range.mpr hi)
    rw [List.getD_eq_getElem?_getD, List.getElem?_eq_getElem hi] at this
    rw [← e]
    exact this
  · have hi := List.mem_range.mp hi
    rw [List.getD_eq_getElem?_getD, List.getElem?_eq_getElem hi]
    exact h _ (List.getElem_mem hi)
/-- all(sign in y for sign in text) -/
theorem ew_allSigns {y : Str} (hT : Pt ∈ W.TG) (hL : ∀ p ∈ W.TL, p.1 ≠ Pt)
    (h : Ew W E te δ S H (fun d S1 H1 => ∃ z : Str, d = .str z ∧ Φ (.bl (z.cps.toList.all fun c => decide (c ∈ y.cps.toList))) S1 H1) X) : Ew W E (tAllG Pt (ElC y) te) δ S H Φ X := by
  refine ew_allG (B := fun d S1 H1 n pb => ∃ z : Str, d = .str z ∧ n = z.cps.toList.length ∧ pb = fun i => decide (z.cps.toList.getD i 0 ∈ y.cps.toList)) hT hL (fun σ d v S1 H1 H2 n pb ⟨z, hd, en, ep⟩ m c r => ?_) fun σ H1 Q m c o ex => h σ H1 _ m c (fun v d S1 G1 H2 ⟨z, hd, q⟩ m1 t1 c1 r1 => o v d S1 G1 H2 ⟨_, _, ⟨z, hd, rfl, rfl⟩, ?_⟩ m1 t1 c1 r1) ex
  · subst hd en ep
    cases r
    refine ⟨z, rfl, Array.length_toList, fun i c hc => ?_⟩
    have e : z.cps.toList[i]? = some c := by rw [Array.getElem?_toList]; exact hc
    show decide (z.cps.toList.getD i 0 ∈ y.cps.toList) = _
    rw [List.getD_eq_getElem?_getD, e]
    rfl
  · rw [all_range 0 (fun c => decide (c ∈ y.cps.toList))]
    exact q
end
end Gz

/-! Dicts from whole numbers to typed values; sorted of a list of data; the least of some. -/
namespace Dw
open PySem PySem.Spec PyProof.Rows L2
section
variable {α : Type} {D : α → Dv}
abbrev GD (α : Type) := List (Int × α)
def gdD (D : α → Dv) (d : GD α) : List (Ky × Dv) := d.map fun p => (Sum.inl p.1, D p.2)
def valG (d : GD α) (k : Int) : Option α := (d.find? fun p => decide (p.1 = k)).map (·.2)
def putG (d : GD α) (k : Int) (v : α) : GD α := if (d.any fun p => decide (p.1 = k)) = true then d.map (fun p => if p.1 = k then (p.1, v) else p) else d ++ [(k, v)]
theorem valG_cons (p : Int × α) (d : GD α) (k : Int) : valG (p :: d) k = if p.1 = k then some p.2 else valG d k := by
  unfold valG
  by_cases e : p.1 = k
  · rw [List.find?_cons_of_pos (by simpa using e), if_pos e]
    rfl
  · rw [List.find?_cons_of_neg (by simpa using e), if_neg e]
theorem val_gdD (d : GD α) (k : Int) : valD (gdD D d) (Sum.inl k) = (valG d k).map D := by
  induction d with
  | nil => rfl
  | cons p d ih =>
    rw [valG_cons]
    by_cases e : p.1 = k
    · rw [if_pos e]
      unfold valD gdD
      rw [List.map_cons, List.find?_cons_of_pos (by simpa using e)]
      rfl
    · rw [if_neg e, ← ih]
      unfold valD gdD
      rw [List.map_cons, List.find?_cons_of_neg (by simpa using e)]
theorem any_gdD (d : GD α) (k : Int) : ((gdD D d).any fun p => decide (p.1 = Sum.inl k)) = d.any fun p => decide (p.1 = k) := by
  unfold gdD
  rw [List.any_map]
  refine congrArg (fun f => d.any f) (funext fun p => ?_)
  show decide ((Sum.inl p.1 : Ky) = Sum.inl k) = decide (p.1 = k)
  rw [decide_eq_decide]
  exact ⟨fun z => by injection z, fun z => by rw [z]⟩
theorem put_gdD (d : GD α) (k : Int) (v : α) : putD (gdD D d) (Sum.inl k) (D v) = gdD D (putG d k v) := by
  unfold putD putG
  rw [any_gdD]
  split
  · unfold gdD
    rw [List.map_map, List.map_map]
    refine List.map_congr_left fun p _ => ?_
    show (if (Sum.inl p.1 : Ky) = Sum.inl k then ((Sum.inl p.1 : Ky), D v) else (Sum.inl p.1, D p.2)) = ((Sum.inl (if p.1 = k then (p.1, v) else p).1 : Ky), D (if p.1 = k then (p.1, v) else p).2)
    by_cases e : p.1 = k
    · rw [if_pos e, if_pos (congrArg Sum.inl e)]
    · rw [if_neg e, if_neg fun z => e (by injection z)]
  · unfold gdD
    rw [List.map_append]
    rfl
theorem gdD_len (d : GD α) : (gdD D d).length = d.length := List.length_map _
theorem putG_len (d : GD α) (k : Int) (v : α) : d.length ≤ (putG d k v).length ∧ (putG d k v).length ≤ d.length + 1 := by
  unfold putG
  split
  · rw [List.length_map]; exact ⟨Nat.le_refl _, Nat.le_succ _⟩
  · rw [List.length_append]; exact ⟨Nat.le_add_right _ _, Nat.le_refl _⟩
theorem valG_putG (d : GD α) (k : Int) (v : α) (j : Int) : valG (putG d k v) j = if j = k then some v else valG d j := by
  unfold putG
  induction d with
  | nil =>
    show valG [(k, v)] j = _
    rw [valG_cons]
    by_cases e : j = k
    · rw [if_pos e, if_pos e.symm]
    · rw [if_neg e, if_neg (fun z => e z.symm)]
  | cons p d ih =>
    by_cases e : p.1 = k
    · have ha : ((p :: d).any fun p => decide (p.1 = k)) = true := by rw [List.any_cons, decide_eq_true e]; rfl
      rw [if_pos ha, List.map_cons, valG_cons, if_pos e, valG_cons]
      by_cases ej : j = k
      · rw [if_pos ej, if_pos (by rw [e, ej])]
      · rw [if_neg ej, if_neg (by rw [e]; exact fun z => ej z.symm), if_neg (by rw [e]; exact fun z => ej z.symm)]
        have same : ∀ d : GD α, valG (d.map fun p => if p.1 = k then (p.1, v) else p) j = valG d j := fun d => by
          induction d with
          | nil => rfl
          | cons q d ih =>
            rw [List.map_cons, valG_cons, valG_cons, ih]
            by_cases eq : q.1 = k
            · rw [if_pos eq, if_neg (by rw [eq]; exact fun z => ej z.symm), if_neg (by rw [eq]; exact fun z => ej z.symm)]
            · rw [if_neg eq]
        exact same d
    · have ha : ((p :: d).any fun p => decide (p.1 = k)) = d.any fun p => decide (p.1 = k) := by rw [List.any_cons, decide_eq_false e]; rfl
      rw [ha, valG_cons]
      by_cases h : (d.any fun p => decide (p.1 = k)) = true
      · rw [if_pos h] at ih ⊢
        rw [List.map_cons, if_neg e, valG_cons, ih]
        by_cases ej : j = k
        · rw [if_neg (by rw [ej]; exact e)]
          simp only [if_pos ej]
        · simp only [if_neg ej]
      · rw [if_neg h] at ih ⊢
        rw [List.cons_append, valG_cons, ih]
        by_cases ej : j = k
        · rw [if_neg (by rw [ej]; exact e)]
          simp only [if_pos ej]
        · simp only [if_neg ej]
theorem valG_in {d : GD α} {k : Int} {v : α} (h : valG d k = some v) : (k, v) ∈ d := by
  induction d with
  | nil => cases h
  | cons p d ih =>
    rw [valG_cons] at h
    by_cases e : p.1 = k
    · rw [if_pos e] at h
      cases h
      rw [← e]
      exact List.mem_cons_self
    · rw [if_neg e] at h
      exact List.mem_cons_of_mem _ (ih h)
theorem valG_mem {d : GD α} {p : Int × α} (h : p ∈ d) : ∃ v, valG d p.1 = some v := by
  induction d with
  | nil => cases h
  | cons q d ih =>
    rw [valG_cons]
    by_cases e : q.1 = p.1
    · exact ⟨_, if_pos e⟩
    · rw [if_neg e]
      rcases List.mem_cons.mp h with z | z
      · exact absurd (by rw [z]) e
      · exact ih z
end
section
variable {W : Wd} {E : XK} {S : List Addr} {H : Hp} {Φ : Ph} {X : Px} {α : Type} {D : α → Dv}
theorem lf_gget {a : Addr} {d : GD α} {ky : Int} {v : α} (dw : DictAt W S H a (gdD D d)) (e : valG d ky = some v) (q : Φ (D v) S H) : dgetB W (.adr a) (.int ky) Φ S H := ⟨a, gdD D d, Sum.inl ky, D v, rfl, rfl, dw, by rw [val_gdD, e]; rfl, q⟩
theorem lf_gget1 {a : Addr} {d : GD α} {ky : Int} (dw : DictAt W S H a (gdD D d)) (q : Φ (((valG d ky).map D).getD .non) S H) : dget1B W (.adr a) (.int ky) Φ S H := ⟨a, gdD D d, Sum.inl ky, rfl, rfl, dw, by rw [val_gdD]; exact q⟩
theorem lf_gnotin {a : Addr} {d : GD α} {ky : Int} (dw : DictAt W S H a (gdD D d)) (q : Φ (.bl (valG d ky).isNone) S H) : dinB W true (.int ky) (.adr a) Φ S H := ⟨a, gdD D d, Sum.inl ky, rfl, rfl, dw, by rw [val_gdD]; cases e : valG d ky <;> (rw [e] at q; exact q)⟩
theorem lf_gin {a : Addr} {d : GD α} {ky : Int} (dw : DictAt W S H a (gdD D d)) (q : Φ (.bl (valG d ky).isSome) S H) : dinB W false (.int ky) (.adr a) Φ S H := ⟨a, gdD D d, Sum.inl ky, rfl, rfl, dw, by rw [val_gdD]; cases e : valG d ky <;> (rw [e] at q; exact q)⟩
theorem lf_gput {a : Addr} {d : GD α} {ky : Int} {v : α} {x : Dv} {Ψ : List Addr → Hp → Prop} (e : x = D v) (dw : DictW W S H a (gdD D d)) (hl : d.length < 1000000) (q : ∀ H', Md W [a] H H' → DictW W S H' a (gdD D (putG d ky v)) → Ψ S H') : dputB W (.adr a) (.int ky) x Ψ S H := by
  subst e
  exact ⟨a, gdD D d, Sum.inl ky, rfl, rfl, dw, by rw [gdD_len]; exact hl, fun H' m g => q H' m (by rw [put_gdD] at g; exact g)⟩
end
/-! ### sorted of a list of data -/
def rSortDa (K : PySem.W.Frag) : Rc := fun vs H Q => ∃ (a : Addr) (bs : List (V × PyData)), vs = [V.ref a] ∧ SqL K H a (bs.map (·.1)) ∧ (∀ b ∈ bs, Dp K H b.1 b.2) ∧ PySem.W.AllAlike (bs.map (·.2)) ∧ PySem.W.Sortable (bs.map (·.2)) ∧ (∀ b ∈ bs, b.2.depth ≤ 40) ∧
  ∀ p, H p = none → Q (.ref p) (upd H p (.lst ((bs.mergeSort (PySem.W.dataLe false (·.2))).map (·.1))))
theorem each_of_vals {X : Cx} {pins : List (Addr × Obj)} {σ : L2.St} {H : Hp} {s : Shared} (I : Inv X pins σ H s) : ∀ {bs : List (V × PyData)} {us : List Value}, Vals (bs.map (·.1)) us → (∀ b ∈ bs, Dp X.K H b.1 b.2) →
    PySem.W.EachIs (fun u (b : V × PyData) => RelV b.1 u) us bs ∧ PySem.W.EachIs (fun u (b : V × PyData) => ∃ as, Reads s.heap u b.2 as) us bs
  | [], _, .nil, _ => ⟨.nil, .nil⟩
  | b :: bs, _, .cons r t, h => by
    obtain ⟨h1, h2⟩ := each_of_vals I t fun c hc => h c (List.mem_cons_of_mem _ hc)
    exact ⟨.cons r h1, .cons (Dp.reads I _ _ _ (h b List.mem_cons_self) r) h2⟩
theorem vals_of_each : ∀ {bs : List (V × PyData)} {us : List Value}, PySem.W.EachIs (fun u (b : V × PyData) => RelV b.1 u) us bs → Vals (bs.map (·.1)) us
  | [], _, .nil => .nil
  | b :: bs, _, .cons r t => .cons r (vals_of_each t)
theorem c_sortDa {X : Cx} (hu : X.A.units + 64 < cLine) : CallR X (.builtin "sorted") (rSortDa X.K) := by
  intro pins s σ H vs us Q I r h
  obtain ⟨a, bs, rfl, hs, hd, hal, hso, hz, q⟩ := h
  obtain ⟨its, rv, hl, hlen⟩ := I.list hs
  obtain ⟨u, rfl, ru⟩ := vals1 r
  obtain rfl : u = Value.ref a := ru
  obtain ⟨e1, e2⟩ := each_of_vals I rv hd
  have hn : bs.length ≤ sizeLine := by rw [List.length_map] at hlen; exact hlen
  refine PySem.W.sorted_data (enc := fun b : V × PyData => b.2) hl.isList e1 e2 hal hso hn (fun b hb => ?_) fun out ho hr => ?_
  · have := hz b hb
    show X.A.units + 2 + b.2.depth < cLine
    omega
  · obtain ⟨ep, he'⟩ := PyProof.Rows.sortedAll_at s.heap its out.toArray
    have ln : ((bs.mergeSort (PySem.W.dataLe false fun b : V × PyData => b.2)).map (·.1)).length ≤ sizeLine := by
      rw [List.length_map, (List.mergeSort_perm bs _).length_eq]
      exact hn
    exact ⟨.ref (s.heap.objs.size + 1), upd H (s.heap.objs.size + 1) (.lst ((bs.mergeSort (PySem.W.dataLe false fun b : V × PyData => b.2)).map (·.1))), I.laid (t' := s.toks) (fun _ _ => PyProof.Rows.sortedAll_old) (Nat.le_succ _) ⟨ln, out, ep, vals_of_each hr, he'⟩, rfl, q _ (I.hok.fresh (Nat.le_succ _))⟩
theorem w_sortDa {X : Cx} {K : PySem.W.Frag} (hK : X.K = K) (hu : X.A.units + 64 < cLine) : CallR X (.builtin "sorted") (rSortDa K) := by subst hK; exact c_sortDa hu
def sortDaB (xs : List Dv) (Φ : Ph) (S : List Addr) (H : Hp) : Prop := ∃ ds, xs = [.lst ds] ∧ (∀ d ∈ ds, pureD d = true) ∧ PySem.W.AllAlike (ds.map toP) ∧ PySem.W.Sortable (ds.map toP) ∧ (∀ d ∈ ds, (toP d).depth ≤ 40) ∧ Φ (.lst (ds.mergeSort (PySem.W.dataLe false toP))) S H
theorem zip_rpa {W : Wd} {G : Hp} : ∀ {ds : List Dv} {vs : List V}, RpA W G ds vs → ∃ bs : List (V × Dv), bs.map (·.1) = vs ∧ bs.map (·.2) = ds ∧ ∀ b ∈ bs, Rp W G b.2 b.1
  | _, _, .nil => ⟨[], rfl, rfl, fun _ z => nomatch z⟩
  | _, _, .cons (d := d) (v := v) h r => by
    obtain ⟨bs, e1, e2, h3⟩ := zip_rpa r
    refine ⟨(v, d) :: bs, by rw [List.map_cons, e1], by rw [List.map_cons, e2], fun b hb => ?_⟩
    rcases List.mem_cons.mp hb with z | z
    · rw [z]; exact h
    · exact h3 b z
theorem rpa_of {W : Wd} {G : Hp} : ∀ {bs : List (V × Dv)}, (∀ b ∈ bs, Rp W G b.2 b.1) → RpA W G (bs.map (·.2)) (bs.map (·.1))
  | [], _ => .nil
  | b :: bs, h => .cons (h b List.mem_cons_self) (rpa_of fun c hc => h c (List.mem_cons_of_mem _ hc))
theorem caD_sortDa {W : Wd} : CaD W (rSortDa W.K) sortDaB := fun xs vs Φ S H H1 Q m c r ⟨ds, e, hp, hal, hso, hz, q⟩ o => by
  subst e
  obtain ⟨v, rfl, r1⟩ := RpA.one r
  cases r1 with
  | lst hs ra =>
    obtain ⟨bs, e1, e2, h3⟩ := zip_rpa ra
    subst e1 e2
    have em : (bs.map fun b => (b.1, toP b.2)).map (·.1) = bs.map (·.1) := by rw [List.map_map]; rfl
    have em2 : (bs.map fun b => (b.1, toP b.2)).map (·.2) = (bs.map (·.2)).map toP := by rw [List.map_map, List.map_map]; rfl
    refine ⟨_, bs.map fun b => (b.1, toP b.2), rfl, by rw [em]; exact sqL_off hs, fun b hb => ?_, by rw [em2]; exact hal, by rw [em2]; exact hso, fun b hb => ?_, fun p hpn => ?_⟩
    · obtain ⟨b0, h0, rfl⟩ := List.mem_map.mp hb
      exact (h3 b0 h0).dp (hp _ (List.mem_map_of_mem h0))
    · obtain ⟨b0, h0, rfl⟩ := List.mem_map.mp hb
      exact hz _ (List.mem_map_of_mem h0)
    · have k1 : ((bs.map fun b => (b.1, toP b.2)).mergeSort (PySem.W.dataLe false (·.2))) = (bs.mergeSort (PySem.W.dataLe false fun b => toP b.2)).map fun b => (b.1, toP b.2) := (List.map_mergeSort (f := fun b : V × Dv => (b.1, toP b.2)) (r := PySem.W.dataLe false fun b => toP b.2) (s := PySem.W.dataLe false fun b : V × PyData => b.2) (l := bs) (fun _ _ _ _ => rfl)).symm
      have k2 : (bs.map (·.2)).mergeSort (PySem.W.dataLe false toP) = (bs.mergeSort (PySem.W.dataLe false fun b => toP b.2)).map (·.2) := (List.map_mergeSort (f := fun b : V × Dv => b.2) (r := PySem.W.dataLe false fun b => toP b.2) (s := PySem.W.dataLe false toP) (l := bs) (fun _ _ _ _ => rfl)).symm
      rw [k1, List.map_map]
      rw [k2] at q
      refine o.new c m hpn q (new_lst c hpn ?_)
      exact rpa_of fun b hb => h3 b ((List.mergeSort_perm bs _).mem_iff.mp hb)
section
variable {W : Wd} {S : List Addr} {H : Hp} {Φ : Ph} {α : Type}
/-- over typed items -/
theorem lf_sortT {D : α → Dv} {xs : List α} {lt : α → α → Bool} (hp : ∀ x, pureD (D x) = true) (ha : ∀ x y, PySem.W.alike (toP (D x)) (toP (D y)) = true) (hs : ∀ x, ∃ y r, toP (D x) = .tuple (y :: r)) (hz : ∀ x, (toP (D x)).depth ≤ 40)
    (hlt : ∀ x y, PySem.W.dataLt (toP (D x)) (toP (D y)) = lt x y) (q : Φ (.lst ((xs.mergeSort fun x y => !lt y x).map D)) S H) : sortDaB [.lst (xs.map D)] Φ S H := by
  have e : (xs.map D).map toP = xs.map fun x => toP (D x) := by rw [List.map_map]; rfl
  refine ⟨_, rfl, fun d hd => ?_, ?_, ?_, fun d hd => ?_, ?_⟩
  · obtain ⟨x, _, rfl⟩ := List.mem_map.mp hd
    exact hp x
  · rw [e]
    exact PySem.W.AllAlike.of ha
  · rw [e]
    exact PySem.W.Sortable.tuples hs
  · obtain ⟨x, _, rfl⟩ := List.mem_map.mp hd
    exact hz x
  · have k : (xs.map D).mergeSort (PySem.W.dataLe false toP) = (xs.mergeSort fun x y => !lt y x).map D := (List.map_mergeSort (fun x _ y _ => by
      show (!lt y x) = !PySem.W.dataLt (toP (D y)) (toP (D x))
      rw [hlt])).symm
    rw [k]
    exact q
end
/-! ### the least of some -/
section
variable {α : Type}
/-- a strict order that tells all apart -/
structure Ord (lt : α → α → Bool) : Prop where
  irr : ∀ x, lt x x = false
  trans : ∀ x y z, lt x y = true → lt y z = true → lt x z = true
  tri : ∀ x y, lt x y = false → lt y x = false → x = y
/-- the least of P, none if P is empty -/
def MinOf (lt : α → α → Bool) (P : α → Prop) : Option α → Prop
  | none => ∀ e, ¬ P e
  | some e => P e ∧ ∀ f, P f → lt f e = false
theorem MinOf.uniq {lt : α → α → Bool} (O : Ord lt) {P : α → Prop} {a b : Option α} (h1 : MinOf lt P a) (h2 : MinOf lt P b) : a = b := by
  cases a with
  | none =>
    cases b with
    | none => rfl
    | some y => exact absurd h2.1 (h1 y)
  | some x =>
    cases b with
    | none => exact absurd h1.1 (h2 x)
    | some y => rw [O.tri x y (h2.2 x h1.1) (h1.2 y h2.1)]
theorem MinOf.congr {lt : α → α → Bool} {P R : α → Prop} {a : Option α} (h : MinOf lt P a) (e : ∀ x, P x ↔ R x) : MinOf lt R a := by
  cases a with
  | none => exact fun x hx => h x ((e x).mpr hx)
  | some y => exact ⟨(e y).mp h.1, fun f hf => h.2 f ((e f).mpr hf)⟩
/-- one more -/
def less (lt : α → α → Bool) (o : Option α) (x : α) : Bool := match o with
  | none => true
  | some y => lt x y
theorem MinOf.more {lt : α → α → Bool} (O : Ord lt) {P : α → Prop} {a : Option α} (h : MinOf lt P a) (x : α) : MinOf lt (fun y => P y ∨ y = x) (if less lt a x = true then some x else a) := by
  cases a with
  | none => exact ⟨.inr rfl, fun f hf => by
      rcases hf with z | z
      · exact absurd z (h f)
      · rw [z]; exact O.irr x⟩
  | some y =>
    show MinOf lt _ (if lt x y = true then some x else some y)
    by_cases c : lt x y = true
    · rw [if_pos c]
      refine ⟨.inr rfl, fun f hf => ?_⟩
      rcases hf with z | z
      · cases e : lt f x with
        | false => rfl
        | true =>
          have := O.trans f x y e c
          rw [h.2 f z] at this
          cases this
      · rw [z]; exact O.irr x
    · rw [if_neg c]
      refine ⟨.inl h.1, fun f hf => ?_⟩
      rcases hf with z | z
      · exact h.2 f z
      · rw [z]
        cases e : lt x y with
        | false => rfl
        | true => exact absurd e c
theorem MinOf.head {lt : α → α → Bool} (O : Ord lt) {xs : List α} : MinOf lt (fun x => x ∈ xs) (xs.mergeSort fun x y => !lt y x).head? := by
  have asym : ∀ x y, lt x y = true → lt y x = false := fun x y h => by
    cases e : lt y x with
    | false => rfl
    | true =>
      have := O.trans x y x h e
      rw [O.irr] at this
      cases this
  have sr : (xs.mergeSort fun x y => !lt y x).Pairwise fun x y => (!lt y x) = true := by
    refine List.pairwise_mergeSort (fun x y z h1 h2 => ?_) (fun x y => ?_) xs
    · cases e : lt z x with
      | false => rfl
      | true =>
        exfalso
        cases e2 : lt x y with
        | true =>
          have h3 := O.trans z x y e e2
          rw [h3] at h2
          cases h2
        | false =>
          have h1' : lt y x = false := by simpa using h1
          have := O.tri x y e2 h1'
          rw [← this] at h2
          rw [e] at h2
          cases h2
    · cases e : lt y x with
      | false => rfl
      | true => rw [asym y x e]; rfl
  have pm : ∀ x, x ∈ (xs.mergeSort fun x y => !lt y x) ↔ x ∈ xs := fun x => (List.mergeSort_perm xs _).mem_iff
  cases e : (xs.mergeSort fun x y => !lt y x) with
  | nil => exact fun x hx => by have := (pm x).mpr hx; rw [e] at this; cases this
  | cons y ys =>
    rw [e] at sr
    refine ⟨(pm y).mp (by rw [e]; exact List.mem_cons_self), fun f hf => ?_⟩
    have := (pm f).mpr hf
    rw [e] at this
    rcases List.mem_cons.mp this with z | z
    · rw [z]; exact O.irr y
    · have := (List.pairwise_cons.mp sr).1 f z
      simpa using this
end
end Dw

/-! zip of two iterables of any kinds, told by what their iterators give. -/
namespace Zg
open PySem PySem.Spec PyProof.Rows L2
section
variable {prog : Program} {w : World} {A : Around} {E : Value → Shared → Prop} {s : Shared}
/-- the iterator gives a value of X next, and is then as T tells -/
def Gives (prog : Program) (w : World) (it : Addr) (rs : List Addr) (h0 : Heap) (X : Value → Prop) (T : Heap → Prop) : Prop := ∀ (A : Around) (E : Value → Shared → Prop) (s : Shared) (Q : Value → Shared → Prop),
  (∀ c, c = it ∨ c ∈ rs → ∀ o, h0.get? c = some o → s.heap.get? c = some o) → (∀ v h' t', X v → (∀ h2 : Heap, (∀ o, h'.get? it = some o → h2.get? it = some o) → T h2) → Heap.SameBut it s.heap h' → Q v { s with heap := h', toks := t' }) →
  wpAny (model prog w) A (Builtin.SmallTypes.nextOf (.ref it)) Q E s
/-- it is at its end -/
def Ends (prog : Program) (w : World) (it : Addr) (rs : List Addr) (h0 : Heap) : Prop := ∀ (A : Around) (E : Value → Shared → Prop) (s : Shared) (Q : Value → Shared → Prop), A.handled = none →
  (∀ c, c = it ∨ c ∈ rs → ∀ o, h0.get? c = some o → s.heap.get? c = some o) → (∀ h' e, Heap.ExtBut it s.heap h' → (∃ o, h'.get? e = some o ∧ o.cls = .type "StopIteration") → E (.ref e) { s with heap := h' }) →
  wpAny (model prog w) A (Builtin.SmallTypes.nextOf (.ref it)) Q E s
structure Apart (z TI TO i1 i2 : Addr) (r1 r2 : List Addr) : Prop where
  a1 : TI ≠ z
  a2 : TO ≠ z
  a3 : i1 ≠ z
  a4 : i2 ≠ z
  a5 : TI ≠ TO
  a6 : TI ≠ i1
  a7 : TI ≠ i2
  a8 : TO ≠ i1
  a9 : TO ≠ i2
  a0 : i1 ≠ i2
  b1 : ∀ c ∈ r1, c ≠ z ∧ c ≠ TO ∧ c ≠ i1 ∧ c ≠ i2
  b2 : ∀ c ∈ r2, c ≠ z ∧ c ≠ TO ∧ c ≠ i1 ∧ c ≠ i2
theorem zg_item {z TI TO i1 i2 : Addr} {r1 r2 : List Addr} {X1 X2 : Value → Prop} {T1 T2 : Heap → Prop} {a b : Value} {Q : Value → Shared → Prop} (D : Apart z TI TO i1 i2 r1 r2)
    (kz : IsZip s.heap z TI TO .none) (kI : IsPair s.heap TI (.ref i1) (.ref i2)) (kO : IsPair s.heap TO a b) (g1 : Gives prog w i1 r1 s.heap X1 T1) (g2 : Gives prog w i2 r2 s.heap X2 T2)
    (hQ : ∀ h' t' x y, X1 x → X2 y → IsZip h' z TI TO (rawInt s.heap.objs.size) → IsPair h' TO x y → T1 h' → T2 h' → IsPair h' s.heap.objs.size x y → h'.objs.size = s.heap.objs.size + 1 →
      (∀ c o, c ≠ z → c ≠ TO → c ≠ i1 → c ≠ i2 → s.heap.get? c = some o → h'.get? c = some o) → Q (.ref s.heap.objs.size) { s with heap := h', toks := t' }) :
    wpAny (model prog w) A (Builtin.«zip.__next__» ⟨[.ref z], []⟩) (fun fin s' => ∃ v, fin = .done (.ret v) ∧ Q v s') E s := by
  show wpAny _ _ (field (.ref z) 2 >>= _) _ _ _
  refine wpAny_bind (wpAny_field kz rfl (x := .bool false) rfl ?_)
  show wpAny _ _ (field (.ref z) 3 >>= _) _ _ _
  refine wpAny_bind (wpAny_field kz rfl (x := .ref TI) rfl (wpAny_bind (wpAny_seqItems kI rfl ?_)))
  show wpAny _ _ (Builtin.SmallTypes.ownedTupleIsFree (.ref z) >>= _) _ _ _
  refine wpAny_bind ?_
  unfold Builtin.SmallTypes.ownedTupleIsFree
  refine wpAny_bind (wpAny_field kz rfl (x := .none) rfl (wpAny_pure ?_))
  simp only [if_true]
  refine wpAny_bind (wpAny_rule (wpAny_bind (wpAny_field kz rfl (x := .ref TO) rfl ?_)))
  refine wpAny_bind (wpAny_setField_rec kz (by simp) fun ha za sa => ?_)
  replace za : IsZip ha z TI TO .ellipsis := za
  refine wpAny_bind ?_
  simp only [List.zipIdx_cons, List.zipIdx_nil, List.forIn_cons, List.forIn_nil]
  refine wpAny_bind (wpAny_bind (wpAny_onRaise ?_))
  show wpAny _ _ (Builtin.SmallTypes.nextOf (.ref i1) >>= _) _ _ _
  have ne1 : ∀ c, c = i1 ∨ c ∈ r1 → c ≠ z := fun c hc => by
    rcases hc with rfl | hc
    · exact D.a3
    · exact (D.b1 c hc).1
  have ne2 : ∀ c, c = i2 ∨ c ∈ r2 → c ≠ z ∧ c ≠ TO ∧ c ≠ i1 := fun c hc => by
    rcases hc with rfl | hc
    · exact ⟨D.a4, D.a9.symm, D.a0.symm⟩
    · exact ⟨(D.b2 c hc).1, (D.b2 c hc).2.1, (D.b2 c hc).2.2.1⟩
  refine wpAny_bind (g1 _ _ _ _ (fun c hc o e => sa.extBut _ _ (ne1 c hc) e) fun x hb tb hx tx sb => wpAny_pure ?_)
  have kOb : IsPair hb TO a b := sb.extBut _ _ D.a8 (sa.extBut _ _ D.a2 kO)
  refine wpAny_bind (wpAny_seqItems kOb rfl (wpAny_bind (wpAny_updateSeq_pair kOb fun hc kOc sc => ?_)))
  replace kOc : IsPair hc TO x b := kOc
  refine wpAny_bind (wpAny_letGo (wpAny_pure (wpAny_bind (wpAny_bind (wpAny_onRaise ?_)))))
  show wpAny _ _ (Builtin.SmallTypes.nextOf (.ref i2) >>= _) _ _ _
  refine wpAny_bind (g2 _ _ _ _ (fun c hcm o e => sc.extBut _ _ (ne2 c hcm).2.1 (sb.extBut _ _ (ne2 c hcm).2.2 (sa.extBut _ _ (ne2 c hcm).1 e))) fun y hd td hy ty sd => wpAny_pure ?_)
  have kOd : IsPair hd TO x b := sd.extBut _ _ D.a9 kOc
  refine wpAny_bind (wpAny_seqItems kOd rfl (wpAny_bind (wpAny_updateSeq_pair kOd fun he kOe se => ?_)))
  replace kOe : IsPair he TO x y := kOe
  refine wpAny_bind (wpAny_letGo (wpAny_pure (wpAny_pure (wpAny_bind (wpAny_seqItems kOe rfl (wpAny_bind (wpAny_newTuple ?_)))))))
  have zsz : he.objs.size = s.heap.objs.size := by rw [se.1, sd.1, sc.1, sb.1, sa.1]
  have ze : IsZip he z TI TO .ellipsis := se.extBut _ _ D.a2.symm (sd.extBut _ _ D.a4.symm (sc.extBut _ _ D.a2.symm (sb.extBut _ _ D.a3.symm za)))
  have ke : ∀ c o, c ≠ z → c ≠ TO → c ≠ i1 → c ≠ i2 → s.heap.get? c = some o → he.get? c = some o := fun c o c1 c2 c3 c4 e =>
    se.extBut _ _ c2 (sd.extBut _ _ c4 (sc.extBut _ _ c2 (sb.extBut _ _ c3 (sa.extBut _ _ c1 e))))
  have zl : z < he.objs.size := Heap.lt_size ze
  show wpAny _ _ (Builtin.SmallTypes.ownedTupleHandOut (.ref z) (.ref he.objs.size) >>= _) _ _ _
  refine wpAny_bind ?_
  unfold Builtin.SmallTypes.ownedTupleHandOut
  have zf : IsZip (he.push { cls := .type "tuple", data := .seq #[x, y] }) z TI TO .ellipsis := Heap.get?_push_of_some _ ze
  refine wpAny_bind (wpAny_setField_rec zf (by simp) fun hg zg sg => ?_)
  replace zg : IsZip hg z TI TO (rawInt he.objs.size) := zg
  refine wpAny_setField_rec zg (by simp) fun hh zh sh => ?_
  replace zh : IsZip hh z TI TO (rawInt he.objs.size) := zh
  have up : ∀ c o, c ≠ z → he.get? c = some o → hh.get? c = some o := fun c o c1 e => sh.extBut _ _ c1 (sg.extBut _ _ c1 (Heap.get?_push_of_some _ e))
  have kT : IsPair hh he.objs.size x y := sh.extBut _ _ (Nat.ne_of_gt zl) (sg.extBut _ _ (Nat.ne_of_gt zl) (Heap.get?_push_size _ rfl))
  have zs : hh.objs.size = he.objs.size + 1 := by rw [sh.1, sg.1, Heap.size_push]
  rw [zsz] at zh kT zs
  refine wpAny_pure ⟨_, rfl, ?_⟩
  show Q (.ref he.objs.size) _
  rw [zsz]
  refine hQ hh td x y hx hy zh (up _ _ D.a2 kOe) (tx hh fun o e => ?_) (ty hh fun o e => ?_) kT zs fun c o c1 c2 c3 c4 e => up c o c1 (ke c o c1 c2 c3 c4 e)
  · exact up _ o D.a3 (se.extBut _ _ D.a8.symm (sd.extBut _ _ D.a0 (sc.extBut _ _ D.a8.symm e)))
  · exact up _ o D.a4 (se.extBut _ _ D.a9.symm e)
theorem zg_end {z TI TO i1 i2 : Addr} {r1 r2 : List Addr} {X1 : Value → Prop} {T1 : Heap → Prop} {a b : Value} {Q : Fin → Shared → Prop} (hh : A.handled = none) (D : Apart z TI TO i1 i2 r1 r2)
    (kz : IsZip s.heap z TI TO .none) (kI : IsPair s.heap TI (.ref i1) (.ref i2)) (kO : IsPair s.heap TO a b) (g : Ends prog w i1 r1 s.heap ∨ (Gives prog w i1 r1 s.heap X1 T1 ∧ Ends prog w i2 r2 s.heap))
    (hE : ∀ h' t' e, (∀ c o, c ≠ z → c ≠ TO → c ≠ i1 → c ≠ i2 → s.heap.get? c = some o → h'.get? c = some o) → (∃ o, h'.get? e = some o ∧ o.cls = .type "StopIteration") → E (.ref e) { s with heap := h', toks := t' }) :
    wpAny (model prog w) A (Builtin.«zip.__next__» ⟨[.ref z], []⟩) Q E s := by
  show wpAny _ _ (field (.ref z) 2 >>= _) _ _ _
  refine wpAny_bind (wpAny_field kz rfl (x := .bool false) rfl ?_)
  show wpAny _ _ (field (.ref z) 3 >>= _) _ _ _
  refine wpAny_bind (wpAny_field kz rfl (x := .ref TI) rfl (wpAny_bind (wpAny_seqItems kI rfl ?_)))
  show wpAny _ _ (Builtin.SmallTypes.ownedTupleIsFree (.ref z) >>= _) _ _ _
  refine wpAny_bind ?_
  unfold Builtin.SmallTypes.ownedTupleIsFree
  refine wpAny_bind (wpAny_field kz rfl (x := .none) rfl (wpAny_pure ?_))
  simp only [if_true]
  refine wpAny_bind (wpAny_rule (wpAny_bind (wpAny_field kz rfl (x := .ref TO) rfl ?_)))
  refine wpAny_bind (wpAny_setField_rec kz (by simp) fun ha za sa => ?_)
  replace za : IsZip ha z TI TO .ellipsis := za
  refine wpAny_bind ?_
  simp only [List.zipIdx_cons, List.zipIdx_nil, List.forIn_cons, List.forIn_nil]
  refine wpAny_bind (wpAny_bind (wpAny_onRaise ?_))
  show wpAny _ _ (Builtin.SmallTypes.nextOf (.ref i1) >>= _) _ _ _
  have ne1 : ∀ c, c = i1 ∨ c ∈ r1 → c ≠ z := fun c hc => by
    rcases hc with rfl | hc
    · exact D.a3
    · exact (D.b1 c hc).1
  have ne2 : ∀ c, c = i2 ∨ c ∈ r2 → c ≠ z ∧ c ≠ TO ∧ c ≠ i1 := fun c hc => by
    rcases hc with rfl | hc
    · exact ⟨D.a4, D.a9.symm, D.a0.symm⟩
    · exact ⟨(D.b2 c hc).1, (D.b2 c hc).2.1, (D.b2 c hc).2.2.1⟩
  have far : ∀ {h : Heap} {e : Addr} {o : Obj}, IsZip h z TI TO .ellipsis → h.get? e = some o → o.cls = .type "StopIteration" → e ≠ z := fun {h e o} k1 k2 k3 q => by
    rw [q, k1] at k2
    cases k2
    simp at k3
  rcases g with g1 | ⟨g1, g2⟩
  · refine wpAny_bind (g1 _ _ _ _ hh (fun c hc o e => sa.extBut _ _ (ne1 c hc) e) fun hb e sb he => ?_)
    obtain ⟨oe, k1, k2⟩ := he
    have zb : IsZip hb z TI TO .ellipsis := sb _ _ D.a3.symm za
    exact wpAny_setField_rec zb (by simp) fun hc _ sc => hE hc _ e (fun c o c1 _ c3 _ q => sc.extBut _ _ c1 (sb _ _ c3 (sa.extBut _ _ c1 q))) ⟨oe, sc.extBut _ _ (far zb k1 k2) k1, k2⟩
  · refine wpAny_bind (g1 _ _ _ _ (fun c hc o e => sa.extBut _ _ (ne1 c hc) e) fun x hb tb hx tx sb => wpAny_pure ?_)
    have kOb : IsPair hb TO a b := sb.extBut _ _ D.a8 (sa.extBut _ _ D.a2 kO)
    refine wpAny_bind (wpAny_seqItems kOb rfl (wpAny_bind (wpAny_updateSeq_pair kOb fun hc kOc sc => ?_)))
    refine wpAny_bind (wpAny_letGo (wpAny_pure (wpAny_bind (wpAny_bind (wpAny_onRaise ?_)))))
    show wpAny _ _ (Builtin.SmallTypes.nextOf (.ref i2) >>= _) _ _ _
    refine wpAny_bind (g2 _ _ _ _ hh (fun c hcm o e => sc.extBut _ _ (ne2 c hcm).2.1 (sb.extBut _ _ (ne2 c hcm).2.2 (sa.extBut _ _ (ne2 c hcm).1 e))) fun hd e sd he => ?_)
    obtain ⟨oe, k1, k2⟩ := he
    have zd : IsZip hd z TI TO .ellipsis := sd _ _ D.a4.symm (sc.extBut _ _ D.a2.symm (sb.extBut _ _ D.a3.symm za))
    exact wpAny_setField_rec zd (by simp) fun hf _ sf => hE hf _ e (fun c o c1 c2 c3 c4 q => sf.extBut _ _ c1 (sd _ _ c4 (sc.extBut _ _ c2 (sb.extBut _ _ c3 (sa.extBut _ _ c1 q))))) ⟨oe, sf.extBut _ _ (far zd k1 k2) k1, k2⟩
theorem nx_item {z TI TO i1 i2 : Addr} {r1 r2 : List Addr} {X1 X2 : Value → Prop} {T1 T2 : Heap → Prop} {a b : Value} {Q : Option Value → Shared → Prop} (D : Apart z TI TO i1 i2 r1 r2)
    (kz : IsZip s.heap z TI TO .none) (kI : IsPair s.heap TI (.ref i1) (.ref i2)) (kO : IsPair s.heap TO a b) (g1 : Gives prog w i1 r1 s.heap X1 T1) (g2 : Gives prog w i2 r2 s.heap X2 T2)
    (hQ : ∀ h' t' x y, X1 x → X2 y → IsZip h' z TI TO (rawInt s.heap.objs.size) → IsPair h' TO x y → T1 h' → T2 h' → IsPair h' s.heap.objs.size x y → h'.objs.size = s.heap.objs.size + 1 →
      (∀ c o, c ≠ z → c ≠ TO → c ≠ i1 → c ≠ i2 → s.heap.get? c = some o → h'.get? c = some o) → Q (some (.ref s.heap.objs.size)) { s with heap := h', toks := t' }) :
    wpAny (model prog w) A (pyNext (.ref z)) Q E s := by
  have kT : s.TypeIs (.ref z) "zip" := ⟨_, kz, rfl⟩
  unfold pyNext
  exact wpAny_bind (wpAny_attempt (wpAny_callSpecial?_slot (name := Str.ofString "__next__") kT F.slot_zip_next (wpAny_call_entry F.slot_zip_next kT F.entry_zip_next (zg_item D kz kI kO g1 g2 fun h' t' x y a1 a2 a3 a4 a5 a6 a7 a8 a9 => wpAny_pure (hQ h' t' x y a1 a2 a3 a4 a5 a6 a7 a8 a9)) (F.args_zip_next_1 _))))
theorem nx_end {z TI TO i1 i2 : Addr} {r1 r2 : List Addr} {X1 : Value → Prop} {T1 : Heap → Prop} {a b : Value} {Q : Option Value → Shared → Prop} (hh : A.handled = none) (D : Apart z TI TO i1 i2 r1 r2)
    (kz : IsZip s.heap z TI TO .none) (kI : IsPair s.heap TI (.ref i1) (.ref i2)) (kO : IsPair s.heap TO a b) (g : Ends prog w i1 r1 s.heap ∨ (Gives prog w i1 r1 s.heap X1 T1 ∧ Ends prog w i2 r2 s.heap))
    (hQ : ∀ h' t', (∀ c o, c ≠ z → c ≠ TO → c ≠ i1 → c ≠ i2 → s.heap.get? c = some o → h'.get? c = some o) → Q none { s with heap := h', toks := t' }) : wpAny (model prog w) A (pyNext (.ref z)) Q E s := by
  have kT : s.TypeIs (.ref z) "zip" := ⟨_, kz, rfl⟩
  unfold pyNext
  refine wpAny_bind (wpAny_attempt (wpAny_callSpecial?_slot (name := Str.ofString "__next__") kT F.slot_zip_next (wpAny_call_entry F.slot_zip_next kT F.entry_zip_next (zg_end hh D kz kI kO g fun h' t' e hk he => ?_) (F.args_zip_next_1 _))))
  obtain ⟨o, ho, hc⟩ := he
  exact wpAny_bind (wpAny_isInstance (T := "StopIteration") (b := true) ⟨o, ho, hc⟩ isSubtype_stop (wpAny_pure (hQ _ _ hk)))
/-! lists, tuples -/
theorem gives_list {it l : Addr} {i : Nat} {its : Array Value} {x : Value} {h : Heap} (hit : h.IsListIter it l i) (hl : h.IsList l its) (hx : its[i]? = some x) : Gives prog w it [l] h (fun v => v = x) (fun h' => h'.IsListIter it l (i + 1)) := fun A E s Q keep hq =>
  wpAny_nextOf_list_item (hit.at fun o q => keep it (.inl rfl) o q) (hl.at fun o q => keep l (.inr (List.mem_singleton.mpr rfl)) o q) hx fun h' k sb => hq x h' s.toks rfl (fun h2 e => k.at e) sb
theorem ends_list {it l : Addr} {i : Nat} {its : Array Value} {h : Heap} (hit : h.IsListIter it l i) (hl : h.IsList l its) (hx : its[i]? = none) : Ends prog w it [l] h := fun A E s Q hh keep hq =>
  wpAny_nextOf_list_end hh (hit.at fun o q => keep it (.inl rfl) o q) (hl.at fun o q => keep l (.inr (List.mem_singleton.mpr rfl)) o q) hx hq
theorem gives_tup {it l : Addr} {i : Nat} {its : Array Value} {x : Value} {h : Heap} (hit : h.IsTupleIter it l i) (hl : h.IsTuple l its) (hx : its[i]? = some x) : Gives prog w it [l] h (fun v => v = x) (fun h' => h'.IsTupleIter it l (i + 1)) := fun A E s Q keep hq =>
  RZ.nextOf_tuple_item (hit.at fun o q => keep it (.inl rfl) o q) (hl.at fun o q => keep l (.inr (List.mem_singleton.mpr rfl)) o q) hx fun h' k sb => hq x h' s.toks rfl (fun h2 e => k.at e) sb
theorem ends_tup {it l : Addr} {i : Nat} {its : Array Value} {h : Heap} (hit : h.IsTupleIter it l i) (hl : h.IsTuple l its) (hx : its[i]? = none) : Ends prog w it [l] h := fun A E s Q hh keep hq =>
  RZ.nextOf_tuple_end hh (hit.at fun o q => keep it (.inl rfl) o q) (hl.at fun o q => keep l (.inr (List.mem_singleton.mpr rfl)) o q) hx hq
end
end Zg

/-! zip of a tuple and a list, of two lists, as a rule of the layer. -/
namespace Zg
open PySem PySem.Spec PyProof.Rows L2
/-- the tuple at a, the list at b, at each turn -/
def ItzM (K : PySem.W.Frag) (a b : Addr) : It :=
  ⟨fun i G => ∃ (xs ys : List V) (x y : V), SqT K G a xs ∧ SqL K G b ys ∧ xs[i]? = some x ∧ ys[i]? = some y,
    fun i G v G' => ∃ T x y, v = .ref T ∧ G T = none ∧ G' = upd G T (.tup [x, y]) ∧ (∀ xs, SqT K G a xs → xs[i]? = some x) ∧ ∀ ys, SqL K G b ys → ys[i]? = some y,
    fun i G => ∃ xs ys : List V, SqT K G a xs ∧ SqL K G b ys ∧ (xs.length ≤ i ∨ ys.length ≤ i)⟩
theorem apart_of (I a b : Nat) (h1 : a < I) (h2 : b < I) : Apart (I + 4) (I + 2) (I + 3) I (I + 1) [a] [b] := by
  obtain ⟨c1, c2, c3, c4, c5, c6, c7, c8, c9, c0, d1, d2, d3, d4, d5, d6, d7, d8⟩ := PySem.W.ktu_apart I a b h1 h2
  exact ⟨c1, c2, c3, c4, c5, c6, c7, c8, c9, c0, fun c hc => by rw [List.mem_singleton.mp hc]; exact ⟨d1, d2, d3, d4⟩, fun c hc => by rw [List.mem_singleton.mp hc]; exact ⟨d5, d6, d7, d8⟩⟩
theorem turn_zipM {P : Program} {w : World} {K : PySem.W.Frag} {elts : List Expr} {kk : Nat} {tpos : Pos} {a b z TI TO i1 i2 : Addr} (D : Apart z TI TO i1 i2 [a] [b]) :
    Turn P w K (.Tuple elts kk tpos) (ItzM K a b) [z, TI, TO, i1, i2] z (fun i h => IsZip h z TI TO .none ∧ IsPair h TI (.ref i1) (.ref i2) ∧ (∃ x y, IsPair h TO x y) ∧ h.IsTupleIter i1 a i ∧ h.IsListIter i2 b i) where
  mem := by simp
  obj := fun i h st c hc => by
    obtain ⟨kz, kI, ⟨x, y, kO⟩, ⟨o1, e1, _, d1⟩, ⟨o2, e2, _, d2⟩⟩ := st
    have five : c = z ∨ c = TI ∨ c = TO ∨ c = i1 ∨ c = i2 := by simpa using hc
    rcases five with rfl | rfl | rfl | rfl | rfl
    · exact ⟨_, kz, fun v q => nomatch q⟩
    · exact ⟨_, kI, fun v q => nomatch q⟩
    · exact ⟨_, kO, fun v q => nomatch q⟩
    · exact ⟨o1, e1, fun v q => by rw [d1] at q; cases q⟩
    · exact ⟨o2, e2, fun v q => by rw [d2] at q; cases q⟩
  keep := fun i h h' st k => by
    obtain ⟨kz, kI, ⟨x, y, kO⟩, q1, q2⟩ := st
    exact ⟨k z (by simp) _ kz, k TI (by simp) _ kI, ⟨x, y, k TO (by simp) _ kO⟩, q1.at fun o q => k i1 (by simp) o q, q2.at fun o q => k i2 (by simp) o q⟩
  item := by
    intro X hP hw hK hc i pins s σ G E I hf st hg
    subst hP hw hK
    obtain ⟨kz, kI, ⟨x0, y0, kO⟩, q1, q2⟩ := st
    obtain ⟨xs, ys, x, y, sx, sy, hx, hy⟩ := hg
    obtain ⟨ia, ra, pa, _⟩ := I.tuple sx
    obtain ⟨ib, rb, pb, _⟩ := I.list sy
    obtain ⟨u, hu, ru⟩ := ra.get hx
    obtain ⟨u2, hu2, ru2⟩ := rb.get hy
    have zl : z < s.heap.objs.size := Heap.lt_size kz
    refine nx_item D kz kI kO (gives_tup (x := u) q1 pa (by simpa using hu)) (gives_list (x := u2) q2 pb.isList (by simpa using hu2)) fun h' t' x' y' hx' hy' z' TO' n1 n2 hT hsz hk => ?_
    subst hx' hy'
    refine ⟨_, rfl, wpAny_letOwnedTupleGo_zip (s := { s with heap := h', toks := t' }) z' fun h2 z2 sb => ?_⟩
    have kT : h2.get? s.heap.objs.size = some { cls := .type "tuple", data := .seq #[x', y'] } := (sb.2 _ (Nat.ne_of_gt zl)).trans hT
    have new : ObjOk X.prog X.w (upd G s.heap.objs.size (.tup [x, y])) h2 s.heap.objs.size (.tup [x, y]) := ⟨by show 2 ≤ sizeLine; decide, [x', y'], .cons ru (.cons ru2 .nil), ⟨_, kT, rfl, _, rfl⟩⟩
    have I1 : Inv X pins σ (upd G s.heap.objs.size (.tup [x, y])) { s with heap := h2, toks := t' } :=
      I.turnedNew (t' := t') (ch := [z, TI, TO, i1, i2]) (fun c o hb q => (sb.2 c (fun q' => hb (by simp [q']))).trans (hk c o (fun q' => hb (by simp [q'])) (fun q' => hb (by simp [q'])) (fun q' => hb (by simp [q'])) (fun q' => hb (by simp [q'])) q)) hf (Nat.le_refl _) new
    refine ⟨.ref s.heap.objs.size, _, I1, rfl, ⟨_, x, y, rfl, I.hok.fresh (Nat.le_refl _), rfl, fun l hl => by rw [I.tuple_inj hl sx]; exact hx, fun l hl => by rw [I.list_inj hl sy]; exact hy⟩, ⟨z2, ?_, ⟨x', y', ?_⟩, ?_, ?_⟩, fun c hcm => ?_⟩
    · exact (sb.2 _ D.a1).trans (hk _ _ D.a1 D.a5 D.a6 D.a7 kI)
    · exact (sb.2 _ D.a2).trans TO'
    · exact n1.at fun o q => (sb.2 _ D.a3).trans q
    · exact n2.at fun o q => (sb.2 _ D.a4).trans q
    · have lt : c < s.heap.objs.size := by
        have five : c = z ∨ c = TI ∨ c = TO ∨ c = i1 ∨ c = i2 := by simpa using hcm
        rcases five with rfl | rfl | rfl | rfl | rfl
        · exact zl
        · exact Heap.lt_size kI
        · exact Heap.lt_size kO
        · obtain ⟨_, e1, _⟩ := q1; exact Heap.lt_size e1
        · obtain ⟨_, e2, _⟩ := q2; exact Heap.lt_size e2
      rw [upd_ne (Nat.ne_of_lt lt)]
      exact (hf c hcm).1
  done := by
    intro X hP hw hK hc i pins s σ G E I hf st hg
    subst hP hw hK
    obtain ⟨kz, kI, ⟨x0, y0, kO⟩, q1, q2⟩ := st
    obtain ⟨xs, ys, sx, sy, hend⟩ := hg
    obtain ⟨ia, ra, pa, _⟩ := I.tuple sx
    obtain ⟨ib, rb, pb, _⟩ := I.list sy
    have l1 := ra.length
    have l2 := rb.length
    have g : Ends X.prog X.w i1 [a] s.heap ∨ (Gives X.prog X.w i1 [a] s.heap (fun v => v = (ia.toArray[i]?).getD .none) (fun h' => h'.IsTupleIter i1 a (i + 1)) ∧ Ends X.prog X.w i2 [b] s.heap) := by
      cases e : ia.toArray[i]? with
      | none => exact .inl (ends_tup q1 pa e)
      | some u =>
        refine .inr ⟨gives_tup q1 pa e, ends_list q2 pb.isList ?_⟩
        have := (Array.getElem?_eq_some_iff.mp e).1
        rcases hend with q | q
        · simp at this; omega
        · simp; omega
    exact nx_end (I.ok.hd hc) D kz kI kO g fun h' t' hk => ⟨rfl, I.turnedL (t' := t') (ch := [z, TI, TO, i1, i2]) (fun c o hb q =>
      hk c o (fun q' => hb (by simp [q'])) (fun q' => hb (by simp [q'])) (fun q' => hb (by simp [q'])) (fun q' => hb (by simp [q'])) q) hf⟩
  self := fun A i s Q E st h => wpAny_pyIter_zip st.1 h
abbrev mh1 (h : Heap) (a : Addr) : Heap := h.push { cls := .type "tuple_iterator", data := .fields #[.ref a, .int 0 0] }
abbrev mh2 (h : Heap) (a b : Addr) : Heap := (mh1 h a).push { cls := .type "list_iterator", data := .fields #[.ref b, .int 0 0] }
abbrev mh3 (h : Heap) (a b : Addr) : Heap := (mh2 h a b).push { cls := .type "tuple", data := .seq #[.ref h.objs.size, .ref (mh1 h a).objs.size] }
abbrev mh4 (h : Heap) (a b : Addr) : Heap := (mh3 h a b).push { cls := .type "tuple", data := .seq #[.none, .none] }
abbrev mh5 (h : Heap) (a b : Addr) : Heap := (mh4 h a b).push { cls := .type "zip", data := .fields #[.none, .bool false, .bool false, .ref (mh2 h a b).objs.size, .ref (mh3 h a b).objs.size] }
theorem meets_m (a b : Addr) (xs ys : Array Value) :
    Meets (Builtin.«zip.__new__» ⟨[.type "zip", .ref a, .ref b], []⟩) (fun _ R s => s.heap.IsTuple a xs ∧ s.heap.IsList b ys ∧ R (.ok (.ret (.ref (mh4 s.heap a b).objs.size))) { s with heap := mh5 s.heap a b }) :=
  .of_wp fun prog w A R s h => by
    obtain ⟨hp, g, d, tk, os⟩ := s
    obtain ⟨ta, tb, h⟩ := h
    have hsub := sub_zip
    have qa : Heap.IsTuple (Shared.heap ⟨hp, g, d, tk, os⟩) a xs := ta
    have qb : Heap.IsList (Shared.heap ⟨hp.push { cls := .type "tuple_iterator", data := .fields #[.ref a, .int 0 0] }, g, d, tk, os⟩) b ys := Heap.IsList.push tb _
    wp_walk using wpAny_pyIter_tuple qa, wpAny_pyIter_list qb
    exact ⟨_, rfl, h⟩
section
variable {prog : Program} {w : World} {A : Around} {E : Value → Shared → Prop} {s : Shared}
theorem call_m {a b : Addr} {xs ys : Array Value} {Q : Value → Shared → Prop} (ta : s.heap.IsTuple a xs) (tb : s.heap.IsList b ys)
    (h : ∀ h', IsZip h' (s.heap.objs.size + 4) (s.heap.objs.size + 2) (s.heap.objs.size + 3) .none → IsPair h' (s.heap.objs.size + 2) (.ref s.heap.objs.size) (.ref (s.heap.objs.size + 1)) →
      IsPair h' (s.heap.objs.size + 3) .none .none → h'.IsTupleIter s.heap.objs.size a 0 → h'.IsListIter (s.heap.objs.size + 1) b 0 → (∀ c o, s.heap.get? c = some o → h'.get? c = some o) → Q (.ref (s.heap.objs.size + 4)) { s with heap := h' }) :
    wpAny (model prog w) A (call (.type "zip") [.ref a, .ref b]) Q E s := by
  refine callType_new F.called_zip (by decide) (F.typeCall_zip_2 _ _) (F.newCall_zip_2 _ _) (fun obj => F.args_object_init_3 obj _ _) F.entry_zip_new (meets_m a b xs ys) ⟨ta, tb, ?_⟩
  have n1 : (mh1 s.heap a).objs.size = s.heap.objs.size + 1 := Heap.size_push ..
  have n2 : (mh2 s.heap a b).objs.size = s.heap.objs.size + 2 := by rw [Heap.size_push, n1]
  have n3 : (mh3 s.heap a b).objs.size = s.heap.objs.size + 3 := by rw [Heap.size_push, n2]
  have n4 : (mh4 s.heap a b).objs.size = s.heap.objs.size + 4 := by rw [Heap.size_push, n3]
  have u5 : (mh5 s.heap a b).get? (mh4 s.heap a b).objs.size = some _ := Heap.get?_push_size _ rfl
  have u4 : (mh5 s.heap a b).get? (mh3 s.heap a b).objs.size = some _ := Heap.get?_push_of_some _ (Heap.get?_push_size _ rfl)
  have u3 : (mh5 s.heap a b).get? (mh2 s.heap a b).objs.size = some _ := Heap.get?_push_of_some _ (Heap.get?_push_of_some _ (Heap.get?_push_size _ rfl))
  have u2 : (mh5 s.heap a b).get? (mh1 s.heap a).objs.size = some _ := Heap.get?_push_of_some _ (Heap.get?_push_of_some _ (Heap.get?_push_of_some _ (Heap.get?_push_size _ rfl)))
  have u1 : (mh5 s.heap a b).get? s.heap.objs.size = some _ := Heap.get?_push_of_some _ (Heap.get?_push_of_some _ (Heap.get?_push_of_some _ (Heap.get?_push_of_some _ (Heap.get?_push_size _ rfl))))
  show _ ∧ _
  rw [n2, n3, n4] at u5
  rw [n1, n2] at u3
  rw [n3] at u4
  rw [n1] at u2
  rw [n4]
  exact ⟨⟨_, u5, rfl⟩, h _ u5 u3 u4 ⟨_, u1, rfl, rfl⟩ ⟨_, u2, rfl, rfl⟩ fun c o q => Heap.get?_push_of_some _ (Heap.get?_push_of_some _ (Heap.get?_push_of_some _ (Heap.get?_push_of_some _ (Heap.get?_push_of_some _ q))))⟩
end
def iZipG (K : PySem.W.Frag) (ta : TA) : TI := fun σ H R => ta σ H fun vs H1 => ∃ a b xs ys, vs = [.ref a, .ref b] ∧ ((SqL K H1 a xs ∧ SqL K H1 b ys ∧ R (Itz K a b) H1) ∨ (SqT K H1 a xs ∧ SqL K H1 b ys ∧ R (ItzM K a b) H1))
theorem pi_zipG {X : Cx} {e e2 : Expr} {ta : TA} {p pos tpos : Pos} {elts : List Expr} {kk : Nat} (hg : Gl X "zip") (hm : X.mg "zip" = none) (ha : PA X [e, e2] ta)
    (hs : starEach [e, e2] X.env = (false, eval e X.env) :: starEach [e2] X.env := by rfl) (hpl : (backTo pos (starEach [e2] X.env)).any (·.1) = false := by rfl) :
    PI X (.Tuple elts kk tpos) (.Call (.Name "zip" p) [e, e2] [] pos) (iZipG X.K ta) := by
  refine ⟨fun pins s σ H R I h => ?_⟩
  refine Call_ (ld_blt I hg hm PyProof.Rows.boot_zip (PyProof.Rows.callWith_type1 (thn (ha.run pos pins s σ H _ I h) fun us t ⟨vs, H1, J, r1, q1⟩ => ?_) hs hpl))
  obtain ⟨a, b, xs, ys, ex, q1⟩ := q1
  subst ex
  cases r1 with
  | cons r rr =>
    cases rr with
    | cons r' rr =>
      cases rr
      cases r
      cases r'
      have five : ∀ c, c ∈ [t.heap.objs.size + 4, t.heap.objs.size + 2, t.heap.objs.size + 3, t.heap.objs.size, t.heap.objs.size + 1] → FpOk X pins H1 c := fun c hcm => by
        have le : t.heap.objs.size ≤ c := by
          have e5 : c = t.heap.objs.size + 4 ∨ c = t.heap.objs.size + 2 ∨ c = t.heap.objs.size + 3 ∨ c = t.heap.objs.size ∨ c = t.heap.objs.size + 1 := by simpa using hcm
          rcases e5 with rfl | rfl | rfl | rfl | rfl
          · exact Nat.le_add_right _ 4
          · exact Nat.le_add_right _ 2
          · exact Nat.le_add_right _ 3
          · exact Nat.le_refl _
          · exact Nat.le_add_right _ 1
        exact J.fpOk le (J.hok.fresh le)
      rcases q1 with ⟨sx, sy, q⟩ | ⟨sx, sy, q⟩
      · obtain ⟨ia, ra, pa, _⟩ := J.list sx
        obtain ⟨ib, rb, pb, _⟩ := J.list sy
        refine call_zip_2 pa.isList pb.isList fun h' m1 m2 m3 m4 m5 _ hk => wpAny_pyIter_zip m1 ?_
        exact ⟨t.heap.objs.size + 4, [t.heap.objs.size + 4, t.heap.objs.size + 2, t.heap.objs.size + 3, t.heap.objs.size, t.heap.objs.size + 1], _, _, H1, rfl, J.kept (t' := t.toks) hk, turn_zip (PySem.W.ktu_apart t.heap.objs.size a b pa.lt pb.lt), ⟨m1, m2, ⟨_, _, m3⟩, m4, m5⟩, five, q⟩
      · obtain ⟨ia, ra, pa, _⟩ := J.tuple sx
        obtain ⟨ib, rb, pb, _⟩ := J.list sy
        obtain ⟨o1, ho1, _⟩ := id pa
        refine call_m (show t.heap.IsTuple a ia.toArray from pa) pb.isList fun h' m1 m2 m3 m4 m5 hk => wpAny_pyIter_zip m1 ?_
        exact ⟨t.heap.objs.size + 4, [t.heap.objs.size + 4, t.heap.objs.size + 2, t.heap.objs.size + 3, t.heap.objs.size, t.heap.objs.size + 1], _, _, H1, rfl, J.kept (t' := t.toks) hk, turn_zipM (apart_of t.heap.objs.size a b (Heap.lt_size ho1) pb.lt), ⟨m1, m2, ⟨_, _, m3⟩, m4, m5⟩, five, q⟩
theorem w_zipG {X : Cx} {K : PySem.W.Frag} {e e2 : Expr} {ta : TA} {p pos tpos : Pos} {elts : List Expr} {kk : Nat} (hK : X.K = K) (hg : Gl X "zip") (hm : X.mg "zip" = none) (ha : PA X [e, e2] ta)
    (hs : starEach [e, e2] X.env = (false, eval e X.env) :: starEach [e2] X.env := by rfl) (hpl : (backTo pos (starEach [e2] X.env)).any (·.1) = false := by rfl) :
    PI X (.Tuple elts kk tpos) (.Call (.Name "zip" p) [e, e2] [] pos) (iZipG K ta) := by
  subst hK
  exact pi_zipG hg hm ha hs hpl
end Zg
namespace Dw
open PySem PySem.Spec PyProof.Rows L2
theorem pair_new2 {W : Wd} {S : List Addr} {H H3 : Hp} {T : Addr} {d e : Dv} {v u : V} (c : Cn W S [] [] H) (hT : H T = none) (eq : H3 = upd H T (.tup [v, u])) (r : Rp W (off S H) d v) (r2 : Rp W (off S H) e u) : Md W [] H H3 ∧ Rp W (off S H3) (.tup [d, e]) (.ref T) := by
  subst eq
  exact ⟨Md.new hT, new_tup c hT (.cons r (.cons r2 .nil))⟩
/-- zip, over data -/
theorem iw_zip {W : Wd} {E : XK} {ta : TA} {δ : Dn} {S : List Addr} {H : Hp} {X : Px} {Φ : PhI} (h : Aw W E ta δ S H (fun xs S1 H1 => ∃ d ds es, (d = .lst ds ∨ d = .tup ds) ∧ xs = [d, .lst es] ∧ Φ ((ds.zip es).map fun p => .tup [p.1, p.2]) (fun _ _ => True) S1 H1) X) : Iw W E (Zg.iZipG W.K ta) δ S H Φ X := fun σ H1 R m c o ex =>
  h σ H1 _ m c (fun vs xs S1 G1 H2 ⟨d, ds, es, hd, exs, q⟩ m1 t1 c1 r1 => by
    subst exs
    have zg : ∀ {i : Nat} {x : Dv}, ((ds.zip es).map fun p => Dv.tup [p.1, p.2])[i]? = some x → ∃ u v, ds[i]? = some u ∧ es[i]? = some v ∧ x = .tup [u, v] := fun {i x} hx => by
      rw [List.getElem?_map] at hx
      cases e : (ds.zip es)[i]? with
      | none => rw [e] at hx; cases hx
      | some p =>
        rw [e] at hx
        cases hx
        obtain ⟨h1, h2⟩ := List.getElem?_zip_eq_some.mp e
        exact ⟨_, _, h1, h2, rfl⟩
    have zl : ∀ {i : Nat}, ((ds.zip es).map fun p => Dv.tup [p.1, p.2]).length ≤ i → ds.length ≤ i ∨ es.length ≤ i := fun {i} hi => by
      rw [List.length_map, List.length_zip] at hi
      omega
    cases r1 with
    | cons r rr =>
      obtain ⟨v2, rfl, r2⟩ := RpA.one rr
      cases r2 with
      | lst hb rb =>
        rcases hd with rfl | rfl
        · cases r with
          | lst ha ra =>
            refine ⟨_, _, _, _, rfl, .inl ⟨sqL_off ha, sqL_off hb, o _ _ _ S1 G1 H2 q m1 t1 fun i S' G' H' tr c' _ _ => ?_⟩⟩
            have ha' := off_lq _ _ _ _ (tr.lq _ _ ha fun _ z => by cases z) fun _ z => by cases z
            have hb' := off_lq _ _ _ _ (tr.lq _ _ hb fun _ z => by cases z) fun _ z => by cases z
            refine ⟨fun x hx => ?_, fun hl => ⟨_, _, .inl (.inl ha'), .inl (.inl hb'), by rw [← ra.length, ← rb.length]; exact zl hl⟩⟩
            obtain ⟨u, v, hu, hv, rfl⟩ := zg hx
            obtain ⟨w1, k1, k2⟩ := (tr.rpA ra).get hu
            obtain ⟨w2, k3, k4⟩ := (tr.rpA rb).get hv
            refine ⟨⟨_, _, w1, w2, .inl (.inl ha'), .inl (.inl hb'), k1, k3⟩, fun y H3 ⟨T, y1, y2, f1, f2, f3, f4, f5⟩ => ?_⟩
            subst f1
            have e1 := (f4 _ (.inl (.inl ha'))).symm.trans k1
            have e2 := (f5 _ (.inl (.inl hb'))).symm.trans k3
            cases e1
            cases e2
            exact pair_new2 c' f2 f3 k2 k4
        · cases r with
          | tup ha ra =>
            refine ⟨_, _, _, _, rfl, .inr ⟨(off_lq _ _).sqT ha, sqL_off hb, o _ _ _ S1 G1 H2 q m1 t1 fun i S' G' H' tr c' _ _ => ?_⟩⟩
            have ha' := (off_lq _ _).sqT (tr.lq.sqT ha)
            have hb' := off_lq _ _ _ _ (tr.lq _ _ hb fun _ z => by cases z) fun _ z => by cases z
            refine ⟨fun x hx => ?_, fun hl => ⟨_, _, ha', .inl (.inl hb'), by rw [← ra.length, ← rb.length]; exact zl hl⟩⟩
            obtain ⟨u, v, hu, hv, rfl⟩ := zg hx
            obtain ⟨w1, k1, k2⟩ := (tr.rpA ra).get hu
            obtain ⟨w2, k3, k4⟩ := (tr.rpA rb).get hv
            refine ⟨⟨_, _, w1, w2, ha', .inl (.inl hb'), k1, k3⟩, fun y H3 ⟨T, y1, y2, f1, f2, f3, f4, f5⟩ => ?_⟩
            subst f1
            have e1 := (f4 _ ha').symm.trans k1
            have e2 := (f5 _ (.inl (.inl hb'))).symm.trans k3
            cases e1
            cases e2
            exact pair_new2 c' f2 f3 k2 k4) ex
end Dw

/-! A call without arguments. -/
namespace Dw
open PySem PySem.Spec PyProof.Rows L2
section
variable {X : Cx} {k j : Nat} {x : Str} {sp : Sp} {p pos : Pos} {E : XK}
theorem px_c0 (c : CalX X.prog X.w X.K X.mg X.base k x 0 sp) (hr : Room j X.A) (tk : Tk X E) (hk : k ≤ j := by decide) (hg : Gl X x := by rfl) (hdb : (x == ("__debug__" : Str)) = false := by decide) : PE X (.Call (.Name x p) [] [] pos) (tCall sp [] E tNil) := by
  obtain ⟨f, fd, ps, F, hm, kp, b⟩ := c.ex
  exact pe_call0 F (hr.mono hk) hg hm kp b .nil (passes_call tk fun _ _ _ _ h => h) hdb
end
end Dw

/-! xs += a tuple; a call of a local name that holds one of two defs. -/
namespace Dw
open PySem PySem.Spec PyProof.Rows L2
theorem meets_lt (l : Addr) (xs : Array Value) (n : Nat) (b : Addr) (ys : Array Value) (n2 : Nat) (dd : Option Addr) (sl : Array (Option Value)) (hs0 : ¬(!xs.isEmpty && Builtin.List.listTooLong (xs.size + ys.size)) = true) (hs1 : xs.size ≤ sizeLine) (hs2 : xs.size + ys.size ≤ sizeLine + 1) :
    Meets (Builtin.«list.__iadd__» ⟨[.ref l, .ref b], []⟩) (fun _ R s => s.heap.get? l = some { cls := .type "list", dict := none, data := .seq xs n, slots := #[] } ∧ s.heap.get? b = some { cls := .type "tuple", dict := dd, data := .seq ys n2, slots := sl } ∧ R (.ok (.ret (Value.ref l))) { s with heap := s.heap.update l (Obj.mapSeq fun x => x ++ ys), toks := s.toks }) :=
  .of_wp fun prog w A R s h => by
    obtain ⟨hp, g, d, tk, os⟩ := s
    obtain ⟨kl, kb, h⟩ := h
    have f1 := PySem.AutoSeq1.idx_int
    have f2 := PySem.AutoSeq1.sub_tuple_tuple
    have f3 := PySem.AutoSeq1.sub_list_list
    have f4 := PySem.AutoSeq1.sub_tuple_list
    have f5 := PySem.AutoSeq1.sub_list_tuple
    have hz' : (xs ++ ys).size ≤ sizeLine + 1 := by rw [Array.size_append]; exact hs2
    wp_walk using (wpAny_updateSeq kl rfl (hz := hs1) (_hz' := hz')), wpAny_loadPart' kl, wpAny_loadPart' kb
    exact ⟨_, rfl, h⟩
theorem iadd_lt {M : Model} {A : Around} {E : Value → Shared → Prop} {s : Shared} {a b : Value} {Q : Value → Shared → Prop} (ha : s.TypeIs a "list") (hb : s.TypeIs b "tuple") (hc : wpAny M A (call (.builtin "list.__iadd__") [a, b]) Q E s) : wpAny M A (inplaceOp .Add a b) Q E s := by
  have sl : typeLookup (.type "list") (dunderI "add") = pure (some (.builtin "list.__iadd__")) := PySem.F.slot_list_iadd.lookup
  have sq : isSeqSlot (some (.builtin "list.__iadd__")) = true := by decide +kernel
  have fi : fillsInplaceSlot (.type "list") "add" (Operator.Add == .Add) = pure false := by
    unfold fillsInplaceSlot
    show (typeLookup (.type "list") (dunderI "add") >>= fun fi => pure (fi.isSome && !isSeqSlot fi)) = pure false
    rw [sl]
    show (pure (true && !isSeqSlot (some (.builtin "list.__iadd__"))) : Sem Bool) = pure false
    rw [sq] <;> rfl
  have hsi : seqSlot? (.type "list") (dunderI "add") = pure (some (.builtin "list.__iadd__")) := PySem.seqSlot_of sl sq
  unfold inplaceOp
  refine wpAny_holding (wpAny_bind (wpAny_typeOf ha (wpAny_bind (wpAny_of_eq fi ?_))))
  show wpAny M A (if false = true then _ else _) Q E s
  rw [if_neg Bool.false_ne_true]
  refine wpAny_bind ?_
  have hne : (Value.type "list" == Value.type "tuple") = false := by decide +kernel
  simp only [binaryOp1]
  refine wpAny_bind (wpAny_typeOf ha (wpAny_bind (wpAny_typeOf hb (wpAny_bind (wpAny_of_eq noFill_list_add ?_)))))
  simp only [hne, Bool.false_eq_true, if_false]
  refine wpAny_bind (wpAny_of_eq noFill_tuple_add ?_)
  simp only [pure_bind, Bool.false_and, Bool.false_eq_true, if_false]
  refine wpAny_pure ?_
  refine wpAny_bind (wpAny_of_eq hsi ?_)
  exact wpAny_bind (wpAny_rule hc)
def rExtT (K : PySem.W.Frag) : R2 := fun x y H Q => ∃ l b xs zs, x = .ref l ∧ y = .ref b ∧ H l = some (.lst xs) ∧ SqT K H b zs ∧ xs.length + zs.length ≤ sizeLine ∧ Q (.ref l) (upd H l (.lst (xs ++ zs)))
section
variable {X : Cx}
theorem iop_extT : PIp X .Add (rExtT X.K) := by
  intro pins s σ H x y v u Q I rx ry h
  obtain ⟨l, b, xs, zs, rfl, rfl, hH, hB, hz, q⟩ := h
  cases rx
  cases ry
  obtain ⟨z, its, n, r, hl, e⟩ := I.lstM hH
  obtain ⟨its2, r2, p2, z2⟩ := I.tuple hB
  obtain ⟨⟨cls, dd, data, sl⟩, ho, hc, n2, hd⟩ := id p2
  simp only at hc hd
  subst hc hd
  have hl2 := r2.length
  have hsz : its.toArray.size + its2.toArray.size ≤ sizeLine := by rw [List.size_toArray, List.size_toArray]; omega
  have hlong : ¬ (!its.toArray.isEmpty && Builtin.List.listTooLong (its.toArray.size + its2.toArray.size)) = true := by
    rw [notLongL hsz, Bool.and_false]
    exact Bool.false_ne_true
  refine iadd_lt ⟨_, e, rfl⟩ ⟨_, ho, rfl⟩ (call_meets PySem.F.slot_list_iadd ⟨_, e, rfl⟩ PySem.F.entry_list_iadd (PySem.F.args_list_iadd_2 _ _) (meets_lt l its.toArray n b its2.toArray n2 dd sl hlong (by rw [List.size_toArray]; omega) (by omega)) ⟨e, ho, ?_⟩)
  refine ⟨.ref l, _, I.lset (its' := its ++ its2) (t' := s.toks) hH e (by simp) (r.append r2) ?_, rfl, q⟩
  rw [List.length_append]
  omega
theorem w_extT {K : PySem.W.Frag} (hK : X.K = K) : PIp X .Add (rExtT K) := by subst hK; exact iop_extT
end
section
variable {W : Wd} {S : List Addr} {H : Hp} {Φ : Ph}
def extB (W : Wd) : Dv → Dv → Ph → List Addr → Hp → Prop := fun x y Φ S H => ∃ a xs zs, x = .adr a ∧ y = .tup zs ∧ LstAt W S H a xs ∧ xs.length + zs.length ≤ sizeLine ∧ ∀ H', Md W [a] H H' → LstAt W S H' a (xs ++ zs) → Φ (.adr a) S H'
theorem dExtT : OpD W (rExtT W.K) (extB W) := fun x y v u Φ S H H1 Q m c rx ry ⟨a, xs, zs, e1, e2, ⟨hs, ws, hw, ra⟩, hz, q⟩ o => by
  subst e1 e2
  cases rx
  cases ry with
  | tup hb rb =>
    have hw1 := m.at hw
    refine ⟨a, _, ws, _, rfl, rfl, hw1, (off_lq _ _).sqT hb, by rw [← ra.length, ← rb.length]; exact hz, ?_⟩
    exact o.put c hs hw1 rfl (q _ (m.up.trans (Md.upd hw1 rfl (List.mem_singleton.mpr rfl))) (LstAt.put hs ((ra.lq (lq_md m)).append rb))) (.adr a)
theorem lf_ext {a : Addr} {xs zs : List Dv} (l : LstAt W S H a xs) (h : xs.length + zs.length ≤ 1000000) (q : ∀ H', Md W [a] H H' → LstAt W S H' a (xs ++ zs) → Φ (.adr a) S H') : extB W (.adr a) (.tup zs) Φ S H := ⟨a, xs, zs, rfl, rfl, l, Nat.le_trans h (by decide), q⟩
end
/-! ### one of two defs, in a local name -/
def tCall2 (i : Nat) (f1 f2 : Addr) (sp1 sp2 : Sp) (E : XK) (t : TA) : TE := fun σ H Q => ∃ b : Bool, σ[i]? = some (some (.ref (if b = true then f1 else f2))) ∧ t σ H fun vs H1 => (if b = true then sp1 else sp2) (vs ++ []) H1 Q E
section
variable {X : Cx} {k1 k2 j i n : Nat} {x x1 x2 : Str} {sp1 sp2 : Sp} {p pos : Pos} {E : XK} {e : Expr} {es : List Expr} {t : TA} {a1 a2 : Addr}
theorem px_l2 (c1 : CalX X.prog X.w X.K X.mg X.base k1 x1 n sp1) (c2 : CalX X.prog X.w X.K X.mg X.base k2 x2 n sp2) (m1 : X.mg x1 = some (.ref a1)) (m2 : X.mg x2 = some (.ref a2)) (hr : Room j X.A) (tk : Tk X E) (hN : X.N[i]? = some x) (hv : Vis X.env.scope x) (ha : PA X (e :: es) t)
    (h1 : k1 ≤ j := by decide) (h2 : k2 ≤ j := by decide) (hdb : (x == ("__debug__" : Str)) = false := by decide) (hcd : (x == ("__classdict__" : Str)) = false := by decide)
    (he : starEach (e :: es) X.env = (false, eval e X.env) :: starEach es X.env := by rfl) (hpl : (backTo pos (starEach es X.env)).any (·.1) = false := by rfl) : PE X (.Call (.Name x p) (e :: es) [] pos) (tCall2 i a1 a2 sp1 sp2 E t) := by
  obtain ⟨f, fd, ps, F, hm, kp, b⟩ := c1.ex
  obtain ⟨g, gd, qs, G, hm2, kp2, b2⟩ := c2.ex
  rw [m1] at hm
  rw [m2] at hm2
  cases hm
  cases hm2
  refine ⟨fun pins s σ H Q I h => ?_⟩
  obtain ⟨z, hs, ht⟩ := h
  cases z with
  | true => exact (pe_callL F (hr.mono h1) hN hv kp b .nil (passes_call tk fun _ _ _ _ h => h) ha hdb hcd he hpl).run pins s σ H Q I ⟨hs, ht⟩
  | false => exact (pe_callL G (hr.mono h2) hN hv kp2 b2 .nil (passes_call tk fun _ _ _ _ h => h) ha hdb hcd he hpl).run pins s σ H Q I ⟨hs, ht⟩
end
section
variable {W : Wd} {E : XK} {ta : TA} {δ : Dn} {S : List Addr} {H : Hp} {Φ : Ph} {X : Px} {i : Nat} {f1 f2 : Addr} {F1 F2 : Fs}
theorem ew_call2 (b : Bool) (hd : δ[i]? = some (some (.adr (if b = true then f1 else f2)))) (h : Aw W E ta δ S H (fun ds S1 H1 => (if b = true then F1 else F2) ds S1 H1 Φ X) X) : Ew W E (tCall2 i f1 f2 (toSp W F1) (toSp W F2) E ta) δ S H Φ X := by
  cases b with
  | true =>
    refine fun σ H1 Q m c o ex => ⟨true, ?_, ew_call (F := F1) (δ := δ) h σ H1 Q m c o ex⟩
    obtain ⟨v, e, r⟩ := c.env.get hd
    cases r
    exact e
  | false =>
    refine fun σ H1 Q m c o ex => ⟨false, ?_, ew_call (F := F2) (δ := δ) h σ H1 Q m c o ex⟩
    obtain ⟨v, e, r⟩ := c.env.get hd
    cases r
    exact e
end
end Dw

/-! A tuple of any things is no text. -/
namespace Dw
open PySem PySem.Spec PyProof.Rows L2
section
variable {X : Cx} {K : PySem.W.Frag}
def rEqTS (K : PySem.W.Frag) : R2 := fun x y H Q => ∃ a xs t, x = .ref a ∧ y = .str t ∧ SqT K H a xs ∧ Q (.bl false) H
theorem op_eqTS (hu : X.A.units + 64 < cLine) : OpR X (compareOp .Eq) (rEqTS X.K) := by
  intro pins s σ H x y v u Q I rx ry h
  obtain ⟨a, xs, t, rfl, rfl, h1, q⟩ := h
  obtain ⟨is1, r1, p1, _⟩ := I.tuple h1
  obtain rfl : v = Value.ref a := rx
  obtain ⟨tk, rfl⟩ : ∃ tk, u = Value.str t tk := ry
  refine SeqAt.RcAt.tuple_str t tk p1 (by omega) X.prog X.w _ _ ?_
  exact ⟨.bl _, H, I, rfl, q⟩
def rEqU (K : PySem.W.Frag) : R2 := rOr (rEqD K) (rEqTS K)
theorem w_eqU (hK : X.K = K) (hu : X.A.units + 64 < cLine) : OpR X (compareOp .Eq) (rEqU K) := by subst hK; exact OpR.or (op_eqD hu) (op_eqTS hu)
end
section
variable {W : Wd} {S : List Addr} {H : Hp} {Φ : Ph}
def eqUB : Dv → Dv → Ph → List Addr → Hp → Prop := fun x y Φ S H => eqB false x y Φ S H ∨ ∃ ds t, x = .tup ds ∧ y = .str t ∧ Φ (.bl false) S H
theorem dEqU : OpD W (rEqU W.K) eqUB := fun x y v u Φ S H H1 Q m c rx ry h o => by
  rcases h with h | ⟨ds, t, rfl, rfl, q⟩
  · exact .inl (dEq x y v u Φ S H H1 Q m c rx ry h o)
  · refine .inr ?_
    cases rx with
    | tup hb rb =>
      cases ry
      exact ⟨_, _, _, rfl, rfl, (off_lq _ _).sqT hb, o.pure c m (.bl _) q⟩
theorem lf_eqU {x y : Dv} (h : eqB false x y Φ S H) : eqUB x y Φ S H := .inl h
theorem lf_eqTS {ds : List Dv} {t : Str} (q : Φ (.bl false) S H) : eqUB (.tup ds) (.str t) Φ S H := .inr ⟨ds, t, rfl, rfl, q⟩
end
end Dw

namespace Ab
open PySem PySem.Spec PyProof.Rows L2 Dw
local macro_rules | `(tactic| walk_at "leaf") => `(tactic| fail "no leaf")
local macro_rules | `(tactic| walk_at "side") => `(tactic| first | decide | (refine And.intro ?_ ?_ <;> decide) | (refine Or.inl ?_; decide) | (refine Or.inr ?_; decide) | (dsimp only; decide))
local macro_rules | `(tactic| walk_at "sw") => `(tactic| first
  | with_reducible refine sw_seq ?_
  | with_reducible refine sw_set ?_
  | ((with_reducible refine sw_next ?_); try dsimp only)
  | with_reducible refine sw_if ?_
  | ((with_reducible refine sw_ret ?_); try dsimp only)
  | with_reducible refine sw_drop ?_
  | with_reducible refine sw_asg ?_
  | with_reducible refine sw_fldN ?_
  | with_reducible refine sw_rz ?_
  | with_reducible refine sw_par ?_
  | with_reducible refine sw_par3 ?_
  | ((with_reducible refine sw_retN ?_); try dsimp only)
  | ((with_reducible refine sw_break ?_); try dsimp only)
  | ((with_reducible refine sw_cont ?_); try dsimp only))
local macro_rules | `(tactic| walk_at "op") => `(tactic| first
  | with_reducible refine ew_op dAdd ?_
  | with_reducible refine ew_op dSub ?_
  | with_reducible refine ew_op dIx ?_
  | with_reducible refine ew_op dEq ?_
  | with_reducible refine ew_op dNe ?_
  | with_reducible refine ew_op dLt ?_
  | with_reducible refine ew_op dMul ?_
  | with_reducible refine ew_op dMod ?_
  | with_reducible refine ew_op dDiv ?_
  | with_reducible refine ew_op dLe ?_
  | with_reducible refine ew_op dGt ?_
  | with_reducible refine ew_op dGe ?_
  | with_reducible refine ew_op dIn ?_
  | with_reducible refine ew_op dNotIn ?_
  | with_reducible refine ew_op dKix' ?_
  | with_reducible refine ew_op dKin' ?_
  | with_reducible refine ew_op dKnot' ?_
  | with_reducible refine ew_op dIsN ?_
  | with_reducible refine ew_op dNotN ?_
  | with_reducible refine ew_op dPow ?_)
local macro_rules | `(tactic| walk_at "cb") => `(tactic| first
  | with_reducible refine ew_cb caD_len ?_
  | with_reducible refine ew_cb caD_int ?_
  | with_reducible refine ew_cb caD_iS ?_
  | with_reducible refine ew_cb caD_abs ?_
  | with_reducible refine ew_cb caD_list ?_
  | with_reducible refine ew_cb caD_tuple ?_
  | with_reducible refine ew_cb caD_sum ?_
  | with_reducible refine ew_cb caD_max2 ?_
  | with_reducible refine ew_cb caD_min2 ?_)
local macro_rules | `(tactic| walk_at "ew") => `(tactic| first
  | with_reducible refine ew_var rfl ?_
  | ((with_reducible show Ew _ _ (tC _) _ _ _ _ _); first
    | with_reducible refine ew_int ?_
    | with_reducible refine ew_str ?_
    | with_reducible refine ew_bl ?_
    | with_reducible refine ew_ref ?_
    | with_reducible refine ew_non ?_)
  | ((with_reducible show Ew _ _ (tOp _ _ _) _ _ _ _ _); walk_at "op")
  | with_reducible refine ew_fldN ?_
  | ((with_reducible show Ew _ _ (tCB _ _) _ _ _ _ _); walk_at "cb")
  | ((with_reducible show Ew _ _ (tChain _ _ _ _ _) _ _ _ _ _); first
    | with_reducible refine ew_chain dLe dLt ?_
    | with_reducible refine ew_chain dLe dLe ?_
    | with_reducible refine ew_chain dLt dLe ?_
    | with_reducible refine ew_chain dLt dLt ?_)
  | with_reducible refine ew_methN ?_
  | with_reducible refine ew_call ?_
  | with_reducible refine ew_makeN ?_
  | with_reducible refine ew_tup ?_
  | with_reducible refine ew_lst ?_
  | with_reducible refine ew_neg ?_
  | with_reducible refine ew_if ?_
  | with_reducible refine ew_andV ?_
  | with_reducible refine ew_orV ?_
  | with_reducible refine ew_notV ?_
  | with_reducible refine ew_sl ?_
  | with_reducible refine ew_revL ?_
  | with_reducible refine ew_revS ?_)
local macro_rules | `(tactic| walk_at "tw") => `(tactic| first
  | with_reducible refine tw_test ?_
  | with_reducible refine tw_B ?_
  | with_reducible refine tw_and ?_
  | with_reducible refine tw_or ?_
  | with_reducible refine tw_not ?_
  | with_reducible refine tw_yes ?_)
local macro_rules | `(tactic| walk_at "ot") => `(tactic| first
  | with_reducible refine gw_name ?_
  | with_reducible refine gwA_cons ?_
  | with_reducible refine gwA_nil ?_
  | with_reducible refine gw_seqN ?_
  | with_reducible refine gw_sub setD_list ?_
  | with_reducible refine ow_some ?_
  | with_reducible refine ow_none ?_
  | with_reducible refine iw_range1 ?_
  | with_reducible refine iw_range2 ?_
  | with_reducible refine iw_range3 ?_
  | with_reducible refine iw_enumS ?_
  | with_reducible refine iw_enum ?_)
local macro_rules | `(tactic| walk_at "lf") => `(tactic| first
  | with_reducible refine ⟨_, rfl, ?_⟩
  | with_reducible refine lf_add_int ?_
  | with_reducible refine lf_ii0 ?_
  | with_reducible refine lf_lt ?_
  | ((with_reducible refine lf_mul_int ?_ ?_); first | walk_at "side" | rotate_left)
  | ((with_reducible refine lf_ii ?_ ?_); first | walk_at "side" | rotate_left)
  | with_reducible refine lf_eq_int ?_
  | with_reducible refine lf_ne_int ?_
  | with_reducible refine seqL_t rfl ?_
  | with_reducible refine seqL_l rfl ?_
  | with_reducible refine and_len2 ?_
  | with_reducible refine and_len1 ?_
  | with_reducible refine and_len0 ?_
  | with_reducible refine and_len3 ?_
  | ((with_reducible show ixB _ _ _ _ _); first
    | with_reducible refine lf_tup0 ?_
    | with_reducible refine lf_tup1 ?_
    | with_reducible refine lf_tup2 ?_
    | with_reducible refine lf_lst0 ?_
    | with_reducible refine lf_lst1 ?_
    | with_reducible refine lf_lst2 ?_
    | with_reducible refine lf_adr0 (by assumption) ?_
    | with_reducible refine lf_adr1 (by assumption) ?_
    | with_reducible refine lf_adr2 (by assumption) ?_)
  | ((with_reducible show lenB _ _ _); first
    | with_reducible refine lf_len_lst ?_
    | with_reducible refine lf_len_tup ?_)
  | with_reducible refine lf_str (by omega) (by omega) ?_
  | with_reducible refine lf_len_iS (by omega) (by omega) ?_
  | with_reducible refine lf_int_int ?_
  | with_reducible refine lf_int_bl ?_)
local macro_rules | `(tactic| walk_at "d1") => `(tactic| first
  | ((with_reducible show Ew _ _ _ _ _ _ _ _); first | walk_at "ew" | walk_at "leaf")
  | ((with_reducible show Sw _ _ _ _ _ _ _ _); walk_at "sw")
  | ((with_reducible show Aw _ _ _ _ _ _ _ _); first | with_reducible refine aw_cons ?_ | with_reducible refine aw_nil ?_)
  | ((with_reducible show Tw _ _ _ _ _ _ _ _); walk_at "tw")
  | walk_at "lf" | walk_at "leaf" | walk_at "ot")
local macro_rules | `(tactic| walk_at "d") => `(tactic| repeat walk_at "d1")
local macro_rules | `(tactic| walk_at "sp") => `(tactic| (refine And.intro ?_ ?_ <;> (intro hb; try simp only [decide_eq_true_eq, decide_eq_false_iff_not, Bool.not_eq_true', Bool.not_eq_false', Bool.true_eq_false, Bool.false_eq_true, Bool.not_true, Bool.not_false, reduceCtorEq] at hb)))
local macro_rules | `(tactic| walk_at "da") => `(tactic| repeat' first | walk_at "d1" | walk_at "sp")
local macro_rules | `(tactic| walk_at "dm1") => `(tactic| ((fail_if_success (with_reducible show Ew _ _ (tLst _) _ _ _ _ _)); walk_at "d1"))
local macro_rules | `(tactic| walk_at "dm") => `(tactic| repeat walk_at "dm1")
local macro_rules | `(tactic| walk_at "lf") => `(tactic| first
  | with_reducible refine orF ?_
  | with_reducible refine orT ?_
  | with_reducible refine ifF ?_
  | with_reducible refine ifT ?_)
local macro_rules | `(tactic| walk_at "dn1") => `(tactic| ((fail_if_success (with_reducible show Ew _ _ (tOp (rNeD _) _ _) _ _ _ _ _)); (fail_if_success (with_reducible show Ew _ _ (tOp (rEqD _) _ _) _ _ _ _ _)); walk_at "d1"))
local macro_rules | `(tactic| walk_at "dn") => `(tactic| repeat walk_at "dn1")
local macro_rules | `(tactic| walk_at "dx1") => `(tactic| ((fail_if_success (with_reducible show Sw _ _ _ _ _ _ _ _)); walk_at "d1"))
local macro_rules | `(tactic| walk_at "dx") => `(tactic| repeat walk_at "dx1")
local macro_rules | `(tactic| walk_at "dxn1") => `(tactic| ((fail_if_success (with_reducible show Sw _ _ _ _ _ _ _ _)); walk_at "dn1"))
local macro_rules | `(tactic| walk_at "dxn") => `(tactic| repeat walk_at "dxn1")

def top (i : Nat) : Stmt := PySem.Challenge.pw_abacusstack_k03_sums_with_carries.main.body.getD i (.Pass ⟨0, 0, 0, 0⟩)
abbrev s__wall : Stmt := top 0
abbrev s_Frame_init : Stmt := inClass (top 9) 0
abbrev s_Frame_copied : Stmt := inClass (top 9) 1
abbrev s_Frame_check_rod : Stmt := inClass (top 9) 2
abbrev s_Frame_beads : Stmt := inClass (top 9) 3
abbrev s_Frame_put : Stmt := inClass (top 9) 4
abbrev s_Frame_digit : Stmt := inClass (top 9) 5
abbrev s_Frame_value : Stmt := inClass (top 9) 6
abbrev s_Frame_clear : Stmt := inClass (top 9) 7
abbrev s_Frame_show : Stmt := inClass (top 9) 8
abbrev s_Frame_is_plain : Stmt := inClass (top 9) 9
abbrev s_Frame_settle : Stmt := inClass (top 9) 10
abbrev s_Frame_ways : Stmt := inClass (top 9) 11
abbrev s_Frame_most : Stmt := inClass (top 9) 12
abbrev s_Frame_lines : Stmt := inClass (top 9) 13
abbrev s_Move_init : Stmt := inClass (top 12) 0
abbrev s_Move_worth : Stmt := inClass (top 12) 1
abbrev s_Move_text : Stmt := inClass (top 12) 2
abbrev s_Move_undone : Stmt := inClass (top 12) 3
abbrev s_moved : Stmt := top 13
abbrev s_all_moved : Stmt := top 14
abbrev s_rod_change : Stmt := top 15
abbrev s_add_digit : Stmt := top 17
abbrev s_take_digit : Stmt := top 18
abbrev s_worked : Stmt := top 19
abbrev s_add : Stmt := top 20
abbrev s_take : Stmt := top 21
abbrev s_rule_of : Stmt := top 22
abbrev s_running : Stmt := top 23
abbrev s__law_dice : Stmt := top 25
abbrev s__law_roll : Stmt := top 26
abbrev s__law_rounds : Stmt := top 27
abbrev s__law_told : Stmt := top 28
abbrev s__law_kind : Stmt := top 29
abbrev s__law_number : Stmt := top 30
abbrev s__law_rods : Stmt := top 31
abbrev s__law_plain : Stmt := top 32
abbrev s__law_moves : Stmt := top 33
abbrev s__law_ends : Stmt := top 34
abbrev s_law : Stmt := top 35
/-! ### the data -/
def frF (k : Str) (l : Addr) : List (Str × V) := putF "rods" (.ref l) (putF "kind" (.str k) [])
theorem nkr : ¬ (("kind" : Str) = "rods") := by decide +kernel
theorem frF_eq (k : Str) (l : Addr) : frF k l = ([("kind", V.str k), ("rods", V.ref l)] : List (Str × V)) := by
  unfold frF
  simp only [putF, if_neg nkr]
theorem frF_kind (k : Str) (l : Addr) : (frF k l).lookup ("kind" : Str) = some (.str k) := by
  unfold frF
  rw [lookup_putF, if_neg nkr, lookup_putF, if_pos rfl]
theorem frF_rods (k : Str) (l : Addr) : (frF k l).lookup ("rods" : Str) = some (.ref l) := by
  unfold frF
  rw [lookup_putF, if_pos rfl]
theorem frF_no (k : Str) (l : Addr) {m : Str} (h1 : ¬ m = "rods") (h2 : ¬ m = "kind") : (frF k l).lookup m = none := by
  unfold frF
  rw [lookup_putF, if_neg h1, lookup_putF, if_neg h2]
  all_goals rfl
theorem frF_put (k : Str) (l l' : Addr) : putF "rods" (.ref l') (frF k l) = frF k l' := by
  rw [frF_eq, frF_eq]
  simp only [putF, if_neg nkr, if_pos]
abbrev Row := Int × Int
def rowD (r : Row) : Dv := .lst [.int r.1, .int r.2]
/-- a Frame at p, its rods (the lowest first) o, in the list at l -/
structure FrameAt (W : Wd) (C : Addr) (S : List Addr) (H : Hp) (p l : Addr) (k : Str) (o : List Row) : Prop where
  pS : p ∈ S
  ob : ∃ dx, H p = some (.ins C dx (frF k l))
  rl : LstAt W S H l (o.reverse.map rowD)
def mostOf (k : Str) : Option Row := if k = "one-four" then some (1, 4) else if k = "two-five" then some (2, 5) else if k = "one-five" then some (1, 5) else none
/-- what the top has made -/
structure Txt (w : World) (W : Wd) (mg : Str → Option Value) where
  (CF kd xA xF xM xS aAdd aTake : Addr)
  clF : Cls W.K CF
  naK : NoAttr W.K CF "kind"
  naR : NoAttr W.K CF "rods"
  g_KINDS : mg "KINDS" = some (.ref kd)
  (es : Array DictEntry)
  (en : Nat)
  kd_KINDS : KDict W.K w kd es en
  kd_in : ∀ (z : Str) m, mostOf z = some m → ∃ a : Addr, PySem.W.nsIn W.K kd z = some (some (.ref a)) ∧ ∀ G, Rp W G (.tup [.int m.1, .int m.2]) (.ref a)
  kd_no : ∀ z : Str, z = "two-two" ∨ z = "two" → PySem.W.nsIn W.K kd z = some none
  g_MOST_RODS : ∃ t, mg "MOST_RODS" = some (.int 15 t)
  x_FrameError : XF W.K mg "FrameError" xF
  x_MoveError : XF W.K mg "MoveError" xM
  x_SumError : XF W.K mg "SumError" xS
  f_add_digit : mg "add_digit" = some (.ref aAdd)
  f_take_digit : mg "take_digit" = some (.ref aTake)
  clM : Cls W.K W.CM
  naRod : NoAttr W.K W.CM "rod"
  naSide : NoAttr W.K W.CM "side"
  naMany : NoAttr W.K W.CM "many"
  g_MOST_MOVES : ∃ t, mg "MOST_MOVES" = some (.int 2000 t)
  z_len : mg "len" = none
  z_range : mg "range" = none
  z_enumerate : mg "enumerate" = none
  z_str : mg "str" = none
  z_int : mg "int" = none
  z_list : mg "list" = none
  z_tuple : mg "tuple" = none
  z_sorted : mg "sorted" = none
  z_all : mg "all" = none
  z_any : mg "any" = none
  z_abs : mg "abs" = none
  z_sum : mg "sum" = none
  z_zip : mg "zip" = none
  (gT : Addr)
  told : Lm.Told W.K mg "_law_told" "AbacusError" gT xA
  exF : PySem.W.exmOne W.K (.ref xF) (.ref xA) = some true
  exM : PySem.W.exmOne W.K (.ref xM) (.ref xA) = some true
  exS : PySem.W.exmOne W.K (.ref xS) (.ref xA) = some true
abbrev Txt.CM {w : World} {W : Wd} {mg : Str → Option Value} (_ : Txt w W mg) : Addr := W.CM
def fNone : Fs := fun _ _ _ _ _ => False
section
variable {P : Program} {w : World} {W : Wd} {mg : Str → Option Value} {base : Heap} {C p l : Addr} {S S' : List Addr} {H H' : Hp} {k : Str} {o : List Row} {Φ : Ph} {X : Px}
theorem FrameAt.up (u : Up W S H S' H') (f : FrameAt W C S H p l k o) : FrameAt W C S' H' p l k o := ⟨u.sub _ f.pS, let ⟨dx, h⟩ := f.ob; ⟨dx, u.md.at h⟩, f.rl.up u⟩
theorem FrameAt.ne (f : FrameAt W C S H p l k o) : p ≠ l := fun e => by
  obtain ⟨dx, h⟩ := f.ob
  obtain ⟨_, xs, h2, _⟩ := f.rl
  rw [e, h2] at h
  cases h
theorem fr_kind {T : Txt w W mg} (f : FrameAt W T.CF S H p l k o) (q : Φ (.str k) S H) : fldB W "kind" (.adr p) Φ S H := let ⟨dx, h⟩ := f.ob; ⟨p, T.CF, dx, _, _, _, rfl, h, T.clF, T.naK, frF_kind k l, .str k, q⟩
theorem fr_rods {T : Txt w W mg} (f : FrameAt W T.CF S H p l k o) (q : Φ (.adr l) S H) : fldB W "rods" (.adr p) Φ S H := let ⟨dx, h⟩ := f.ob; ⟨p, T.CF, dx, _, _, _, rfl, h, T.clF, T.naR, frF_rods k l, .adr l, q⟩
theorem fr_mt {m : Str} {R : Addr → Prop} {T : Txt w W mg} (f : FrameAt W T.CF S H p l k o) (q : R p) (h1 : ¬ m = "rods" := by decide +kernel) (h2 : ¬ m = "kind" := by decide +kernel) : mtB m (.adr p) T.CF H R := let ⟨dx, h⟩ := f.ob; ⟨p, dx, _, rfl, h, frF_no k l h1 h2, q⟩
theorem lf_kix {m : Row} {T : Txt w W mg} (h : mostOf k = some m) (q : Φ (.tup [.int m.1, .int m.2]) S H) : kixB W T.kd (.adr T.kd) (.str k) Φ S H := let ⟨a, h1, h2⟩ := T.kd_in k m h; ⟨k, _, .ref a, _, rfl, rfl, h1, rfl, h2, q⟩
local macro_rules | `(tactic| walk_at "leaf") => `(tactic| first
  | with_reducible refine fr_kind (by assumption) ?_
  | with_reducible refine fr_rods (by assumption) ?_
  | with_reducible refine fr_mt (by assumption) ?_
  | with_reducible refine lf_kix (by assumption) ?_)
def fCheck (T : Txt w W mg) : Fs := fun ds S H Φ X => ∃ p l k o r, ds = [.adr p, .int r] ∧ FrameAt W T.CF S H p l k o ∧ (0 ≤ r ∧ r < o.length → Φ .non S H) ∧ (¬ (0 ≤ r ∧ r < o.length) → X (.ref T.xF) S H)
def at_ (o : List Row) (r : Int) : Row := o.getD r.toNat (0, 0)
def fBeads (T : Txt w W mg) : Fs := fun ds S H Φ X => ∃ p l k o r, ds = [.adr p, .int r] ∧ FrameAt W T.CF S H p l k o ∧ (0 ≤ r ∧ r < o.length → Φ (.tup [.int (at_ o r).1, .int (at_ o r).2]) S H) ∧ (¬ (0 ≤ r ∧ r < o.length) → X (.ref T.xF) S H)
def inB (k : Str) (r : Row) : Prop := ∃ m, mostOf k = some m ∧ (0 ≤ r.1 ∧ r.1 ≤ m.1) ∧ (0 ≤ r.2 ∧ r.2 ≤ m.2)
def fPut (T : Txt w W mg) : Fs := fun ds S H Φ X => ∃ p l k o r a b m, ds = [.adr p, .int r, .int a, .int b] ∧ FrameAt W T.CF S H p l k o ∧ mostOf k = some m ∧
  (0 ≤ r ∧ r < o.length → (0 ≤ a ∧ a ≤ m.1) ∧ (0 ≤ b ∧ b ≤ m.2) → ∀ H', Md W [l] H H' → FrameAt W T.CF S H' p l k (o.set r.toNat (a, b)) → Φ .non S H') ∧ (¬ ((0 ≤ r ∧ r < o.length) ∧ (0 ≤ a ∧ a ≤ m.1) ∧ (0 ≤ b ∧ b ≤ m.2)) → X (.ref T.xF) S H)
def fDigit (T : Txt w W mg) : Fs := fun ds S H Φ X => ∃ p l k o r, ds = [.adr p, .int r] ∧ FrameAt W T.CF S H p l k o ∧ (0 ≤ r ∧ r < o.length → Φ (.int (5 * (at_ o r).1 + (at_ o r).2)) S H) ∧ (¬ (0 ≤ r ∧ r < o.length) → X (.ref T.xF) S H)
def val : List Row → Int
  | [] => 0
  | r :: o => 10 * val o + (5 * r.1 + r.2)
def small (k : Str) (o : List Row) : Prop := (1 ≤ o.length ∧ o.length ≤ 15) ∧ ∃ m, mostOf k = some m ∧ ∀ r ∈ o, (0 ≤ r.1 ∧ r.1 ≤ m.1) ∧ (0 ≤ r.2 ∧ r.2 ≤ m.2)
def fValue (T : Txt w W mg) : Fs := fun ds S H Φ X => ∃ p l k o, ds = [.adr p] ∧ FrameAt W T.CF S H p l k o ∧ o.length ≤ 15 ∧ Φ (.int (val o)) S H
def fClear (T : Txt w W mg) : Fs := fun ds S H Φ X => ∃ p l k o m, ds = [.adr p] ∧ FrameAt W T.CF S H p l k o ∧ mostOf k = some m ∧ o.length ≤ 15 ∧ ∀ H', Md W [l] H H' → FrameAt W T.CF S H' p l k (List.replicate o.length (0, 0)) → Φ .non S H'
theorem row_at {o : List Row} {r : Int} (h : 0 ≤ r ∧ r < o.length) : atI (o.reverse.map rowD) (o.length - 1 - r) = some (rowD (at_ o r)) := by
  obtain ⟨n, rfl⟩ := Int.eq_ofNat_of_zero_le h.1
  have hn : n < o.length := by omega
  have e : ((o.length : Int) - 1 - (n : Int)) = ((o.length - 1 - n : Nat) : Int) := by omega
  rw [e]
  refine atI_nat ?_
  rw [List.getElem?_map, List.getElem?_reverse (by omega)]
  have e2 : o.length - 1 - (o.length - 1 - n) = n := by omega
  rw [e2, List.getElem?_eq_getElem hn]
  unfold at_
  simp [List.getD, hn]
theorem set_at {o : List Row} {n : Nat} {x : Row} (h : n < o.length) : (o.reverse.map rowD).set (o.length - 1 - n) (rowD x) = (o.set n x).reverse.map rowD := by
  rw [← List.map_set]
  congr 1
  refine List.ext_getElem? fun i => ?_
  by_cases hi : i < o.length
  · rw [List.getElem?_reverse (by rw [List.length_set]; exact hi), List.length_set]
    by_cases e : o.length - 1 - n = i
    · subst e
      rw [List.getElem?_set_self (by rw [List.length_reverse]; omega)]
      have e2 : o.length - 1 - (o.length - 1 - n) = n := by omega
      rw [e2, List.getElem?_set_self h]
    · rw [List.getElem?_set_ne e, List.getElem?_set_ne (by omega), List.getElem?_reverse hi]
  · rw [List.getElem?_eq_none (by rw [List.length_set, List.length_reverse]; omega), List.getElem?_eq_none (by rw [List.length_reverse, List.length_set]; omega)]
theorem mostOf_in {k : Str} {m : Row} (h : mostOf k = some m) : 1 ≤ m.1 ∧ 4 ≤ m.2 ∧ m.1 ≤ 2 ∧ m.2 ≤ 5 := by
  unfold mostOf at h
  split at h
  · cases h; decide
  · split at h
    · cases h; decide
    · split at h
      · cases h; decide
      · cases h
theorem FrameAt.set_ {C p l : Addr} {o : List Row} (f : FrameAt W C S H p l k o) {x : Row} {n : Nat} (h : n < o.length) (m : Md W [l] H H') (g : LstAt W S H' l ((o.reverse.map rowD).set (o.length - 1 - n) (rowD x))) : FrameAt W C S H' p l k (o.set n x) := by
  obtain ⟨dx, e⟩ := f.ob
  refine ⟨f.pS, ⟨dx, m.keep _ _ e (fun z => f.ne (List.mem_singleton.mp z)) (fun _ z => by cases z)⟩, ?_⟩
  rw [set_at h] at g
  exact g
/-- the list of rods, as it stands -/
theorem FrameAt.len {C p l : Addr} {o : List Row} (f : FrameAt W C S H p l k o) : LstAt W S H l (o.reverse.map rowD) := f.rl
theorem lf_len_rods {o : List Row} (l1 : LstAt W S H l (o.reverse.map rowD)) (q : Φ (.int (o.length : Nat)) S H) : lenB (W := W) [.adr l] Φ S H := .inr (.inr ⟨l, _, rfl, l1, by rw [List.length_map, List.length_reverse]; exact q⟩)
theorem lf_len_fr (f : FrameAt W C S H p l k o) (q : Φ (.int (o.length : Nat)) S H) : lenB (W := W) [.adr l] Φ S H := lf_len_rods f.rl q
theorem lf_ix_fr {r : Int} (f : FrameAt W C S H p l k o) (h : 0 ≤ r ∧ r < o.length) (q : Φ (rowD (at_ o r)) S H) : ixB (W := W) (.adr l) (.int (o.length - 1 - r)) Φ S H := lf_ix_adr f.rl (row_at h) q
theorem seqL_r {r : Row} {R : List Dv → Prop} (h : R [.int r.1, .int r.2]) : seqL (rowD r) 2 R := seqL_l rfl h
local macro_rules | `(tactic| walk_at "leaf") => `(tactic| first
  | with_reducible refine lf_len_fr (by assumption) ?_
  | with_reducible refine lf_ix_fr (by assumption) (by assumption) ?_
  | with_reducible refine seqL_r ?_)
theorem sc_Frame_check_rod : FnScope ["self", "rod"] ["self", "rod"] (defScope s_Frame_check_rod) := ⟨rfl, rfl, rfl, by decide +kernel, rfl, by decide +kernel, by decide +kernel⟩
theorem ok_Frame_check_rod {f : Addr} {fd : FuncData} (Fn : Fun W.K "check_rod" "Frame.check_rod" s_Frame_check_rod f fd) (T : Txt w W mg)  :
    FnOk P w W.K mg base (L2.CX P w) 1 f fd ["self", "rod"] (toSp W (fCheck T)) := by
  have nd := sc_Frame_check_rod.nd
  refine okD (kk := 0) Fn sc_Frame_check_rod (fun ds S H Φ X h => by obtain ⟨p, l, k, o, r, rfl, hf, h1, h2⟩ := h; rfl) fun cdv A outer s H E hcd hr => ?_
  have hu := hr.units
  have hu1 := hu_of hr
  refine ⟨_, (pss_one (ps_if (pt_not (pt_chain u_le (w_lt (K := W.K) rfl hu) pe_int (pv 1) (pe_callB (w_len (K := W.K) rfl) (by rfl) T.z_len (by decide +kernel) (pa_cons (w_fld (K := W.K) rfl (pv 0)) pa_nil)))) (pss_one (px_raise T.x_FrameError (takes_of rfl rfl rfl rfl))) pss_nil)), fun ds S H0 Φ X hF => ?_⟩
  obtain ⟨p, l, k, o, r, rfl, hf, h1, h2⟩ := hF
  walk_at "da"
  · exact h2 (by omega)
  · exact h1 (by omega)
  · exact h2 (by omega)
theorem sc_Frame_beads : FnScope ["self", "rod", "above", "below"] ["self", "rod"] (defScope s_Frame_beads) := ⟨rfl, rfl, rfl, by decide +kernel, rfl, by decide +kernel, by decide +kernel⟩
theorem ok_Frame_beads {f : Addr} {fd : FuncData} (Fn : Fun W.K "beads" "Frame.beads" s_Frame_beads f fd) (T : Txt w W mg) (G_Frame_check_rod : MetX P w W.K mg base 1 T.CF "check_rod" (toSp W (fCheck T))) :
    FnOk P w W.K mg base (L2.CX P w) 2 f fd ["self", "rod"] (toSp W (fBeads T)) := by
  have nd := sc_Frame_beads.nd
  refine okD (kk := 1) Fn sc_Frame_beads (fun ds S H Φ X h => by obtain ⟨p, l, k, o, r, rfl, hf, h1, h2⟩ := h; rfl) fun cdv A outer s H E hcd hr => ?_
  have hu := hr.units
  have hu1 := hu_of hr
  refine ⟨_, (pss_cons (ps_expr (px_mt G_Frame_check_rod hr (takes_of rfl rfl rfl rfl) (pv 0) (pa_cons (pv 1) pa_nil)))
  (pss_cons (ps_asg (pe_ix (w_ix (K := W.K) rfl) (w_fld (K := W.K) rfl (pv 0)) (pe_op u_sub (pe_op u_sub (pe_callB (w_len (K := W.K) rfl) (by rfl) T.z_len (by decide +kernel) (pa_cons (w_fld (K := W.K) rfl (pv 0)) pa_nil)) pe_int) (pv 1)) (fun _ _ => rfl)) (w_seq (K := W.K) (n := 2) rfl rfl (pgs_cons (pg_name (i := 2) nd rfl (Or.inl rfl)) (pgs_cons (pg_name (i := 3) nd rfl (Or.inl rfl)) pgs_nil))))
  (pss_one (ps_ret (pe_tup (pa_cons (pv 2) (pa_cons (pv 3) pa_nil))))))), fun ds S H0 Φ X hF => ?_⟩
  obtain ⟨p, l, k, o, r, rfl, hf, h1, h2⟩ := hF
  walk_at "d"
  refine ⟨p, l, k, o, r, rfl, hf, fun hr => ?_, h2⟩
  walk_at "d"
  exact h1 hr
theorem sc_Frame_put : FnScope ["self", "rod", "above", "below", "most"] ["self", "rod", "above", "below"] (defScope s_Frame_put) := ⟨rfl, rfl, rfl, by decide +kernel, rfl, by decide +kernel, by decide +kernel⟩
theorem ok_Frame_put {f : Addr} {fd : FuncData} (Fn : Fun W.K "put" "Frame.put" s_Frame_put f fd) (T : Txt w W mg) (G_Frame_check_rod : MetX P w W.K mg base 1 T.CF "check_rod" (toSp W (fCheck T))) :
    FnOk P w W.K mg base (L2.CX P w) 2 f fd ["self", "rod", "above", "below"] (toSp W (fPut T)) := by
  have nd := sc_Frame_put.nd
  refine okD (kk := 1) Fn sc_Frame_put (fun ds S H Φ X h => by obtain ⟨p, l, k, o, r, a, b, m, rfl, hf, hm, h1, h2⟩ := h; rfl) fun cdv A outer s H E hcd hr => ?_
  have hu := hr.units
  have hu1 := hu_of hr
  refine ⟨_, (pss_cons (ps_expr (px_mt G_Frame_check_rod hr (takes_of rfl rfl rfl rfl) (pv 0) (pa_cons (pv 1) pa_nil)))
  (pss_cons (ps_set (i := 4) nd rfl (Or.inl rfl) (w_kix (K := W.K) rfl rfl T.kd_KINDS (pe_glob (v := .ref T.kd) rfl T.g_KINDS rfl) (w_fld (K := W.K) rfl (pv 0))))
  (pss_cons (ps_if (PW.pt (pw_or (pt_not (pt_chain u_le u_le pe_int (pv 2) (pe_ix (w_ix (K := W.K) rfl) (pv 4) pe_int (fun _ _ => rfl)))) (pw_or1 (pt_not (pt_chain u_le u_le pe_int (pv 3) (pe_ix (w_ix (K := W.K) rfl) (pv 4) pe_int (fun _ _ => rfl))))))) (pss_one (px_raise T.x_FrameError (takes_of rfl rfl rfl rfl))) pss_nil)
  (pss_one (ps_asg (pe_lst (pa_cons (pv 2) (pa_cons (pv 3) pa_nil))) (pg_sub (w_fld (K := W.K) rfl (pv 0)) (pe_op u_sub (pe_op u_sub (pe_callB (w_len (K := W.K) rfl) (by rfl) T.z_len (by decide +kernel) (pa_cons (w_fld (K := W.K) rfl (pv 0)) pa_nil)) pe_int) (pv 1)) set_list)))))), fun ds S H0 Φ X hF => ?_⟩
  obtain ⟨p, l, k, o, r, a, b, m, rfl, hf, hm, h1, h2⟩ := hF
  walk_at "d"
  refine ⟨p, l, k, o, r, rfl, hf, fun hr => ?_, fun hr => h2 fun z => hr z.1⟩
  walk_at "da"
  · exact h2 (by omega)
  · refine ⟨l, o.reverse.map rowD, _, o.length - 1 - r.toNat, rfl, rfl, hf.rl, ?_, fun H' m' g => ?_⟩
    · rw [List.length_map, List.length_reverse]
      have e : ((o.length : Int) - 1 - r) = ((o.length - 1 - r.toNat : Nat) : Int) := by omega
      rw [e]
      exact ixN_at (by omega)
    · exact h1 hr (by omega) H' m' (hf.set_ (by omega) m' g)
  · exact h2 (by omega)
  · exact h2 (by omega)
  · exact h2 (by omega)
theorem sc_Frame_digit : FnScope ["self", "rod", "above", "below"] ["self", "rod"] (defScope s_Frame_digit) := ⟨rfl, rfl, rfl, by decide +kernel, rfl, by decide +kernel, by decide +kernel⟩
theorem ok_Frame_digit {f : Addr} {fd : FuncData} (Fn : Fun W.K "digit" "Frame.digit" s_Frame_digit f fd) (T : Txt w W mg) (G_Frame_beads : MetX P w W.K mg base 2 T.CF "beads" (toSp W (fBeads T))) :
    FnOk P w W.K mg base (L2.CX P w) 3 f fd ["self", "rod"] (toSp W (fDigit T)) := by
  have nd := sc_Frame_digit.nd
  refine okD (kk := 2) Fn sc_Frame_digit (fun ds S H Φ X h => by obtain ⟨p, l, k, o, r, rfl, hf, h1, h2⟩ := h; rfl) fun cdv A outer s H E hcd hr => ?_
  have hu := hr.units
  have hu1 := hu_of hr
  refine ⟨_, (pss_cons (ps_asg (px_mt G_Frame_beads hr (takes_of rfl rfl rfl rfl) (pv 0) (pa_cons (pv 1) pa_nil)) (w_seq (K := W.K) (n := 2) rfl rfl (pgs_cons (pg_name (i := 2) nd rfl (Or.inl rfl)) (pgs_cons (pg_name (i := 3) nd rfl (Or.inl rfl)) pgs_nil))))
  (pss_one (ps_ret (pe_op (w_add (K := W.K) rfl) (pe_op u_mul pe_int (pv 2)) (pv 3))))), fun ds S H0 Φ X hF => ?_⟩
  obtain ⟨p, l, k, o, r, rfl, hf, h1, h2⟩ := hF
  walk_at "d"
  refine ⟨p, l, k, o, r, rfl, hf, fun hr => ?_, h2⟩
  walk_at "d"
  exact h1 hr
theorem val_drop {o : List Row} {n : Nat} (h : n < o.length) : val (o.drop n) = 10 * val (o.drop (n + 1)) + (5 * (at_ o (n : Int)).1 + (at_ o (n : Int)).2) := by
  rw [List.drop_eq_getElem_cons h]
  show 10 * val _ + _ = _
  unfold at_
  simp [List.getD, h]
theorem sc_Frame_value : FnScope ["self", "found", "rod"] ["self"] (defScope s_Frame_value) := ⟨rfl, rfl, rfl, by decide +kernel, rfl, by decide +kernel, by decide +kernel⟩
theorem ok_Frame_value {f : Addr} {fd : FuncData} (Fn : Fun W.K "value" "Frame.value" s_Frame_value f fd) (T : Txt w W mg) (G_Frame_digit : MetX P w W.K mg base 3 T.CF "digit" (toSp W (fDigit T))) :
    FnOk P w W.K mg base (L2.CX P w) 4 f fd ["self"] (toSp W (fValue T)) := by
  have nd := sc_Frame_value.nd
  refine okD (kk := 3) Fn sc_Frame_value (fun ds S H Φ X h => by obtain ⟨p, l, k, o, rfl, hf, ho, h1⟩ := h; rfl) fun cdv A outer s H E hcd hr => ?_
  have hu := hr.units
  have hu1 := hu_of hr
  refine ⟨_, (pss_cons (ps_set (i := 1) nd rfl (Or.inl rfl) pe_int)
  (pss_cons (ps_for (passes_of rfl) rfl (pi_range3 (by rfl) T.z_range (pa_cons (pe_op u_sub (pe_callB (w_len (K := W.K) rfl) (by rfl) T.z_len (by decide +kernel) (pa_cons (w_fld (K := W.K) rfl (pv 0)) pa_nil)) pe_int) (pa_cons (pe_op u_sub pe_int pe_int) (pa_cons (pe_op u_sub pe_int pe_int) pa_nil)))) (pg_name (i := 2) nd rfl (Or.inl rfl)) (pss_one (ps_set (i := 1) nd rfl (Or.inl rfl) (pe_op (w_add (K := W.K) rfl) (pe_op u_mul pe_int (pv 1)) (px_mt G_Frame_digit hr (takes_of rfl rfl rfl rfl) (pv 0) (pa_cons (pv 2) pa_nil))))))
  (pss_one (ps_ret (pv 1))))), fun ds S H0 Φ X hF => ?_⟩
  obtain ⟨p, l, k, o, rfl, hf, ho, h1⟩ := hF
  walk_at "d"
  refine sw_forN ?_
  walk_at "d"
  refine lf_rngD (n := o.length) rfl rfl rfl (by omega) ?_
  refine loop_rng (fun i δ S' H' => S' = S ∧ H' = H0 ∧ ∃ x, δ = [some (.adr p), some (.int (val (o.drop (o.length - i)))), x]) ⟨rfl, rfl, none, ?_⟩ ?_ ?_
  · rw [Nat.sub_zero, List.drop_length]
    exact rfl
  · rintro i δ' S' H' hi ⟨rfl, rfl, x, rfl⟩
    walk_at "d"
    have hr : 0 ≤ (o.length : Int) - 1 - (i : Int) ∧ (o.length : Int) - 1 - (i : Int) < o.length := by omega
    refine ⟨p, l, k, o, _, rfl, hf, fun _ => ?_, fun z => absurd hr z⟩
    walk_at "d"
    · refine ⟨rfl, rfl, some (.int ((o.length : Int) - 1 - (i : Int))), ?_⟩
      have e := val_drop (o := o) (n := o.length - (i + 1)) (by omega)
      have e2 : o.length - (i + 1) + 1 = o.length - i := by omega
      have e3 : ((o.length - (i + 1) : Nat) : Int) = (o.length : Int) - 1 - (i : Int) := by omega
      rw [e2, e3] at e
      rw [e]
      exact rfl
  · rintro δ' S' H' ⟨rfl, rfl, x, rfl⟩
    walk_at "d"
    rw [Nat.sub_self, List.drop_zero]
    exact h1
theorem sc_Frame_clear : FnScope ["self", "rod"] ["self"] (defScope s_Frame_clear) := ⟨rfl, rfl, rfl, by decide +kernel, rfl, by decide +kernel, by decide +kernel⟩
theorem ok_Frame_clear {f : Addr} {fd : FuncData} (Fn : Fun W.K "clear" "Frame.clear" s_Frame_clear f fd) (T : Txt w W mg) (G_Frame_put : MetX P w W.K mg base 2 T.CF "put" (toSp W (fPut T))) :
    FnOk P w W.K mg base (L2.CX P w) 3 f fd ["self"] (toSp W (fClear T)) := by
  have nd := sc_Frame_clear.nd
  refine okD (kk := 2) Fn sc_Frame_clear (fun ds S H Φ X h => by obtain ⟨p, l, k, o, m, rfl, hf, hm, ho, h1⟩ := h; rfl) fun cdv A outer s H E hcd hr => ?_
  have hu := hr.units
  have hu1 := hu_of hr
  refine ⟨_, (pss_one (ps_for (passes_of rfl) rfl (pi_range1 (by rfl) T.z_range (pa_cons (pe_callB (w_len (K := W.K) rfl) (by rfl) T.z_len (by decide +kernel) (pa_cons (w_fld (K := W.K) rfl (pv 0)) pa_nil)) pa_nil)) (pg_name (i := 1) nd rfl (Or.inl rfl)) (pss_one (ps_expr (px_mt G_Frame_put hr (takes_of rfl rfl rfl rfl) (pv 0) (pa_cons (pv 1) (pa_cons pe_int (pa_cons pe_int pa_nil)))))))), fun ds S H0 Φ X hF => ?_⟩
  obtain ⟨p, l, k, o, m, rfl, hf, hm, ho, h1⟩ := hF
  refine sw_forN ?_
  walk_at "d"
  refine lf_rng1 (n := o.length) rfl (by omega) ?_
  refine loop_rng (fun i δ S' H' => S' = S ∧ Md W [l] H0 H' ∧ FrameAt W T.CF S H' p l k (List.replicate i (0, 0) ++ o.drop i) ∧ ∃ x, δ = [some (.adr p), x]) ⟨rfl, .refl, hf, none, rfl⟩ ?_ ?_
  · rintro i δ' S' H' hi ⟨rfl, m', hf', x, rfl⟩
    walk_at "d"
    have hm' := mostOf_in hm
    have hl : (List.replicate i ((0 : Int), (0 : Int)) ++ o.drop i).length = o.length := by rw [List.length_append, List.length_replicate, List.length_drop]; omega
    refine ⟨p, l, k, _, (i : Int), 0, 0, m, rfl, hf', hm, fun _ _ H2 m2 f2 => ?_, fun z => absurd (by rw [hl]; omega) z⟩
    refine ⟨rfl, m'.trans m2, ?_, _, rfl⟩
    have e : (List.replicate i ((0 : Int), (0 : Int)) ++ o.drop i).set (Int.toNat (i : Int)) (0, 0) = List.replicate (i + 1) (0, 0) ++ o.drop (i + 1) := by
      rw [Int.toNat_natCast, List.set_append_right _ _ (by rw [List.length_replicate]; omega), List.length_replicate, Nat.sub_self, List.drop_eq_getElem_cons hi, List.set_cons_zero, List.replicate_succ', List.append_assoc]
      all_goals rfl
    rw [e] at f2
    exact f2
  · rintro δ' S' H' ⟨rfl, m', hf', x, rfl⟩
    rw [List.drop_length, List.append_nil] at hf'
    exact h1 _ m' hf'
/-- the row of a digit -/
def drow (n i : Nat) : Row := (((dg n i / 5 : Nat) : Int), ((dg n i % 5 : Nat) : Int))
def plain (n m : Nat) : List Row := (List.range m).map (drow n)
def shown (n m i : Nat) : List Row := (List.range m).map fun j => if j < i then drow n j else (0, 0)
theorem shown_0 (n m : Nat) : shown n m 0 = List.replicate m (0, 0) := by
  unfold shown
  refine List.ext_getElem? fun j => ?_
  rw [List.getElem?_map, List.getElem?_replicate]
  by_cases h : j < m
  · rw [List.getElem?_range h, if_pos h]
    rfl
  · rw [List.getElem?_eq_none (by rw [List.length_range]; omega), if_neg h]
    rfl
theorem shown_len (n m i : Nat) : (shown n m i).length = m := by unfold shown; rw [List.length_map, List.length_range]
theorem shown_set {n m i : Nat} (h : i < m) : (shown n m i).set i (drow n i) = shown n m (i + 1) := by
  refine List.ext_getElem? fun j => ?_
  unfold shown
  by_cases e : i = j
  · subst e
    rw [List.getElem?_set_self (by rw [List.length_map, List.length_range]; exact h), List.getElem?_map, List.getElem?_range h]
    show _ = some (if i < i + 1 then drow n i else (0, 0))
    rw [if_pos (Nat.lt_succ_self i)]
  · rw [List.getElem?_set_ne e, List.getElem?_map, List.getElem?_map]
    by_cases hj : j < m
    · rw [List.getElem?_range hj]
      show some (if j < i then drow n j else (0, 0)) = some (if j < i + 1 then drow n j else (0, 0))
      by_cases h1 : j < i
      · rw [if_pos h1, if_pos (by omega)]
      · rw [if_neg h1, if_neg (by omega)]
    · rw [List.getElem?_eq_none (by rw [List.length_range]; omega)]
      rfl
theorem shown_end {n m : Nat} (h : nD n ≤ m) : shown n m (nD n) = plain n m := by
  unfold shown plain
  refine List.map_congr_left fun j _ => ?_
  by_cases h1 : j < nD n
  · rw [if_pos h1]
  · rw [if_neg h1]
    unfold drow
    rw [dg_big (by omega)]
    rfl
def fShow (T : Txt w W mg) : Fs := fun ds S H Φ X => ∃ p l k o m z, ds = [.adr p, .int z] ∧ FrameAt W T.CF S H p l k o ∧ mostOf k = some m ∧ o.length ≤ 15 ∧ (-(10 ^ 30) < z ∧ z < 10 ^ 30) ∧
  ((z < 0 ∨ o.length < nD z.toNat) → X (.ref T.xF) S H) ∧ (0 ≤ z → nD z.toNat ≤ o.length → ∀ H', Md W [l] H H' → FrameAt W T.CF S H' p l k (plain z.toNat o.length) → Φ .non S H')
theorem lf_numb {E : XK} {g : TG} {t : TS} {k : Ks} {X : Px} {δ : Dn} {z : Int} {Ψ : List Dv → Prop} (h : 0 ≤ z) (q : Ψ ((List.range (nD z.toNat)).map fun i => .tup [.int (i : Nat), .str (sg (dg z.toNat i))])) : Ψ (numb 0 (signs (revS (iS z)))) := by
  rw [iS_nat h, signs_rev, numb_range]
  exact q
theorem sc_Frame_show : FnScope ["self", "number", "rod", "sign"] ["self", "number"] (defScope s_Frame_show) := ⟨rfl, rfl, rfl, by decide +kernel, rfl, by decide +kernel, by decide +kernel⟩
theorem ok_Frame_show {f : Addr} {fd : FuncData} (Fn : Fun W.K "show" "Frame.show" s_Frame_show f fd) (T : Txt w W mg) (G_Frame_clear : MetX P w W.K mg base 3 T.CF "clear" (toSp W (fClear T))) (G_Frame_put : MetX P w W.K mg base 2 T.CF "put" (toSp W (fPut T))) :
    FnOk P w W.K mg base (L2.CX P w) 4 f fd ["self", "number"] (toSp W (fShow T)) := by
  have nd := sc_Frame_show.nd
  refine okD (kk := 3) Fn sc_Frame_show (fun ds S H Φ X h => by obtain ⟨p, l, k, o, m, z, rfl, hf, hm, ho, hz, h1, h2⟩ := h; rfl) fun cdv A outer s H E hcd hr => ?_
  have hu := hr.units
  have hu1 := hu_of hr
  refine ⟨_, (pss_cons (ps_if (PW.pt (pw_or (pt_cmpR (w_lt (K := W.K) rfl hu) (pv 1) pe_int (nomark _)) (pw_or1 (pt_cmpR u_gt (pe_callB (w_len (K := W.K) rfl) (by rfl) T.z_len (by decide +kernel) (pa_cons (pe_callTy c_str (by rfl) T.z_str (by decide +kernel) (pa_cons (pv 1) pa_nil)) pa_nil)) (pe_callB (w_len (K := W.K) rfl) (by rfl) T.z_len (by decide +kernel) (pa_cons (w_fld (K := W.K) rfl (pv 0)) pa_nil)) (nomark _))))) (pss_one (px_raise T.x_FrameError (takes_of rfl rfl rfl rfl))) pss_nil)
  (pss_cons (ps_expr (px_mt0 G_Frame_clear hr (takes_of rfl rfl rfl rfl) (pv 0) ))
  (pss_one (ps_for (passes_of rfl) rfl (pi_enumS (by rfl) T.z_enumerate (pa_cons (pe_revS (pe_callTy c_str (by rfl) T.z_str (by decide +kernel) (pa_cons (pv 1) pa_nil))) pa_nil)) (w_seq (K := W.K) (n := 2) rfl rfl (pgs_cons (pg_name (i := 2) nd rfl (Or.inl rfl)) (pgs_cons (pg_name (i := 3) nd rfl (Or.inl rfl)) pgs_nil))) (pss_one (ps_expr (px_mt G_Frame_put hr (takes_of rfl rfl rfl rfl) (pv 0) (pa_cons (pv 2) (pa_cons (pe_op u_div (pe_callTy c_int (by rfl) T.z_int (by decide +kernel) (pa_cons (pv 3) pa_nil)) pe_int) (pa_cons (pe_op u_mod (pe_callTy c_int (by rfl) T.z_int (by decide +kernel) (pa_cons (pv 3) pa_nil)) pe_int) pa_nil)))))))))), fun ds S H0 Φ X hF => ?_⟩
  obtain ⟨p, l, k, o, m, z, rfl, hf, hm, ho, hz, h1, h2⟩ := hF
  have e0 : ∀ {q : Int}, 0 ≤ q → ((iS q).length : Int) = (nD q.toNat : Nat) := fun {q} h => by rw [iS_nat h, nS_len]
  walk_at "da"
  · rename_i hn hq
    have hn : 0 ≤ z := by omega
    exact h1 (.inr (by have := e0 hn; omega))
  · rename_i hn hq
    have hn : 0 ≤ z := by omega
    have hq : nD z.toNat ≤ o.length := by have := e0 hn; omega
    refine ⟨p, l, k, o, m, rfl, hf, hm, ho, fun H1 m1 f1 => ?_⟩
    walk_at "d"
    refine sw_forN ?_
    walk_at "d"
    refine ⟨by rw [iS_nat hn, nS_len]; omega, ?_⟩
    walk_at "d"
    rw [iS_nat hn, signs_rev, numb_range]
    refine loop_rng (fun i δ S' H' => S' = S ∧ Md W [l] H0 H' ∧ FrameAt W T.CF S H' p l k (shown z.toNat o.length i) ∧ ∃ x y, δ = [some (.adr p), some (.int z), x, y]) ⟨rfl, m1, ?_, none, none, rfl⟩ ?_ ?_
    · rw [shown_0]
      exact f1
    · rintro i δ' S' H' hi ⟨rfl, m', hf', x, y, rfl⟩
      walk_at "d"
      refine lf_int_str (n := (dg z.toNat i : Nat)) (int_sg (dg_lt _ _)) (by show 1 ≤ 640; decide) ?_
      walk_at "d"
      refine lf_int_str (n := (dg z.toNat i : Nat)) (int_sg (dg_lt _ _)) (by show 1 ≤ 640; decide) ?_
      walk_at "d"
      · have hd := dg_lt z.toNat i
        have hm' := mostOf_in hm
        have e1 : ((dg z.toNat i : Nat) : Int) / 5 = ((dg z.toNat i / 5 : Nat) : Int) := by omega
        have e2 : ((dg z.toNat i : Nat) : Int) % 5 = ((dg z.toNat i % 5 : Nat) : Int) := by omega
        rw [e1, e2]
        refine ⟨p, l, k, _, (i : Int), _, _, m, rfl, hf', hm, fun _ _ H2 m2 f2 => ⟨rfl, m'.trans m2, ?_, _, _, rfl⟩, fun z => absurd (by rw [shown_len]; omega) z⟩
        rw [Int.toNat_natCast] at f2
        have := shown_set (n := z.toNat) (m := o.length) (i := i) (by omega)
        unfold drow at this
        rw [this] at f2
        exact f2
    · rintro δ' S' H' ⟨rfl, m', hf', x, y, rfl⟩
      rw [shown_end hq] at hf'
      exact h2 hn hq _ m' hf'
  · exact h1 (.inl (by assumption))
local macro_rules | `(tactic| walk_at "leaf") => `(tactic| first
  | with_reducible refine ew_bm meD_append ?_
  | with_reducible refine ew_dget ?_
  | with_reducible refine ew_dget2 ?_
  | with_reducible refine ew_din ?_
  | with_reducible refine ew_dnotin ?_
  | with_reducible refine ew_lit ?_
  | with_reducible refine ew_cb caD_sortD ?_
  | with_reducible refine ew_m1 meD_join ?_
  | with_reducible refine lf_tyl (by assumption) ?_)
theorem lf_knot {T : Txt w W mg} (h : mostOf k ≠ none ∨ k = "two-two" ∨ k = "two") (q : Φ (.bl (mostOf k).isNone) S H) : kinB W T.kd true (.str k) (.adr T.kd) Φ S H := by
  cases e : mostOf k with
  | none =>
    rw [e] at h q
    exact ⟨k, none, rfl, rfl, T.kd_no k (h.resolve_left fun z => z rfl), q⟩
  | some m =>
    rw [e] at q
    obtain ⟨a, h1, _⟩ := T.kd_in k m e
    exact ⟨k, _, rfl, rfl, h1, q⟩
def known (k : Str) : Prop := mostOf k ≠ none ∨ k = "two-two" ∨ k = "two"
def fInit (T : Txt w W mg) : Fs := fun ds S H Φ X => ∃ p k n dx, ds = [.adr p, .str k, .int n] ∧ p ∈ S ∧ H p = some (.ins T.CF dx []) ∧ known k ∧
  (∀ m, mostOf k = some m → 1 ≤ n ∧ n ≤ 15 → ∀ l H', Md W [p] H H' → H l = none → FrameAt W T.CF (l :: S) H' p l k (List.replicate n.toNat (0, 0)) → Φ .non (l :: S) H') ∧ (mostOf k = none ∨ ¬ (1 ≤ n ∧ n ≤ 15) → X (.ref T.xF) S H)
theorem Md.in1 {p : Addr} (a : Md W [] H H') {H2 : Hp} (b : Md W [p] H' H2) : Md W [p] H H2 := a.up.trans b
theorem sc_Frame_init : FnScope ["self", "kind", "rods", "rod"] ["self", "kind", "rods"] (defScope s_Frame_init) := ⟨rfl, rfl, rfl, by decide +kernel, rfl, by decide +kernel, by decide +kernel⟩
theorem ok_Frame_init {f : Addr} {fd : FuncData} (Fn : Fun W.K "__init__" "Frame.__init__" s_Frame_init f fd) (T : Txt w W mg)  :
    FnOk P w W.K mg base (L2.CX P w) 1 f fd ["self", "kind", "rods"] (toSp W (fInit T)) := by
  have nd := sc_Frame_init.nd
  obtain ⟨t_MOST_RODS, h_MOST_RODS⟩ := T.g_MOST_RODS
  refine okD (kk := 0) Fn sc_Frame_init (fun ds S H Φ X h => by obtain ⟨p, k, n, dx, rfl, pS, ob, hk, h1, h2⟩ := h; rfl) fun cdv A outer s H E hcd hr => ?_
  have hu := hr.units
  have hu1 := hu_of hr
  refine ⟨_, (pss_cons (ps_if (PW.pt (pw_or (pt_cmpR (w_knot (K := W.K) rfl rfl T.kd_KINDS) (pv 1) (pe_glob (v := .ref T.kd) rfl T.g_KINDS rfl) (by rfl)) (pw_or1 (pt_not (pt_chain u_le u_le pe_int (pv 2) (pe_glob (v := .int 15) rfl h_MOST_RODS ⟨_, rfl⟩)))))) (pss_one (px_raise T.x_FrameError (takes_of rfl rfl rfl rfl))) pss_nil)
  (pss_cons (w_sfld (K := W.K) rfl (pv 0) (pv 1))
  (pss_one (w_sfld (K := W.K) rfl (pv 0) (pe_lc (own := [("rod", 3)]) rfl nd (pi_range1 (by rfl) T.z_range (pa_cons (pv 2) pa_nil)) (blkOk_by (by rfl)) (fun _ _ _ _ _ => (pg_name (i := 3) nd rfl (Or.inl rfl))) (fun _ _ _ _ _ => pts_nil) (fun _ _ _ _ _ => (pe_lst (pa_cons pe_int (pa_cons pe_int pa_nil))))))))), fun ds S H0 Φ X hF => ?_⟩
  obtain ⟨p, k, n, dx, rfl, pS, ob, hk, h1, h2⟩ := hF
  walk_at "d"
  refine lf_knot hk ?_
  walk_at "d"
  refine ⟨fun hb => ?_, fun hb => ?_⟩
  · obtain ⟨m, hm⟩ : ∃ m, mostOf k = some m := by
      cases e : mostOf k with
      | none => rw [e] at hb; cases hb
      | some m => exact ⟨m, rfl⟩
    walk_at "da"
    · exact h2 (.inr (by omega))
    · refine ⟨p, T.CF, dx, [], rfl, pS, ob, T.clF, T.naK, by decide, fun v H2 rv m2 e2 => ?_⟩
      cases rv
      walk_at "d"
      refine ew_lcM ?_
      walk_at "d"
      refine lf_rng1 (n := n.toNat) (by omega) (by omega) ?_
      refine lc_map (xs := List.range n.toNat) (fun i => [some (.adr p), some (.str k), some (.int n), some (.int (i : Nat))]) (fun _ => .lst [.int 0, .int 0]) (by rw [List.length_range]; omega) (fun _ _ _ => trivial) (fun i _ => cg_of (cs_name (by decide))) (fun i _ S2 H3 u => ?_) ?_
      · walk_at "d"
        exact same_rfl rfl
      · intro es ees l H3 m3 hl nl g
        cases ees
        walk_at "d"
        have e3 : H3 p = some (.ins T.CF dx (putF "kind" (.str k) [])) := m3.at e2
        refine ⟨p, T.CF, dx, _, rfl, List.mem_cons_of_mem _ pS, e3, T.clF, T.naR, by show 1 < 1000; decide, fun v H4 rv m4 e4 => ?_⟩
        cases rv
        have hl0 : H0 l = none := by
          refine Md.free (W := W) (S := [p]) m2 hl
        have npl : p ≠ l := fun z => by rw [z, hl] at e2; cases e2
        refine h1 m hm (by omega) l H4 ((m2.trans m3.up).trans m4) hl0 ⟨List.mem_cons_of_mem _ pS, ⟨dx, e4⟩, ?_⟩
        have e : (List.range n.toNat).map (fun _ => Dv.lst [.int 0, .int 0]) = (List.replicate n.toNat ((0 : Int), (0 : Int))).reverse.map rowD := by
          rw [List.reverse_replicate, List.map_replicate, List.map_const', List.length_range]
          rfl
        rw [e] at g
        exact LstAt.md g m4 (fun z => npl (List.mem_singleton.mp z).symm) fun x hx => by rw [List.mem_singleton.mp hx]; exact List.mem_cons_of_mem _ pS
    · exact h2 (.inr (by omega))
  · walk_at "da"
    refine h2 (.inl ?_)
    cases e : mostOf k with
    | none => rfl
    | some m => rw [e] at hb; cases hb

/-- a new Frame, told from its maker's side -/
theorem mk_fr {T : Txt w W mg} {n : Int} {m : Row} (hm : mostOf k = some m) (hn : 1 ≤ n ∧ n ≤ 15) (q : ∀ x l H', Up W S H (l :: x :: S) H' → FrameAt W T.CF (l :: x :: S) H' x l k (List.replicate n.toNat (0, 0)) → H x = none → H l = none → Φ (.adr x) (l :: x :: S) H') :
    mkB W T.CF (fInit T) [.str k, .int n] Φ X S H := fun x dx H2 u hx nx e => by
  refine ⟨x, k, n, dx, rfl, List.mem_cons_self, e, .inl (by rw [hm]; exact fun z => by cases z), fun m' _ _ l H' m2 hl f => ⟨rfl, ?_⟩, fun z => ?_⟩
  · have hl0 := u.free hl
    refine q x l H' ⟨u.md.drop m2 fun y hy => by rw [List.mem_singleton.mp hy]; exact hx, fun a ha => List.mem_cons_of_mem _ (List.mem_cons_of_mem _ ha), fun a ha => ?_⟩ f hx hl0
    rcases List.mem_cons.mp ha with z | z
    · rw [z]; exact .inr hl0
    · rcases List.mem_cons.mp z with z | z
      · rw [z]; exact .inr hx
      · exact .inl z
  · rcases z with z | z
    · rw [hm] at z; cases z
    · exact absurd hn z
theorem mk_bad {T : Txt w W mg} {n : Int} (hk : known k) (hn : mostOf k = none ∨ ¬ (1 ≤ n ∧ n ≤ 15)) (q : X (.ref T.xF) S H) (hX : ∀ S' H', Up W S H S' H' → X (.ref T.xF) S H → X (.ref T.xF) S' H') :
    mkB W T.CF (fInit T) [.str k, .int n] Φ X S H := fun x dx H2 u hx nx e => by
  refine ⟨x, k, n, dx, rfl, List.mem_cons_self, e, hk, fun m hm h => ?_, fun _ => hX _ _ u q⟩
  rcases hn with z | z
  · rw [hm] at z; cases z
  · exact absurd h z
def fCopied (T : Txt w W mg) : Fs := fun ds S H Φ X => ∃ p l k o m, ds = [.adr p] ∧ FrameAt W T.CF S H p l k o ∧ mostOf k = some m ∧ (1 ≤ o.length ∧ o.length ≤ 15) ∧ ∀ x l' S' H', Up W S H S' H' → FrameAt W T.CF S' H' x l' k o → H x = none → H l' = none → Φ (.adr x) S' H'
/-- the rods are laid anew -/
theorem sf_rods {T : Txt w W mg} {l' : Addr} {o' : List Row} {Ψ : List Addr → Hp → Prop} (f : FrameAt W T.CF S H p l k o) (g : LstAt W S H l' (o'.reverse.map rowD)) (q : ∀ H', Md W [p] H H' → FrameAt W T.CF S H' p l' k o' → Ψ S H') : sfB W "rods" (.adr p) (.adr l') Ψ S H := by
  obtain ⟨dx, e⟩ := f.ob
  refine ⟨p, T.CF, dx, _, rfl, f.pS, e, T.clF, T.naR, by rw [frF_eq]; show 2 < 1000; decide, fun v H3 rv m e3 => ?_⟩
  cases rv
  rw [frF_put] at e3
  have ne : p ≠ l' := fun z => by
    obtain ⟨_, xs, h, _⟩ := g
    rw [← z, e] at h
    cases h
  exact q H3 m ⟨f.pS, ⟨dx, e3⟩, LstAt.md g m (fun z => ne (List.mem_singleton.mp z).symm) fun x hx => by rw [List.mem_singleton.mp hx]; exact f.pS⟩
theorem sc_Frame_copied : FnScope ["self", "other", "rod"] ["self"] (defScope s_Frame_copied) := ⟨rfl, rfl, rfl, by decide +kernel, rfl, by decide +kernel, by decide +kernel⟩
theorem ok_Frame_copied {f : Addr} {fd : FuncData} (Fn : Fun W.K "copied" "Frame.copied" s_Frame_copied f fd) (T : Txt w W mg) (G_k_Frame : MakX P w W.K mg base 1 "Frame" T.CF (toSp W (fInit T))) :
    FnOk P w W.K mg base (L2.CX P w) 3 f fd ["self"] (toSp W (fCopied T)) := by
  have nd := sc_Frame_copied.nd
  refine okD (kk := 2) Fn sc_Frame_copied (fun ds S H Φ X h => by obtain ⟨p, l, k, o, m, rfl, hf, hm, ho, h1⟩ := h; rfl) fun cdv A outer s H E hcd hr => ?_
  have hu := hr.units
  have hu1 := hu_of hr
  refine ⟨_, (pss_cons (ps_set (i := 1) nd rfl (Or.inl rfl) (px_mk G_k_Frame hr (takes_of rfl rfl rfl rfl) (pa_cons (w_fld (K := W.K) rfl (pv 0)) (pa_cons (pe_callB (w_len (K := W.K) rfl) (by rfl) T.z_len (by decide +kernel) (pa_cons (w_fld (K := W.K) rfl (pv 0)) pa_nil)) pa_nil))))
  (pss_cons (w_sfld (K := W.K) rfl (pv 1) (pe_lc (own := [("rod", 2)]) rfl nd (w_any (K := W.K) rfl (w_fld (K := W.K) rfl (pv 0))) (blkOk_by (by rfl)) (fun _ _ _ _ _ => (pg_name (i := 2) nd rfl (Or.inl rfl))) (fun _ _ _ _ _ => pts_nil) (fun _ _ _ _ _ => (pe_callTy (w_list (K := W.K) rfl) (by rfl) T.z_list (by decide +kernel) (pa_cons (pv 2) pa_nil)))))
  (pss_one (ps_ret (pv 1))))), fun ds S H0 Φ X hF => ?_⟩
  obtain ⟨p, l, k, o, m, rfl, hf, hm, ho, h1⟩ := hF
  walk_at "d"
  refine mk_fr (n := (o.length : Int)) hm (by omega) fun x l1 H1 u1 f1 hx hl1 => ?_
  walk_at "d"
  refine ew_lcM ?_
  refine iw_anyM ?_
  have hf1 := hf.up u1
  walk_at "d"
  refine ⟨_, _, rfl, hf1.rl, ?_⟩
  refine lc_map (xs := o.reverse) (D := rowD) (fun r => [some (.adr p), some (.adr x), some (rowD r)]) rowD (by rw [List.length_reverse]; omega) (fun S2 H2 u => hf1.rl.up u) (fun r _ => cg_of (cs_name (by decide))) (fun r _ S2 H2 u => ?_) ?_
  · walk_at "d"
    exact .inl ⟨_, .inl rfl, same_rfl rfl⟩
  · intro es ees l2 H2 m2 hl2 nl2 g
    cases ees
    walk_at "d"
    have u2 : Up W S H0 (l2 :: l1 :: x :: S) H2 := u1.trans (Up.cons m2 hl2)
    refine sf_rods (f1.up (Up.cons m2 hl2)) g fun H3 m3 f3 => ?_
    walk_at "d"
    exact h1 x l2 _ H3 (u2.drop m3 fun y hy => by rw [List.mem_singleton.mp hy]; exact hx) f3 hx (u1.free hl2)

/-! ### Moves -/
def mvD (x : Int × Str × Int) : Dv := .mov x.1 x.2.1 x.2.2
def fldV (f : Str) (d : Dv) (Φ : Ph) (S : List Addr) (H : Hp) : Prop := ∃ r s m x, d = .mov r s m ∧ ((f = "rod" ∧ x = .int r) ∨ (f = "side" ∧ x = .str s) ∨ (f = "many" ∧ x = .int m)) ∧ Φ x S H
section
variable {E : XK} {δ : Dn} {ta : TE}
theorem ew_mvR {T : Txt w W mg} (h : Ew W E ta δ S H (fun d S1 H1 => fldV "rod" d Φ S1 H1) X) : Ew W E (tFld W.K ta "rod") δ S H Φ X := ew_fldV T.clM T.naRod h
theorem ew_mvS {T : Txt w W mg} (h : Ew W E ta δ S H (fun d S1 H1 => fldV "side" d Φ S1 H1) X) : Ew W E (tFld W.K ta "side") δ S H Φ X := ew_fldV T.clM T.naSide h
theorem ew_mvN {T : Txt w W mg} (h : Ew W E ta δ S H (fun d S1 H1 => fldV "many" d Φ S1 H1) X) : Ew W E (tFld W.K ta "many") δ S H Φ X := ew_fldV T.clM T.naMany h
theorem lf_mvR {r n : Int} {s : Str} (q : Φ (.int r) S H) : fldV "rod" (.mov r s n) Φ S H := ⟨r, s, n, _, rfl, .inl ⟨rfl, rfl⟩, q⟩
theorem lf_mvS {r n : Int} {s : Str} (q : Φ (.str s) S H) : fldV "side" (.mov r s n) Φ S H := ⟨r, s, n, _, rfl, .inr (.inl ⟨rfl, rfl⟩), q⟩
theorem lf_mvN {r n : Int} {s : Str} (q : Φ (.int n) S H) : fldV "many" (.mov r s n) Φ S H := ⟨r, s, n, _, rfl, .inr (.inr ⟨rfl, rfl⟩), q⟩
theorem lf_mvR' {x : Int × Str × Int} (q : Φ (.int x.1) S H) : fldV "rod" (mvD x) Φ S H := lf_mvR q
theorem lf_mvS' {x : Int × Str × Int} (q : Φ (.str x.2.1) S H) : fldV "side" (mvD x) Φ S H := lf_mvS q
theorem lf_mvN' {x : Int × Str × Int} (q : Φ (.int x.2.2) S H) : fldV "many" (mvD x) Φ S H := lf_mvN q
/-- a method of a Move, told over data -/
def mtV (d : Dv) (R : Dv → Prop) : Prop := ∃ r s n, d = .mov r s n ∧ R d
theorem ew_mtV {F : Fs} {nm : Str} {t : TA} (hn : ∀ r f m, (movF r f m).lookup nm = none) (h : Ew W E ta δ S H (fun d S1 H1 => mtV d fun d => Aw W E t δ S1 H1 (fun ds S2 H2 => F (d :: ds) S2 H2 Φ X) X) X) :
    Ew W E (tMeth W.CM nm (toSp W F) [] E ta t) δ S H Φ X := ew_methV hn fun σ H1 Q m c o ex => h σ H1 _ m c (fun v d S1 G1 H2 q => o v d S1 G1 H2 (let ⟨r, s, n, e, q⟩ := q; ⟨r, s, n, e, q⟩)) ex
theorem lf_mt {r n : Int} {s : Str} {R : Dv → Prop} (q : R (.mov r s n)) : mtV (.mov r s n) R := ⟨r, s, n, rfl, q⟩
theorem lf_mt' {x : Int × Str × Int} {R : Dv → Prop} (q : R (mvD x)) : mtV (mvD x) R := ⟨_, _, _, rfl, q⟩
end
/-- the signs of a side -/
theorem lf_side {s : Str} (q : Φ (.bl (!decide (s = "five" ∨ s = "one"))) S H) : Dw.inB true (.str s) (.tup [.str "five", .str "one"]) Φ S H := by
  refine .inr ⟨_, .inr rfl, rfl, rfl, ?_⟩
  have e : inD (.str s) [.str "five", .str "one"] = decide (s = "five" ∨ s = "one") := by
    show ((eqV (.str "five") (.str s)) || ((eqV (.str "one") (.str s)) || false)) = _
    rw [Bool.or_false]
    by_cases h : s = "five"
    · subst h; decide +kernel
    · by_cases h2 : s = "one"
      · subst h2; decide +kernel
      · have h3 : ¬ (("five" : Str) = s) := fun z => h z.symm
        have h4 : ¬ (("one" : Str) = s) := fun z => h2 z.symm
        simp [eqV, h, h2, h3, h4]
  show Φ (.bl (!inD (.str s) [.str "five", .str "one"])) S H
  rw [e]
  exact q
def mvOk (r : Int) (s : Str) (n : Int) : Prop := 0 ≤ r ∧ (s = "five" ∨ s = "one") ∧ n ≠ 0
def fMove (T : Txt w W mg) : Fs := fun ds S H Φ X => ∃ p r s n dx, ds = [.adr p, .int r, .str s, .int n] ∧ p ∈ S ∧ H p = some (.ins W.CM dx []) ∧
  (mvOk r s n → ∀ H', Md W [p] H H' → H' p = some (.ins W.CM dx (movF r s n)) → Φ .non S H') ∧ (¬ mvOk r s n → X (.ref T.xM) S H)
local macro_rules | `(tactic| walk_at "ew") => `(tactic| first
  | with_reducible refine ew_mvR (T := by assumption) ?_
  | with_reducible refine ew_mvS (T := by assumption) ?_
  | with_reducible refine ew_mvN (T := by assumption) ?_
  | with_reducible refine ew_makeM ?_)
local macro_rules | `(tactic| walk_at "leaf") => `(tactic| first
  | with_reducible refine lf_mvR ?_
  | with_reducible refine lf_mvS ?_
  | with_reducible refine lf_mvN ?_
  | with_reducible refine lf_mvR' ?_
  | with_reducible refine lf_mvS' ?_
  | with_reducible refine lf_mvN' ?_
  | with_reducible refine lf_side ?_)
theorem sc_Move_init : FnScope ["self", "rod", "side", "many"] ["self", "rod", "side", "many"] (defScope s_Move_init) := ⟨rfl, rfl, rfl, by decide +kernel, rfl, by decide +kernel, by decide +kernel⟩
theorem ok_Move_init {f : Addr} {fd : FuncData} (Fn : Fun W.K "__init__" "Move.__init__" s_Move_init f fd) (T : Txt w W mg)  :
    FnOk P w W.K mg base (L2.CX P w) 1 f fd ["self", "rod", "side", "many"] (toSp W (fMove T)) := by
  have nd := sc_Move_init.nd
  refine okD (kk := 0) Fn sc_Move_init (fun ds S H Φ X h => by obtain ⟨p, r, s, n, dx, rfl, pS, ob, h1, h2⟩ := h; rfl) fun cdv A outer s H E hcd hr => ?_
  have hu := hr.units
  have hu1 := hu_of hr
  refine ⟨_, (pss_cons (ps_if (PW.pt (pw_or (pt_cmpR (w_lt (K := W.K) rfl hu) (pv 1) pe_int (nomark _)) (pw_or (pt_cmpR (w_notin (K := W.K) rfl) (pv 2) (pe_tup (pa_cons pe_str (pa_cons pe_str pa_nil))) (by rfl)) (pw_or1 (pt_cmpR (w_eq (K := W.K) rfl hu) (pv 3) pe_int (nomark _)))))) (pss_one (px_raise T.x_MoveError (takes_of rfl rfl rfl rfl))) pss_nil)
  (pss_cons (w_sfld (K := W.K) rfl (pv 0) (pv 1))
  (pss_cons (w_sfld (K := W.K) rfl (pv 0) (pv 2))
  (pss_one (w_sfld (K := W.K) rfl (pv 0) (pv 3)))))), fun ds S H0 Φ X hF => ?_⟩
  obtain ⟨p, r, s, n, dx, rfl, pS, ob, h1, h2⟩ := hF
  walk_at "da"
  · exact h2 (fun z => z.2.2 (by assumption))
  · have hk : mvOk r s n := by
      refine ⟨by omega, ?_, by assumption⟩
      assumption
    refine ⟨p, W.CM, dx, [], rfl, pS, ob, T.clM, T.naRod, by decide, fun v H2 rv m2 e2 => ?_⟩
    cases rv
    walk_at "d"
    refine ⟨p, W.CM, dx, _, rfl, pS, e2, T.clM, T.naSide, by show 1 < 1000; decide, fun v H3 rv m3 e3 => ?_⟩
    cases rv
    walk_at "d"
    refine ⟨p, W.CM, dx, _, rfl, pS, e3, T.clM, T.naMany, by show 2 < 1000; decide, fun v H4 rv m4 e4 => ?_⟩
    cases rv
    exact h1 hk H4 ((m2.trans m3).trans m4) e4
  · refine h2 (fun z => ?_)
    have := z.2.1
    contradiction
  · exact h2 (fun z => by have := z.1; omega)
theorem movF_worth : ∀ r f m, (movF r f m).lookup ("worth" : Str) = none := movF_no (by decide +kernel) (by decide +kernel) (by decide +kernel)
theorem movF_text : ∀ r f m, (movF r f m).lookup ("text" : Str) = none := movF_no (by decide +kernel) (by decide +kernel) (by decide +kernel)
theorem movF_undone : ∀ r f m, (movF r f m).lookup ("undone" : Str) = none := movF_no (by decide +kernel) (by decide +kernel) (by decide +kernel)
/-- a new Move, told from its maker's side -/
theorem mk_mv {T : Txt w W mg} {r n : Int} {s : Str} (h : mvOk r s n) (q : Φ (.mov r s n) S H) : mkM W (fMove T) [.int r, .str s, .int n] Φ X S H := fun x dx H2 u hx nx e =>
  ⟨x, r, s, n, dx, rfl, List.mem_cons_self, e, fun _ H' m' e' => ⟨rfl, r, s, n, rfl, m', e', q⟩, fun z => absurd h z⟩
theorem mk_mvBad {T : Txt w W mg} {r n : Int} {s : Str} (h : ¬ mvOk r s n) (q : ∀ S' H', Up W S H S' H' → X (.ref T.xM) S' H') : mkM W (fMove T) [.int r, .str s, .int n] Φ X S H := fun x dx H2 u hx nx e =>
  ⟨x, r, s, n, dx, rfl, List.mem_cons_self, e, fun z => absurd z h, fun _ => q _ _ u⟩
/-- what a move changes the number by -/
def wMv (x : Int × Str × Int) : Int := x.2.2 * (if x.2.1 = "five" then 5 else 1) * 10 ^ x.1.toNat
def fWorth (T : Txt w W mg) : Fs := fun ds S H Φ X => ∃ r s n, ds = [.mov r s n] ∧ (0 ≤ r ∧ r < 100) ∧ PyData.strOk s = true ∧ Φ (.int (wMv (r, s, n))) S H
def mvS (n : Int) : Str := if 0 < n then "+" else "-"
def tMv (x : Int × Str × Int) : Str := iS x.1 ++ x.2.1 ++ mvS x.2.2 ++ iS (if x.2.2 < 0 then - x.2.2 else x.2.2)
def fText (T : Txt w W mg) : Fs := fun ds S H Φ X => ∃ r s n, ds = [.mov r s n] ∧ (0 ≤ r ∧ r < 100) ∧ (s = "five" ∨ s = "one") ∧ (-10 < n ∧ n < 10) ∧ Φ (.str (tMv (r, s, n))) S H
theorem iS_100 {r : Int} (h : 0 ≤ r ∧ r < 100) : (iS r).length ≤ 2 := by
  have : ∀ i : Fin 100, (iS (i.val : Nat)).length ≤ 2 := by decide +kernel
  have e := this ⟨r.toNat, by omega⟩
  have e2 : ((r.toNat : Nat) : Int) = r := by omega
  simp only [e2] at e
  exact e
def fUndone (T : Txt w W mg) : Fs := fun ds S H Φ X => ∃ r s n, ds = [.mov r s n] ∧ mvOk r s n ∧ Φ (.mov r s (0 - n)) S H
local macro_rules | `(tactic| walk_at "sw") => `(tactic| first
  | with_reducible refine sw_aug dIp rfl ?_
  | with_reducible refine sw_aug dIpC rfl ?_)
local macro_rules | `(tactic| walk_at "ew") => `(tactic| first
  | with_reducible refine ew_mtV movF_worth ?_
  | with_reducible refine ew_mtV movF_text ?_
  | with_reducible refine ew_mtV movF_undone ?_)
local macro_rules | `(tactic| walk_at "leaf") => `(tactic| first
  | with_reducible refine lf_mt ?_
  | with_reducible refine lf_mt' ?_)
/-- a row behind a move -/
def nb (x : Row) (s : Str) (n : Int) : Row := if s = "five" then (x.1 + n, x.2) else (x.1, x.2 + n)
def inM (m x : Row) : Prop := (0 ≤ x.1 ∧ x.1 ≤ m.1) ∧ (0 ≤ x.2 ∧ x.2 ≤ m.2)
instance (m x : Row) : Decidable (inM m x) := inferInstanceAs (Decidable (_ ∧ _))
/-- rods behind a move, if it can be -/
def push (m : Row) (o : List Row) (x : Int × Str × Int) : Option (List Row) := if x.1 < o.length ∧ inM m (nb (at_ o x.1) x.2.1 x.2.2) then some (o.set x.1.toNat (nb (at_ o x.1) x.2.1 x.2.2)) else none
def fMoved (T : Txt w W mg) : Fs := fun ds S H Φ X => ∃ p l k o m r s n, ds = [.adr p, .mov r s n] ∧ FrameAt W T.CF S H p l k o ∧ mostOf k = some m ∧ 0 ≤ r ∧ PyData.strOk s = true ∧
  (∀ o', push m o (r, s, n) = some o' → ∀ H', Md W [l] H H' → FrameAt W T.CF S H' p l k o' → Φ .non S H') ∧ (push m o (r, s, n) = none → X (.ref T.xM) S H)
theorem push_no {m : Row} {r n : Int} {s : Str} (h : ¬ inM m (nb (at_ o r) s n)) : push m o (r, s, n) = none := by
  unfold push
  rw [if_neg fun z => h z.2]
theorem push_yes {m x : Row} {r n : Int} {s : Str} (e : nb (at_ o r) s n = x) (hi : r < o.length) (h : inM m x) : push m o (r, s, n) = some (o.set r.toNat x) := by
  subst e
  unfold push
  rw [if_pos ⟨hi, h⟩]
theorem nb_5 {x : Row} {s : Str} {n : Int} (h : s = "five") : nb x s n = (x.1 + n, x.2) := by unfold nb; rw [if_pos h]
theorem nb_1 {x : Row} {s : Str} {n : Int} (h : ¬ s = "five") : nb x s n = (x.1, x.2 + n) := by unfold nb; rw [if_neg h]
theorem sc_moved : FnScope ["frame", "move", "above", "below"] ["frame", "move"] (defScope s_moved) := ⟨rfl, rfl, rfl, by decide +kernel, rfl, by decide +kernel, by decide +kernel⟩
theorem ok_moved {f : Addr} {fd : FuncData} (Fn : Fun W.K "moved" "moved" s_moved f fd) (T : Txt w W mg) (G_Frame_beads : MetX P w W.K mg base 2 T.CF "beads" (toSp W (fBeads T))) (G_Frame_put : MetX P w W.K mg base 2 T.CF "put" (toSp W (fPut T))) :
    FnOk P w W.K mg base (L2.CX P w) 3 f fd ["frame", "move"] (toSp W (fMoved T)) := by
  have nd := sc_moved.nd
  refine okD (kk := 2) Fn sc_moved (fun ds S H Φ X h => by obtain ⟨p, l, k, o, m, r, s, n, rfl, hf, hm, hr0, hs, h1, h2⟩ := h; rfl) fun cdv A outer s H E hcd hr => ?_
  have hu := hr.units
  have hu1 := hu_of hr
  refine ⟨_, (pss_cons (ps_if (pt_cmpR u_ge (w_fld (K := W.K) rfl (pv 1)) (pe_callB (w_len (K := W.K) rfl) (by rfl) T.z_len (by decide +kernel) (pa_cons (w_fld (K := W.K) rfl (pv 0)) pa_nil)) (nomark _)) (pss_one (px_raise T.x_MoveError (takes_of rfl rfl rfl rfl))) pss_nil)
  (pss_cons (ps_asg (px_mt G_Frame_beads hr (takes_of rfl rfl rfl rfl) (pv 0) (pa_cons (w_fld (K := W.K) rfl (pv 1)) pa_nil)) (w_seq (K := W.K) (n := 2) rfl rfl (pgs_cons (pg_name (i := 2) nd rfl (Or.inl rfl)) (pgs_cons (pg_name (i := 3) nd rfl (Or.inl rfl)) pgs_nil))))
  (pss_cons (ps_if (pt_cmpR (w_eq (K := W.K) rfl hu) (w_fld (K := W.K) rfl (pv 1)) pe_str (nomark _)) (pss_one (ps_aug (i := 2) nd rfl (Or.inl rfl) (w_fld (K := W.K) rfl (pv 1)) ip_add)) (pss_one (ps_aug (i := 3) nd rfl (Or.inl rfl) (w_fld (K := W.K) rfl (pv 1)) ip_add)))
  (pss_cons (ps_if (PW.pt (pw_or (pt_not (pt_chain u_le u_le pe_int (pv 2) (pe_ix (w_ix (K := W.K) rfl) (w_kix (K := W.K) rfl rfl T.kd_KINDS (pe_glob (v := .ref T.kd) rfl T.g_KINDS rfl) (w_fld (K := W.K) rfl (pv 0))) pe_int (fun _ _ => rfl)))) (pw_or1 (pt_not (pt_chain u_le u_le pe_int (pv 3) (pe_ix (w_ix (K := W.K) rfl) (w_kix (K := W.K) rfl rfl T.kd_KINDS (pe_glob (v := .ref T.kd) rfl T.g_KINDS rfl) (w_fld (K := W.K) rfl (pv 0))) pe_int (fun _ _ => rfl))))))) (pss_one (px_raise T.x_MoveError (takes_of rfl rfl rfl rfl))) pss_nil)
  (pss_one (ps_expr (px_mt G_Frame_put hr (takes_of rfl rfl rfl rfl) (pv 0) (pa_cons (w_fld (K := W.K) rfl (pv 1)) (pa_cons (pv 2) (pa_cons (pv 3) pa_nil)))))))))), fun ds S H0 Φ X hF => ?_⟩
  obtain ⟨p, l, k, o, m, r, s, n, rfl, hf, hm, hr0, hs, h1, h2⟩ := hF
  walk_at "da"
  · refine h2 ?_
    unfold push
    rw [if_neg (by omega)]
  · rename_i hb
    have hi : 0 ≤ r ∧ r < o.length := by omega
    refine ⟨p, l, k, o, r, rfl, hf, fun _ => ?_, fun z => absurd hi z⟩
    walk_at "d"
    refine lf_eq_str hs (by decide +kernel) ?_
    walk_at "da"
    all_goals first
      | (refine h2 (push_no fun z => ?_)
         first
           | rw [nb_5 (by assumption)] at z
           | rw [nb_1 (by assumption)] at z
         have z1 := z.1
         have z2 := z.2
         dsimp only at z1 z2
         omega)
      | (refine ⟨p, l, k, o, r, _, _, m, rfl, hf, hm, fun _ hz H2 m2 f2 => h1 _ (push_yes (nb_5 (by assumption)) hi.2 hz) H2 m2 f2, fun z => absurd ⟨hi, ⟨?_, ?_⟩, ?_, ?_⟩ z⟩ <;> omega)
      | (refine ⟨p, l, k, o, r, _, _, m, rfl, hf, hm, fun _ hz H2 m2 f2 => h1 _ (push_yes (nb_1 (by assumption)) hi.2 hz) H2 m2 f2, fun z => absurd ⟨hi, ⟨?_, ?_⟩, ?_, ?_⟩ z⟩ <;> omega)
def pushes (m : Row) : List Row → List (Int × Str × Int) → Option (List Row)
  | o, [] => some o
  | o, x :: xs => (push m o x).bind fun o' => pushes m o' xs
theorem pushes_snoc {m : Row} {x : Int × Str × Int} : ∀ (xs : List (Int × Str × Int)) (o : List Row), pushes m o (xs ++ [x]) = (pushes m o xs).bind fun o' => push m o' x
  | [], o => by
    show (push m o x).bind (fun o' => some o') = push m o x
    cases push m o x <;> rfl
  | y :: xs, o => by
    show (push m o y).bind (fun o' => pushes m o' (xs ++ [x])) = ((push m o y).bind fun o' => pushes m o' xs).bind fun o' => push m o' x
    cases push m o y with
    | none => rfl
    | some o1 => exact pushes_snoc xs o1
theorem pushes_none {m : Row} : ∀ {xs ys : List (Int × Str × Int)} {o : List Row}, pushes m o xs = none → pushes m o (xs ++ ys) = none
  | [], _, _, h => by cases h
  | x :: xs, ys, o, h => by
    show (push m o x).bind (fun o' => pushes m o' (xs ++ ys)) = none
    have h' : (push m o x).bind (fun o' => pushes m o' xs) = none := h
    cases e : push m o x with
    | none => rfl
    | some o1 =>
      rw [e] at h'
      exact pushes_none (xs := xs) h'
theorem push_len {m : Row} {x : Int × Str × Int} {o o' : List Row} (h : push m o x = some o') : o'.length = o.length := by
  unfold push at h
  split at h
  · cases h; rw [List.length_set]
  · cases h
theorem pushes_len {m : Row} : ∀ {xs : List (Int × Str × Int)} {o o' : List Row}, pushes m o xs = some o' → o'.length = o.length
  | [], _, _, h => by cases h; rfl
  | x :: xs, o, o', h => by
    have h' : (push m o x).bind (fun o' => pushes m o' xs) = some o' := h
    cases e : push m o x with
    | none => rw [e] at h'; cases h'
    | some o1 =>
      rw [e] at h'
      rw [pushes_len (xs := xs) h', push_len e]
theorem tk_snoc {α : Type} {xs : List α} {i : Nat} {x : α} (h : xs[i]? = some x) : xs.take (i + 1) = xs.take i ++ [x] := by
  rw [List.take_add_one, h]
  rfl
def fAllMoved (T : Txt w W mg) : Fs := fun ds S H Φ X => ∃ p l k o m d ms, ds = [.adr p, d] ∧ (d = .lst (ms.map mvD) ∨ d = .tup (ms.map mvD)) ∧ FrameAt W T.CF S H p l k o ∧ mostOf k = some m ∧ (1 ≤ o.length ∧ o.length ≤ 15) ∧
  (∀ x ∈ ms, 0 ≤ x.1 ∧ PyData.strOk x.2.1 = true) ∧ (2000 < ms.length ∨ pushes m o ms = none → ∀ S' H', Up W S H S' H' → X (.ref T.xM) S' H') ∧
  (∀ o', ms.length ≤ 2000 → pushes m o ms = some o' → ∀ l' S' H', Md W [p] H H' → (∀ a ∈ S, a ∈ S') → (∀ a ∈ S', a ∈ S ∨ H a = none) → H l' = none → FrameAt W T.CF S' H' p l' k o' → Φ .non S' H')
theorem sc_all_moved : FnScope ["frame", "moves", "other", "move"] ["frame", "moves"] (defScope s_all_moved) := ⟨rfl, rfl, rfl, by decide +kernel, rfl, by decide +kernel, by decide +kernel⟩
theorem ok_all_moved {f : Addr} {fd : FuncData} (Fn : Fun W.K "all_moved" "all_moved" s_all_moved f fd) (T : Txt w W mg) (G_Frame_copied : MetX P w W.K mg base 3 T.CF "copied" (toSp W (fCopied T))) (G_moved : CalX P w W.K mg base 3 "moved" 2 (toSp W (fMoved T))) :
    FnOk P w W.K mg base (L2.CX P w) 4 f fd ["frame", "moves"] (toSp W (fAllMoved T)) := by
  have nd := sc_all_moved.nd
  obtain ⟨t_MOST_MOVES, h_MOST_MOVES⟩ := T.g_MOST_MOVES
  refine okD (kk := 3) Fn sc_all_moved (fun ds S H Φ X h => by obtain ⟨p, l, k, o, m, d, ms, rfl, hd, hf, hm, ho, hms, h1, h2⟩ := h; rfl) fun cdv A outer s H E hcd hr => ?_
  have hu := hr.units
  have hu1 := hu_of hr
  refine ⟨_, (pss_cons (ps_if (pt_cmpR u_gt (pe_callB (w_len (K := W.K) rfl) (by rfl) T.z_len (by decide +kernel) (pa_cons (pv 1) pa_nil)) (pe_glob (v := .int 2000) rfl h_MOST_MOVES ⟨_, rfl⟩) (nomark _)) (pss_one (px_raise T.x_MoveError (takes_of rfl rfl rfl rfl))) pss_nil)
  (pss_cons (ps_set (i := 2) nd rfl (Or.inl rfl) (px_mt0 G_Frame_copied hr (takes_of rfl rfl rfl rfl) (pv 0) ))
  (pss_cons (ps_for (passes_of rfl) rfl (w_any (K := W.K) rfl (pv 1)) (pg_name (i := 3) nd rfl (Or.inl rfl)) (pss_one (ps_expr (px_c G_moved hr (takes_of rfl rfl rfl rfl) (pa_cons (pv 2) (pa_cons (pv 3) pa_nil))))))
  (pss_one (w_sfld (K := W.K) rfl (pv 0) (w_fld (K := W.K) rfl (pv 2))))))), fun ds S H0 Φ X hF => ?_⟩
  obtain ⟨p, l, k, o, m, d, ms, rfl, hd, hf, hm, ho, hms, h1, h2⟩ := hF
  have loop : ∀ (d : Dv) x l1 S1 H1 E, Up W S H0 S1 H1 → FrameAt W T.CF S1 H1 x l1 k o → H0 x = none → H0 l1 = none → ms.length ≤ 2000 →
      LoopB W E (gName 3) (tDrop (tCall (toSp W (fMoved T)) [] E (tCons (tVar 2) (tCons (tVar 3) tNil)))) { nx := fun δ' S' H' => Sw W E (sFld W.K (tVar 0) (tFld W.K (tVar 2) "rods") "rods") δ' S' H' { nx := fun _ S' H' => Φ .non S' H', rt := Φ } X, rt := Φ } X [some (.adr p), some d, some (.adr x), none] (ms.map mvD) (fun _ _ => True) S1 H1 := by
    intro d x l1 S1 H1 E u1 f1 hx hl1 hlen
    refine loop_of (fun i δ' S' H' => S' = S1 ∧ Up W S H0 S1 H' ∧ (∃ oi, pushes m o (ms.take i) = some oi ∧ FrameAt W T.CF S1 H' x l1 k oi) ∧ ∃ y, δ' = [some (.adr p), some d, some (.adr x), y]) ⟨rfl, u1, ⟨o, rfl, f1⟩, none, rfl⟩ (fun _ _ _ _ _ => trivial) ?_ ?_
    · rintro i ⟨r, s, n⟩ δ' S' H' hi ⟨rfl, u2, ⟨oi, hoi, f2⟩, y, rfl⟩
      have hx2 := hms _ (List.mem_of_getElem? hi)
      walk_at "d"
      refine ⟨x, l1, k, oi, m, r, s, n, rfl, f2, hm, hx2.1, hx2.2, fun o' ho' H2 m2 f3 => ?_, fun z => ?_⟩
      · refine ⟨rfl, u2.drop m2 fun y hy => by rw [List.mem_singleton.mp hy]; exact hl1, ⟨o', ?_, f3⟩, _, rfl⟩
        rw [tk_snoc hi, pushes_snoc, hoi]
        exact ho'
      · refine h1 (.inr ?_) _ _ u2
        have e : ms = ms.take (i + 1) ++ ms.drop (i + 1) := (List.take_append_drop _ _).symm
        rw [e]
        refine pushes_none ?_
        rw [tk_snoc hi, pushes_snoc, hoi]
        exact z
    · rintro δ' S' H' ⟨rfl, u2, ⟨oi, hoi, f2⟩, y, rfl⟩
      rw [List.take_length] at hoi
      walk_at "d"
      refine sf_rods (hf.up u2) f2.rl fun H3 m3 f3 => ?_
      walk_at "d"
      exact h2 oi hlen hoi l1 _ H3 (u2.md.up.trans m3) u2.sub u2.new hl1 f3
  have fin : ∀ (d : Dv) E, ms.length ≤ 2000 → (∀ δ S1 H1, δ[1]? = some (some d) → ∀ Φ' : List Dv → (List Addr → Hp → Prop) → List Addr → Hp → Prop, Φ' (ms.map mvD) (fun _ _ => True) S1 H1 → Iw W E (iAny W.K (tVar 1)) δ S1 H1 Φ' X) →
      fCopied T [.adr p] S H0 (fun x S1 H1 => Sw W E (tSeq (tFor (iAny W.K (tVar 1)) (gName 3) (tDrop (tCall (toSp W (fMoved T)) [] E (tCons (tVar 2) (tCons (tVar 3) tNil))))) (sFld W.K (tVar 0) (tFld W.K (tVar 2) "rods") "rods")) [some (.adr p), some d, some x, none] S1 H1 { nx := fun _ S' H' => Φ .non S' H', rt := Φ } X) X := by
    intro d E hlen hi
    refine ⟨p, l, k, o, m, rfl, hf, hm, ho, fun x l1 S1 H1 u1 f1 hx hl1 => ?_⟩
    walk_at "d"
    refine sw_forN ?_
    exact hi _ _ _ rfl _ (loop d x l1 S1 H1 E u1 f1 hx hl1 hlen)
  have hn : ms.length ≤ 2000 ∨ 2000 < ms.length := by omega
  rcases hd with rfl | rfl
  · walk_at "d"
    refine lf_len_lst ?_
    rw [List.length_map]
    walk_at "da"
    · refine h1 (.inl (by omega)) _ _ .refl
    · refine fin _ _ (by omega) (fun δ S1 H1 e Φ' q => iw_anyL (ew_var e ⟨_, rfl, q⟩))
  · walk_at "d"
    refine lf_len_tup ?_
    rw [List.length_map]
    walk_at "da"
    · refine h1 (.inl (by omega)) _ _ .refl
    · refine fin _ _ (by omega) (fun δ S1 H1 e Φ' q => iw_anyT (ew_var e ⟨_, rfl, q⟩))
/-- the moves that bring a row to another -/
def chg (x : Row) (r a b : Int) : List (Int × Str × Int) := (if a ≠ x.1 then [(r, ("five" : Str), a - x.1)] else []) ++ (if b ≠ x.2 then [(r, ("one" : Str), b - x.2)] else [])
def fRodChange (T : Txt w W mg) : Fs := fun ds S H Φ X => ∃ p l k o m r a b, ds = [.adr p, .int r, .int a, .int b] ∧ FrameAt W T.CF S H p l k o ∧ mostOf k = some m ∧ (1 ≤ o.length ∧ o.length ≤ 15) ∧
  (¬ ((0 ≤ r ∧ r < o.length) ∧ inM m (a, b)) → ∀ S' H', Up W S H S' H' → X (.ref T.xF) S' H') ∧
  ((0 ≤ r ∧ r < o.length) → inM m (a, b) → ∀ S' H', Up W S H S' H' → Φ (.tup ((chg (at_ o r) r a b).map mvD)) S' H')
theorem sc_rod_change : FnScope ["frame", "rod", "above", "below", "mine", "found"] ["frame", "rod", "above", "below"] (defScope s_rod_change) := ⟨rfl, rfl, rfl, by decide +kernel, rfl, by decide +kernel, by decide +kernel⟩
theorem ok_rod_change {f : Addr} {fd : FuncData} (Fn : Fun W.K "rod_change" "rod_change" s_rod_change f fd) (T : Txt w W mg) (G_Frame_beads : MetX P w W.K mg base 2 T.CF "beads" (toSp W (fBeads T))) (G_Frame_put : MetX P w W.K mg base 2 T.CF "put" (toSp W (fPut T))) (G_Frame_copied : MetX P w W.K mg base 3 T.CF "copied" (toSp W (fCopied T))) (G_k_Move : MakX P w W.K mg base 1 "Move" T.CM (toSp W (fMove T))) :
    FnOk P w W.K mg base (L2.CX P w) 4 f fd ["frame", "rod", "above", "below"] (toSp W (fRodChange T)) := by
  have nd := sc_rod_change.nd
  refine okD (kk := 3) Fn sc_rod_change (fun ds S H Φ X h => by obtain ⟨p, l, k, o, m, r, a, b, rfl, hf, hm, ho, h1, h2⟩ := h; rfl) fun cdv A outer s H E hcd hr => ?_
  have hu := hr.units
  have hu1 := hu_of hr
  refine ⟨_, (pss_cons (ps_par (i := 4) (j := 5) (by rfl) nd rfl rfl (by decide) rfl rfl (pa_cons (px_mt G_Frame_beads hr (takes_of rfl rfl rfl rfl) (pv 0) (pa_cons (pv 1) pa_nil)) (pa_cons (pe_lst pa_nil) pa_nil)) (by rfl))
  (pss_cons (ps_expr (px_mt G_Frame_put hr (takes_of rfl rfl rfl rfl) (px_mt0 G_Frame_copied hr (takes_of rfl rfl rfl rfl) (pv 0) ) (pa_cons (pv 1) (pa_cons (pv 2) (pa_cons (pv 3) pa_nil)))))
  (pss_cons (ps_if (pt_cmpR (w_ne (K := W.K) rfl hu) (pv 2) (pe_ix (w_ix (K := W.K) rfl) (pv 4) pe_int (fun _ _ => rfl)) (nomark _)) (pss_one (ps_expr (w_bm (K := W.K) rfl PySem.F.plainAttrs_list PySem.F.slot_list_append PySem.F.type_list_append mt_append (pv 5) (pa_cons (px_mk G_k_Move hr (takes_of rfl rfl rfl rfl) (pa_cons (pv 1) (pa_cons pe_str (pa_cons (pe_op u_sub (pv 2) (pe_ix (w_ix (K := W.K) rfl) (pv 4) pe_int (fun _ _ => rfl))) pa_nil)))) pa_nil)))) pss_nil)
  (pss_cons (ps_if (pt_cmpR (w_ne (K := W.K) rfl hu) (pv 3) (pe_ix (w_ix (K := W.K) rfl) (pv 4) pe_int (fun _ _ => rfl)) (nomark _)) (pss_one (ps_expr (w_bm (K := W.K) rfl PySem.F.plainAttrs_list PySem.F.slot_list_append PySem.F.type_list_append mt_append (pv 5) (pa_cons (px_mk G_k_Move hr (takes_of rfl rfl rfl rfl) (pa_cons (pv 1) (pa_cons pe_str (pa_cons (pe_op u_sub (pv 3) (pe_ix (w_ix (K := W.K) rfl) (pv 4) pe_int (fun _ _ => rfl))) pa_nil)))) pa_nil)))) pss_nil)
  (pss_one (ps_ret (pe_callTy (w_tuple (K := W.K) rfl) (by rfl) T.z_tuple (by decide +kernel) (pa_cons (pv 5) pa_nil)))))))), fun ds S H0 Φ X hF => ?_⟩
  obtain ⟨p, l, k, o, m, r, a, b, rfl, hf, hm, ho, h1, h2⟩ := hF
  walk_at "dm"
  refine ⟨p, l, k, o, r, rfl, hf, fun hr => ?_, fun z => h1 (fun y => z y.1) _ _ .refl⟩
  walk_at "dm"
  refine ew_lstM ?_
  walk_at "dm"
  intro q H2 m2 hq nq g
  walk_at "d"
  refine ⟨_, _, rfl, ?_⟩
  have u0 : Up W S H0 (q :: S) H2 := Up.cons m2 hq
  have hf2 := hf.up u0
  walk_at "d"
  refine ⟨p, l, k, o, m, rfl, hf2, hm, ho, fun x l1 S1 H1 u1 f1 hx hl1 => ?_⟩
  walk_at "d"
  have u2 := u0.trans u1
  refine ⟨x, l1, k, o, r, a, b, m, rfl, f1, hm, fun _ hz H3 m3 f3 => ?_, fun z => h1 (fun y => z ⟨y.1, y.2⟩) _ _ u2⟩
  have ql : q ≠ l1 := fun z => by
    obtain ⟨_, xs, e, _⟩ := g
    rw [z, hl1] at e
    cases e
  have lS : l1 ∈ S1 := f3.rl.1
  have g3 : Dw.LstAt W S1 H3 q [] := LstAt.md (g.up u1) m3 (fun z => ql (List.mem_singleton.mp z)) fun y hy => by rw [List.mem_singleton.mp hy]; exact lS
  have u3 : Up W S H0 S1 H3 := u2.drop m3 fun y hy => by rw [List.mem_singleton.mp hy]; exact u0.free hl1
  have hq0 : ∀ y ∈ [q], H0 y = none := fun y hy => by rw [List.mem_singleton.mp hy]; exact hq
  have hG := h2 hr hz
  walk_at "da"
  · rename_i hb
    refine mk_mv ⟨hr.1, .inl rfl, by omega⟩ ?_
    walk_at "d"
    refine lf_app g3 (by show 0 < 1000000; decide) fun H4 m4 g4 => ?_
    have u4 := u3.drop m4 hq0
    walk_at "da"
    · rename_i hb2
      refine mk_mv ⟨hr.1, .inr rfl, by omega⟩ ?_
      walk_at "d"
      refine lf_app g4 (by show 1 < 1000000; decide) fun H5 m5 g5 => ?_
      walk_at "d"
      have e : chg (at_ o r) r a b = [(r, ("five" : Str), a - (at_ o r).1), (r, ("one" : Str), b - (at_ o r).2)] := by unfold chg; rw [if_pos hb, if_pos hb2]; rfl
      rw [e] at hG
      exact .inr ⟨q, _, rfl, g5, hG _ _ (u4.drop m5 hq0)⟩
    · rename_i hb2
      have e : chg (at_ o r) r a b = [(r, ("five" : Str), a - (at_ o r).1)] := by unfold chg; rw [if_pos hb, if_neg (fun z => z hb2)]; rfl
      rw [e] at hG
      exact .inr ⟨q, _, rfl, g4, hG _ _ u4⟩
  · rename_i hb hb2
    refine mk_mv ⟨hr.1, .inr rfl, by omega⟩ ?_
    walk_at "d"
    refine lf_app g3 (by show 0 < 1000000; decide) fun H5 m5 g5 => ?_
    walk_at "d"
    have e : chg (at_ o r) r a b = [(r, ("one" : Str), b - (at_ o r).2)] := by unfold chg; rw [if_neg (fun z => z hb), if_pos hb2]; rfl
    rw [e] at hG
    exact .inr ⟨q, _, rfl, g5, hG _ _ (u3.drop m5 hq0)⟩
  · rename_i hb hb2
    have e : chg (at_ o r) r a b = [] := by unfold chg; rw [if_neg (fun z => z hb), if_neg (fun z => z hb2)]; rfl
    rw [e] at hG
    exact .inr ⟨q, _, rfl, g3, hG _ _ u3⟩
def isPlain (o : List Row) : Bool := o.all fun r => decide (5 * r.1 + r.2 < 10) && decide (r.2 < 5)
def plainR (r : Row) : Bool := decide (5 * r.1 + r.2 < 10) && decide (r.2 < 5)
def plainAt (rs : List Row) (i : Nat) : Bool := match rs[i]? with
  | some r => plainR r
  | none => false
theorem plainAt_all (rs : List Row) : ((List.range rs.length).all fun i => plainAt rs i) = rs.all plainR := by
  rw [Bool.eq_iff_iff, List.all_eq_true, List.all_eq_true]
  constructor
  · intro h r hr
    obtain ⟨j, hj, e⟩ := List.getElem_of_mem hr
    have q := h j (List.mem_range.mpr hj)
    unfold plainAt at q
    rw [List.getElem?_eq_getElem hj, e] at q
    exact q
  · intro h j hj
    have hj' := List.mem_range.mp hj
    unfold plainAt
    rw [List.getElem?_eq_getElem hj']
    exact h _ (List.getElem_mem hj')
def fPlain (T : Txt w W mg) : Fs := fun ds S H Φ X => ∃ p l k o, ds = [.adr p] ∧ FrameAt W T.CF S H p l k o ∧ Φ (.bl (isPlain o)) S H
theorem sc_Frame_is_plain : FnScope ["self", "above", "below"] ["self"] (defScope s_Frame_is_plain) := ⟨rfl, rfl, rfl, by decide +kernel, rfl, by decide +kernel, by decide +kernel⟩
theorem ok_Frame_is_plain {f : Addr} {fd : FuncData} (Fn : Fun W.K "is_plain" "Frame.is_plain" s_Frame_is_plain f fd) (T : Txt w W mg)  {cT Pt : Addr} (hcT : fd.code = .ref cT) (TB : GxR.TabB base mg cT Pt) (hPt : Pt ∈ W.TG) (hPl : ∀ p ∈ W.TL, p.1 ≠ Pt) :
    FnOk P w W.K mg base (L2.CX P w) 1 f fd ["self"] (toSp W (fPlain T)) := by
  have nd := sc_Frame_is_plain.nd
  refine okD2 (kk := 0) Fn hcT sc_Frame_is_plain (fun ds S H Φ X h => by obtain ⟨p, l, k, o, rfl, hf, h1⟩ := h; rfl) fun A outer s H E hr => ?_
  have hu := hr.units
  have hu1 := hu_of hr
  refine ⟨_, (pss_one (ps_ret (Gz.pe_allG (c := cT) (Pt := Pt) hr (by rfl) T.z_all TB rfl (Gz.sc_of (sc := defScope s_Frame_is_plain) (by decide +kernel)) (w_fld (K := W.K) rfl (pv 0)) (Gz.el_pairs (K := W.K) rfl rfl rfl rfl (by decide) (Gz.elt_plain rfl rfl rfl))))), fun ds S H0 Φ X hF => ?_⟩
  obtain ⟨p, l, k, o, rfl, hf, h1⟩ := hF
  refine sw_ret (Gz.ew_allG (B := fun d S1 H1 n pb => ∃ l rs, d = .adr l ∧ LstAt W S1 H1 l (rs.map rowD) ∧ n = rs.length ∧ pb = fun i => plainAt rs i) hPt hPl (fun _ d v S1 H1 H2 n pb ⟨l, rs, e, g, hn, hp⟩ m _ r => ?_) ?_)
  · subst e hn hp
    cases r
    obtain ⟨ha, xs, hx, rx⟩ := g
    have rx2 := rx.lq (lq_md m)
    refine ⟨l, xs, rfl, .inl (.inl (m.at hx)), by rw [← rx.length, List.length_map], fun i x hi => ?_⟩
    obtain ⟨d, hd, rd⟩ := rx2.getV hi
    rw [List.getElem?_map] at hd
    cases e : rs[i]? with
    | none => rw [e] at hd; cases hd
    | some r =>
      rw [e] at hd
      cases hd
      cases rd with
      | lst hl ra =>
        cases ra with
        | cons h1 h2 =>
          obtain ⟨v2, rfl, h3⟩ := RpA.one h2
          cases h1
          cases h3
          exact ⟨_, r.1, r.2, rfl, sqL_off hl, by show plainAt rs i = plainR r; unfold plainAt; rw [e]⟩
  · walk_at "d"
    refine ⟨_, _, ⟨l, o.reverse, rfl, hf.rl, rfl, rfl⟩, ?_⟩
    rw [plainAt_all, List.all_reverse]
    exact h1

theorem lf_set3_0 {a : Addr} {d0 d1 d2 v : Dv} {Ψ : Hp → Prop} {H0 : Hp} (m0 : Md W [a] H0 H) (l : LstAt W S H a [d0, d1, d2]) (q : ∀ H', Md W [a] H0 H' → LstAt W S H' a [v, d1, d2] → Ψ H') :
    ∃ a' xs k' j, Dv.adr a = .adr a' ∧ Dv.int 0 = .int k' ∧ LstAt W S H a' xs ∧ ixN xs.length k' = some j ∧ ∀ H', Md W [a'] H H' → LstAt W S H' a' (xs.set j v) → Ψ H' :=
  ⟨a, _, 0, 0, rfl, rfl, l, rfl, fun H' m g => q H' (m0.trans m) g⟩
theorem lf_set3_1 {a : Addr} {d0 d1 d2 v : Dv} {Ψ : Hp → Prop} {H0 : Hp} (m0 : Md W [a] H0 H) (l : LstAt W S H a [d0, d1, d2]) (q : ∀ H', Md W [a] H0 H' → LstAt W S H' a [d0, v, d2] → Ψ H') :
    ∃ a' xs k' j, Dv.adr a = .adr a' ∧ Dv.int 1 = .int k' ∧ LstAt W S H a' xs ∧ ixN xs.length k' = some j ∧ ∀ H', Md W [a'] H H' → LstAt W S H' a' (xs.set j v) → Ψ H' :=
  ⟨a, _, 1, 1, rfl, rfl, l, rfl, fun H' m g => q H' (m0.trans m) g⟩
theorem lf_set3_2 {a : Addr} {d0 d1 d2 v : Dv} {Ψ : Hp → Prop} {H0 : Hp} (m0 : Md W [a] H0 H) (l : LstAt W S H a [d0, d1, d2]) (q : ∀ H', Md W [a] H0 H' → LstAt W S H' a [d0, d1, v] → Ψ H') :
    ∃ a' xs k' j, Dv.adr a = .adr a' ∧ Dv.int 2 = .int k' ∧ LstAt W S H a' xs ∧ ixN xs.length k' = some j ∧ ∀ H', Md W [a'] H H' → LstAt W S H' a' (xs.set j v) → Ψ H' :=
  ⟨a, _, 2, 2, rfl, rfl, l, rfl, fun H' m g => q H' (m0.trans m) g⟩
local macro_rules | `(tactic| walk_at "leaf") => `(tactic| first
  | refine lf_set3_0 (by assumption) (by assumption) (fun _ _ _ => ?_)
  | refine lf_set3_1 (by assumption) (by assumption) (fun _ _ _ => ?_)
  | refine lf_set3_2 (by assumption) (by assumption) (fun _ _ _ => ?_))
local macro_rules | `(tactic| walk_at "dma") => `(tactic| repeat' first | walk_at "dm1" | walk_at "sp")
def fDice (W : Wd) : Fs := fun ds S H Φ X => ∃ c, ds = [.int c] ∧ ∀ a b i f H', Up W S H (a :: S) H' → H a = none → LstAt W (a :: S) H' a [.int b, .int i, .int f] → Φ (.adr a) (a :: S) H'
theorem sc__law_dice : FnScope ["cell"] ["cell"] (defScope s__law_dice) := ⟨rfl, rfl, rfl, by decide +kernel, rfl, by decide +kernel, by decide +kernel⟩
theorem ok__law_dice {f : Addr} {fd : FuncData} (Fn : Fun W.K "_law_dice" "_law_dice" s__law_dice f fd) (T : Txt w W mg)  :
    FnOk P w W.K mg base (L2.CX P w) 1 f fd ["cell"] (toSp W (fDice W)) := by
  have nd := sc__law_dice.nd
  refine okD (kk := 0) Fn sc__law_dice (fun ds S H Φ X h => by obtain ⟨c, rfl, h1⟩ := h; rfl) fun cdv A outer s H E hcd hr => ?_
  have hu := hr.units
  have hu1 := hu_of hr
  refine ⟨_, (pss_cons (ps_if (pt_chain (w_lt (K := W.K) rfl hu) (w_lt (K := W.K) rfl hu) (pe_op u_sub pe_int pe_int) (pv 0) pe_int) (pss_one (ps_ret (pe_lst (pa_cons (pe_callB c_abs (by rfl) T.z_abs (by decide +kernel) (pa_cons (pv 0) pa_nil)) (pa_cons pe_int (pa_cons pe_int pa_nil)))))) pss_nil)
  (pss_one (ps_ret (pe_lst (pa_cons (pv 0) (pa_cons (pe_op (w_add (K := W.K) rfl) pe_int (pe_op u_mod (pe_callTy c_int (by rfl) T.z_int (by decide +kernel) (pa_cons (pv 0) pa_nil)) pe_int)) (pa_cons (pe_callTy c_int (by rfl) T.z_int (by decide +kernel) (pa_cons (pe_cmpR u_ge (pv 0) (pe_op u_pow pe_int pe_int) (nomark _)) pa_nil)) pa_nil))))))), fun ds S H0 Φ X hF => ?_⟩
  obtain ⟨c, rfl, h1⟩ := hF
  walk_at "dma"
  all_goals refine ew_lstM ?_
  all_goals walk_at "dma"
  all_goals exact fun p H2 m2 hp _ g => h1 p _ _ _ H2 (Up.cons m2 hp) hp g
def fRoll (W : Wd) : Fs := fun ds S H Φ X => ∃ a n b i f, ds = [.adr a, .int n] ∧ LstAt W S H a [.int b, .int i, .int f] ∧ (1 ≤ n ∧ n ≤ 100000000) ∧ ∀ k b' i' f' H', 0 ≤ k ∧ k < n → Md W [a] H H' → LstAt W S H' a [.int b', .int i', .int f'] → Φ (.int k) S H'
theorem sc__law_roll : FnScope ["dice", "many", "found"] ["dice", "many"] (defScope s__law_roll) := ⟨rfl, rfl, rfl, by decide +kernel, rfl, by decide +kernel, by decide +kernel⟩
theorem ok__law_roll {f : Addr} {fd : FuncData} (Fn : Fun W.K "_law_roll" "_law_roll" s__law_roll f fd) (T : Txt w W mg) (G__law_roll : CalX P w W.K mg base 1 "_law_roll" 2 (toSp W fNone)) :
    FnOk P w W.K mg base (L2.CX P w) 2 f fd ["dice", "many"] (toSp W (fRoll W)) := by
  have nd := sc__law_roll.nd
  refine okD (kk := 1) Fn sc__law_roll (fun ds S H Φ X h => by obtain ⟨a, n, b, i, f, rfl, hl, hn, h1⟩ := h; rfl) fun cdv A outer s H E hcd hr => ?_
  have hu := hr.units
  have hu1 := hu_of hr
  refine ⟨_, (pss_cons (ps_if (PW.pt (pw_or (pt_cmpR (w_eq (K := W.K) rfl hu) (pe_ix (w_ix (K := W.K) rfl) (pv 0) pe_int (fun _ _ => rfl)) pe_int (nomark _)) (pw_or1 (PW.pt (pw_and (pt_cmpR (w_eq (K := W.K) rfl hu) (pe_ix (w_ix (K := W.K) rfl) (pv 0) pe_int (fun _ _ => rfl)) pe_int (nomark _)) (pw_and1 (pt_cmpR u_gt (pe_ix (w_ix (K := W.K) rfl) (pv 0) pe_int (fun _ _ => rfl)) pe_int (nomark _)))))))) (pss_cons (ps_set (i := 2) nd rfl (Or.inl rfl) (pe_op u_mod (pe_callTy c_int (by rfl) T.z_int (by decide +kernel) (pa_cons (pe_ix (w_ix (K := W.K) rfl) (pv 0) pe_int (fun _ _ => rfl)) pa_nil)) (pv 1)))
  (pss_cons (ps_asg (pe_op u_div (pe_ix (w_ix (K := W.K) rfl) (pv 0) pe_int (fun _ _ => rfl)) (pv 1)) (pg_sub (pv 0) pe_int set_list))
  (pss_one (ps_ret (pv 2))))) pss_nil)
  (pss_cons (ps_asg pe_int (pg_sub (pv 0) pe_int set_list))
  (pss_cons (ps_if (pt_cmpR u_gt (pv 1) pe_int (nomark _)) (pss_one (ps_ret (pe_op u_mod (pe_callTy c_int (by rfl) T.z_int (by decide +kernel) (pa_cons (pe_op (w_add (K := W.K) rfl) (pe_op u_mul (px_c G__law_roll hr (takes_of rfl rfl rfl rfl) (pa_cons (pv 0) (pa_cons (pe_op (w_add (K := W.K) rfl) (pe_op u_div (pv 1) pe_int) pe_int) pa_nil))) pe_int) (px_c G__law_roll hr (takes_of rfl rfl rfl rfl) (pa_cons (pv 0) (pa_cons pe_int pa_nil)))) pa_nil)) (pv 1)))) pss_nil)
  (pss_cons (ps_asg (pe_op u_mod (pe_callTy c_int (by rfl) T.z_int (by decide +kernel) (pa_cons (pe_op (w_add (K := W.K) rfl) (pe_op (w_add (K := W.K) rfl) (pe_op u_mul (pe_ix (w_ix (K := W.K) rfl) (pv 0) pe_int (fun _ _ => rfl)) pe_int) (pe_op u_mul (pe_ix (w_ix (K := W.K) rfl) (pv 0) pe_int (fun _ _ => rfl)) pe_int)) pe_int) pa_nil)) pe_int) (pg_sub (pv 0) pe_int set_list))
  (pss_cons (ps_asg (pe_op (w_add (K := W.K) rfl) (pe_ix (w_ix (K := W.K) rfl) (pv 0) pe_int (fun _ _ => rfl)) pe_int) (pg_sub (pv 0) pe_int set_list))
  (pss_one (ps_ret (pe_op u_mod (pe_callTy c_int (by rfl) T.z_int (by decide +kernel) (pa_cons (pe_op u_div (pe_ix (w_ix (K := W.K) rfl) (pv 0) pe_int (fun _ _ => rfl)) pe_int) pa_nil)) (pv 1))))))))), fun ds S H0 Φ X hF => ?_⟩
  obtain ⟨a, n, b, i, f, rfl, hl, hn, h1⟩ := hF
  have m0 : Md W [a] H0 H0 := .refl
  walk_at "da"
  all_goals first
    | exact ⟨by omega, by omega⟩
    | omega
    | exact h1 _ _ _ _ _ ⟨Int.emod_nonneg _ (by omega), Int.emod_lt_of_pos _ (by omega)⟩ (by assumption) (by assumption)
def fKind : Fs := fun ds S H Φ X => ∃ k m, ds = [.str k] ∧ mostOf k = some m ∧ Φ (.tup [.int m.1, .int m.2]) S H
def kdPs : List (Ky × Dv) := [(Sum.inr "one-four", .tup [.int 1, .int 4]), (Sum.inr "two-five", .tup [.int 2, .int 5]), (Sum.inr "one-five", .tup [.int 1, .int 5])]
theorem kdPs_val {m : Row} (h : mostOf k = some m) : valD (mergeD [] kdPs) (Sum.inr k) = some (.tup [.int m.1, .int m.2]) := by
  unfold mostOf at h
  by_cases e1 : k = "one-four"
  · subst e1
    rw [if_pos rfl] at h
    cases h
    rfl
  rw [if_neg e1] at h
  by_cases e2 : k = "two-five"
  · subst e2
    rw [if_pos rfl] at h
    cases h
    rfl
  rw [if_neg e2] at h
  by_cases e3 : k = "one-five"
  · subst e3
    rw [if_pos rfl] at h
    cases h
    rfl
  rw [if_neg e3] at h
  cases h
theorem sc__law_kind : FnScope ["name"] ["name"] (defScope s__law_kind) := ⟨rfl, rfl, rfl, by decide +kernel, rfl, by decide +kernel, by decide +kernel⟩
theorem ok__law_kind {f : Addr} {fd : FuncData} (Fn : Fun W.K "_law_kind" "_law_kind" s__law_kind f fd) (T : Txt w W mg)  :
    FnOk P w W.K mg base (L2.CX P w) 1 f fd ["name"] (toSp W (fKind)) := by
  have nd := sc__law_kind.nd
  refine okD (kk := 0) Fn sc__law_kind (fun ds S H Φ X h => by obtain ⟨k, m, rfl, hm, h1⟩ := h; rfl) fun cdv A outer s H E hcd hr => ?_
  have hu := hr.units
  have hu1 := hu_of hr
  refine ⟨_, (pss_one (ps_ret (pe_dget hu1 (pe_disp (pps_cons pe_str (pe_tup (pa_cons pe_int (pa_cons pe_int pa_nil))) (pps_cons pe_str (pe_tup (pa_cons pe_int (pa_cons pe_int pa_nil))) (pps_cons pe_str (pe_tup (pa_cons pe_int (pa_cons pe_int pa_nil))) pps_nil))) (by rfl) (by rfl) (fun z => by cases z) (by decide)) (pv 0) (fun _ _ => rfl)))), fun ds S H0 Φ X hF => ?_⟩
  obtain ⟨k, m, rfl, hm, h1⟩ := hF
  refine sw_forget ?_
  walk_at "d"
  refine ew_disp (ps := kdPs) (fun S2 H2 u2 => ⟨?_, ?_, ?_, ?_, ?_, ?_, trivial⟩) (by show 3 ≤ 15; decide) fun tb H2 m2 htb ntb d2 => ?_
  all_goals walk_at "d"
  all_goals first
    | exact same_rfl rfl
    | skip
  exact ⟨tb, _, Sum.inr k, _, rfl, rfl, DictW.rd d2, kdPs_val hm, fg_pure (Up.cons m2 htb) h1⟩
def tpD (r : Row) : Dv := .tup [.int r.1, .int r.2]
def rowsD (o : List Row) (d : Dv) : Prop := d = .lst (o.map tpD) ∨ d = .tup (o.map tpD)
theorem iw_rows {E : XK} {j : Nat} {δ : Dn} {o : List Row} {d : Dv} {Ψ : PhI} (hδ : δ[j]? = some (some d)) (hd : rowsD o d) (q : Ψ (o.map tpD) (fun _ _ => True) S H) : Iw W E (iAny W.K (tVar j)) δ S H Ψ X := by
  rcases hd with z | z
  · exact iw_anyL (ew_var hδ ⟨_, z, q⟩)
  · exact iw_anyT (ew_var hδ ⟨_, z, q⟩)
theorem val_snoc (o : List Row) (r : Row) : val (o ++ [r]) = val o + (5 * r.1 + r.2) * 10 ^ o.length := by
  induction o with
  | nil => show 10 * val [] + _ = val [] + _; unfold val; simp
  | cons a o ih =>
    show 10 * val (o ++ [r]) + _ = 10 * val o + _ + _
    rw [ih, List.length_cons, Int.pow_succ, Int.mul_add, Int.mul_comm (10 ^ o.length) 10, ← Int.mul_assoc, ← Int.mul_assoc, Int.mul_comm 10 (5 * r.1 + r.2)]
    omega
theorem take_snoc {α : Type} {o : List α} {i : Nat} {r : α} (h : o[i]? = some r) : o.take (i + 1) = o.take i ++ [r] := by
  rw [List.take_add_one, h]
  rfl
theorem ten_small {i : Nat} (h : i ≤ 15) : -(2 ^ 64) < (10 : Int) ^ i ∧ (10 : Int) ^ i < 2 ^ 64 := by
  have : ∀ j : Fin 16, -(2 ^ 64) < (10 : Int) ^ j.val ∧ (10 : Int) ^ j.val < 2 ^ 64 := by decide +kernel
  exact this ⟨i, by omega⟩
def fNumber : Fs := fun ds S H Φ X => ∃ o d, ds = [d] ∧ rowsD o d ∧ o.length ≤ 15 ∧ Φ (.int (val o)) S H
theorem plain_snoc (n i : Nat) : plain n (i + 1) = plain n i ++ [drow n i] := by
  unfold plain
  rw [List.range_succ, List.map_append]
  rfl
theorem plain_len (n m : Nat) : (plain n m).length = m := by unfold plain; rw [List.length_map, List.length_range]
def fPlainL : Fs := fun ds S H Φ X => ∃ (z k : Int) (n m : Nat), ds = [.int z, .int k] ∧ z = n ∧ k = m ∧ m ≤ 15 ∧ Φ (.lst ((plain n m).map tpD)) S H
theorem sc__law_plain : FnScope ["number", "rods", "found", "rod"] ["number", "rods"] (defScope s__law_plain) := ⟨rfl, rfl, rfl, by decide +kernel, rfl, by decide +kernel, by decide +kernel⟩
theorem ok__law_plain {f : Addr} {fd : FuncData} (Fn : Fun W.K "_law_plain" "_law_plain" s__law_plain f fd) (T : Txt w W mg)  :
    FnOk P w W.K mg base (L2.CX P w) 1 f fd ["number", "rods"] (toSp W (fPlainL)) := by
  have nd := sc__law_plain.nd
  refine okD (kk := 0) Fn sc__law_plain (fun ds S H Φ X h => by obtain ⟨z, k, n, m, rfl, rfl, rfl, hm, h1⟩ := h; rfl) fun cdv A outer s H E hcd hr => ?_
  have hu := hr.units
  have hu1 := hu_of hr
  refine ⟨_, (pss_cons (ps_set (i := 2) nd rfl (Or.inl rfl) (pe_lst pa_nil))
  (pss_cons (ps_for (passes_of rfl) rfl (pi_range1 (by rfl) T.z_range (pa_cons (pv 1) pa_nil)) (pg_name (i := 3) nd rfl (Or.inl rfl)) (pss_one (ps_par (i := 2) (j := 0) (by rfl) nd rfl rfl (by decide) rfl rfl (pa_cons (pe_op (w_add (K := W.K) rfl) (pv 2) (pe_lst (pa_cons (pe_tup (pa_cons (pe_op u_div (pe_op u_mod (pv 0) pe_int) pe_int) (pa_cons (pe_op u_mod (pv 0) pe_int) pa_nil))) pa_nil))) (pa_cons (pe_op u_div (pv 0) pe_int) pa_nil)) (by rfl))))
  (pss_one (ps_ret (pv 2))))), fun ds S H0 Φ X hF => ?_⟩
  obtain ⟨z, k, n, m, rfl, rfl, rfl, hm, h1⟩ := hF
  walk_at "d"
  refine sw_forN ?_
  walk_at "d"
  refine lf_rng1 (n := m) rfl (by omega) ?_
  refine loop_rng (fun i δ S' H' => S' = S ∧ H' = H0 ∧ ∃ x, δ = [some (.int ((n / 10 ^ i : Nat) : Int)), some (.int (m : Int)), some (.lst ((plain n i).map tpD)), x]) ⟨rfl, rfl, none, ?_⟩ ?_ ?_
  · rw [Nat.pow_zero, Nat.div_one]
    exact rfl
  · rintro i δ' S' H' hi ⟨rfl, rfl, x, rfl⟩
    walk_at "d"
    refine lf_add_lst (by rw [List.length_map, plain_len]; exact Nat.le_trans (show i + 1 ≤ 1000 by omega) (by decide)) ?_
    walk_at "d"
    refine ⟨_, _, rfl, rfl, rfl, some (.int (i : Int)), ?_⟩
    have e1 : (((n / 10 ^ i : Nat) : Int) / 10) = ((n / 10 ^ (i + 1) : Nat) : Int) := by rw [Nat.pow_succ, ← Nat.div_div_eq_div_mul]; rfl
    have e2 : List.map tpD (plain n i) ++ [Dv.tup [.int (((n / 10 ^ i : Nat) : Int) % 10 / 5), .int (((n / 10 ^ i : Nat) : Int) % 5)]] = (plain n (i + 1)).map tpD := by
      rw [plain_snoc, List.map_append]
      have e3 : (((n / 10 ^ i : Nat) : Int) % 10 / 5) = ((dg n i / 5 : Nat) : Int) := rfl
      have e4 : (((n / 10 ^ i : Nat) : Int) % 5) = ((dg n i % 5 : Nat) : Int) := by unfold dg; omega
      rw [e3, e4]
      rfl
    rw [e1, e2]
    exact rfl
  · rintro δ' S' H' ⟨rfl, rfl, x, rfl⟩
    walk_at "d"
    exact h1
def fRounds (W : Wd) : Fs := fun ds S H Φ X => ∃ a ns, ds = [.adr a, .int 1] ∧ ScrAt W S H a ns ∧ ∀ p q b i f S' H', Up W S H S' H' → LstAt W S' H' p [.adr q] → LstAt W S' H' q [.int b, .int i, .int f] → H p = none → H q = none → p ≠ q → Φ (.adr p) S' H'
theorem cut_one (ns : List Int) : cutD (ns.map Dv.int) none (some 1) = (ns.take 1).map .int := by
  have := cut_take (xs := ns.map Dv.int) (n := 1)
  rw [← List.map_take] at this
  exact this
theorem sc__law_rounds : FnScope ["script", "most", "cells", "cell"] ["script", "most"] (defScope s__law_rounds) := ⟨rfl, rfl, rfl, by decide +kernel, rfl, by decide +kernel, by decide +kernel⟩
theorem ok__law_rounds {f : Addr} {fd : FuncData} (Fn : Fun W.K "_law_rounds" "_law_rounds" s__law_rounds f fd) (T : Txt w W mg) (G__law_dice : CalX P w W.K mg base 1 "_law_dice" 1 (toSp W (fDice W))) :
    FnOk P w W.K mg base (L2.CX P w) 2 f fd ["script", "most"] (toSp W (fRounds W)) := by
  have nd := sc__law_rounds.nd
  refine okD (kk := 1) Fn sc__law_rounds (fun ds S H Φ X h => by obtain ⟨a, ns, rfl, hs, h1⟩ := h; rfl) fun cdv A outer s H E hcd hr => ?_
  have hu := hr.units
  have hu1 := hu_of hr
  refine ⟨_, (pss_cons (ps_set (i := 2) nd rfl (Or.inl rfl) (pe_slice (w_sl (K := W.K) rfl) (pv 0) po_none (po_some (pv 1))))
  (pss_cons (ps_if (pt_cmpR (w_eq (K := W.K) rfl hu) (pv 2) (pe_lst pa_nil) (nomark _)) (pss_one (ps_set (i := 2) nd rfl (Or.inl rfl) (pe_lst (pa_cons pe_int pa_nil)))) pss_nil)
  (pss_one (ps_ret (pe_lc (own := [("cell", 3)]) rfl nd (w_any (K := W.K) rfl (pv 2)) (blkOk_by (by rfl)) (fun _ _ _ _ _ => (pg_name (i := 3) nd rfl (Or.inl rfl))) (fun _ _ _ _ _ => pts_nil) (fun _ _ _ _ _ => (px_c G__law_dice hr takes0 (pa_cons (pv 3) pa_nil)))))))), fun ds S H0 Φ X hF => ?_⟩
  obtain ⟨a, ns, rfl, hs, h1⟩ := hF
  walk_at "sw"
  walk_at "sw"
  refine ew_slScr (ew_var rfl ⟨a, ns, rfl, hs, ?_⟩)
  walk_at "d"
  refine ⟨hs, ?_⟩
  rw [cut_one]
  have fin : ∀ c : Int, LcG W E (gName 3) (tCall (toSp W (fDice W)) [] E0 (tCons (tVar 3) tNil)) [3] [some (.adr a), some (.int 1), some (.lst [.int c]), none] Φ X [.int c] (fun _ _ => True) S H0 (fun _ => [some (.adr a), some (.int 1), some (.lst [.int c]), some (.int c)])
      (fun i p es S2 H2 => Up W S H0 S2 H2 ∧ LstAt W S2 H2 p es ∧ H0 p = none ∧ ((i = 0 ∧ es = []) ∨ (i = 1 ∧ ∃ q b i f, es = [.adr q] ∧ LstAt W S2 H2 q [.int b, .int i, .int f] ∧ H0 q = none ∧ p ≠ q))) := fun c => by
    have at0 : ∀ i d, [Dv.int c][i]? = some d → i = 0 ∧ d = .int c := fun i d h => by
      cases i with
      | zero => exact ⟨rfl, (Option.some.inj h).symm⟩
      | succ i => cases h
    refine ⟨by show 1 < sizeLine; decide, fun i d h => ?_, fun p H2 m hp np l => ⟨Up.cons m hp, l, hp, .inl ⟨rfl, rfl⟩⟩, fun _ _ _ _ _ _ => trivial, fun i d p es S2 H2 h hI => ?_, fun p es S2 H2 ⟨u, l, hp, hi⟩ => ?_⟩
    · obtain ⟨_, rfl⟩ := at0 i d h
      exact cg_of (cs_name (by decide))
    · obtain ⟨rfl, rfl⟩ := at0 i d h
      obtain ⟨u, l, hp, hi⟩ := hI
      rcases hi with ⟨_, rfl⟩ | ⟨z, _⟩
      · refine ew_e0 ?_
        walk_at "d"
        refine ⟨c, rfl, fun q b i f H3 u3 hq lq => ?_⟩
        have npq : p ≠ q := fun z => by
          obtain ⟨_, xs, e, _⟩ := l
          rw [z, hq] at e
          cases e
        refine ⟨l.up u3, fun H4 m4 l4 => ⟨(u.trans u3).drop m4 fun x hx => by rw [List.mem_singleton.mp hx]; exact hp, l4, hp, .inr ⟨rfl, q, b, i, f, rfl, ?_, u.free hq, npq⟩⟩⟩
        exact LstAt.md lq m4 (fun z => npq (List.mem_singleton.mp z).symm) fun x hx => by rw [List.mem_singleton.mp hx]; exact (l.up u3).1
      · cases z
    · rcases hi with ⟨z, _⟩ | ⟨_, q, b, i, f, rfl, lq, hq, npq⟩
      · cases z
      · exact h1 p q b i f S2 H2 u l lq hp hq npq
  cases ns with
  | nil =>
    walk_at "d"
    refine lf_eqT (α := List Int) (f := fun xs => .lst (xs.map .int)) (y := []) (tells_lst tells_int) ?_
    walk_at "da"
    · refine ew_lcG ?_
      refine iw_anyL ?_
      refine ew_var rfl ?_
      exact ⟨_, rfl, _, _, fin 0⟩
    · rename_i z
      exact absurd rfl z
  | cons n ns =>
    walk_at "d"
    refine lf_eqT (α := List Int) (f := fun xs => .lst (xs.map .int)) (y := []) (tells_lst tells_int) ?_
    walk_at "da"
    · rename_i z
      cases z
    · refine ew_lcG ?_
      refine iw_anyL ?_
      refine ew_var rfl ?_
      exact ⟨_, rfl, _, _, fin n⟩
abbrev Mv := Int × Str × Int
def In (m : Row) (o : List Row) : Prop := ∀ r ∈ o, (0 ≤ r.1 ∧ r.1 ≤ m.1) ∧ (0 ≤ r.2 ∧ r.2 ≤ m.2)
def mr (D : Nat) : Nat → Nat
  | 0 => D
  | _ + 1 => 1
theorem mr_le {D : Nat} (h : D ≤ 9) : ∀ i, mr D i ≤ 9
  | 0 => h
  | _ + 1 => by show 1 ≤ 9; decide
theorem mod_step (v x : Nat) : v % 10 ^ (x + 1) = v % 10 ^ x + 10 ^ x * dg v x := Nat.mod_pow_succ
/-- a digit of two that are alike below -/
theorem dg_low {a b x y : Nat} (h : a % 10 ^ x = b % 10 ^ x) (hy : y < x) : dg a y = dg b y := by
  have e : ∀ n, dg n y = n % 10 ^ (y + 1) / 10 ^ y := fun n => by
    unfold dg
    rw [Nat.pow_succ, Nat.mul_comm, Nat.mod_mul_left_div_self]
  have d : 10 ^ (y + 1) ∣ 10 ^ x := Nat.pow_dvd_pow 10 (by omega)
  rw [e a, e b, ← Nat.mod_mod_of_dvd a d, ← Nat.mod_mod_of_dvd b d, h]
theorem rep_div {V V' x e : Nat} (h : V' + 10 ^ x * dg V x = V + 10 ^ x * e) : V' / 10 ^ x = 10 * (V / 10 ^ x / 10) + e ∧ V' % 10 ^ x = V % 10 ^ x := by
  have hP : 0 < 10 ^ x := Nat.pow_pos (by decide)
  unfold dg at h
  generalize 10 ^ x = P at h hP ⊢
  have h1 := Nat.div_add_mod V P
  have h2 := Nat.div_add_mod (V / P) 10
  have e1 : V' = P * (10 * (V / P / 10) + e) + V % P := by
    rw [Nat.mul_add]
    have h3 : P * (V / P) = P * (10 * (V / P / 10)) + P * (V / P % 10) := by rw [← Nat.mul_add, h2]
    omega
  constructor
  · rw [e1, Nat.mul_add_div hP, Nat.div_eq_of_lt (Nat.mod_lt _ hP), Nat.add_zero]
  · rw [e1, Nat.mul_add_mod, Nat.mod_mod]
theorem rep_dg {V V' x e : Nat} (he : e ≤ 9) (h : V' + 10 ^ x * dg V x = V + 10 ^ x * e) (y : Nat) : dg V' y = if y = x then e else dg V y := by
  obtain ⟨h1, h2⟩ := rep_div h
  by_cases c : y = x
  · subst c
    rw [if_pos rfl]
    show V' / 10 ^ y % 10 = e
    rw [h1]
    omega
  · rw [if_neg c]
    by_cases c2 : y < x
    · exact dg_low h2 c2
    · obtain ⟨k, rfl⟩ : ∃ k, y = x + (k + 1) := ⟨y - x - 1, by omega⟩
      have q : ∀ n, dg n (x + (k + 1)) = n / 10 ^ x / 10 / 10 ^ k % 10 := fun n => by
        unfold dg
        rw [Nat.pow_add, Nat.pow_succ, Nat.mul_comm (10 ^ k) 10, ← Nat.div_div_eq_div_mul, ← Nat.div_div_eq_div_mul]
      rw [q V', q V, h1]
      have : (10 * (V / 10 ^ x / 10) + e) / 10 = V / 10 ^ x / 10 := by omega
      rw [this]
/-- one digit of the plain rods is another -/
theorem plain_set {V V' x e n : Nat} (he : e ≤ 9) (hx : x < n) (h : V' + 10 ^ x * dg V x = V + 10 ^ x * e) : plain V' n = (plain V n).set x (((e / 5 : Nat) : Int), ((e % 5 : Nat) : Int)) := by
  refine List.ext_getElem? fun y => ?_
  by_cases c : y < n
  · have e1 : (plain V' n)[y]? = some (drow V' y) := by unfold plain; rw [List.getElem?_map, List.getElem?_range c]; rfl
    have e2 : (plain V n)[y]? = some (drow V y) := by unfold plain; rw [List.getElem?_map, List.getElem?_range c]; rfl
    rw [e1]
    unfold drow
    rw [rep_dg he h y]
    by_cases q : y = x
    · subst q
      rw [if_pos rfl, List.getElem?_set_self (by unfold plain; rw [List.length_map, List.length_range]; exact hx)]
    · rw [if_neg q, List.getElem?_set_ne (fun z => q z.symm), e2]
      rfl
  · rw [List.getElem?_eq_none (by unfold plain; rw [List.length_map, List.length_range]; omega), List.getElem?_eq_none (by rw [List.length_set]; unfold plain; rw [List.length_map, List.length_range]; omega)]
theorem at_plain {V n x : Nat} (h : x < n) : at_ (plain V n) (x : Int) = drow V x := by
  unfold at_ plain
  rw [List.getD_eq_getElem?_getD, Int.toNat_natCast, List.getElem?_map, List.getElem?_range h]
  rfl
theorem drow_dg (V x : Nat) : 5 * (drow V x).1 + (drow V x).2 = (dg V x : Nat) := by
  unfold drow
  show 5 * ((dg V x / 5 : Nat) : Int) + ((dg V x % 5 : Nat) : Int) = _
  omega
theorem drow_in (V x : Nat) {k : Str} {m : Row} (hm : mostOf k = some m) : inM m (drow V x) := by
  have hm' := mostOf_in hm
  have := dg_lt V x
  unfold inM drow
  dsimp only
  omega
theorem plain_in {k : Str} {m : Row} (hm : mostOf k = some m) (V n : Nat) : In m (plain V n) := fun r hr => by
  unfold plain at hr
  obtain ⟨x, _, rfl⟩ := List.mem_map.mp hr
  exact drow_in V x hm
theorem plain_isPlain (V n : Nat) : isPlain (plain V n) = true := by
  unfold isPlain
  rw [List.all_eq_true]
  intro r hr
  unfold plain at hr
  obtain ⟨x, _, rfl⟩ := List.mem_map.mp hr
  have := dg_lt V x
  unfold drow
  simp only [Bool.and_eq_true, decide_eq_true_eq]
  omega
theorem plain_val : ∀ (n V : Nat), V < 10 ^ n → val (plain V n) = (V : Int)
  | 0, V, h => by
    have : V = 0 := by rw [Nat.pow_zero] at h; omega
    subst this
    rfl
  | n + 1, V, h => by
    have e : plain V (n + 1) = drow V 0 :: plain (V / 10) n := by
      unfold plain
      rw [List.range_succ_eq_map, List.map_cons, List.map_map]
      congr 1
      refine List.map_congr_left fun x _ => ?_
      show drow V (x + 1) = drow (V / 10) x
      unfold drow
      rw [dg_succ]
    rw [e]
    show 10 * val (plain (V / 10) n) + (5 * (drow V 0).1 + (drow V 0).2) = _
    rw [plain_val n (V / 10) (by rw [Nat.pow_succ] at h; omega), drow_dg, dg_zero]
    omega
/-! moves from rods to rods -/
def mB (o o' : List Row) : Nat → List Mv
  | 0 => []
  | x + 1 => chg (at_ o (x : Int)) (x : Int) (at_ o' (x : Int)).1 (at_ o' (x : Int)).2 ++ mB o o' x
theorem chg_same (a : Row) (x : Int) : chg a x a.1 a.2 = [] := by
  unfold chg
  rw [if_neg (fun z => z rfl), if_neg (fun z => z rfl)]
  rfl
theorem chg_len (a : Row) (x c d : Int) : (chg a x c d).length ≤ 2 := by
  have ite_len : ∀ (c : Prop) [Decidable c] (x : Mv), (if c then [x] else []).length ≤ 1 := fun c _ x => by split <;> exact Nat.le_of_lt_succ (by show _ < 2; simp)
  unfold chg
  rw [List.length_append]
  exact Nat.add_le_add (ite_len _ _) (ite_len _ _)
def okMv (x : Mv) : Prop := 0 ≤ x.1 ∧ (x.2.1 = "five" ∨ x.2.1 = "one")
theorem okMv.str {x : Mv} (h : okMv x) : PyData.strOk x.2.1 = true := by
  rcases h.2 with e | e <;> (rw [e]; decide +kernel)
theorem chg_ok {a : Row} {x c d : Int} (hx : 0 ≤ x) : ∀ z ∈ chg a x c d, okMv z := fun z hz => by
  unfold chg at hz
  rcases List.mem_append.mp hz with y | y
  · split at y
    · rw [List.mem_singleton.mp y]; exact ⟨hx, .inl rfl⟩
    · cases y
  · split at y
    · rw [List.mem_singleton.mp y]; exact ⟨hx, .inr rfl⟩
    · cases y
theorem mB_low {o o' : List Row} : ∀ {k : Nat}, (∀ y, y < k → at_ o' (y : Int) = at_ o (y : Int)) → mB o o' k = []
  | 0, _ => rfl
  | k + 1, h => by
    show chg _ _ _ _ ++ mB o o' k = []
    rw [h k (Nat.lt_succ_self k), chg_same, mB_low fun y hy => h y (by omega)]
    rfl
theorem at_set_ {o : List Row} {r : Row} {x : Nat} (h : x < o.length) : at_ (o.set x r) (x : Int) = r := by
  unfold at_
  rw [List.getD_eq_getElem?_getD, Int.toNat_natCast, List.getElem?_set_self h]
  rfl
theorem at_setne {o : List Row} {r : Row} {x y : Nat} (h : y ≠ x) : at_ (o.set x r) (y : Int) = at_ o (y : Int) := by
  unfold at_
  rw [List.getD_eq_getElem?_getD, List.getD_eq_getElem?_getD, Int.toNat_natCast, List.getElem?_set_ne (fun z => h z.symm)]
theorem mB_set {o o' : List Row} {x : Nat} {r : Row} (hx : x < o'.length) (h : ∀ y, y ≤ x → at_ o' (y : Int) = at_ o (y : Int)) : ∀ {k : Nat}, x < k → mB o (o'.set x r) k = mB o o' k ++ chg (at_ o (x : Int)) (x : Int) r.1 r.2
  | 0, z => nomatch z
  | k + 1, z => by
    show chg _ _ _ _ ++ mB o (o'.set x r) k = (chg _ _ _ _ ++ mB o o' k) ++ _
    by_cases c : x = k
    · subst c
      rw [at_set_ hx, h x (Nat.le_refl x), chg_same, mB_low fun y hy => h y (by omega), mB_low fun y hy => ?_]
      · rw [List.append_nil, List.nil_append, List.nil_append]
      · rw [at_setne (by omega)]; exact h y (by omega)
    · rw [at_setne (fun z => c z.symm), mB_set hx h (by omega), List.append_assoc]
theorem mB_len (o o' : List Row) : ∀ k, (mB o o' k).length ≤ 2 * k
  | 0 => Nat.le_refl _
  | k + 1 => by
    show (chg _ _ _ _ ++ mB o o' k).length ≤ _
    rw [List.length_append]
    have := chg_len (at_ o (k : Int)) (k : Int) (at_ o' (k : Int)).1 (at_ o' (k : Int)).2
    have := mB_len o o' k
    omega
theorem mB_ok (o o' : List Row) : ∀ k, ∀ z ∈ mB o o' k, okMv z
  | 0, _, h => nomatch h
  | k + 1, z, h => by
    rcases List.mem_append.mp h with y | y
    · exact chg_ok (by omega) z y
    · exact mB_ok o o' k z y
theorem pushes_app {m : Row} {ys : List Mv} : ∀ {xs : List Mv} {o o1 : List Row}, pushes m o xs = some o1 → pushes m o (xs ++ ys) = pushes m o1 ys
  | [], o, o1, h => by cases h; rfl
  | x :: xs, o, o1, h => by
    have h' : (push m o x).bind (fun o' => pushes m o' xs) = some o1 := h
    show (push m o x).bind (fun o' => pushes m o' (xs ++ ys)) = _
    cases e : push m o x with
    | none => rw [e] at h'; cases h'
    | some o2 =>
      rw [e] at h'
      exact pushes_app (xs := xs) h'
theorem push_chg {m : Row} {o : List Row} {x : Nat} {a b : Int} (hx : x < o.length) (h1 : inM m (at_ o (x : Int))) (h2 : inM m (a, b)) : pushes m o (chg (at_ o (x : Int)) (x : Int) a b) = some (o.set x (a, b)) := by
  have set_at : ∀ (o : List Row), x < o.length → o.set x (at_ o (x : Int)) = o := fun o hl => by
    unfold at_
    rw [List.getD_eq_getElem?_getD, Int.toNat_natCast, List.getElem?_eq_getElem hl]
    exact List.set_getElem_self hl
  have p5 : ∀ {o : List Row}, x < o.length → (at_ o (x : Int)).2 = (at_ o (x : Int)).2 → inM m (a, (at_ o (x : Int)).2) → push m o ((x : Int), ("five" : Str), a - (at_ o (x : Int)).1) = some (o.set x (a, (at_ o (x : Int)).2)) := fun {o} hl _ hi => by
    have e : nb (at_ o (x : Int)) "five" (a - (at_ o (x : Int)).1) = (a, (at_ o (x : Int)).2) := by
      rw [nb_5 rfl]
      exact Prod.ext (by show (at_ o (x : Int)).1 + (a - (at_ o (x : Int)).1) = a; omega) rfl
    exact push_yes e (by omega) hi
  have p1 : ∀ {o : List Row}, x < o.length → inM m ((at_ o (x : Int)).1, b) → push m o ((x : Int), ("one" : Str), b - (at_ o (x : Int)).2) = some (o.set x ((at_ o (x : Int)).1, b)) := fun {o} hl hi => by
    have e : nb (at_ o (x : Int)) "one" (b - (at_ o (x : Int)).2) = ((at_ o (x : Int)).1, b) := by
      rw [nb_1 (by decide +kernel)]
      exact Prod.ext rfl (by show (at_ o (x : Int)).2 + (b - (at_ o (x : Int)).2) = b; omega)
    exact push_yes e (by omega) hi
  unfold chg
  by_cases c1 : a = (at_ o (x : Int)).1
  · rw [if_neg (fun z => z c1), List.nil_append]
    by_cases c2 : b = (at_ o (x : Int)).2
    · rw [if_neg (fun z => z c2)]
      show some o = _
      rw [c1, c2]
      exact congrArg some (set_at o hx).symm
    · rw [if_pos c2]
      show (push m o _).bind (fun o' => some o') = _
      rw [p1 hx (by rw [← c1]; exact h2), c1]
      rfl
  · rw [if_pos c1]
    have q := p5 hx rfl (o := o) ⟨h2.1, h1.2⟩
    by_cases c2 : b = (at_ o (x : Int)).2
    · rw [if_neg (fun z => z c2)]
      show (push m o _).bind (fun o' => some o') = _
      rw [q, c2]
      rfl
    · rw [if_pos c2]
      show (push m o _).bind (fun o' => (push m o' _).bind fun o' => some o') = _
      rw [q]
      show (push m (o.set x (a, (at_ o (x : Int)).2)) _).bind (fun o' => some o') = _
      have e : at_ (o.set x (a, (at_ o (x : Int)).2)) (x : Int) = (a, (at_ o (x : Int)).2) := at_set_ hx
      have q2 := p1 (o := o.set x (a, (at_ o (x : Int)).2)) (by rw [List.length_set]; exact hx) (by rw [e]; exact h2)
      rw [e] at q2
      rw [q2, List.set_set]
      rfl
/-- one step of a sum: a digit at x -/
theorem dig_step {v V V' x n e : Nat} {k : Str} {m : Row} {ms : List Mv} (hm : mostOf k = some m) (he : e ≤ 9) (hx : x < n) (h : V' + 10 ^ x * dg V x = V + 10 ^ x * e) (hv : V % 10 ^ (x + 1) = v % 10 ^ (x + 1)) (hp : pushes m (plain v n) ms = some (plain V n)) (hms : ms = mB (plain v n) (plain V n) n) :
    pushes m (plain V n) (chg (at_ (plain V n) (x : Int)) (x : Int) ((e / 5 : Nat) : Int) ((e % 5 : Nat) : Int)) = some (plain V' n) ∧
    pushes m (plain v n) (ms ++ chg (at_ (plain V n) (x : Int)) (x : Int) ((e / 5 : Nat) : Int) ((e % 5 : Nat) : Int)) = some (plain V' n) ∧
    ms ++ chg (at_ (plain V n) (x : Int)) (x : Int) ((e / 5 : Nat) : Int) ((e % 5 : Nat) : Int) = mB (plain v n) (plain V' n) n := by
  have hl : (plain V n).length = n := by unfold plain; rw [List.length_map, List.length_range]
  have hm' := mostOf_in hm
  have a : pushes m (plain V n) (chg (at_ (plain V n) (x : Int)) (x : Int) ((e / 5 : Nat) : Int) ((e % 5 : Nat) : Int)) = some (plain V' n) := by
    rw [push_chg (by omega) (by rw [at_plain hx]; exact drow_in V x hm) (by unfold inM; dsimp only; omega), plain_set he hx h]
  have hd : ∀ y, y ≤ x → at_ (plain V n) (y : Int) = at_ (plain v n) (y : Int) := fun y hy => by
    rw [at_plain (by omega), at_plain (by omega)]
    unfold drow
    rw [dg_low hv (by omega)]
  refine ⟨a, by rw [pushes_app hp]; exact a, ?_⟩
  rw [plain_set he hx h, mB_set (by omega) hd hx, hms, hd x (Nat.le_refl x)]
def upD (v D r i : Nat) : Prop := 10 ≤ dg v (r + i) + mr D i
theorem upA {v D r : Nat} : ∀ i, (∀ i', i' < i → upD v D r i') → 0 < i → 10 ^ (r + i) ≤ v % 10 ^ (r + i) + 10 ^ r * D
  | 0, _, z => nomatch z
  | 1, h, _ => by
    have u : 10 ≤ dg v r + D := h 0 (by decide)
    rw [mod_step, Nat.pow_succ]
    have e : 10 ^ r * dg v r + 10 ^ r * D = 10 ^ r * (dg v r + D) := (Nat.mul_add _ _ _).symm
    have := Nat.mul_le_mul_left (10 ^ r) u
    omega
  | i + 2, h, _ => by
    have u : 10 ≤ dg v (r + (i + 1)) + 1 := h (i + 1) (Nat.lt_succ_self _)
    have ih := upA (i + 1) (fun i' hi => h i' (by omega)) (by omega)
    have e : r + (i + 2) = r + (i + 1) + 1 := by omega
    rw [e, mod_step, Nat.pow_succ]
    have := Nat.mul_le_mul_left (10 ^ (r + (i + 1))) (show 9 ≤ dg v (r + (i + 1)) by omega)
    omega
theorem add_bad {v D r i n : Nat} (h : ∀ i', i' < i → upD v D r i') (h0 : 0 < i) (e : r + i = n) : 10 ^ n ≤ v + 10 ^ r * D := by
  have := upA i h h0
  rw [e] at this
  have := Nat.mod_le v (10 ^ n)
  omega
theorem rep_lt {V V' x e n : Nat} (he : e ≤ 9) (hx : x < n) (hV : V < 10 ^ n) (h : V' + 10 ^ x * dg V x = V + 10 ^ x * e) : V' < 10 ^ n := by
  obtain ⟨k, rfl⟩ : ∃ k, n = x + 1 + k := ⟨n - x - 1, by omega⟩
  have q : ∀ n, n / 10 ^ (x + 1 + k) = n / 10 ^ x / 10 / 10 ^ k := fun n => by rw [Nat.pow_add, Nat.pow_succ, ← Nat.div_div_eq_div_mul, ← Nat.div_div_eq_div_mul]
  have h1 := Nat.div_eq_of_lt hV
  rw [q] at h1
  obtain ⟨h2, _⟩ := rep_div h
  have h3 : V' / 10 ^ (x + 1 + k) = 0 := by
    rw [q, h2]
    have : (10 * (V / 10 ^ x / 10) + e) / 10 = V / 10 ^ x / 10 := by omega
    rw [this, h1]
  rcases Nat.div_eq_zero_iff.mp h3 with z | z
  · exact absurd z (Nat.pos_iff_ne_zero.mp (Nat.pow_pos (by decide)))
  · exact z
theorem mr_pow {D r i j : Nat} (hD : D ≤ 9) (h : i < j) : 10 ^ (r + i) * mr D i ≤ 10 ^ (r + j) := by
  have h1 := Nat.mul_le_mul_left (10 ^ (r + i)) (show mr D i ≤ 10 from Nat.le_trans (mr_le hD i) (by decide))
  have h2 : 10 ^ (r + i) * 10 = 10 ^ (r + i + 1) := (Nat.pow_succ ..).symm
  have h3 : 10 ^ (r + i + 1) ≤ 10 ^ (r + j) := Nat.pow_le_pow_right (by decide) (by omega)
  omega
theorem mr_pow0 {D r j : Nat} (hD : D ≤ 9) : 10 ^ r * D ≤ 10 ^ (r + j) * mr D j := by
  cases j with
  | zero => exact Nat.le_refl _
  | succ j => have := mr_pow (r := r) hD (show 0 < j + 1 by omega); simpa [mr] using this
theorem add_good {v D r j n : Nat} (hD : D ≤ 9) (hv : v < 10 ^ n) (hj : ¬ upD v D r j) (hn : r + j < n) : v + 10 ^ (r + j) * mr D j < 10 ^ n := by
  unfold upD at hj
  refine rep_lt (V := v) (x := r + j) (e := dg v (r + j) + mr D j) (by omega) hn hv ?_
  rw [Nat.mul_add]
  omega
def curA (v D r j t : Nat) : Nat := if t = 0 then v else v + 10 ^ (r + (j + 1 - t)) * mr D (j + 1 - t)
theorem add_step {v D r j t : Nat} (hD : D ≤ 9) (h : ∀ i', i' < j → upD v D r i') (hj : ¬ upD v D r j) (ht : t ≤ j) :
    dg (curA v D r j t) (r + (j - t)) = dg v (r + (j - t)) ∧ curA v D r j t % 10 ^ (r + (j - t) + 1) = v % 10 ^ (r + (j - t) + 1) ∧
    curA v D r j (t + 1) + 10 ^ (r + (j - t)) * dg (curA v D r j t) (r + (j - t)) = curA v D r j t + 10 ^ (r + (j - t)) * ((dg v (r + (j - t)) + mr D (j - t)) % 10) := by
  have e1 : j + 1 - (t + 1) = j - t := by omega
  have c1 : curA v D r j (t + 1) = v + 10 ^ (r + (j - t)) * mr D (j - t) := by unfold curA; rw [if_neg (by omega), e1]
  have hg := dg_lt v (r + (j - t))
  cases t with
  | zero =>
    have c0 : curA v D r j 0 = v := rfl
    unfold upD at hj
    rw [c0, c1]
    simp only [Nat.sub_zero] at hg ⊢
    have e3 : (dg v (r + j) + mr D j) % 10 = dg v (r + j) + mr D j := by omega
    rw [e3, Nat.mul_add]
    exact ⟨trivial, trivial, by omega⟩
  | succ t =>
    have c0 : curA v D r j (t + 1) = v + 10 ^ (r + (j - (t + 1)) + 1) := by
      unfold curA
      have e2 : j + 1 - (t + 1) = (j - (t + 1)) + 1 := by omega
      rw [if_neg (by omega), e2]
      show v + 10 ^ (r + (j - (t + 1) + 1)) * 1 = _
      rw [Nat.mul_one, Nat.add_assoc r]
    have u := h (j - (t + 1)) (by omega)
    unfold upD at u
    have hm : curA v D r j (t + 1) % 10 ^ (r + (j - (t + 1)) + 1) = v % 10 ^ (r + (j - (t + 1)) + 1) := by rw [c0, Nat.add_mod_right]
    have hd := dg_low hm (show r + (j - (t + 1)) < r + (j - (t + 1)) + 1 by omega)
    have hmr := mr_le hD (j - (t + 1))
    refine ⟨hd, hm, ?_⟩
    rw [hd, c1, c0, Nat.pow_succ]
    have e3 : (dg v (r + (j - (t + 1))) + mr D (j - (t + 1))) % 10 = dg v (r + (j - (t + 1))) + mr D (j - (t + 1)) - 10 := by omega
    rw [e3]
    have e4 : 10 ^ (r + (j - (t + 1))) * (dg v (r + (j - (t + 1))) + mr D (j - (t + 1)) - 10) + 10 ^ (r + (j - (t + 1))) * 10 = 10 ^ (r + (j - (t + 1))) * mr D (j - (t + 1)) + 10 ^ (r + (j - (t + 1))) * dg v (r + (j - (t + 1))) := by
      rw [← Nat.mul_add, ← Nat.mul_add]
      congr 1
      omega
    omega
/-! taking -/
def dnD (v D r i : Nat) : Prop := dg v (r + i) < mr D i
theorem dnA {v D r : Nat} : ∀ i, (∀ i', i' < i → dnD v D r i') → 0 < i → v % 10 ^ (r + i) < 10 ^ r * D
  | 0, _, z => nomatch z
  | 1, h, _ => by
    have u : dg v r < D := h 0 (by decide)
    rw [mod_step]
    have hp : v % 10 ^ r < 10 ^ r := Nat.mod_lt _ (Nat.pow_pos (by decide))
    have := Nat.mul_le_mul_left (10 ^ r) (show dg v r + 1 ≤ D from u)
    rw [Nat.mul_add] at this
    omega
  | i + 2, h, _ => by
    have u : dg v (r + (i + 1)) < 1 := h (i + 1) (Nat.lt_succ_self _)
    have ih := dnA (i + 1) (fun i' hi => h i' (by omega)) (by omega)
    have e : r + (i + 2) = r + (i + 1) + 1 := by omega
    have e2 : dg v (r + (i + 1)) = 0 := by omega
    rw [e, mod_step, e2, Nat.mul_zero]
    exact ih
theorem sub_bad {v D r i n : Nat} (hv : v < 10 ^ n) (h : ∀ i', i' < i → dnD v D r i') (h0 : 0 < i) (e : r + i = n) : v < 10 ^ r * D := by
  have := dnA i h h0
  rw [e, Nat.mod_eq_of_lt hv] at this
  exact this
theorem sub_good {v D r j : Nat} (hj : ¬ dnD v D r j) : 10 ^ (r + j) * mr D j ≤ v := by
  unfold dnD at hj
  have h1 := Nat.mul_le_mul_left (10 ^ (r + j)) (show mr D j ≤ v / 10 ^ (r + j) from Nat.le_trans (show mr D j ≤ dg v (r + j) by omega) (Nat.mod_le _ _))
  have h2 := Nat.mul_div_le v (10 ^ (r + j))
  omega
def curS (v D r j t : Nat) : Nat := if t = 0 then v else v - 10 ^ (r + (j + 1 - t)) * mr D (j + 1 - t)
theorem sub_step {v D r j t : Nat} (hD : D ≤ 9) (h : ∀ i', i' < j → dnD v D r i') (hj : ¬ dnD v D r j) (ht : t ≤ j) :
    dg (curS v D r j t) (r + (j - t)) = dg v (r + (j - t)) ∧ curS v D r j t % 10 ^ (r + (j - t) + 1) = v % 10 ^ (r + (j - t) + 1) ∧
    curS v D r j (t + 1) + 10 ^ (r + (j - t)) * dg (curS v D r j t) (r + (j - t)) = curS v D r j t + 10 ^ (r + (j - t)) * ((dg v (r + (j - t)) + 10 - mr D (j - t)) % 10) := by
  have e1 : j + 1 - (t + 1) = j - t := by omega
  have c1 : curS v D r j (t + 1) = v - 10 ^ (r + (j - t)) * mr D (j - t) := by unfold curS; rw [if_neg (by omega), e1]
  have hg := dg_lt v (r + (j - t))
  have hsg := sub_good hj
  cases t with
  | zero =>
    have c0 : curS v D r j 0 = v := rfl
    unfold dnD at hj
    rw [c0, c1]
    simp only [Nat.sub_zero] at hg ⊢
    have e3 : (dg v (r + j) + 10 - mr D j) % 10 = dg v (r + j) - mr D j := by omega
    rw [e3]
    have e4 : 10 ^ (r + j) * (dg v (r + j) - mr D j) + 10 ^ (r + j) * mr D j = 10 ^ (r + j) * dg v (r + j) := by
      rw [← Nat.mul_add]
      congr 1
      omega
    exact ⟨trivial, trivial, by omega⟩
  | succ t =>
    have c0 : curS v D r j (t + 1) = v - 10 ^ (r + (j - (t + 1)) + 1) := by
      unfold curS
      have e2 : j + 1 - (t + 1) = (j - (t + 1)) + 1 := by omega
      rw [if_neg (by omega), e2]
      show v - 10 ^ (r + (j - (t + 1) + 1)) * 1 = _
      rw [Nat.mul_one, Nat.add_assoc r]
    have big : 10 ^ (r + (j - (t + 1)) + 1) ≤ v := by
      have h3 : 10 ^ (r + (j - (t + 1)) + 1) ≤ 10 ^ (r + j) := Nat.pow_le_pow_right (by decide) (by omega)
      have h4 : 1 ≤ mr D j := by
        cases j with
        | zero => omega
        | succ j => exact Nat.le_refl _
      have := Nat.mul_le_mul_left (10 ^ (r + j)) h4
      omega
    have u := h (j - (t + 1)) (by omega)
    unfold dnD at u
    have hm : curS v D r j (t + 1) % 10 ^ (r + (j - (t + 1)) + 1) = v % 10 ^ (r + (j - (t + 1)) + 1) := by
      rw [c0]
      have := Nat.add_mod_right (v - 10 ^ (r + (j - (t + 1)) + 1)) (10 ^ (r + (j - (t + 1)) + 1))
      rw [Nat.sub_add_cancel big] at this
      exact this.symm
    have hd := dg_low hm (show r + (j - (t + 1)) < r + (j - (t + 1)) + 1 by omega)
    have hmr := mr_le hD (j - (t + 1))
    refine ⟨hd, hm, ?_⟩
    rw [hd, c1, c0]
    rw [Nat.pow_succ] at big ⊢
    have e3 : (dg v (r + (j - (t + 1))) + 10 - mr D (j - (t + 1))) % 10 = dg v (r + (j - (t + 1))) + 10 - mr D (j - (t + 1)) := by omega
    rw [e3]
    have e4 : 10 ^ (r + (j - (t + 1))) * (dg v (r + (j - (t + 1))) + 10 - mr D (j - (t + 1))) + 10 ^ (r + (j - (t + 1))) * mr D (j - (t + 1)) = 10 ^ (r + (j - (t + 1))) * 10 + 10 ^ (r + (j - (t + 1))) * dg v (r + (j - (t + 1))) := by
      rw [← Nat.mul_add, ← Nat.mul_add]
      congr 1
      omega
    have e5 := Nat.mul_le_mul_left (10 ^ (r + (j - (t + 1)))) (show mr D (j - (t + 1)) ≤ 10 by omega)
    omega
/-- T changes, the rest stands -/
structure UpT (W : Wd) (T S : List Addr) (H : Hp) (S' : List Addr) (H' : Hp) : Prop where
  md : Md W T H H'
  sub : ∀ a ∈ S, a ∈ S'
  new : ∀ a ∈ S', a ∈ S ∨ H a = none
section
variable {T T' S1 S2 : List Addr} {H1 H2 : Hp}
theorem UpT.refl : UpT W T S H S H := ⟨.refl, fun _ h => h, fun _ h => .inl h⟩
theorem UpT.up (a : UpT W T S H S1 H1) (b : Up W S1 H1 S2 H2) : UpT W T S H S2 H2 := ⟨a.md.trans b.md.up, fun x hx => b.sub x (a.sub x hx), fun x hx => by
  rcases b.new x hx with z | z
  · exact a.new x z
  · exact .inr (a.md.free z)⟩
theorem UpT.mdt (a : UpT W T S H S1 H1) (b : Md W T' H1 H2) (h : ∀ x ∈ T', x ∈ T ∨ H x = none) : UpT W T S H S1 H2 :=
  ⟨⟨fun c o e n t => b.keep c o (a.md.keep c o e n t) (fun z => by
      rcases h c z with q | q
      · exact n q
      · rw [q] at e; cases e) t, fun c o e => let ⟨o1, h1⟩ := a.md.dom c o e; b.dom c o1 h1, fun P hP h => b.tg P hP (a.md.tg P hP h), fun p hp h => b.tl p hp (a.md.tl p hp h), fun c φ h => b.xt c φ (a.md.xt c φ h)⟩, a.sub, a.new⟩
theorem UpT.trans (a : UpT W T S H S1 H1) (b : UpT W T' S1 H1 S2 H2) (h : ∀ x ∈ T', x ∈ T ∨ H x = none) : UpT W T S H S2 H2 :=
  ⟨((UpT.refl (W := W) (S := S)).mdt (a.md.to fun _ z => z) (fun x hx => .inl hx) |>.mdt b.md h).md, fun x hx => b.sub x (a.sub x hx), fun x hx => by
    rcases b.new x hx with z | z
    · exact a.new x z
    · exact .inr (a.md.free z)⟩
theorem UpT.drop (a : UpT W T S H S1 H1) (h0 : Up W S2 H2 S H) (h : ∀ x ∈ T, H2 x = none) : Up W S2 H2 S1 H1 := ⟨h0.md.drop a.md h, fun x hx => a.sub x (h0.sub x hx), fun x hx => by
  rcases a.new x hx with z | z
  · exact h0.new x z
  · exact .inr (h0.free z)⟩
end
/-! rows of moves -/
abbrev rwD (x : Mv) : Dv := .tup [.int x.1, .str x.2.1, .int x.2.2]
theorem ok_rw {x : Mv} (h : PyData.strOk x.2.1 = true) : OkN 1 (rwD x) := okN_tup fun d hd => by
  rcases List.mem_cons.mp hd with z | z
  · rw [z]; exact okN_int _
  · rcases List.mem_cons.mp z with z | z
    · rw [z]; exact okN_str h
    · rw [List.mem_singleton.mp z]; exact okN_int _
theorem ok_rws {ms : List Mv} (h : ∀ x ∈ ms, PyData.strOk x.2.1 = true) : OkN 2 (.lst (ms.map rwD)) := okN_lst fun d hd => by
  obtain ⟨x, hx, rfl⟩ := List.mem_map.mp hd
  exact ok_rw (h x hx)
theorem lf_ne_rws {ms ns : List Mv} (e : ms = ns) (h : ∀ x ∈ ms, PyData.strOk x.2.1 = true) (q : Φ (.bl false) S H) : eqB true (.lst (ms.map rwD)) (.lst (ns.map rwD)) Φ S H := by
  subst e
  exact lf_ne_no ((ok_rws h).ok (by decide)) q
theorem ite_len {α : Type} (c : Prop) [Decidable c] (x : α) : (if c then [x] else []).length ≤ 1 := by split <;> exact Nat.le_of_lt_succ (by show _ < 2; simp)
theorem ite_map {α β : Type} (f : α → β) (c : Prop) [Decidable c] (x : α) : (if c then [x] else []).map f = if c then [f x] else [] := by split <;> rfl
theorem lf_mul_b {b : Bool} {d : Dv} (q : Φ (.lst (if b = true then [d] else [])) S H) : mulB (.lst [d]) (.int (if b = true then 1 else 0)) Φ S H := by
  cases b with
  | true => exact lf_mul_lst (n := 1) (by decide) (by decide) (by show 1 ≤ sizeLine; decide) q
  | false => exact lf_mul_lst (n := 0) (by decide) (by decide) (by show 0 ≤ sizeLine; decide) q
def can (pl : Bool) (v D r n : Nat) : Prop := if pl = true then v + 10 ^ r * D < 10 ^ n else 10 ^ r * D ≤ v
def res (pl : Bool) (v D r : Nat) : Nat := if pl = true then v + 10 ^ r * D else v - 10 ^ r * D
def fDig (pl : Bool) (T : Txt w W mg) : Fs := fun ds S H Φ X => ∃ p l k o r d m N, ds = [.adr p, .int r, .int d] ∧ FrameAt W T.CF S H p l k o ∧ mostOf k = some m ∧ (1 ≤ o.length ∧ o.length ≤ 15) ∧ (isPlain o = false ∨ o = plain N o.length ∧ N < 10 ^ o.length) ∧
  (¬ (0 ≤ r ∧ r < o.length) → X (.ref T.xF) S H) ∧
  (0 ≤ r ∧ r < o.length → ¬ (isPlain o = true ∧ (0 ≤ d ∧ d ≤ 9) ∧ can pl N d.toNat r.toNat o.length) → ∀ S' H', Up W S H S' H' → X (.ref T.xS) S' H') ∧
  (0 ≤ r ∧ r < o.length → o = plain N o.length → 0 ≤ d ∧ d ≤ 9 → can pl N d.toNat r.toNat o.length → ∀ ms l' S' H', pushes m o ms = some (plain (res pl N d.toNat r.toNat) o.length) → ms = mB o (plain (res pl N d.toNat r.toNat) o.length) o.length → UpT W [p] S H S' H' → H l' = none →
    FrameAt W T.CF S' H' p l' k (plain (res pl N d.toNat r.toNat) o.length) → Φ (.tup (ms.map mvD)) S' H')
theorem LstAt.upt {T : List Addr} {a : Addr} {xs : List Dv} (l : Dw.LstAt W S H a xs) (u : UpT W T S H S' H') (hn : a ∉ T) (hs : ∀ x ∈ T, x ∈ S) : Dw.LstAt W S' H' a xs := by
  obtain ⟨ha, ys, e, r⟩ := l
  refine ⟨u.sub a ha, ys, u.md.keep _ _ e hn (fun _ z => by cases z), r.lq fun b o h t => ?_⟩
  obtain ⟨h1, h2⟩ := of_off h
  refine off_of (u.md.keep b o h1 (fun z => h2 (hs b z)) t) fun z => ?_
  rcases u.new b z with q | q
  · exact h2 q
  · rw [q] at h1; cases h1
theorem FrameAt.md {T : List Addr} {C : Addr} (f : FrameAt W C S H p l k o) (m : Md W T H H') (hp : p ∉ T) (hl : l ∉ T) (hs : ∀ x ∈ T, x ∈ S) : FrameAt W C S H' p l k o :=
  ⟨f.pS, let ⟨dx, h⟩ := f.ob; ⟨dx, m.keep _ _ h hp fun _ z => by cases z⟩, LstAt.md f.rl m hl hs⟩
theorem FrameAt.upt {T : List Addr} {C : Addr} (f : FrameAt W C S H p l k o) (u : UpT W T S H S' H') (hp : p ∉ T) (hl : l ∉ T) (hs : ∀ x ∈ T, x ∈ S) : FrameAt W C S' H' p l k o :=
  ⟨u.sub _ f.pS, let ⟨dx, h⟩ := f.ob; ⟨dx, u.md.keep _ _ h hp fun _ z => by cases z⟩, LstAt.upt f.rl u hl hs⟩
theorem FrameAt.nn {C : Addr} (f : FrameAt W C S H p l k o) : H p ≠ none ∧ H l ≠ none := by
  obtain ⟨dx, h⟩ := f.ob
  obtain ⟨_, xs, h2, _⟩ := f.rl
  rw [h, h2]
  exact ⟨fun z => (by cases z), fun z => (by cases z)⟩
theorem LstAt.nn {a : Addr} {xs : List Dv} (l : Dw.LstAt W S H a xs) : H a ≠ none := by
  obtain ⟨_, xs, h2, _⟩ := l
  rw [h2]
  exact fun z => (by cases z)
/-- a list that is no frame's -/
theorem LstAt.nep {C a : Addr} {xs : List Dv} (l2 : Dw.LstAt W S H a xs) (f : FrameAt W C S H p l k o) : a ≠ p := fun e => by
  obtain ⟨dx, h⟩ := f.ob
  obtain ⟨_, xs, h2, _⟩ := l2
  rw [← e, h2] at h
  cases h
def stD (r : Nat) (D : Nat) (i : Nat) : Dv := .tup [.int ((r + i : Nat) : Int), .int ((mr D i : Nat) : Int)]
theorem st_last (r D i : Nat) : atI ((List.range (i + 1)).map (stD r D)) (-1) = some (.tup [.int ((r + i : Nat) : Int), .int ((mr D i : Nat) : Int)]) := by
  have e : ixN (((List.range (i + 1)).map (stD r D)).length) (-1) = some i := by
    rw [List.length_map, List.length_range]
    unfold ixN
    rw [if_neg (by decide), if_pos (by omega)]
    congr 1
    omega
  unfold atI
  rw [e]
  show ((List.range (i + 1)).map (stD r D))[i]? = _
  rw [List.getElem?_map, List.getElem?_range (Nat.lt_succ_self i)]
  rfl
theorem st_rev (r D j : Nat) : ((List.range (j + 1)).map (stD r D)).reverse = (List.range (j + 1)).map fun t => stD r D (j - t) := by
  refine List.ext_getElem? fun t => ?_
  by_cases h : t < j + 1
  · rw [List.getElem?_reverse (by rw [List.length_map, List.length_range]; exact h), List.length_map, List.length_range, List.getElem?_map, List.getElem?_map, List.getElem?_range h, List.getElem?_range (by omega)]
    show some (stD r D (j + 1 - 1 - t)) = some (stD r D (j - t))
    rw [Nat.add_sub_cancel]
  · rw [List.getElem?_eq_none (by rw [List.length_reverse, List.length_map, List.length_range]; omega), List.getElem?_eq_none (by rw [List.length_map, List.length_range]; omega)]
theorem st_succ (r D i : Nat) : (List.range (i + 1)).map (stD r D) ++ [stD r D (i + 1)] = (List.range (i + 1 + 1)).map (stD r D) := by
  rw [List.range_succ (n := i + 1), List.map_append]
  rfl
local macro_rules | `(tactic| walk_at "sw") => `(tactic| first
  | with_reducible refine sw_aug dExtT rfl ?_)
theorem sc_add_digit : FnScope ["frame", "rod", "digit", "place", "found", "steps", "more", "whole", "row"] ["frame", "rod", "digit"] (defScope s_add_digit) := ⟨rfl, rfl, rfl, by decide +kernel, rfl, by decide +kernel, by decide +kernel⟩
theorem ok_add_digit {f : Addr} {fd : FuncData} (Fn : Fun W.K "add_digit" "add_digit" s_add_digit f fd) (T : Txt w W mg) (G_Frame_check_rod : MetX P w W.K mg base 1 T.CF "check_rod" (toSp W (fCheck T))) (G_Frame_is_plain : MetX P w W.K mg base 1 T.CF "is_plain" (toSp W (fPlain T))) (G_Frame_digit : MetX P w W.K mg base 3 T.CF "digit" (toSp W (fDigit T))) (G_rod_change : CalX P w W.K mg base 4 "rod_change" 4 (toSp W (fRodChange T))) (G_all_moved : CalX P w W.K mg base 4 "all_moved" 2 (toSp W (fAllMoved T))) :
    FnOk P w W.K mg base (L2.CX P w) 5 f fd ["frame", "rod", "digit"] (toSp W ((fDig true) T)) := by
  have nd := sc_add_digit.nd
  refine okD (kk := 4) Fn sc_add_digit (fun ds S H Φ X h => by obtain ⟨p, l, k, o, r, d, m, N, rfl, hf, hm, ho, hp, h1, h2, h3⟩ := h; rfl) fun cdv A outer s H E hcd hr => ?_
  have hu := hr.units
  have hu1 := hu_of hr
  refine ⟨_, (pss_cons (ps_expr (px_mt G_Frame_check_rod hr (takes_of rfl rfl rfl rfl) (pv 0) (pa_cons (pv 1) pa_nil)))
  (pss_cons (ps_if (PW.pt (pw_or (pt_not (pt_chain u_le u_le pe_int (pv 2) pe_int)) (pw_or1 (pt_not (pt_val (px_mt0 G_Frame_is_plain hr (takes_of rfl rfl rfl rfl) (pv 0) )))))) (pss_one (px_raise T.x_SumError (takes_of rfl rfl rfl rfl))) pss_nil)
  (pss_cons (ps_par (i := 3) (j := 4) (by rfl) nd rfl rfl (by decide) rfl rfl (pa_cons (pv 1) (pa_cons (pe_lst pa_nil) pa_nil)) (by rfl))
  (pss_cons (ps_set (i := 5) nd rfl (Or.inl rfl) (pe_lst (pa_cons (pe_tup (pa_cons (pv 1) (pa_cons (pv 2) pa_nil))) pa_nil)))
  (pss_cons (ps_while (passes_of rfl) (pt_cmpR u_ge (pe_op (w_add (K := W.K) rfl) (px_mt G_Frame_digit hr (takes_of rfl rfl rfl rfl) (pv 0) (pa_cons (pv 3) pa_nil)) (pe_ix (w_ix (K := W.K) rfl) (pe_ix (w_ix (K := W.K) rfl) (pv 5) (pe_un un_neg pe_int) (fun _ _ => rfl)) pe_int (fun _ _ => rfl))) pe_int (nomark _)) (pss_cons (ps_aug (i := 3) nd rfl (Or.inl rfl) pe_int ip_add)
  (pss_cons (ps_if (pt_cmpR (w_eq (K := W.K) rfl hu) (pv 3) (pe_callB (w_len (K := W.K) rfl) (by rfl) T.z_len (by decide +kernel) (pa_cons (w_fld (K := W.K) rfl (pv 0)) pa_nil)) (nomark _)) (pss_one (px_raise T.x_SumError (takes_of rfl rfl rfl rfl))) pss_nil)
  (pss_one (ps_expr (w_bm (K := W.K) rfl PySem.F.plainAttrs_list PySem.F.slot_list_append PySem.F.type_list_append mt_append (pv 5) (pa_cons (pe_tup (pa_cons (pv 3) (pa_cons pe_int pa_nil))) pa_nil)))))))
  (pss_cons (ps_for (passes_of rfl) rfl (w_any (K := W.K) rfl (w_revL (K := W.K) rfl (pv 5))) (w_seq (K := W.K) (n := 2) rfl rfl (pgs_cons (pg_name (i := 3) nd rfl (Or.inl rfl)) (pgs_cons (pg_name (i := 6) nd rfl (Or.inl rfl)) pgs_nil))) (pss_cons (ps_set (i := 7) nd rfl (Or.inl rfl) (pe_op u_mod (pe_op (w_add (K := W.K) rfl) (px_mt G_Frame_digit hr (takes_of rfl rfl rfl rfl) (pv 0) (pa_cons (pv 3) pa_nil)) (pv 6)) pe_int))
  (pss_cons (ps_set (i := 8) nd rfl (Or.inl rfl) (px_c G_rod_change hr (takes_of rfl rfl rfl rfl) (pa_cons (pv 0) (pa_cons (pv 3) (pa_cons (pe_op u_div (pv 7) pe_int) (pa_cons (pe_op u_mod (pv 7) pe_int) pa_nil))))))
  (pss_cons (ps_expr (px_c G_all_moved hr (takes_of rfl rfl rfl rfl) (pa_cons (pv 0) (pa_cons (pv 8) pa_nil))))
  (pss_one (ps_aug (i := 4) nd rfl (Or.inl rfl) (pv 8) (w_extT (K := W.K) rfl)))))))
  (pss_one (ps_ret (pe_callTy (w_tuple (K := W.K) rfl) (by rfl) T.z_tuple (by decide +kernel) (pa_cons (pv 4) pa_nil)))))))))), fun ds S H0 Φ X hF => ?_⟩
  obtain ⟨p, l, k, o, r, d, m, N, rfl, hf, hm, ho, hp, h1, h2, h3⟩ := hF
  walk_at "da"
  refine ⟨p, l, k, o, r, rfl, hf, fun hr0 => ?_, h1⟩
  walk_at "da"
  · refine ⟨p, l, k, o, rfl, hf, ?_⟩
    walk_at "dma"
    all_goals rename_i hb
    · exact h2 hr0 (fun z => by rw [z.1] at hb; cases hb) _ _ .refl
    have hpt : isPlain o = true := by
      cases e : isPlain o with
      | true => rfl
      | false => rw [e] at hb; cases hb
    obtain ⟨hpl, hN⟩ : o = plain N o.length ∧ N < 10 ^ o.length := by
      rcases hp with z | z
      · rw [z] at hpt; cases hpt
      · exact z
    have hd : 0 ≤ d ∧ d ≤ 9 := by omega
    obtain ⟨D, rfl⟩ := Int.eq_ofNat_of_zero_le hd.1
    obtain ⟨R, rfl⟩ := Int.eq_ofNat_of_zero_le hr0.1
    simp only [Int.toNat_natCast] at h2 h3
    have hdg : ∀ x, x < o.length → 5 * (at_ o (x : Int)).1 + (at_ o (x : Int)).2 = ((dg N x : Nat) : Int) := fun x hx => by
      rw [hpl, at_plain hx, drow_dg]
    walk_at "dm"
    refine ew_lstM ?_
    walk_at "dm"
    intro g H2 m2 hg ng lg
    walk_at "dm"
    refine ⟨_, _, rfl, ?_⟩
    walk_at "dm"
    refine ew_lstM ?_
    walk_at "dm"
    intro s H3 m3 hs nsg ls
    walk_at "dm"
    have m2free : ∀ {z}, H2 z = none → H0 z = none := fun {z} hz => (Up.cons (S := S) m2 hg).free hz
    have u0 : Up W S H0 (s :: g :: S) H3 := (Up.cons m2 hg).trans (Up.cons m3 hs)
    refine sw_while (fun mm δ' S' H' => ∃ i, mm = o.length - (R + i) ∧ R + i < o.length ∧ (∀ i', i' < i → upD N D R i') ∧ S' = s :: g :: S ∧ Up W S H0 S' H' ∧ LstAt W S' H' s ((List.range (i + 1)).map (stD R D)) ∧ LstAt W S' H' g [] ∧
      δ' = [some (.adr p), some (.int (R : Nat)), some (.int (D : Nat)), some (.int ((R + i : Nat) : Int)), some (.adr g), some (.adr s), none, none, none]) ⟨_, 0, rfl, by omega, fun _ z => (nomatch z), rfl, u0, ls, lg.up (Up.cons m3 hs), rfl⟩ ?_
    rintro mm δ' S' H' ⟨i, rfl, hi, hup, rfl, u, ls', lg', rfl⟩
    have hf' := hf.up u
    walk_at "d"
    refine ⟨p, l, k, o, _, rfl, hf', fun _ => ?_, fun z => absurd (by omega) z⟩
    rw [hdg _ hi]
    walk_at "d"
    refine lf_ix_adr ls' (st_last R D i) ?_
    walk_at "d"
    refine ⟨fun c => ?_, fun c => ?_⟩
    · have c' := of_decide_eq_true c
      have hup' : ∀ i', i' < i + 1 → upD N D R i' := fun i' hi' => by
        by_cases e : i' = i
        · subst e; unfold upD; omega
        · exact hup i' (by omega)
      walk_at "da"
      all_goals rename_i hq
      · exact h2 hr0 (fun z => by have := add_bad (n := o.length) hup' (by omega) (by omega); have z2 := z.2.2; unfold can at z2; rw [if_pos rfl] at z2; omega) _ _ u
      · have hi' : R + (i + 1) < o.length := by omega
        refine lf_app ls' (by rw [List.length_map, List.length_range]; omega) fun H4 m4 g4 => ?_
        refine ⟨_, ?_, i + 1, rfl, hi', hup', rfl, u.drop m4 (fun y hy => by rw [List.mem_singleton.mp hy]; exact m2free hs), ?_, ?_, rfl⟩
        · omega
        · rw [← st_succ]; exact g4
        · exact LstAt.md lg' m4 (fun z => nsg (by rw [List.mem_singleton.mp z] at *; exact List.mem_cons_self)) fun y hy => by rw [List.mem_singleton.mp hy]; exact List.mem_cons_self
    · have c' := of_decide_eq_false c
      have hj : ¬ upD N D R i := by unfold upD; omega
      walk_at "d"
      refine sw_forN (iw_anyL (ew_revL ?_))
      walk_at "d"
      refine .inr ⟨s, _, rfl, ls', ?_⟩
      rw [st_rev]
      refine ⟨_, rfl, ?_⟩
      refine loop_rng (fun t δ' S' H' => (∃ l' ms, (t = 0 ∨ H0 l' = none) ∧ UpT W [p] S H0 S' H' ∧ FrameAt W T.CF S' H' p l' k (plain (curA N D R i t) o.length) ∧ pushes m o ms = some (plain (curA N D R i t) o.length) ∧ ms = mB o (plain (curA N D R i t) o.length) o.length ∧ LstAt W S' H' g (ms.map mvD)) ∧
        ∃ x3 x6 x7 x8, δ' = [some (.adr p), some (.int (R : Nat)), some (.int (D : Nat)), x3, some (.adr g), some (.adr s), x6, x7, x8]) ?_ ?_ ?_
      · refine ⟨⟨l, [], .inl rfl, UpT.refl.up u, ?_, ?_, ?_, lg'⟩, _, _, _, _, rfl⟩
        · show FrameAt W T.CF _ _ p l k (plain N o.length)
          rw [← hpl]
          exact hf'
        · show some o = some (plain N o.length)
          rw [← hpl]
        · show [] = mB o (plain N o.length) o.length
          rw [← hpl]
          exact (mB_low fun _ _ => rfl).symm
      · rintro t δ' S' H' ht ⟨⟨l', ms, nw, u', f', hp', hms, lg2⟩, x3, x6, x7, x8, rfl⟩
        walk_at "d"
        refine seqL_t rfl ?_
        walk_at "d"
        obtain ⟨hd1, hd2, hd3⟩ := add_step (v := N) (r := R) (t := t) (show D ≤ 9 by omega) hup hj (by omega)
        have hx : R + (i - t) < o.length := by omega
        refine ⟨p, l', k, _, _, rfl, f', fun _ => ?_, fun z => absurd (by rw [plain_len]; omega) z⟩
        rw [at_plain hx, drow_dg, hd1]
        walk_at "d"
        have hde := dg_lt N (R + (i - t))
        have ee : (((dg N (R + (i - t)) : Nat) : Int) + ((mr D (i - t) : Nat) : Int)) % 10 = (((dg N (R + (i - t)) + mr D (i - t)) % 10 : Nat) : Int) := by omega
        rw [ee]
        have he : (dg N (R + (i - t)) + mr D (i - t)) % 10 ≤ 9 := by omega
        generalize (dg N (R + (i - t)) + mr D (i - t)) % 10 = e at hd3 he
        obtain ⟨q1, q2, q3⟩ := dig_step hm he hx hd3 hd2 (by rw [← hpl]; exact hp') (by rw [← hpl]; exact hms)
        rw [← hpl] at q2 q3
        have hm' := mostOf_in hm
        refine ⟨p, l', k, _, m, _, _, _, rfl, f', hm, by rw [plain_len]; exact ho, fun z => absurd ⟨by rw [plain_len]; omega, by unfold inM; dsimp only; omega⟩ z, fun _ _ S1 H1 u1 => ?_⟩
        have f1 := f'.up u1
        walk_at "d"
        refine ⟨p, l', k, _, m, _, _, rfl, .inr rfl, f1, hm, by rw [plain_len]; exact ho, fun x hx => ⟨(chg_ok (by omega) x hx).1, (chg_ok (by omega) x hx).str⟩, fun z => ?_, fun o' _ hz l2 S2 H2 m2 s2 n2 hl2 f2 => ?_⟩
        · have := chg_len (at_ (plain (curA N D R i t) o.length) ((R + (i - t) : Nat) : Int)) ((R + (i - t) : Nat) : Int) ((e : Int) / 5) ((e : Int) % 5)
          rcases z with z | z
          · omega
          · exact absurd (q1.symm.trans z) (by simp)
        · have eo : plain (curA N D R i (t + 1)) o.length = o' := Option.some.inj (q1.symm.trans hz)
          rw [← eo] at f2
          have u2 : UpT W [p] S H0 S2 H2 := (u'.up u1).trans ⟨m2, s2, n2⟩ fun x hx => .inl hx
          have lg1 := lg2.up u1
          have lg3 : LstAt W S2 H2 g (ms.map mvD) := LstAt.upt lg1 ⟨m2, s2, n2⟩ (fun z => LstAt.nep lg1 f1 (List.mem_singleton.mp z)) fun y hy => by rw [List.mem_singleton.mp hy]; exact f1.pS
          have hgl : l2 ≠ g := fun z => LstAt.nn lg1 (by rw [← z]; exact hl2)
          walk_at "d"
          have hlen : ∀ a b : List Mv, a ++ b = mB o (plain (curA N D R i (t + 1)) o.length) o.length → (a.map mvD).length + (b.map mvD).length ≤ 1000000 := fun a b e2 => by
            have := mB_len o (plain (curA N D R i (t + 1)) o.length) o.length
            rw [← e2, List.length_append] at this
            rw [List.length_map, List.length_map]
            omega
          refine lf_ext lg3 (hlen _ _ q3) fun H3 m3 g3 => ?_
          rw [← List.map_append] at g3
          exact ⟨⟨l2, _, .inr ((u'.up u1).md.free hl2), u2.mdt m3 fun y hy => .inr (by rw [List.mem_singleton.mp hy]; exact hg), FrameAt.md f2 m3 (fun z => LstAt.nep lg3 f2 (List.mem_singleton.mp z).symm) (fun z => hgl (List.mem_singleton.mp z)) (fun y hy => by rw [List.mem_singleton.mp hy]; exact lg3.1), q2, q3, g3⟩, _, _, _, _, rfl⟩
      · rintro δ' S' H' ⟨⟨l', ms, nw, u', f', hp', hms, lg2⟩, x3, x6, x7, x8, rfl⟩
        have e : curA N D R i (i + 1) = res true N D R := by
          unfold curA res
          rw [if_neg (Nat.succ_ne_zero i), if_pos rfl, Nat.sub_self]
          rfl
        rw [e] at f' hp' hms
        walk_at "d"
        refine .inr ⟨g, _, rfl, lg2, h3 hr0 hpl hd ?_ ms l' _ _ hp' hms u' (nw.resolve_left (Nat.succ_ne_zero i)) f'⟩
        unfold can
        rw [if_pos rfl]
        have := add_good (n := o.length) (show D ≤ 9 by omega) hN hj hi
        have := mr_pow0 (r := R) (j := i) (show D ≤ 9 by omega)
        omega
  · exact h2 hr0 (fun z => absurd z.2.1 (by omega)) _ _ .refl
  · exact h2 hr0 (fun z => absurd z.2.1 (by omega)) _ _ .refl
theorem sc_take_digit : FnScope ["frame", "rod", "digit", "place", "steps", "found", "less", "whole", "row"] ["frame", "rod", "digit"] (defScope s_take_digit) := ⟨rfl, rfl, rfl, by decide +kernel, rfl, by decide +kernel, by decide +kernel⟩
theorem ok_take_digit {f : Addr} {fd : FuncData} (Fn : Fun W.K "take_digit" "take_digit" s_take_digit f fd) (T : Txt w W mg) (G_Frame_check_rod : MetX P w W.K mg base 1 T.CF "check_rod" (toSp W (fCheck T))) (G_Frame_is_plain : MetX P w W.K mg base 1 T.CF "is_plain" (toSp W (fPlain T))) (G_Frame_digit : MetX P w W.K mg base 3 T.CF "digit" (toSp W (fDigit T))) (G_rod_change : CalX P w W.K mg base 4 "rod_change" 4 (toSp W (fRodChange T))) (G_all_moved : CalX P w W.K mg base 4 "all_moved" 2 (toSp W (fAllMoved T))) :
    FnOk P w W.K mg base (L2.CX P w) 5 f fd ["frame", "rod", "digit"] (toSp W ((fDig false) T)) := by
  have nd := sc_take_digit.nd
  refine okD (kk := 4) Fn sc_take_digit (fun ds S H Φ X h => by obtain ⟨p, l, k, o, r, d, m, N, rfl, hf, hm, ho, hp, h1, h2, h3⟩ := h; rfl) fun cdv A outer s H E hcd hr => ?_
  have hu := hr.units
  have hu1 := hu_of hr
  refine ⟨_, (pss_cons (ps_expr (px_mt G_Frame_check_rod hr (takes_of rfl rfl rfl rfl) (pv 0) (pa_cons (pv 1) pa_nil)))
  (pss_cons (ps_if (PW.pt (pw_or (pt_not (pt_chain u_le u_le pe_int (pv 2) pe_int)) (pw_or1 (pt_not (pt_val (px_mt0 G_Frame_is_plain hr (takes_of rfl rfl rfl rfl) (pv 0) )))))) (pss_one (px_raise T.x_SumError (takes_of rfl rfl rfl rfl))) pss_nil)
  (pss_cons (ps_par (i := 3) (j := 4) (by rfl) nd rfl rfl (by decide) rfl rfl (pa_cons (pv 1) (pa_cons (pe_lst (pa_cons (pe_tup (pa_cons (pv 1) (pa_cons (pv 2) pa_nil))) pa_nil)) pa_nil)) (by rfl))
  (pss_cons (ps_while (passes_of rfl) (pt_cmpR (w_lt (K := W.K) rfl hu) (px_mt G_Frame_digit hr (takes_of rfl rfl rfl rfl) (pv 0) (pa_cons (pv 3) pa_nil)) (pe_ix (w_ix (K := W.K) rfl) (pe_ix (w_ix (K := W.K) rfl) (pv 4) (pe_un un_neg pe_int) (fun _ _ => rfl)) pe_int (fun _ _ => rfl)) (nomark _)) (pss_cons (ps_aug (i := 3) nd rfl (Or.inl rfl) pe_int ip_add)
  (pss_cons (ps_if (pt_cmpR (w_eq (K := W.K) rfl hu) (pv 3) (pe_callB (w_len (K := W.K) rfl) (by rfl) T.z_len (by decide +kernel) (pa_cons (w_fld (K := W.K) rfl (pv 0)) pa_nil)) (nomark _)) (pss_one (px_raise T.x_SumError (takes_of rfl rfl rfl rfl))) pss_nil)
  (pss_one (ps_expr (w_bm (K := W.K) rfl PySem.F.plainAttrs_list PySem.F.slot_list_append PySem.F.type_list_append mt_append (pv 4) (pa_cons (pe_tup (pa_cons (pv 3) (pa_cons pe_int pa_nil))) pa_nil)))))))
  (pss_cons (ps_set (i := 5) nd rfl (Or.inl rfl) (pe_lst pa_nil))
  (pss_cons (ps_for (passes_of rfl) rfl (w_any (K := W.K) rfl (w_revL (K := W.K) rfl (pv 4))) (w_seq (K := W.K) (n := 2) rfl rfl (pgs_cons (pg_name (i := 3) nd rfl (Or.inl rfl)) (pgs_cons (pg_name (i := 6) nd rfl (Or.inl rfl)) pgs_nil))) (pss_cons (ps_set (i := 7) nd rfl (Or.inl rfl) (pe_op u_mod (pe_op u_sub (px_mt G_Frame_digit hr (takes_of rfl rfl rfl rfl) (pv 0) (pa_cons (pv 3) pa_nil)) (pv 6)) pe_int))
  (pss_cons (ps_set (i := 8) nd rfl (Or.inl rfl) (px_c G_rod_change hr (takes_of rfl rfl rfl rfl) (pa_cons (pv 0) (pa_cons (pv 3) (pa_cons (pe_op u_div (pv 7) pe_int) (pa_cons (pe_op u_mod (pv 7) pe_int) pa_nil))))))
  (pss_cons (ps_expr (px_c G_all_moved hr (takes_of rfl rfl rfl rfl) (pa_cons (pv 0) (pa_cons (pv 8) pa_nil))))
  (pss_one (ps_aug (i := 5) nd rfl (Or.inl rfl) (pv 8) (w_extT (K := W.K) rfl)))))))
  (pss_one (ps_ret (pe_callTy (w_tuple (K := W.K) rfl) (by rfl) T.z_tuple (by decide +kernel) (pa_cons (pv 5) pa_nil)))))))))), fun ds S H0 Φ X hF => ?_⟩
  obtain ⟨p, l, k, o, r, d, m, N, rfl, hf, hm, ho, hp, h1, h2, h3⟩ := hF
  walk_at "da"
  refine ⟨p, l, k, o, r, rfl, hf, fun hr0 => ?_, h1⟩
  walk_at "da"
  · refine ⟨p, l, k, o, rfl, hf, ?_⟩
    walk_at "dma"
    all_goals rename_i hb
    · exact h2 hr0 (fun z => by rw [z.1] at hb; cases hb) _ _ .refl
    have hpt : isPlain o = true := by
      cases e : isPlain o with
      | true => rfl
      | false => rw [e] at hb; cases hb
    obtain ⟨hpl, hN⟩ : o = plain N o.length ∧ N < 10 ^ o.length := by
      rcases hp with z | z
      · rw [z] at hpt; cases hpt
      · exact z
    have hd : 0 ≤ d ∧ d ≤ 9 := by omega
    obtain ⟨D, rfl⟩ := Int.eq_ofNat_of_zero_le hd.1
    obtain ⟨R, rfl⟩ := Int.eq_ofNat_of_zero_le hr0.1
    simp only [Int.toNat_natCast] at h2 h3
    have hdg : ∀ x, x < o.length → 5 * (at_ o (x : Int)).1 + (at_ o (x : Int)).2 = ((dg N x : Nat) : Int) := fun x hx => by
      rw [hpl, at_plain hx, drow_dg]
    walk_at "dm"
    refine ew_lstM ?_
    walk_at "dm"
    intro s H3 m3 hs nsg ls
    walk_at "dm"
    refine ⟨_, _, rfl, ?_⟩
    walk_at "dm"
    have u0 : Up W S H0 (s :: S) H3 := Up.cons m3 hs
    refine sw_while (fun mm δ' S' H' => ∃ i, mm = o.length - (R + i) ∧ R + i < o.length ∧ (∀ i', i' < i → dnD N D R i') ∧ S' = s :: S ∧ Up W S H0 S' H' ∧ LstAt W S' H' s ((List.range (i + 1)).map (stD R D)) ∧
      δ' = [some (.adr p), some (.int (R : Nat)), some (.int (D : Nat)), some (.int ((R + i : Nat) : Int)), some (.adr s), none, none, none, none]) ⟨_, 0, rfl, by omega, fun _ z => (nomatch z), rfl, u0, ls, rfl⟩ ?_
    rintro mm δ' S' H' ⟨i, rfl, hi, hup, rfl, u, ls', rfl⟩
    have hf' := hf.up u
    walk_at "d"
    refine ⟨p, l, k, o, _, rfl, hf', fun _ => ?_, fun z => absurd (by omega) z⟩
    rw [hdg _ hi]
    walk_at "d"
    refine lf_ix_adr ls' (st_last R D i) ?_
    walk_at "d"
    refine ⟨fun c => ?_, fun c => ?_⟩
    · have c' := of_decide_eq_true c
      have hup' : ∀ i', i' < i + 1 → dnD N D R i' := fun i' hi' => by
        by_cases e : i' = i
        · subst e; unfold dnD; omega
        · exact hup i' (by omega)
      walk_at "da"
      all_goals rename_i hq
      · exact h2 hr0 (fun z => by have := sub_bad hN hup' (by omega) (by omega); have z2 := z.2.2; unfold can at z2; rw [if_neg (fun z => by cases z)] at z2; omega) _ _ u
      · have hi' : R + (i + 1) < o.length := by omega
        refine lf_app ls' (by rw [List.length_map, List.length_range]; omega) fun H4 m4 g4 => ?_
        refine ⟨_, ?_, i + 1, rfl, hi', hup', rfl, u.drop m4 (fun y hy => by rw [List.mem_singleton.mp hy]; exact hs), ?_, rfl⟩
        · omega
        · rw [← st_succ]; exact g4
    · have c' := of_decide_eq_false c
      have hj : ¬ dnD N D R i := by unfold dnD; omega
      walk_at "dm"
      refine ew_lstM ?_
      walk_at "dm"
      intro g H2 m2 hg0 ng lg
      have ug : Up W S H0 (g :: s :: S) H2 := u.trans (Up.cons m2 hg0)
      have hg : H0 g = none := u.free hg0
      have hf2 := hf.up ug
      walk_at "d"
      refine sw_forN (iw_anyL (ew_revL ?_))
      walk_at "d"
      refine .inr ⟨s, _, rfl, ls'.up (Up.cons m2 hg0), ?_⟩
      rw [st_rev]
      refine ⟨_, rfl, ?_⟩
      refine loop_rng (fun t δ' S' H' => (∃ l' ms, (t = 0 ∨ H0 l' = none) ∧ UpT W [p] S H0 S' H' ∧ FrameAt W T.CF S' H' p l' k (plain (curS N D R i t) o.length) ∧ pushes m o ms = some (plain (curS N D R i t) o.length) ∧ ms = mB o (plain (curS N D R i t) o.length) o.length ∧ LstAt W S' H' g (ms.map mvD)) ∧
        ∃ x3 x6 x7 x8, δ' = [some (.adr p), some (.int (R : Nat)), some (.int (D : Nat)), x3, some (.adr s), some (.adr g), x6, x7, x8]) ?_ ?_ ?_
      · refine ⟨⟨l, [], .inl rfl, UpT.refl.up ug, ?_, ?_, ?_, lg⟩, _, _, _, _, rfl⟩
        · show FrameAt W T.CF _ _ p l k (plain N o.length)
          rw [← hpl]
          exact hf2
        · show some o = some (plain N o.length)
          rw [← hpl]
        · show [] = mB o (plain N o.length) o.length
          rw [← hpl]
          exact (mB_low fun _ _ => rfl).symm
      · rintro t δ' S' H' ht ⟨⟨l', ms, nw, u', f', hp', hms, lg2⟩, x3, x6, x7, x8, rfl⟩
        walk_at "d"
        refine seqL_t rfl ?_
        walk_at "d"
        obtain ⟨hd1, hd2, hd3⟩ := sub_step (v := N) (r := R) (t := t) (show D ≤ 9 by omega) hup hj (by omega)
        have hx : R + (i - t) < o.length := by omega
        refine ⟨p, l', k, _, _, rfl, f', fun _ => ?_, fun z => absurd (by rw [plain_len]; omega) z⟩
        rw [at_plain hx, drow_dg, hd1]
        walk_at "d"
        have hde := dg_lt N (R + (i - t))
        have hmr := mr_le (show D ≤ 9 by omega) (i - t)
        have ee : (((dg N (R + (i - t)) : Nat) : Int) - ((mr D (i - t) : Nat) : Int)) % 10 = (((dg N (R + (i - t)) + 10 - mr D (i - t)) % 10 : Nat) : Int) := by omega
        rw [ee]
        have he : (dg N (R + (i - t)) + 10 - mr D (i - t)) % 10 ≤ 9 := by omega
        generalize (dg N (R + (i - t)) + 10 - mr D (i - t)) % 10 = e at hd3 he
        obtain ⟨q1, q2, q3⟩ := dig_step hm he hx hd3 hd2 (by rw [← hpl]; exact hp') (by rw [← hpl]; exact hms)
        rw [← hpl] at q2 q3
        have hm' := mostOf_in hm
        refine ⟨p, l', k, _, m, _, _, _, rfl, f', hm, by rw [plain_len]; exact ho, fun z => absurd ⟨by rw [plain_len]; omega, by unfold inM; dsimp only; omega⟩ z, fun _ _ S1 H1 u1 => ?_⟩
        have f1 := f'.up u1
        walk_at "d"
        refine ⟨p, l', k, _, m, _, _, rfl, .inr rfl, f1, hm, by rw [plain_len]; exact ho, fun x hx => ⟨(chg_ok (by omega) x hx).1, (chg_ok (by omega) x hx).str⟩, fun z => ?_, fun o' _ hz l2 S2 H2 m2 s2 n2 hl2 f2 => ?_⟩
        · have := chg_len (at_ (plain (curS N D R i t) o.length) ((R + (i - t) : Nat) : Int)) ((R + (i - t) : Nat) : Int) ((e : Int) / 5) ((e : Int) % 5)
          rcases z with z | z
          · omega
          · exact absurd (q1.symm.trans z) (by simp)
        · have eo : plain (curS N D R i (t + 1)) o.length = o' := Option.some.inj (q1.symm.trans hz)
          rw [← eo] at f2
          have u2 : UpT W [p] S H0 S2 H2 := (u'.up u1).trans ⟨m2, s2, n2⟩ fun x hx => .inl hx
          have lg1 := lg2.up u1
          have lg3 : LstAt W S2 H2 g (ms.map mvD) := LstAt.upt lg1 ⟨m2, s2, n2⟩ (fun z => LstAt.nep lg1 f1 (List.mem_singleton.mp z)) fun y hy => by rw [List.mem_singleton.mp hy]; exact f1.pS
          have hgl : l2 ≠ g := fun z => LstAt.nn lg1 (by rw [← z]; exact hl2)
          walk_at "d"
          have hlen : ∀ a b : List Mv, a ++ b = mB o (plain (curS N D R i (t + 1)) o.length) o.length → (a.map mvD).length + (b.map mvD).length ≤ 1000000 := fun a b e2 => by
            have := mB_len o (plain (curS N D R i (t + 1)) o.length) o.length
            rw [← e2, List.length_append] at this
            rw [List.length_map, List.length_map]
            omega
          refine lf_ext lg3 (hlen _ _ q3) fun H3 m3 g3 => ?_
          rw [← List.map_append] at g3
          exact ⟨⟨l2, _, .inr ((u'.up u1).md.free hl2), u2.mdt m3 fun y hy => .inr (by rw [List.mem_singleton.mp hy]; exact hg), FrameAt.md f2 m3 (fun z => LstAt.nep lg3 f2 (List.mem_singleton.mp z).symm) (fun z => hgl (List.mem_singleton.mp z)) (fun y hy => by rw [List.mem_singleton.mp hy]; exact lg3.1), q2, q3, g3⟩, _, _, _, _, rfl⟩
      · rintro δ' S' H' ⟨⟨l', ms, nw, u', f', hp', hms, lg2⟩, x3, x6, x7, x8, rfl⟩
        have e : curS N D R i (i + 1) = res false N D R := by
          unfold curS res
          rw [if_neg (Nat.succ_ne_zero i), if_neg (fun z => by cases z), Nat.sub_self]
          rfl
        rw [e] at f' hp' hms
        walk_at "d"
        refine .inr ⟨g, _, rfl, lg2, h3 hr0 hpl hd ?_ ms l' _ _ hp' hms u' (nw.resolve_left (Nat.succ_ne_zero i)) f'⟩
        unfold can
        rw [if_neg (fun z => by cases z)]
        have := sub_good hj
        have := mr_pow0 (r := R) (j := i) (show D ≤ 9 by omega)
        omega
  · exact h2 hr0 (fun z => absurd z.2.1 (by omega)) _ _ .refl
  · exact h2 hr0 (fun z => absurd z.2.1 (by omega)) _ _ .refl
def canW (pl : Bool) (v z n : Nat) : Prop := if pl = true then v + z < 10 ^ n else z ≤ v
def resW (pl : Bool) (v z : Nat) : Nat := if pl = true then v + z else v - z
/-- the digits from a place on -/
def hiQ (z y : Nat) : Nat := z - z % 10 ^ y
theorem hiQ_step (z x : Nat) : hiQ z x = hiQ z (x + 1) + 10 ^ x * dg z x := by
  unfold hiQ
  have h1 := mod_step z x
  have h2 := Nat.mod_le z (10 ^ (x + 1))
  omega
theorem hiQ_le (z y : Nat) : hiQ z y ≤ z := Nat.sub_le _ _
theorem hiQ_zero (z : Nat) : hiQ z 0 = z := by unfold hiQ; rw [Nat.pow_zero, Nat.mod_one]; rfl
theorem hiQ_top {z y : Nat} (h : z < 10 ^ y) : hiQ z y = 0 := by unfold hiQ; rw [Nat.mod_eq_of_lt h, Nat.sub_self]
theorem canW_le {pl : Bool} {v z z' n : Nat} (h : canW pl v z n) (hz : z' ≤ z) : canW pl v z' n := by
  unfold canW at *
  cases pl with
  | true => rw [if_pos rfl] at *; omega
  | false => rw [if_neg (by decide)] at *; omega
theorem resW_lt {pl : Bool} {v z n : Nat} (hv : v < 10 ^ n) (h : canW pl v z n) : resW pl v z < 10 ^ n := by
  unfold canW at h
  unfold resW
  cases pl with
  | true => rw [if_pos rfl] at *; omega
  | false => rw [if_neg (by decide)] at *; omega
theorem can_dig {pl : Bool} {v z x n : Nat} (h : canW pl v (hiQ z (x + 1)) n) : (can pl (resW pl v (hiQ z (x + 1))) (dg z x) x n ↔ canW pl v (hiQ z x) n) ∧ res pl (resW pl v (hiQ z (x + 1))) (dg z x) x = resW pl v (hiQ z x) := by
  rw [hiQ_step z x]
  unfold canW at *
  unfold can res resW
  cases pl with
  | true =>
    simp only [if_true] at *
    exact ⟨by omega, by omega⟩
  | false =>
    simp only [Bool.false_eq_true, if_false] at *
    exact ⟨by omega, by omega⟩
def fWorked (T : Txt w W mg) : Fs := fun ds S H Φ X => ∃ p l k o z m N, ∃ pl : Bool, ds = [.adr p, .int z, .adr (if pl = true then T.aAdd else T.aTake)] ∧ FrameAt W T.CF S H p l k o ∧ mostOf k = some m ∧ (1 ≤ o.length ∧ o.length ≤ 15) ∧ (isPlain o = false ∨ o = plain N o.length ∧ N < 10 ^ o.length) ∧ (-(10 ^ 30) < z ∧ z < 10 ^ 30) ∧
  (¬ (isPlain o = true ∧ 0 ≤ z ∧ z.toNat < 10 ^ o.length ∧ canW pl N z.toNat o.length) → ∀ S' H', Up W S H S' H' → X (.ref T.xS) S' H') ∧
  (o = plain N o.length → 0 ≤ z → z.toNat < 10 ^ o.length → canW pl N z.toNat o.length → ∀ ms l' S' H', pushes m o ms = some (plain (resW pl N z.toNat) o.length) → ms.length ≤ 2000 → (∀ x ∈ ms, okMv x) → UpT W [p] S H S' H' → H l' = none →
    FrameAt W T.CF S' H' p l' k (plain (resW pl N z.toNat) o.length) → Φ (.tup (ms.map mvD)) S' H')
theorem sc_worked : FnScope ["frame", "number", "one_digit", "other", "found", "place", "sign"] ["frame", "number", "one_digit"] (defScope s_worked) := ⟨rfl, rfl, rfl, by decide +kernel, rfl, by decide +kernel, by decide +kernel⟩
theorem ok_worked {f : Addr} {fd : FuncData} (Fn : Fun W.K "worked" "worked" s_worked f fd) (T : Txt w W mg) (G_Frame_copied : MetX P w W.K mg base 3 T.CF "copied" (toSp W (fCopied T))) (G_add_digit : CalX P w W.K mg base 5 "add_digit" 3 (toSp W ((fDig true) T))) (G_take_digit : CalX P w W.K mg base 5 "take_digit" 3 (toSp W ((fDig false) T))) :
    FnOk P w W.K mg base (L2.CX P w) 6 f fd ["frame", "number", "one_digit"] (toSp W (fWorked T)) := by
  have nd := sc_worked.nd
  refine okD (kk := 5) Fn sc_worked (fun ds S H Φ X h => by obtain ⟨p, l, k, o, z, m, N, pl, rfl, hf, hm, ho, hp, hz, h2, h3⟩ := h; rfl) fun cdv A outer s H E hcd hr => ?_
  have hu := hr.units
  have hu1 := hu_of hr
  refine ⟨_, (pss_cons (ps_if (PW.pt (pw_or (pt_cmpR (w_lt (K := W.K) rfl hu) (pv 1) pe_int (nomark _)) (pw_or1 (pt_cmpR u_gt (pe_callB (w_len (K := W.K) rfl) (by rfl) T.z_len (by decide +kernel) (pa_cons (pe_callTy c_str (by rfl) T.z_str (by decide +kernel) (pa_cons (pv 1) pa_nil)) pa_nil)) (pe_callB (w_len (K := W.K) rfl) (by rfl) T.z_len (by decide +kernel) (pa_cons (w_fld (K := W.K) rfl (pv 0)) pa_nil)) (nomark _))))) (pss_one (px_raise T.x_SumError (takes_of rfl rfl rfl rfl))) pss_nil)
  (pss_cons (ps_par (i := 3) (j := 4) (by rfl) nd rfl rfl (by decide) rfl rfl (pa_cons (px_mt0 G_Frame_copied hr (takes_of rfl rfl rfl rfl) (pv 0) ) (pa_cons (pe_lst pa_nil) pa_nil)) (by rfl))
  (pss_cons (ps_for (passes_of rfl) rfl (pi_enumS (by rfl) T.z_enumerate (pa_cons (pe_callTy c_str (by rfl) T.z_str (by decide +kernel) (pa_cons (pv 1) pa_nil)) pa_nil)) (w_seq (K := W.K) (n := 2) rfl rfl (pgs_cons (pg_name (i := 5) nd rfl (Or.inl rfl)) (pgs_cons (pg_name (i := 6) nd rfl (Or.inl rfl)) pgs_nil))) (pss_one (ps_aug (i := 4) nd rfl (Or.inl rfl) (px_l2 (i := 2) G_add_digit G_take_digit T.f_add_digit T.f_take_digit hr (takes_of rfl rfl rfl rfl) rfl (Or.inl rfl) (pa_cons (pv 3) (pa_cons (pe_op u_sub (pe_op u_sub (pe_callB (w_len (K := W.K) rfl) (by rfl) T.z_len (by decide +kernel) (pa_cons (pe_callTy c_str (by rfl) T.z_str (by decide +kernel) (pa_cons (pv 1) pa_nil)) pa_nil)) pe_int) (pv 5)) (pa_cons (pe_callTy c_int (by rfl) T.z_int (by decide +kernel) (pa_cons (pv 6) pa_nil)) pa_nil)))) (w_extT (K := W.K) rfl))))
  (pss_cons (w_sfld (K := W.K) rfl (pv 0) (w_fld (K := W.K) rfl (pv 3)))
  (pss_one (ps_ret (pe_callTy (w_tuple (K := W.K) rfl) (by rfl) T.z_tuple (by decide +kernel) (pa_cons (pv 4) pa_nil)))))))), fun ds S H0 Φ X hF => ?_⟩
  obtain ⟨p, l, k, o, z, m, N, pl, rfl, hf, hm, ho, hp, hz, h2, h3⟩ := hF
  have e0 : ∀ {q : Int}, 0 ≤ q → ((iS q).length : Int) = (nD q.toNat : Nat) := fun {q} h => by rw [iS_nat h, nS_len]
  have hE : (if pl = true then fDig true T else fDig false T) = fDig pl T := by cases pl <;> rfl
  walk_at "da"
  · rename_i hn hq
    have hn : 0 ≤ z := by omega
    refine h2 (fun c => ?_) _ _ .refl
    have := (nD_le_iff (n := z.toNat) (show 0 < o.length by omega)).mpr c.2.2.1
    have := e0 hn
    omega
  · rename_i hn hq
    have hn : 0 ≤ z := by omega
    have hL : nD z.toNat ≤ o.length := by have := e0 hn; omega
    have hzl : z.toNat < 10 ^ o.length := (nD_le_iff (show 0 < o.length by omega)).mp hL
    have hL0 := nD_pos z.toNat
    have hzL : z.toNat < 10 ^ nD z.toNat := (nD_le_iff hL0).mp (Nat.le_refl _)
    refine ⟨p, l, k, o, m, rfl, hf, hm, ho, fun x l1 S1 H1 u1 f1 hx hl1 => ?_⟩
    walk_at "dm"
    refine ew_lstM ?_
    walk_at "dm"
    intro g H2 m2 hg0 ng lg
    have hg : H0 g = none := u1.free hg0
    walk_at "d"
    refine ⟨_, _, rfl, ?_⟩
    walk_at "d"
    refine sw_forN ?_
    walk_at "d"
    have eL := e0 hn
    rw [iS_nat hn, signs_nS, numb_range]
    have u2 : Up W S H0 (g :: S1) H2 := u1.trans (Up.cons m2 hg0)
    have hpq : isPlain o = true → o = plain N o.length ∧ N < 10 ^ o.length := fun c => by
      rcases hp with q | q
      · rw [q] at c; cases c
      · exact q
    generalize hLL : nD z.toNat = L at *
    refine loop_rng (fun i δ' S' H' => (∃ l' ms oi, H0 l' = none ∧ Up W S H0 S' H' ∧ FrameAt W T.CF S' H' x l' k oi ∧ oi.length = o.length ∧ LstAt W S' H' g (ms.map mvD) ∧ ms.length ≤ 30 * i ∧ (∀ y ∈ ms, okMv y) ∧ pushes m o ms = some oi ∧ (isPlain o = false → i = 0 ∧ oi = o) ∧
        (isPlain o = true → oi = plain (resW pl N (hiQ z.toNat (L - i))) o.length ∧ canW pl N (hiQ z.toNat (L - i)) o.length)) ∧
        ∃ x5 x6, δ' = [some (.adr p), some (.int z), some (.adr (if pl = true then T.aAdd else T.aTake)), some (.adr x), some (.adr g), x5, x6]) ?_ ?_ ?_
    · refine ⟨⟨l1, [], o, hl1, u2, f1.up (Up.cons m2 hg0), rfl, lg, Nat.zero_le _, fun _ z => (nomatch z), rfl, fun _ => ⟨rfl, rfl⟩, fun c => ?_⟩, _, _, rfl⟩
      have e : hiQ z.toNat (L - 0) = 0 := hiQ_top hzL
      rw [e]
      obtain ⟨q1, q2⟩ := hpq c
      unfold resW canW
      cases pl with
      | true => exact ⟨q1, q2⟩
      | false => exact ⟨q1, Nat.zero_le _⟩
    · rintro i δ' S' H' hi ⟨⟨l', ms, oi, nw, u, f', hlen, lg2, hml, hok, hpu, hn1, hn2⟩, x5, x6, rfl⟩
      walk_at "d"
      refine ew_call2 pl rfl ?_
      rw [hE]
      walk_at "d"
      refine lf_int_str (n := (dg z.toNat (L - 1 - i) : Nat)) (int_sg (dg_lt _ _)) (by show 1 ≤ 640; decide) ?_
      walk_at "d"
      have er : ((iS z).length : Int) - 1 - (i : Int) = ((L - 1 - i : Nat) : Int) := by omega
      rw [er]
      have e1 : L - i = (L - 1 - i) + 1 := by omega
      have e2 : L - (i + 1) = L - 1 - i := by omega
      have hdl := dg_lt z.toNat (L - 1 - i)
      have hV : isPlain o = true → resW pl N (hiQ z.toNat (L - i)) < 10 ^ o.length := fun c => resW_lt (hpq c).2 (hn2 c).2
      have hoi : isPlain oi = true → isPlain o = true := fun c => by
        cases q : isPlain o with
        | true => rfl
        | false => rw [(hn1 q).2, q] at c; cases c
      refine ⟨x, l', k, oi, _, _, m, resW pl N (hiQ z.toNat (L - i)), rfl, f', hm, by rw [hlen]; exact ho, ?_, fun c => absurd (by omega) c, fun _ c S3 H3 u3 => ?_, fun _ hpl hdd hcan ms2 l3 S3 H3 hp3 hms3 u3 hl3n f3 => ?_⟩
      · cases q : isPlain o with
        | true => rw [hlen]; exact .inr ⟨(hn2 q).1, hV q⟩
        | false => rw [(hn1 q).2]; exact .inl q
      · refine h2 (fun y => c ?_) _ _ (u.trans u3)
        have hc := hn2 y.1
        refine ⟨by rw [hc.1]; exact plain_isPlain _ _, by omega, ?_⟩
        simp only [Int.toNat_natCast]
        rw [hlen, e1]
        refine (can_dig ?_).1.mpr (canW_le y.2.2.2 (hiQ_le _ _))
        rw [← e1]
        exact hc.2
      · have ho1 : isPlain o = true := hoi (by rw [hpl]; exact plain_isPlain _ _)
        have hc := hn2 ho1
        simp only [Int.toNat_natCast] at hp3 hms3 f3 hcan
        have hcd := can_dig (pl := pl) (v := N) (z := z.toNat) (x := L - 1 - i) (n := o.length) (by rw [← e1]; exact hc.2)
        rw [e1, hlen] at hcan hp3 hms3 f3
        rw [hcd.2] at hp3 hms3 f3
        have hl3 := mB_len oi (plain (resW pl N (hiQ z.toNat (L - 1 - i))) o.length) o.length
        have hk3 := mB_ok oi (plain (resW pl N (hiQ z.toNat (L - 1 - i))) o.length) o.length
        rw [← hms3] at hl3 hk3
        have hxS : ∀ y ∈ [x], y ∈ S' := fun y hy => by rw [List.mem_singleton.mp hy]; exact f'.pS
        have lg3 := LstAt.upt lg2 u3 (fun y => LstAt.nep lg2 f' (List.mem_singleton.mp y)) hxS
        have u4 : Up W S H0 S3 H3 := u3.drop u fun y hy => by rw [List.mem_singleton.mp hy]; exact hx
        refine lf_ext lg3 (by rw [List.length_map, List.length_map]; omega) fun H4 m4 g4 => ?_
        rw [← List.map_append] at g4
        refine ⟨⟨l3, ms ++ ms2, plain (resW pl N (hiQ z.toNat (L - 1 - i))) o.length, u.free hl3n, u4.drop m4 (fun y hy => by rw [List.mem_singleton.mp hy]; exact hg), ?_, plain_len _ _, g4, ?_, ?_, ?_, fun c => absurd (ho1.symm.trans c) (by decide), fun _ => ?_⟩, _, _, rfl⟩
        · exact FrameAt.md f3 m4 (fun y => LstAt.nep lg3 f3 (List.mem_singleton.mp y).symm) (fun y => LstAt.nn lg2 (by rw [← List.mem_singleton.mp y]; exact hl3n)) (fun y hy => by rw [List.mem_singleton.mp hy]; exact lg3.1)
        · rw [List.length_append]; omega
        · intro y hy
          rcases List.mem_append.mp hy with q | q
          · exact hok y q
          · exact hk3 y q
        · rw [pushes_app hpu]; exact hp3
        · rw [e2]
          exact ⟨rfl, hcd.1.mp hcan⟩
    · rintro δ' S' H' ⟨⟨l', ms, oi, nw, u, f', hlen, lg2, hml, hok, hpu, hn1, hn2⟩, x5, x6, rfl⟩
      walk_at "d"
      have ho1 : isPlain o = true := by
        cases q : isPlain o with
        | true => rfl
        | false => have := (hn1 q).1; omega
      have hc := hn2 ho1
      rw [Nat.sub_self, hiQ_zero] at hc
      have hfp := hf.up u
      refine sf_rods hfp f'.rl fun H3 m3 f3 => ?_
      walk_at "d"
      refine .inr ⟨g, _, rfl, LstAt.md lg2 m3 (fun y => LstAt.nep lg2 hfp (List.mem_singleton.mp y)) (fun y hy => by rw [List.mem_singleton.mp hy]; exact hfp.pS), h3 (hpq ho1).1 hn hzl hc.2 ms l' _ _ (by rw [← hc.1]; exact hpu) (by omega) hok ((UpT.refl.up u).mdt m3 fun y hy => .inl hy) nw (by rw [← hc.1]; exact f3)⟩
  · exact h2 (fun c => by omega) _ _ .refl
def fAddN (pl : Bool) (T : Txt w W mg) : Fs := fun ds S H Φ X => ∃ p z, ds = [.adr p, .int z] ∧ fWorked T [.adr p, .int z, .adr (if pl = true then T.aAdd else T.aTake)] S H Φ X
theorem sc_add : FnScope ["frame", "number"] ["frame", "number"] (defScope s_add) := ⟨rfl, rfl, rfl, by decide +kernel, rfl, by decide +kernel, by decide +kernel⟩
theorem ok_add {f : Addr} {fd : FuncData} (Fn : Fun W.K "add" "add" s_add f fd) (T : Txt w W mg) (G_worked : CalX P w W.K mg base 6 "worked" 3 (toSp W (fWorked T))) :
    FnOk P w W.K mg base (L2.CX P w) 7 f fd ["frame", "number"] (toSp W ((fAddN true) T)) := by
  have nd := sc_add.nd
  refine okD (kk := 6) Fn sc_add (fun ds S H Φ X h => by obtain ⟨p, z, rfl, h1⟩ := h; rfl) fun cdv A outer s H E hcd hr => ?_
  have hu := hr.units
  have hu1 := hu_of hr
  refine ⟨_, (pss_one (ps_ret (px_c G_worked hr (takes_of rfl rfl rfl rfl) (pa_cons (pv 0) (pa_cons (pv 1) (pa_cons (pe_glob (v := .ref T.aAdd) rfl T.f_add_digit rfl) pa_nil)))))), fun ds S H0 Φ X hF => ?_⟩
  obtain ⟨p, z, rfl, h1⟩ := hF
  walk_at "d"
  exact h1
theorem sc_take : FnScope ["frame", "number"] ["frame", "number"] (defScope s_take) := ⟨rfl, rfl, rfl, by decide +kernel, rfl, by decide +kernel, by decide +kernel⟩
theorem ok_take {f : Addr} {fd : FuncData} (Fn : Fun W.K "take" "take" s_take f fd) (T : Txt w W mg) (G_worked : CalX P w W.K mg base 6 "worked" 3 (toSp W (fWorked T))) :
    FnOk P w W.K mg base (L2.CX P w) 7 f fd ["frame", "number"] (toSp W ((fAddN false) T)) := by
  have nd := sc_take.nd
  refine okD (kk := 6) Fn sc_take (fun ds S H Φ X h => by obtain ⟨p, z, rfl, h1⟩ := h; rfl) fun cdv A outer s H E hcd hr => ?_
  have hu := hr.units
  have hu1 := hu_of hr
  refine ⟨_, (pss_one (ps_ret (px_c G_worked hr (takes_of rfl rfl rfl rfl) (pa_cons (pv 0) (pa_cons (pv 1) (pa_cons (pe_glob (v := .ref T.aTake) rfl T.f_take_digit rfl) pa_nil)))))), fun ds S H0 Φ X hF => ?_⟩
  obtain ⟨p, z, rfl, h1⟩ := hF
  walk_at "d"
  exact h1
def ruleW (a : Row) (d : Int) : Str := if d = 0 then "none" else if 5 * a.1 + a.2 + d < 10 then (if (5 * a.1 + a.2 + d) % 5 < a.2 then "five" else "plain") else if a.1 < (5 * a.1 + a.2 + d - 10) / 5 ∨ a.2 < (5 * a.1 + a.2 + d - 10) % 5 then "both" else "ten"
def fRule (T : Txt w W mg) : Fs := fun ds S H Φ X => ∃ p l k o r d, ds = [.adr p, .int r, .int d] ∧ FrameAt W T.CF S H p l k o ∧ o.length ≤ 15 ∧ (¬ (0 ≤ r ∧ r < o.length) → X (.ref T.xF) S H) ∧
  (0 ≤ r ∧ r < o.length → ¬ (isPlain o = true ∧ 0 ≤ d ∧ d ≤ 9) → X (.ref T.xS) S H) ∧ (0 ≤ r ∧ r < o.length → isPlain o = true → 0 ≤ d ∧ d ≤ 9 → Φ (.str (ruleW (at_ o r) d)) S H)
theorem sc_rule_of : FnScope ["frame", "rod", "digit", "above", "below", "whole", "rest"] ["frame", "rod", "digit"] (defScope s_rule_of) := ⟨rfl, rfl, rfl, by decide +kernel, rfl, by decide +kernel, by decide +kernel⟩
theorem ok_rule_of {f : Addr} {fd : FuncData} (Fn : Fun W.K "rule_of" "rule_of" s_rule_of f fd) (T : Txt w W mg) (G_Frame_check_rod : MetX P w W.K mg base 1 T.CF "check_rod" (toSp W (fCheck T))) (G_Frame_is_plain : MetX P w W.K mg base 1 T.CF "is_plain" (toSp W (fPlain T))) (G_Frame_beads : MetX P w W.K mg base 2 T.CF "beads" (toSp W (fBeads T))) (G_Frame_digit : MetX P w W.K mg base 3 T.CF "digit" (toSp W (fDigit T))) :
    FnOk P w W.K mg base (L2.CX P w) 4 f fd ["frame", "rod", "digit"] (toSp W (fRule T)) := by
  have nd := sc_rule_of.nd
  refine okD (kk := 3) Fn sc_rule_of (fun ds S H Φ X h => by obtain ⟨p, l, k, o, r, d, rfl, hf, ho, h1, h2, h3⟩ := h; rfl) fun cdv A outer s H E hcd hr => ?_
  have hu := hr.units
  have hu1 := hu_of hr
  refine ⟨_, (pss_cons (ps_expr (px_mt G_Frame_check_rod hr (takes_of rfl rfl rfl rfl) (pv 0) (pa_cons (pv 1) pa_nil)))
  (pss_cons (ps_if (PW.pt (pw_or (pt_not (pt_chain u_le u_le pe_int (pv 2) pe_int)) (pw_or1 (pt_not (pt_val (px_mt0 G_Frame_is_plain hr (takes_of rfl rfl rfl rfl) (pv 0) )))))) (pss_one (px_raise T.x_SumError (takes_of rfl rfl rfl rfl))) pss_nil)
  (pss_cons (ps_if (pt_cmpR (w_eq (K := W.K) rfl hu) (pv 2) pe_int (nomark _)) (pss_one (ps_ret pe_str)) pss_nil)
  (pss_cons (ps_asg (px_mt G_Frame_beads hr (takes_of rfl rfl rfl rfl) (pv 0) (pa_cons (pv 1) pa_nil)) (w_seq (K := W.K) (n := 2) rfl rfl (pgs_cons (pg_name (i := 3) nd rfl (Or.inl rfl)) (pgs_cons (pg_name (i := 4) nd rfl (Or.inl rfl)) pgs_nil))))
  (pss_cons (ps_set (i := 5) nd rfl (Or.inl rfl) (pe_op (w_add (K := W.K) rfl) (px_mt G_Frame_digit hr (takes_of rfl rfl rfl rfl) (pv 0) (pa_cons (pv 1) pa_nil)) (pv 2)))
  (pss_cons (ps_if (pt_cmpR (w_lt (K := W.K) rfl hu) (pv 5) pe_int (nomark _)) (pss_one (ps_ret (pe_ifExp (pt_cmpR (w_lt (K := W.K) rfl hu) (pe_op u_mod (pv 5) pe_int) (pv 4) (nomark _)) pe_str pe_str))) pss_nil)
  (pss_cons (ps_set (i := 6) nd rfl (Or.inl rfl) (pe_op u_sub (pv 5) pe_int))
  (pss_one (ps_ret (pe_ifExp (PW.pt (pw_or (pt_cmpR u_gt (pe_op u_div (pv 6) pe_int) (pv 3) (nomark _)) (pw_or1 (pt_cmpR u_gt (pe_op u_mod (pv 6) pe_int) (pv 4) (nomark _))))) pe_str pe_str)))))))))), fun ds S H0 Φ X hF => ?_⟩
  obtain ⟨p, l, k, o, r, d, rfl, hf, ho, h1, h2, h3⟩ := hF
  walk_at "da"
  refine ⟨p, l, k, o, r, rfl, hf, fun hr0 => ?_, h1⟩
  walk_at "da"
  · refine ⟨p, l, k, o, rfl, hf, ?_⟩
    walk_at "da"
    · rename_i hb
      exact h2 hr0 (fun z => by rw [z.1] at hb; cases hb)
    · rename_i hb hd
      have hpt : isPlain o = true := by
        cases e : isPlain o with
        | true => rfl
        | false => rw [e] at hb; cases hb
      have := h3 hr0 hpt (by omega)
      unfold ruleW at this
      rw [if_pos hd] at this
      exact this
    · rename_i hb hd
      have hpt : isPlain o = true := by
        cases e : isPlain o with
        | true => rfl
        | false => rw [e] at hb; cases hb
      have h3' := h3 hr0 hpt (by omega)
      unfold ruleW at h3'
      rw [if_neg hd] at h3'
      refine ⟨p, l, k, o, r, rfl, hf, fun _ => ?_, fun z => absurd hr0 z⟩
      walk_at "da"
      refine ⟨p, l, k, o, r, rfl, hf, fun _ => ?_, fun z => absurd hr0 z⟩
      walk_at "da"
      all_goals first
        | (rw [if_pos (by omega), if_pos (by omega)] at h3'; exact h3')
        | (rw [if_pos (by omega), if_neg (by omega)] at h3'; exact h3')
        | (rw [if_neg (by omega), if_pos (by omega)] at h3'; exact h3')
        | (rw [if_neg (by omega), if_neg (by omega)] at h3'; exact h3')
  · exact h2 hr0 (fun z => absurd z.2 (by omega))
  · exact h2 hr0 (fun z => absurd z.2 (by omega))
def goodL (n : Nat) : Int → List Int → Prop
  | _, [] => True
  | v, z :: zs => (0 ≤ v + z ∧ v + z < ((10 ^ n : Nat) : Int) ∧ -((10 ^ n : Nat) : Int) < z ∧ z < ((10 ^ n : Nat) : Int)) ∧ goodL n (v + z) zs
def lastL : Int → List Int → Int
  | v, [] => v
  | v, z :: zs => lastL (v + z) zs
def shownL : Int → List Int → List Int
  | _, [] => []
  | v, z :: zs => (v + z) :: shownL (v + z) zs
theorem lastL_snoc (z : Int) : ∀ (zs : List Int) (v : Int), lastL v (zs ++ [z]) = lastL v zs + z
  | [], _ => rfl
  | y :: zs, v => lastL_snoc z zs (v + y)
theorem shownL_snoc (z : Int) : ∀ (zs : List Int) (v : Int), shownL v (zs ++ [z]) = shownL v zs ++ [lastL v zs + z]
  | [], _ => rfl
  | y :: zs, v => congrArg (List.cons (v + y)) (shownL_snoc z zs (v + y))
theorem shownL_len : ∀ (zs : List Int) (v : Int), (shownL v zs).length = zs.length
  | [], _ => rfl
  | y :: zs, v => congrArg (· + 1) (shownL_len zs (v + y))
theorem goodL_snoc {n : Nat} (z : Int) : ∀ (zs : List Int) (v : Int), goodL n v (zs ++ [z]) ↔ goodL n v zs ∧ (0 ≤ lastL v zs + z ∧ lastL v zs + z < ((10 ^ n : Nat) : Int) ∧ -((10 ^ n : Nat) : Int) < z ∧ z < ((10 ^ n : Nat) : Int))
  | [], v => by
    show (_ ∧ True) ↔ (True ∧ _)
    exact ⟨fun h => ⟨trivial, h.1⟩, fun h => ⟨h.2, trivial⟩⟩
  | y :: zs, v => by
    show (_ ∧ goodL n (v + y) (zs ++ [z])) ↔ (_ ∧ goodL n (v + y) zs) ∧ _
    rw [goodL_snoc z zs (v + y)]
    exact ⟨fun h => ⟨⟨h.1, h.2.1⟩, h.2.2⟩, fun h => ⟨h.1.1, h.1.2, h.2⟩⟩
theorem goodL_pre {n : Nat} {ys : List Int} : ∀ {zs : List Int} {v : Int}, goodL n v (zs ++ ys) → goodL n v zs
  | [], _, _ => trivial
  | _ :: _, _, h => ⟨h.1, goodL_pre h.2⟩
theorem goodL_last {n : Nat} : ∀ {zs : List Int} {v : Int}, 0 ≤ v ∧ v < ((10 ^ n : Nat) : Int) → goodL n v zs → 0 ≤ lastL v zs ∧ lastL v zs < ((10 ^ n : Nat) : Int)
  | [], _, h, _ => h
  | z :: zs, v, _, h => goodL_last (zs := zs) (v := v + z) ⟨h.1.1, h.1.2.1⟩ h.2
theorem iw_ints {E : XK} {j : Nat} {δ : Dn} {xs : List Dv} {d : Dv} {X : Px} {Ψ : PhI} {S0 : List Addr} {H00 : Hp} (hδ : δ[j]? = some (some d)) (u : Up W S0 H00 S H) (hd : d = .lst xs ∨ ∃ a, d = .adr a ∧ LstAt W S0 H00 a xs) (q : ∀ st, (∀ S' H', Up W S0 H00 S' H' → st S' H') → Ψ xs st S H) : Iw W E (iAny W.K (tVar j)) δ S H Ψ X := by
  rcases hd with z | ⟨a, z, l⟩
  · exact iw_anyL (ew_var hδ ⟨_, z, q _ fun _ _ _ => trivial⟩)
  · exact iw_anyM (ew_var hδ ⟨a, xs, z, l.up u, q _ fun _ _ u2 => l.up u2⟩)
def fRunning (T : Txt w W mg) : Fs := fun ds S H Φ X => ∃ p l k o m N zs d, ds = [.adr p, d] ∧ (d = .lst (zs.map .int) ∨ ∃ a, d = .adr a ∧ LstAt W S H a (zs.map .int)) ∧ FrameAt W T.CF S H p l k o ∧ mostOf k = some m ∧ (1 ≤ o.length ∧ o.length ≤ 15) ∧ (o = plain N o.length ∧ N < 10 ^ o.length) ∧ (zs.length ≤ 100 ∧ ∀ z ∈ zs, -(10 ^ 29) < z ∧ z < 10 ^ 29) ∧
  (¬ goodL o.length (N : Int) zs → ∀ S' H', Up W S H S' H' → X (.ref T.xS) S' H') ∧
  (goodL o.length (N : Int) zs → ∀ l' S' H', UpT W [p] S H S' H' → FrameAt W T.CF S' H' p l' k (plain (lastL (N : Int) zs).toNat o.length) → Φ (.tup ((shownL (N : Int) zs).map .int)) S' H')
theorem sc_running : FnScope ["frame", "numbers", "other", "found", "number"] ["frame", "numbers"] (defScope s_running) := ⟨rfl, rfl, rfl, by decide +kernel, rfl, by decide +kernel, by decide +kernel⟩
theorem ok_running {f : Addr} {fd : FuncData} (Fn : Fun W.K "running" "running" s_running f fd) (T : Txt w W mg) (G_Frame_copied : MetX P w W.K mg base 3 T.CF "copied" (toSp W (fCopied T))) (G_add : CalX P w W.K mg base 7 "add" 2 (toSp W ((fAddN true) T))) (G_take : CalX P w W.K mg base 7 "take" 2 (toSp W ((fAddN false) T))) (G_Frame_value : MetX P w W.K mg base 4 T.CF "value" (toSp W (fValue T))) :
    FnOk P w W.K mg base (L2.CX P w) 8 f fd ["frame", "numbers"] (toSp W (fRunning T)) := by
  have nd := sc_running.nd
  refine okD (kk := 7) Fn sc_running (fun ds S H Φ X h => by obtain ⟨p, l, k, o, m, N, zs, d, rfl, hd, hf, hm, ho, ⟨hpl, hN⟩, hz, h2, h3⟩ := h; rfl) fun cdv A outer s H E hcd hr => ?_
  have hu := hr.units
  have hu1 := hu_of hr
  refine ⟨_, (pss_cons (ps_par (i := 2) (j := 3) (by rfl) nd rfl rfl (by decide) rfl rfl (pa_cons (px_mt0 G_Frame_copied hr (takes_of rfl rfl rfl rfl) (pv 0) ) (pa_cons (pe_lst pa_nil) pa_nil)) (by rfl))
  (pss_cons (ps_for (passes_of rfl) rfl (w_any (K := W.K) rfl (pv 1)) (pg_name (i := 4) nd rfl (Or.inl rfl)) (pss_cons (ps_if (pt_cmpR u_ge (pv 4) pe_int (nomark _)) (pss_one (ps_expr (px_c G_add hr (takes_of rfl rfl rfl rfl) (pa_cons (pv 2) (pa_cons (pv 4) pa_nil))))) (pss_one (ps_expr (px_c G_take hr (takes_of rfl rfl rfl rfl) (pa_cons (pv 2) (pa_cons (pe_op u_sub pe_int (pv 4)) pa_nil))))))
  (pss_one (ps_expr (w_bm (K := W.K) rfl PySem.F.plainAttrs_list PySem.F.slot_list_append PySem.F.type_list_append mt_append (pv 3) (pa_cons (px_mt0 G_Frame_value hr (takes_of rfl rfl rfl rfl) (pv 2) ) pa_nil))))))
  (pss_cons (w_sfld (K := W.K) rfl (pv 0) (w_fld (K := W.K) rfl (pv 2)))
  (pss_one (ps_ret (pe_callTy (w_tuple (K := W.K) rfl) (by rfl) T.z_tuple (by decide +kernel) (pa_cons (pv 3) pa_nil))))))), fun ds S H0 Φ X hF => ?_⟩
  obtain ⟨p, l, k, o, m, N, zs, d, rfl, hd, hf, hm, ho, ⟨hpl, hN⟩, hz, h2, h3⟩ := hF
  walk_at "da"
  refine ⟨p, l, k, o, m, rfl, hf, hm, ho, fun x l1 S1 H1 u1 f1 hx hl1 => ?_⟩
  walk_at "dm"
  refine ew_lstM ?_
  walk_at "dm"
  intro g H2 m2 hg0 ng lg
  have hg : H0 g = none := u1.free hg0
  walk_at "d"
  refine ⟨_, _, rfl, ?_⟩
  walk_at "d"
  have u2 : Up W S H0 (g :: S1) H2 := u1.trans (Up.cons m2 hg0)
  refine sw_forN (iw_ints rfl u2 hd fun st hst => ?_)
  have hNI : (0 : Int) ≤ N ∧ (N : Int) < ((10 ^ o.length : Nat) : Int) := ⟨by omega, by exact_mod_cast hN⟩
  refine loop_of (xs := zs) (D := Dv.int) (fun i δ' S' H' => (∃ l', Up W S H0 S' H' ∧ FrameAt W T.CF S' H' x l' k (plain (lastL (N : Int) (zs.take i)).toNat o.length) ∧ LstAt W S' H' g ((shownL (N : Int) (zs.take i)).map .int) ∧ goodL o.length (N : Int) (zs.take i)) ∧
        ∃ x4, δ' = [some (.adr p), some d, some (.adr x), some (.adr g), x4]) ?_ (fun _ _ _ _ h => let ⟨⟨_, u, _⟩, _⟩ := h; hst _ _ u) ?_ ?_
  · refine ⟨⟨l1, u2, ?_, lg, trivial⟩, _, rfl⟩
    show FrameAt W T.CF _ _ x l1 k (plain (N : Int).toNat o.length)
    rw [Int.toNat_natCast, ← hpl]
    exact f1.up (Up.cons m2 hg0)
  · rintro i z δ' S' H' hi ⟨⟨l', u, f', lg2, hgd⟩, x4, rfl⟩
    have hV := goodL_last hNI hgd
    obtain ⟨Vn, hVn⟩ := Int.eq_ofNat_of_zero_le hV.1
    have hgs := goodL_snoc (n := o.length) z (zs.take i) (N : Int)
    rw [← tk_snoc hi] at hgs
    have hls := lastL_snoc z (zs.take i) (N : Int)
    rw [← tk_snoc hi] at hls
    have hss := shownL_snoc z (zs.take i) (N : Int)
    rw [← tk_snoc hi] at hss
    have hgood : goodL o.length (N : Int) zs → goodL o.length (N : Int) (zs.take (i + 1)) := fun q => goodL_pre (ys := zs.drop (i + 1)) (by rw [List.take_append_drop]; exact q)
    have hzb := hz.2 z (List.mem_of_getElem? hi)
    have hi' : i < zs.length := (List.getElem?_eq_some_iff.mp hi).1
    rw [hVn] at hgs hls hss f' hV
    rw [Int.toNat_natCast] at f'
    have hVP : Vn < 10 ^ o.length := by have := hV.2; exact_mod_cast this
    have hxS : ∀ y ∈ [x], y ∈ S' := fun y hy => by rw [List.mem_singleton.mp hy]; exact f'.pS
    have hgx := LstAt.nep lg2 f'
    generalize hP : 10 ^ o.length = P at *
    have fin : ∀ (w : Nat) l2 S3 H3, (w : Int) = Vn + z → w < P → UpT W [x] S' H' S3 H3 → H' l2 = none → FrameAt W T.CF S3 H3 x l2 k (plain w o.length) → goodL o.length (N : Int) (zs.take (i + 1)) → ∀ Ψ : Ph, (∀ H4 l', Up W S H0 S3 H4 → FrameAt W T.CF S3 H4 x l' k (plain (lastL (N : Int) (zs.take (i + 1))).toNat o.length) → LstAt W S3 H4 g ((shownL (N : Int) (zs.take (i + 1))).map .int) → goodL o.length (N : Int) (zs.take (i + 1)) → Ψ .non S3 H4) →
        appB (W := W) (.adr g) [.int (val (plain w o.length))] Ψ S3 H3 := by
      intro w l2 S3 H3 hw hwP u3 nw3 f3 hq Ψ hΨ
      have lg3 := LstAt.upt lg2 u3 (fun y => hgx (List.mem_singleton.mp y)) hxS
      refine lf_app lg3 (by rw [List.length_map, shownL_len, List.length_take]; omega) fun H4 m4 g4 => ?_
      rw [plain_val o.length w (by rw [hP]; exact hwP), hw] at g4
      have u4 : Up W S H0 S3 H3 := u3.drop u fun y hy => by rw [List.mem_singleton.mp hy]; exact hx
      refine hΨ H4 l2 (u4.drop m4 fun y hy => by rw [List.mem_singleton.mp hy]; exact hg) ?_ ?_ hq
      · rw [hls, ← hw, Int.toNat_natCast]
        exact FrameAt.md f3 m4 (fun y => hgx (List.mem_singleton.mp y).symm) (fun y => LstAt.nn lg2 (by rw [← List.mem_singleton.mp y]; exact nw3)) (fun y hy => by rw [List.mem_singleton.mp hy]; exact lg3.1)
      · rw [hss, List.map_append]
        exact g4
    walk_at "da"
    · rename_i hb
      refine ⟨x, z, rfl, x, l', k, _, z, m, Vn, true, rfl, f', hm, by rw [plain_len]; exact ho, .inr ⟨by rw [plain_len], by rw [plain_len, hP]; exact hVP⟩, by omega, fun c S3 H3 u3 => h2 (fun q => c ⟨plain_isPlain _ _, by omega, ?_, ?_⟩) _ _ (u.trans u3), fun _ hz0 hzl hc ms l2 S3 H3 hpu hml hok u3 nw3 f3 => ?_⟩
      · have := (hgs.mp (hgood q)).2
        rw [plain_len, hP]
        omega
      · have := (hgs.mp (hgood q)).2
        unfold canW
        rw [plain_len, hP, if_pos rfl]
        omega
      · unfold canW at hc
        rw [plain_len, hP] at hzl hc
        rw [if_pos rfl] at hc
        unfold resW at f3
        rw [plain_len, if_pos rfl] at f3
        have lg3 := LstAt.upt lg2 u3 (fun y => hgx (List.mem_singleton.mp y)) hxS
        walk_at "d"
        refine ⟨x, l2, k, _, rfl, f3, by rw [plain_len]; exact ho.2, ?_⟩
        walk_at "d"
        refine fin (Vn + z.toNat) l2 S3 H3 (by omega) hc u3 nw3 f3 (hgs.mpr ⟨hgd, by omega⟩) _ fun H4 l4 u4 f4 g4 q4 => ?_
        exact ⟨⟨l4, u4, f4, g4, q4⟩, _, rfl⟩
    · rename_i hb
      refine ⟨x, _, rfl, x, l', k, _, _, m, Vn, false, rfl, f', hm, by rw [plain_len]; exact ho, .inr ⟨by rw [plain_len], by rw [plain_len, hP]; exact hVP⟩, by omega, fun c S3 H3 u3 => h2 (fun q => c ⟨plain_isPlain _ _, by omega, ?_, ?_⟩) _ _ (u.trans u3), fun _ hz0 hzl hc ms l2 S3 H3 hpu hml hok u3 nw3 f3 => ?_⟩
      · have := (hgs.mp (hgood q)).2
        rw [plain_len, hP]
        omega
      · have := (hgs.mp (hgood q)).2
        unfold canW
        rw [plain_len, if_neg (by decide)]
        omega
      · unfold canW at hc
        rw [plain_len, hP] at hzl
        rw [if_neg (by decide)] at hc
        unfold resW at f3
        rw [plain_len, if_neg (by decide)] at f3
        have lg3 := LstAt.upt lg2 u3 (fun y => hgx (List.mem_singleton.mp y)) hxS
        walk_at "d"
        refine ⟨x, l2, k, _, rfl, f3, by rw [plain_len]; exact ho.2, ?_⟩
        walk_at "d"
        refine fin (Vn - (0 - z).toNat) l2 S3 H3 (by omega) (by omega) u3 nw3 f3 (hgs.mpr ⟨hgd, by omega⟩) _ fun H4 l4 u4 f4 g4 q4 => ?_
        exact ⟨⟨l4, u4, f4, g4, q4⟩, _, rfl⟩
  · rintro δ' S' H' ⟨⟨l', u, f', lg2, hgd⟩, x4, rfl⟩
    rw [List.take_length] at f' lg2 hgd
    walk_at "d"
    have hfp := hf.up u
    refine sf_rods hfp f'.rl fun H3 m3 f3 => ?_
    walk_at "d"
    exact .inr ⟨g, _, rfl, LstAt.md lg2 m3 (fun y => LstAt.nep lg2 hfp (List.mem_singleton.mp y)) (fun y hy => by rw [List.mem_singleton.mp hy]; exact hfp.pS), h3 hgd l' _ _ ((UpT.refl.up u).mdt m3 fun y hy => .inl hy) f3⟩
theorem at_tp {o : List Row} {x : Nat} (h : x < o.length) : atI (o.map tpD) (x : Int) = some (.tup [.int (at_ o (x : Int)).1, .int (at_ o (x : Int)).2]) := by
  refine atI_nat ?_
  rw [List.getElem?_map, List.getElem?_eq_getElem h]
  unfold at_
  rw [List.getD_eq_getElem?_getD, Int.toNat_natCast, List.getElem?_eq_getElem h]
  rfl
theorem chg_law (a b : Row) (x : Int) : chg a x b.1 b.2 = (if (!decide (b.1 - a.1 = 0)) = true then [(x, ("five" : Str), b.1 - a.1)] else []) ++ (if (!decide (b.2 - a.2 = 0)) = true then [(x, ("one" : Str), b.2 - a.2)] else []) := by
  unfold chg
  congr 1
  · by_cases e : b.1 = a.1
    · have : b.1 - a.1 = 0 := by omega
      simp [e]
    · have : ¬ b.1 - a.1 = 0 := by omega
      simp [e, this]
  · by_cases e : b.2 = a.2
    · have : b.2 - a.2 = 0 := by omega
      simp [e]
    · have : ¬ b.2 - a.2 = 0 := by omega
      simp [e, this]
def fMovesL : Fs := fun ds S H Φ X => ∃ o o', ds = [.lst (o.map tpD), .lst (o'.map tpD)] ∧ o'.length = o.length ∧ o.length ≤ 15 ∧ Φ (.lst ((mB o o' o.length).map rwD)) S H
theorem sc__law_moves : FnScope ["before", "behind", "found", "rod", "fives", "ones"] ["before", "behind"] (defScope s__law_moves) := ⟨rfl, rfl, rfl, by decide +kernel, rfl, by decide +kernel, by decide +kernel⟩
theorem ok__law_moves {f : Addr} {fd : FuncData} (Fn : Fun W.K "_law_moves" "_law_moves" s__law_moves f fd) (T : Txt w W mg)  :
    FnOk P w W.K mg base (L2.CX P w) 1 f fd ["before", "behind"] (toSp W (fMovesL)) := by
  have nd := sc__law_moves.nd
  refine okD (kk := 0) Fn sc__law_moves (fun ds S H Φ X h => by obtain ⟨o, o', rfl, hl, ho, h1⟩ := h; rfl) fun cdv A outer s H E hcd hr => ?_
  have hu := hr.units
  have hu1 := hu_of hr
  refine ⟨_, (pss_cons (ps_set (i := 2) nd rfl (Or.inl rfl) (pe_lst pa_nil))
  (pss_cons (ps_for (passes_of rfl) rfl (pi_range3 (by rfl) T.z_range (pa_cons (pe_op u_sub (pe_callB (w_len (K := W.K) rfl) (by rfl) T.z_len (by decide +kernel) (pa_cons (pv 0) pa_nil)) pe_int) (pa_cons (pe_un un_neg pe_int) (pa_cons (pe_un un_neg pe_int) pa_nil)))) (pg_name (i := 3) nd rfl (Or.inl rfl)) (pss_cons (ps_par (i := 4) (j := 5) (by rfl) nd rfl rfl (by decide) rfl rfl (pa_cons (pe_op u_sub (pe_ix (w_ix (K := W.K) rfl) (pe_ix (w_ix (K := W.K) rfl) (pv 1) (pv 3) (fun _ _ => rfl)) pe_int (fun _ _ => rfl)) (pe_ix (w_ix (K := W.K) rfl) (pe_ix (w_ix (K := W.K) rfl) (pv 0) (pv 3) (fun _ _ => rfl)) pe_int (fun _ _ => rfl))) (pa_cons (pe_op u_sub (pe_ix (w_ix (K := W.K) rfl) (pe_ix (w_ix (K := W.K) rfl) (pv 1) (pv 3) (fun _ _ => rfl)) pe_int (fun _ _ => rfl)) (pe_ix (w_ix (K := W.K) rfl) (pe_ix (w_ix (K := W.K) rfl) (pv 0) (pv 3) (fun _ _ => rfl)) pe_int (fun _ _ => rfl))) pa_nil)) (by rfl))
  (pss_one (ps_set (i := 2) nd rfl (Or.inl rfl) (pe_op (w_add (K := W.K) rfl) (pe_op (w_add (K := W.K) rfl) (pv 2) (pe_op u_mul (pe_lst (pa_cons (pe_tup (pa_cons (pv 3) (pa_cons pe_str (pa_cons (pv 4) pa_nil)))) pa_nil)) (pe_callTy c_int (by rfl) T.z_int (by decide +kernel) (pa_cons (pe_cmpR (w_ne (K := W.K) rfl hu) (pv 4) pe_int (nomark _)) pa_nil)))) (pe_op u_mul (pe_lst (pa_cons (pe_tup (pa_cons (pv 3) (pa_cons pe_str (pa_cons (pv 5) pa_nil)))) pa_nil)) (pe_callTy c_int (by rfl) T.z_int (by decide +kernel) (pa_cons (pe_cmpR (w_ne (K := W.K) rfl hu) (pv 5) pe_int (nomark _)) pa_nil))))))))
  (pss_one (ps_ret (pv 2))))), fun ds S H0 Φ X hF => ?_⟩
  obtain ⟨o, o', rfl, hl, ho, h1⟩ := hF
  walk_at "d"
  refine sw_forN ?_
  walk_at "d"
  refine lf_len_lst ?_
  rw [List.length_map]
  walk_at "d"
  refine lf_rngD (n := o.length) rfl rfl rfl (by omega) ?_
  refine loop_rng (fun i δ S' H' => S' = S ∧ H' = H0 ∧ ∃ ms x3 x4 x5, ms ++ mB o o' (o.length - i) = mB o o' o.length ∧ δ = [some (.lst (o.map tpD)), some (.lst (o'.map tpD)), some (.lst (ms.map rwD)), x3, x4, x5]) ⟨rfl, rfl, [], none, none, none, rfl, rfl⟩ ?_ ?_
  · rintro i δ' S' H' hi ⟨rfl, rfl, ms, x3, x4, x5, hms, rfl⟩
    have er : (o.length : Int) - 1 - (i : Int) = ((o.length - 1 - i : Nat) : Int) := by omega
    rw [er]
    have hx : o.length - 1 - i < o.length := by omega
    have hx' : o.length - 1 - i < o'.length := by omega
    have a1 := at_tp hx
    have a2 := at_tp hx'
    generalize hxx : o.length - 1 - i = x at *
    walk_at "d"
    refine lf_ix_lst a2 ?_
    walk_at "d"
    refine lf_ix_lst a1 ?_
    walk_at "d"
    refine lf_ix_lst a2 ?_
    walk_at "d"
    refine lf_ix_lst a1 ?_
    walk_at "d"
    refine ⟨_, _, rfl, ?_⟩
    walk_at "d"
    have hm1 := mB_len o o' o.length
    have hc : mB o o' (x + 1) = chg (at_ o (x : Int)) (x : Int) (at_ o' (x : Int)).1 (at_ o' (x : Int)).2 ++ mB o o' x := rfl
    have e1 : o.length - i = x + 1 := by omega
    have e2 : o.length - (i + 1) = x := by omega
    rw [e1, hc] at hms
    rw [← hms, List.length_append, List.length_append] at hm1
    rw [chg_law] at hms hm1
    rw [List.length_append] at hm1
    have i1 := ite_map rwD ((!decide ((at_ o' (x : Int)).1 - (at_ o (x : Int)).1 = 0)) = true) ((x : Int), ("five" : Str), (at_ o' (x : Int)).1 - (at_ o (x : Int)).1)
    have i2 := ite_map rwD ((!decide ((at_ o' (x : Int)).2 - (at_ o (x : Int)).2 = 0)) = true) ((x : Int), ("one" : Str), (at_ o' (x : Int)).2 - (at_ o (x : Int)).2)
    refine lf_mul_b ?_
    walk_at "d"
    rw [← i1]
    refine lf_add_lst (Nat.le_trans (show _ ≤ 1000 by rw [List.length_map, List.length_map]; omega) (by decide)) ?_
    walk_at "d"
    refine lf_mul_b ?_
    walk_at "d"
    rw [← i2, ← List.map_append]
    refine lf_add_lst (Nat.le_trans (show _ ≤ 1000 by rw [List.length_map, List.length_map, List.length_append]; omega) (by decide)) ?_
    rw [← List.map_append]
    refine ⟨rfl, rfl, _, _, _, _, ?_, rfl⟩
    rw [e2, List.append_assoc, List.append_assoc]
    rw [List.append_assoc] at hms
    exact hms
  · rintro δ' S' H' ⟨rfl, rfl, ms, x3, x4, x5, hms, rfl⟩
    walk_at "d"
    have e : mB o o' (o.length - o.length) = [] := by rw [Nat.sub_self]; rfl
    rw [e, List.append_nil] at hms
    rw [hms]
    exact h1
theorem of14 : mostOf "one-four" = some (1, 4) := by decide +kernel
theorem of25 : mostOf "two-five" = some (2, 5) := by decide +kernel
section
variable {T : Txt w W mg} {pl : Bool} {m : Row} {N : Nat} {r d z : Int} {Ψ : Ph} {Y : Px}
theorem dig_badF (f : FrameAt W T.CF S H p l k o) (hm : mostOf k = some m) (ho : 1 ≤ o.length ∧ o.length ≤ 15) (hp : isPlain o = false ∨ o = plain N o.length ∧ N < 10 ^ o.length) (hr : ¬ (0 ≤ r ∧ r < o.length)) (q : Y (.ref T.xF) S H) : fDig pl T [.adr p, .int r, .int d] S H Ψ Y :=
  ⟨p, l, k, o, r, d, m, N, rfl, f, hm, ho, hp, fun _ => q, fun c => absurd c hr, fun c => absurd c hr⟩
theorem dig_badS (f : FrameAt W T.CF S H p l k o) (hm : mostOf k = some m) (ho : 1 ≤ o.length ∧ o.length ≤ 15) (hp : isPlain o = false ∨ o = plain N o.length ∧ N < 10 ^ o.length) (hr : 0 ≤ r ∧ r < o.length) (h : ¬ (isPlain o = true ∧ (0 ≤ d ∧ d ≤ 9) ∧ can pl N d.toNat r.toNat o.length)) (q : ∀ S' H', Up W S H S' H' → Y (.ref T.xS) S' H') : fDig pl T [.adr p, .int r, .int d] S H Ψ Y :=
  ⟨p, l, k, o, r, d, m, N, rfl, f, hm, ho, hp, fun c => absurd hr c, fun _ _ => q, fun _ e hd hc => absurd ⟨by rw [e]; exact plain_isPlain _ _, hd, hc⟩ h⟩
theorem wk_bad (f : FrameAt W T.CF S H p l k o) (hm : mostOf k = some m) (ho : 1 ≤ o.length ∧ o.length ≤ 15) (hp : isPlain o = false ∨ o = plain N o.length ∧ N < 10 ^ o.length) (hz : -(10 ^ 30) < z ∧ z < 10 ^ 30) (h : ¬ (isPlain o = true ∧ 0 ≤ z ∧ z.toNat < 10 ^ o.length ∧ canW pl N z.toNat o.length)) (q : ∀ S' H', Up W S H S' H' → Y (.ref T.xS) S' H') :
    fWorked T [.adr p, .int z, .adr (if pl = true then T.aAdd else T.aTake)] S H Ψ Y :=
  ⟨p, l, k, o, z, m, N, pl, rfl, f, hm, ho, hp, hz, fun _ => q, fun e hz1 hz2 hc => absurd ⟨by rw [e]; exact plain_isPlain _ _, hz1, hz2, hc⟩ h⟩
end
def fEnds (T : Txt w W mg) : Fs := fun ds S H Φ X => ds = [] ∧ ∀ S' H', Up W S H S' H' → Φ (.bl true) S' H'
theorem sc__law_ends : FnScope ["bad", "frame", "wild", "f"] [] (defScope s__law_ends) := ⟨rfl, rfl, rfl, by decide +kernel, rfl, by decide +kernel, by decide +kernel⟩
theorem ok__law_ends {f : Addr} {fd : FuncData} (Fn : Fun W.K "_law_ends" "_law_ends" s__law_ends f fd) (T : Txt w W mg) (G_k_Frame : MakX P w W.K mg base 1 "Frame" T.CF (toSp W (fInit T))) (G_Frame_put : MetX P w W.K mg base 2 T.CF "put" (toSp W (fPut T))) (G_add_digit : CalX P w W.K mg base 5 "add_digit" 3 (toSp W ((fDig true) T))) (G_take_digit : CalX P w W.K mg base 5 "take_digit" 3 (toSp W ((fDig false) T))) (G_add : CalX P w W.K mg base 7 "add" 2 (toSp W ((fAddN true) T))) (G_take : CalX P w W.K mg base 7 "take" 2 (toSp W ((fAddN false) T))) (G_rule_of : CalX P w W.K mg base 4 "rule_of" 3 (toSp W (fRule T))) (G_running : CalX P w W.K mg base 8 "running" 2 (toSp W (fRunning T))) (G_worked : CalX P w W.K mg base 6 "worked" 3 (toSp W (fWorked T))) (G_Frame_value : MetX P w W.K mg base 4 T.CF "value" (toSp W (fValue T))) (G_Frame_show : MetX P w W.K mg base 4 T.CF "show" (toSp W (fShow T))) {cT Pt : Addr} (hcT : fd.code = .ref cT) (TBL : LamX.TabB base mg cT Pt) (hTL : (Pt, (("_law_ends" : Str) ++ ".<locals>.") ++ "<lambda>") ∈ W.TL ∧ ∀ p ∈ W.TL, p.1 = Pt → p.2 = (("_law_ends" : Str) ++ ".<locals>.") ++ "<lambda>") (hTG : Pt ∉ W.TG) :
    FnOk P w W.K mg base (L2.CX P w) 11 f fd [] (toSp W (fEnds T)) := by
  have nd := sc__law_ends.nd
  refine okD2 (kk := 10) Fn hcT sc__law_ends (fun ds S H Φ X h => by obtain ⟨rfl, h1⟩ := h; rfl) fun A outer s H E hr => ?_
  have hu := hr.units
  have hu1 := hu_of hr
  refine ⟨_, (pss_cons (ps_asg (pe_tup (pa_cons (px_mk G_k_Frame hr (takes_of rfl rfl rfl rfl) (pa_cons pe_str (pa_cons pe_int pa_nil))) (pa_cons (px_mk G_k_Frame hr (takes_of rfl rfl rfl rfl) (pa_cons pe_str (pa_cons pe_int pa_nil))) pa_nil))) (w_seq (K := W.K) (n := 2) rfl rfl (pgs_cons (pg_name (i := 1) nd rfl (Or.inr rfl)) (pgs_cons (pg_name (i := 2) nd rfl (Or.inr rfl)) pgs_nil))))
  (pss_cons (ps_expr (px_mt G_Frame_put hr (takes_of rfl rfl rfl rfl) (pv 2) (pa_cons pe_int (pa_cons pe_int (pa_cons pe_int pa_nil)))))
  (pss_cons (ps_set (i := 0) nd rfl (Or.inl rfl) (pe_lst (pa_cons (Lm.pe_lamV (k := 8) TBL rfl rfl ⟨LamX.lamS_by (sc := defScope s__law_ends) (by decide +kernel), fun _ _ _ _ _ => rfl, fun A outer s H E f c' hr => (px_c G_add_digit hr (takes_of rfl rfl rfl rfl) (pa_cons (pv 1) (pa_cons pe_int (pa_cons pe_int pa_nil))))⟩) (pa_cons (Lm.pe_lamV (k := 8) TBL rfl rfl ⟨LamX.lamS_by (sc := defScope s__law_ends) (by decide +kernel), fun _ _ _ _ _ => rfl, fun A outer s H E f c' hr => (px_c G_add_digit hr (takes_of rfl rfl rfl rfl) (pa_cons (pv 1) (pa_cons pe_int (pa_cons pe_int pa_nil))))⟩) (pa_cons (Lm.pe_lamV (k := 8) TBL rfl rfl ⟨LamX.lamS_by (sc := defScope s__law_ends) (by decide +kernel), fun _ _ _ _ _ => rfl, fun A outer s H E f c' hr => (px_c G_add_digit hr (takes_of rfl rfl rfl rfl) (pa_cons (pv 1) (pa_cons pe_int (pa_cons (pe_un un_neg pe_int) pa_nil))))⟩) (pa_cons (Lm.pe_lamV (k := 8) TBL rfl rfl ⟨LamX.lamS_by (sc := defScope s__law_ends) (by decide +kernel), fun _ _ _ _ _ => rfl, fun A outer s H E f c' hr => (px_c G_add_digit hr (takes_of rfl rfl rfl rfl) (pa_cons (pv 2) (pa_cons pe_int (pa_cons pe_int pa_nil))))⟩) (pa_cons (Lm.pe_lamV (k := 8) TBL rfl rfl ⟨LamX.lamS_by (sc := defScope s__law_ends) (by decide +kernel), fun _ _ _ _ _ => rfl, fun A outer s H E f c' hr => (px_c G_take_digit hr (takes_of rfl rfl rfl rfl) (pa_cons (pv 1) (pa_cons pe_int (pa_cons pe_int pa_nil))))⟩) (pa_cons (Lm.pe_lamV (k := 8) TBL rfl rfl ⟨LamX.lamS_by (sc := defScope s__law_ends) (by decide +kernel), fun _ _ _ _ _ => rfl, fun A outer s H E f c' hr => (px_c G_take_digit hr (takes_of rfl rfl rfl rfl) (pa_cons (pv 2) (pa_cons pe_int (pa_cons pe_int pa_nil))))⟩) (pa_cons (Lm.pe_lamV (k := 8) TBL rfl rfl ⟨LamX.lamS_by (sc := defScope s__law_ends) (by decide +kernel), fun _ _ _ _ _ => rfl, fun A outer s H E f c' hr => (px_c G_take_digit hr (takes_of rfl rfl rfl rfl) (pa_cons (pv 1) (pa_cons pe_int (pa_cons pe_int pa_nil))))⟩) (pa_cons (Lm.pe_lamV (k := 8) TBL rfl rfl ⟨LamX.lamS_by (sc := defScope s__law_ends) (by decide +kernel), fun _ _ _ _ _ => rfl, fun A outer s H E f c' hr => (px_c G_add hr (takes_of rfl rfl rfl rfl) (pa_cons (pv 1) (pa_cons (pe_un un_neg pe_int) pa_nil)))⟩) (pa_cons (Lm.pe_lamV (k := 8) TBL rfl rfl ⟨LamX.lamS_by (sc := defScope s__law_ends) (by decide +kernel), fun _ _ _ _ _ => rfl, fun A outer s H E f c' hr => (px_c G_add hr (takes_of rfl rfl rfl rfl) (pa_cons (pv 1) (pa_cons pe_int pa_nil)))⟩) (pa_cons (Lm.pe_lamV (k := 8) TBL rfl rfl ⟨LamX.lamS_by (sc := defScope s__law_ends) (by decide +kernel), fun _ _ _ _ _ => rfl, fun A outer s H E f c' hr => (px_c G_take hr (takes_of rfl rfl rfl rfl) (pa_cons (pv 1) (pa_cons pe_int pa_nil)))⟩) (pa_cons (Lm.pe_lamV (k := 8) TBL rfl rfl ⟨LamX.lamS_by (sc := defScope s__law_ends) (by decide +kernel), fun _ _ _ _ _ => rfl, fun A outer s H E f c' hr => (px_c G_rule_of hr (takes_of rfl rfl rfl rfl) (pa_cons (pv 1) (pa_cons pe_int (pa_cons pe_int pa_nil))))⟩) (pa_cons (Lm.pe_lamV (k := 8) TBL rfl rfl ⟨LamX.lamS_by (sc := defScope s__law_ends) (by decide +kernel), fun _ _ _ _ _ => rfl, fun A outer s H E f c' hr => (px_c G_rule_of hr (takes_of rfl rfl rfl rfl) (pa_cons (pv 2) (pa_cons pe_int (pa_cons pe_int pa_nil))))⟩) (pa_cons (Lm.pe_lamV (k := 8) TBL rfl rfl ⟨LamX.lamS_by (sc := defScope s__law_ends) (by decide +kernel), fun _ _ _ _ _ => rfl, fun A outer s H E f c' hr => (px_c G_rule_of hr (takes_of rfl rfl rfl rfl) (pa_cons (pv 1) (pa_cons pe_int (pa_cons pe_int pa_nil))))⟩) (pa_cons (Lm.pe_lamV (k := 8) TBL rfl rfl ⟨LamX.lamS_by (sc := defScope s__law_ends) (by decide +kernel), fun _ _ _ _ _ => rfl, fun A outer s H E f c' hr => (px_c G_running hr (takes_of rfl rfl rfl rfl) (pa_cons (pv 1) (pa_cons (pe_lst (pa_cons pe_int (pa_cons pe_int pa_nil))) pa_nil)))⟩) (pa_cons (Lm.pe_lamV (k := 8) TBL rfl rfl ⟨LamX.lamS_by (sc := defScope s__law_ends) (by decide +kernel), fun _ _ _ _ _ => rfl, fun A outer s H E f c' hr => (px_c G_worked hr (takes_of rfl rfl rfl rfl) (pa_cons (pv 1) (pa_cons pe_int (pa_cons (pe_glob (v := .ref T.aAdd) rfl T.f_add_digit rfl) pa_nil))))⟩) pa_nil)))))))))))))))))
  (pss_cons (ps_if (PW.pt (pw_or (pt_cmpR (w_ne (K := W.K) rfl hu) (Lm.pe_bad (K := W.K) (kk := 0) (ib := 0) (iv := 3) rfl rfl nd hr hu T.told (pv 0) (blkOk_by (by rfl)) (fun _ _ _ _ _ => (by rfl)) (fun _ _ _ _ _ => (pv 3)) (fun _ _ _ _ _ => (pg_name (i := 3) nd rfl (Or.inl rfl)))) (pe_lst pa_nil) (nomark _)) (pw_or (pt_cmpR (w_ne (K := W.K) rfl hu) (px_mt0 G_Frame_value hr (takes_of rfl rfl rfl rfl) (pv 1) ) pe_int (nomark _)) (pw_or1 (pt_cmpR (w_ne (K := W.K) rfl hu) (px_mt0 G_Frame_value hr (takes_of rfl rfl rfl rfl) (pv 2) ) pe_int (nomark _)))))) (pss_one (ps_ret pe_bl)) pss_nil)
  (pss_cons (ps_expr (px_mt G_Frame_show hr (takes_of rfl rfl rfl rfl) (pv 1) (pa_cons pe_int pa_nil)))
  (pss_one (ps_ret (pe_and (pe_cmpR (w_eq (K := W.K) rfl hu) (Lm.pe_toldV T.told (by rfl) hr (Lm.pe_lamV (k := 8) TBL rfl rfl ⟨LamX.lamS_by (sc := defScope s__law_ends) (by decide +kernel), fun _ _ _ _ _ => rfl, fun A outer s H E f c' hr => (px_c G_add_digit hr (takes_of rfl rfl rfl rfl) (pa_cons (pv 1) (pa_cons pe_int (pa_cons pe_int pa_nil))))⟩)) pe_str (nomark _)) (pe_and (pe_cmpR (w_eq (K := W.K) rfl hu) (px_mt0 G_Frame_value hr (takes_of rfl rfl rfl rfl) (pv 1) ) pe_int (nomark _)) (pe_and (pe_cmpR (w_eq (K := W.K) rfl hu) (px_c G_running hr (takes_of rfl rfl rfl rfl) (pa_cons (pv 1) (pa_cons (pe_lst (pa_cons (pe_un un_neg pe_int) (pa_cons pe_int pa_nil))) pa_nil))) (pe_tup (pa_cons pe_int (pa_cons pe_int pa_nil))) (nomark _)) (pe_and (pe_cmpR (w_eq (K := W.K) rfl hu) (px_c G_rule_of hr (takes_of rfl rfl rfl rfl) (pa_cons (pv 1) (pa_cons pe_int (pa_cons pe_int pa_nil)))) pe_str (nomark _)) (pe_and (pe_cmpR (w_eq (K := W.K) rfl hu) (px_c G_rule_of hr (takes_of rfl rfl rfl rfl) (pa_cons (pv 1) (pa_cons pe_int (pa_cons pe_int pa_nil)))) pe_str (nomark _)) (pe_and (pe_cmpR (w_eq (K := W.K) rfl hu) (px_c G_rule_of hr (takes_of rfl rfl rfl rfl) (pa_cons (pv 1) (pa_cons pe_int (pa_cons pe_int pa_nil)))) pe_str (nomark _)) (pe_one (pe_cmpR (w_eq (K := W.K) rfl hu) (px_c G_rule_of hr (takes_of rfl rfl rfl rfl) (pa_cons (pv 1) (pa_cons pe_int (pa_cons pe_int pa_nil)))) pe_str (nomark _)))))))))))))))), fun ds S H0 Φ X hF => ?_⟩
  obtain ⟨rfl, h1⟩ := hF
  walk_at "sw"
  walk_at "sw"
  walk_at "dx"
  refine mk_fr (n := 2) of14 (by decide) fun x l H1 u1 f1 hx hl => ?_
  walk_at "dx"
  refine mk_fr (n := 2) of25 (by decide) fun y ly H2 u2 f2 hy hly => ?_
  walk_at "dx"
  walk_at "sw"
  walk_at "sw"
  walk_at "dx"
  have f2w := f2
  refine ⟨y, ly, _, _, 0, 2, 0, _, rfl, f2, of25, fun _ _ H3 m3 f3 => ?_, fun z => absurd (by decide) z⟩
  have fx := f1.up u2
  have hly1 : l ≠ ly := fun z => (FrameAt.nn f1).2 (by rw [z]; exact hly)
  have hlx : x ≠ ly := fun z => (FrameAt.nn f1).1 (by rw [z]; exact hly)
  have f1' := FrameAt.md fx m3 (fun z => hlx (List.mem_singleton.mp z)) (fun z => hly1 (List.mem_singleton.mp z)) (fun a ha => by rw [List.mem_singleton.mp ha]; exact f2.rl.1)
  have u3 : Up W S H0 _ H3 := (u1.trans u2).drop m3 fun a ha => by rw [List.mem_singleton.mp ha]; exact u1.free hly
  walk_at "sw"
  walk_at "sw"
  have g1 := hTL.1
  have g2 := hTL.2
  refine ew_lst ?_
  refine Lm.aw_lamA g1 g2 hTG .refl .nil fun F1 H2 m2 hL => ?_
  iterate 14 (refine Lm.aw_lamA g1 g2 hTG m2 hL fun F H2 m2 hL => ?_)
  refine aw_nil ⟨by show 15 ≤ sizeLine; decide, ?_⟩
  have f4 := f1'.up (Up.of m2)
  have w4 := f3.up (Up.of m2)
  clear g1 g2
  have p0 : List.replicate (Int.toNat 2) ((0 : Int), (0 : Int)) = plain 0 2 := by decide +kernel
  rw [p0] at f4
  have hP : isPlain (plain 0 2) = false ∨ plain 0 2 = plain 0 (plain 0 2).length ∧ 0 < 10 ^ (plain 0 2).length := .inr ⟨by rw [plain_len], by rw [plain_len]; decide⟩
  have o2 : 1 ≤ (plain 0 2).length ∧ (plain 0 2).length ≤ 15 := by rw [plain_len]; decide
  have wP : isPlain ((List.replicate (Int.toNat 2) ((0 : Int), (0 : Int))).set (Int.toNat 0) (2, 0)) = false := by decide +kernel
  walk_at "dn"
  refine ew_op dNe ?_
  refine Lm.ew_bad rfl rfl (by show 3 < 4; decide) (by decide +kernel) hL ?_ ?_
  · have bad : ∀ {S5 : List Addr} {H5 : Hp}, ∀ S' H', Up W S5 H5 S' H' → PySem.W.exmOne W.K (.ref T.xS) (.ref T.xA) = some true ∧ Md W [] H5 H' ∧ ∀ a ∈ S5, a ∈ S' := fun S' H' u => ⟨T.exS, u.md, u.sub⟩
    have badF : ∀ {S' : List Addr} {H' : Hp}, PySem.W.exmOne W.K (.ref T.xF) (.ref T.xA) = some true ∧ Md W [] H' H' ∧ ∀ a ∈ S', a ∈ S' := fun {S' H'} => ⟨T.exF, .refl, fun _ h => h⟩
    have badS0 : ∀ {S' : List Addr} {H' : Hp}, PySem.W.exmOne W.K (.ref T.xS) (.ref T.xA) = some true ∧ Md W [] H' H' ∧ ∀ a ∈ S', a ∈ S' := fun {S' H'} => ⟨T.exS, .refl, fun _ h => h⟩
    repeat refine Lm.all_snoc ?_ ?_
    · exact Lm.all_none
    all_goals intro E' S5 H5 u
    all_goals have f5 := f4.up u
    all_goals have w5 := w4.up u
    all_goals walk_at "d"
    · exact dig_badF f5 of14 o2 hP (by decide) badF
    · exact dig_badS f5 of14 o2 hP (by decide) (fun z => absurd z.2.1 (by decide)) bad
    · exact dig_badS f5 of14 o2 hP (by decide) (fun z => absurd z.2.1 (by decide)) bad
    · exact dig_badS (N := 0) w5 of25 (by decide) (.inl wP) (by decide) (fun z => absurd z.1 (by rw [wP]; decide)) bad
    · exact dig_badS f5 of14 o2 hP (by decide) (fun z => absurd z.2.2 (by unfold can; decide)) bad
    · exact dig_badS (N := 0) w5 of25 (by decide) (.inl wP) (by decide) (fun z => absurd z.1 (by rw [wP]; decide)) bad
    · exact dig_badS f5 of14 o2 hP (by decide) (fun z => absurd z.2.1 (by decide)) bad
    · exact ⟨x, _, rfl, wk_bad f5 of14 o2 hP (by decide) (fun z => absurd z.2.1 (by decide)) bad⟩
    · exact ⟨x, _, rfl, wk_bad f5 of14 o2 hP (by decide) (fun z => absurd z.2.2.1 (by decide)) bad⟩
    · exact ⟨x, _, rfl, wk_bad f5 of14 o2 hP (by decide) (fun z => absurd z.2.2.2 (by unfold canW; decide)) bad⟩
    · exact ⟨x, l, _, _, _, _, rfl, f5, o2.2, fun z => absurd (by decide) z, fun _ _ => badS0, fun _ _ z => absurd z (by decide)⟩
    · exact ⟨y, ly, _, _, _, _, rfl, w5, by decide, fun z => absurd (by decide) z, fun _ _ => badS0, fun _ z => absurd z (by rw [wP]; decide)⟩
    · exact ⟨x, l, _, _, _, _, rfl, f5, o2.2, fun _ => badF, fun z => absurd z (by decide), fun z => absurd z (by decide)⟩
    · refine ⟨x, l, _, _, _, 0, [50, 50], _, rfl, .inl rfl, f5, of14, o2, (hP.resolve_left (by rw [plain_isPlain]; decide)), ⟨by decide, by decide⟩, fun _ => bad, fun z => absurd z.2.1.2.1 (by decide)⟩
    · exact wk_bad (pl := true) f5 of14 o2 hP (by decide) (fun z => absurd z.2.2.1 (by decide)) bad
  walk_at "dn"
  refine lf_ne_no (x := .lst []) (by decide +kernel) ?_
  walk_at "dn"
  refine ew_op dNe ?_
  walk_at "dn"
  refine ⟨x, l, _, _, rfl, f4, o2.2, ?_⟩
  have v0 : val (plain 0 2) = 0 := by decide +kernel
  rw [v0]
  walk_at "dn"
  refine ⟨fun _ => ?_, fun z => absurd z (by decide)⟩
  walk_at "dn"
  refine ew_op dNe ?_
  walk_at "dn"
  refine ⟨y, ly, _, _, rfl, w4, by decide, ?_⟩
  have v1 : val ((List.replicate (Int.toNat 2) ((0 : Int), (0 : Int))).set (Int.toNat 0) (2, 0)) = 10 := by decide +kernel
  rw [v1]
  walk_at "dn"
  refine ⟨fun z => absurd z (by decide), fun _ => ?_⟩
  walk_at "dn"
  refine ⟨x, l, _, _, _, 99, rfl, f4, of14, o2.2, by decide, fun z => absurd z (by rw [plain_len]; decide +kernel), fun _ _ H6 m6 f6 => ?_⟩
  have p9 : plain (Int.toNat 99) (plain 0 2).length = plain 99 2 := by rw [plain_len]; rfl
  rw [p9] at f6
  have u4 := u3.trans (Up.of m2)
  have u6 := u4.drop m6 fun a ha => by rw [List.mem_singleton.mp ha]; exact hl
  have h9 : isPlain (plain 99 2) = false ∨ plain 99 2 = plain 99 (plain 99 2).length ∧ 99 < 10 ^ (plain 99 2).length := .inr ⟨by rw [plain_len], by rw [plain_len]; decide⟩
  have o9 : 1 ≤ (plain 99 2).length ∧ (plain 99 2).length ≤ 15 := by rw [plain_len]; decide
  walk_at "dn"
  refine ew_op dEq ?_
  refine Lm.ew_told rfl hTL.1 hTL.2 hTG fun E' H7 m7 => ?_
  have f7 := f6.up (Up.of m7)
  walk_at "d"
  refine dig_badS f7 of14 o9 h9 (by decide) (fun z => absurd z.2.2 (by unfold can; decide)) fun S8 H8 u8 => ⟨T.exS, ?_⟩
  have f8 := f7.up u8
  have u9 := (u6.trans (Up.of m7)).trans u8
  walk_at "d"
  refine lf_eq_yes (x := .str "AbacusError") (by decide +kernel) ?_
  walk_at "d"
  refine ⟨x, l, _, _, rfl, f8, o9.2, ?_⟩
  have v9 : val (plain 99 2) = 99 := by decide +kernel
  rw [v9]
  walk_at "d"
  rw [decide_eq_true rfl]
  walk_at "d"
  refine ⟨x, l, _, _, _, 99, [-99, 4], _, rfl, .inl rfl, f8, of14, o9, h9.resolve_left (by rw [plain_isPlain]; decide), ⟨by decide, by decide⟩, fun z => absurd (show goodL (plain 99 2).length ((99 : Nat) : Int) [-99, 4] from ⟨by decide, by decide, trivial⟩) z, fun _ l9 S9 H9 u10 f9 => ?_⟩
  have p4 : plain (lastL ((99 : Nat) : Int) [-99, 4]).toNat (plain 99 2).length = plain 4 2 := by rw [plain_len]; rfl
  rw [p4] at f9
  have p5 : (shownL ((99 : Nat) : Int) [-99, 4]).map Dv.int = [.int 0, .int 4] := rfl
  rw [p5]
  have u11 : Up W S H0 S9 H9 := u10.drop u9 fun a ha => by rw [List.mem_singleton.mp ha]; exact hx
  have r0 : ∀ {d : Int} {v : Str} {Ψ : Ph} {Y : Px}, (0 ≤ d ∧ d ≤ 9) → ruleW (at_ (plain 4 2) 0) d = v → Ψ (.str v) S9 H9 → fRule T [.adr x, .int 0, .int d] S9 H9 Ψ Y := fun {d v Ψ Y} hd e q =>
    ⟨x, l9, _, _, 0, d, rfl, f9, by rw [plain_len]; decide, fun z => absurd (by rw [plain_len]; decide) z, fun _ z => absurd ⟨plain_isPlain _ _, hd⟩ z, fun _ _ _ => by rw [e]; exact q⟩
  walk_at "d"
  refine lf_eq_yes (x := .tup [.int 0, .int 4]) (by decide +kernel) ?_
  walk_at "d"
  refine r0 (v := "five") (by decide) (by decide +kernel) ?_
  walk_at "d"
  refine lf_eq_yes (x := .str "five") (by decide +kernel) ?_
  walk_at "d"
  refine r0 (v := "ten") (by decide) (by decide +kernel) ?_
  walk_at "d"
  refine lf_eq_yes (x := .str "ten") (by decide +kernel) ?_
  walk_at "d"
  refine r0 (v := "ten") (by decide) (by decide +kernel) ?_
  walk_at "d"
  refine lf_eq_yes (x := .str "ten") (by decide +kernel) ?_
  walk_at "d"
  refine r0 (v := "plain") (by decide) (by decide +kernel) ?_
  walk_at "d"
  refine lf_eq_yes (x := .str "plain") (by decide +kernel) ?_
  exact h1 _ _ u11
/-- the round: its dice at dd, its frame at p with the number N, its rods at l -/
structure Rd (W : Wd) (C : Addr) (S : List Addr) (H : Hp) (dd p l : Addr) (k : Str) (m : Row) (n N : Nat) : Prop where
  roll : ∃ b i f, LstAt W S H dd [.int b, .int i, .int f]
  fr : FrameAt W C S H p l k (plain N n)
  dl : dd ≠ l
  hm : mostOf k = some m
  many : 1 ≤ n ∧ n ≤ 5
  lt : N < 10 ^ n
section
variable {C dd l' : Addr} {m : Row} {n N N' : Nat}
theorem Rd.up (R : Rd W C S H dd p l k m n N) (u : Up W S H S' H') : Rd W C S' H' dd p l k m n N :=
  ⟨let ⟨b, i, f, h⟩ := R.roll; ⟨b, i, f, h.up u⟩, R.fr.up u, R.dl, R.hm, R.many, R.lt⟩
theorem Rd.dp (R : Rd W C S H dd p l k m n N) : dd ≠ p := by
  obtain ⟨b, i, f, h⟩ := R.roll
  exact LstAt.nep h R.fr
theorem Rd.ddn (R : Rd W C S H dd p l k m n N) : H dd ≠ none := by
  obtain ⟨b, i, f, h⟩ := R.roll
  exact LstAt.nn h
theorem Rd.inS (R : Rd W C S H dd p l k m n N) : ∀ x ∈ [dd, p], x ∈ S := fun x hx => by
  obtain ⟨b, i, f, h⟩ := R.roll
  rcases List.mem_cons.mp hx with z | z
  · rw [z]; exact h.1
  · rw [List.mem_singleton.mp z]; exact R.fr.pS
theorem Rd.off {T : List Addr} (R : Rd W C S H dd p l k m n N) (q : Md W T H H') (h : ∀ x ∈ T, x ≠ dd ∧ x ≠ p ∧ x ≠ l ∧ x ∈ S) : Rd W C S H' dd p l k m n N :=
  ⟨let ⟨b, i, f, g⟩ := R.roll; ⟨b, i, f, LstAt.md g q (fun z => (h _ z).1 rfl) fun x hx => (h x hx).2.2.2⟩, FrameAt.md R.fr q (fun z => (h _ z).2.1 rfl) (fun z => (h _ z).2.2.1 rfl) (fun x hx => (h x hx).2.2.2), R.dl, R.hm, R.many, R.lt⟩
theorem Rd.one (R : Rd W C S H dd p l k m n N) (q : Md W [dd] H H') (r : ∃ b i f, LstAt W S H' dd [.int b, .int i, .int f]) : Rd W C S H' dd p l k m n N :=
  ⟨r, FrameAt.md R.fr q (fun z => R.dp (List.mem_singleton.mp z).symm) (fun z => R.dl (List.mem_singleton.mp z).symm) (fun x hx => R.inS x (by rw [List.mem_singleton.mp hx]; exact List.mem_cons_self)), R.dl, R.hm, R.many, R.lt⟩
theorem Rd.put (R : Rd W C S H dd p l k m n N) (u : UpT W [p] S H S' H') (hl : H l' = none) (f : FrameAt W C S' H' p l' k (plain N' n)) (hN : N' < 10 ^ n) : Rd W C S' H' dd p l' k m n N' :=
  ⟨let ⟨b, i, g, h⟩ := R.roll; ⟨b, i, g, LstAt.upt h u (fun z => R.dp (List.mem_singleton.mp z)) fun x hx => R.inS x (List.mem_cons_of_mem _ hx)⟩,
   f, fun z => R.ddn (by rw [z]; exact hl), R.hm, R.many, hN⟩
theorem Rd.roll_ {z0 : Int} {Φ : Ph} {X : Px} (R : Rd W C S H dd p l k m n N) (hn : 1 ≤ z0 ∧ z0 ≤ 100000000) (q : ∀ z H', (0 ≤ z ∧ z < z0) → Md W [dd] H H' → Rd W C S H' dd p l k m n N → Φ (.int z) S H') : fRoll W [.adr dd, .int z0] S H Φ X := by
  obtain ⟨b, i, f, h⟩ := R.roll
  exact ⟨dd, z0, b, i, f, rfl, h, hn, fun z b' i' f' H' hz m' l' => q z H' hz m' (R.one m' ⟨b', i', f', l'⟩)⟩
theorem Rd.upt {T : List Addr} (R : Rd W C S H dd p l k m n N) (q : UpT W T S H S' H') (h : ∀ x ∈ T, x ≠ dd ∧ x ≠ p ∧ x ≠ l ∧ x ∈ S) : Rd W C S' H' dd p l k m n N :=
  ⟨let ⟨b, i, f, g⟩ := R.roll; ⟨b, i, f, LstAt.upt g q (fun z => (h _ z).1 rfl) fun x hx => (h x hx).2.2.2⟩, FrameAt.upt R.fr q (fun z => (h _ z).2.1 rfl) (fun z => (h _ z).2.2.1 rfl) (fun x hx => (h x hx).2.2.2), R.dl, R.hm, R.many, R.lt⟩
theorem ten5 {n : Nat} (h : 1 ≤ n ∧ n ≤ 5) : 10 ≤ 10 ^ n ∧ 10 ^ n ≤ 100000 := by
  have : n = 1 ∨ n = 2 ∨ n = 3 ∨ n = 4 ∨ n = 5 := by omega
  rcases this with rfl | rfl | rfl | rfl | rfl <;> decide
theorem mdd {x : Addr} (h : x ∈ [dd]) : x ∈ [dd, p] := by rw [List.mem_singleton.mp h]; exact List.mem_cons_self
theorem mpp {x : Addr} (h : x ∈ [p]) : x ∈ [dd, p] := by rw [List.mem_singleton.mp h]; exact List.mem_cons_of_mem _ List.mem_cons_self
end
theorem sc_law : FnScope ["script", "dice", "kind", "many", "top", "number", "step", "unit", "before", "later", "good", "moves", "due", "fives", "ones", "whole", "word", "here", "shown", "one", "big", "digit", "frame", "numbers", "plus", "rod", "move", "k"] ["script"] (defScope s_law) := ⟨rfl, rfl, rfl, by decide +kernel, rfl, by decide +kernel, by decide +kernel⟩
abbrev X_law (P : Program) (w : World) (W : Wd) (mg : Str → Option Value) (base : Heap) (f cT : Addr) (A : Around) (outer : List Env) (s : Shared) (Hc : Hp) (E : XK) : Cx := cxOf (L2.CX P w) P w W.K mg base ["script", "dice", "kind", "many", "top", "number", "step", "unit", "before", "later", "good", "moves", "due", "fives", "ones", "whole", "word", "here", "shown", "one", "big", "digit", "frame", "numbers", "plus", "rod", "move", "k"] "law" (defScope s_law) f (.ref cT) A outer s Hc E
theorem pt_run {f : Addr} {A : Around} {outer : List Env} {s : Shared} {Hc : Hp} {E : XK} {cT Pt : Addr} (T : Txt w W mg) (G__law_roll : CalX P w W.K mg base 2 "_law_roll" 2 (toSp W (fRoll W))) (G_running : CalX P w W.K mg base 8 "running" 2 (toSp W (fRunning T))) (G_Frame_value : MetX P w W.K mg base 4 T.CF "value" (toSp W (fValue T))) (TBL : LamX.TabB base mg cT Pt) (hTL : (Pt, (("law" : Str) ++ ".<locals>.") ++ "<lambda>") ∈ W.TL ∧ ∀ p ∈ W.TL, p.1 = Pt → p.2 = (("law" : Str) ++ ".<locals>.") ++ "<lambda>") (hTG : Pt ∉ W.TG) (hr : Room 14 (A.deeper (envOfC "law" (defScope s_law) s.heap.objs.size f (.ref cT)))) :
    ∃ t, PSs (X_law P w W mg base f cT A outer s Hc E) ((bodyOf ((defBody s_law).getD 0 (.Pass ⟨0, 0, 0, 0⟩))).drop 5) t ∧ (∀ {S : List Addr} {H : Hp} {K : Ks} {Y : Px} {dd p l : Addr} {ki : Str} {m : Row} {n N : Nat} {x0 x6 x7 x8 x9 x10 x11 x12 x13 x14 x15 x16 x17 x18 x19 x20 x21 x23 x24 x25 x26 x27 : Option Dv}, Rd W T.CF S H dd p l ki m n N →
  (∀ δ S' H', UpT W [dd, p] S H S' H' → (∃ q1 q2 q3 q4 q5 q6 q7 q8 q9 q10 q11 q12 q13 q14 q15 q16 q17 q18 q19 q20 q21 q22 q23 q24 q25 q26 q27, δ = [x0, q1, q2, q3, q4, q5, q6, q7, q8, q9, q10, q11, q12, q13, q14, q15, q16, q17, q18, q19, q20, q21, q22, q23, q24, q25, q26, q27]) → K.nx δ S' H') →
  Sw W E t [x0, some (.adr dd), some (.str ki), some (.int (n : Nat)), some (.int ((10 ^ n : Nat) : Int)), some (.int (N : Nat)), x6, x7, x8, x9, x10, x11, x12, x13, x14, x15, x16, x17, x18, x19, x20, x21, some (.adr p), x23, x24, x25, x26, x27] S H K Y
) := by
  have nd := sc_law.nd
  have hu := hr.units
  have hu1 := hu_of hr
  refine ⟨_, (pss_cons (ps_asg (pe_tup (pa_cons (pe_lc (own := [("k", 27)]) rfl nd (pi_range1 (by rfl) T.z_range (pa_cons (px_c G__law_roll hr (takes_of rfl rfl rfl rfl) (pa_cons (pv 1) (pa_cons pe_int pa_nil))) pa_nil)) (blkOk_by (by rfl)) (fun _ _ _ _ _ => (pg_name (i := 27) nd rfl (Or.inl rfl))) (fun _ _ _ _ _ => pts_nil) (fun _ _ _ _ _ => (pe_op u_sub (px_c G__law_roll hr takes0 (pa_cons (pv 1) (pa_cons pe_int pa_nil))) pe_int))) (pa_cons (pv 5) (pa_cons (pe_lst pa_nil) pa_nil)))) (w_seq (K := W.K) (n := 3) rfl rfl (pgs_cons (pg_name (i := 23) nd rfl (Or.inr rfl)) (pgs_cons (pg_name (i := 17) nd rfl (Or.inl rfl)) (pgs_cons (pg_name (i := 18) nd rfl (Or.inl rfl)) pgs_nil)))))
  (pss_cons (ps_set (i := 10) nd rfl (Or.inl rfl) pe_bl)
  (pss_cons (ps_for (passes_of rfl) rfl (w_any (K := W.K) rfl (pv 23)) (pg_name (i := 19) nd rfl (Or.inl rfl)) (pss_cons (ps_set (i := 17) nd rfl (Or.inl rfl) (pe_op (w_add (K := W.K) rfl) (pv 17) (pv 19)))
  (pss_one (ps_par (i := 10) (j := 18) (by rfl) nd rfl rfl (by decide) rfl rfl (pa_cons (pe_and (pv 10) (pe_and (pe_chain u_le (w_lt (K := W.K) rfl hu) pe_int (pv 17) (pv 4)) (pe_one (pe_cmpR (w_lt (K := W.K) rfl hu) (pe_callB c_abs (by rfl) T.z_abs (by decide +kernel) (pa_cons (pv 19) pa_nil)) (pv 4) (nomark _))))) (pa_cons (pe_op (w_add (K := W.K) rfl) (pv 18) (pe_lst (pa_cons (pv 17) pa_nil))) pa_nil)) (by rfl)))))
  (pss_one (ps_if (PW.pt (pw_or (pt_cmpR (w_ne (K := W.K) rfl hu) (Lm.pe_toldV T.told (by rfl) hr (Lm.pe_lamV (k := 12) TBL rfl rfl ⟨LamX.lamS_by (sc := defScope s_law) (by decide +kernel), fun _ _ _ _ _ => rfl, fun A outer s H E f c' hr => (px_c G_running hr (takes_of rfl rfl rfl rfl) (pa_cons (pv 22) (pa_cons (pv 23) pa_nil)))⟩)) (pe_ifExp (pt_val (pv 10)) (pe_callTy (w_tuple (K := W.K) rfl) (by rfl) T.z_tuple (by decide +kernel) (pa_cons (pv 18) pa_nil)) pe_str) (nomark _)) (pw_or1 (pt_cmpR (w_ne (K := W.K) rfl hu) (px_mt0 G_Frame_value hr (takes_of rfl rfl rfl rfl) (pv 22) ) (pe_ifExp (pt_val (pv 10)) (pv 17) (pv 5)) (nomark _))))) (pss_one (ps_ret pe_bl)) pss_nil))))), ?_⟩
  intro S H K Y dd p l ki m n N x0 x6 x7 x8 x9 x10 x11 x12 x13 x14 x15 x16 x17 x18 x19 x20 x21 x23 x24 x25 x26 x27 R hk
  have h10 := ten5 R.many
  have hmany := R.many
  walk_at "sw"
  walk_at "sw"
  refine ew_tup ?_
  refine aw_cons ?_
  refine ew_lcG ?_
  walk_at "dx"
  refine R.roll_ (by decide) fun z0 H1 hz0 m1 R1 => ?_
  walk_at "dx"
  have nm : ∀ {x : Addr}, x ∈ [dd] → x = dd := fun h => List.mem_singleton.mp h
  have ddS : dd ∈ S := R.inS dd List.mem_cons_self
  refine ⟨by omega, by omega, fun i => [x0, some (.adr dd), some (.str ki), some (.int (n : Nat)), some (.int ((10 ^ n : Nat) : Int)), some (.int (N : Nat)), x6, x7, x8, x9, x10, x11, x12, x13, x14, x15, x16, x17, x18, x19, x20, x21, some (.adr p), x23, x24, x25, x26, some (.int (i : Nat))], fun i q es S2 H2 => ∃ zs : List Int, es = zs.map .int ∧ zs.length = i ∧ (∀ z ∈ zs, -60 ≤ z ∧ z < 140) ∧ UpT W [dd] S H1 S2 H2 ∧ Rd W T.CF S2 H2 dd p l ki m n N ∧ LstAt W S2 H2 q es ∧ H1 q = none,
    ⟨?_, fun i d h => ?_, fun q H2 m2 hq nq l => ⟨[], rfl, rfl, fun _ z => (nomatch z), UpT.refl.up (Up.cons m2 hq), R1.up (Up.cons m2 hq), l, hq⟩, fun _ _ _ _ _ _ => trivial, fun i d q es S2 H2 h hI => ?_, fun q es S2 H2 hI => ?_⟩⟩
  · rw [List.length_map, List.length_range]
    exact Nat.lt_of_lt_of_le (show _ < 1000 by omega) (by decide)
  · rw [List.getElem?_map] at h
    by_cases hi : i < z0.toNat
    · rw [List.getElem?_range hi] at h
      cases h
      exact cg_of (cs_name (by decide))
    · rw [List.getElem?_eq_none (by rw [List.length_range]; omega)] at h
      cases h
  · obtain ⟨zs, rfl, hzl, hzb, u2, R2, lq, hq⟩ := hI
    have dq : q ≠ dd := fun z => by
      obtain ⟨_, _, _, g⟩ := R1.roll
      exact LstAt.nn g (by rw [← z]; exact hq)
    refine ew_e0 ?_
    walk_at "d"
    refine R2.roll_ (by decide) fun z H3 hz m3 R3 => ?_
    have lq3 := LstAt.md lq m3 (fun y => dq (nm y)) fun y hy => by rw [nm hy]; exact u2.sub _ ddS
    walk_at "d"
    refine ⟨lq3, fun H4 m4 l4 => ⟨zs ++ [z - 60], by rw [List.map_append]; rfl, by rw [List.length_append, hzl]; rfl, fun y hy => ?_, (u2.mdt m3 fun y hy => .inl hy).mdt m4 fun y hy => .inr (by rw [List.mem_singleton.mp hy]; exact hq), ?_, l4, hq⟩⟩
    · rcases List.mem_append.mp hy with c | c
      · exact hzb y c
      · rw [List.mem_singleton.mp c]; omega
    · exact R3.off m4 fun y hy => by
        rw [List.mem_singleton.mp hy]
        exact ⟨dq, LstAt.nep lq3 R3.fr, fun y => (FrameAt.nn R1.fr).2 (by rw [← y]; exact hq), lq.1⟩
  · obtain ⟨zs, rfl, hzl, hzb, u2, R2, lq, hq⟩ := hI
    rw [List.length_map, List.length_range] at hzl
    walk_at "dx"
    walk_at "sw"
    walk_at "sw"
    walk_at "dx"
    refine sw_mid (fun δ S' H' => S' = S2 ∧ H' = H2 ∧ ∃ b : Bool, (b = true ↔ goodL n (N : Int) zs) ∧ ∃ x6 x7 x8 x9 x11 x12 x13 x14 x15 x16 x19 x20 x21 x24 x25 x26 x27, δ = [x0, some (.adr dd), some (.str ki), some (.int (n : Nat)), some (.int ((10 ^ n : Nat) : Int)), some (.int (N : Nat)), x6, x7, x8, x9, some (.bl b), x11, x12, x13, x14, x15, x16, some (.int (lastL (N : Int) zs)), some (.lst ((shownL (N : Int) zs).map .int)), x19, x20, x21, some (.adr p), some (.adr q), x24, x25, x26, x27]) ?_ ?_
    · refine sw_forN (iw_anyM (ew_var rfl ⟨q, _, rfl, lq, ?_⟩))
      refine loop_of (xs := zs) (D := Dv.int) (fun i δ S' H' => S' = S2 ∧ H' = H2 ∧ ∃ b : Bool, (b = true ↔ goodL n (N : Int) (zs.take i)) ∧ ∃ x6 x7 x8 x9 x11 x12 x13 x14 x15 x16 x19 x20 x21 x24 x25 x26 x27, δ = [x0, some (.adr dd), some (.str ki), some (.int (n : Nat)), some (.int ((10 ^ n : Nat) : Int)), some (.int (N : Nat)), x6, x7, x8, x9, some (.bl b), x11, x12, x13, x14, x15, x16, some (.int (lastL (N : Int) (zs.take i))), some (.lst ((shownL (N : Int) (zs.take i)).map .int)), x19, x20, x21, some (.adr p), some (.adr q), x24, x25, x26, x27]) ?_ ?_ ?_ ?_
      · exact ⟨rfl, rfl, true, ⟨fun _ => trivial, fun _ => rfl⟩, _, _, _, _, _, _, _, _, _, _, _, _, _, _, _, _, _, rfl⟩
      · rintro i δ S' H' ⟨rfl, rfl, _⟩
        exact lq
      · rintro i z δ S' H' hi ⟨rfl, rfl, b, hb, x6, x7, x8, x9, x11, x12, x13, x14, x15, x16, x19, x20, x21, x24, x25, x26, x27, rfl⟩
        have hgs := goodL_snoc (n := n) z (zs.take i) (N : Int)
        rw [← tk_snoc hi] at hgs
        have hls := lastL_snoc z (zs.take i) (N : Int)
        rw [← tk_snoc hi] at hls
        have hss := shownL_snoc z (zs.take i) (N : Int)
        rw [← tk_snoc hi] at hss
        have hi' : i < zs.length := (List.getElem?_eq_some_iff.mp hi).1
        simp only [hgs, hls, hss, List.map_append]
        generalize hV : lastL (N : Int) (zs.take i) = V at *
        generalize hP : ((10 ^ n : Nat) : Int) = P at *
        walk_at "da"
        all_goals refine lf_add_lst (Nat.le_trans (show _ ≤ 1000 by rw [List.length_map, shownL_len, List.length_take]; show _ + 1 ≤ 1000; omega) (by decide)) ?_
        all_goals walk_at "d"
        all_goals refine ⟨_, _, rfl, ?_⟩
        all_goals refine ⟨rfl, rfl, _, ?_, _, _, _, _, _, _, _, _, _, _, _, _, _, _, _, _, _, rfl⟩
        all_goals first
          | (rw [decide_eq_true_iff]
             refine ⟨fun y => ⟨hb.mp (by assumption), ?_⟩, fun y => ?_⟩
             · split at y <;> omega
             · obtain ⟨_, y1, y2, y3, y4⟩ := y
               split <;> omega)
          | exact ⟨fun y => (by cases y), fun y => (by obtain ⟨_, y1, y2, y3, y4⟩ := y; omega)⟩
          | exact ⟨fun y => (by cases y), fun y => (by have y0 := hb.mpr y.1; subst y0; contradiction)⟩
          | exact ⟨fun y => (by cases y), fun y => (by have y0 := hb.mpr y.1; simp_all)⟩
      · rintro δ S' H' ⟨rfl, rfl, b, hb, x6, x7, x8, x9, x11, x12, x13, x14, x15, x16, x19, x20, x21, x24, x25, x26, x27, rfl⟩
        rw [List.take_length] at hb ⊢
        exact ⟨rfl, rfl, b, hb, _, _, _, _, _, _, _, _, _, _, _, _, _, _, _, _, _, rfl⟩
    · rintro δ S' H' ⟨rfl, rfl, b, hb, x6, x7, x8, x9, x11, x12, x13, x14, x15, x16, x19, x20, x21, x24, x25, x26, x27, rfl⟩
      walk_at "sw"
      walk_at "dxn"
      refine ew_op dNe ?_
      refine Lm.ew_told rfl hTL.1 hTL.2 hTG fun E' H6 m6 => ?_
      have R6 := R2.up (Up.of m6)
      walk_at "d"
      have um := ((UpT.refl (W := W) (T := [dd, p]) (S := S) (H := H)).mdt m1 fun y hy => .inl (mdd hy)).trans (u2.up (Up.of m6)) fun y hy => .inl (mdd hy)
      refine ⟨p, l, ki, _, m, N, zs, .adr q, rfl, .inr ⟨q, rfl, lq.up (Up.of m6)⟩, R6.fr, R.hm, by rw [plain_len]; omega, ⟨by rw [plain_len], by rw [plain_len]; exact R.lt⟩, ⟨by omega, fun z hz => by have := hzb z hz; omega⟩, fun c S7 H7 u7 => ⟨T.exS, ?_⟩, fun c l7 S7 H7 u7 f7 => ?_⟩
      · rw [plain_len] at c
        cases b with
        | true => exact absurd (hb.mp rfl) c
        | false =>
          have f7 := R6.fr.up u7
          walk_at "dx"
          refine lf_ne_no (x := .str "AbacusError") (ok_str (by decide +kernel)) ?_
          walk_at "dx"
          refine ⟨p, l, ki, _, rfl, f7, by rw [plain_len]; omega, ?_⟩
          rw [plain_val n N R.lt]
          walk_at "dx"
          refine ⟨fun y => absurd y (by simp), fun _ => ?_⟩
          walk_at "sw"
          exact hk _ _ _ (um.up u7) ⟨_, _, _, _, _, _, _, _, _, _, _, _, _, _, _, _, _, _, _, _, _, _, _, _, _, _, _, rfl⟩
      · rw [plain_len] at c f7
        cases b with
        | false => exact absurd (hb.mpr c) (by decide)
        | true =>
          have hlast := goodL_last (n := n) ⟨Int.natCast_nonneg N, by have := R.lt; exact_mod_cast this⟩ c
          walk_at "dx"
          refine .inl ⟨_, .inl rfl, ?_⟩
          refine lf_ne_no (x := .tup ((shownL (N : Int) zs).map .int)) ((okN_tup (n := 0) fun d hd => by obtain ⟨z, _, rfl⟩ := List.mem_map.mp hd; exact okN_int _).ok (by decide)) ?_
          walk_at "dx"
          refine ⟨p, l7, ki, _, rfl, f7, by rw [plain_len]; omega, ?_⟩
          rw [plain_val n _ (by have := hlast.2; omega), Int.toNat_of_nonneg hlast.1]
          walk_at "dx"
          refine ⟨fun y => absurd y (by simp), fun _ => ?_⟩
          walk_at "sw"
          exact hk _ _ _ (um.trans u7 fun y hy => .inl (mpp hy)) ⟨_, _, _, _, _, _, _, _, _, _, _, _, _, _, _, _, _, _, _, _, _, _, _, _, _, _, _, rfl⟩
theorem canW_iff {pl : Bool} {N n : Nat} {z : Int} (hz : 0 ≤ z) (hN : N < 10 ^ n) : (z < ((10 ^ n : Nat) : Int) ∧ 0 ≤ (if pl = true then (N : Int) + z else (N : Int) - z) ∧ (if pl = true then (N : Int) + z else (N : Int) - z) < ((10 ^ n : Nat) : Int)) ↔ (z.toNat < 10 ^ n ∧ canW pl N z.toNat n) := by
  obtain ⟨k, rfl⟩ := Int.eq_ofNat_of_zero_le hz
  unfold canW
  generalize 10 ^ n = P at *
  cases pl with
  | true => simp only [if_true, Int.toNat_natCast]; omega
  | false => simp only [Bool.false_eq_true, if_false, Int.toNat_natCast]; omega
theorem resW_int {pl : Bool} {N n : Nat} {z : Int} (hz : 0 ≤ z) (h : canW pl N z.toNat n) : ((resW pl N z.toNat : Nat) : Int) = if pl = true then (N : Int) + z else (N : Int) - z := by
  obtain ⟨k, rfl⟩ := Int.eq_ofNat_of_zero_le hz
  unfold canW at h
  unfold resW
  cases pl with
  | true => simp only [if_true, Int.toNat_natCast] at *; omega
  | false => simp only [Bool.false_eq_true, if_false, Int.toNat_natCast] at *; omega
theorem lf_ne2_fr {C y ly : Addr} {k2 : Str} {o1 o2 : List Row} (f1 : FrameAt W C S H p l k o1) (f2 : FrameAt W C S H y ly k2 o2) (e : o1 = o2) (q : Φ (.bl false) S H) : eqB2 W true (.adr l) (.adr ly) Φ S H := by
  subst e
  exact lf_ne2_same (f := fun o : List Row => Dv.lst (o.map rowD)) (tells_lst (tells_pairL tells_int tells_int)) (x := o1.reverse) (y := o1.reverse) (as_adr f1.rl) (as_adr f2.rl) rfl q
theorem pt_big {f : Addr} {A : Around} {outer : List Env} {s : Shared} {Hc : Hp} {E : XK} {cT Pt : Addr} (T : Txt w W mg) (G__law_roll : CalX P w W.K mg base 2 "_law_roll" 2 (toSp W (fRoll W))) (G_Frame_copied : MetX P w W.K mg base 3 T.CF "copied" (toSp W (fCopied T))) (G_add : CalX P w W.K mg base 7 "add" 2 (toSp W ((fAddN true) T))) (G_take : CalX P w W.K mg base 7 "take" 2 (toSp W ((fAddN false) T))) (G_Frame_value : MetX P w W.K mg base 4 T.CF "value" (toSp W (fValue T))) (G_all_moved : CalX P w W.K mg base 4 "all_moved" 2 (toSp W (fAllMoved T))) (TBL : LamX.TabB base mg cT Pt) (hTL : (Pt, (("law" : Str) ++ ".<locals>.") ++ "<lambda>") ∈ W.TL ∧ ∀ p ∈ W.TL, p.1 = Pt → p.2 = (("law" : Str) ++ ".<locals>.") ++ "<lambda>") (hTG : Pt ∉ W.TG) (hr : Room 14 (A.deeper (envOfC "law" (defScope s_law) s.heap.objs.size f (.ref cT)))) :
    ∃ t, PSs (X_law P w W mg base f cT A outer s Hc E) ((bodyOf ((bodyOf ((defBody s_law).getD 0 (.Pass ⟨0, 0, 0, 0⟩))).getD 4 (.Pass ⟨0, 0, 0, 0⟩))).drop 9) t ∧ (∀ {S : List Addr} {H : Hp} {K : Ks} {Y : Px} {dd p l : Addr} {ki : Str} {m : Row} {n N : Nat} {pl : Bool} {x0 x6 x7 x8 x9 x10 x11 x12 x13 x14 x15 x16 x17 x18 x19 x20 x21 x23 x25 x26 x27 : Option Dv}, Rd W T.CF S H dd p l ki m n N →
  (∀ δ S' H' l' N', UpT W [dd, p] S H S' H' → Rd W T.CF S' H' dd p l' ki m n N' → (∃ q6 q7 q8 q9 q10 q11 q12 q13 q14 q15 q16 q17 q18 q19 q20 q21 q23 q24 q25 q26 q27, δ = [x0, some (.adr dd), some (.str ki), some (.int (n : Nat)), some (.int ((10 ^ n : Nat) : Int)), some (.int (N' : Nat)), q6, q7, q8, q9, q10, q11, q12, q13, q14, q15, q16, q17, q18, q19, q20, q21, some (.adr p), q23, q24, q25, q26, q27]) → K.nx δ S' H') →
  Sw W E t [x0, some (.adr dd), some (.str ki), some (.int (n : Nat)), some (.int ((10 ^ n : Nat) : Int)), some (.int (N : Nat)), x6, x7, x8, x9, x10, x11, x12, x13, x14, x15, x16, x17, x18, x19, x20, x21, some (.adr p), x23, some (.bl pl), x25, x26, x27] S H K Y
) := by
  have nd := sc_law.nd
  have hu := hr.units
  have hu1 := hu_of hr
  refine ⟨_, (pss_cons (ps_set (i := 20) nd rfl (Or.inr rfl) (px_c G__law_roll hr (takes_of rfl rfl rfl rfl) (pa_cons (pv 1) (pa_cons (pe_op u_mul pe_int (pv 4)) pa_nil))))
  (pss_cons (ps_set (i := 9) nd rfl (Or.inl rfl) (pe_ifExp (pt_val (pv 24)) (pe_op (w_add (K := W.K) rfl) (pv 5) (pv 20)) (pe_op u_sub (pv 5) (pv 20))))
  (pss_cons (ps_set (i := 10) nd rfl (Or.inl rfl) (pe_and (pe_cmpR (w_lt (K := W.K) rfl hu) (pv 20) (pv 4) (nomark _)) (pe_one (pe_chain u_le (w_lt (K := W.K) rfl hu) pe_int (pv 9) (pv 4)))))
  (pss_cons (ps_set (i := 8) nd rfl (Or.inl rfl) (px_mt0 G_Frame_copied hr (takes_of rfl rfl rfl rfl) (pv 22) ))
  (pss_cons (ps_set (i := 11) nd rfl (Or.inl rfl) (Lm.pe_toldV T.told (by rfl) hr (Lm.pe_lamV (k := 12) TBL rfl rfl ⟨LamX.lamS_by (sc := defScope s_law) (by decide +kernel), fun _ _ _ _ _ => rfl, fun A outer s H E f c' hr => (pe_ifExp (pt_val (pv 24)) (px_c G_add hr (takes_of rfl rfl rfl rfl) (pa_cons (pv 22) (pa_cons (pv 20) pa_nil))) (px_c G_take hr (takes_of rfl rfl rfl rfl) (pa_cons (pv 22) (pa_cons (pv 20) pa_nil))))⟩)))
  (pss_cons (ps_if (PW.pt (pw_or (pt_cmpR (w_eq (K := W.K) rfl hu) (pe_cmpR (w_eqU (K := W.K) rfl hu) (pv 11) pe_str (nomark _)) (pv 10) (nomark _)) (pw_or1 (pt_cmpR (w_ne (K := W.K) rfl hu) (px_mt0 G_Frame_value hr (takes_of rfl rfl rfl rfl) (pv 22) ) (pe_ifExp (pt_val (pv 10)) (pv 9) (pv 5)) (nomark _))))) (pss_one (ps_ret pe_bl)) pss_nil)
  (pss_cons (ps_if (pt_val (pv 10)) (pss_cons (ps_expr (px_c G_all_moved hr (takes_of rfl rfl rfl rfl) (pa_cons (pv 8) (pa_cons (pv 11) pa_nil))))
  (pss_one (ps_set (i := 5) nd rfl (Or.inl rfl) (pv 9)))) pss_nil)
  (pss_one (ps_if (pt_cmpR (w_ne (K := W.K) rfl hu) (w_fld (K := W.K) rfl (pv 8)) (w_fld (K := W.K) rfl (pv 22)) (nomark _)) (pss_one (ps_ret pe_bl)) pss_nil))))))))), ?_⟩
  intro S H K Y dd p l ki m n N pl x0 x6 x7 x8 x9 x10 x11 x12 x13 x14 x15 x16 x17 x18 x19 x20 x21 x23 x25 x26 x27 R hk
  have h10 := ten5 R.many
  have hmany := R.many
  have hN := R.lt
  walk_at "sw"
  walk_at "sw"
  walk_at "dx"
  refine R.roll_ (by omega) fun z H1 hz m1 R1 => ?_
  walk_at "dx"
  refine sw_mid (fun δ S' H' => S' = S ∧ H' = H1 ∧ ∃ x6 x7 x8 x10 x11 x12 x13 x14 x15 x16 x17 x18 x19 x21 x23 x25 x26 x27, δ = [x0, some (.adr dd), some (.str ki), some (.int (n : Nat)), some (.int ((10 ^ n : Nat) : Int)), some (.int (N : Nat)), x6, x7, x8, some (.int (if pl = true then (N : Int) + z else (N : Int) - z)), x10, x11, x12, x13, x14, x15, x16, x17, x18, x19, some (.int z), x21, some (.adr p), x23, some (.bl pl), x25, x26, x27]) ?_ ?_
  · cases pl with
    | true => walk_at "d"; exact ⟨rfl, rfl, _, _, _, _, _, _, _, _, _, _, _, _, _, _, _, _, _, _, rfl⟩
    | false => walk_at "d"; exact ⟨rfl, rfl, _, _, _, _, _, _, _, _, _, _, _, _, _, _, _, _, _, _, rfl⟩
  rintro δ S' H' ⟨rfl, rfl, x6, x7, x8, x10, x11, x12, x13, x14, x15, x16, x17, x18, x19, x21, x23, x25, x26, x27, rfl⟩
  have hiff := canW_iff (pl := pl) hz.1 hN
  have hres := resW_int (pl := pl) (N := N) (n := n) hz.1
  generalize hL : (if pl = true then (N : Int) + z else (N : Int) - z) = L at *
  refine sw_mid (fun δ S2 H2 => S2 = S' ∧ H2 = H' ∧ ∃ x6 x7 x8 x11 x12 x13 x14 x15 x16 x17 x18 x19 x21 x23 x25 x26 x27, δ = [x0, some (.adr dd), some (.str ki), some (.int (n : Nat)), some (.int ((10 ^ n : Nat) : Int)), some (.int (N : Nat)), x6, x7, x8, some (.int L), some (.bl (decide (z < ((10 ^ n : Nat) : Int) ∧ 0 ≤ L ∧ L < ((10 ^ n : Nat) : Int)))), x11, x12, x13, x14, x15, x16, x17, x18, x19, some (.int z), x21, some (.adr p), x23, some (.bl pl), x25, x26, x27]) ?_ ?_
  · walk_at "da"
    all_goals refine ⟨rfl, rfl, ?_⟩
    · have e : decide (z < ((10 ^ n : Nat) : Int) ∧ 0 ≤ L ∧ L < ((10 ^ n : Nat) : Int)) = decide (L < ((10 ^ n : Nat) : Int)) := by rw [decide_eq_decide]; omega
      rw [e]
      exact ⟨_, _, _, _, _, _, _, _, _, _, _, _, _, _, _, _, _, rfl⟩
    all_goals
      have e : decide (z < ((10 ^ n : Nat) : Int) ∧ 0 ≤ L ∧ L < ((10 ^ n : Nat) : Int)) = false := by rw [decide_eq_false_iff_not]; omega
      rw [e]
      exact ⟨_, _, _, _, _, _, _, _, _, _, _, _, _, _, _, _, _, rfl⟩
  rintro δ S1 H1 ⟨rfl, rfl, x6, x7, x8, x11, x12, x13, x14, x15, x16, x17, x18, x19, x21, x23, x25, x26, x27, rfl⟩
  have f1 := R1.fr
  walk_at "sw"
  walk_at "sw"
  walk_at "dx"
  refine ⟨p, l, ki, _, m, rfl, R1.fr, R.hm, by rw [plain_len]; omega, fun y ly S3 H3 u3 f3 hy hly => ?_⟩
  have R3 := R1.up u3
  have yp : y ≠ p := fun q => (FrameAt.nn R1.fr).1 (by rw [← q]; exact hy)
  walk_at "dx"
  have key : ∀ {S6 H6} {Ψ : Ph} {Y' : Px}, Rd W T.CF S6 H6 dd p l ki m n N → (¬ (z < ((10 ^ n : Nat) : Int) ∧ 0 ≤ L ∧ L < ((10 ^ n : Nat) : Int)) → ∀ S7 H7, Up W S6 H6 S7 H7 → Y' (.ref T.xS) S7 H7) →
      ((z < ((10 ^ n : Nat) : Int) ∧ 0 ≤ L ∧ L < ((10 ^ n : Nat) : Int)) → ∀ ms (N' : Nat) l7 S7 H7, (N' : Int) = L → pushes m (plain N n) ms = some (plain N' n) → ms.length ≤ 2000 → (∀ x ∈ ms, okMv x) → UpT W [p] S6 H6 S7 H7 → Rd W T.CF S7 H7 dd p l7 ki m n N' → Ψ (.tup (ms.map mvD)) S7 H7) → fAddN pl T [.adr p, .int z] S6 H6 Ψ Y' := by
    intro S6 H6 Ψ Y' R6 e1 e2
    refine ⟨p, z, rfl, p, l, ki, _, z, m, N, pl, rfl, R6.fr, R.hm, by rw [plain_len]; omega, .inr ⟨by rw [plain_len], by rw [plain_len]; exact hN⟩, by omega, fun c S7 H7 u7 => e1 (fun g => c ⟨plain_isPlain _ _, hz.1, ?_, ?_⟩) S7 H7 u7, fun _ _ hzl hc ms l7 S7 H7 hpu hml hok u7 hl7 f7 => ?_⟩
    · rw [plain_len]; exact (hiff.mp g).1
    · rw [plain_len]; exact (hiff.mp g).2
    · rw [plain_len] at hzl hc hpu f7
      exact e2 (hiff.mpr ⟨hzl, hc⟩) ms _ l7 S7 H7 (hres hc) hpu hml hok u7 (R6.put u7 hl7 f7 (resW_lt hN hc))
  refine sw_mid (fun δ S' H' => ∃ (l' : Addr) (N' : Nat) (mv : Dv), UpT W [p] S3 H3 S' H' ∧ Rd W T.CF S' H' dd p l' ki m n N' ∧ FrameAt W T.CF S' H' y ly ki (plain N n) ∧ ((¬ (z < ((10 ^ n : Nat) : Int) ∧ 0 ≤ L ∧ L < ((10 ^ n : Nat) : Int)) ∧ N' = N ∧ mv = Dv.str "AbacusError") ∨ ((z < ((10 ^ n : Nat) : Int) ∧ 0 ≤ L ∧ L < ((10 ^ n : Nat) : Int)) ∧ (N' : Int) = L ∧ ∃ ms, mv = .tup (ms.map mvD) ∧ pushes m (plain N n) ms = some (plain N' n) ∧ ms.length ≤ 2000 ∧ ∀ x ∈ ms, okMv x)) ∧
    ∃ x6 x7 x12 x13 x14 x15 x16 x17 x18 x19 x21 x23 x25 x26 x27, δ = [x0, some (.adr dd), some (.str ki), some (.int (n : Nat)), some (.int ((10 ^ n : Nat) : Int)), some (.int (N : Nat)), x6, x7, some (.adr y), some (.int L), some (.bl (decide (z < ((10 ^ n : Nat) : Int) ∧ 0 ≤ L ∧ L < ((10 ^ n : Nat) : Int)))), some (mv), x12, x13, x14, x15, x16, x17, x18, x19, some (.int z), x21, some (.adr p), x23, some (.bl pl), x25, x26, x27]) ?_ ?_
  · walk_at "sw"
    refine Lm.ew_told rfl hTL.1 hTL.2 hTG fun E' H6 m6 => ?_
    have R6 := R3.up (Up.of m6)
    have f6 := f3.up (Up.of m6)
    have fin : ∀ {Ψ : Ph} {Y' : Px}, (∀ l' (N' : Nat) mv S' H', UpT W [p] S3 H3 S' H' → Rd W T.CF S' H' dd p l' ki m n N' → FrameAt W T.CF S' H' y ly ki (plain N n) → ((¬ (z < ((10 ^ n : Nat) : Int) ∧ 0 ≤ L ∧ L < ((10 ^ n : Nat) : Int)) ∧ N' = N ∧ mv = Dv.str "AbacusError") ∨ ((z < ((10 ^ n : Nat) : Int) ∧ 0 ≤ L ∧ L < ((10 ^ n : Nat) : Int)) ∧ (N' : Int) = L ∧ ∃ ms, mv = .tup (ms.map mvD) ∧ pushes m (plain N n) ms = some (plain N' n) ∧ ms.length ≤ 2000 ∧ ∀ x ∈ ms, okMv x)) → Ψ mv S' H') →
        fAddN pl T [.adr p, .int z] S3 H6 Ψ (Lm.catB W T.xA "AbacusError" Ψ) := fun {Ψ Y'} h => key R6 (fun g S7 H7 u7 => ⟨T.exS, h l N _ S7 H7 ((UpT.refl.up (Up.of m6)).up u7) (R6.up u7) (f6.up u7) (.inl ⟨g, rfl, rfl⟩)⟩)
          (fun g ms N' l7 S7 H7 e hpu hml hok u7 R7 => h l7 N' _ S7 H7 ((UpT.refl.up (Up.of m6)).trans u7 fun _ q => .inl q) R7 (FrameAt.upt f6 u7 (fun q => yp (List.mem_singleton.mp q)) (fun q => LstAt.nep f6.rl R6.fr (List.mem_singleton.mp q)) (fun x hx => R6.inS x (List.mem_cons_of_mem _ hx))) (.inr ⟨g, e, ms, rfl, hpu, hml, hok⟩))
    cases pl with
    | true =>
      walk_at "d"
      refine fin (Y' := Y) fun l' N' mv S' H' a1 a2 a3 a4 => ?_
      exact ⟨l', N', mv, a1, a2, a3, a4, _, _, _, _, _, _, _, _, _, _, _, _, _, _, _, rfl⟩
    | false =>
      walk_at "d"
      refine fin (Y' := Y) fun l' N' mv S' H' a1 a2 a3 a4 => ?_
      exact ⟨l', N', mv, a1, a2, a3, a4, _, _, _, _, _, _, _, _, _, _, _, _, _, _, _, rfl⟩
  rintro δ S7 H7 ⟨l7, N7, mv, u7, R7, f7, hc, x6, x7, x12, x13, x14, x15, x16, x17, x18, x19, x21, x23, x25, x26, x27, rfl⟩
  have um : UpT W [dd, p] S1 H S7 H7 := (((UpT.refl (W := W) (T := [dd, p])).mdt m1 fun q hq => .inl (mdd hq)).up u3).trans u7 fun q hq => .inl (mpp hq)
  have f8 := R7.fr
  walk_at "sw"
  rcases hc with ⟨hg, rfl, rfl⟩ | ⟨hg, hL7, ms, rfl, hpu, hml, hok⟩
  · rw [decide_eq_false hg]
    walk_at "sw"
    walk_at "dxn"
    refine ew_op dEq (ew_op dEqU ?_)
    walk_at "d"
    refine lf_eqU (lf_eq_yes (ok_str (by decide +kernel)) ?_)
    walk_at "d"
    refine lf_eq_bl_no (by decide) ?_
    walk_at "dx"
    refine ⟨p, l7, ki, _, rfl, R7.fr, by rw [plain_len]; omega, ?_⟩
    rw [plain_val n _ R7.lt]
    walk_at "dx"
    refine ⟨fun q => absurd q (by simp), fun _ => ?_⟩
    walk_at "sw"
    walk_at "sw"
    walk_at "sw"
    walk_at "dx"
    walk_at "sw"
    walk_at "sw"
    walk_at "dxn"
    refine ew_op dNe2 ?_
    walk_at "d"
    refine lf_ne2_fr f7 f8 rfl ?_
    walk_at "dx"
    walk_at "sw"
    exact hk _ _ _ l7 _ um R7 ⟨_, _, _, _, _, _, _, _, _, _, _, _, _, _, _, _, _, _, _, _, _, rfl⟩
  · rw [decide_eq_true hg]
    walk_at "sw"
    walk_at "dxn"
    refine ew_op dEq (ew_op dEqU ?_)
    walk_at "d"
    refine lf_eqTS ?_
    walk_at "d"
    refine lf_eq_bl_no (by decide) ?_
    walk_at "dx"
    refine ⟨p, l7, ki, _, rfl, R7.fr, by rw [plain_len]; omega, ?_⟩
    rw [plain_val n _ R7.lt, hL7]
    walk_at "dx"
    refine ⟨fun q => absurd q (by simp), fun _ => ?_⟩
    walk_at "sw"
    walk_at "sw"
    walk_at "sw"
    walk_at "dx"
    walk_at "sw"
    walk_at "sw"
    walk_at "dx"
    refine ⟨y, ly, ki, _, m, _, ms, rfl, .inr rfl, f7, R.hm, by rw [plain_len]; omega, fun x hx => ⟨(hok x hx).1, (hok x hx).str⟩, fun c => ?_, fun o' _ ho l9 S9 H9 m9 s9 n9 hl9 f9 => ?_⟩
    · rcases c with c | c
      · omega
      · rw [hpu] at c; cases c
    have eo : plain N7 n = o' := Option.some.inj (hpu.symm.trans ho)
    rw [← eo] at f9
    have R9 : Rd W T.CF S9 H9 dd p l7 ki m n N7 := R7.upt ⟨m9, s9, n9⟩ fun x hx => by
      rw [List.mem_singleton.mp hx]
      exact ⟨fun q => R1.ddn (by rw [← q]; exact hy), yp, fun q => LstAt.nep R7.fr.rl f7 q.symm, f7.pS⟩
    have um9 : UpT W [dd, p] S1 H S9 H9 := um.trans ⟨m9, s9, n9⟩ fun x hx => .inr (by rw [List.mem_singleton.mp hx]; exact m1.free hy)
    have f10 := R9.fr
    walk_at "dx"
    walk_at "sw"
    walk_at "dx"
    walk_at "sw"
    walk_at "dxn"
    refine ew_op dNe2 ?_
    walk_at "d"
    refine lf_ne2_fr f9 f10 rfl ?_
    walk_at "dx"
    walk_at "sw"
    rw [← hL7]
    exact hk _ _ _ l7 _ um9 R9 ⟨_, _, _, _, _, _, _, _, _, _, _, _, _, _, _, _, _, _, _, _, _, rfl⟩
theorem ruleW_none {a b d : Int} (h : d = 0) : ruleW (a, b) d = "none" := if_pos h
theorem ruleW_five {a b d : Int} (h : d ≠ 0) (h1 : 5 * a + b + d < 10) (h2 : (5 * a + b + d) % 5 < b) : ruleW (a, b) d = "five" := (if_neg h).trans ((if_pos h1).trans (if_pos h2))
theorem ruleW_plain {a b d : Int} (h : d ≠ 0) (h1 : 5 * a + b + d < 10) (h2 : ¬ (5 * a + b + d) % 5 < b) : ruleW (a, b) d = "plain" := (if_neg h).trans ((if_pos h1).trans (if_neg h2))
theorem ruleW_both {a b d : Int} (h : d ≠ 0) (h1 : ¬ 5 * a + b + d < 10) (h2 : a < (5 * a + b + d - 10) / 5 ∨ b < (5 * a + b + d - 10) % 5) : ruleW (a, b) d = "both" := (if_neg h).trans ((if_neg h1).trans (if_pos h2))
theorem ruleW_ten {a b d : Int} (h : d ≠ 0) (h1 : ¬ 5 * a + b + d < 10) (h2 : ¬ (a < (5 * a + b + d - 10) / 5 ∨ b < (5 * a + b + d - 10) % 5)) : ruleW (a, b) d = "ten" := (if_neg h).trans ((if_neg h1).trans (if_neg h2))
theorem pt_rule {f : Addr} {A : Around} {outer : List Env} {s : Shared} {Hc : Hp} {E : XK} {cT Pt : Addr} (T : Txt w W mg) (G_rule_of : CalX P w W.K mg base 4 "rule_of" 3 (toSp W (fRule T))) (G_Frame_value : MetX P w W.K mg base 4 T.CF "value" (toSp W (fValue T))) (G__law_roll : CalX P w W.K mg base 2 "_law_roll" 2 (toSp W (fRoll W))) (G_Frame_copied : MetX P w W.K mg base 3 T.CF "copied" (toSp W (fCopied T))) (G_add : CalX P w W.K mg base 7 "add" 2 (toSp W ((fAddN true) T))) (G_take : CalX P w W.K mg base 7 "take" 2 (toSp W ((fAddN false) T))) (G_all_moved : CalX P w W.K mg base 4 "all_moved" 2 (toSp W (fAllMoved T))) (TBL : LamX.TabB base mg cT Pt) (hTL : (Pt, (("law" : Str) ++ ".<locals>.") ++ "<lambda>") ∈ W.TL ∧ ∀ p ∈ W.TL, p.1 = Pt → p.2 = (("law" : Str) ++ ".<locals>.") ++ "<lambda>") (hTG : Pt ∉ W.TG) (hr : Room 14 (A.deeper (envOfC "law" (defScope s_law) s.heap.objs.size f (.ref cT)))) :
    ∃ t, PSs (X_law P w W mg base f cT A outer s Hc E) ((bodyOf ((bodyOf ((defBody s_law).getD 0 (.Pass ⟨0, 0, 0, 0⟩))).getD 4 (.Pass ⟨0, 0, 0, 0⟩))).drop 8) t ∧ (∀ {S : List Addr} {H : Hp} {K : Ks} {Y : Px} {dd p l : Addr} {ki : Str} {m : Row} {n N R0 D : Nat} {pl : Bool} {x0 x6 x8 x9 x10 x11 x12 x13 x14 x15 x16 x17 x18 x19 x20 x23 x26 x27 : Option Dv}, Rd W T.CF S H dd p l ki m n N →
  (∀ δ S' H' l' N', UpT W [dd, p] S H S' H' → Rd W T.CF S' H' dd p l' ki m n N' → (∃ q6 q7 q8 q9 q10 q11 q12 q13 q14 q15 q16 q17 q18 q19 q20 q21 q23 q24 q25 q26 q27, δ = [x0, some (.adr dd), some (.str ki), some (.int (n : Nat)), some (.int ((10 ^ n : Nat) : Int)), some (.int (N' : Nat)), q6, q7, q8, q9, q10, q11, q12, q13, q14, q15, q16, q17, q18, q19, q20, q21, some (.adr p), q23, q24, q25, q26, q27]) → K.nx δ S' H') →
  Sw W E t [x0, some (.adr dd), some (.str ki), some (.int (n : Nat)), some (.int ((10 ^ n : Nat) : Int)), some (.int (N : Nat)), x6, some (.int ((10 ^ R0 : Nat) : Int)), x8, x9, x10, x11, x12, x13, x14, x15, x16, x17, x18, x19, x20, some (.int (D : Nat)), some (.adr p), x23, some (.bl pl), some (.int (R0 : Nat)), x26, x27] S H K Y
) := by
  have nd := sc_law.nd
  have hu := hr.units
  have hu1 := hu_of hr
  obtain ⟨t_big, p_big, h_big⟩ := pt_big (outer := outer) (s := s) (Hc := Hc) (E := E) T G__law_roll G_Frame_copied G_add G_take G_Frame_value G_all_moved TBL hTL hTG hr
  refine ⟨_, (pss_cons (ps_if (PW.pt (pw_and (pt_cmpR (w_lt (K := W.K) rfl hu) (pv 25) (pv 3) (nomark _)) (pw_and1 (pt_cmpR (w_lt (K := W.K) rfl hu) (pv 21) pe_int (nomark _))))) (pss_cons (ps_par (i := 13) (j := 14) (by rfl) nd rfl rfl (by decide) rfl rfl (pa_cons (pe_op u_div (pe_op u_mod (pe_op u_div (pv 5) (pv 7)) pe_int) pe_int) (pa_cons (pe_op u_mod (pe_op u_div (pv 5) (pv 7)) pe_int) pa_nil)) (by rfl))
  (pss_cons (ps_set (i := 15) nd rfl (Or.inl rfl) (pe_op (w_add (K := W.K) rfl) (pe_op u_mod (pe_op u_div (pv 5) (pv 7)) pe_int) (pv 21)))
  (pss_cons (ps_set (i := 16) nd rfl (Or.inl rfl) (pe_ifExp (pt_cmpR (w_eq (K := W.K) rfl hu) (pv 21) pe_int (nomark _)) pe_str pe_str))
  (pss_cons (ps_if (PW.pt (pw_and (pt_cmpR u_gt (pv 21) pe_int (nomark _)) (pw_and1 (pt_cmpR (w_lt (K := W.K) rfl hu) (pv 15) pe_int (nomark _))))) (pss_one (ps_set (i := 16) nd rfl (Or.inl rfl) (pe_ifExp (pt_cmpR (w_lt (K := W.K) rfl hu) (pe_op u_mod (pv 15) pe_int) (pv 14) (nomark _)) pe_str pe_str))) pss_nil)
  (pss_cons (ps_if (pt_cmpR u_gt (pv 15) pe_int (nomark _)) (pss_one (ps_set (i := 16) nd rfl (Or.inl rfl) (pe_ifExp (PW.pt (pw_or (pt_cmpR u_gt (pe_op u_div (pe_op u_sub (pv 15) pe_int) pe_int) (pv 13) (nomark _)) (pw_or1 (pt_cmpR u_gt (pe_op u_mod (pe_op u_sub (pv 15) pe_int) pe_int) (pv 14) (nomark _))))) pe_str pe_str))) pss_nil)
  (pss_one (ps_if (PW.pt (pw_or (pt_cmpR (w_ne (K := W.K) rfl hu) (px_c G_rule_of hr (takes_of rfl rfl rfl rfl) (pa_cons (pv 22) (pa_cons (pv 25) (pa_cons (pv 21) pa_nil)))) (pv 16) (nomark _)) (pw_or1 (pt_cmpR (w_ne (K := W.K) rfl hu) (px_mt0 G_Frame_value hr (takes_of rfl rfl rfl rfl) (pv 22) ) (pv 5) (nomark _))))) (pss_one (ps_ret pe_bl)) pss_nil))))))) pss_nil)
  p_big), ?_⟩
  intro S H K Y dd p l ki m n N R0 D pl x0 x6 x8 x9 x10 x11 x12 x13 x14 x15 x16 x17 x18 x19 x20 x23 x26 x27 R hk
  have h10 := ten5 R.many
  have hmany := R.many
  have hN := R.lt
  have f0 := R.fr
  have hpos : (10 : Nat) ^ R0 > 0 := Nat.pow_pos (by decide)
  refine sw_mid (fun δ S' H' => S' = S ∧ H' = H ∧ ∃ x6 x7 x8 x9 x10 x11 x12 x13 x14 x15 x16 x17 x18 x19 x20 x21 x23 x25 x26 x27, δ = [x0, some (.adr dd), some (.str ki), some (.int (n : Nat)), some (.int ((10 ^ n : Nat) : Int)), some (.int (N : Nat)), x6, x7, x8, x9, x10, x11, x12, x13, x14, x15, x16, x17, x18, x19, x20, x21, some (.adr p), x23, some (.bl pl), x25, x26, x27]) ?_ ?_
  · walk_at "da"
    · have hR : R0 < n := by omega
      have ha := at_plain (V := N) hR
      have hrow : drow N R0 = ((N : Int) / ((10 ^ R0 : Nat) : Int) % 10 / 5, (N : Int) / ((10 ^ R0 : Nat) : Int) % 10 % 5) := rfl
      have hdv : CDiv (N : Int) ((10 ^ R0 : Nat) : Int) := ⟨by exact_mod_cast hpos, by have := Nat.pow_le_pow_right (show 0 < 10 by decide) (show R0 ≤ n by omega); omega⟩
      have key : ∀ {v : Str} {Ψ : Ph} {Y' : Px}, ruleW ((N : Int) / ((10 ^ R0 : Nat) : Int) % 10 / 5, (N : Int) / ((10 ^ R0 : Nat) : Int) % 10 % 5) (D : Int) = v → Ψ (.str v) S H → fRule T [.adr p, .int (R0 : Nat), .int (D : Nat)] S H Ψ Y' := fun {v Ψ Y'} e qq =>
        ⟨p, l, ki, _, _, _, rfl, f0, by rw [plain_len]; omega, fun c => absurd (by rw [plain_len]; omega) c, fun _ c => absurd ⟨plain_isPlain _ _, by omega⟩ c, fun _ _ _ => by rw [ha, hrow, e]; exact qq⟩
      have fin : ∀ {Ψ : Ph} {Y' : Px}, Ψ (.int (N : Nat)) S H → fValue T [.adr p] S H Ψ Y' := fun {Ψ Y'} q => ⟨p, l, ki, _, rfl, f0, by rw [plain_len]; omega, by rw [plain_val n N hN]; exact q⟩
      have hQ0 : 0 ≤ (N : Int) / ((10 ^ R0 : Nat) : Int) := Int.ediv_nonneg (by omega) (by omega)
      refine ⟨_, _, rfl, ?_⟩
      clear hrow ha
      walk_at "da"
      all_goals first
        | exact hdv
        | skip
      all_goals generalize (N : Int) / ((10 ^ R0 : Nat) : Int) = Q at *
      all_goals first
        | (exfalso; omega)
        | refine key (ruleW_none (by omega)) ?_
        | refine key (ruleW_five (by omega) (by omega) (by omega)) ?_
        | refine key (ruleW_plain (by omega) (by omega) (by omega)) ?_
        | refine key (ruleW_both (by omega) (by omega) (by omega)) ?_
        | refine key (ruleW_ten (by omega) (by omega) (by omega)) ?_
      all_goals walk_at "d"
      all_goals refine lf_ne_no (ok_str (by decide +kernel)) ?_
      all_goals walk_at "d"
      all_goals refine fin ?_
      all_goals walk_at "d"
      all_goals refine ⟨fun c => absurd c (by simp), fun _ => ?_⟩
      all_goals walk_at "sw"
      all_goals exact ⟨rfl, rfl, _, _, _, _, _, _, _, _, _, _, _, _, _, _, _, _, _, _, _, _, rfl⟩
    · exact ⟨by exact_mod_cast hpos, by have := Nat.pow_le_pow_right (show 0 < 10 by decide) (show R0 ≤ n by omega); omega⟩
    · exact ⟨by exact_mod_cast hpos, by have := Nat.pow_le_pow_right (show 0 < 10 by decide) (show R0 ≤ n by omega); omega⟩
    all_goals exact ⟨rfl, rfl, _, _, _, _, _, _, _, _, _, _, _, _, _, _, _, _, _, _, _, _, rfl⟩
  · rintro δ S' H' ⟨rfl, rfl, x6, x7, x8, x9, x10, x11, x12, x13, x14, x15, x16, x17, x18, x19, x20, x21, x23, x25, x26, x27, rfl⟩
    exact h_big R hk
theorem tens6 {r : Nat} (h : r ≤ 5) : atI [Dv.int 1, .int 10, .int 100, .int 1000, .int 10000, .int 100000] (r : Int) = some (.int ((10 ^ r : Nat) : Int)) := by
  have : r = 0 ∨ r = 1 ∨ r = 2 ∨ r = 3 ∨ r = 4 ∨ r = 5 := by omega
  rcases this with rfl | rfl | rfl | rfl | rfl | rfl <;> rfl
theorem can_iff {pl : Bool} {N n R0 D : Nat} (hN : N < 10 ^ n) : (0 ≤ (if pl = true then (N : Int) + (D : Int) * ((10 ^ R0 : Nat) : Int) else (N : Int) - (D : Int) * ((10 ^ R0 : Nat) : Int)) ∧ (if pl = true then (N : Int) + (D : Int) * ((10 ^ R0 : Nat) : Int) else (N : Int) - (D : Int) * ((10 ^ R0 : Nat) : Int)) < ((10 ^ n : Nat) : Int)) ↔ can pl N D R0 n := by
  unfold can
  have e : (D : Int) * ((10 ^ R0 : Nat) : Int) = ((10 ^ R0 * D : Nat) : Int) := by rw [Int.mul_comm]; exact (Int.natCast_mul ..).symm
  rw [e]
  generalize 10 ^ R0 * D = q
  generalize 10 ^ n = P at *
  cases pl with
  | true => simp only [if_true]; omega
  | false => simp only [Bool.false_eq_true, if_false]; omega
theorem res_int {pl : Bool} {N n R0 D : Nat} (h : can pl N D R0 n) : ((res pl N D R0 : Nat) : Int) = (if pl = true then (N : Int) + (D : Int) * ((10 ^ R0 : Nat) : Int) else (N : Int) - (D : Int) * ((10 ^ R0 : Nat) : Int)) := by
  unfold can at h
  unfold res
  have e : (D : Int) * ((10 ^ R0 : Nat) : Int) = ((10 ^ R0 * D : Nat) : Int) := by rw [Int.mul_comm]; exact (Int.natCast_mul ..).symm
  rw [e]
  generalize 10 ^ R0 * D = q at *
  cases pl with
  | true => simp only [if_true] at *; omega
  | false => simp only [Bool.false_eq_true, if_false] at *; omega
theorem res_lt {pl : Bool} {N n R0 D : Nat} (hN : N < 10 ^ n) (h : can pl N D R0 n) : res pl N D R0 < 10 ^ n := by
  unfold can at h
  unfold res
  cases pl with
  | true => simp only [if_true] at *; omega
  | false => simp only [Bool.false_eq_true, if_false] at *; omega
theorem pt_step {f : Addr} {A : Around} {outer : List Env} {s : Shared} {Hc : Hp} {E : XK} {cT Pt : Addr} (T : Txt w W mg) (G__law_roll : CalX P w W.K mg base 2 "_law_roll" 2 (toSp W (fRoll W))) (G_Frame_copied : MetX P w W.K mg base 3 T.CF "copied" (toSp W (fCopied T))) (G_add_digit : CalX P w W.K mg base 5 "add_digit" 3 (toSp W ((fDig true) T))) (G_take_digit : CalX P w W.K mg base 5 "take_digit" 3 (toSp W ((fDig false) T))) (G_Frame_value : MetX P w W.K mg base 4 T.CF "value" (toSp W (fValue T))) (G__law_moves : CalX P w W.K mg base 1 "_law_moves" 2 (toSp W (fMovesL))) (G__law_plain : CalX P w W.K mg base 1 "_law_plain" 2 (toSp W (fPlainL))) (G_Frame_is_plain : MetX P w W.K mg base 1 T.CF "is_plain" (toSp W (fPlain T))) (G_all_moved : CalX P w W.K mg base 4 "all_moved" 2 (toSp W (fAllMoved T))) (G_rule_of : CalX P w W.K mg base 4 "rule_of" 3 (toSp W (fRule T))) (G_add : CalX P w W.K mg base 7 "add" 2 (toSp W ((fAddN true) T))) (G_take : CalX P w W.K mg base 7 "take" 2 (toSp W ((fAddN false) T))) (TBL : LamX.TabB base mg cT Pt) (hTL : (Pt, (("law" : Str) ++ ".<locals>.") ++ "<lambda>") ∈ W.TL ∧ ∀ p ∈ W.TL, p.1 = Pt → p.2 = (("law" : Str) ++ ".<locals>.") ++ "<lambda>") (hTG : Pt ∉ W.TG) (hr : Room 14 (A.deeper (envOfC "law" (defScope s_law) s.heap.objs.size f (.ref cT)))) :
    ∃ t, PS (X_law P w W mg base f cT A outer s Hc E) ((bodyOf ((defBody s_law).getD 0 (.Pass ⟨0, 0, 0, 0⟩))).getD 4 (.Pass ⟨0, 0, 0, 0⟩)) t ∧ (∀ {S : List Addr} {H : Hp} {K : Ks} {Y : Px} {dd p l : Addr} {ki : Str} {m : Row} {n N : Nat} {x0 x6 x7 x8 x9 x10 x11 x12 x13 x14 x15 x16 x17 x18 x19 x20 x21 x23 x24 x25 x26 x27 : Option Dv}, Rd W T.CF S H dd p l ki m n N →
  (∀ δ S' H' l' N', UpT W [dd, p] S H S' H' → Rd W T.CF S' H' dd p l' ki m n N' → (∃ q6 q7 q8 q9 q10 q11 q12 q13 q14 q15 q16 q17 q18 q19 q20 q21 q23 q24 q25 q26 q27, δ = [x0, some (.adr dd), some (.str ki), some (.int (n : Nat)), some (.int ((10 ^ n : Nat) : Int)), some (.int (N' : Nat)), q6, q7, q8, q9, q10, q11, q12, q13, q14, q15, q16, q17, q18, q19, q20, q21, some (.adr p), q23, q24, q25, q26, q27]) → K.nx δ S' H') →
  Sw W E t [x0, some (.adr dd), some (.str ki), some (.int (n : Nat)), some (.int ((10 ^ n : Nat) : Int)), some (.int (N : Nat)), x6, x7, x8, x9, x10, x11, x12, x13, x14, x15, x16, x17, x18, x19, x20, x21, some (.adr p), x23, x24, x25, x26, x27] S H K Y
) := by
  have nd := sc_law.nd
  have hu := hr.units
  have hu1 := hu_of hr
  obtain ⟨t_rule, p_rule, h_rule⟩ := pt_rule (outer := outer) (s := s) (Hc := Hc) (E := E) T G_rule_of G_Frame_value G__law_roll G_Frame_copied G_add G_take G_all_moved TBL hTL hTG hr
  refine ⟨_, (ps_for (passes_of rfl) rfl (pi_range1 (by rfl) T.z_range (pa_cons pe_int pa_nil)) (pg_name (i := 6) nd rfl (Or.inl rfl)) (pss_cons (ps_asg (pe_tup (pa_cons (px_c G__law_roll hr (takes_of rfl rfl rfl rfl) (pa_cons (pv 1) (pa_cons pe_int pa_nil))) (pa_cons (px_c G__law_roll hr (takes_of rfl rfl rfl rfl) (pa_cons (pv 1) (pa_cons (pe_op (w_add (K := W.K) rfl) (pv 3) pe_int) pa_nil))) pa_nil))) (w_seq (K := W.K) (n := 2) rfl rfl (pgs_cons (pg_name (i := 21) nd rfl (Or.inr rfl)) (pgs_cons (pg_name (i := 25) nd rfl (Or.inr rfl)) pgs_nil))))
  (pss_cons (ps_par (i := 7) (j := 8) (by rfl) nd rfl rfl (by decide) rfl rfl (pa_cons (pe_ix (w_ix (K := W.K) rfl) (pe_lst (pa_cons pe_int (pa_cons pe_int (pa_cons pe_int (pa_cons pe_int (pa_cons pe_int (pa_cons pe_int pa_nil))))))) (pv 25) (fun _ _ => rfl)) (pa_cons (px_mt0 G_Frame_copied hr (takes_of rfl rfl rfl rfl) (pv 22) ) pa_nil)) (by rfl))
  (pss_cons (ps_set (i := 24) nd rfl (Or.inr rfl) (pe_cmpR (w_eq (K := W.K) rfl hu) (px_c G__law_roll hr (takes_of rfl rfl rfl rfl) (pa_cons (pv 1) (pa_cons pe_int pa_nil))) pe_int (nomark _)))
  (pss_cons (ps_set (i := 9) nd rfl (Or.inl rfl) (pe_ifExp (pt_val (pv 24)) (pe_op (w_add (K := W.K) rfl) (pv 5) (pe_op u_mul (pv 21) (pv 7))) (pe_op u_sub (pv 5) (pe_op u_mul (pv 21) (pv 7)))))
  (pss_cons (ps_set (i := 10) nd rfl (Or.inl rfl) (pe_and (pe_cmpR (w_lt (K := W.K) rfl hu) (pv 21) pe_int (nomark _)) (pe_and (pe_cmpR (w_lt (K := W.K) rfl hu) (pv 25) (pv 3) (nomark _)) (pe_one (pe_chain u_le (w_lt (K := W.K) rfl hu) pe_int (pv 9) (pv 4))))))
  (pss_cons (ps_set (i := 11) nd rfl (Or.inl rfl) (Lm.pe_toldV T.told (by rfl) hr (Lm.pe_lamV (k := 12) TBL rfl rfl ⟨LamX.lamS_by (sc := defScope s_law) (by decide +kernel), fun _ _ _ _ _ => rfl, fun A outer s H E f c' hr => (pe_ifExp (pt_val (pv 24)) (px_c G_add_digit hr (takes_of rfl rfl rfl rfl) (pa_cons (pv 22) (pa_cons (pv 25) (pa_cons (pv 21) pa_nil)))) (px_c G_take_digit hr (takes_of rfl rfl rfl rfl) (pa_cons (pv 22) (pa_cons (pv 25) (pa_cons (pv 21) pa_nil)))))⟩)))
  (pss_cons (ps_if (PW.pt (pw_or (pt_cmpR (w_eq (K := W.K) rfl hu) (pe_cmpR (w_eqU (K := W.K) rfl hu) (pv 11) pe_str (nomark _)) (pv 10) (nomark _)) (pw_or1 (pt_cmpR (w_ne (K := W.K) rfl hu) (px_mt0 G_Frame_value hr (takes_of rfl rfl rfl rfl) (pv 22) ) (pe_ifExp (pt_val (pv 10)) (pv 9) (pv 5)) (nomark _))))) (pss_one (ps_ret pe_bl)) pss_nil)
  (pss_cons (ps_if (pt_val (pv 10)) (pss_cons (ps_set (i := 12) nd rfl (Or.inl rfl) (px_c G__law_moves hr (takes_of rfl rfl rfl rfl) (pa_cons (px_c G__law_plain hr (takes_of rfl rfl rfl rfl) (pa_cons (pv 5) (pa_cons (pv 3) pa_nil))) (pa_cons (px_c G__law_plain hr (takes_of rfl rfl rfl rfl) (pa_cons (pv 9) (pa_cons (pv 3) pa_nil))) pa_nil))))
  (pss_cons (ps_if (PW.pt (pw_or (pt_cmpR (w_ne (K := W.K) rfl hu) (pe_lc (own := [("move", 26)]) rfl nd (w_any (K := W.K) rfl (pv 11)) (blkOk_by (by rfl)) (fun _ _ _ _ _ => (pg_name (i := 26) nd rfl (Or.inl rfl))) (fun _ _ _ _ _ => pts_nil) (fun _ _ _ _ _ => (pe_tup (pa_cons (w_fld (K := W.K) rfl (pv 26)) (pa_cons (w_fld (K := W.K) rfl (pv 26)) (pa_cons (w_fld (K := W.K) rfl (pv 26)) pa_nil)))))) (pv 12) (nomark _)) (pw_or1 (pt_not (pt_val (px_mt0 G_Frame_is_plain hr (takes_of rfl rfl rfl rfl) (pv 22) )))))) (pss_one (ps_ret pe_bl)) pss_nil)
  (pss_cons (ps_expr (px_c G_all_moved hr (takes_of rfl rfl rfl rfl) (pa_cons (pv 8) (pa_cons (pv 11) pa_nil))))
  (pss_cons (ps_if (pt_cmpR (w_ne (K := W.K) rfl hu) (w_fld (K := W.K) rfl (pv 8)) (w_fld (K := W.K) rfl (pv 22)) (nomark _)) (pss_one (ps_ret pe_bl)) pss_nil)
  (pss_one (ps_set (i := 5) nd rfl (Or.inl rfl) (pv 9))))))) pss_nil)
  p_rule))))))))), ?_⟩
  intro S H K Y dd p l ki m n N0 x0 x6 x7 x8 x9 x10 x11 x12 x13 x14 x15 x16 x17 x18 x19 x20 x21 x23 x24 x25 x26 x27 R0' hk
  have hmany := R0'.many
  have h10 := ten5 R0'.many
  refine sw_forN ?_
  walk_at "dx"
  refine lf_rng1 (n := 8) rfl (by decide) ?_
  refine loop_rng (fun i δ S' H' => ∃ (l' : Addr) (N : Nat), UpT W [dd, p] S H S' H' ∧ Rd W T.CF S' H' dd p l' ki m n N ∧ ∃ x6 x7 x8 x9 x10 x11 x12 x13 x14 x15 x16 x17 x18 x19 x20 x21 x23 x24 x25 x26 x27, δ = [x0, some (.adr dd), some (.str ki), some (.int (n : Nat)), some (.int ((10 ^ n : Nat) : Int)), some (.int (N : Nat)), x6, x7, x8, x9, x10, x11, x12, x13, x14, x15, x16, x17, x18, x19, x20, x21, some (.adr p), x23, x24, x25, x26, x27]) ?_ ?_ ?_
  · exact ⟨l, N0, .refl, R0', _, _, _, _, _, _, _, _, _, _, _, _, _, _, _, _, _, _, _, _, _, rfl⟩
  · rintro i δ S' H' hi ⟨l, N, u0, R, x6, x7, x8, x9, x10, x11, x12, x13, x14, x15, x16, x17, x18, x19, x20, x21, x23, x24, x25, x26, x27, rfl⟩
    have hN := R.lt
    refine gw_name ?_
    walk_at "sw"
    walk_at "sw"
    walk_at "dx"
    refine R.roll_ (by decide) fun z1 H1 hz1 m1 R1 => ?_
    walk_at "dx"
    refine R1.roll_ (by omega) fun z2 H2 hz2 m2 R2 => ?_
    walk_at "dx"
    obtain ⟨D, rfl⟩ := Int.eq_ofNat_of_zero_le hz1.1
    obtain ⟨R0, rfl⟩ := Int.eq_ofNat_of_zero_le hz2.1
    have f2 := R2.fr
    have hm5 : R0 ≤ 5 := by omega
    have hp5 : (10 : Nat) ^ R0 ≤ 100000 := Nat.pow_le_pow_right (show 0 < 10 by decide) hm5
    have hmul : (D : Int) * ((10 ^ R0 : Nat) : Int) ≤ 1000000 := by
      have h1 := Nat.mul_le_mul (show D ≤ 10 by omega) hp5
      have e : (D : Int) * ((10 ^ R0 : Nat) : Int) = ((D * 10 ^ R0 : Nat) : Int) := (Int.natCast_mul ..).symm
      rw [e]
      omega
    walk_at "sw"
    walk_at "sw"
    walk_at "dx"
    refine ⟨by show 6 ≤ sizeLine; decide, ?_⟩
    walk_at "dx"
    refine lf_ix_lst (tens6 hm5) ?_
    walk_at "dx"
    refine ⟨p, l, ki, _, m, rfl, R2.fr, R.hm, by rw [plain_len]; omega, fun y ly S3 H3 u3 f3 hy hly => ?_⟩
    have R3 := R2.up u3
    have yp : y ≠ p := fun q => (FrameAt.nn R2.fr).1 (by rw [← q]; exact hy)
    walk_at "dx"
    refine ⟨_, _, rfl, ?_⟩
    walk_at "sw"
    walk_at "sw"
    walk_at "dx"
    refine R3.roll_ (by decide) fun z3 H4 hz3 m4 R4 => ?_
    walk_at "dx"
    obtain ⟨pl, hpl⟩ : ∃ pl, decide (z3 = 0) = pl := ⟨_, rfl⟩
    rw [hpl]
    have f4 := FrameAt.md f3 m4 (fun q => R2.ddn (by rw [← List.mem_singleton.mp q]; exact hy)) (fun q => R2.ddn (by rw [← List.mem_singleton.mp q]; exact hly)) (fun x hx => R3.inS x (mdd (p := p) hx))
    refine sw_mid (fun δ S' H' => S' = S3 ∧ H' = H4 ∧ ∃ x6 x10 x11 x12 x13 x14 x15 x16 x17 x18 x19 x20 x23 x26 x27, δ = [x0, some (.adr dd), some (.str ki), some (.int (n : Nat)), some (.int ((10 ^ n : Nat) : Int)), some (.int (N : Nat)), x6, some (.int ((10 ^ R0 : Nat) : Int)), some (.adr y), some (.int (if pl = true then (N : Int) + (D : Int) * ((10 ^ R0 : Nat) : Int) else (N : Int) - (D : Int) * ((10 ^ R0 : Nat) : Int))), x10, x11, x12, x13, x14, x15, x16, x17, x18, x19, x20, some (.int (D : Nat)), some (.adr p), x23, some (.bl pl), some (.int (R0 : Nat)), x26, x27]) ?_ ?_
    · cases pl with
      | true =>
        walk_at "d"
        · exact ⟨rfl, rfl, _, _, _, _, _, _, _, _, _, _, _, _, _, _, _, rfl⟩
        all_goals exact .inl ⟨by omega, by omega⟩
      | false =>
        walk_at "d"
        · exact ⟨rfl, rfl, _, _, _, _, _, _, _, _, _, _, _, _, _, _, _, rfl⟩
        all_goals exact .inl ⟨by omega, by omega⟩
    rintro δ S' H' ⟨rfl, rfl, x6, x10, x11, x12, x13, x14, x15, x16, x17, x18, x19, x20, x23, x26, x27, rfl⟩
    have hiff := can_iff (pl := pl) (n := n) (R0 := R0) (D := D) hN
    have hres := res_int (pl := pl) (N := N) (n := n) (R0 := R0) (D := D)
    generalize hL : (if pl = true then (N : Int) + (D : Int) * ((10 ^ R0 : Nat) : Int) else (N : Int) - (D : Int) * ((10 ^ R0 : Nat) : Int)) = L at *
    refine sw_mid (fun δ S2 H2 => S2 = S' ∧ H2 = H' ∧ ∃ x6 x11 x12 x13 x14 x15 x16 x17 x18 x19 x20 x23 x26 x27, δ = [x0, some (.adr dd), some (.str ki), some (.int (n : Nat)), some (.int ((10 ^ n : Nat) : Int)), some (.int (N : Nat)), x6, some (.int ((10 ^ R0 : Nat) : Int)), some (.adr y), some (.int L), some (.bl (decide ((D : Int) < 10 ∧ (R0 : Int) < (n : Nat) ∧ 0 ≤ L ∧ L < ((10 ^ n : Nat) : Int)))), x11, x12, x13, x14, x15, x16, x17, x18, x19, x20, some (.int (D : Nat)), some (.adr p), x23, some (.bl pl), some (.int (R0 : Nat)), x26, x27]) ?_ ?_
    · walk_at "da"
      all_goals refine ⟨rfl, rfl, ?_⟩
      · have e : decide ((D : Int) < 10 ∧ (R0 : Int) < (n : Nat) ∧ 0 ≤ L ∧ L < ((10 ^ n : Nat) : Int)) = decide (L < ((10 ^ n : Nat) : Int)) := by rw [decide_eq_decide]; omega
        rw [e]
        exact ⟨_, _, _, _, _, _, _, _, _, _, _, _, _, _, rfl⟩
      all_goals
        have e : decide ((D : Int) < 10 ∧ (R0 : Int) < (n : Nat) ∧ 0 ≤ L ∧ L < ((10 ^ n : Nat) : Int)) = false := by rw [decide_eq_false_iff_not]; omega
        rw [e]
        exact ⟨_, _, _, _, _, _, _, _, _, _, _, _, _, _, rfl⟩
    rintro δ S1 H1 ⟨rfl, rfl, x6, x11, x12, x13, x14, x15, x16, x17, x18, x19, x20, x23, x26, x27, rfl⟩
    have key : ∀ {S6 H6} {Ψ : Ph} {Y' : Px}, Rd W T.CF S6 H6 dd p l ki m n N → (¬ ((D : Int) < 10 ∧ (R0 : Int) < (n : Nat) ∧ 0 ≤ L ∧ L < ((10 ^ n : Nat) : Int)) → ∀ S7 H7 c, Up W S6 H6 S7 H7 → PySem.W.exmOne W.K c (.ref T.xA) = some true → Y' c S7 H7) →
        (((D : Int) < 10 ∧ (R0 : Int) < (n : Nat) ∧ 0 ≤ L ∧ L < ((10 ^ n : Nat) : Int)) → ∀ ms (N' : Nat) l7 S7 H7, (N' : Int) = L → ms = mB (plain N n) (plain N' n) n → pushes m (plain N n) ms = some (plain N' n) → UpT W [p] S6 H6 S7 H7 → Rd W T.CF S7 H7 dd p l7 ki m n N' → Ψ (.tup (ms.map mvD)) S7 H7) → fDig pl T [.adr p, .int (R0 : Nat), .int (D : Nat)] S6 H6 Ψ Y' := by
      intro S6 H6 Ψ Y' R6 e1 e2
      refine ⟨p, l, ki, _, (R0 : Nat), (D : Nat), m, N, rfl, R6.fr, R.hm, by rw [plain_len]; omega, .inr ⟨by rw [plain_len], by rw [plain_len]; exact hN⟩, fun c => e1 (fun g => c ?_) S6 H6 _ .refl T.exF, fun hr c S7 H7 u7 => e1 (fun g => c ⟨plain_isPlain _ _, by omega, ?_⟩) S7 H7 _ u7 T.exS, fun hr _ hd hc ms l7 S7 H7 hpu hms u7 hl7 f7 => ?_⟩
      · rw [plain_len]; omega
      · rw [plain_len]; simp only [Int.toNat_natCast]; exact hiff.mp g.2.2
      · simp only [plain_len, Int.toNat_natCast] at hr hc hpu hms f7
        have hLL := hiff.mpr hc
        exact e2 ⟨by omega, by omega, hLL⟩ ms _ l7 S7 H7 (hres hc) hms hpu u7 (R6.put u7 hl7 f7 (res_lt hN hc))
    refine sw_mid (fun δ S' H' => ∃ (l' : Addr) (N' : Nat) (mv : Dv), UpT W [p] S1 H1 S' H' ∧ Rd W T.CF S' H' dd p l' ki m n N' ∧ FrameAt W T.CF S' H' y ly ki (plain N n) ∧ ((¬ ((D : Int) < 10 ∧ (R0 : Int) < (n : Nat) ∧ 0 ≤ L ∧ L < ((10 ^ n : Nat) : Int)) ∧ N' = N ∧ mv = Dv.str "AbacusError") ∨ (((D : Int) < 10 ∧ (R0 : Int) < (n : Nat) ∧ 0 ≤ L ∧ L < ((10 ^ n : Nat) : Int)) ∧ (N' : Int) = L ∧ ∃ ms, mv = .tup (ms.map mvD) ∧ ms = mB (plain N n) (plain N' n) n ∧ pushes m (plain N n) ms = some (plain N' n))) ∧
      ∃ x6 x12 x13 x14 x15 x16 x17 x18 x19 x20 x23 x26 x27, δ = [x0, some (.adr dd), some (.str ki), some (.int (n : Nat)), some (.int ((10 ^ n : Nat) : Int)), some (.int (N : Nat)), x6, some (.int ((10 ^ R0 : Nat) : Int)), some (.adr y), some (.int L), some (.bl (decide ((D : Int) < 10 ∧ (R0 : Int) < (n : Nat) ∧ 0 ≤ L ∧ L < ((10 ^ n : Nat) : Int)))), some (mv), x12, x13, x14, x15, x16, x17, x18, x19, x20, some (.int (D : Nat)), some (.adr p), x23, some (.bl pl), some (.int (R0 : Nat)), x26, x27]) ?_ ?_
    · walk_at "sw"
      refine Lm.ew_told rfl hTL.1 hTL.2 hTG fun E' H6 m6 => ?_
      have R6 := R4.up (Up.of m6)
      have f6 := f4.up (Up.of m6)
      have fin : ∀ {Ψ : Ph}, (∀ l' (N' : Nat) mv S' H', UpT W [p] S1 H1 S' H' → Rd W T.CF S' H' dd p l' ki m n N' → FrameAt W T.CF S' H' y ly ki (plain N n) → ((¬ ((D : Int) < 10 ∧ (R0 : Int) < (n : Nat) ∧ 0 ≤ L ∧ L < ((10 ^ n : Nat) : Int)) ∧ N' = N ∧ mv = Dv.str "AbacusError") ∨ (((D : Int) < 10 ∧ (R0 : Int) < (n : Nat) ∧ 0 ≤ L ∧ L < ((10 ^ n : Nat) : Int)) ∧ (N' : Int) = L ∧ ∃ ms, mv = .tup (ms.map mvD) ∧ ms = mB (plain N n) (plain N' n) n ∧ pushes m (plain N n) ms = some (plain N' n))) → Ψ mv S' H') →
          fDig pl T [.adr p, .int (R0 : Nat), .int (D : Nat)] S1 H6 Ψ (Lm.catB W T.xA "AbacusError" Ψ) := fun {Ψ} h => key R6 (fun g S7 H7 c u7 ex => ⟨ex, h l N _ S7 H7 ((UpT.refl.up (Up.of m6)).up u7) (R6.up u7) (f6.up u7) (.inl ⟨g, rfl, rfl⟩)⟩)
            (fun g ms N' l7 S7 H7 e hms hpu u7 R7 => h l7 N' _ S7 H7 ((UpT.refl.up (Up.of m6)).trans u7 fun _ q => .inl q) R7 (FrameAt.upt f6 u7 (fun q => yp (List.mem_singleton.mp q)) (fun q => LstAt.nep f6.rl R6.fr (List.mem_singleton.mp q)) (fun x hx => R6.inS x (List.mem_cons_of_mem _ hx))) (.inr ⟨g, e, ms, rfl, hms, hpu⟩))
      cases pl with
      | true =>
        walk_at "d"
        refine fin fun l' N' mv S' H' a1 a2 a3 a4 => ?_
        exact ⟨l', N', mv, a1, a2, a3, a4, _, _, _, _, _, _, _, _, _, _, _, _, _, rfl⟩
      | false =>
        walk_at "d"
        refine fin fun l' N' mv S' H' a1 a2 a3 a4 => ?_
        exact ⟨l', N', mv, a1, a2, a3, a4, _, _, _, _, _, _, _, _, _, _, _, _, _, rfl⟩
    rintro δ S7 H7 ⟨l7, N7, mv, u7, R7, f7, hc, x6, x12, x13, x14, x15, x16, x17, x18, x19, x20, x23, x26, x27, rfl⟩
    have um := ((((u0.mdt m1 fun q hq => .inl (mdd hq)).mdt m2 fun q hq => .inl (mdd hq)).up u3).mdt m4 fun q hq => .inl (mdd hq)).trans u7 fun q hq => .inl (mpp hq)
    have f8 := R7.fr
    walk_at "sw"
    rcases hc with ⟨hg, rfl, rfl⟩ | ⟨hg, hL7, ms, rfl, hms, hpu⟩
    · rw [decide_eq_false hg]
      walk_at "sw"
      walk_at "dxn"
      refine ew_op dEq (ew_op dEqU ?_)
      walk_at "d"
      refine lf_eqU (lf_eq_yes (ok_str (by decide +kernel)) ?_)
      walk_at "d"
      refine lf_eq_bl_no (by decide) ?_
      walk_at "dx"
      refine ⟨p, l7, ki, _, rfl, R7.fr, by rw [plain_len]; omega, ?_⟩
      rw [plain_val n _ R7.lt]
      walk_at "dx"
      refine ⟨fun q => absurd q (by simp), fun _ => ?_⟩
      walk_at "sw"
      walk_at "sw"
      walk_at "sw"
      walk_at "dx"
      walk_at "sw"
      exact h_rule R7 fun δ S8 H8 l8 N8 u8 R8 e => ⟨l8, N8, um.trans u8 fun _ h => .inl h, R8, e⟩
    · rw [decide_eq_true hg]
      have hlen := mB_len (plain N n) (plain N7 n) n
      have hok := mB_ok (plain N n) (plain N7 n) n
      rw [← hms] at hlen hok
      walk_at "sw"
      walk_at "dxn"
      refine ew_op dEq (ew_op dEqU ?_)
      walk_at "d"
      refine lf_eqTS ?_
      walk_at "d"
      refine lf_eq_bl_no (by decide) ?_
      walk_at "dx"
      refine ⟨p, l7, ki, _, rfl, R7.fr, by rw [plain_len]; omega, ?_⟩
      rw [plain_val n _ R7.lt, hL7]
      walk_at "dx"
      refine ⟨fun q => absurd q (by simp), fun _ => ?_⟩
      walk_at "sw"
      walk_at "sw"
      walk_at "sw"
      walk_at "dx"
      walk_at "sw"
      walk_at "sw"
      walk_at "dx"
      refine ⟨_, _, N, n, rfl, rfl, rfl, by omega, ?_⟩
      walk_at "dx"
      refine ⟨_, _, N7, n, rfl, hL7.symm, rfl, by omega, ?_⟩
      walk_at "dx"
      refine ⟨plain N n, plain N7 n, rfl, by rw [plain_len, plain_len], by rw [plain_len]; omega, ?_⟩
      rw [plain_len, ← hms]
      walk_at "dx"
      walk_at "sw"
      walk_at "sw"
      walk_at "dxn"
      refine ew_op dNe ?_
      refine ew_lcN (iw_anyT ?_)
      walk_at "dx"
      refine lc_map (xs := ms) (D := mvD) (fun x => [x0, some (.adr dd), some (.str ki), some (.int (n : Nat)), some (.int ((10 ^ n : Nat) : Int)), some (.int (N : Nat)), x6, some (.int ((10 ^ R0 : Nat) : Int)), some (.adr y), some (.int L), some (.bl true), some (.tup (ms.map mvD)), some (.lst (ms.map rwD)), x13, x14, x15, x16, x17, x18, x19, x20, some (.int (D : Nat)), some (.adr p), x23, some (.bl pl), some (.int (R0 : Nat)), some (mvD x), x27]) rwD (by omega) (fun _ _ _ => trivial) (fun x _ => cg_of (cs_name (by decide))) (fun x _ S5 H5 u => ?_) ?_
      · walk_at "d"
        exact same_rfl rfl
      walk_at "d"
      refine lf_ne_rws rfl (fun x hx => (hok x hx).str) ?_
      walk_at "dx"
      refine ⟨p, l7, ki, _, rfl, f8, ?_⟩
      rw [plain_isPlain]
      walk_at "dx"
      refine ⟨fun q => absurd q (by simp), fun _ => ?_⟩
      walk_at "sw"
      walk_at "sw"
      walk_at "sw"
      walk_at "dx"
      refine ⟨y, ly, ki, _, m, _, ms, rfl, .inr rfl, f7, R.hm, by rw [plain_len]; omega, fun x hx => ⟨(hok x hx).1, (hok x hx).str⟩, fun c => ?_, fun o' _ ho l9 S9 H9 m9 s9 n9 hl9 f9 => ?_⟩
      · rcases c with c | c
        · omega
        · rw [hpu] at c; cases c
      have eo : plain N7 n = o' := Option.some.inj (hpu.symm.trans ho)
      rw [← eo] at f9
      have R9 : Rd W T.CF S9 H9 dd p l7 ki m n N7 := R7.upt ⟨m9, s9, n9⟩ fun x hx => by
        rw [List.mem_singleton.mp hx]
        exact ⟨fun q => R2.ddn (by rw [← q]; exact hy), yp, fun q => LstAt.nep R7.fr.rl f7 q.symm, f7.pS⟩
      have um9 := um.trans ⟨m9, s9, n9⟩ fun x hx => .inr (by rw [List.mem_singleton.mp hx]; exact u0.md.free (m1.free (m2.free hy)))
      have f10 := R9.fr
      walk_at "dx"
      walk_at "sw"
      walk_at "sw"
      walk_at "dxn"
      refine ew_op dNe2 ?_
      walk_at "d"
      refine lf_ne2_fr f9 f10 rfl ?_
      walk_at "dx"
      walk_at "sw"
      walk_at "sw"
      walk_at "dx"
      rw [← hL7]
      exact h_rule R9 fun δ S8 H8 l8 N8 u8 R8 e => ⟨l8, N8, um9.trans u8 fun _ h => .inl h, R8, e⟩
  · rintro δ S' H' ⟨l', N, u, R, e⟩
    exact hk _ _ _ l' N u R e
/-- around the round: all that stood stands, the rounds' list at p -/
structure Bg (W : Wd) (S : List Addr) (H0 : Hp) (S' : List Addr) (H' : Hp) (p q : Addr) : Prop where
  up : Up W S H0 S' H'
  lp : LstAt W S' H' p [.adr q]
theorem Bg.ext {H0 H1 : Hp} {S1 : List Addr} {p q : Addr} (b : Bg W S H0 S' H' p q) (u : Up W S' H' S1 H1) : Bg W S H0 S1 H1 p q := ⟨b.up.trans u, b.lp.up u⟩
theorem Bg.md {H0 H1 : Hp} {p q : Addr} {T : List Addr} (b : Bg W S H0 S' H' p q) (m : Md W T H' H1) (h : ∀ x ∈ T, H0 x = none ∧ x ≠ p ∧ x ∈ S') : Bg W S H0 S' H1 p q :=
  ⟨b.up.drop m fun x hx => (h x hx).1, b.lp.md m (fun z => (h _ z).2.1 rfl) fun x hx => (h x hx).2.2⟩
theorem kinds3 {z : Int} (h : 0 ≤ z ∧ z < 3) : ∃ ki m, mostOf ki = some m ∧ atI [Dv.str "one-four", .str "two-five", .str "one-five"] z = some (.str ki) := by
  have : z = 0 ∨ z = 1 ∨ z = 2 := by omega
  rcases this with rfl | rfl | rfl
  · exact ⟨"one-four", (1, 4), by decide +kernel, rfl⟩
  · exact ⟨"two-five", (2, 5), by decide +kernel, rfl⟩
  · exact ⟨"one-five", (1, 5), by decide +kernel, rfl⟩
theorem lst_in {a : Addr} {xs : List Dv} (h : LstAt W S H a xs) : a ∈ S ∧ H a ≠ none := by
  obtain ⟨hs, ys, e, _⟩ := h
  exact ⟨hs, by rw [e]; exact fun z => by cases z⟩
def fLaw (W : Wd) : Fs := fun ds S H Φ X => ∃ a ns, ds = [.adr a] ∧ ScrAt W S H a ns ∧ ∀ S' H', Up W S H S' H' → Φ (.bl true) S' H'
theorem Bg.upt {H0 H1 : Hp} {S1 : List Addr} {p q : Addr} {T : List Addr} (b : Bg W S H0 S' H' p q) (u : UpT W T S' H' S1 H1) (h : ∀ x ∈ T, H0 x = none ∧ x ≠ p ∧ x ∈ S') : Bg W S H0 S1 H1 p q :=
  ⟨u.drop b.up fun x hx => (h x hx).1, LstAt.upt b.lp u (fun z => (h _ z).2.1 rfl) fun x hx => (h x hx).2.2⟩
theorem tens5 {n : Nat} (h : 1 ≤ n ∧ n ≤ 5) : atI [Dv.int 10, .int 100, .int 1000, .int 10000, .int 100000] ((n : Int) - 1) = some (.int ((10 ^ n : Nat) : Int)) := by
  have : n = 1 ∨ n = 2 ∨ n = 3 ∨ n = 4 ∨ n = 5 := by omega
  rcases this with rfl | rfl | rfl | rfl | rfl <;> rfl
theorem ok_law {f : Addr} {fd : FuncData} (Fn : Fun W.K "law" "law" s_law f fd) (T : Txt w W mg) (G__law_rounds : CalX P w W.K mg base 2 "_law_rounds" 2 (toSp W (fRounds W))) (G__law_roll : CalX P w W.K mg base 2 "_law_roll" 2 (toSp W (fRoll W))) (G_k_Frame : MakX P w W.K mg base 1 "Frame" T.CF (toSp W (fInit T))) (G_Frame_show : MetX P w W.K mg base 4 T.CF "show" (toSp W (fShow T))) (G__law_ends : CalX P w W.K mg base 11 "_law_ends" 0 (toSp W (fEnds T))) (G_Frame_copied : MetX P w W.K mg base 3 T.CF "copied" (toSp W (fCopied T))) (G_add_digit : CalX P w W.K mg base 5 "add_digit" 3 (toSp W ((fDig true) T))) (G_take_digit : CalX P w W.K mg base 5 "take_digit" 3 (toSp W ((fDig false) T))) (G_Frame_value : MetX P w W.K mg base 4 T.CF "value" (toSp W (fValue T))) (G__law_moves : CalX P w W.K mg base 1 "_law_moves" 2 (toSp W (fMovesL))) (G__law_plain : CalX P w W.K mg base 1 "_law_plain" 2 (toSp W (fPlainL))) (G_Frame_is_plain : MetX P w W.K mg base 1 T.CF "is_plain" (toSp W (fPlain T))) (G_all_moved : CalX P w W.K mg base 4 "all_moved" 2 (toSp W (fAllMoved T))) (G_rule_of : CalX P w W.K mg base 4 "rule_of" 3 (toSp W (fRule T))) (G_add : CalX P w W.K mg base 7 "add" 2 (toSp W ((fAddN true) T))) (G_take : CalX P w W.K mg base 7 "take" 2 (toSp W ((fAddN false) T))) (G_running : CalX P w W.K mg base 8 "running" 2 (toSp W (fRunning T))) {cT Pt : Addr} (hcT : fd.code = .ref cT) (TBL : LamX.TabB base mg cT Pt) (hTL : (Pt, (("law" : Str) ++ ".<locals>.") ++ "<lambda>") ∈ W.TL ∧ ∀ p ∈ W.TL, p.1 = Pt → p.2 = (("law" : Str) ++ ".<locals>.") ++ "<lambda>") (hTG : Pt ∉ W.TG) :
    FnOk P w W.K mg base (L2.CX P w) 15 f fd ["script"] (toSp W (fLaw W)) := by
  have nd := sc_law.nd
  refine okD2 (kk := 14) Fn hcT sc_law (fun ds S H Φ X h => by obtain ⟨a, ns, rfl, hs, h1⟩ := h; rfl) fun A outer s H E hr => ?_
  have hu := hr.units
  have hu1 := hu_of hr
  obtain ⟨t_step, p_step, h_step⟩ := pt_step (outer := outer) (s := s) (Hc := H) (E := E) T G__law_roll G_Frame_copied G_add_digit G_take_digit G_Frame_value G__law_moves G__law_plain G_Frame_is_plain G_all_moved G_rule_of G_add G_take TBL hTL hTG hr
  obtain ⟨t_run, p_run, h_run⟩ := pt_run (outer := outer) (s := s) (Hc := H) (E := E) T G__law_roll G_running G_Frame_value TBL hTL hTG hr
  refine ⟨_, (pss_cons (ps_for (passes_of rfl) rfl (w_any (K := W.K) rfl (px_c G__law_rounds hr (takes_of rfl rfl rfl rfl) (pa_cons (pv 0) (pa_cons pe_int pa_nil)))) (pg_name (i := 1) nd rfl (Or.inr rfl)) (pss_cons (ps_par (i := 2) (j := 3) (by rfl) nd rfl rfl (by decide) rfl rfl (pa_cons (pe_ix (w_ix (K := W.K) rfl) (pe_lst (pa_cons pe_str (pa_cons pe_str (pa_cons pe_str pa_nil)))) (px_c G__law_roll hr (takes_of rfl rfl rfl rfl) (pa_cons (pv 1) (pa_cons pe_int pa_nil))) (fun _ _ => rfl)) (pa_cons (pe_op (w_add (K := W.K) rfl) pe_int (px_c G__law_roll hr (takes_of rfl rfl rfl rfl) (pa_cons (pv 1) (pa_cons pe_int pa_nil)))) pa_nil)) (by rfl))
  (pss_cons (ps_set (i := 4) nd rfl (Or.inl rfl) (pe_ix (w_ix (K := W.K) rfl) (pe_lst (pa_cons pe_int (pa_cons pe_int (pa_cons pe_int (pa_cons pe_int (pa_cons pe_int pa_nil)))))) (pe_op u_sub (pv 3) pe_int) (fun _ _ => rfl)))
  (pss_cons (ps_asg (pe_tup (pa_cons (px_mk G_k_Frame hr (takes_of rfl rfl rfl rfl) (pa_cons (pv 2) (pa_cons (pv 3) pa_nil))) (pa_cons (px_c G__law_roll hr (takes_of rfl rfl rfl rfl) (pa_cons (pv 1) (pa_cons (pv 4) pa_nil))) pa_nil))) (w_seq (K := W.K) (n := 2) rfl rfl (pgs_cons (pg_name (i := 22) nd rfl (Or.inr rfl)) (pgs_cons (pg_name (i := 5) nd rfl (Or.inl rfl)) pgs_nil))))
  (pss_cons (ps_expr (px_mt G_Frame_show hr (takes_of rfl rfl rfl rfl) (pv 22) (pa_cons (pv 5) pa_nil)))
  (pss_cons p_step
  p_run))))))
  (pss_one (ps_ret (px_c0 G__law_ends hr (takes_of rfl rfl rfl rfl) )))), fun ds S H0 Φ X hF => ?_⟩
  obtain ⟨a, ns, rfl, hs, h1⟩ := hF
  refine sw_seq ?_
  refine sw_forN ?_
  refine iw_anyM ?_
  walk_at "d"
  refine ⟨a, ns, rfl, hs, fun p q b i f S1 H1 u1 lp lq hp hq npq => ?_⟩
  refine ⟨p, _, rfl, lp, ?_⟩
  refine loop_of (xs := [q]) (D := Dv.adr) (fun j δ S' H' => Bg W S H0 S' H' p q ∧ (j = 0 → Dw.LstAt W S' H' q [.int b, .int i, .int f]) ∧ ∃ x1 x2 x3 x4 x5 x6 x7 x8 x9 x10 x11 x12 x13 x14 x15 x16 x17 x18 x19 x20 x21 x22 x23 x24 x25 x26 x27, δ = [some (.adr a), x1, x2, x3, x4, x5, x6, x7, x8, x9, x10, x11, x12, x13, x14, x15, x16, x17, x18, x19, x20, x21, x22, x23, x24, x25, x26, x27]) ⟨⟨u1, lp⟩, fun _ => lq, none, none, none, none, none, none, none, none, none, none, none, none, none, none, none, none, none, none, none, none, none, none, none, none, none, none, none, rfl⟩ (fun _ _ _ _ h => h.1.lp) ?_ ?_
  · rintro j q' δ' S2 H2 hj ⟨bg, hl, x1, x2, x3, x4, x5, x6, x7, x8, x9, x10, x11, x12, x13, x14, x15, x16, x17, x18, x19, x20, x21, x22, x23, x24, x25, x26, x27, rfl⟩
    have hj0 : j = 0 ∧ q' = q := by
      cases j with
      | zero => exact ⟨rfl, (Option.some.inj hj).symm⟩
      | succ j => cases hj
    obtain ⟨rfl, rfl⟩ := hj0
    have lq := hl rfl
    refine gw_name ?_
    refine sw_mid (fun δ S' H' => S' = S2 ∧ ∃ ki m b i f, ∃ n : Nat, mostOf ki = some m ∧ (1 ≤ n ∧ n ≤ 5) ∧ Bg W S H0 S2 H' p q' ∧ Dw.LstAt W S2 H' q' [.int b, .int i, .int f] ∧ ∃ x4 x5 x6 x7 x8 x9 x10 x11 x12 x13 x14 x15 x16 x17 x18 x19 x20 x21 x22 x23 x24 x25 x26 x27, δ = [some (.adr a), some (.adr q'), some (.str ki), some (.int (n : Nat)), x4, x5, x6, x7, x8, x9, x10, x11, x12, x13, x14, x15, x16, x17, x18, x19, x20, x21, x22, x23, x24, x25, x26, x27]) ?_ ?_
    · walk_at "d"
      refine ⟨q', 3, b, i, f, rfl, lq, by decide, fun z b' i' f' H3 hz m3 l3 => ?_⟩
      have bg3 := bg.md m3 (fun x hx => by rw [List.mem_singleton.mp hx]; exact ⟨hq, npq.symm, (lst_in lq).1⟩)
      obtain ⟨ki, m, hm, hat⟩ := kinds3 hz
      refine lf_ix_lst hat ?_
      walk_at "d"
      refine ⟨q', 5, b', i', f', rfl, l3, by decide, fun z1 b4 i4 f4 H4 hz1 m4 lq4 => ?_⟩
      have bg4 := bg3.md m4 (fun x hx => by rw [List.mem_singleton.mp hx]; exact ⟨hq, npq.symm, (lst_in lq).1⟩)
      walk_at "d"
      obtain ⟨n, hn, hn5⟩ : ∃ n : Nat, 1 + z1 = (n : Int) ∧ (1 ≤ n ∧ n ≤ 5) := ⟨(1 + z1).toNat, by omega, by omega⟩
      rw [hn]
      refine ⟨_, _, rfl, ?_⟩
      exact ⟨rfl, ki, m, _, _, _, n, hm, hn5, bg4, lq4, _, _, _, _, _, _, _, _, _, _, _, _, _, _, _, _, _, _, _, _, _, _, _, _, rfl⟩
    clear lq hl
    rintro δ S3 H3 ⟨rfl, ki, m, b3, i3, f3, n, hm, hn5, bg3, lq3, x4, x5, x6, x7, x8, x9, x10, x11, x12, x13, x14, x15, x16, x17, x18, x19, x20, x21, x22, x23, x24, x25, x26, x27, rfl⟩
    have h10 := ten5 hn5
    walk_at "sw"
    walk_at "sw"
    walk_at "dx"
    refine ⟨by show 5 ≤ sizeLine; decide, ?_⟩
    walk_at "dx"
    refine lf_ix_lst (tens5 hn5) ?_
    walk_at "dx"
    walk_at "sw"
    walk_at "sw"
    walk_at "dx"
    refine mk_fr (n := (n : Int)) hm (by omega) fun x l H5 u5 f5 hx hl => ?_
    have bg5 := bg3.ext u5
    rw [Int.toNat_natCast] at f5
    have hq4 := (lst_in lq3).2
    have lq5 := lq3.up u5
    walk_at "dx"
    refine ⟨q', _, b3, i3, f3, rfl, lq5, by omega, fun z b6 i6 f6 H6 hz m6 lq6 => ?_⟩
    have bg6 := bg5.md m6 (fun y hy => by rw [List.mem_singleton.mp hy]; exact ⟨hq, npq.symm, (lst_in lq5).1⟩)
    obtain ⟨N, rfl⟩ := Int.eq_ofNat_of_zero_le hz.1
    have hN : N < 10 ^ n := by omega
    have fx6 := FrameAt.md f5 m6 (fun y => hq4 (by rw [← List.mem_singleton.mp y]; exact hx)) (fun y => hq4 (by rw [← List.mem_singleton.mp y]; exact hl)) (fun y hy => by rw [List.mem_singleton.mp hy]; exact (lst_in lq5).1)
    walk_at "dx"
    walk_at "sw"
    walk_at "sw"
    walk_at "dx"
    have hND : nD N ≤ n := (nD_le_iff (by omega)).mpr hN
    refine ⟨x, l, ki, _, m, (N : Nat), rfl, fx6, hm, by rw [List.length_replicate]; omega, by omega, fun c => absurd c (by rw [List.length_replicate, Int.toNat_natCast]; omega), fun _ _ H7 m7 f7 => ?_⟩
    rw [List.length_replicate, Int.toNat_natCast] at f7
    have hx0 := bg3.up.free hx
    have hl0 := bg3.up.free hl
    have hlp : l ≠ p := fun z => (lst_in bg3.lp).2 (by rw [← z]; exact hl)
    have hxp : x ≠ p := fun z => (lst_in bg3.lp).2 (by rw [← z]; exact hx)
    have hlq : q' ≠ l := fun z => hq4 (by rw [z]; exact hl)
    have bg7 := bg6.md m7 (fun y hy => by rw [List.mem_singleton.mp hy]; exact ⟨hl0, hlp, fx6.rl.1⟩)
    have R7 : Rd W T.CF _ H7 q' x l ki m n N := ⟨⟨_, _, _, LstAt.md lq6 m7 (fun y => hlq (List.mem_singleton.mp y)) (fun y hy => by rw [List.mem_singleton.mp hy]; exact fx6.rl.1)⟩, f7, hlq, hm, hn5, hN⟩
    have hTs : ∀ {S' H'}, Bg W S H0 S' H' p q' → (∀ y ∈ [q', x], y ∈ S') → ∀ y ∈ [q', x], H0 y = none ∧ y ≠ p ∧ y ∈ S' := fun {S' H'} _ hS y hy => by
      have h3 := hS y hy
      rcases List.mem_cons.mp hy with z | z
      · rw [z] at h3 ⊢; exact ⟨hq, npq.symm, h3⟩
      · rw [List.mem_singleton.mp z] at h3 ⊢; exact ⟨hx0, hxp, h3⟩
    walk_at "dx"
    walk_at "sw"
    refine h_step R7 fun δ S8 H8 l8 N8 u8 R8 e => ?_
    have bg8 := bg7.upt u8 (hTs bg7 R7.inS)
    obtain ⟨x6, x7, x8, x9, x10, x11, x12, x13, x14, x15, x16, x17, x18, x19, x20, x21, x23, x24, x25, x26, x27, rfl⟩ := e
    refine h_run R8 fun δ S9 H9 u9 e => ?_
    exact ⟨bg8.upt u9 (hTs bg8 R8.inS), fun z => (by cases z), e⟩
  · rintro δ' S2 H2 ⟨bg, _, x1, x2, x3, x4, x5, x6, x7, x8, x9, x10, x11, x12, x13, x14, x15, x16, x17, x18, x19, x20, x21, x22, x23, x24, x25, x26, x27, rfl⟩
    walk_at "d"
    exact ⟨rfl, fun S' H' u => h1 S' H' (bg.up.trans u)⟩
theorem none_ok {kk : Nat} {CX : CXT} {f : Addr} {fd : FuncData} {ps : List Str} : FnOk P w W.K mg base CX kk f fd ps (toSp W fNone) :=
  ⟨fun vs H Q E h => by obtain ⟨_, _, _, _, _, z, _⟩ := h; exact z.elim, fun A outer s H args us vs Q E _ _ _ _ h => by obtain ⟨_, _, _, _, _, z, _⟩ := h; exact z.elim⟩
end
section
theorem sc__law_told : FnScope ["what"] ["what"] (defScope s__law_told) := ⟨rfl, rfl, rfl, by decide +kernel, rfl, by decide +kernel, by decide +kernel⟩
def dds : List He.DefD := [⟨("Frame", some "__init__"), "__init__", "Frame.__init__", defArgs s_Frame_init, defBody s_Frame_init, defScope s_Frame_init, [], []⟩,
  ⟨("Frame", some "copied"), "copied", "Frame.copied", defArgs s_Frame_copied, defBody s_Frame_copied, defScope s_Frame_copied, [], []⟩,
  ⟨("Frame", some "check_rod"), "check_rod", "Frame.check_rod", defArgs s_Frame_check_rod, defBody s_Frame_check_rod, defScope s_Frame_check_rod, [], []⟩,
  ⟨("Frame", some "beads"), "beads", "Frame.beads", defArgs s_Frame_beads, defBody s_Frame_beads, defScope s_Frame_beads, [], []⟩,
  ⟨("Frame", some "put"), "put", "Frame.put", defArgs s_Frame_put, defBody s_Frame_put, defScope s_Frame_put, [], []⟩,
  ⟨("Frame", some "digit"), "digit", "Frame.digit", defArgs s_Frame_digit, defBody s_Frame_digit, defScope s_Frame_digit, [], []⟩,
  ⟨("Frame", some "value"), "value", "Frame.value", defArgs s_Frame_value, defBody s_Frame_value, defScope s_Frame_value, [], []⟩,
  ⟨("Frame", some "clear"), "clear", "Frame.clear", defArgs s_Frame_clear, defBody s_Frame_clear, defScope s_Frame_clear, [], []⟩,
  ⟨("Frame", some "show"), "show", "Frame.show", defArgs s_Frame_show, defBody s_Frame_show, defScope s_Frame_show, [], []⟩,
  ⟨("Frame", some "is_plain"), "is_plain", "Frame.is_plain", defArgs s_Frame_is_plain, defBody s_Frame_is_plain, defScope s_Frame_is_plain, [], []⟩,
  ⟨("Move", some "__init__"), "__init__", "Move.__init__", defArgs s_Move_init, defBody s_Move_init, defScope s_Move_init, [], []⟩,
  ⟨("moved", none), "moved", "moved", defArgs s_moved, defBody s_moved, defScope s_moved, [], []⟩,
  ⟨("all_moved", none), "all_moved", "all_moved", defArgs s_all_moved, defBody s_all_moved, defScope s_all_moved, [], []⟩,
  ⟨("rod_change", none), "rod_change", "rod_change", defArgs s_rod_change, defBody s_rod_change, defScope s_rod_change, [], []⟩,
  ⟨("add_digit", none), "add_digit", "add_digit", defArgs s_add_digit, defBody s_add_digit, defScope s_add_digit, [], []⟩,
  ⟨("take_digit", none), "take_digit", "take_digit", defArgs s_take_digit, defBody s_take_digit, defScope s_take_digit, [], []⟩,
  ⟨("worked", none), "worked", "worked", defArgs s_worked, defBody s_worked, defScope s_worked, [], []⟩,
  ⟨("add", none), "add", "add", defArgs s_add, defBody s_add, defScope s_add, [], []⟩,
  ⟨("take", none), "take", "take", defArgs s_take, defBody s_take, defScope s_take, [], []⟩,
  ⟨("rule_of", none), "rule_of", "rule_of", defArgs s_rule_of, defBody s_rule_of, defScope s_rule_of, [], []⟩,
  ⟨("running", none), "running", "running", defArgs s_running, defBody s_running, defScope s_running, [], []⟩,
  ⟨("_law_dice", none), "_law_dice", "_law_dice", defArgs s__law_dice, defBody s__law_dice, defScope s__law_dice, [], []⟩,
  ⟨("_law_roll", none), "_law_roll", "_law_roll", defArgs s__law_roll, defBody s__law_roll, defScope s__law_roll, [], []⟩,
  ⟨("_law_rounds", none), "_law_rounds", "_law_rounds", defArgs s__law_rounds, defBody s__law_rounds, defScope s__law_rounds, [], []⟩,
  ⟨("_law_told", none), "_law_told", "_law_told", defArgs s__law_told, defBody s__law_told, defScope s__law_told, [], []⟩,
  ⟨("_law_kind", none), "_law_kind", "_law_kind", defArgs s__law_kind, defBody s__law_kind, defScope s__law_kind, [], []⟩,
  ⟨("_law_plain", none), "_law_plain", "_law_plain", defArgs s__law_plain, defBody s__law_plain, defScope s__law_plain, [], []⟩,
  ⟨("_law_moves", none), "_law_moves", "_law_moves", defArgs s__law_moves, defBody s__law_moves, defScope s__law_moves, [], []⟩,
  ⟨("_law_ends", none), "_law_ends", "_law_ends", defArgs s__law_ends, defBody s__law_ends, defScope s__law_ends, [], []⟩,
  ⟨("law", none), "law", "law", defArgs s_law, defBody s_law, defScope s_law, [], []⟩]
def fas : List He.Fa := [.glo "moved", .glo "all_moved", .glo "rod_change", .glo "add_digit", .glo "take_digit", .glo "worked", .glo "add", .glo "take", .glo "rule_of", .glo "running", .glo "_law_dice", .glo "_law_roll", .glo "_law_rounds", .glo "_law_told", .glo "_law_kind", .glo "_law_plain", .glo "_law_moves", .glo "_law_ends", .glo "law", .glo "Frame", .glo "Move", .int "MOST_RODS" 15, .int "MOST_MOVES" 2000, .glo "KINDS", .noat "Frame" "kind", .noat "Frame" "rods", .noat "Move" "rod", .noat "Move" "side", .noat "Move" "many", .exc "FrameError", .glo "FrameError", .exc "MoveError", .glo "MoveError", .exc "SumError", .glo "SumError", .exc "AbacusError", .glo "AbacusError", .exm "FrameError" "AbacusError" true, .exm "MoveError" "AbacusError" true, .exm "SumError" "AbacusError" true, .cls "Frame", .mkr "Frame", .cls "Move", .mkr "Move", .meth "Frame" "copied", .meth "Frame" "check_rod", .meth "Frame" "beads", .meth "Frame" "put", .meth "Frame" "digit", .meth "Frame" "value", .meth "Frame" "clear", .meth "Frame" "show", .meth "Frame" "is_plain", .free "len", .free "range", .free "enumerate", .free "str", .free "int", .free "list", .free "tuple", .free "sorted", .free "all", .free "any", .free "abs", .free "sum", .free "zip"]
def tbs : List He.Tab := [((fun K => He.ga K "KINDS"), ["one-four", "two-five", "one-five"])]
def tfs : List He.Defn := [("Frame", some "is_plain"), ("_law_ends", none), ("law", none)]
def exb (K : PySem.W.Frag) : Bool := (Eh.kdB K (He.ga K "KINDS") "one-four" 1 4) && (Eh.kdB K (He.ga K "KINDS") "two-five" 2 5) && (Eh.kdB K (He.ga K "KINDS") "one-five" 1 5) && (Eh.kdNo K (He.ga K "KINDS") "two-two") && (Eh.kdNo K (He.ga K "KINDS") "two") && decide ((He.cT K ("law", none)).2 ≠ (He.cT K ("Frame", some "is_plain")).2) && decide ((He.cT K ("law", none)).2 ≠ (He.cT K ("_law_ends", none)).2) && decide ((He.cT K ("_law_ends", none)).2 ≠ (He.cT K ("Frame", some "is_plain")).2)
abbrev Rr : PySem.W.OpenRow := PySem.W.OpenLaw.row PySem.Challenge.rw_abacusstack_k03_sums_with_carries
abbrev hkk : PySem.W.Hook := He.hookX 8 fas dds tbs tfs exb
def obb (s : PySem.W.SharedT) : He.AlX := He.obsX 8 fas dds tbs tfs exb (HandSHeadRun.getT s)
theorem ob_eq (s : PySem.W.SharedT) : obb s = hkk.obs s.abs := He.obsX_eq (HandSHeadRun.getT_eq s)
def lsn : List PySem.Str := ["_wall", "AbacusError", "FrameError", "MoveError", "SumError", "MOST_RODS", "KINDS", "Frame", "MOST_MOVES", "Move", "moved", "all_moved", "rod_change", "add_digit", "take_digit", "worked", "add", "take", "rule_of", "running", "_law_dice", "_law_roll", "_law_rounds", "_law_told", "_law_kind", "_law_number", "_law_rods", "_law_plain", "_law_moves", "_law_ends"]
theorem run_false (w : World) : HandSHeadRun.RunEq Rr (PySem.W.view Rr.prog [35]) hkk obb 4000 lsn (w.withFollow "special-get-raises" false) := by
  intro os
  kernel_rfl
theorem run_true (w : World) : HandSHeadRun.RunEq Rr (PySem.W.view Rr.prog [35]) hkk obb 4000 lsn (w.withFollow "special-get-raises" true) := by
  intro os
  kernel_rfl
theorem run_top (w : World) : HandSHeadRun.RunEq Rr (PySem.W.view Rr.prog [35]) hkk obb 4000 lsn w := PySem.W.byRow2 "special-get-raises" (P := fun w => HandSHeadRun.RunEq Rr (PySem.W.view Rr.prog [35]) hkk obb 4000 lsn w) run_false run_true w
theorem law_at {h : Heap} {w : World} {K : PySem.W.Frag} {mg : Str → Option Value} {f : Addr} (X : K.In h) (G : h.Ns mainGlobals mg) (hfa : mg ("law" : Str) = some (.ref f)) (c : He.SaysX fas dds tbs tfs exb w h K) :
    LamX.LawAtS PySem.Challenge.rw_abacusstack_k03_sums_with_carries w K (L2.CX PySem.Challenge.rw_abacusstack_k03_sums_with_carries.prog w) 15 63 "script" mg f h := by
  have c0 := c.t.d
  obtain ⟨fd_Frame_init, D_Frame_init⟩ := c0.def_ 0 (d := ⟨("Frame", some "__init__"), "__init__", "Frame.__init__", defArgs s_Frame_init, defBody s_Frame_init, defScope s_Frame_init, [], []⟩) rfl
  have F_Frame_init : FunD K "__init__" "Frame.__init__" (defArgs s_Frame_init) (defBody s_Frame_init) (defScope s_Frame_init) [] [] (He.fAd K ("Frame", some "__init__")) fd_Frame_init := D_Frame_init
  obtain ⟨fd_Frame_copied, D_Frame_copied⟩ := c0.def_ 1 (d := ⟨("Frame", some "copied"), "copied", "Frame.copied", defArgs s_Frame_copied, defBody s_Frame_copied, defScope s_Frame_copied, [], []⟩) rfl
  have F_Frame_copied : FunD K "copied" "Frame.copied" (defArgs s_Frame_copied) (defBody s_Frame_copied) (defScope s_Frame_copied) [] [] (He.fAd K ("Frame", some "copied")) fd_Frame_copied := D_Frame_copied
  obtain ⟨fd_Frame_check_rod, D_Frame_check_rod⟩ := c0.def_ 2 (d := ⟨("Frame", some "check_rod"), "check_rod", "Frame.check_rod", defArgs s_Frame_check_rod, defBody s_Frame_check_rod, defScope s_Frame_check_rod, [], []⟩) rfl
  have F_Frame_check_rod : FunD K "check_rod" "Frame.check_rod" (defArgs s_Frame_check_rod) (defBody s_Frame_check_rod) (defScope s_Frame_check_rod) [] [] (He.fAd K ("Frame", some "check_rod")) fd_Frame_check_rod := D_Frame_check_rod
  obtain ⟨fd_Frame_beads, D_Frame_beads⟩ := c0.def_ 3 (d := ⟨("Frame", some "beads"), "beads", "Frame.beads", defArgs s_Frame_beads, defBody s_Frame_beads, defScope s_Frame_beads, [], []⟩) rfl
  have F_Frame_beads : FunD K "beads" "Frame.beads" (defArgs s_Frame_beads) (defBody s_Frame_beads) (defScope s_Frame_beads) [] [] (He.fAd K ("Frame", some "beads")) fd_Frame_beads := D_Frame_beads
  obtain ⟨fd_Frame_put, D_Frame_put⟩ := c0.def_ 4 (d := ⟨("Frame", some "put"), "put", "Frame.put", defArgs s_Frame_put, defBody s_Frame_put, defScope s_Frame_put, [], []⟩) rfl
  have F_Frame_put : FunD K "put" "Frame.put" (defArgs s_Frame_put) (defBody s_Frame_put) (defScope s_Frame_put) [] [] (He.fAd K ("Frame", some "put")) fd_Frame_put := D_Frame_put
  obtain ⟨fd_Frame_digit, D_Frame_digit⟩ := c0.def_ 5 (d := ⟨("Frame", some "digit"), "digit", "Frame.digit", defArgs s_Frame_digit, defBody s_Frame_digit, defScope s_Frame_digit, [], []⟩) rfl
  have F_Frame_digit : FunD K "digit" "Frame.digit" (defArgs s_Frame_digit) (defBody s_Frame_digit) (defScope s_Frame_digit) [] [] (He.fAd K ("Frame", some "digit")) fd_Frame_digit := D_Frame_digit
  obtain ⟨fd_Frame_value, D_Frame_value⟩ := c0.def_ 6 (d := ⟨("Frame", some "value"), "value", "Frame.value", defArgs s_Frame_value, defBody s_Frame_value, defScope s_Frame_value, [], []⟩) rfl
  have F_Frame_value : FunD K "value" "Frame.value" (defArgs s_Frame_value) (defBody s_Frame_value) (defScope s_Frame_value) [] [] (He.fAd K ("Frame", some "value")) fd_Frame_value := D_Frame_value
  obtain ⟨fd_Frame_clear, D_Frame_clear⟩ := c0.def_ 7 (d := ⟨("Frame", some "clear"), "clear", "Frame.clear", defArgs s_Frame_clear, defBody s_Frame_clear, defScope s_Frame_clear, [], []⟩) rfl
  have F_Frame_clear : FunD K "clear" "Frame.clear" (defArgs s_Frame_clear) (defBody s_Frame_clear) (defScope s_Frame_clear) [] [] (He.fAd K ("Frame", some "clear")) fd_Frame_clear := D_Frame_clear
  obtain ⟨fd_Frame_show, D_Frame_show⟩ := c0.def_ 8 (d := ⟨("Frame", some "show"), "show", "Frame.show", defArgs s_Frame_show, defBody s_Frame_show, defScope s_Frame_show, [], []⟩) rfl
  have F_Frame_show : FunD K "show" "Frame.show" (defArgs s_Frame_show) (defBody s_Frame_show) (defScope s_Frame_show) [] [] (He.fAd K ("Frame", some "show")) fd_Frame_show := D_Frame_show
  obtain ⟨fd_Frame_is_plain, D_Frame_is_plain⟩ := c0.def_ 9 (d := ⟨("Frame", some "is_plain"), "is_plain", "Frame.is_plain", defArgs s_Frame_is_plain, defBody s_Frame_is_plain, defScope s_Frame_is_plain, [], []⟩) rfl
  have F_Frame_is_plain : FunD K "is_plain" "Frame.is_plain" (defArgs s_Frame_is_plain) (defBody s_Frame_is_plain) (defScope s_Frame_is_plain) [] [] (He.fAd K ("Frame", some "is_plain")) fd_Frame_is_plain := D_Frame_is_plain
  obtain ⟨fd_Move_init, D_Move_init⟩ := c0.def_ 10 (d := ⟨("Move", some "__init__"), "__init__", "Move.__init__", defArgs s_Move_init, defBody s_Move_init, defScope s_Move_init, [], []⟩) rfl
  have F_Move_init : FunD K "__init__" "Move.__init__" (defArgs s_Move_init) (defBody s_Move_init) (defScope s_Move_init) [] [] (He.fAd K ("Move", some "__init__")) fd_Move_init := D_Move_init
  obtain ⟨fd_moved, D_moved⟩ := c0.def_ 11 (d := ⟨("moved", none), "moved", "moved", defArgs s_moved, defBody s_moved, defScope s_moved, [], []⟩) rfl
  have F_moved : FunD K "moved" "moved" (defArgs s_moved) (defBody s_moved) (defScope s_moved) [] [] (He.fAd K ("moved", none)) fd_moved := D_moved
  obtain ⟨fd_all_moved, D_all_moved⟩ := c0.def_ 12 (d := ⟨("all_moved", none), "all_moved", "all_moved", defArgs s_all_moved, defBody s_all_moved, defScope s_all_moved, [], []⟩) rfl
  have F_all_moved : FunD K "all_moved" "all_moved" (defArgs s_all_moved) (defBody s_all_moved) (defScope s_all_moved) [] [] (He.fAd K ("all_moved", none)) fd_all_moved := D_all_moved
  obtain ⟨fd_rod_change, D_rod_change⟩ := c0.def_ 13 (d := ⟨("rod_change", none), "rod_change", "rod_change", defArgs s_rod_change, defBody s_rod_change, defScope s_rod_change, [], []⟩) rfl
  have F_rod_change : FunD K "rod_change" "rod_change" (defArgs s_rod_change) (defBody s_rod_change) (defScope s_rod_change) [] [] (He.fAd K ("rod_change", none)) fd_rod_change := D_rod_change
  obtain ⟨fd_add_digit, D_add_digit⟩ := c0.def_ 14 (d := ⟨("add_digit", none), "add_digit", "add_digit", defArgs s_add_digit, defBody s_add_digit, defScope s_add_digit, [], []⟩) rfl
  have F_add_digit : FunD K "add_digit" "add_digit" (defArgs s_add_digit) (defBody s_add_digit) (defScope s_add_digit) [] [] (He.fAd K ("add_digit", none)) fd_add_digit := D_add_digit
  obtain ⟨fd_take_digit, D_take_digit⟩ := c0.def_ 15 (d := ⟨("take_digit", none), "take_digit", "take_digit", defArgs s_take_digit, defBody s_take_digit, defScope s_take_digit, [], []⟩) rfl
  have F_take_digit : FunD K "take_digit" "take_digit" (defArgs s_take_digit) (defBody s_take_digit) (defScope s_take_digit) [] [] (He.fAd K ("take_digit", none)) fd_take_digit := D_take_digit
  obtain ⟨fd_worked, D_worked⟩ := c0.def_ 16 (d := ⟨("worked", none), "worked", "worked", defArgs s_worked, defBody s_worked, defScope s_worked, [], []⟩) rfl
  have F_worked : FunD K "worked" "worked" (defArgs s_worked) (defBody s_worked) (defScope s_worked) [] [] (He.fAd K ("worked", none)) fd_worked := D_worked
  obtain ⟨fd_add, D_add⟩ := c0.def_ 17 (d := ⟨("add", none), "add", "add", defArgs s_add, defBody s_add, defScope s_add, [], []⟩) rfl
  have F_add : FunD K "add" "add" (defArgs s_add) (defBody s_add) (defScope s_add) [] [] (He.fAd K ("add", none)) fd_add := D_add
  obtain ⟨fd_take, D_take⟩ := c0.def_ 18 (d := ⟨("take", none), "take", "take", defArgs s_take, defBody s_take, defScope s_take, [], []⟩) rfl
  have F_take : FunD K "take" "take" (defArgs s_take) (defBody s_take) (defScope s_take) [] [] (He.fAd K ("take", none)) fd_take := D_take
  obtain ⟨fd_rule_of, D_rule_of⟩ := c0.def_ 19 (d := ⟨("rule_of", none), "rule_of", "rule_of", defArgs s_rule_of, defBody s_rule_of, defScope s_rule_of, [], []⟩) rfl
  have F_rule_of : FunD K "rule_of" "rule_of" (defArgs s_rule_of) (defBody s_rule_of) (defScope s_rule_of) [] [] (He.fAd K ("rule_of", none)) fd_rule_of := D_rule_of
  obtain ⟨fd_running, D_running⟩ := c0.def_ 20 (d := ⟨("running", none), "running", "running", defArgs s_running, defBody s_running, defScope s_running, [], []⟩) rfl
  have F_running : FunD K "running" "running" (defArgs s_running) (defBody s_running) (defScope s_running) [] [] (He.fAd K ("running", none)) fd_running := D_running
  obtain ⟨fd__law_dice, D__law_dice⟩ := c0.def_ 21 (d := ⟨("_law_dice", none), "_law_dice", "_law_dice", defArgs s__law_dice, defBody s__law_dice, defScope s__law_dice, [], []⟩) rfl
  have F__law_dice : FunD K "_law_dice" "_law_dice" (defArgs s__law_dice) (defBody s__law_dice) (defScope s__law_dice) [] [] (He.fAd K ("_law_dice", none)) fd__law_dice := D__law_dice
  obtain ⟨fd__law_roll, D__law_roll⟩ := c0.def_ 22 (d := ⟨("_law_roll", none), "_law_roll", "_law_roll", defArgs s__law_roll, defBody s__law_roll, defScope s__law_roll, [], []⟩) rfl
  have F__law_roll : FunD K "_law_roll" "_law_roll" (defArgs s__law_roll) (defBody s__law_roll) (defScope s__law_roll) [] [] (He.fAd K ("_law_roll", none)) fd__law_roll := D__law_roll
  obtain ⟨fd__law_rounds, D__law_rounds⟩ := c0.def_ 23 (d := ⟨("_law_rounds", none), "_law_rounds", "_law_rounds", defArgs s__law_rounds, defBody s__law_rounds, defScope s__law_rounds, [], []⟩) rfl
  have F__law_rounds : FunD K "_law_rounds" "_law_rounds" (defArgs s__law_rounds) (defBody s__law_rounds) (defScope s__law_rounds) [] [] (He.fAd K ("_law_rounds", none)) fd__law_rounds := D__law_rounds
  obtain ⟨fd__law_told, D__law_told⟩ := c0.def_ 24 (d := ⟨("_law_told", none), "_law_told", "_law_told", defArgs s__law_told, defBody s__law_told, defScope s__law_told, [], []⟩) rfl
  have F__law_told : FunD K "_law_told" "_law_told" (defArgs s__law_told) (defBody s__law_told) (defScope s__law_told) [] [] (He.fAd K ("_law_told", none)) fd__law_told := D__law_told
  obtain ⟨fd__law_kind, D__law_kind⟩ := c0.def_ 25 (d := ⟨("_law_kind", none), "_law_kind", "_law_kind", defArgs s__law_kind, defBody s__law_kind, defScope s__law_kind, [], []⟩) rfl
  have F__law_kind : FunD K "_law_kind" "_law_kind" (defArgs s__law_kind) (defBody s__law_kind) (defScope s__law_kind) [] [] (He.fAd K ("_law_kind", none)) fd__law_kind := D__law_kind
  obtain ⟨fd__law_plain, D__law_plain⟩ := c0.def_ 26 (d := ⟨("_law_plain", none), "_law_plain", "_law_plain", defArgs s__law_plain, defBody s__law_plain, defScope s__law_plain, [], []⟩) rfl
  have F__law_plain : FunD K "_law_plain" "_law_plain" (defArgs s__law_plain) (defBody s__law_plain) (defScope s__law_plain) [] [] (He.fAd K ("_law_plain", none)) fd__law_plain := D__law_plain
  obtain ⟨fd__law_moves, D__law_moves⟩ := c0.def_ 27 (d := ⟨("_law_moves", none), "_law_moves", "_law_moves", defArgs s__law_moves, defBody s__law_moves, defScope s__law_moves, [], []⟩) rfl
  have F__law_moves : FunD K "_law_moves" "_law_moves" (defArgs s__law_moves) (defBody s__law_moves) (defScope s__law_moves) [] [] (He.fAd K ("_law_moves", none)) fd__law_moves := D__law_moves
  obtain ⟨fd__law_ends, D__law_ends⟩ := c0.def_ 28 (d := ⟨("_law_ends", none), "_law_ends", "_law_ends", defArgs s__law_ends, defBody s__law_ends, defScope s__law_ends, [], []⟩) rfl
  have F__law_ends : FunD K "_law_ends" "_law_ends" (defArgs s__law_ends) (defBody s__law_ends) (defScope s__law_ends) [] [] (He.fAd K ("_law_ends", none)) fd__law_ends := D__law_ends
  obtain ⟨fd_law, D_law⟩ := c0.def_ 29 (d := ⟨("law", none), "law", "law", defArgs s_law, defBody s_law, defScope s_law, [], []⟩) rfl
  have F_law : FunD K "law" "law" (defArgs s_law) (defBody s_law) (defScope s_law) [] [] (He.fAd K ("law", none)) fd_law := D_law
  have em := hfa.symm.trans (He.glo_ok X G (c0.fact 18 (f := .glo "law") rfl))
  cases em
  have hex := c.more
  unfold exb at hex
  simp only [Bool.and_eq_true, decide_eq_true_eq] at hex
  obtain ⟨⟨⟨⟨⟨⟨⟨k1, k2⟩, k3⟩, k4⟩, k5⟩, n1⟩, n2⟩, n3⟩ := hex
  let W : Wd := ⟨K, (He.ga K "Move"), [(He.cT K ("Frame", some "is_plain")).2], [((He.cT K ("law", none)).2, (("law" : Str) ++ ".<locals>.") ++ "<lambda>"), ((He.cT K ("_law_ends", none)).2, (("_law_ends" : Str) ++ ".<locals>.") ++ "<lambda>")]⟩
  obtain ⟨es, en, hkd⟩ := c.t.tab 0 rfl
  let T : Txt w W mg := {
    CF := He.ga K "Frame"
    kd := He.ga K "KINDS"
    xA := He.ga K "AbacusError"
    xF := He.ga K "FrameError"
    xM := He.ga K "MoveError"
    xS := He.ga K "SumError"
    aAdd := He.ga K "add_digit"
    aTake := He.ga K "take_digit"
    clF := He.cls_ok (c0.fact 40 (f := .cls "Frame") rfl)
    naK := He.noat_ok (c0.fact 24 (f := .noat "Frame" "kind") rfl)
    naR := He.noat_ok (c0.fact 25 (f := .noat "Frame" "rods") rfl)
    g_KINDS := He.glo_ok X G (c0.fact 23 (f := .glo "KINDS") rfl)
    es := es
    en := en
    kd_KINDS := hkd
    kd_in := fun z m h => by
      unfold mostOf at h
      split at h
      · rename_i e; cases h; rw [e]; exact Eh.kdB_ok k1
      · split at h
        · rename_i e; cases h; rw [e]; exact Eh.kdB_ok k2
        · split at h
          · rename_i e; cases h; rw [e]; exact Eh.kdB_ok k3
          · cases h
    kd_no := fun z h => by
      rcases h with rfl | rfl
      · exact He.eqO_ok k4
      · exact He.eqO_ok k5
    g_MOST_RODS := He.int_ok X G (c0.fact 21 (f := .int "MOST_RODS" 15) rfl)
    x_FrameError := Eh.xf_of X G (c0.fact 29 (f := .exc "FrameError") rfl) (c0.fact 30 (f := .glo "FrameError") rfl)
    x_MoveError := Eh.xf_of X G (c0.fact 31 (f := .exc "MoveError") rfl) (c0.fact 32 (f := .glo "MoveError") rfl)
    x_SumError := Eh.xf_of X G (c0.fact 33 (f := .exc "SumError") rfl) (c0.fact 34 (f := .glo "SumError") rfl)
    f_add_digit := He.glo_ok X G (c0.fact 3 (f := .glo "add_digit") rfl)
    f_take_digit := He.glo_ok X G (c0.fact 4 (f := .glo "take_digit") rfl)
    clM := He.cls_ok (c0.fact 42 (f := .cls "Move") rfl)
    naRod := He.noat_ok (c0.fact 26 (f := .noat "Move" "rod") rfl)
    naSide := He.noat_ok (c0.fact 27 (f := .noat "Move" "side") rfl)
    naMany := He.noat_ok (c0.fact 28 (f := .noat "Move" "many") rfl)
    g_MOST_MOVES := He.int_ok X G (c0.fact 22 (f := .int "MOST_MOVES" 2000) rfl)
    z_len := He.free_ok X G (c0.fact 53 (f := .free "len") rfl)
    z_range := He.free_ok X G (c0.fact 54 (f := .free "range") rfl)
    z_enumerate := He.free_ok X G (c0.fact 55 (f := .free "enumerate") rfl)
    z_str := He.free_ok X G (c0.fact 56 (f := .free "str") rfl)
    z_int := He.free_ok X G (c0.fact 57 (f := .free "int") rfl)
    z_list := He.free_ok X G (c0.fact 58 (f := .free "list") rfl)
    z_tuple := He.free_ok X G (c0.fact 59 (f := .free "tuple") rfl)
    z_sorted := He.free_ok X G (c0.fact 60 (f := .free "sorted") rfl)
    z_all := He.free_ok X G (c0.fact 61 (f := .free "all") rfl)
    z_any := He.free_ok X G (c0.fact 62 (f := .free "any") rfl)
    z_abs := He.free_ok X G (c0.fact 63 (f := .free "abs") rfl)
    z_sum := He.free_ok X G (c0.fact 64 (f := .free "sum") rfl)
    z_zip := He.free_ok X G (c0.fact 65 (f := .free "zip") rfl)
    gT := He.ga K "_law_told"
    told := Eh.told_of F__law_told (He.glo_ok X G (c0.fact 13 (f := .glo "_law_told") rfl)) rfl (fun _ _ _ _ _ _ us hl => match us, hl with | [_], _ => rfl) sc__law_told (.inl rfl) rfl (He.glo_ok X G (c0.fact 36 (f := .glo "AbacusError") rfl))
    exF := He.exm_ok (c0.fact 37 (f := .exm "FrameError" "AbacusError" true) rfl)
    exM := He.exm_ok (c0.fact 38 (f := .exm "MoveError" "AbacusError" true) rfl)
    exS := He.exm_ok (c0.fact 39 (f := .exm "SumError" "AbacusError" true) rfl) }
  refine ⟨fd_law, tfs.map (He.cT K), toSp W (fLaw W), ?_, ?_, ?_, ?_, ?_, ?_⟩
  · intro p hp
    obtain ⟨t, ht, rfl⟩ := List.mem_map.mp hp
    exact c.empty t ht
  · intro p hp
    obtain ⟨t, ht, rfl⟩ := List.mem_map.mp hp
    exact c.out t ht
  · intro p hp
    obtain ⟨t, ht, rfl⟩ := List.mem_map.mp hp
    exact PySem.W.codeHd_of_K X (c.hd t ht)
  · exact fun s u => FunD.bindsA (ps := ["script"]) F_law (fun _ _ _ _ _ _ us hl => match us, hl with | [_], _ => rfl) s [u] rfl
  · intro H a ns hl _ hH hS
    refine Eh.start_ok (ns := ns) ⟨a, ns, rfl, Eh.scr_ok hS, fun _ _ _ => rfl⟩ (fun P hP => ?_) (fun p hp => ?_)
    · simp only [W, List.mem_cons, List.not_mem_nil, or_false] at hP
      rcases hP with rfl
      all_goals exact hH _ (List.mem_map_of_mem (by decide +kernel))
    · simp only [W, List.mem_cons, List.not_mem_nil, or_false] at hp
      rcases hp with rfl | rfl
      · exact hH (He.cT K ("law", none)) (List.mem_map_of_mem (by decide +kernel))
      · exact hH (He.cT K ("_law_ends", none)) (List.mem_map_of_mem (by decide +kernel))
  intro base XB GB TB
  have O_Frame_check_rod := ok_Frame_check_rod (P := PySem.Challenge.rw_abacusstack_k03_sums_with_carries.prog) (w := w) (W := W) (mg := mg) (base := base) (Eh.fun_of F_Frame_check_rod) T
  have G_Frame_check_rod : MetX PySem.Challenge.rw_abacusstack_k03_sums_with_carries.prog w W.K mg base 1 T.CF "check_rod" (toSp W (fCheck T)) := Eh.metX_of F_Frame_check_rod O_Frame_check_rod (He.cls_ok (c0.fact 40 (f := .cls "Frame") rfl)) (He.meth_ok (c0.fact 45 (f := .meth "Frame" "check_rod") rfl)) (fun _ _ _ _ _ _ us hl => match us, hl with | [_, _], _ => rfl)
  have O_Frame_beads := ok_Frame_beads (P := PySem.Challenge.rw_abacusstack_k03_sums_with_carries.prog) (w := w) (W := W) (mg := mg) (base := base) (Eh.fun_of F_Frame_beads) T G_Frame_check_rod
  have G_Frame_beads : MetX PySem.Challenge.rw_abacusstack_k03_sums_with_carries.prog w W.K mg base 2 T.CF "beads" (toSp W (fBeads T)) := Eh.metX_of F_Frame_beads O_Frame_beads (He.cls_ok (c0.fact 40 (f := .cls "Frame") rfl)) (He.meth_ok (c0.fact 46 (f := .meth "Frame" "beads") rfl)) (fun _ _ _ _ _ _ us hl => match us, hl with | [_, _], _ => rfl)
  have O_Frame_put := ok_Frame_put (P := PySem.Challenge.rw_abacusstack_k03_sums_with_carries.prog) (w := w) (W := W) (mg := mg) (base := base) (Eh.fun_of F_Frame_put) T G_Frame_check_rod
  have G_Frame_put : MetX PySem.Challenge.rw_abacusstack_k03_sums_with_carries.prog w W.K mg base 2 T.CF "put" (toSp W (fPut T)) := Eh.metX_of F_Frame_put O_Frame_put (He.cls_ok (c0.fact 40 (f := .cls "Frame") rfl)) (He.meth_ok (c0.fact 47 (f := .meth "Frame" "put") rfl)) (fun _ _ _ _ _ _ us hl => match us, hl with | [_, _, _, _], _ => rfl)
  have O_Frame_digit := ok_Frame_digit (P := PySem.Challenge.rw_abacusstack_k03_sums_with_carries.prog) (w := w) (W := W) (mg := mg) (base := base) (Eh.fun_of F_Frame_digit) T G_Frame_beads
  have G_Frame_digit : MetX PySem.Challenge.rw_abacusstack_k03_sums_with_carries.prog w W.K mg base 3 T.CF "digit" (toSp W (fDigit T)) := Eh.metX_of F_Frame_digit O_Frame_digit (He.cls_ok (c0.fact 40 (f := .cls "Frame") rfl)) (He.meth_ok (c0.fact 48 (f := .meth "Frame" "digit") rfl)) (fun _ _ _ _ _ _ us hl => match us, hl with | [_, _], _ => rfl)
  have O_Frame_value := ok_Frame_value (P := PySem.Challenge.rw_abacusstack_k03_sums_with_carries.prog) (w := w) (W := W) (mg := mg) (base := base) (Eh.fun_of F_Frame_value) T G_Frame_digit
  have G_Frame_value : MetX PySem.Challenge.rw_abacusstack_k03_sums_with_carries.prog w W.K mg base 4 T.CF "value" (toSp W (fValue T)) := Eh.metX_of F_Frame_value O_Frame_value (He.cls_ok (c0.fact 40 (f := .cls "Frame") rfl)) (He.meth_ok (c0.fact 49 (f := .meth "Frame" "value") rfl)) (fun _ _ _ _ _ _ us hl => match us, hl with | [_], _ => rfl)
  have O_Frame_clear := ok_Frame_clear (P := PySem.Challenge.rw_abacusstack_k03_sums_with_carries.prog) (w := w) (W := W) (mg := mg) (base := base) (Eh.fun_of F_Frame_clear) T G_Frame_put
  have G_Frame_clear : MetX PySem.Challenge.rw_abacusstack_k03_sums_with_carries.prog w W.K mg base 3 T.CF "clear" (toSp W (fClear T)) := Eh.metX_of F_Frame_clear O_Frame_clear (He.cls_ok (c0.fact 40 (f := .cls "Frame") rfl)) (He.meth_ok (c0.fact 50 (f := .meth "Frame" "clear") rfl)) (fun _ _ _ _ _ _ us hl => match us, hl with | [_], _ => rfl)
  have O_Frame_show := ok_Frame_show (P := PySem.Challenge.rw_abacusstack_k03_sums_with_carries.prog) (w := w) (W := W) (mg := mg) (base := base) (Eh.fun_of F_Frame_show) T G_Frame_clear G_Frame_put
  have G_Frame_show : MetX PySem.Challenge.rw_abacusstack_k03_sums_with_carries.prog w W.K mg base 4 T.CF "show" (toSp W (fShow T)) := Eh.metX_of F_Frame_show O_Frame_show (He.cls_ok (c0.fact 40 (f := .cls "Frame") rfl)) (He.meth_ok (c0.fact 51 (f := .meth "Frame" "show") rfl)) (fun _ _ _ _ _ _ us hl => match us, hl with | [_, _], _ => rfl)
  have O_Frame_init := ok_Frame_init (P := PySem.Challenge.rw_abacusstack_k03_sums_with_carries.prog) (w := w) (W := W) (mg := mg) (base := base) (Eh.fun_of F_Frame_init) T
  have G_k_Frame : MakX PySem.Challenge.rw_abacusstack_k03_sums_with_carries.prog w W.K mg base 1 "Frame" T.CF (toSp W (fInit T)) := Eh.makX_of F_Frame_init O_Frame_init (He.mkr_ok (c0.fact 41 (f := .mkr "Frame") rfl)) (He.glo_ok X G (c0.fact 19 (f := .glo "Frame") rfl)) (fun _ _ _ _ _ _ us hl => match us, hl with | [_, _, _], _ => rfl)
  have O_Frame_copied := ok_Frame_copied (P := PySem.Challenge.rw_abacusstack_k03_sums_with_carries.prog) (w := w) (W := W) (mg := mg) (base := base) (Eh.fun_of F_Frame_copied) T G_k_Frame
  have G_Frame_copied : MetX PySem.Challenge.rw_abacusstack_k03_sums_with_carries.prog w W.K mg base 3 T.CF "copied" (toSp W (fCopied T)) := Eh.metX_of F_Frame_copied O_Frame_copied (He.cls_ok (c0.fact 40 (f := .cls "Frame") rfl)) (He.meth_ok (c0.fact 44 (f := .meth "Frame" "copied") rfl)) (fun _ _ _ _ _ _ us hl => match us, hl with | [_], _ => rfl)
  have O_Move_init := ok_Move_init (P := PySem.Challenge.rw_abacusstack_k03_sums_with_carries.prog) (w := w) (W := W) (mg := mg) (base := base) (Eh.fun_of F_Move_init) T
  have G_k_Move : MakX PySem.Challenge.rw_abacusstack_k03_sums_with_carries.prog w W.K mg base 1 "Move" T.CM (toSp W (fMove T)) := Eh.makX_of F_Move_init O_Move_init (He.mkr_ok (c0.fact 43 (f := .mkr "Move") rfl)) (He.glo_ok X G (c0.fact 20 (f := .glo "Move") rfl)) (fun _ _ _ _ _ _ us hl => match us, hl with | [_, _, _, _], _ => rfl)
  have O_moved := ok_moved (P := PySem.Challenge.rw_abacusstack_k03_sums_with_carries.prog) (w := w) (W := W) (mg := mg) (base := base) (Eh.fun_of F_moved) T G_Frame_beads G_Frame_put
  have G_moved : CalX PySem.Challenge.rw_abacusstack_k03_sums_with_carries.prog w W.K mg base 3 "moved" 2 (toSp W (fMoved T)) := Eh.calX_of F_moved O_moved (He.glo_ok X G (c0.fact 0 (f := .glo "moved") rfl)) (fun _ _ _ _ _ _ us hl => match us, hl with | [_, _], _ => rfl)
  have O_all_moved := ok_all_moved (P := PySem.Challenge.rw_abacusstack_k03_sums_with_carries.prog) (w := w) (W := W) (mg := mg) (base := base) (Eh.fun_of F_all_moved) T G_Frame_copied G_moved
  have G_all_moved : CalX PySem.Challenge.rw_abacusstack_k03_sums_with_carries.prog w W.K mg base 4 "all_moved" 2 (toSp W (fAllMoved T)) := Eh.calX_of F_all_moved O_all_moved (He.glo_ok X G (c0.fact 1 (f := .glo "all_moved") rfl)) (fun _ _ _ _ _ _ us hl => match us, hl with | [_, _], _ => rfl)
  have O_rod_change := ok_rod_change (P := PySem.Challenge.rw_abacusstack_k03_sums_with_carries.prog) (w := w) (W := W) (mg := mg) (base := base) (Eh.fun_of F_rod_change) T G_Frame_beads G_Frame_put G_Frame_copied G_k_Move
  have G_rod_change : CalX PySem.Challenge.rw_abacusstack_k03_sums_with_carries.prog w W.K mg base 4 "rod_change" 4 (toSp W (fRodChange T)) := Eh.calX_of F_rod_change O_rod_change (He.glo_ok X G (c0.fact 2 (f := .glo "rod_change") rfl)) (fun _ _ _ _ _ _ us hl => match us, hl with | [_, _, _, _], _ => rfl)
  have O_Frame_is_plain := ok_Frame_is_plain (P := PySem.Challenge.rw_abacusstack_k03_sums_with_carries.prog) (w := w) (W := W) (mg := mg) (base := base) (Eh.fun_of F_Frame_is_plain) T (Eh.hc_of F_Frame_is_plain) (Eh.tab_gx (TB (He.cT K ("Frame", some "is_plain")) (List.mem_map_of_mem (by decide +kernel)))) (by simp [W]) (fun p hp => by simp only [W, List.mem_cons, List.not_mem_nil, or_false] at hp; rcases hp with rfl | rfl <;> assumption)
  have G_Frame_is_plain : MetX PySem.Challenge.rw_abacusstack_k03_sums_with_carries.prog w W.K mg base 1 T.CF "is_plain" (toSp W (fPlain T)) := Eh.metX_of F_Frame_is_plain O_Frame_is_plain (He.cls_ok (c0.fact 40 (f := .cls "Frame") rfl)) (He.meth_ok (c0.fact 52 (f := .meth "Frame" "is_plain") rfl)) (fun _ _ _ _ _ _ us hl => match us, hl with | [_], _ => rfl)
  have O__law_dice := ok__law_dice (P := PySem.Challenge.rw_abacusstack_k03_sums_with_carries.prog) (w := w) (W := W) (mg := mg) (base := base) (Eh.fun_of F__law_dice) T
  have G__law_dice : CalX PySem.Challenge.rw_abacusstack_k03_sums_with_carries.prog w W.K mg base 1 "_law_dice" 1 (toSp W (fDice W)) := Eh.calX_of F__law_dice O__law_dice (He.glo_ok X G (c0.fact 10 (f := .glo "_law_dice") rfl)) (fun _ _ _ _ _ _ us hl => match us, hl with | [_], _ => rfl)
  have O__law_roll := ok__law_roll (P := PySem.Challenge.rw_abacusstack_k03_sums_with_carries.prog) (w := w) (W := W) (mg := mg) (base := base) (Eh.fun_of F__law_roll) T (Eh.calX_of (ps := ["dice", "many"]) F__law_roll none_ok (He.glo_ok X G (c0.fact 11 (f := .glo "_law_roll") rfl)) (fun _ _ _ _ _ _ us hl => match us, hl with | [_, _], _ => rfl))
  have G__law_roll : CalX PySem.Challenge.rw_abacusstack_k03_sums_with_carries.prog w W.K mg base 2 "_law_roll" 2 (toSp W (fRoll W)) := Eh.calX_of F__law_roll O__law_roll (He.glo_ok X G (c0.fact 11 (f := .glo "_law_roll") rfl)) (fun _ _ _ _ _ _ us hl => match us, hl with | [_, _], _ => rfl)
  have O__law_kind := ok__law_kind (P := PySem.Challenge.rw_abacusstack_k03_sums_with_carries.prog) (w := w) (W := W) (mg := mg) (base := base) (Eh.fun_of F__law_kind) T
  have G__law_kind : CalX PySem.Challenge.rw_abacusstack_k03_sums_with_carries.prog w W.K mg base 1 "_law_kind" 1 (toSp W (fKind)) := Eh.calX_of F__law_kind O__law_kind (He.glo_ok X G (c0.fact 14 (f := .glo "_law_kind") rfl)) (fun _ _ _ _ _ _ us hl => match us, hl with | [_], _ => rfl)
  have O__law_plain := ok__law_plain (P := PySem.Challenge.rw_abacusstack_k03_sums_with_carries.prog) (w := w) (W := W) (mg := mg) (base := base) (Eh.fun_of F__law_plain) T
  have G__law_plain : CalX PySem.Challenge.rw_abacusstack_k03_sums_with_carries.prog w W.K mg base 1 "_law_plain" 2 (toSp W (fPlainL)) := Eh.calX_of F__law_plain O__law_plain (He.glo_ok X G (c0.fact 15 (f := .glo "_law_plain") rfl)) (fun _ _ _ _ _ _ us hl => match us, hl with | [_, _], _ => rfl)
  have O__law_rounds := ok__law_rounds (P := PySem.Challenge.rw_abacusstack_k03_sums_with_carries.prog) (w := w) (W := W) (mg := mg) (base := base) (Eh.fun_of F__law_rounds) T G__law_dice
  have G__law_rounds : CalX PySem.Challenge.rw_abacusstack_k03_sums_with_carries.prog w W.K mg base 2 "_law_rounds" 2 (toSp W (fRounds W)) := Eh.calX_of F__law_rounds O__law_rounds (He.glo_ok X G (c0.fact 12 (f := .glo "_law_rounds") rfl)) (fun _ _ _ _ _ _ us hl => match us, hl with | [_, _], _ => rfl)
  have O_add_digit := ok_add_digit (P := PySem.Challenge.rw_abacusstack_k03_sums_with_carries.prog) (w := w) (W := W) (mg := mg) (base := base) (Eh.fun_of F_add_digit) T G_Frame_check_rod G_Frame_is_plain G_Frame_digit G_rod_change G_all_moved
  have G_add_digit : CalX PySem.Challenge.rw_abacusstack_k03_sums_with_carries.prog w W.K mg base 5 "add_digit" 3 (toSp W ((fDig true) T)) := Eh.calX_of F_add_digit O_add_digit (He.glo_ok X G (c0.fact 3 (f := .glo "add_digit") rfl)) (fun _ _ _ _ _ _ us hl => match us, hl with | [_, _, _], _ => rfl)
  have O_take_digit := ok_take_digit (P := PySem.Challenge.rw_abacusstack_k03_sums_with_carries.prog) (w := w) (W := W) (mg := mg) (base := base) (Eh.fun_of F_take_digit) T G_Frame_check_rod G_Frame_is_plain G_Frame_digit G_rod_change G_all_moved
  have G_take_digit : CalX PySem.Challenge.rw_abacusstack_k03_sums_with_carries.prog w W.K mg base 5 "take_digit" 3 (toSp W ((fDig false) T)) := Eh.calX_of F_take_digit O_take_digit (He.glo_ok X G (c0.fact 4 (f := .glo "take_digit") rfl)) (fun _ _ _ _ _ _ us hl => match us, hl with | [_, _, _], _ => rfl)
  have O_worked := ok_worked (P := PySem.Challenge.rw_abacusstack_k03_sums_with_carries.prog) (w := w) (W := W) (mg := mg) (base := base) (Eh.fun_of F_worked) T G_Frame_copied G_add_digit G_take_digit
  have G_worked : CalX PySem.Challenge.rw_abacusstack_k03_sums_with_carries.prog w W.K mg base 6 "worked" 3 (toSp W (fWorked T)) := Eh.calX_of F_worked O_worked (He.glo_ok X G (c0.fact 5 (f := .glo "worked") rfl)) (fun _ _ _ _ _ _ us hl => match us, hl with | [_, _, _], _ => rfl)
  have O_add := ok_add (P := PySem.Challenge.rw_abacusstack_k03_sums_with_carries.prog) (w := w) (W := W) (mg := mg) (base := base) (Eh.fun_of F_add) T G_worked
  have G_add : CalX PySem.Challenge.rw_abacusstack_k03_sums_with_carries.prog w W.K mg base 7 "add" 2 (toSp W ((fAddN true) T)) := Eh.calX_of F_add O_add (He.glo_ok X G (c0.fact 6 (f := .glo "add") rfl)) (fun _ _ _ _ _ _ us hl => match us, hl with | [_, _], _ => rfl)
  have O_take := ok_take (P := PySem.Challenge.rw_abacusstack_k03_sums_with_carries.prog) (w := w) (W := W) (mg := mg) (base := base) (Eh.fun_of F_take) T G_worked
  have G_take : CalX PySem.Challenge.rw_abacusstack_k03_sums_with_carries.prog w W.K mg base 7 "take" 2 (toSp W ((fAddN false) T)) := Eh.calX_of F_take O_take (He.glo_ok X G (c0.fact 7 (f := .glo "take") rfl)) (fun _ _ _ _ _ _ us hl => match us, hl with | [_, _], _ => rfl)
  have O_rule_of := ok_rule_of (P := PySem.Challenge.rw_abacusstack_k03_sums_with_carries.prog) (w := w) (W := W) (mg := mg) (base := base) (Eh.fun_of F_rule_of) T G_Frame_check_rod G_Frame_is_plain G_Frame_beads G_Frame_digit
  have G_rule_of : CalX PySem.Challenge.rw_abacusstack_k03_sums_with_carries.prog w W.K mg base 4 "rule_of" 3 (toSp W (fRule T)) := Eh.calX_of F_rule_of O_rule_of (He.glo_ok X G (c0.fact 8 (f := .glo "rule_of") rfl)) (fun _ _ _ _ _ _ us hl => match us, hl with | [_, _, _], _ => rfl)
  have O_running := ok_running (P := PySem.Challenge.rw_abacusstack_k03_sums_with_carries.prog) (w := w) (W := W) (mg := mg) (base := base) (Eh.fun_of F_running) T G_Frame_copied G_add G_take G_Frame_value
  have G_running : CalX PySem.Challenge.rw_abacusstack_k03_sums_with_carries.prog w W.K mg base 8 "running" 2 (toSp W (fRunning T)) := Eh.calX_of F_running O_running (He.glo_ok X G (c0.fact 9 (f := .glo "running") rfl)) (fun _ _ _ _ _ _ us hl => match us, hl with | [_, _], _ => rfl)
  have O__law_moves := ok__law_moves (P := PySem.Challenge.rw_abacusstack_k03_sums_with_carries.prog) (w := w) (W := W) (mg := mg) (base := base) (Eh.fun_of F__law_moves) T
  have G__law_moves : CalX PySem.Challenge.rw_abacusstack_k03_sums_with_carries.prog w W.K mg base 1 "_law_moves" 2 (toSp W (fMovesL)) := Eh.calX_of F__law_moves O__law_moves (He.glo_ok X G (c0.fact 16 (f := .glo "_law_moves") rfl)) (fun _ _ _ _ _ _ us hl => match us, hl with | [_, _], _ => rfl)
  have O__law_ends := ok__law_ends (P := PySem.Challenge.rw_abacusstack_k03_sums_with_carries.prog) (w := w) (W := W) (mg := mg) (base := base) (Eh.fun_of F__law_ends) T G_k_Frame G_Frame_put G_add_digit G_take_digit G_add G_take G_rule_of G_running G_worked G_Frame_value G_Frame_show (Eh.hc_of F__law_ends) (TB (He.cT K ("_law_ends", none)) (List.mem_map_of_mem (by decide +kernel))) ⟨List.mem_cons_of_mem _ (List.mem_cons_self), fun p hp e => by simp only [W, List.mem_cons, List.not_mem_nil, or_false] at hp; rcases hp with rfl | rfl <;> first | exact absurd e (by assumption) | exact absurd e.symm (by assumption) | rfl⟩ (by simp only [W, List.mem_cons, List.not_mem_nil, or_false, not_or]; first | exact ⟨by assumption⟩ | assumption)
  have G__law_ends : CalX PySem.Challenge.rw_abacusstack_k03_sums_with_carries.prog w W.K mg base 11 "_law_ends" 0 (toSp W (fEnds T)) := Eh.calX_of F__law_ends O__law_ends (He.glo_ok X G (c0.fact 17 (f := .glo "_law_ends") rfl)) (fun _ _ _ _ _ _ us hl => match us, hl with | [], _ => rfl)
  have O_law := ok_law (P := PySem.Challenge.rw_abacusstack_k03_sums_with_carries.prog) (w := w) (W := W) (mg := mg) (base := base) (Eh.fun_of F_law) T G__law_rounds G__law_roll G_k_Frame G_Frame_show G__law_ends G_Frame_copied G_add_digit G_take_digit G_Frame_value G__law_moves G__law_plain G_Frame_is_plain G_all_moved G_rule_of G_add G_take G_running (Eh.hc_of F_law) (TB (He.cT K ("law", none)) (List.mem_map_of_mem (by decide +kernel))) ⟨List.mem_cons_self, fun p hp e => by simp only [W, List.mem_cons, List.not_mem_nil, or_false] at hp; rcases hp with rfl | rfl <;> first | exact absurd e (by assumption) | exact absurd e.symm (by assumption) | rfl⟩ (by simp only [W, List.mem_cons, List.not_mem_nil, or_false, not_or]; first | exact ⟨by assumption⟩ | assumption)
  exact O_law
end
end Ab
open PySem PySem.W PySem.Calls PyProof.Rows
theorem PySem.Challenge.cw_abacusstack_k03_sums_with_carries_holds : PySem.Challenge.rw_abacusstack_k03_sums_with_carries.Holds := by
  w_on; o_law
  refine HandSHeadRun.head_any (r := OpenLaw.row PySem.Challenge.rw_abacusstack_k03_sums_with_carries) (q := view (OpenLaw.row PySem.Challenge.rw_abacusstack_k03_sums_with_carries).prog [35]) (H := Ab.hkk) (ob := Ab.obb) (M := 4000) (loose := Ab.lsn) (d := HandSHeadRun.topDef (OpenLaw.row PySem.Challenge.rw_abacusstack_k03_sums_with_carries).prog 35) (kwd := []) Ab.ob_eq
    (by kernel_rfl) (fun s => by kernel_rfl) Ab.run_top (by kernel_rfl) (by kernel_rfl) (by kernel_rfl) (by rfl) (by first | assumption | decide +kernel) (by decide +kernel) ⟨rfl, rfl, rfl, rfl, rfl, by decide +kernel⟩ ?hw ?hc
  case hw => w_witness2
  case hc =>
    refine LamX.walk_ofTsE (l := PySem.Challenge.rw_abacusstack_k03_sums_with_carries) (n := 63) (k := 15) (x := "script") (CX := fun w => L2.CX PySem.Challenge.rw_abacusstack_k03_sums_with_carries.prog w) rfl (by decide) (by kernel_rfl) ⟨rfl, by decide, by decide⟩ ?F (fun w H s e s' z => by obtain ⟨_, _, _, _, _, _, _, _, _, _, _, _, z⟩ := z; exact z)
    intro w mg fa h Y G hmg0
    obtain ⟨K, KX, c⟩ := Y
    have hmg : mg ("law" : PySem.Str) = some (.ref fa) := by
      have e : (HandSHeadRun.topDef (OpenLaw.row PySem.Challenge.rw_abacusstack_k03_sums_with_carries).prog 35).name = ("law" : PySem.Str) := by kernel_rfl
      rw [← e]
      exact hmg0
    exact ⟨K, KX, Ab.law_at KX G hmg c⟩

