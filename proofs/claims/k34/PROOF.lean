import PyProof.Rows.All
import Wide.All
import OpenK.AllK
import Wide.FinOn
import KE.KStateDown
import Lean
import HandS.ForMost
import HandS.ForExc
import HandS.Conv
import HandS.Deep
import HandS.Flow
import HandS.Style
import HandS.TupAny
import HandS.Wide
import HandS.Defaults
import HandS.IsInst
import HandS.Small
import HandS.Ends
import HandS.More
import HandS.Words
import HandS.WordsExc
import HandS.Head0
import HandS.Head1
import HandS.Head2
import HandS.HeadEnd
import HandS.HeadHook1
import HandS.HeadHook2
import PySem.Challenge.RW_towgrove_k34_rows_shortened
set_option Elab.async false
set_option linter.all false
set_option maxRecDepth 100000
set_option maxHeartbeats 0
namespace T
open PySem L2

inductive D where
  | non | bl (b : Bool) | int (i : Int) | str (s : Str)
  | tup (l : List D) | lst (l : List D)
  | dct (l : List (Key × D)) | dtp (l : List (List Key × D))
  | ins (C : Addr) (fs : List (Str × D))
  | box (a : Addr) | ty (n : String) | ref (a : Addr) | scr (ns : List Int)

/-- the ghost: what is frozen, which boxes of draws stand -/
structure Gh where
  I : Hp
  B : Addr → Option Addr
def foot (G : Gh) (x : Addr) : Prop := (∃ g, G.B x = some g) ∨ ∃ a, G.B a = some x
structure Le (G G' : Gh) : Prop where
  I : Same G.I G'.I
  B : ∀ a g, G.B a = some g → G'.B a = some g
theorem Le.refl (G : Gh) : Le G G := ⟨Same.refl _, fun _ _ h => h⟩
theorem Le.trans {G G1 G2 : Gh} (a : Le G G1) (b : Le G1 G2) : Le G G2 := ⟨a.I.trans b.I, fun x g h => b.B x g (a.B x g h)⟩

theorem sqt_mono {K : PySem.W.Frag} {H H' : Hp} {a : Addr} {xs : List V} (e : Same H H') (h : SqT K H a xs) : SqT K H' a xs := by
  rcases h with (h | ⟨o, h⟩) | h
  · exact .inl (.inl (e _ _ h))
  · exact .inl (.inr ⟨o, e _ _ h⟩)
  · exact .inr h

/-- a text of code points that are -/
def sOk (s : Str) : Prop := ∀ c ∈ s.cps.toList, c < 0x110000
mutual
inductive Rep (K : PySem.W.Frag) (G : Gh) : V → D → Prop
  | non : Rep K G .non .non
  | bl (b : Bool) : Rep K G (.bl b) (.bl b)
  | int (i : Int) : Rep K G (.int i) (.int i)
  | str {s : Str} : sOk s → Rep K G (.str s) (.str s)
  | tup {p : Addr} {vs : List V} {ds : List D} : SqT K G.I p vs → RepL K G vs ds → Rep K G (.ref p) (.tup ds)
  | lst {p : Addr} {vs : List V} {ds : List D} : G.I p = some (.lst vs) → RepL K G vs ds → Rep K G (.ref p) (.lst ds)
  | scr {p : Addr} {ns : List Int} : SqL K G.I p (ns.map V.int) → Rep K G (.ref p) (.scr ns)
  | dct {p : Addr} {kvs : List (Key × V)} {kds : List (Key × D)} : G.I p = some (.dK kvs) → kvs.map (·.1) = kds.map (·.1) → RepL K G (kvs.map (·.2)) (kds.map (·.2)) → Rep K G (.ref p) (.dct kds)
  | dtp {p : Addr} {kvs : List (List Key × V)} {kds : List (List Key × D)} : G.I p = some (.dT kvs) → kvs.map (·.1) = kds.map (·.1) → RepL K G (kvs.map (·.2)) (kds.map (·.2)) → Rep K G (.ref p) (.dtp kds)
  | ins {p C dx : Addr} {fvs : List (Str × V)} {fds : List (Str × D)} : G.I p = some (.ins C dx fvs) → fvs.map (·.1) = fds.map (·.1) → RepL K G (fvs.map (·.2)) (fds.map (·.2)) → Rep K G (.ref p) (.ins C fds)
  | box {a g : Addr} : G.B a = some g → Rep K G (.ref a) (.box a)
  | ty (n : String) : Rep K G (.ty n) (.ty n)
  | ref (a : Addr) : Rep K G (.ref a) (.ref a)
inductive RepL (K : PySem.W.Frag) (G : Gh) : List V → List D → Prop
  | nil : RepL K G [] []
  | cons {v : V} {vs : List V} {d : D} {ds : List D} : Rep K G v d → RepL K G vs ds → RepL K G (v :: vs) (d :: ds)
end
section
variable {K : PySem.W.Frag} {G G' : Gh}
mutual
theorem Rep.mono (l : Le G G') : ∀ {v : V} {d : D}, Rep K G v d → Rep K G' v d
  | _, _, .non => .non
  | _, _, .bl b => .bl b
  | _, _, .int i => .int i
  | _, _, .str h => .str h
  | _, _, .tup h r => .tup (sqt_mono l.I h) (r.mono l)
  | _, _, .lst h r => .lst (l.I _ _ h) (r.mono l)
  | _, _, .scr h => .scr (l.I.seq h)
  | _, _, .dct h e r => .dct (l.I _ _ h) e (r.mono l)
  | _, _, .dtp h e r => .dtp (l.I _ _ h) e (r.mono l)
  | _, _, .ins h e r => .ins (l.I _ _ h) e (r.mono l)
  | _, _, .box h => .box (l.B _ _ h)
  | _, _, .ty n => .ty n
  | _, _, .ref a => .ref a
theorem RepL.mono (l : Le G G') : ∀ {vs : List V} {ds : List D}, RepL K G vs ds → RepL K G' vs ds
  | _, _, .nil => .nil
  | _, _, .cons h r => .cons (h.mono l) (r.mono l)
end
theorem RepL.length : ∀ {vs : List V} {ds : List D}, RepL K G vs ds → vs.length = ds.length
  | _, _, .nil => rfl
  | _, _, .cons _ r => congrArg (· + 1) r.length
theorem RepL.append : ∀ {vs ws : List V} {ds es : List D}, RepL K G vs ds → RepL K G ws es → RepL K G (vs ++ ws) (ds ++ es)
  | _, _, _, _, .nil, s => s
  | _, _, _, _, .cons h r, s => .cons h (RepL.append r s)
theorem RepL.one {v : V} {d : D} (h : Rep K G v d) : RepL K G [v] [d] := .cons h .nil
theorem RepL.get : ∀ {vs : List V} {ds : List D} {i : Nat} {d : D}, RepL K G vs ds → ds[i]? = some d → ∃ v, vs[i]? = some v ∧ Rep K G v d
  | _, _, _, _, .nil, e => by simp at e
  | _, _, 0, _, .cons h _, e => by simp at e; subst e; exact ⟨_, rfl, h⟩
  | _, _, i + 1, d, .cons _ r, e => by
    obtain ⟨v, h1, h2⟩ := RepL.get (i := i) (d := d) r (by simpa using e)
    exact ⟨v, by simpa using h1, h2⟩
theorem RepL.getV : ∀ {vs : List V} {ds : List D} {i : Nat} {v : V}, RepL K G vs ds → vs[i]? = some v → ∃ d, ds[i]? = some d ∧ Rep K G v d
  | _, _, _, _, .nil, e => by simp at e
  | _, _, 0, _, .cons h _, e => by simp at e; subst e; exact ⟨_, rfl, h⟩
  | _, _, i + 1, d, .cons _ r, e => by
    obtain ⟨v, h1, h2⟩ := RepL.getV (i := i) (v := d) r (by simpa using e)
    exact ⟨v, by simpa using h1, h2⟩
theorem RepL.take : ∀ {vs : List V} {ds : List D} (n : Nat), RepL K G vs ds → RepL K G (vs.take n) (ds.take n)
  | _, _, 0, _ => .nil
  | _, _, _ + 1, .nil => .nil
  | _, _, n + 1, .cons h r => .cons h (RepL.take n r)
theorem RepL.drop : ∀ {vs : List V} {ds : List D} (n : Nat), RepL K G vs ds → RepL K G (vs.drop n) (ds.drop n)
  | _, _, 0, r => r
  | _, _, _ + 1, .nil => .nil
  | _, _, n + 1, .cons _ r => RepL.drop n r
theorem RepL.reverse : ∀ {vs : List V} {ds : List D}, RepL K G vs ds → RepL K G vs.reverse ds.reverse
  | _, _, .nil => .nil
  | _, _, .cons h r => by
    rw [List.reverse_cons, List.reverse_cons]
    exact r.reverse.append (.one h)
theorem RepL.set {v : V} {d : D} (h : Rep K G v d) : ∀ {vs : List V} {ds : List D} (i : Nat), RepL K G vs ds → RepL K G (vs.set i v) (ds.set i d)
  | _, _, _, .nil => .nil
  | _, _, 0, .cons _ r => .cons h r
  | _, _, i + 1, .cons q r => .cons q (RepL.set h i r)
theorem RepL.eraseIdx : ∀ {vs : List V} {ds : List D} (i : Nat), RepL K G vs ds → RepL K G (vs.eraseIdx i) (ds.eraseIdx i)
  | _, _, _, .nil => .nil
  | _, _, 0, .cons _ r => r
  | _, _, i + 1, .cons q r => .cons q (RepL.eraseIdx i r)
theorem RepL.ints : ∀ {vs : List V} {ns : List Int}, RepL K G vs (ns.map D.int) → vs = ns.map V.int
  | _, [], .nil => rfl
  | _, n :: r, .cons h t => by
    cases h
    rw [List.map_cons, RepL.ints t]
theorem RepL.strs : ∀ {vs : List V} {ns : List Str}, RepL K G vs (ns.map D.str) → vs = ns.map V.str
  | _, [], .nil => rfl
  | _, n :: r, .cons h t => by
    cases h
    rw [List.map_cons, RepL.strs t]
theorem RepL.bls : ∀ {vs : List V} {ns : List Bool}, RepL K G vs (ns.map D.bl) → vs = ns.map V.bl
  | _, [], .nil => rfl
  | _, n :: r, .cons h t => by
    cases h
    rw [List.map_cons, RepL.bls t]
theorem RepL.ofInts : ∀ ns : List Int, RepL K G (ns.map V.int) (ns.map D.int)
  | [] => .nil
  | n :: r => .cons (.int n) (RepL.ofInts r)
theorem RepL.ofStrs : ∀ ns : List Str, (∀ n ∈ ns, sOk n) → RepL K G (ns.map V.str) (ns.map D.str)
  | [], _ => .nil
  | n :: r, h => .cons (.str (h n List.mem_cons_self)) (RepL.ofStrs r fun x hx => h x (List.mem_cons_of_mem _ hx))
theorem RepL.okStrs : ∀ {vs : List V} {ns : List Str}, RepL K G vs (ns.map D.str) → ∀ n ∈ ns, sOk n
  | _, [], .nil, _, h => by cases h
  | _, n :: r, .cons h t, x, hx => by
    cases h with
    | str q =>
      rcases List.mem_cons.mp hx with rfl | hx
      · exact q
      · exact RepL.okStrs t x hx
end

/-! ### the box of draws -/
def boxKv (g : Addr) (now seed turn : Int) : List (Key × V) := [(.inr "great", .ref g), (.inr "now", .int now), (.inr "seed", .int seed), (.inr "turn", .int turn)]
structure BoxAt (H : Hp) (a g : Addr) : Prop where
  at_ : ∃ (gs : List Int) (now seed turn : Int), H a = some (.dK (boxKv g now seed turn)) ∧ H g = some (.lst (gs.map V.int)) ∧ (∀ x ∈ gs, 0 ≤ x) ∧ 0 ≤ now ∧ 0 ≤ seed ∧ 0 ≤ turn ∧ gs.length ≤ 50
structure GOk (G : Gh) (H : Hp) : Prop where
  sub : Same G.I H
  box : ∀ a g, G.B a = some g → BoxAt H a g ∧ G.I a = none ∧ G.I g = none
  sep : ∀ a g a' g', G.B a = some g → G.B a' = some g' → a ≠ g' ∧ (g = g' → a = a')
structure Ent where
  G : Gh
  H : Hp
structure Step (e : Ent) (G : Gh) (H : Hp) (G' : Gh) (H' : Hp) : Prop where
  le : Le G G'
  old : ∀ a, (e.H a).isSome = true → ¬ foot e.G a → H' a = H a
  noI : ∀ a, (e.H a).isSome = true → G.I a = none → G'.I a = none
  noB : ∀ a, (e.H a).isSome = true → ¬ foot G a → ¬ foot G' a
  dom : ∀ a, (e.H a).isSome = true → (H a).isSome = true → (H' a).isSome = true
theorem Step.refl {e : Ent} {G : Gh} {H : Hp} : Step e G H G H := ⟨Le.refl _, fun _ _ _ => rfl, fun _ _ h => h, fun _ _ h => h, fun _ _ h => h⟩
theorem Step.trans {e : Ent} {G G1 G2 : Gh} {H H1 H2 : Hp} (a : Step e G H G1 H1) (b : Step e G1 H1 G2 H2) : Step e G H G2 H2 :=
  ⟨a.le.trans b.le, fun x h n => (b.old x h n).trans (a.old x h n), fun x h n => b.noI x h (a.noI x h n), fun x h n => b.noB x h (a.noB x h n), fun x h n => b.dom x h (a.dom x h n)⟩

inductive Sl where
  | no | im (d : D) | ow (d : D)
abbrev DSt := List Sl
def OwnAt (K : PySem.W.Frag) (G : Gh) (H : Hp) (l : Addr) : D → Prop
  | .lst ds => ∃ vs, H l = some (.lst vs) ∧ RepL K G vs ds
  | .dct kds => ∃ kvs, H l = some (.dK kvs) ∧ kvs.map (·.1) = kds.map (·.1) ∧ RepL K G (kvs.map (·.2)) (kds.map (·.2))
  | .dtp kds => ∃ kvs, H l = some (.dT kvs) ∧ kvs.map (·.1) = kds.map (·.1) ∧ RepL K G (kvs.map (·.2)) (kds.map (·.2))
  | .ins C fds => ∃ dx fvs, H l = some (.ins C dx fvs) ∧ fvs.map (·.1) = fds.map (·.1) ∧ RepL K G (fvs.map (·.2)) (fds.map (·.2))
  | _ => False
theorem OwnAt.mono {K : PySem.W.Frag} {G G' : Gh} {H H' : Hp} {l : Addr} (le : Le G G') (e : H' l = H l) : ∀ {d : D}, OwnAt K G H l d → OwnAt K G' H' l d
  | .lst _, ⟨vs, h, r⟩ => ⟨vs, e.trans h, r.mono le⟩
  | .dct _, ⟨vs, h, q, r⟩ => ⟨vs, e.trans h, q, r.mono le⟩
  | .dtp _, ⟨vs, h, q, r⟩ => ⟨vs, e.trans h, q, r.mono le⟩
  | .ins _ _, ⟨dx, vs, h, q, r⟩ => ⟨dx, vs, e.trans h, q, r.mono le⟩
/-- what stands at an owned address -/
theorem OwnAt.obj {K : PySem.W.Frag} {G : Gh} {H : Hp} {l : Addr} : ∀ {d : D}, OwnAt K G H l d → ∃ o, H l = some o ∧ ∀ G' : Gh, Le G G' → G'.I l = some o → Rep K G' (.ref l) d
  | .lst _, ⟨vs, h, r⟩ => ⟨_, h, fun G' le e => .lst e (r.mono le)⟩
  | .dct _, ⟨vs, h, q, r⟩ => ⟨_, h, fun G' le e => .dct e q (r.mono le)⟩
  | .dtp _, ⟨vs, h, q, r⟩ => ⟨_, h, fun G' le e => .dtp e q (r.mono le)⟩
  | .ins _ _, ⟨dx, vs, h, q, r⟩ => ⟨_, h, fun G' le e => .ins e q (r.mono le)⟩
structure Mine (K : PySem.W.Frag) (e : Ent) (G : Gh) (H : Hp) (l : Addr) (d : D) : Prop where
  own : OwnAt K G H l d
  nI : G.I l = none
  nB : ¬ foot G l
  new : e.H l = none
def SlOk (K : PySem.W.Frag) (e : Ent) (G : Gh) (H : Hp) (o : Option V) : Sl → Prop
  | .no => True
  | .im d => ∃ v, o = some v ∧ Rep K G v d
  | .ow d => ∃ l, o = some (.ref l) ∧ Mine K e G H l d
structure Sts (K : PySem.W.Frag) (e : Ent) (G : Gh) (H : Hp) (σ : St) (δ : DSt) : Prop where
  ok : GOk G H
  stp : Step e e.G e.H G H
  len : σ.length = δ.length
  sl : ∀ (i : Nat) (s : Sl), δ[i]? = some s → ∃ o, σ[i]? = some o ∧ SlOk K e G H o s
  sep : ∀ (i j : Nat) (di dj : D) (l : Addr), i ≠ j → δ[i]? = some (.ow di) → δ[j]? = some (.ow dj) → σ[i]? = some (some (.ref l)) → σ[j]? = some (some (.ref l)) → False
end T

namespace T
open PySem L2

section
variable {K : PySem.W.Frag} {e : Ent} {G G' : Gh} {H H' : Hp} {σ : St} {δ : DSt}

theorem some_of {o : Option HO} (h : o.isSome = true) : ∃ x, o = some x := Option.isSome_iff_exists.mp h
theorem Sts.eNone (S : Sts K e G H σ δ) {p : Addr} (h : H p = none) : e.H p = none := by
  cases q : e.H p with
  | none => rfl
  | some o =>
    have := S.stp.dom p (by rw [q]; rfl) (by rw [q]; rfl)
    rw [h] at this; cases this
theorem GOk.iNone (k : GOk G H) {p : Addr} (h : H p = none) : G.I p = none := k.sub.free h
theorem GOk.noFoot (k : GOk G H) {p : Addr} (h : H p = none) : ¬ foot G p := by
  rintro (⟨g, q⟩ | ⟨a, q⟩)
  · obtain ⟨gs, now, seed, turn, ha, _⟩ := (k.box _ _ q).1.at_
    rw [h] at ha; cases ha
  · obtain ⟨gs, now, seed, turn, _, hg, _⟩ := (k.box _ _ q).1.at_
    rw [h] at hg; cases hg
theorem BoxAt.keep {a g : Addr} (b : BoxAt H a g) (h1 : H' a = H a) (h2 : H' g = H g) : BoxAt H' a g := by
  obtain ⟨gs, now, seed, turn, ha, hg, r⟩ := b.at_
  exact ⟨gs, now, seed, turn, h1.trans ha, h2.trans hg, r⟩
/-- a change at an address that is neither frozen nor a box's -/
theorem GOk.updO (k : GOk G H) {p : Addr} {o : HO} (nI : G.I p = none) (nB : ¬ foot G p) : GOk G (upd H p o) where
  sub := fun b q h => by rw [upd_ne (ne_of_none h nI)]; exact k.sub b q h
  box := fun a g q => by
    obtain ⟨b, i1, i2⟩ := k.box a g q
    have na : a ≠ p := fun z => nB (.inl ⟨g, by rw [← z]; exact q⟩)
    have ng : g ≠ p := fun z => nB (.inr ⟨a, by rw [← z]; exact q⟩)
    exact ⟨b.keep (upd_ne na) (upd_ne ng), i1, i2⟩
  sep := k.sep
theorem Step.updO {p : Addr} {o : HO} (new : e.H p = none) : Step e G H G (upd H p o) where
  le := Le.refl _
  old := fun a h _ => upd_ne fun z => by rw [z, new] at h; cases h
  noI := fun _ _ h => h
  noB := fun _ _ h => h
  dom := fun a h q => by
    rw [upd_ne fun z => by rw [z, new] at h; cases h]
    exact q
theorem Mine.updO {l p : Addr} {o : HO} {d : D} (m : Mine K e G H l d) (h : l ≠ p) : Mine K e G (upd H p o) l d :=
  ⟨m.own.mono (Le.refl _) (upd_ne h), m.nI, m.nB, m.new⟩
/-- a change at an address that no slot owns -/
theorem Sts.updO (S : Sts K e G H σ δ) {p : Addr} {o : HO} (nI : G.I p = none) (nB : ¬ foot G p) (new : e.H p = none) (ap : ∀ (i : Nat) (d : D), δ[i]? = some (.ow d) → σ[i]? ≠ some (some (.ref p))) : Sts K e G (upd H p o) σ δ where
  ok := S.ok.updO nI nB
  stp := S.stp.trans (Step.updO new)
  len := S.len
  sl := fun i s hs => by
    obtain ⟨x, hx, h⟩ := S.sl i s hs
    refine ⟨x, hx, ?_⟩
    cases s with
    | no => trivial
    | im d => exact h
    | ow d =>
      obtain ⟨l, rfl, m⟩ := h
      exact ⟨l, rfl, m.updO fun z => ap i d hs (by rw [hx, z])⟩
  sep := S.sep
theorem Mine.obj {l : Addr} {d : D} (m : Mine K e G H l d) : ∃ o, H l = some o := let ⟨o, h, _⟩ := m.own.obj; ⟨o, h⟩
/-- a new object -/
theorem Sts.new (S : Sts K e G H σ δ) {p : Addr} {o : HO} (h : H p = none) : Sts K e G (L2.upd H p o) σ δ ∧ Step e G H G (L2.upd H p o) ∧ G.I p = none ∧ ¬ foot G p ∧ e.H p = none ∧ ∀ (i : Nat) (d : D), δ[i]? = some (.ow d) → σ[i]? ≠ some (some (.ref p)) := by
  have nI := S.ok.iNone h
  have nB := S.ok.noFoot h
  have new := S.eNone h
  have ap : ∀ (i : Nat) (d : D), δ[i]? = some (.ow d) → σ[i]? ≠ some (some (.ref p)) := fun i d hs z => by
    obtain ⟨x, hx, q⟩ := S.sl i _ hs
    obtain ⟨l, rfl, m⟩ := q
    rw [hx] at z
    have e1 : l = p := by simpa using z
    obtain ⟨o', ho⟩ := m.obj
    rw [e1, h] at ho; cases ho
  exact ⟨S.updO nI nB new ap, Step.updO new, nI, nB, new, ap⟩

/-! ### freezing -/
def Gh.fz (G : Gh) (l : Addr) (o : HO) : Gh := { G with I := L2.upd G.I l o }
theorem Gh.fz_le {l : Addr} {o : HO} (h : G.I l = none) : Le G (G.fz l o) := ⟨fun b q z => by show L2.upd G.I l o b = some q; rw [upd_ne (ne_of_none z h)]; exact z, fun _ _ z => z⟩
theorem foot_fz {l x : Addr} {o : HO} : foot (G.fz l o) x ↔ foot G x := Iff.rfl
theorem Mine.fz {l m : Addr} {o : HO} {d : D} (x : Mine K e G H m d) (h : m ≠ l) (hl : G.I l = none) : Mine K e (G.fz l o) H m d :=
  ⟨x.own.mono (Gh.fz_le hl) rfl, by show L2.upd G.I l o m = none; rw [upd_ne h]; exact x.nI, x.nB, x.new⟩
theorem GOk.fz (k : GOk G H) {l : Addr} {o : HO} (ho : H l = some o) (nB : ¬ foot G l) : GOk (G.fz l o) H where
  sub := fun b q h => by
    have h' : L2.upd G.I l o b = some q := h
    by_cases z : b = l
    · subst z; rw [upd_same] at h'; cases h'; exact ho
    · rw [upd_ne z] at h'; exact k.sub b q h'
  box := fun a g q => by
    have q' : G.B a = some g := q
    obtain ⟨b, i1, i2⟩ := k.box a g q'
    refine ⟨b, ?_, ?_⟩
    · show L2.upd G.I l o a = none
      rw [upd_ne fun z => nB (.inl ⟨g, by rw [← z]; exact q'⟩)]; exact i1
    · show L2.upd G.I l o g = none
      rw [upd_ne fun z => nB (.inr ⟨a, by rw [← z]; exact q'⟩)]; exact i2
  sep := k.sep
theorem Step.fz {l : Addr} {o : HO} (nI : G.I l = none) (new : e.H l = none) : Step e G H (G.fz l o) H where
  le := Gh.fz_le nI
  old := fun _ _ _ => rfl
  noI := fun a h q => by show L2.upd G.I l o a = none; rw [upd_ne fun z => by rw [z, new] at h; cases h]; exact q
  noB := fun _ _ h => h
  dom := fun _ _ h => h
/-- freezing a thing that is ours and that no slot owns -/
theorem Sts.freeze (S : Sts K e G H σ δ) {l : Addr} {d : D} (m : Mine K e G H l d) (ap : ∀ (i : Nat) (d : D), δ[i]? = some (.ow d) → σ[i]? ≠ some (some (.ref l))) :
    ∃ G', Sts K e G' H σ δ ∧ Step e G H G' H ∧ Rep K G' (.ref l) d := by
  obtain ⟨o, ho, hr⟩ := m.own.obj
  refine ⟨G.fz l o, ⟨S.ok.fz ho m.nB, S.stp.trans (Step.fz m.nI m.new), S.len, fun i s hs => ?_, S.sep⟩, Step.fz m.nI m.new, hr _ (Gh.fz_le m.nI) upd_same⟩
  obtain ⟨x, hx, h⟩ := S.sl i s hs
  refine ⟨x, hx, ?_⟩
  cases s with
  | no => trivial
  | im d => obtain ⟨v, e1, r⟩ := h; exact ⟨v, e1, r.mono (Gh.fz_le m.nI)⟩
  | ow d' =>
    obtain ⟨l', rfl, m'⟩ := h
    exact ⟨l', rfl, m'.fz (fun z => ap i d' hs (by rw [hx, z])) m.nI⟩
theorem Sts.setNo (S : Sts K e G H σ δ) (i : Nat) : Sts K e G H σ (δ.set i .no) where
  ok := S.ok
  stp := S.stp
  len := by rw [List.length_set]; exact S.len
  sl := fun j s hs => by
    by_cases z : i = j
    · subst z
      by_cases hl : i < δ.length
      · rw [List.getElem?_set_self hl] at hs
        cases hs
        obtain ⟨x, hx, _⟩ := S.sl i _ (List.getElem?_eq_getElem hl)
        exact ⟨x, hx, trivial⟩
      · rw [List.set_eq_of_length_le (by omega)] at hs
        exact S.sl i s hs
    · rw [List.getElem?_set_ne z] at hs
      exact S.sl j s hs
  sep := fun a b da db l hab ha hb => by
    have f : ∀ (a : Nat) (da : D), (δ.set i .no)[a]? = some (.ow da) → δ[a]? = some (.ow da) := fun a da ha => by
      by_cases z : i = a
      · subst z
        by_cases hl : i < δ.length
        · rw [List.getElem?_set_self hl] at ha; cases ha
        · rw [List.set_eq_of_length_le (by omega)] at ha; exact ha
      · rw [List.getElem?_set_ne z] at ha; exact ha
    exact S.sep a b da db l hab (f a da ha) (f b db hb)
theorem ow_set {δ : DSt} {i j : Nat} {s : Sl} {d : D} (h : (δ.set i s)[j]? = some (.ow d)) : (j = i ∧ s = .ow d) ∨ (j ≠ i ∧ δ[j]? = some (.ow d)) := by
  by_cases z : i = j
  · subst z
    by_cases hl : i < δ.length
    · rw [List.getElem?_set_self hl] at h
      exact .inl ⟨rfl, Option.some.inj h⟩
    · rw [List.set_eq_of_length_le (by omega)] at h
      have := (List.getElem?_eq_some_iff.mp h).1
      omega
  · rw [List.getElem?_set_ne z] at h
    exact .inr ⟨fun q => z q.symm, h⟩
/-- a slot is known to hold a frozen thing -/
theorem Sts.know (S : Sts K e G H σ δ) {i : Nat} {v : V} {d : D} (hv : σ[i]? = some (some v)) (r : Rep K G v d) : Sts K e G H σ (δ.set i (.im d)) where
  ok := S.ok
  stp := S.stp
  len := by rw [List.length_set]; exact S.len
  sl := fun j s hs => by
    by_cases z : i = j
    · subst z
      by_cases hl : i < δ.length
      · rw [List.getElem?_set_self hl] at hs
        cases hs
        exact ⟨_, hv, v, rfl, r⟩
      · rw [List.set_eq_of_length_le (by omega)] at hs
        exact S.sl i s hs
    · rw [List.getElem?_set_ne z] at hs
      exact S.sl j s hs
  sep := fun a b da db l hab ha hb => by
    rcases ow_set ha with ⟨_, z⟩ | ⟨_, ha⟩
    · cases z
    · rcases ow_set hb with ⟨_, z⟩ | ⟨_, hb⟩
      · cases z
      · exact S.sep a b da db l hab ha hb
/-- an owned slot is frozen -/
theorem Sts.fzSlot (S : Sts K e G H σ δ) {i : Nat} {d : D} (hs : δ[i]? = some (.ow d)) : ∃ G' v, σ[i]? = some (some v) ∧ Sts K e G' H σ (δ.set i (.im d)) ∧ Step e G H G' H ∧ Rep K G' v d := by
  obtain ⟨x, hx, l, rfl, m⟩ := S.sl i _ hs
  have S1 := S.setNo i
  have ap : ∀ (j : Nat) (d' : D), (δ.set i .no)[j]? = some (.ow d') → σ[j]? ≠ some (some (.ref l)) := fun j d' h z => by
    rcases ow_set h with ⟨_, q⟩ | ⟨n, h⟩
    · cases q
    · exact S.sep j i d' d l n h hs z hx
  obtain ⟨G', S2, st, r⟩ := S1.freeze m ap
  refine ⟨G', _, hx, ?_, st, r⟩
  have S3 := S2.know hx r
  rwa [List.set_set] at S3
theorem Sts.asg (S : Sts K e G H σ δ) {i : Nat} {v : V} {d : D} (r : Rep K G v d) : Sts K e G H (σ.set i (some v)) (δ.set i (.im d)) where
  ok := S.ok
  stp := S.stp
  len := by rw [List.length_set, List.length_set]; exact S.len
  sl := fun j s hs => by
    by_cases z : i = j
    · subst z
      by_cases hl : i < δ.length
      · rw [List.getElem?_set_self hl] at hs
        cases hs
        exact ⟨_, List.getElem?_set_self (by rw [S.len]; exact hl), v, rfl, r⟩
      · rw [List.set_eq_of_length_le (by omega)] at hs
        have := (List.getElem?_eq_some_iff.mp hs).1
        omega
    · rw [List.getElem?_set_ne z] at hs
      rw [List.getElem?_set_ne z]
      exact S.sl j s hs
  sep := fun a b da db l hab ha hb qa qb => by
    rcases ow_set ha with ⟨_, z⟩ | ⟨na, ha⟩
    · cases z
    · rcases ow_set hb with ⟨_, z⟩ | ⟨nb, hb⟩
      · cases z
      · rw [List.getElem?_set_ne (fun z => na z.symm)] at qa
        rw [List.getElem?_set_ne (fun z => nb z.symm)] at qb
        exact S.sep a b da db l hab ha hb qa qb
theorem Sts.asgO (S : Sts K e G H σ δ) {i : Nat} {l : Addr} {d : D} (m : Mine K e G H l d) (ap : ∀ (i : Nat) (d : D), δ[i]? = some (.ow d) → σ[i]? ≠ some (some (.ref l))) : Sts K e G H (σ.set i (some (.ref l))) (δ.set i (.ow d)) where
  ok := S.ok
  stp := S.stp
  len := by rw [List.length_set, List.length_set]; exact S.len
  sl := fun j s hs => by
    by_cases z : i = j
    · subst z
      by_cases hl : i < δ.length
      · rw [List.getElem?_set_self hl] at hs
        cases hs
        exact ⟨_, List.getElem?_set_self (by rw [S.len]; exact hl), l, rfl, m⟩
      · rw [List.set_eq_of_length_le (by omega)] at hs
        have := (List.getElem?_eq_some_iff.mp hs).1
        omega
    · rw [List.getElem?_set_ne z] at hs
      rw [List.getElem?_set_ne z]
      exact S.sl j s hs
  sep := fun a b da db x hab ha hb qa qb => by
    rcases ow_set ha with ⟨ea, za⟩ | ⟨na, ha2⟩
    · rcases ow_set hb with ⟨eb, _⟩ | ⟨nb, hb2⟩
      · exact hab (ea.trans eb.symm)
      · rw [List.getElem?_set_ne (fun z => nb z.symm)] at qb
        subst ea
        by_cases hl : a < σ.length
        · rw [List.getElem?_set_self hl] at qa
          have : l = x := by simpa using qa
          subst this
          exact ap b db hb2 qb
        · rw [List.set_eq_of_length_le (by omega)] at qa
          have := (List.getElem?_eq_some_iff.mp qa).1
          omega
    · rcases ow_set hb with ⟨eb, _⟩ | ⟨nb, hb⟩
      · rw [List.getElem?_set_ne (fun z => na z.symm)] at qa
        subst eb
        by_cases hl : b < σ.length
        · rw [List.getElem?_set_self hl] at qb
          have : l = x := by simpa using qb
          subst this
          exact ap a da ha2 qa
        · rw [List.set_eq_of_length_le (by omega)] at qb
          have := (List.getElem?_eq_some_iff.mp qb).1
          omega
      · rw [List.getElem?_set_ne (fun z => na z.symm)] at qa
        rw [List.getElem?_set_ne (fun z => nb z.symm)] at qb
        exact S.sep a b da db x hab ha2 hb qa qb
/-- an owned slot's object is changed -/
theorem Sts.write (S : Sts K e G H σ δ) {i : Nat} {d d' : D} {l : Addr} {o : HO} (hs : δ[i]? = some (.ow d)) (hx : σ[i]? = some (some (.ref l))) (hn : OwnAt K G (L2.upd H l o) l d') :
    Sts K e G (L2.upd H l o) σ (δ.set i (.ow d')) ∧ Step e G H G (L2.upd H l o) := by
  obtain ⟨x, hx', l', e1, m⟩ := S.sl i _ hs
  rw [hx] at hx'
  cases hx'
  have e2 : l = l' := by simpa using e1
  subst e2
  have S1 := S.setNo i
  have ap : ∀ (j : Nat) (d' : D), (δ.set i .no)[j]? = some (.ow d') → σ[j]? ≠ some (some (.ref l)) := fun j d' h z => by
    rcases ow_set h with ⟨_, q⟩ | ⟨n, h⟩
    · cases q
    · exact S.sep j i d' d l n h hs z hx
  have S2 := S1.updO (o := o) m.nI m.nB m.new ap
  have S3 := S2.asgO (i := i) (d := d') (l := l) ⟨hn, m.nI, m.nB, m.new⟩ ap
  rw [List.set_set] at S3
  have hi : i < σ.length := (List.getElem?_eq_some_iff.mp hx).1
  have e3 : σ.set i (some (.ref l)) = σ := by
    have h2 := (List.getElem?_eq_some_iff.mp hx).2
    rw [← h2]
    exact List.set_getElem_self hi
  rw [e3] at S3
  exact ⟨S3, Step.updO m.new⟩
end
/-! ### the state with temporaries held: more slots behind the frame's -/
structure Tm where
  v : St
  d : DSt
structure SS (K : PySem.W.Frag) (e : Ent) (T : Tm) (G : Gh) (H : Hp) (σ : St) (δ : DSt) : Prop where
  ln : δ.length = σ.length
  s : Sts K e G H (σ ++ T.v) (δ ++ T.d)
def Apart (σ : St) (δ : DSt) (T : Tm) (l : Addr) : Prop := ∀ (i : Nat) (d : D), (δ ++ T.d)[i]? = some (.ow d) → (σ ++ T.v)[i]? ≠ some (some (.ref l))
section
variable {K : PySem.W.Frag} {e : Ent} {T : Tm} {G G' : Gh} {H H' : Hp} {σ : St} {δ : DSt}
theorem SS.ok (S : SS K e T G H σ δ) : GOk G H := S.s.ok
theorem SS.stp (S : SS K e T G H σ δ) : Step e e.G e.H G H := S.s.stp
theorem lt_of_get {α : Type} {l : List α} {i : Nat} {x : α} (h : l[i]? = some x) : i < l.length := (List.getElem?_eq_some_iff.mp h).1
theorem get_l {α : Type} {l r : List α} {i : Nat} (h : i < l.length) : (l ++ r)[i]? = l[i]? := List.getElem?_append_left h
theorem SS.sl (S : SS K e T G H σ δ) (i : Nat) (s : Sl) (h : δ[i]? = some s) : ∃ o, σ[i]? = some o ∧ SlOk K e G H o s := by
  have hi := lt_of_get h
  obtain ⟨o, h1, h2⟩ := S.s.sl i s (by rw [get_l hi]; exact h)
  rw [get_l (by rw [← S.ln]; exact hi)] at h1
  exact ⟨o, h1, h2⟩
theorem set_app {α : Type} {l r : List α} {i : Nat} {x : α} (h : i < l.length) : (l ++ r).set i x = l.set i x ++ r := by rw [List.set_append, if_pos h]
theorem SS.new (S : SS K e T G H σ δ) {p : Addr} {o : HO} (h : H p = none) : SS K e T G (L2.upd H p o) σ δ ∧ Step e G H G (L2.upd H p o) ∧ G.I p = none ∧ ¬ foot G p ∧ e.H p = none ∧ Apart σ δ T p := by
  obtain ⟨a, b, c, d, f, g⟩ := S.s.new (o := o) h
  exact ⟨⟨S.ln, a⟩, b, c, d, f, g⟩
theorem SS.freeze (S : SS K e T G H σ δ) {l : Addr} {d : D} (m : Mine K e G H l d) (ap : Apart σ δ T l) : ∃ G', SS K e T G' H σ δ ∧ Step e G H G' H ∧ Rep K G' (.ref l) d := by
  obtain ⟨G', a, b, c⟩ := S.s.freeze m ap
  exact ⟨G', ⟨S.ln, a⟩, b, c⟩
theorem SS.fzSlot (S : SS K e T G H σ δ) {i : Nat} {d : D} (hs : δ[i]? = some (.ow d)) : ∃ G' v, σ[i]? = some (some v) ∧ SS K e T G' H σ (δ.set i (.im d)) ∧ Step e G H G' H ∧ Rep K G' v d := by
  have hi := lt_of_get hs
  obtain ⟨G', v, h1, a, b, c⟩ := S.s.fzSlot (i := i) (d := d) (by rw [get_l hi]; exact hs)
  rw [get_l (by rw [← S.ln]; exact hi)] at h1
  rw [set_app hi] at a
  exact ⟨G', v, h1, ⟨by rw [List.length_set]; exact S.ln, a⟩, b, c⟩
theorem set_out {α : Type} {l : List α} {i : Nat} {x : α} (h : ¬ i < l.length) : l.set i x = l := List.set_eq_of_length_le (by omega)
theorem SS.asg (S : SS K e T G H σ δ) {i : Nat} {v : V} {d : D} (r : Rep K G v d) : SS K e T G H (σ.set i (some v)) (δ.set i (.im d)) := by
  by_cases hi : i < δ.length
  · have a := S.s.asg (i := i) r
    rw [set_app hi, set_app (by rw [← S.ln]; exact hi)] at a
    exact ⟨by rw [List.length_set, List.length_set]; exact S.ln, a⟩
  · rw [set_out hi, set_out (by rw [← S.ln]; exact hi)]
    exact S
theorem SS.asgO (S : SS K e T G H σ δ) {i : Nat} {l : Addr} {d : D} (m : Mine K e G H l d) (ap : Apart σ δ T l) : SS K e T G H (σ.set i (some (.ref l))) (δ.set i (.ow d)) := by
  by_cases hi : i < δ.length
  · have a := S.s.asgO (i := i) m ap
    rw [set_app hi, set_app (by rw [← S.ln]; exact hi)] at a
    exact ⟨by rw [List.length_set, List.length_set]; exact S.ln, a⟩
  · rw [set_out hi, set_out (by rw [← S.ln]; exact hi)]
    exact S
theorem SS.write (S : SS K e T G H σ δ) {i : Nat} {d d' : D} {l : Addr} {o : HO} (hs : δ[i]? = some (.ow d)) (hx : σ[i]? = some (some (.ref l))) (hn : OwnAt K G (L2.upd H l o) l d') :
    SS K e T G (L2.upd H l o) σ (δ.set i (.ow d')) ∧ Step e G H G (L2.upd H l o) := by
  have hi := lt_of_get hs
  obtain ⟨a, b⟩ := S.s.write (i := i) (d := d) (d' := d') (l := l) (o := o) (by rw [get_l hi]; exact hs) (by rw [get_l (by rw [← S.ln]; exact hi)]; exact hx) hn
  rw [set_app hi] at a
  exact ⟨⟨by rw [List.length_set]; exact S.ln, a⟩, b⟩
theorem SS.setNo (S : SS K e T G H σ δ) (i : Nat) : SS K e T G H σ (δ.set i .no) := by
  by_cases hi : i < δ.length
  · have a := S.s.setNo i
    rw [set_app hi] at a
    exact ⟨by rw [List.length_set]; exact S.ln, a⟩
  · rw [set_out hi]; exact S
/-- one thing more is held -/
def Tm.push (T : Tm) (l : Addr) (d : D) : Tm := ⟨T.v ++ [some (.ref l)], T.d ++ [.ow d]⟩
theorem getElem?_snoc {α : Type} {l : List α} {x : α} {i : Nat} : (l ++ [x])[i]? = if i = l.length then some x else l[i]? := by
  by_cases h : i < l.length
  · rw [List.getElem?_append_left h, if_neg (by omega)]
  · rw [List.getElem?_append_right (by omega)]
    by_cases z : i = l.length
    · subst z; simp
    · have h1 : ([x] : List α).length ≤ i - l.length := by simp; omega
      rw [if_neg z, List.getElem?_eq_none h1, List.getElem?_eq_none (show l.length ≤ i by omega)]
theorem SS.hold (S : SS K e T G H σ δ) {l : Addr} {d : D} (m : Mine K e G H l d) (ap : Apart σ δ T l) : SS K e (T.push l d) G H σ δ := by
  refine ⟨S.ln, S.ok, S.stp, ?_, fun i s hs => ?_, fun i j di dj x hij hi hj qi qj => ?_⟩
  · have := S.s.len
    simp only [Tm.push, List.length_append] at this ⊢
    simp; omega
  · have e1 : δ ++ (T.push l d).d = (δ ++ T.d) ++ [.ow d] := by simp [Tm.push]
    have e2 : σ ++ (T.push l d).v = (σ ++ T.v) ++ [some (.ref l)] := by simp [Tm.push]
    rw [e1, getElem?_snoc] at hs
    rw [e2, getElem?_snoc]
    by_cases z : i = (δ ++ T.d).length
    · rw [if_pos z] at hs
      cases hs
      rw [if_pos (by rw [S.s.len]; exact z)]
      exact ⟨_, rfl, l, rfl, m⟩
    · rw [if_neg z] at hs
      rw [if_neg (by rw [S.s.len]; exact z)]
      exact S.s.sl i s hs
  · have e1 : δ ++ (T.push l d).d = (δ ++ T.d) ++ [.ow d] := by simp [Tm.push]
    have e2 : σ ++ (T.push l d).v = (σ ++ T.v) ++ [some (.ref l)] := by simp [Tm.push]
    rw [e1, getElem?_snoc] at hi hj
    rw [e2, getElem?_snoc] at qi qj
    rw [S.s.len] at qi qj
    by_cases zi : i = (δ ++ T.d).length
    · by_cases zj : j = (δ ++ T.d).length
      · exact hij (zi.trans zj.symm)
      · rw [if_neg zj] at hj qj
        rw [if_pos zi] at qi
        have : l = x := by simpa using qi
        subst this
        exact ap j dj hj qj
    · rw [if_neg zi] at hi qi
      by_cases zj : j = (δ ++ T.d).length
      · rw [if_pos zj] at qj
        have : l = x := by simpa using qj
        subst this
        exact ap i di hi qi
      · rw [if_neg zj] at hj qj
        exact S.s.sep i j di dj x hij hi hj qi qj
/-- .. and let go: it is ours, as it was -/
theorem SS.drop {l : Addr} {d : D} (S : SS K e (T.push l d) G H σ δ) : SS K e T G H σ δ ∧ Mine K e G H l d ∧ Apart σ δ T l := by
  have e1 : δ ++ (T.push l d).d = (δ ++ T.d) ++ [.ow d] := by simp [Tm.push]
  have e2 : σ ++ (T.push l d).v = (σ ++ T.v) ++ [some (.ref l)] := by simp [Tm.push]
  have hl : (σ ++ T.v).length = (δ ++ T.d).length := by
    have := S.s.len
    rw [e1, e2] at this
    simp only [List.length_append, List.length_cons, List.length_nil] at this ⊢
    omega
  have s := S.s.sl
  have sp := S.s.sep
  rw [e1, e2] at s sp
  refine ⟨⟨S.ln, S.ok, S.stp, hl, fun i x hs => ?_, fun i j di dj x hij hi hj qi qj => ?_⟩, ?_, fun i d' hi z => ?_⟩
  · have h1 := lt_of_get hs
    obtain ⟨o, h2, h3⟩ := s i x (by rw [get_l h1]; exact hs)
    rw [get_l (by omega)] at h2
    exact ⟨o, h2, h3⟩
  · have h1 := lt_of_get hi
    have h2 := lt_of_get hj
    exact sp i j di dj x hij (by rw [get_l h1]; exact hi) (by rw [get_l h2]; exact hj) (by rw [get_l (by omega)]; exact qi) (by rw [get_l (by omega)]; exact qj)
  · obtain ⟨o, h2, x, h3, m⟩ := s (δ ++ T.d).length (.ow d) (by rw [getElem?_snoc, if_pos rfl])
    rw [getElem?_snoc, if_pos hl.symm] at h2
    have : o = some (.ref l) := (Option.some.inj h2).symm
    subst this
    have : l = x := by simpa using h3
    subst this
    exact m
  · have h1 := lt_of_get hi
    exact sp i (δ ++ T.d).length d' d l (by omega) (by rw [get_l h1]; exact hi) (by rw [getElem?_snoc, if_pos rfl]) (by rw [get_l (by omega)]; exact z) (by rw [getElem?_snoc, if_pos hl.symm])
/-- what is held is changed -/
theorem SS.writeT {l : Addr} {d d' : D} {o : HO} (S : SS K e (T.push l d) G H σ δ) (hn : OwnAt K G (L2.upd H l o) l d') : SS K e (T.push l d') G (L2.upd H l o) σ δ ∧ Step e G H G (L2.upd H l o) := by
  obtain ⟨S1, m, ap⟩ := S.drop
  have S2 : SS K e T G (L2.upd H l o) σ δ := ⟨S1.ln, S1.s.updO m.nI m.nB m.new ap⟩
  exact ⟨S2.hold ⟨hn, m.nI, m.nB, m.new⟩ ap, Step.updO m.new⟩
theorem SS.know (S : SS K e T G H σ δ) {i : Nat} {v : V} {d : D} (hv : σ[i]? = some (some v)) (r : Rep K G v d) : SS K e T G H σ (δ.set i (.im d)) := by
  by_cases hi : i < δ.length
  · have a := S.s.know (i := i) (v := v) (d := d) (by rw [get_l (by rw [← S.ln]; exact hi)]; exact hv) r
    rw [set_app hi] at a
    exact ⟨by rw [List.length_set]; exact S.ln, a⟩
  · rw [set_out hi]; exact S
end
end T

namespace T
open PySem L2

abbrev TDE := DSt → (D → DSt → Prop) → Prop
abbrev TDT := DSt → (Bool → DSt → Prop) → Prop
abbrev TDA := DSt → (List D → DSt → Prop) → Prop

def lift (K : PySem.W.Frag) (e : Ent) (t : TDE) : TE := fun σ H Q => ∃ (T : Tm) (G : Gh) (δ : DSt) (Qd : D → DSt → Prop), SS K e T G H σ δ ∧ t δ Qd ∧
  ∀ v d H' G' δ', SS K e T G' H' σ δ' → Step e G H G' H' → Rep K G' v d → Qd d δ' → Q v H'
def liftO (K : PySem.W.Frag) (e : Ent) (t : TDE) : TE := fun σ H Q => ∃ (T : Tm) (G : Gh) (δ : DSt) (Qd : D → DSt → Prop), SS K e T G H σ δ ∧ t δ Qd ∧
  ∀ l d H' G' δ', SS K e T G' H' σ δ' → Step e G H G' H' → Mine K e G' H' l d → Apart σ δ' T l → Qd d δ' → Q (.ref l) H'
def liftT (K : PySem.W.Frag) (e : Ent) (t : TDT) : TT := fun σ H Q => ∃ (T : Tm) (G : Gh) (δ : DSt) (Qd : Bool → DSt → Prop), SS K e T G H σ δ ∧ t δ Qd ∧
  ∀ b H' G' δ', SS K e T G' H' σ δ' → Step e G H G' H' → Qd b δ' → Q b H'
def liftA (K : PySem.W.Frag) (e : Ent) (n : Nat) (t : TDA) : TA := fun σ H Q => ∃ (T : Tm) (G : Gh) (δ : DSt) (Qd : List D → DSt → Prop), SS K e T G H σ δ ∧ t δ Qd ∧
  ∀ vs ds H' G' δ', SS K e T G' H' σ δ' → Step e G H G' H' → RepL K G' vs ds → ds.length = n → Qd ds δ' → Q vs H'

theorem pe_imp {X : Cx} {ex : Expr} {t t' : TE} (h : PE X ex t) (k : ∀ σ H Q, t' σ H Q → t σ H Q) : PE X ex t' := ⟨fun pins s σ H Q I q => h.run pins s σ H Q I (k σ H Q q)⟩
theorem pt_imp {X : Cx} {ex : Expr} {t t' : TT} (h : PT X ex t) (k : ∀ σ H Q, t' σ H Q → t σ H Q) : PT X ex t' := ⟨fun pins s σ H Q I q => h.run pins s σ H Q I (k σ H Q q)⟩
theorem pw_imp {X : Cx} {ex : Expr} {t t' : TT} (h : PW X ex t) (k : ∀ σ H Q, t' σ H Q → t σ H Q) : PW X ex t' := ⟨fun wh pins s σ H Q I q => h.run wh pins s σ H Q I (k σ H Q q)⟩
theorem pa_imp {X : Cx} {es : List Expr} {t t' : TA} (h : PA X es t) (k : ∀ σ H Q, t' σ H Q → t σ H Q) : PA X es t' := ⟨fun pos pins s σ H Q I q => h.run pos pins s σ H Q I (k σ H Q q)⟩
theorem ps_imp {X : Cx} {st : Stmt} {t t' : TS} (h : PS X st t) (k : ∀ D σ H, t' D σ H → t D σ H) : PS X st t' := ⟨fun pins s σ H D I q => h.run pins s σ H D I (k D σ H q)⟩
theorem pss_imp {X : Cx} {st : List Stmt} {t t' : TS} (h : PSs X st t) (k : ∀ D σ H, t' D σ H → t D σ H) : PSs X st t' := ⟨fun pins s σ H D I q => h.run pins s σ H D I (k D σ H q)⟩

def DE (X : Cx) (e : Ent) (ex : Expr) (t : TDE) : Prop := PE X ex (lift X.K e t)
def DO (X : Cx) (e : Ent) (ex : Expr) (t : TDE) : Prop := PE X ex (liftO X.K e t)
def DT (X : Cx) (e : Ent) (ex : Expr) (t : TDT) : Prop := PT X ex (liftT X.K e t)
def DW (X : Cx) (e : Ent) (ex : Expr) (t : TDT) : Prop := PW X ex (liftT X.K e t)
def DA (X : Cx) (e : Ent) (es : List Expr) (t : TDA) : Prop := PA X es (liftA X.K e es.length t)

section
variable {X : Cx} {e : Ent} {pos : Pos}

theorem DO.de {ex : Expr} {t : TDE} (h : DO X e ex t) : DE X e ex t := pe_imp h fun σ H Q ⟨T, G, δ, Qd, S, q, k⟩ => ⟨T, G, δ, Qd, S, q, fun l d H' G' δ' S' st m ap qd => by
  obtain ⟨G2, S2, st2, r⟩ := S'.freeze m ap
  exact k _ d H' G2 δ' S2 (st.trans st2) r qd⟩
theorem DW.dt {ex : Expr} {t : TDT} (h : DW X e ex t) : DT X e ex t := PW.pt h

/-! ### names and constants -/
def dVar (i : Nat) : TDE := fun δ Q => match δ[i]? with
  | some (.im d) => Q d δ
  | some (.ow d) => Q d (δ.set i (.im d))
  | _ => False
theorem de_var {i : Nat} {ex : Expr} (h : PE X ex (tVar i)) : DE X e ex (dVar i) := pe_imp h fun σ H Q ⟨T, G, δ, Qd, S, q, k⟩ => by
  unfold dVar at q
  cases hs : δ[i]? with
  | none => rw [hs] at q; exact q.elim
  | some s =>
    rw [hs] at q
    cases s with
    | no => exact q.elim
    | im d =>
      obtain ⟨x, hx, v, rfl, r⟩ := S.sl i _ hs
      exact ⟨v, hx, k v d H G δ S Step.refl r q⟩
    | ow d =>
      obtain ⟨G', v, hx, S', st, r⟩ := S.fzSlot hs
      exact ⟨v, hx, k v d H G' _ S' st r q⟩
def dC (d : D) : TDE := fun δ Q => Q d δ
theorem de_c {ex : Expr} {v : V} {d : D} (h : PE X ex (tC v)) (r : ∀ G, Rep X.K G v d) : DE X e ex (dC d) := pe_imp h fun σ H Q ⟨T, G, δ, Qd, S, q, k⟩ => k v d H G δ S Step.refl (r G) q
theorem de_int {i : Int} {j : Nat} : DE X e (.Constant (.int i) j pos) (dC (.int i)) := de_c pe_int fun _ => .int i
theorem de_bl {b : Bool} {j : Nat} : DE X e (.Constant (.bool b) j pos) (dC (.bl b)) := de_c pe_bl fun _ => .bl b
theorem de_non {j : Nat} : DE X e (.Constant .none j pos) (dC .non) := de_c pe_non fun _ => .non
theorem de_str {x : Str} {j : Nat} (h : sOk x) : DE X e (.Constant (.str x) j pos) (dC (.str x)) := de_c pe_str fun _ => .str h

/-! ### arguments -/
def dNil : TDA := fun δ Q => Q [] δ
def dCons (t : TDE) (r : TDA) : TDA := fun δ Q => t δ fun d δ1 => r δ1 fun ds δ2 => Q (d :: ds) δ2
theorem da_nil : DA X e [] dNil := pa_imp pa_nil fun σ H Q ⟨T, G, δ, Qd, S, q, k⟩ => k [] [] H G δ S Step.refl .nil rfl q
theorem da_cons {ex : Expr} {es : List Expr} {t : TDE} {r : TDA} (h : DE X e ex t) (hr : DA X e es r) (hs : starEach (ex :: es) X.env = (false, eval ex X.env) :: starEach es X.env := by rfl) : DA X e (ex :: es) (dCons t r) :=
  pa_imp (pa_cons h hr hs) fun σ H Q ⟨T, G, δ, Qd, S, q, k⟩ => ⟨T, G, δ, _, S, q, fun v d H' G' δ' S' st' rep q' => ⟨T, G', δ', fun ds δ2 => Qd (d :: ds) δ2, S', q', fun vs ds H2 G2 δ2 S2 st2 rl len q2 =>
    k (v :: vs) (d :: ds) H2 G2 δ2 S2 (st'.trans st2) (.cons (rep.mono st2.le) rl) (by simp [len]) q2⟩⟩
theorem le_line {n : Nat} (h : n ≤ 1000) : n ≤ sizeLine := Nat.le_of_lt (small1000 h)
def dTup (t : TDA) : TDE := fun δ Q => t δ fun ds δ1 => Q (.tup ds) δ1
/-- a new tuple is frozen at once -/
theorem SS.newTup {K : PySem.W.Frag} {T : Tm} {G : Gh} {H : Hp} {σ : St} {δ : DSt} (S : SS K e T G H σ δ) {p : Addr} {vs : List V} {ds : List D} (r : RepL K G vs ds) (hp : H p = none) :
    ∃ G', SS K e T G' (upd H p (.tup vs)) σ δ ∧ Step e G H G' (upd H p (.tup vs)) ∧ Rep K G' (.ref p) (.tup ds) := by
  obtain ⟨S1, st1, nI, nB, new, ap⟩ := S.new (o := .tup vs) hp
  have le := Gh.fz_le (G := G) (l := p) (o := .tup vs) nI
  refine ⟨G.fz p (.tup vs), ⟨S1.ln, S1.ok.fz upd_same nB, S1.stp.trans (Step.fz nI new), S1.s.len, fun i s hs => ?_, S1.s.sep⟩, st1.trans (Step.fz nI new), .tup (.inl (.inl upd_same)) (r.mono le)⟩
  obtain ⟨x, hx, h⟩ := S1.s.sl i s hs
  refine ⟨x, hx, ?_⟩
  cases s with
  | no => trivial
  | im d => obtain ⟨v, e1, r⟩ := h; exact ⟨v, e1, r.mono le⟩
  | ow d' =>
    obtain ⟨l', rfl, m'⟩ := h
    exact ⟨l', rfl, m'.fz (fun z => ap i d' hs (by rw [hx, z])) nI⟩
theorem de_tup {es : List Expr} {t : TDA} {x1} (h : DA X e es t) (hl : es.length ≤ 1000 := by decide) : DE X e (.Tuple es x1 pos) (dTup t) :=
  pe_imp (pe_tup h) fun σ H Q ⟨T, G, δ, Qd, S, q, k⟩ => ⟨T, G, δ, _, S, q, fun vs ds H1 G1 δ1 S1 st1 r len q1 => ⟨by rw [r.length, len]; exact le_line hl, fun p hp => by
    obtain ⟨G2, S2, st2, rep⟩ := S1.newTup r hp
    exact k _ _ _ G2 δ1 S2 (st1.trans st2) rep q1⟩⟩
def dLst (t : TDA) : TDE := fun δ Q => t δ fun ds δ1 => Q (.lst ds) δ1
theorem do_lst {es : List Expr} {t : TDA} (h : DA X e es t) (hl : es.length ≤ 1000 := by decide) : DO X e (.List es pos) (dLst t) :=
  pe_imp (pe_lst h) fun σ H Q ⟨T, G, δ, Qd, S, q, k⟩ => ⟨T, G, δ, _, S, q, fun vs ds H1 G1 δ1 S1 st1 r len q1 => ⟨by rw [r.length, len]; exact le_line hl, fun p hp => by
    obtain ⟨S2, st2, nI, nB, new, ap⟩ := S1.new (o := .lst vs) hp
    exact k p (.lst ds) _ G1 δ1 S2 (st1.trans st2) ⟨⟨vs, upd_same, r⟩, nI, nB, new⟩ ap q1⟩⟩

/-! ### operands: a name's slot, or an expression -/
inductive Opn where
  | sl (i : Nat) | ex (t : TDE)
def OPN (X : Cx) (e : Ent) (a : Expr) : Opn → Prop
  | .sl i => PE X a (tVar i)
  | .ex t => DE X e a t
def rdS (δ : DSt) (i : Nat) : Option D := match δ[i]? with
  | some (.im d) => some d
  | some (.ow d) => some d
  | _ => none
/-- read now: frozen, or ours -/
def RdO (K : PySem.W.Frag) (G : Gh) (H : Hp) (v : V) (d : D) : Prop := Rep K G v d ∨ ∃ l, v = .ref l ∧ OwnAt K G H l d
theorem rdS_ok {K : PySem.W.Frag} {T : Tm} {G : Gh} {H : Hp} {σ : St} {δ : DSt} (S : SS K e T G H σ δ) {i : Nat} {d : D} (h : rdS δ i = some d) : ∃ v, σ[i]? = some (some v) ∧ RdO K G H v d := by
  unfold rdS at h
  cases hs : δ[i]? with
  | none => rw [hs] at h; cases h
  | some s =>
    rw [hs] at h
    cases s with
    | no => cases h
    | im d' =>
      obtain ⟨x, hx, v, rfl, r⟩ := S.sl i _ hs
      cases h
      exact ⟨v, hx, .inl r⟩
    | ow d' =>
      obtain ⟨x, hx, l, rfl, m⟩ := S.sl i _ hs
      cases h
      exact ⟨.ref l, hx, .inr ⟨l, rfl, m.own⟩⟩
/-- two operands -/
def dTwo (A B : Opn) (k : D → D → DSt → Prop) : DSt → Prop := fun δ => match A, B with
  | .ex ta, .ex tb => ta δ fun x δ1 => tb δ1 fun y δ2 => k x y δ2
  | .ex ta, .sl j => ta δ fun x δ1 => match rdS δ1 j with | some y => k x y δ1 | none => False
  | .sl i, .ex tb => (rdS δ i).isSome = true ∧ tb δ fun y δ1 => match rdS δ1 i with | some x => k x y δ1 | none => False
  | .sl i, .sl j => match rdS δ i with | some x => (match rdS δ j with | some y => k x y δ | none => False) | none => False
def WOp (X : Cx) (f : Value → Value → Sem Value) : R2 := fun x y H Q => ∀ (pins : List (Addr × Obj)) (s : Shared) (σ : St) (v u : Value), Inv X pins σ H s → RelV x v → RelV y u → wpAny (model X.prog X.w) X.A (f v u) (EP X pins σ Q) X.xe s
theorem wop_self {f : Value → Value → Sem Value} : OpR X f (WOp X f) := fun pins s σ H x y v u Q I rx ry h => h pins s σ v u I rx ry
theorem wop_of {f : Value → Value → Sem Value} {r : R2} (h : OpR X f r) {x y : V} {H : Hp} {Q : VK} (q : r x y H Q) : WOp X f x y H Q := fun pins s σ v u I rx ry => h pins s σ H x y v u Q I rx ry q
/-- an operation on two things by what they are -/
def OpD (X : Cx) (e : Ent) (W : R2) (g : D → D → (D → Prop) → Prop) : Prop := ∀ (T : Tm) (G : Gh) (H : Hp) (σ : St) (δ : DSt) (x y : V) (a b : D) (Qd : D → Prop) (Q : VK), SS X.K e T G H σ δ → RdO X.K G H x a → RdO X.K G H y b → g a b Qd →
  (∀ v d H' G', SS X.K e T G' H' σ δ → Step e G H G' H' → Rep X.K G' v d → Qd d → Q v H') → W x y H Q
theorem two_ok {a b : Expr} {A B : Opn} (ha : OPN X e a A) (hb : OPN X e b B) {f : TE → TE → TE} {r : R2} (hf : ∀ ta tb, PE X a ta → PE X b tb → PE X ex (f ta tb)) (ef : ∀ ta tb σ H Q, f ta tb σ H Q = ta σ H fun x H1 => tb σ H1 fun y H2 => r x y H2 Q)
    {g : D → D → (D → Prop) → Prop} (ho : OpD X e r g) : DE X e ex (fun δ Q => dTwo A B (fun x y δ' => g x y fun z => Q z δ') δ) := by
  cases A with
  | ex ta =>
    cases B with
    | ex tb =>
      refine pe_imp (hf _ _ ha hb) fun σ H Q ⟨T, G, δ, Qd, S, q, k⟩ => ?_
      rw [ef]
      exact ⟨T, G, δ, _, S, q, fun x a H1 G1 δ1 S1 st1 ra q1 => ⟨T, G1, δ1, _, S1, q1, fun y b H2 G2 δ2 S2 st2 rb q2 =>
        ho T G2 H2 σ δ2 x y a b _ Q S2 (.inl (ra.mono st2.le)) (.inl rb) q2 fun v d H' G' S' st' rep qd => k v d H' G' δ2 S' ((st1.trans st2).trans st') rep qd⟩⟩
    | sl j =>
      refine pe_imp (hf _ _ ha hb) fun σ H Q ⟨T, G, δ, Qd, S, q, k⟩ => ?_
      rw [ef]
      refine ⟨T, G, δ, _, S, q, fun x a H1 G1 δ1 S1 st1 ra q1 => ?_⟩
      cases hj : rdS δ1 j with
      | none => rw [hj] at q1; exact q1.elim
      | some b =>
        rw [hj] at q1
        obtain ⟨y, hy, rb⟩ := rdS_ok S1 hj
        exact ⟨y, hy, ho T G1 H1 σ δ1 x y a b _ Q S1 (.inl ra) rb q1 fun v d H' G' S' st' rep qd => k v d H' G' δ1 S' (st1.trans st') rep qd⟩
  | sl i =>
    cases B with
    | ex tb =>
      refine pe_imp (hf _ _ ha hb) fun σ H Q ⟨T, G, δ, Qd, S, q, k⟩ => ?_
      rw [ef]
      obtain ⟨hi, q⟩ := q
      obtain ⟨a0, h0⟩ := Option.isSome_iff_exists.mp hi
      obtain ⟨x, hx, _⟩ := rdS_ok S h0
      refine ⟨x, hx, T, G, δ, _, S, q, fun y b H1 G1 δ1 S1 st1 rb q1 => ?_⟩
      cases hj : rdS δ1 i with
      | none => rw [hj] at q1; exact q1.elim
      | some a =>
        rw [hj] at q1
        obtain ⟨x', hx', ra⟩ := rdS_ok S1 hj
        rw [hx] at hx'
        cases hx'
        exact ho T G1 H1 σ δ1 x y a b _ Q S1 ra (.inl rb) q1 fun v d H' G' S' st' rep qd => k v d H' G' δ1 S' (st1.trans st') rep qd
    | sl j =>
      refine pe_imp (hf _ _ ha hb) fun σ H Q ⟨T, G, δ, Qd, S, q, k⟩ => ?_
      rw [ef]
      have q : (match rdS δ i with | some x => (match rdS δ j with | some y => (fun x y δ' => g x y fun z => Qd z δ') x y δ | none => False) | none => False) := q
      cases hi : rdS δ i with
      | none => rw [hi] at q; exact q.elim
      | some a =>
        cases hj : rdS δ j with
        | none => rw [hi, hj] at q; exact q.elim
        | some b =>
          rw [hi, hj] at q
          obtain ⟨x, hx, ra⟩ := rdS_ok S hi
          obtain ⟨y, hy, rb⟩ := rdS_ok S hj
          exact ⟨x, hx, y, hy, ho T G H σ δ x y a b _ Q S ra rb q fun v d H' G' S' st' rep qd => k v d H' G' δ S' st' rep qd⟩
def dBin (g : D → D → (D → Prop) → Prop) (A B : Opn) : TDE := fun δ Q => dTwo A B (fun x y δ' => g x y fun z => Q z δ') δ
theorem de_bin {a b : Expr} {A B : Opn} {op : Operator} {g : D → D → (D → Prop) → Prop} (ho : OpD X e (WOp X (binaryOp op)) g) (ha : OPN X e a A) (hb : OPN X e b B) : DE X e (.BinOp a op b pos) (dBin g A B) :=
  two_ok ha hb (f := fun ta tb => tOp (WOp X (binaryOp op)) ta tb) (fun ta tb => pe_op wop_self) (fun _ _ _ _ _ => rfl) ho
theorem de_cmp {a b : Expr} {A B : Opn} {op : CmpOp} {g : D → D → (D → Prop) → Prop} (ho : OpD X e (WOp X (compareOp op)) g) (ha : OPN X e a A) (hb : OPN X e b B) (hm : behindInMarks op b = false) : DE X e (.Compare a [op] [b] pos) (dBin g A B) :=
  two_ok ha hb (f := fun ta tb => tOp (WOp X (compareOp op)) ta tb) (fun ta tb h1 h2 => pe_cmpR wop_self h1 h2 hm) (fun _ _ _ _ _ => rfl) ho
end
end T

namespace T
open PySem L2

section
variable {K : PySem.W.Frag} {G : Gh} {H : Hp} {v : V}
theorem RdO.int {i : Int} (h : RdO K G H v (.int i)) : v = .int i := by
  rcases h with h | ⟨l, rfl, h⟩
  · cases h; rfl
  · exact h.elim
theorem RdO.bl {i : Bool} (h : RdO K G H v (.bl i)) : v = .bl i := by
  rcases h with h | ⟨l, rfl, h⟩
  · cases h; rfl
  · exact h.elim
theorem RdO.non (h : RdO K G H v .non) : v = .non := by
  rcases h with h | ⟨l, rfl, h⟩
  · cases h; rfl
  · exact h.elim
theorem RdO.str {i : Str} (h : RdO K G H v (.str i)) : v = .str i ∧ sOk i := by
  rcases h with h | ⟨l, rfl, h⟩
  · cases h with | str q => exact ⟨rfl, q⟩
  · exact h.elim
theorem RdO.tup {ds : List D} (h : RdO K G H v (.tup ds)) (k : GOk G H) : ∃ p vs, v = .ref p ∧ SqT K H p vs ∧ RepL K G vs ds := by
  rcases h with h | ⟨l, rfl, h⟩
  · cases h with | tup q r => exact ⟨_, _, rfl, sqt_mono k.sub q, r⟩
  · exact h.elim
theorem RdO.lst {ds : List D} (h : RdO K G H v (.lst ds)) (k : GOk G H) : ∃ p vs, v = .ref p ∧ H p = some (.lst vs) ∧ RepL K G vs ds := by
  rcases h with h | ⟨l, rfl, vs, q, r⟩
  · cases h with | lst q r => exact ⟨_, _, rfl, k.sub _ _ q, r⟩
  · exact ⟨_, _, rfl, q, r⟩
theorem RdO.dct {ds : List (Key × D)} (h : RdO K G H v (.dct ds)) (k : GOk G H) : ∃ p kvs, v = .ref p ∧ H p = some (.dK kvs) ∧ kvs.map (·.1) = ds.map (·.1) ∧ RepL K G (kvs.map (·.2)) (ds.map (·.2)) := by
  rcases h with h | ⟨l, rfl, vs, q, e, r⟩
  · cases h with | dct q e r => exact ⟨_, _, rfl, k.sub _ _ q, e, r⟩
  · exact ⟨_, _, rfl, q, e, r⟩
theorem RdO.ins {C : Addr} {ds : List (Str × D)} (h : RdO K G H v (.ins C ds)) (k : GOk G H) : ∃ p dx kvs, v = .ref p ∧ H p = some (.ins C dx kvs) ∧ kvs.map (·.1) = ds.map (·.1) ∧ RepL K G (kvs.map (·.2)) (ds.map (·.2)) := by
  rcases h with h | ⟨l, rfl, dx, vs, q, e, r⟩
  · cases h with | ins q e r => exact ⟨_, _, _, rfl, k.sub _ _ q, e, r⟩
  · exact ⟨_, _, _, rfl, q, e, r⟩
theorem RdO.scr {ns : List Int} (h : RdO K G H v (.scr ns)) (k : GOk G H) : ∃ p, v = .ref p ∧ SqL K H p (ns.map V.int) := by
  rcases h with h | ⟨l, rfl, h⟩
  · cases h with | scr q => exact ⟨_, rfl, k.sub.seq q⟩
  · exact h.elim
end
theorem sOk_append {a b : Str} (ha : sOk a) (hb : sOk b) : sOk (a ++ b) := by
  intro c hc
  have e : (a ++ b).cps.toList = a.cps.toList ++ b.cps.toList := by
    show (a.cps ++ b.cps).toList = _
    simp
  rw [e] at hc
  rcases List.mem_append.mp hc with h | h
  · exact ha c h
  · exact hb c h
theorem sOk_one {c : Nat} (h : c < 0x110000) : sOk ⟨#[c]⟩ := by
  intro x hx
  have : x = c := by simpa using hx
  omega
theorem sOk_sub {a : Str} (ha : sOk a) {l : List Nat} (h : ∀ c ∈ l, c ∈ a.cps.toList) : sOk ⟨l.toArray⟩ := fun c hc => ha c (h c (by simpa using hc))
theorem sOk_cut {a : Str} (ha : sOk a) (lo hi : Option Int) : sOk (cutS a lo hi) := sOk_sub ha fun c hc => List.mem_of_mem_drop (List.mem_of_mem_take hc)

/-! ### the data of a thing -/
mutual
def py : D → PyData
  | .non => .none
  | .bl b => .bool b
  | .int i => .int i
  | .str s => .str s
  | .tup l => .tuple (pyL l)
  | .lst l => .list (pyL l)
  | .dct _ => .none
  | .dtp _ => .none
  | .ins _ _ => .none
  | .box _ => .none
  | .ty _ => .none
  | .ref _ => .none
  | .scr _ => .none
def pyL : List D → List PyData
  | [] => []
  | d :: r => py d :: pyL r
end
mutual
def isDat : D → Bool
  | .non => true
  | .bl _ => true
  | .int _ => true
  | .str _ => true
  | .tup l => isDatL l
  | .lst l => isDatL l
  | .dct _ => false
  | .dtp _ => false
  | .ins _ _ => false
  | .box _ => false
  | .ty _ => false
  | .ref _ => false
  | .scr _ => false
def isDatL : List D → Bool
  | [] => true
  | d :: r => isDat d && isDatL r
end
theorem pyL_map : ∀ l : List D, pyL l = l.map py
  | [] => rfl
  | d :: r => by rw [pyL, pyL_map r]; rfl
theorem isDatL_iff : ∀ {l : List D}, isDatL l = true ↔ ∀ d ∈ l, isDat d = true
  | [] => by simp [isDatL]
  | d :: r => by
    rw [isDatL, Bool.and_eq_true, isDatL_iff (l := r)]
    simp
def dep (d : D) : Nat := (py d).depth
def eqB (a b : D) : Bool := PyData.eqv (py a) (py b)
theorem strOk_of {s : Str} (h : sOk s) : PyData.canLay0 (.str s) = true := by
  show s.cps.all (· < 0x110000) = true
  rw [Array.all_eq_true_iff_forall_mem]
  intro c hc
  exact decide_eq_true (h c (Array.mem_toList_iff.mpr hc))
section
variable {K : PySem.W.Frag} {G : Gh} {H : Hp}
mutual
theorem Rep.dp (k : GOk G H) : ∀ {v : V} {d : D}, Rep K G v d → isDat d = true → Dp K H v (py d) ∧ (py d).canLay0 = true
  | _, _, .non, _ => ⟨.non, rfl⟩
  | _, _, .bl b, _ => ⟨.bl b, rfl⟩
  | _, _, .int i, _ => ⟨.int i, rfl⟩
  | _, _, .str h, _ => ⟨.str _, strOk_of h⟩
  | _, _, .tup h r, hd => by
    rw [isDat] at hd
    obtain ⟨h1, h2⟩ := r.dp k hd
    rw [py]
    exact ⟨.tup (sqt_mono k.sub h) h1, by rw [PyData.canLay0]; exact h2⟩
  | _, _, .lst h r, hd => by
    rw [isDat] at hd
    obtain ⟨h1, h2⟩ := r.dp k hd
    rw [py]
    exact ⟨.lst (.inl (.inl (k.sub _ _ h))) h1, by rw [PyData.canLay0]; exact h2⟩
  | _, _, .dct _ _ _, hd => by cases hd
  | _, _, .dtp _ _ _, hd => by cases hd
  | _, _, .ins _ _ _, hd => by cases hd
  | _, _, .box _, hd => by cases hd
  | _, _, .ty _, hd => by cases hd
  | _, _, .ref _, hd => by cases hd
  | _, _, .scr _, hd => by cases hd
theorem RepL.dp (k : GOk G H) : ∀ {vs : List V} {ds : List D}, RepL K G vs ds → isDatL ds = true → DpAll K H vs (pyL ds) ∧ PyData.canLayAll0 (pyL ds) = true
  | _, _, .nil, _ => ⟨.nil, rfl⟩
  | _, _, .cons h r, hd => by
    rw [isDatL, Bool.and_eq_true] at hd
    obtain ⟨h1, h2⟩ := h.dp k hd.1
    obtain ⟨h3, h4⟩ := r.dp k hd.2
    rw [pyL]
    exact ⟨.cons h1 h3, by rw [PyData.canLayAll0, h2, h4]; rfl⟩
end
theorem RdO.dp (k : GOk G H) {v : V} {d : D} (h : RdO K G H v d) (hd : isDat d = true) : Dp K H v (py d) ∧ (py d).canLay0 = true := by
  rcases h with h | ⟨l, rfl, h⟩
  · exact h.dp k hd
  · cases d with
    | lst ds =>
      obtain ⟨vs, q, r⟩ := h
      rw [isDat] at hd
      obtain ⟨h1, h2⟩ := r.dp k hd
      rw [py]
      exact ⟨.lst (.inl (.inl q)) h1, by rw [PyData.canLay0]; exact h2⟩
    | dct _ => cases hd
    | dtp _ => cases hd
    | ins _ _ => cases hd
    | _ => exact h.elim
theorem shaped_of {d : D} (h : (py d).canLay0 = true) (hd : dep d ≤ 64) : SeqAt.shaped (py d) = true := by
  show ((py d).canLay0 && decide ((py d).depth ≤ 64)) = true
  rw [h, decide_eq_true (show (py d).depth ≤ 64 from hd)]
  rfl
end

/-! ### operators -/
def addD : D → D → (D → Prop) → Prop
  | .int i, .int j, Q => Q (.int (i + j))
  | .str a, .str b, Q => a.length + b.length ≤ sizeLine ∧ Q (.str (a ++ b))
  | .lst a, .lst b, Q => a.length + b.length ≤ sizeLine ∧ Q (.lst (a ++ b))
  | .tup a, .tup b, Q => a.length + b.length ≤ sizeLine ∧ Q (.tup (a ++ b))
  | _, _, _ => False
def subD : D → D → (D → Prop) → Prop
  | .int i, .int j, Q => Q (.int (i - j))
  | _, _, _ => False
def mulD : D → D → (D → Prop) → Prop
  | .int i, .int j, Q => CMul i j ∧ Q (.int (i * j))
  | .str a, .int j, Q => (j = 0 ∨ j = 1) ∧ Q (.str (if j = 0 then Str.empty else a))
  | _, _, _ => False
def modD : D → D → (D → Prop) → Prop
  | .int i, .int j, Q => 0 < j ∧ Q (.int (i % j))
  | _, _, _ => False
def fdivD : D → D → (D → Prop) → Prop
  | .int i, .int j, Q => (0 < j ∧ j < 1073741824) ∧ Q (.int (i / j))
  | _, _, _ => False
def powD : D → D → (D → Prop) → Prop
  | .int i, .int j, Q => (0 ≤ j ∧ j ≤ 1000000 ∧ i.natAbs < 2 ^ 64) ∧ Q (.int (i ^ j.toNat))
  | _, _, _ => False
section
variable {X : Cx} {e : Ent}
theorem opd_int {f : Value → Value → Sem Value} {C : Int → Int → Prop} {g : Int → Int → Int} {gd : D → D → (D → Prop) → Prop} (ho : OpR X f (rI C fun i j => .int (g i j)))
    (hg : ∀ a b Q, gd a b Q → ∃ i j, a = .int i ∧ b = .int j ∧ C i j ∧ Q (.int (g i j))) : OpD X e (WOp X f) gd := by
  intro T G H σ δ x y a b Qd Q S ra rb q k
  obtain ⟨i, j, rfl, rfl, hc, q⟩ := hg a b Qd q
  have e1 := ra.int
  have e2 := rb.int
  subst e1 e2
  exact wop_of ho ⟨i, j, rfl, rfl, hc, k _ _ H G S Step.refl (.int _) q⟩
theorem opd_sub : OpD X e (WOp X (binaryOp .Sub)) subD := by
  intro T G H σ δ x y a b Qd Q S ra rb q k
  cases a <;> cases b <;> try exact False.elim q
  have e1 := ra.int
  have e2 := rb.int
  subst e1 e2
  exact wop_of op_sub ⟨_, _, rfl, rfl, k _ _ H G S Step.refl (.int _) q⟩
theorem opd_mod : OpD X e (WOp X (binaryOp .Mod)) modD := opd_int op_mod fun a b Q q => by
  cases a <;> cases b <;> try exact False.elim q
  exact ⟨_, _, rfl, rfl, q⟩
theorem opd_fdiv : OpD X e (WOp X (binaryOp .FloorDiv)) fdivD := opd_int op_fdiv fun a b Q q => by
  cases a <;> cases b <;> try exact False.elim q
  exact ⟨_, _, rfl, rfl, q⟩
theorem opd_pow : OpD X e (WOp X (binaryOp .Pow)) powD := opd_int op_pow fun a b Q q => by
  cases a <;> cases b <;> try exact False.elim q
  exact ⟨_, _, rfl, rfl, q⟩
theorem op_mul_str01 : OpR X (binaryOp .Mult) (fun x y H Q => ∃ a j, x = .str a ∧ y = .int j ∧ (j = 0 ∨ j = 1) ∧ Q (.str (if j = 0 then Str.empty else a)) H) := by
  intro pins s σ H x y v u Q I rx ry h
  obtain ⟨a, j, rfl, rfl, hj, q⟩ := h
  obtain ⟨t, rfl⟩ := rx
  obtain ⟨t', rfl⟩ := ry
  rcases hj with rfl | rfl
  · exact P.mul_str_none (by decide) (by decide) ⟨.str Str.empty, H, I.tok _, ⟨_, rfl⟩, q⟩
  · refine P.mul_str (by decide) (fun _ h => by simp at h) (fun _ h => by simp at h) ?_
    rw [if_neg (by decide), if_pos (by rfl)]
    exact ⟨.str a, H, I, ⟨_, rfl⟩, q⟩
theorem opd_mul : OpD X e (WOp X (binaryOp .Mult)) mulD := by
  intro T G H σ δ x y a b Qd Q S ra rb q k
  cases a <;> cases b <;> try exact False.elim q
  · have e1 := ra.int
    have e2 := rb.int
    subst e1 e2
    exact wop_of op_mul ⟨_, _, rfl, rfl, q.1, k _ _ H G S Step.refl (.int _) q.2⟩
  · obtain ⟨e1, ok⟩ := ra.str
    have e2 := rb.int
    subst e1 e2
    refine wop_of op_mul_str01 ⟨_, _, rfl, rfl, q.1, k _ _ H G S Step.refl (.str ?_) q.2⟩
    split
    · intro c hc; simp [Str.empty] at hc
    · exact ok
theorem opd_add : OpD X e (WOp X (binaryOp .Add)) addD := by
  intro T G H σ δ x y a b Qd Q S ra rb q k
  cases a <;> cases b <;> try exact False.elim q
  · have e1 := ra.int
    have e2 := rb.int
    subst e1 e2
    exact wop_of op_add ⟨_, _, rfl, rfl, k _ _ H G S Step.refl (.int _) q⟩
  · obtain ⟨e1, o1⟩ := ra.str
    obtain ⟨e2, o2⟩ := rb.str
    subst e1 e2
    exact wop_of op_add_str ⟨_, _, rfl, rfl, q.1, k _ _ H G S Step.refl (.str (sOk_append o1 o2)) q.2⟩
  · obtain ⟨p, vs, rfl, hp, r1⟩ := ra.tup S.ok
    obtain ⟨p', ws, rfl, hp', r2⟩ := rb.tup S.ok
    rename_i a b
    have e1 := r1.length
    have e2 := r2.length
    refine wop_of op_catA ⟨p, p', vs, ws, rfl, rfl, hp, hp', by rw [e1, e2]; exact q.1, fun hn => ?_, fun hn hm => ?_, fun hn hm r hr => ?_⟩
    · subst hn
      cases r1
      rcases rb with rb | ⟨l, _, rb⟩
      · exact k _ _ H G S Step.refl rb q.2
      · exact rb.elim
    · subst hm
      cases r2
      rcases ra with ra | ⟨l, _, ra⟩
      · refine k _ _ H G S Step.refl ra ?_
        have := q.2
        rwa [List.append_nil] at this
      · exact ra.elim
    · obtain ⟨G2, S2, st2, rep⟩ := S.newTup (r1.append r2) hr
      exact k _ _ _ G2 S2 st2 rep q.2
  · obtain ⟨p, vs, rfl, hp, r1⟩ := ra.lst S.ok
    obtain ⟨p', ws, rfl, hp', r2⟩ := rb.lst S.ok
    have e1 := r1.length
    have e2 := r2.length
    refine wop_of op_cat ⟨p, p', vs, ws, rfl, rfl, hp, hp', by rw [e1, e2]; exact q.1, fun r hr => ?_⟩
    obtain ⟨S2, st2, nI, nB, new, ap⟩ := S.new (o := .lst (vs ++ ws)) hr
    obtain ⟨G3, S3, st3, rep⟩ := S2.freeze (l := r) (d := .lst _) ⟨⟨_, upd_same, r1.append r2⟩, nI, nB, new⟩ ap
    exact k _ _ _ G3 S3 (st2.trans st3) rep q.2

/-! ### comparisons -/
def eqD : D → D → (D → Prop) → Prop
  | .int i, .int j, Q => Q (.bl (decide (i = j)))
  | .str a, .str b, Q => Q (.bl (decide (a = b)))
  | .bl a, .bl b, Q => Q (.bl (decide (a = b)))
  | a, b, Q => (isDat a = true ∧ isDat b = true ∧ dep a ≤ 64 ∧ dep b ≤ 64) ∧ Q (.bl (eqB a b))
def neD : D → D → (D → Prop) → Prop
  | .int i, .int j, Q => Q (.bl (!decide (i = j)))
  | .str a, .str b, Q => Q (.bl (!decide (a = b)))
  | .bl a, .bl b, Q => Q (.bl (!decide (a = b)))
  | a, b, Q => (isDat a = true ∧ isDat b = true ∧ dep a ≤ 64 ∧ dep b ≤ 64) ∧ Q (.bl (!eqB a b))
theorem eqD_or {a b : D} {Q : D → Prop} (q : eqD a b Q) : (∃ i j, a = .int i ∧ b = .int j ∧ Q (.bl (decide (i = j)))) ∨ (∃ i j, a = .str i ∧ b = .str j ∧ Q (.bl (decide (i = j)))) ∨ (∃ i j, a = .bl i ∧ b = .bl j ∧ Q (.bl (decide (i = j)))) ∨
    ((isDat a = true ∧ isDat b = true ∧ dep a ≤ 64 ∧ dep b ≤ 64) ∧ Q (.bl (eqB a b))) := by
  cases a <;> cases b <;> first
    | exact .inl ⟨_, _, rfl, rfl, q⟩
    | exact .inr (.inl ⟨_, _, rfl, rfl, q⟩)
    | exact .inr (.inr (.inl ⟨_, _, rfl, rfl, q⟩))
    | exact .inr (.inr (.inr q))
theorem neD_or {a b : D} {Q : D → Prop} (q : neD a b Q) : (∃ i j, a = .int i ∧ b = .int j ∧ Q (.bl (!decide (i = j)))) ∨ (∃ i j, a = .str i ∧ b = .str j ∧ Q (.bl (!decide (i = j)))) ∨ (∃ i j, a = .bl i ∧ b = .bl j ∧ Q (.bl (!decide (i = j)))) ∨
    ((isDat a = true ∧ isDat b = true ∧ dep a ≤ 64 ∧ dep b ≤ 64) ∧ Q (.bl (!eqB a b))) := by
  cases a <;> cases b <;> first
    | exact .inl ⟨_, _, rfl, rfl, q⟩
    | exact .inr (.inl ⟨_, _, rfl, rfl, q⟩)
    | exact .inr (.inr (.inl ⟨_, _, rfl, rfl, q⟩))
    | exact .inr (.inr (.inr q))
theorem opd_eq {k0 : Nat} (hr : Room k0 X.A) : OpD X e (WOp X (compareOp .Eq)) eqD := by
  intro T G H σ δ x y a b Qd Q S ra rb q k
  rcases eqD_or q with ⟨i, j, rfl, rfl, q⟩ | ⟨i, j, rfl, rfl, q⟩ | ⟨i, j, rfl, rfl, q⟩ | ⟨⟨h1, h2, h3, h4⟩, q⟩
  · have e1 := ra.int
    have e2 := rb.int
    subst e1 e2
    refine wop_of op_eq ⟨rfl, k _ (.bl _) H G S Step.refl (.bl _) ?_⟩
    have e3 : decide (V.int i = V.int j) = decide (i = j) := by simp
    rw [e3]; exact q
  · obtain ⟨e1, _⟩ := ra.str
    obtain ⟨e2, _⟩ := rb.str
    subst e1 e2
    refine wop_of op_eq ⟨rfl, k _ (.bl _) H G S Step.refl (.bl _) ?_⟩
    have e3 : decide (V.str i = V.str j) = decide (i = j) := by simp
    rw [e3]; exact q
  · have e1 := ra.bl
    have e2 := rb.bl
    subst e1 e2
    refine wop_of op_eq ⟨rfl, k _ (.bl _) H G S Step.refl (.bl _) ?_⟩
    have e3 : decide (V.bl i = V.bl j) = decide (i = j) := by simp
    rw [e3]; exact q
  · obtain ⟨p1, c1⟩ := ra.dp S.ok h1
    obtain ⟨p2, c2⟩ := rb.dp S.ok h2
    exact wop_of (op_eqD hr.units) ⟨_, _, p1, p2, shaped_of c1 h3, shaped_of c2 h4, k _ (.bl _) H G S Step.refl (.bl _) q⟩
theorem opd_ne {k0 : Nat} (hr : Room k0 X.A) : OpD X e (WOp X (compareOp .NotEq)) neD := by
  intro T G H σ δ x y a b Qd Q S ra rb q k
  rcases neD_or q with ⟨i, j, rfl, rfl, q⟩ | ⟨i, j, rfl, rfl, q⟩ | ⟨i, j, rfl, rfl, q⟩ | ⟨⟨h1, h2, h3, h4⟩, q⟩
  · have e1 := ra.int
    have e2 := rb.int
    subst e1 e2
    refine wop_of op_ne ⟨rfl, k _ (.bl _) H G S Step.refl (.bl _) ?_⟩
    have e3 : decide (V.int i = V.int j) = decide (i = j) := by simp
    rw [e3]; exact q
  · obtain ⟨e1, _⟩ := ra.str
    obtain ⟨e2, _⟩ := rb.str
    subst e1 e2
    refine wop_of op_ne ⟨rfl, k _ (.bl _) H G S Step.refl (.bl _) ?_⟩
    have e3 : decide (V.str i = V.str j) = decide (i = j) := by simp
    rw [e3]; exact q
  · have e1 := ra.bl
    have e2 := rb.bl
    subst e1 e2
    refine wop_of op_ne ⟨rfl, k _ (.bl _) H G S Step.refl (.bl _) ?_⟩
    have e3 : decide (V.bl i = V.bl j) = decide (i = j) := by simp
    rw [e3]; exact q
  · obtain ⟨p1, c1⟩ := ra.dp S.ok h1
    obtain ⟨p2, c2⟩ := rb.dp S.ok h2
    exact wop_of (op_neD hr.units) ⟨_, _, p1, p2, shaped_of c1 h3, shaped_of c2 h4, k _ (.bl _) H G S Step.refl (.bl _) q⟩
def cmpD (p : Int → Int → Bool) : D → D → (D → Prop) → Prop
  | .int i, .int j, Q => Q (.bl (p i j))
  | _, _, _ => False
theorem opd_cmp {f : Value → Value → Sem Value} {p : Int → Int → Bool} (ho : OpR X f (rI0 fun i j => .bl (p i j))) : OpD X e (WOp X f) (cmpD p) := by
  intro T G H σ δ x y a b Qd Q S ra rb q k
  cases a <;> cases b <;> try exact False.elim q
  have e1 := ra.int
  have e2 := rb.int
  subst e1 e2
  exact wop_of ho ⟨_, _, rfl, rfl, k _ (.bl _) H G S Step.refl (.bl _) q⟩
def ltD := cmpD fun i j => decide (i < j)
def leD := cmpD fun i j => decide (i ≤ j)
def gtD := cmpD fun i j => decide (j < i)
def geD := cmpD fun i j => decide (j ≤ i)
theorem opd_lt : OpD X e (WOp X (compareOp .Lt)) ltD := opd_cmp op_lt
theorem opd_le : OpD X e (WOp X (compareOp .LtE)) leD := opd_cmp op_le
theorem opd_gt : OpD X e (WOp X (compareOp .Gt)) gtD := opd_cmp op_gt
theorem opd_ge : OpD X e (WOp X (compareOp .GtE)) geD := opd_cmp op_ge
def isN : D → Bool
  | .non => true
  | _ => false
theorem Rd_isN {K : PySem.W.Frag} {G : Gh} {H : Hp} {v : V} {d : D} (r : RdO K G H v d) : decide (v = .non) = isN d := by
  rcases r with r | ⟨l, rfl, r⟩
  · cases r <;> simp [isN]
  · cases d <;> first | exact r.elim | simp [isN]
def isD : D → D → (D → Prop) → Prop
  | a, .non, Q => Q (.bl (isN a))
  | _, _, _ => False
def isNotD : D → D → (D → Prop) → Prop
  | a, .non, Q => Q (.bl (!isN a))
  | _, _, _ => False
theorem opd_is : OpD X e (WOp X (compareOp .Is)) isD := by
  intro T G H σ δ x y a b Qd Q S ra rb q k
  cases b with
  | non =>
    have e2 := rb.non
    subst e2
    refine wop_of op_isN ⟨rfl, k _ (.bl _) H G S Step.refl (.bl _) ?_⟩
    rw [Rd_isN ra]
    exact q
  | _ => exact False.elim q
theorem opd_isNot : OpD X e (WOp X (compareOp .IsNot)) isNotD := by
  intro T G H σ δ x y a b Qd Q S ra rb q k
  cases b with
  | non =>
    have e2 := rb.non
    subst e2
    refine wop_of op_notN ⟨rfl, k _ (.bl _) H G S Step.refl (.bl _) ?_⟩
    rw [Rd_isN ra]
    exact q
  | _ => exact False.elim q
/-! ### in -/
theorem op_inDT (hu : X.A.units + 65 < cLine) : OpR X (compareOp .In) (fun x y H Q => ∃ d ds, Dp X.K H x d ∧ Dp X.K H y (.tuple ds) ∧ SeqAt.shaped d = true ∧ SeqAt.shaped (.tuple ds) = true ∧ Q (.bl (ds.any fun z => PyData.eqv z d)) H) := by
  intro pins s σ H x y v u Q I rx ry h
  obtain ⟨d, ds, hd, he, sd, se, q⟩ := h
  obtain ⟨as, r1⟩ := Dp.reads I d x v hd rx
  obtain ⟨bs, r2⟩ := Dp.reads I (.tuple ds) y u he ry
  exact SeqAt.in_tuple_reads r2 r1 (SeqAt.canLay_of_shaped se) (SeqAt.canLay_of_shaped sd) (PyProof.Rows.room_in_shaped sd hu) ⟨.bl _, H, I, rfl, q⟩
theorem op_notInDT (hu : X.A.units + 65 < cLine) : OpR X (compareOp .NotIn) (fun x y H Q => ∃ d ds, Dp X.K H x d ∧ Dp X.K H y (.tuple ds) ∧ SeqAt.shaped d = true ∧ SeqAt.shaped (.tuple ds) = true ∧ Q (.bl (!ds.any fun z => PyData.eqv z d)) H) := by
  intro pins s σ H x y v u Q I rx ry h
  obtain ⟨d, ds, hd, he, sd, se, q⟩ := h
  obtain ⟨as, r1⟩ := Dp.reads I d x v hd rx
  obtain ⟨bs, r2⟩ := Dp.reads I (.tuple ds) y u he ry
  exact SeqAt.notIn_tuple_reads r2 r1 (SeqAt.canLay_of_shaped se) (SeqAt.canLay_of_shaped sd) (PyProof.Rows.room_in_shaped sd hu) ⟨.bl _, H, I, rfl, q⟩
def inL (d : D) (ds : List D) : Bool := ds.any fun z => eqB z d
def inDn (neg : Bool) : D → D → (D → Prop) → Prop
  | a, .lst ds, Q => (isDat a = true ∧ isDatL ds = true ∧ dep a ≤ 64 ∧ dep (.lst ds) ≤ 64) ∧ Q (.bl (if neg then !inL a ds else inL a ds))
  | a, .tup ds, Q => (isDat a = true ∧ isDatL ds = true ∧ dep a ≤ 64 ∧ dep (.tup ds) ≤ 64) ∧ Q (.bl (if neg then !inL a ds else inL a ds))
  | .str a, .str b, Q => ∃ c, a = ⟨#[c]⟩ ∧ Q (.bl (if neg then !decide (c ∈ b.cps.toList) else decide (c ∈ b.cps.toList)))
  | _, _, _ => False
theorem any_py {d : D} : ∀ ds : List D, ((pyL ds).any fun z => PyData.eqv z (py d)) = inL d ds
  | [] => rfl
  | a :: r => by
    rw [pyL, List.any_cons, any_py r]
    rfl
theorem units65 {k0 : Nat} {A : Around} (hr : Room (k0 + 1) A) : A.units + 65 < cLine := by
  have := hr.un
  omega
theorem opd_in {k0 : Nat} (hr : Room (k0 + 1) X.A) : OpD X e (WOp X (compareOp .In)) (inDn false) := by
  intro T G H σ δ x y a b Qd Q S ra rb q k
  cases b with
  | lst ds =>
    have q : (isDat a = true ∧ isDatL ds = true ∧ dep a ≤ 64 ∧ dep (.lst ds) ≤ 64) ∧ Qd (.bl (inL a ds)) := by
      cases a <;> exact q
    obtain ⟨⟨h1, h2, h3, h4⟩, q⟩ := q
    obtain ⟨p1, c1⟩ := ra.dp S.ok h1
    obtain ⟨p2, c2⟩ := rb.dp S.ok (by rw [isDat]; exact h2)
    have s2 := shaped_of c2 h4
    rw [py] at p2 s2
    refine wop_of (op_inD (units65 hr)) ⟨_, _, p1, p2, shaped_of c1 h3, s2, k _ (.bl _) H G S Step.refl (.bl _) ?_⟩
    rw [any_py]; exact q
  | tup ds =>
    have q : (isDat a = true ∧ isDatL ds = true ∧ dep a ≤ 64 ∧ dep (.tup ds) ≤ 64) ∧ Qd (.bl (inL a ds)) := by
      cases a <;> exact q
    obtain ⟨⟨h1, h2, h3, h4⟩, q⟩ := q
    obtain ⟨p1, c1⟩ := ra.dp S.ok h1
    obtain ⟨p2, c2⟩ := rb.dp S.ok (by rw [isDat]; exact h2)
    have s2 := shaped_of c2 h4
    rw [py] at p2 s2
    refine wop_of (op_inDT (units65 hr)) ⟨_, _, p1, p2, shaped_of c1 h3, s2, k _ (.bl _) H G S Step.refl (.bl _) ?_⟩
    rw [any_py]; exact q
  | str b =>
    cases a with
    | str a =>
      obtain ⟨c, rfl, q⟩ := q
      obtain ⟨e1, _⟩ := ra.str
      obtain ⟨e2, _⟩ := rb.str
      subst e1 e2
      exact wop_of op_in_sign ⟨c, b, rfl, rfl, k _ (.bl _) H G S Step.refl (.bl _) q⟩
    | _ => exact False.elim q
  | _ => cases a <;> exact False.elim q
theorem opd_notIn {k0 : Nat} (hr : Room (k0 + 1) X.A) : OpD X e (WOp X (compareOp .NotIn)) (inDn true) := by
  intro T G H σ δ x y a b Qd Q S ra rb q k
  cases b with
  | lst ds =>
    have q : (isDat a = true ∧ isDatL ds = true ∧ dep a ≤ 64 ∧ dep (.lst ds) ≤ 64) ∧ Qd (.bl (!inL a ds)) := by
      cases a <;> exact q
    obtain ⟨⟨h1, h2, h3, h4⟩, q⟩ := q
    obtain ⟨p1, c1⟩ := ra.dp S.ok h1
    obtain ⟨p2, c2⟩ := rb.dp S.ok (by rw [isDat]; exact h2)
    have s2 := shaped_of c2 h4
    rw [py] at p2 s2
    refine wop_of (op_notInD (units65 hr)) ⟨_, _, p1, p2, shaped_of c1 h3, s2, k _ (.bl _) H G S Step.refl (.bl _) ?_⟩
    rw [any_py]; exact q
  | tup ds =>
    have q : (isDat a = true ∧ isDatL ds = true ∧ dep a ≤ 64 ∧ dep (.tup ds) ≤ 64) ∧ Qd (.bl (!inL a ds)) := by
      cases a <;> exact q
    obtain ⟨⟨h1, h2, h3, h4⟩, q⟩ := q
    obtain ⟨p1, c1⟩ := ra.dp S.ok h1
    obtain ⟨p2, c2⟩ := rb.dp S.ok (by rw [isDat]; exact h2)
    have s2 := shaped_of c2 h4
    rw [py] at p2 s2
    refine wop_of (op_notInDT (units65 hr)) ⟨_, _, p1, p2, shaped_of c1 h3, s2, k _ (.bl _) H G S Step.refl (.bl _) ?_⟩
    rw [any_py]; exact q
  | str b =>
    cases a with
    | str a =>
      obtain ⟨c, rfl, q⟩ := q
      obtain ⟨e1, _⟩ := ra.str
      obtain ⟨e2, _⟩ := rb.str
      subst e1 e2
      exact wop_of op_notIn_sign ⟨c, b, rfl, rfl, k _ (.bl _) H G S Step.refl (.bl _) q⟩
    | _ => exact False.elim q
  | _ => cases a <;> exact False.elim q
end
end T

namespace T
open PySem PySem.Spec PyProof.Rows L2
abbrev SSt := L2.St

section
variable {X : Cx} {e : Ent} {pos : Pos}
/-! ### tests -/
theorem two_ent {a b : Expr} {A B : Opn} {r : R2} {g : D → D → (D → Prop) → Prop} (ho : OpD X e r g) {σ : SSt} {H : Hp} {T : Tm} {G : Gh} {δ : DSt} {Qd : D → DSt → Prop} {Q : VK} (ha : OPN X e a A) (hb : OPN X e b B) (S : SS X.K e T G H σ δ)
    (q : dTwo A B (fun x y δ' => g x y fun z => Qd z δ') δ) (k : ∀ v d H' G' δ', SS X.K e T G' H' σ δ' → Step e G H G' H' → Rep X.K G' v d → Qd d δ' → Q v H') :
    ∃ ta tb, PE X a ta ∧ PE X b tb ∧ ta σ H fun x H1 => tb σ H1 fun y H2 => r x y H2 Q := by
  cases A with
  | ex ta =>
    cases B with
    | ex tb =>
      exact ⟨_, _, ha, hb, T, G, δ, _, S, q, fun x a H1 G1 δ1 S1 st1 ra q1 => ⟨T, G1, δ1, _, S1, q1, fun y b H2 G2 δ2 S2 st2 rb q2 =>
        ho T G2 H2 σ δ2 x y a b _ Q S2 (.inl (ra.mono st2.le)) (.inl rb) q2 fun v d H' G' S' st' rep qd => k v d H' G' δ2 S' ((st1.trans st2).trans st') rep qd⟩⟩
    | sl j =>
      refine ⟨_, _, ha, hb, T, G, δ, _, S, q, fun x a H1 G1 δ1 S1 st1 ra q1 => ?_⟩
      cases hj : rdS δ1 j with
      | none => rw [hj] at q1; exact q1.elim
      | some b =>
        rw [hj] at q1
        obtain ⟨y, hy, rb⟩ := rdS_ok S1 hj
        exact ⟨y, hy, ho T G1 H1 σ δ1 x y a b _ Q S1 (.inl ra) rb q1 fun v d H' G' S' st' rep qd => k v d H' G' δ1 S' (st1.trans st') rep qd⟩
  | sl i =>
    cases B with
    | ex tb =>
      obtain ⟨hi, q⟩ := q
      obtain ⟨a0, h0⟩ := Option.isSome_iff_exists.mp hi
      obtain ⟨x, hx, _⟩ := rdS_ok S h0
      refine ⟨_, _, ha, hb, x, hx, T, G, δ, _, S, q, fun y b H1 G1 δ1 S1 st1 rb q1 => ?_⟩
      cases hj : rdS δ1 i with
      | none => rw [hj] at q1; exact q1.elim
      | some a =>
        rw [hj] at q1
        obtain ⟨x', hx', ra⟩ := rdS_ok S1 hj
        rw [hx] at hx'
        cases hx'
        exact ho T G1 H1 σ δ1 x y a b _ Q S1 ra (.inl rb) q1 fun v d H' G' S' st' rep qd => k v d H' G' δ1 S' (st1.trans st') rep qd
    | sl j =>
      have q : (match rdS δ i with | some x => (match rdS δ j with | some y => (fun x y δ' => g x y fun z => Qd z δ') x y δ | none => False) | none => False) := q
      cases hi : rdS δ i with
      | none => rw [hi] at q; exact q.elim
      | some a =>
        cases hj : rdS δ j with
        | none => rw [hi, hj] at q; exact q.elim
        | some b =>
          rw [hi, hj] at q
          obtain ⟨x, hx, ra⟩ := rdS_ok S hi
          obtain ⟨y, hy, rb⟩ := rdS_ok S hj
          exact ⟨_, _, ha, hb, x, hx, y, hy, ho T G H σ δ x y a b _ Q S ra rb q fun v d H' G' S' st' rep qd => k v d H' G' δ S' st' rep qd⟩
def onBl : D → (Bool → Prop) → Prop
  | .bl b, Q => Q b
  | _, _ => False
theorem onBl_ok {d : D} {Q : Bool → Prop} (h : onBl d Q) : ∃ b, d = .bl b ∧ Q b := by
  cases d <;> first | exact ⟨_, rfl, h⟩ | exact h.elim
theorem Rep.blI {K : PySem.W.Frag} {G : Gh} {v : V} {b : Bool} (r : Rep K G v (.bl b)) : v = .bl b := by cases r; rfl
theorem Rep.intI {K : PySem.W.Frag} {G : Gh} {v : V} {b : Int} (r : Rep K G v (.int b)) : v = .int b := by cases r; rfl
def dtBin (g : D → D → (D → Prop) → Prop) (A B : Opn) : TDT := fun δ Q => dTwo A B (fun x y δ' => g x y fun z => onBl z fun b => Q b δ') δ
theorem dt_cmp {a b : Expr} {A B : Opn} {op : CmpOp} {g : D → D → (D → Prop) → Prop} (ho : OpD X e (WOp X (compareOp op)) g) (ha : OPN X e a A) (hb : OPN X e b B) (hm : behindInMarks op b = false) : DT X e (.Compare a [op] [b] pos) (dtBin g A B) := by
  refine ⟨fun pins s σ H Q I ⟨T, G, δ, Qd, S, q, k⟩ => ?_⟩
  obtain ⟨ta, tb, h1, h2, h3⟩ := two_ent (Qd := fun z δ' => onBl z fun b => Qd b δ') (Q := fun x H' => ∃ k, x = .bl k ∧ Q k H') ho ha hb S q fun v d H' G' δ' S' st r qd => by
    obtain ⟨b, rfl, qd⟩ := onBl_ok qd
    exact ⟨b, r.blI, k b H' G' δ' S' st qd⟩
  exact (pt_cmpR wop_self h1 h2 hm).run pins s σ H Q I h3
def dChain (g g' : D → D → (D → Prop) → Prop) (ta tb tc : TDE) : TDE := fun δ Q => ta δ fun x δ1 => tb δ1 fun y δ2 => g x y fun z => onBl z fun b => if b = true then tc δ2 fun w δ3 => g' y w fun r => Q r δ3 else Q (.bl false) δ2
theorem dt_chain {a b c : Expr} {ta tb tc : TDE} {op op' : CmpOp} {g g' : D → D → (D → Prop) → Prop} (ho : OpD X e (WOp X (compareOp op)) g) (ho' : OpD X e (WOp X (compareOp op')) g') (ha : DE X e a ta) (hb : DE X e b tb) (hc : DE X e c tc)
    (hm : lastMarks [op, op'] [b, c] = false := by with_unfolding_all rfl) : DT X e (.Compare a [op, op'] [b, c] pos) (fun δ Q => dChain g g' ta tb tc δ fun z δ' => onBl z fun b => Q b δ') := by
  refine pt_imp (pt_chain wop_self wop_self ha hb hc hm) fun σ H Q ⟨T, G, δ, Qd, S, q, k⟩ => ?_
  refine ⟨T, G, δ, _, S, q, fun x a H1 G1 δ1 S1 st1 ra q1 => ⟨T, G1, δ1, _, S1, q1, fun y b H2 G2 δ2 S2 st2 rb q2 => ?_⟩⟩
  refine ho T G2 H2 σ δ2 x y a b _ _ S2 (.inl (ra.mono st2.le)) (.inl rb) q2 fun v d H3 G3 S3 st3 rep qd => ?_
  obtain ⟨bb, rfl, qe⟩ := onBl_ok qd
  refine ⟨bb, rep.blI, ?_⟩
  cases bb with
  | false =>
    rw [if_neg Bool.false_ne_true] at qe ⊢
    exact ⟨false, rfl, k false H3 G3 δ2 S3 ((st1.trans st2).trans st3) qe⟩
  | true =>
    rw [if_pos rfl] at qe ⊢
    refine ⟨T, G3, δ2, _, S3, qe, fun w c H4 G4 δ4 S4 st4 rc q4 => ?_⟩
    refine ho' T G4 H4 σ δ4 y w b c _ _ S4 (.inl (rb.mono (st3.le.trans st4.le))) (.inl rc) q4 fun v d H5 G5 S5 st5 rep qd => ?_
    obtain ⟨bb, rfl, qd⟩ := onBl_ok qd
    exact ⟨bb, rep.blI, k bb H5 G5 δ4 S5 (((st1.trans st2).trans (st3.trans st4)).trans st5) qd⟩
theorem de_chain {a b c : Expr} {ta tb tc : TDE} {op op' : CmpOp} {g g' : D → D → (D → Prop) → Prop} (ho : OpD X e (WOp X (compareOp op)) g) (ho' : OpD X e (WOp X (compareOp op')) g') (ha : DE X e a ta) (hb : DE X e b tb) (hc : DE X e c tc)
    (hm : lastMarks [op, op'] [b, c] = false := by with_unfolding_all rfl) : DE X e (.Compare a [op, op'] [b, c] pos) (dChain g g' ta tb tc) := by
  refine pe_imp (pe_chain wop_self wop_self ha hb hc hm) fun σ H Q ⟨T, G, δ, Qd, S, q, k⟩ => ?_
  refine ⟨T, G, δ, _, S, q, fun x a H1 G1 δ1 S1 st1 ra q1 => ⟨T, G1, δ1, _, S1, q1, fun y b H2 G2 δ2 S2 st2 rb q2 => ?_⟩⟩
  refine ho T G2 H2 σ δ2 x y a b _ _ S2 (.inl (ra.mono st2.le)) (.inl rb) q2 fun v d H3 G3 S3 st3 rep qd => ?_
  obtain ⟨bb, rfl, qe⟩ := onBl_ok qd
  refine ⟨bb, rep.blI, ?_⟩
  cases bb with
  | false =>
    rw [if_neg Bool.false_ne_true] at qe ⊢
    exact k _ _ H3 G3 δ2 S3 ((st1.trans st2).trans st3) (.bl false) qe
  | true =>
    rw [if_pos rfl] at qe ⊢
    refine ⟨T, G3, δ2, _, S3, qe, fun w c H4 G4 δ4 S4 st4 rc q4 => ?_⟩
    exact ho' T G4 H4 σ δ4 y w b c _ _ S4 (.inl (rb.mono (st3.le.trans st4.le))) (.inl rc) q4 fun v d H5 G5 S5 st5 rep qd => k _ _ H5 G5 δ4 S5 (((st1.trans st2).trans (st3.trans st4)).trans st5) rep qd
def dAnd (t u : TDT) : TDT := fun δ Q => t δ fun c δ1 => if c = true then u δ1 Q else Q false δ1
def dOr (t u : TDT) : TDT := fun δ Q => t δ fun c δ1 => if c = true then Q true δ1 else u δ1 Q
def dNot (t : TDT) : TDT := fun δ Q => t δ fun c δ1 => Q (!c) δ1
theorem dw_and1 {a : Expr} {t : TDT} (h : DT X e a t) : DW X e (.BoolOp .And [a] pos) t := pw_and1 h
theorem dw_or1 {a : Expr} {t : TDT} (h : DT X e a t) : DW X e (.BoolOp .Or [a] pos) t := pw_or1 h
theorem dw_and {a b : Expr} {r : List Expr} {t u : TDT} (h : DT X e a t) (hr : DW X e (.BoolOp .And (b :: r) pos) u) : DW X e (.BoolOp .And (a :: b :: r) pos) (dAnd t u) :=
  pw_imp (pw_and h hr) fun σ H Q ⟨T, G, δ, Qd, S, q, k⟩ => ⟨T, G, δ, _, S, q, fun c H1 G1 δ1 S1 st1 q1 => by
    cases c with
    | true => exact iteT ⟨T, G1, δ1, Qd, S1, q1, fun b H2 G2 δ2 S2 st2 q2 => k b H2 G2 δ2 S2 (st1.trans st2) q2⟩
    | false => exact iteF (k false H1 G1 δ1 S1 st1 q1)⟩
theorem dw_or {a b : Expr} {r : List Expr} {t u : TDT} (h : DT X e a t) (hr : DW X e (.BoolOp .Or (b :: r) pos) u) : DW X e (.BoolOp .Or (a :: b :: r) pos) (dOr t u) :=
  pw_imp (pw_or h hr) fun σ H Q ⟨T, G, δ, Qd, S, q, k⟩ => ⟨T, G, δ, _, S, q, fun c H1 G1 δ1 S1 st1 q1 => by
    cases c with
    | false => exact iteF ⟨T, G1, δ1, Qd, S1, q1, fun b H2 G2 δ2 S2 st2 q2 => k b H2 G2 δ2 S2 (st1.trans st2) q2⟩
    | true => exact iteT (k true H1 G1 δ1 S1 st1 q1)⟩
theorem dt_not {a : Expr} {t : TDT} (h : DT X e a t) : DT X e (.UnaryOp .Not a pos) (dNot t) :=
  pt_imp (pt_not h) fun σ H Q ⟨T, G, δ, Qd, S, q, k⟩ => ⟨T, G, δ, _, S, q, fun c H1 G1 δ1 S1 st1 q1 => k (!c) H1 G1 δ1 S1 st1 q1⟩
/-- the truth of a thing -/
def truD : D → Option Bool
  | .non => some false
  | .bl b => some b
  | .int i => some (i != 0)
  | .lst l => some (!l.isEmpty)
  | .tup l => some (!l.isEmpty)
  | .dct l => some (!l.isEmpty)
  | _ => none
theorem isEmpty_len {α β : Type} {a : List α} {b : List β} (h : a.length = b.length) : (!a.isEmpty) = !b.isEmpty := by
  cases a <;> cases b <;> simp_all
theorem truD_ok {K : PySem.W.Frag} {G : Gh} {H : Hp} {v : V} {d : D} {b : Bool} (k : GOk G H) (r : RdO K G H v d) (h : truD d = some b) : TruV K v H b := by
  cases d with
  | non => have := r.non; subst this; exact (Option.some.inj h).symm
  | bl i => have := r.bl; subst this; exact (Option.some.inj h).symm
  | int i => have := r.int; subst this; exact (Option.some.inj h).symm
  | lst l =>
    obtain ⟨p, vs, rfl, hp, rl⟩ := r.lst k
    exact .inl ⟨vs, .inl (.inl hp), by rw [isEmpty_len rl.length]; exact (Option.some.inj h).symm⟩
  | tup l =>
    obtain ⟨p, vs, rfl, hp, rl⟩ := r.tup k
    exact .inr (.inl ⟨vs, hp, by rw [isEmpty_len rl.length]; exact (Option.some.inj h).symm⟩)
  | dct l =>
    obtain ⟨p, vs, rfl, hp, ee, rl⟩ := r.dct k
    refine .inr (.inr ⟨vs, hp, ?_⟩)
    have e2 : vs.length = l.length := by
      have := congrArg List.length ee
      simpa using this
    rw [isEmpty_len e2]
    exact (Option.some.inj h).symm
  | _ => cases h
def dTru (A : Opn) : TDT := fun δ Q => match A with
  | .ex t => t δ fun d δ1 => match truD d with | some b => Q b δ1 | none => False
  | .sl i => match rdS δ i with | some d => (match truD d with | some b => Q b δ | none => False) | none => False
theorem dt_tru {a : Expr} {A : Opn} (h : OPN X e a A) (he : ∀ whole, isTrue a X.env whole = (do let v ← whole; standAt a.pos; holding [v] (truthy v)) := by intro _; rfl) : DT X e a (dTru A) := by
  cases A with
  | ex t =>
    refine pt_imp (pt_truth h he) fun σ H Q ⟨T, G, δ, Qd, S, q, k⟩ => ⟨T, G, δ, _, S, q, fun v d H1 G1 δ1 S1 st1 r q1 => ?_⟩
    cases hb : truD d with
    | none => rw [hb] at q1; exact q1.elim
    | some b =>
      rw [hb] at q1
      exact ⟨b, truD_ok S1.ok (.inl r) hb, k b H1 G1 δ1 S1 st1 q1⟩
  | sl i =>
    refine pt_imp (pt_truth h he) fun σ H Q ⟨T, G, δ, Qd, S, q, k⟩ => ?_
    have q : (match rdS δ i with | some d => (match truD d with | some b => Qd b δ | none => False) | none => False) := q
    cases hi : rdS δ i with
    | none => rw [hi] at q; exact q.elim
    | some d =>
      rw [hi] at q
      obtain ⟨v, hv, r⟩ := rdS_ok S hi
      cases hb : truD d with
      | none => simp only [hb] at q
      | some b =>
        simp only [hb] at q
        exact ⟨v, hv, b, truD_ok S.ok r hb, k b H G δ S Step.refl q⟩
/-! ### values of and, or, not; if else -/
def dAndV (t u : TDE) : TDE := fun δ Q => t δ fun x δ1 => onBl x fun c => if c = true then u δ1 Q else Q (.bl false) δ1
def dOrV (t u : TDE) : TDE := fun δ Q => t δ fun x δ1 => onBl x fun c => if c = true then Q (.bl true) δ1 else u δ1 Q
def dNotV (t : TDE) : TDE := fun δ Q => t δ fun x δ1 => onBl x fun c => Q (.bl (!c)) δ1
theorem de_one {op} {a : Expr} {t : TDE} (h : DE X e a t) : DE X e (.BoolOp op [a] pos) t := pe_one h
theorem de_and {a b : Expr} {r : List Expr} {t u : TDE} (h : DE X e a t) (hr : DE X e (.BoolOp .And (b :: r) pos) u) : DE X e (.BoolOp .And (a :: b :: r) pos) (dAndV t u) :=
  pe_imp (pe_and h hr) fun σ H Q ⟨T, G, δ, Qd, S, q, k⟩ => ⟨T, G, δ, _, S, q, fun v d H1 G1 δ1 S1 st1 r1 q1 => by
    obtain ⟨c, rfl, q1⟩ := onBl_ok q1
    refine ⟨c, r1.blI, ?_⟩
    cases c with
    | true => exact iteT ⟨T, G1, δ1, Qd, S1, q1, fun v b H2 G2 δ2 S2 st2 r2 q2 => k v b H2 G2 δ2 S2 (st1.trans st2) r2 q2⟩
    | false => exact iteF (k _ _ H1 G1 δ1 S1 st1 (.bl false) q1)⟩
theorem de_or {a b : Expr} {r : List Expr} {t u : TDE} (h : DE X e a t) (hr : DE X e (.BoolOp .Or (b :: r) pos) u) : DE X e (.BoolOp .Or (a :: b :: r) pos) (dOrV t u) :=
  pe_imp (pe_or h hr) fun σ H Q ⟨T, G, δ, Qd, S, q, k⟩ => ⟨T, G, δ, _, S, q, fun v d H1 G1 δ1 S1 st1 r1 q1 => by
    obtain ⟨c, rfl, q1⟩ := onBl_ok q1
    refine ⟨c, r1.blI, ?_⟩
    cases c with
    | false => exact iteF ⟨T, G1, δ1, Qd, S1, q1, fun v b H2 G2 δ2 S2 st2 r2 q2 => k v b H2 G2 δ2 S2 (st1.trans st2) r2 q2⟩
    | true => exact iteT (k _ _ H1 G1 δ1 S1 st1 (.bl true) q1)⟩
theorem de_not {a : Expr} {t : TDE} (h : DE X e a t) : DE X e (.UnaryOp .Not a pos) (dNotV t) :=
  pe_imp (pe_not h) fun σ H Q ⟨T, G, δ, Qd, S, q, k⟩ => ⟨T, G, δ, _, S, q, fun v d H1 G1 δ1 S1 st1 r1 q1 => by
    obtain ⟨c, rfl, q1⟩ := onBl_ok q1
    exact ⟨c, r1.blI, k _ _ H1 G1 δ1 S1 st1 (.bl (!c)) q1⟩⟩
def dIf (t : TDT) (a b : TDE) : TDE := fun δ Q => t δ fun c δ1 => if c = true then a δ1 Q else b δ1 Q
theorem de_ifExp {c a b : Expr} {t : TDT} {ta tb : TDE} (hc : DT X e c t) (ha : DE X e a ta) (hb : DE X e b tb) : DE X e (.IfExp c a b pos) (dIf t ta tb) :=
  pe_imp (pe_ifExp hc ha hb) fun σ H Q ⟨T, G, δ, Qd, S, q, k⟩ => ⟨T, G, δ, _, S, q, fun c H1 G1 δ1 S1 st1 q1 => by
    cases c with
    | true => exact iteT ⟨T, G1, δ1, Qd, S1, q1, fun v b H2 G2 δ2 S2 st2 r2 q2 => k v b H2 G2 δ2 S2 (st1.trans st2) r2 q2⟩
    | false => exact iteF ⟨T, G1, δ1, Qd, S1, q1, fun v b H2 G2 δ2 S2 st2 r2 q2 => k v b H2 G2 δ2 S2 (st1.trans st2) r2 q2⟩⟩
theorem de_neg {a : Expr} {t : TDE} (h : DE X e a t) : DE X e (.UnaryOp .USub a pos) (fun δ Q => t δ fun x δ1 => match x with | .int i => Q (.int (-i)) δ1 | _ => False) :=
  pe_imp (pe_un un_neg h) fun σ H Q ⟨T, G, δ, Qd, S, q, k⟩ => ⟨T, G, δ, _, S, q, fun v d H1 G1 δ1 S1 st1 r1 q1 => by
    cases d with
    | int i => exact ⟨i, r1.intI, k _ _ H1 G1 δ1 S1 st1 (.int _) q1⟩
    | _ => exact False.elim q1⟩
/-! ### subscripts -/
def WIx (X : Cx) : R2 := fun x y H Q => ∀ (value slice : Expr) (pins : List (Addr × Obj)) (s : Shared) (σ : SSt) (v u : Value), Inv X pins σ H s → RelV x v → RelV y u → subscripted slice false v u = operate [v, u] (getItem v u) →
  wpAny (model X.prog X.w) X.A (subscriptTail value slice v u) (EP X pins σ Q) X.xe s
theorem wix_self : IxR X (WIx X) := fun value slice pins s σ H x y v u Q I rx ry h hs => h value slice pins s σ v u I rx ry hs
theorem wix_of {r : R2} (h : IxR X r) {x y : V} {H : Hp} {Q : VK} (q : r x y H Q) : WIx X x y H Q := fun value slice pins s σ v u I rx ry hs => h value slice pins s σ H x y v u Q I rx ry q hs
def keyD : D → Option Key
  | .int i => some (.inl i)
  | .str s => some (.inr s)
  | _ => none
def lookD {κ : Type} [DecidableEq κ] (l : List (κ × D)) (k : κ) : Option D := (l.find? fun p => decide (p.1 = k)).map (·.2)
theorem look_ok {K : PySem.W.Frag} {G : Gh} {κ : Type} [DecidableEq κ] (k : κ) : ∀ {kvs : List (κ × V)} {kds : List (κ × D)}, kvs.map (·.1) = kds.map (·.1) → RepL K G (kvs.map (·.2)) (kds.map (·.2)) →
    (lookD kds k = none ∧ valV kvs k = none) ∨ ∃ d v, lookD kds k = some d ∧ valV kvs k = some v ∧ Rep K G v d
  | [], [], _, _ => .inl ⟨rfl, rfl⟩
  | [], _ :: _, h, _ => by cases h
  | _ :: _, [], h, _ => by cases h
  | (k1, v1) :: r, (k2, d2) :: rd, h, q => by
    obtain ⟨h1, h2⟩ := List.cons.inj h
    have h1 : k1 = k2 := h1
    subst h1
    cases q with
    | cons q1 q2 =>
      by_cases z : k1 = k
      · subst z
        exact .inr ⟨d2, v1, by simp [lookD], by simp [valV], q1⟩
      · have e1 : lookD ((k1, d2) :: rd) k = lookD rd k := by simp [lookD, z]
        have e2 : valV ((k1, v1) :: r) k = valV r k := by simp [valV, z]
        rw [e1, e2]
        exact look_ok k h2 q2
theorem ix_dict (hu : X.A.units + 1 < cLine) : IxR X (fun x y H Q => ∃ a v, x = .ref a ∧ DGet H a y (some v) ∧ Q v H) := by
  intro value slice pins s σ H x y v u Q I rx ry h hs
  obtain ⟨a, v', ex, g, q⟩ := h
  subst ex
  obtain rfl : v = Value.ref a := rx
  have hT := dict_typeIs I g
  have h₂ : wpAny (model X.prog X.w) X.A (getItem (.ref a) u) (EP X pins σ Q) X.xe s := d_getItem hu I g ry fun w' s3 I3 rw' => ⟨v', H, I3, rw', q⟩
  unfold subscriptTail
  refine wpAny_bind ?_
  rw [getitemInPython_of_ne hT.not_modules]
  refine wpAny_bind (wpAny_specialOf hT PySem.F.slot_dict_getitem.lookup ?_)
  have fin : wpAny (model X.prog X.w) X.A (subscripted slice false (.ref a) u) (fun r s₃ => wpAny (model X.prog X.w) X.A (letTemporaryGo value (.ref a) r >>= fun _ => pure r) (EP X pins σ Q) X.xe s₃) X.xe s := by
    rw [hs]
    exact wpAny_operating (wpAny_mono h₂ (fun r s₃ h₃ => wpAny_bind (wpAny_letTemporaryGo (wpAny_pure h₃))) fun _ _ x => x)
  first
    | exact wpAny_pure (wpAny_bind fin)
    | exact wpAny_bind (wpAny_pure (wpAny_bind fin))
    | exact wpAny_bind fin
def ixD : D → D → (D → Prop) → Prop
  | .lst ds, .int i, Q => (match atI ds i with | some d => Q d | none => False)
  | .tup ds, .int i, Q => (match atI ds i with | some d => Q d | none => False)
  | .str s, .int i, Q => s.length ≤ sizeLine ∧ (match atI s.cps.toList i with | some c => Q (.str ⟨#[c]⟩) | none => False)
  | .dct kds, y, Q => (match keyD y with | some k => (match lookD kds k with | some d => Q d | none => False) | none => False)
  | _, _, _ => False
theorem atI_rep {K : PySem.W.Frag} {G : Gh} {vs : List V} {ds : List D} {i : Int} {d : D} (r : RepL K G vs ds) (h : atI ds i = some d) : ∃ v, atI vs i = some v ∧ Rep K G v d := by
  unfold atI at h ⊢
  rw [← r.length] at h
  cases q : ixN vs.length i with
  | none => rw [q] at h; cases h
  | some j =>
    rw [q] at h
    exact r.get h
theorem atI_mem {α : Type} {xs : List α} {i : Int} {v : α} (h : atI xs i = some v) : v ∈ xs := by
  obtain ⟨j, _, h2, _⟩ := atI_get h
  exact List.mem_of_getElem? h2
theorem key_v {K : PySem.W.Frag} {G : Gh} {H : Hp} {y : V} {d : D} {k : Key} (r : RdO K G H y d) (h : keyD d = some k) : y = kV k := by
  cases d with
  | int i => have := r.int; subst this; cases h; rfl
  | str s => obtain ⟨e1, _⟩ := r.str; subst e1; cases h; rfl
  | _ => cases h
theorem opd_ix {k0 : Nat} (hr : Room k0 X.A) : OpD X e (WIx X) ixD := by
  intro T G H σ δ x y a b Qd Q S ra rb q k
  cases a with
  | lst ds =>
    cases b with
    | int i =>
      have e2 := rb.int
      subst e2
      obtain ⟨p, vs, rfl, hp, r1⟩ := ra.lst S.ok
      have q : (match atI ds i with | some d => Qd d | none => False) := q
      cases h : atI ds i with
      | none => rw [h] at q; exact q.elim
      | some d =>
        rw [h] at q
        obtain ⟨v, hv, rv⟩ := atI_rep r1 h
        exact wix_of ix_list ⟨p, vs, i, v, rfl, rfl, .inl (.inl hp), hv, k v d H G S Step.refl rv q⟩
    | _ => exact False.elim q
  | tup ds =>
    cases b with
    | int i =>
      have e2 := rb.int
      subst e2
      obtain ⟨p, vs, rfl, hp, r1⟩ := ra.tup S.ok
      have q : (match atI ds i with | some d => Qd d | none => False) := q
      cases h : atI ds i with
      | none => rw [h] at q; exact q.elim
      | some d =>
        rw [h] at q
        obtain ⟨v, hv, rv⟩ := atI_rep r1 h
        exact wix_of ix_tup ⟨p, vs, i, v, rfl, rfl, hp, hv, k v d H G S Step.refl rv q⟩
    | _ => exact False.elim q
  | str s =>
    cases b with
    | int i =>
      have e2 := rb.int
      obtain ⟨e1, o1⟩ := ra.str
      subst e1 e2
      obtain ⟨hl, q⟩ := q
      cases h : atI s.cps.toList i with
      | none => rw [h] at q; exact q.elim
      | some c =>
        rw [h] at q
        exact wix_of ix_str ⟨s, i, c, rfl, rfl, hl, h, k _ _ H G S Step.refl (.str (sOk_one (o1 c (atI_mem h)))) q⟩
    | _ => exact False.elim q
  | dct kds =>
    have q : (match keyD b with | some k => (match lookD kds k with | some d => Qd d | none => False) | none => False) := q
    obtain ⟨p, kvs, rfl, hp, ee, r1⟩ := ra.dct S.ok
    cases hk : keyD b with
    | none => rw [hk] at q; exact q.elim
    | some kk =>
      rw [hk] at q
      have ey := key_v rb hk
      subst ey
      rcases look_ok kk ee r1 with ⟨h1, _⟩ | ⟨d, v, h1, h2, rv⟩
      · simp only [h1] at q
      · simp only [h1] at q
        exact wix_of (ix_dict (hu_of hr)) ⟨p, v, rfl, .inl ⟨kvs, kk, .inl hp, rfl, h2.symm⟩, k v d H G S Step.refl rv q⟩
  | _ => exact False.elim q
theorem de_ix {a b : Expr} {A B : Opn} {k0 : Nat} (hr : Room k0 X.A) (ha : OPN X e a A) (hb : OPN X e b B) (hs : PlainIx b := by exact fun _ _ => rfl) : DE X e (.Subscript a b pos) (dBin ixD A B) :=
  two_ok ha hb (f := fun ta tb => tOp (WIx X) ta tb) (fun ta tb h1 h2 => pe_ix wix_self h1 h2 hs) (fun _ _ _ _ _ => rfl) (opd_ix hr)
end
end T

namespace T
open PySem L2

structure DEnds where
  nx : DSt → Prop
  rt : D → Prop
  bk : DSt → Prop := fun _ => False
  ct : DSt → Prop := fun _ => False
abbrev TDS := DEnds → DSt → Prop
def Tm.nil : Tm := ⟨[], []⟩
def liftS (K : PySem.W.Frag) (e : Ent) (t : TDS) : TS := fun E σ H => ∃ (G : Gh) (δ : DSt) (F : DEnds), SS K e .nil G H σ δ ∧ t F δ ∧
  (∀ σ' δ' G' H', Le G G' → SS K e .nil G' H' σ' δ' → F.nx δ' → E.nx σ' H') ∧
  (∀ v d G' H', GOk G' H' → Step e e.G e.H G' H' → Rep K G' v d → F.rt d → E.rt v H') ∧
  (∀ σ' δ' G' H', Le G G' → SS K e .nil G' H' σ' δ' → F.bk δ' → E.bk σ' H') ∧
  (∀ σ' δ' G' H', Le G G' → SS K e .nil G' H' σ' δ' → F.ct δ' → E.ct σ' H')
def DS (X : Cx) (e : Ent) (st : Stmt) (t : TDS) : Prop := PS X st (liftS X.K e t)
def DSs (X : Cx) (e : Ent) (st : List Stmt) (t : TDS) : Prop := PSs X st (liftS X.K e t)
section
variable {X : Cx} {e : Ent} {pos : Pos}
def dNext : TDS := fun F δ => F.nx δ
def dSeq (t u : TDS) : TDS := fun F δ => t { F with nx := u F } δ
theorem dss_nil : DSs X e [] dNext := pss_imp pss_nil fun E σ H ⟨G, δ, F, S, q, n, r, b, c⟩ => n σ δ G H (Le.refl _) S q
theorem dss_cons {st : Stmt} {rest : List Stmt} {t u : TDS} (h : DS X e st t) (hr : DSs X e rest u) : DSs X e (st :: rest) (dSeq t u) :=
  pss_imp (pss_cons h hr) fun E σ H ⟨G, δ, F, S, q, n, r, b, c⟩ => ⟨G, δ, _, S, q, fun σ' δ' G' H' le S' q' => ⟨G', δ', F, S', q', fun a b' c' d' l2 => n a b' c' d' (le.trans l2), r, fun a b' c' d' l2 => b a b' c' d' (le.trans l2), fun a b' c' d' l2 => c a b' c' d' (le.trans l2)⟩, r, b, c⟩
theorem dss_one {st : Stmt} {t : TDS} (h : DS X e st t) : DSs X e [st] t := pss_one h
theorem ds_pass : DS X e (.Pass pos) dNext := ps_imp ps_pass fun E σ H ⟨G, δ, F, S, q, n, r, b, c⟩ => n σ δ G H (Le.refl _) S q
theorem ds_break : DS X e (.Break pos) (fun F δ => F.bk δ) := ps_imp ps_break fun E σ H ⟨G, δ, F, S, q, n, r, b, c⟩ => b σ δ G H (Le.refl _) S q
theorem ds_continue : DS X e (.Continue pos) (fun F δ => F.ct δ) := ps_imp ps_continue fun E σ H ⟨G, δ, F, S, q, n, r, b, c⟩ => c σ δ G H (Le.refl _) S q
def dDrop (t : TDE) : TDS := fun F δ => t δ fun _ δ1 => F.nx δ1
theorem ds_expr {ex : Expr} {t : TDE} (h : DE X e ex t) (hs : swapsWith ex none pos.line X.env = pure false := by rfl) : DS X e (.Expr ex pos) (dDrop t) :=
  ps_imp (ps_expr h hs) fun E σ H ⟨G, δ, F, S, q, n, r, b, c⟩ => ⟨.nil, G, δ, _, S, q, fun v d H' G' δ' S' st rep q' => n σ δ' G' H' st.le S' q'⟩
def dRet (t : TDE) : TDS := fun F δ => t δ fun d _ => F.rt d
theorem ds_ret {ex : Expr} {t : TDE} (h : DE X e ex t) : DS X e (.Return (some ex) pos) (dRet t) :=
  ps_imp (ps_ret h) fun E σ H ⟨G, δ, F, S, q, n, r, b, c⟩ => ⟨.nil, G, δ, _, S, q, fun v d H' G' δ' S' st rep q' => r v d G' H' S'.ok S'.stp rep q'⟩
theorem ds_retN : DS X e (.Return none pos) (fun F _ => F.rt .non) := ps_imp ps_retN fun E σ H ⟨G, δ, F, S, q, n, r, b, c⟩ => r .non .non G H S.ok S.stp .non q
def dIfS (c : TDT) (t u : TDS) : TDS := fun F δ => c δ fun b δ1 => if b = true then t F δ1 else u F δ1
theorem ds_if {c : Expr} {a b : List Stmt} {tc : TDT} {t u : TDS} (hc : DT X e c tc) (ha : DSs X e a t) (hb : DSs X e b u) : DS X e (.If c a b pos) (dIfS tc t u) :=
  ps_imp (ps_if hc ha hb) fun E σ H ⟨G, δ, F, S, q, n, r, bk, ct⟩ => ⟨.nil, G, δ, _, S, q, fun k H' G' δ' S' st q' => by
    cases k with
    | true => exact iteT ⟨G', δ', F, S', q', fun a b' c' d' l2 => n a b' c' d' (st.le.trans l2), r, fun a b' c' d' l2 => bk a b' c' d' (st.le.trans l2), fun a b' c' d' l2 => ct a b' c' d' (st.le.trans l2)⟩
    | false => exact iteF ⟨G', δ', F, S', q', fun a b' c' d' l2 => n a b' c' d' (st.le.trans l2), r, fun a b' c' d' l2 => bk a b' c' d' (st.le.trans l2), fun a b' c' d' l2 => ct a b' c' d' (st.le.trans l2)⟩⟩
def dNever : TDS := fun _ _ => False
theorem ds_never {st : Stmt} : DS X e st dNever := ps_imp ps_never fun E σ H ⟨G, δ, F, S, q, _⟩ => q
theorem dss_never {st : List Stmt} : DSs X e st dNever := pss_imp pss_never fun E σ H ⟨G, δ, F, S, q, _⟩ => q
def dAsg (t : TDE) (i : Nat) : TDS := fun F δ => t δ fun d δ1 => F.nx (δ1.set i (.im d))
def dAsgO (t : TDE) (i : Nat) : TDS := fun F δ => t δ fun d δ1 => F.nx (δ1.set i (.ow d))
theorem ds_set {i : Nat} {x : Str} {ex : Expr} {t : TDE} {pos' : Pos} (hN : X.N.Nodup) (hi : X.N[i]? = some x) (hx : Loc X.env.scope x) (h : DE X e ex t) (hs : swapsWith ex (some (.Name x pos')) pos.line X.env = pure false := by rfl)
    (hf : X.fn x = true ∨ X.env.scope.names.lookup x = some .local := by first | exact .inl rfl | exact .inr rfl | assumption) : DS X e (.Assign [.Name x pos'] ex pos) (dAsg t i) :=
  ps_imp (ps_set hN hi hx h hs hf) fun E σ H ⟨G, δ, F, S, q, n, r, b, c⟩ => ⟨.nil, G, δ, _, S, q, fun v d H' G' δ' S' st rep q' => n _ _ G' H' st.le (S'.asg rep) q'⟩
theorem ds_setO {i : Nat} {x : Str} {ex : Expr} {t : TDE} {pos' : Pos} (hN : X.N.Nodup) (hi : X.N[i]? = some x) (hx : Loc X.env.scope x) (h : DO X e ex t) (hs : swapsWith ex (some (.Name x pos')) pos.line X.env = pure false := by rfl)
    (hf : X.fn x = true ∨ X.env.scope.names.lookup x = some .local := by first | exact .inl rfl | exact .inr rfl | assumption) : DS X e (.Assign [.Name x pos'] ex pos) (dAsgO t i) :=
  ps_imp (ps_set hN hi hx h hs hf) fun E σ H ⟨G, δ, F, S, q, n, r, b, c⟩ => ⟨.nil, G, δ, _, S, q, fun l d H' G' δ' S' st m ap q' => n _ _ G' H' st.le (S'.asgO m ap) q'⟩
/-! ### targets -/
abbrev TDG := D → DSt → (DSt → Prop) → Prop
/-- σ' differs from σ at these slots alone -/
def Only1 (fp : List Nat) (σ σ' : St) : Prop := σ'.length = σ.length ∧ ∀ i, i ∉ fp → σ'[i]? = σ[i]?
theorem Only1.refl {fp : List Nat} {σ : St} : Only1 fp σ σ := ⟨rfl, fun _ _ => rfl⟩
theorem Only1.trans {fp fq : List Nat} {σ σ1 σ2 : St} (a : Only1 fp σ σ1) (b : Only1 fq σ1 σ2) : Only1 (fp ++ fq) σ σ2 :=
  ⟨b.1.trans a.1, fun i h => (b.2 i fun z => h (List.mem_append_right _ z)).trans (a.2 i fun z => h (List.mem_append_left _ z))⟩
def liftG (K : PySem.W.Frag) (e : Ent) (fp : List Nat) (t : TDG) : TG := fun v σ H Q => ∃ (T : Tm) (G : Gh) (δ : DSt) (d : D) (Qd : DSt → Prop), SS K e T G H σ δ ∧ Rep K G v d ∧ t d δ Qd ∧ ∀ σ' δ' G' H', SS K e T G' H' σ' δ' → Step e G H G' H' → Only1 fp σ σ' → Qd δ' → Q σ' H'
def DG (X : Cx) (e : Ent) (tg : Expr) (fp : List Nat) (t : TDG) : Prop := PG X tg (liftG X.K e fp t)
theorem pg_imp {tg : Expr} {t t' : TG} (h : PG X tg t) (k : ∀ v σ H Q, t' v σ H Q → t v σ H Q) : PG X tg t' := ⟨fun pins s σ H x v Q I r q => h.run pins s σ H x v Q I r (k x σ H Q q)⟩
def dgName (i : Nat) : TDG := fun d δ Q => Q (δ.set i (.im d))
theorem dg_name {i : Nat} {x : Str} (hN : X.N.Nodup) (hi : X.N[i]? = some x) (hx : Loc X.env.scope x) (hf : X.fn x = true ∨ X.env.scope.names.lookup x = some .local := by first | exact .inl rfl | exact .inr rfl | assumption) : DG X e (.Name x pos) [i] (dgName i) :=
  pg_imp (pg_name hN hi hx hf) fun v σ H Q ⟨T, G, δ, d, Qd, S, r, q, k⟩ => k _ _ G H (S.asg r) Step.refl ⟨List.length_set .., fun j hj => List.getElem?_set_ne (fun z => hj (by simp [z]))⟩ q
abbrev TDGs := List D → DSt → (DSt → Prop) → Prop
def liftGs (K : PySem.W.Frag) (e : Ent) (fp : List Nat) (t : TDGs) : TGs := fun vs σ H Q => ∃ (T : Tm) (G : Gh) (δ : DSt) (ds : List D) (Qd : DSt → Prop), SS K e T G H σ δ ∧ RepL K G vs ds ∧ t ds δ Qd ∧ ∀ σ' δ' G' H', SS K e T G' H' σ' δ' → Step e G H G' H' → Only1 fp σ σ' → Qd δ' → Q σ' H'
def DGs (X : Cx) (e : Ent) (ts : List Expr) (fp : List Nat) (t : TDGs) : Prop := PGs X ts (liftGs X.K e fp t)
theorem pgs_imp {tg : List Expr} {t t' : TGs} (h : PGs X tg t) (k : ∀ v σ H Q, t' v σ H Q → t v σ H Q) : PGs X tg t' := ⟨fun pins s σ H x v Q I r q => h.run pins s σ H x v Q I r (k x σ H Q q)⟩
def dgNil : TDGs := fun ds δ Q => match ds with | [] => Q δ | _ => False
def dgCons (t : TDG) (r : TDGs) : TDGs := fun ds δ Q => match ds with | d :: rest => t d δ fun δ1 => r rest δ1 Q | [] => False
theorem dgs_nil : DGs X e [] [] dgNil := pgs_imp pgs_nil fun vs σ H Q ⟨T, G, δ, ds, Qd, S, r, q, k⟩ => by
  cases r with
  | nil => exact ⟨rfl, k σ δ G H S Step.refl .refl q⟩
  | cons _ _ => exact False.elim q
theorem dgs_cons {ex : Expr} {es : List Expr} {t : TDG} {r : TDGs} {fp fq : List Nat} (h : DG X e ex fp t) (hr : DGs X e es fq r) (hs : (assignEach (ex :: es) X.env).map (·.2) = assign ex X.env :: (assignEach es X.env).map (·.2) := by rfl) : DGs X e (ex :: es) (fp ++ fq) (dgCons t r) := pgs_imp (pgs_cons h hr hs) fun vs σ H Q ⟨T, G, δ, ds, Qd, S, rl, q, k⟩ => by
  cases rl with
  | nil => exact False.elim q
  | cons r1 r2 => exact ⟨_, _, rfl, T, G, δ, _, _, S, r1, q, fun σ' δ' G' H' S' st o1 q' => ⟨T, G', δ', _, Qd, S', r2.mono st.le, q', fun σ2 δ2 G2 H2 S2 st2 o2 q2 => k σ2 δ2 G2 H2 S2 (st.trans st2) (o1.trans o2) q2⟩⟩
/-- a, b = a tuple, a list -/
def dgSeq (n : Nat) (t : TDGs) : TDG := fun d δ Q => match d with
  | .tup ds => ds.length = n ∧ t ds δ Q
  | .lst ds => ds.length = n ∧ t ds δ Q
  | _ => False
theorem dg_tup {es : List Expr} {k : Nat} {t : TDGs} {n : Nat} {fp : List Nat} (hc : X.calm = true) (h : DGs X e es fp t) (hn : (assignEach es X.env).length = n := by rfl) (hst : (assignEach es X.env).findIdx? (·.1) = none := by rfl) : DG X e (.Tuple es k pos) fp (dgSeq n t) := by
  refine ⟨fun pins s σ H v u Q I ru ⟨T, G, δ, d, Qd, S, r, q, k⟩ => ?_⟩
  cases d with
  | tup ds =>
    obtain ⟨p, vs, rfl, hp, rl⟩ := RdO.tup (.inl r) S.ok
    exact (pg_tup hc h hn hst).run pins s σ H _ u Q I ru ⟨p, vs, rfl, hp, by rw [rl.length]; exact q.1, T, G, δ, ds, Qd, S, rl, q.2, k⟩
  | lst ds =>
    obtain ⟨p, vs, rfl, hp, rl⟩ := RdO.lst (.inl r) S.ok
    exact (pg_lst hc h hn hst).run pins s σ H _ u Q I ru ⟨p, vs, rfl, .inl (.inl hp), by rw [rl.length]; exact q.1, T, G, δ, ds, Qd, S, rl, q.2, k⟩
  | _ => exact False.elim q
theorem ds_asg {tg ex : Expr} {t : TDE} {g : TDG} {fp : List Nat} (h : DE X e ex t) (hg : DG X e tg fp g) (hs : swapsWithSole [tg] ex pos.line X.env = pure false := by rfl) (hw : swappedStores [tg] ex X.env = pure none := by rfl) (h1 : (assignEach [tg] X.env).map (·.2) = [assign tg X.env] := by rfl) :
    DS X e (.Assign [tg] ex pos) (fun F δ => t δ fun d δ1 => g d δ1 F.nx) :=
  ps_imp (ps_asg h hg hs hw h1) fun E σ H ⟨G, δ, F, S, q, n, r, b, c⟩ => ⟨.nil, G, δ, _, S, q, fun v d H' G' δ' S' st rep q' => ⟨.nil, G', δ', d, F.nx, S', rep, q', fun σ2 δ2 G2 H2 S2 st2 _ q2 => n σ2 δ2 G2 H2 (st.le.trans st2.le) S2 q2⟩⟩
/-! ### loops -/
/-- an iterator gives these, whatever the body does -/
structure Yields (K : PySem.W.Frag) (e : Ent) (G1 : Gh) (J : It) (ds : List D) : Prop where
  go : ∀ (i : Nat) (T : Tm) (G' : Gh) (H' : Hp) (σ' : St) (δ' : DSt), Le G1 G' → SS K e T G' H' σ' δ' → i < ds.length → J.go i H'
  yld : ∀ (i : Nat) (T : Tm) (G' : Gh) (H' : Hp) (σ' : St) (δ' : DSt) (x : V) (H2 : Hp), Le G1 G' → SS K e T G' H' σ' δ' → i < ds.length → J.yld i H' x H2 → ∃ d G2, ds[i]? = some d ∧ SS K e T G2 H2 σ' δ' ∧ Step e G' H' G2 H2 ∧ Rep K G2 x d
  stop : ∀ (i : Nat) (T : Tm) (G' : Gh) (H' : Hp) (σ' : St) (δ' : DSt), Le G1 G' → SS K e T G' H' σ' δ' → ds.length ≤ i → J.stop i H'
def liftI (K : PySem.W.Frag) (e : Ent) (t : TDA) : TI := fun σ H R => ∃ (T : Tm) (G : Gh) (δ : DSt) (Qd : List D → DSt → Prop), SS K e T G H σ δ ∧ t δ Qd ∧
  ∀ J ds H1 G1 δ1, SS K e T G1 H1 σ δ1 → Step e G H G1 H1 → Yields K e G1 J ds → Qd ds δ1 → R J H1
def DI (X : Cx) (e : Ent) (tg iter : Expr) (t : TDA) : Prop := PI X tg iter (liftI X.K e t)
theorem pi_imp {tg iter : Expr} {t t' : TI} (h : PI X tg iter t) (k : ∀ σ H R, t' σ H R → t σ H R) : PI X tg iter t' := ⟨fun pins s σ H R I q => h.run pins s σ H R I (k σ H R q)⟩
theorem yields_list {K : PySem.W.Frag} {G : Gh} {p : Addr} {vs : List V} {ds : List D} (hp : SqL K G.I p vs) (r : RepL K G vs ds) : Yields K e G (Itl K p) ds where
  go := fun i T G' H' σ' δ' le S h => by
    have hl : i < vs.length := by rw [r.length]; exact h
    exact ⟨vs, vs[i], S.ok.sub.seq (le.I.seq hp), List.getElem?_eq_getElem hl⟩
  yld := fun i T G' H' σ' δ' x H2 le S h y => by
    obtain ⟨rfl, y⟩ := y
    obtain ⟨d, h1, h2⟩ := r.getV (y vs (S.ok.sub.seq (le.I.seq hp)))
    exact ⟨d, G', h1, S, Step.refl, h2.mono le⟩
  stop := fun i T G' H' σ' δ' le S h => ⟨vs, S.ok.sub.seq (le.I.seq hp), by rw [r.length]; exact h⟩
theorem yields_tup {K : PySem.W.Frag} {G : Gh} {p : Addr} {vs : List V} {ds : List D} (hp : SqT K G.I p vs) (r : RepL K G vs ds) : Yields K e G (Itt K p) ds where
  go := fun i T G' H' σ' δ' le S h => by
    have hl : i < vs.length := by rw [r.length]; exact h
    exact ⟨vs, vs[i], sqt_mono S.ok.sub (sqt_mono le.I hp), List.getElem?_eq_getElem hl⟩
  yld := fun i T G' H' σ' δ' x H2 le S h y => by
    obtain ⟨rfl, y⟩ := y
    obtain ⟨d, h1, h2⟩ := r.getV (y vs (sqt_mono S.ok.sub (sqt_mono le.I hp)))
    exact ⟨d, G', h1, S, Step.refl, h2.mono le⟩
  stop := fun i T G' H' σ' δ' le S h => ⟨vs, sqt_mono S.ok.sub (sqt_mono le.I hp), by rw [r.length]; exact h⟩
/-- over a list, over a tuple -/
def iSeq (t : TDE) : TDA := fun δ Q => t δ fun d δ1 => match d with | .lst ds => Q ds δ1 | .tup ds => Q ds δ1 | .scr ns => Q (ns.map D.int) δ1 | _ => False
theorem di_seq {tg l : Expr} {t : TDE} (h : DE X e l t) : DI X e tg l (iSeq t) := by
  refine ⟨fun pins s σ H R I ⟨T, G, δ, Qd, S, q, k⟩ => ?_⟩
  refine thn (h.run pins s σ H (fun x H1 => (∃ a, x = .ref a ∧ (∃ xs, SqL X.K H1 a xs) ∧ R (Itl X.K a) H1) ∨ ∃ a, x = .ref a ∧ (∃ xs, SqT X.K H1 a xs) ∧ R (Itt X.K a) H1) I ⟨T, G, δ, _, S, q, fun v d H' G' δ' S' st rep q' => ?_⟩) fun v s1 ⟨x, H1, I1, r1, q1⟩ => ?_
  · cases d with
    | lst ds =>
      cases rep with
      | lst hp r => exact .inl ⟨_, rfl, ⟨_, .inl (.inl (S'.ok.sub _ _ hp))⟩, k _ ds H' G' δ' S' st (yields_list (.inl (.inl hp)) r) q'⟩
    | scr ns =>
      cases rep with
      | scr hp => exact .inl ⟨_, rfl, ⟨_, S'.ok.sub.seq hp⟩, k _ (ns.map D.int) H' G' δ' S' st (yields_list hp (.ofInts ns)) q'⟩
    | tup ds =>
      cases rep with
      | tup hp r => exact .inr ⟨_, rfl, ⟨_, sqt_mono S'.ok.sub hp⟩, k _ ds H' G' δ' S' st (yields_tup hp r) q'⟩
    | _ => exact False.elim q'
  · rcases q1 with ⟨a, e1, ⟨xs, hq⟩, q2⟩ | ⟨a, e1, ⟨xs, hq⟩, q2⟩
    · subst e1
      cases r1
      obtain ⟨its, rv, p, hz⟩ := I1.list hq
      refine wpAny_pyIter_list p.isList ?_
      refine ⟨s1.heap.objs.size, [s1.heap.objs.size], _, _, H1, rfl, I1.kept (t' := s1.toks) fun b o e => Heap.get?_push_of_some _ e, turn_list a _, ⟨_, Heap.get?_push_size _ rfl, rfl, rfl⟩, fun b hb => ?_, q2⟩
      have e : b = s1.heap.objs.size := by simpa using hb
      subst e
      exact I1.fpOk (Nat.le_refl _) (I1.hok.fresh (Nat.le_refl _))
    · subst e1
      cases r1
      obtain ⟨its, rv, p, hz⟩ := I1.tuple hq
      refine wpAny_pyIter_tuple (show s1.heap.IsTuple a its.toArray from p) ?_
      refine ⟨s1.heap.objs.size, [s1.heap.objs.size], _, _, H1, rfl, I1.kept (t' := s1.toks) fun b o e => Heap.get?_push_of_some _ e, turn_tuple a _, ⟨_, Heap.get?_push_size _ rfl, rfl, rfl⟩, fun b hb => ?_, q2⟩
      have e : b = s1.heap.objs.size := by simpa using hb
      subst e
      exact I1.fpOk (Nat.le_refl _) (I1.hok.fresh (Nat.le_refl _))
def rngD (lo : Int) (n : Nat) : List D := (List.range n).map fun i : Nat => D.int (lo + (i : Int))
theorem rngD_get {lo : Int} {n i : Nat} (h : i < n) : (rngD lo n)[i]? = some (.int (lo + (i : Int))) := by simp [rngD, h]
theorem rngD_len {lo : Int} {n : Nat} : (rngD lo n).length = n := by simp [rngD]
theorem yields_range {K : PySem.W.Frag} {G : Gh} {lo : Int} {n : Nat} : Yields K e G (Itr lo n) (rngD lo n) where
  go := fun i T G' H' σ' δ' le S h => by rw [rngD_len] at h; exact h
  yld := fun i T G' H' σ' δ' x H2 le S h y => by
    obtain ⟨rfl, rfl⟩ := y
    rw [rngD_len] at h
    exact ⟨_, G', rngD_get h, S, Step.refl, .int _⟩
  stop := fun i T G' H' σ' δ' le S h => by rw [rngD_len] at h; exact h
def iRange1 (t : TDE) : TDA := fun δ Q => t δ fun d δ1 => match d with | .int j => (-(2 ^ 62) ≤ j ∧ j < 2 ^ 62) ∧ Q (rngD 0 j.toNat) δ1 | _ => False
theorem di_range1 {tg a : Expr} {t : TDE} {p : Pos} (hg : Gl X "range") (hm : X.mg "range" = none) (h : DE X e a t) (hs : starEach [a] X.env = [(false, eval a X.env)] := by rfl) : DI X e tg (.Call (.Name "range" p) [a] [] pos) (iRange1 t) :=
  pi_imp (pi_range1 hg hm (pa_cons h pa_nil hs) hs) fun σ H R ⟨T, G, δ, Qd, S, q, k⟩ => ⟨T, G, δ, _, S, q, fun v d H' G' δ' S' st rep q' => by
    cases d with
    | int j =>
      have := rep.intI
      subst this
      exact ⟨j, rfl, q'.1.1, q'.1.2, k _ _ H' G' δ' S' st yields_range q'.2⟩
    | _ => exact False.elim q'⟩
def iRange2 (t u : TDE) : TDA := fun δ Q => t δ fun d δ1 => u δ1 fun d2 δ2 => match d, d2 with | .int i, .int j => (-(2 ^ 62) ≤ i ∧ i < 2 ^ 62 ∧ -(2 ^ 62) ≤ j ∧ j < 2 ^ 62) ∧ Q (rngD i (j - i).toNat) δ2 | _, _ => False
theorem di_range2 {tg a b : Expr} {t u : TDE} {p : Pos} (hg : Gl X "range") (hm : X.mg "range" = none) (h : DE X e a t) (h2 : DE X e b u) (hs : starEach [a, b] X.env = [(false, eval a X.env), (false, eval b X.env)] := by rfl) (hs2 : starEach [b] X.env = [(false, eval b X.env)] := by rfl) :
    DI X e tg (.Call (.Name "range" p) [a, b] [] pos) (iRange2 t u) :=
  pi_imp (pi_range2 hg hm (pa_cons h (pa_cons h2 pa_nil hs2) (by rw [hs, hs2])) hs hs2) fun σ H R ⟨T, G, δ, Qd, S, q, k⟩ => ⟨T, G, δ, _, S, q, fun v d H' G' δ' S' st rep q' => ⟨T, G', δ', _, S', q', fun v2 d2 H2 G2 δ2 S2 st2 rep2 q2 => by
    cases d with
    | int i =>
      cases d2 with
      | int j =>
        have e1 := rep.intI
        have e2 := rep2.intI
        subst e1 e2
        exact ⟨i, j, rfl, q2.1, k _ _ H2 G2 δ2 S2 (st.trans st2) yields_range q2.2⟩
      | _ => exact False.elim q2
    | _ => exact False.elim q2⟩⟩
/-- for i, x in enumerate(a list) -/
def enumD (ds : List D) : List D := (List.range ds.length).map fun i : Nat => D.tup [.int (i : Int), ds.getD i .non]
theorem enumD_len {ds : List D} : (enumD ds).length = ds.length := by simp [enumD]
theorem enumD_get {ds : List D} {i : Nat} {d : D} (h : ds[i]? = some d) : (enumD ds)[i]? = some (.tup [.int (i : Int), d]) := by
  have hi := lt_of_get h
  have e1 : ds.getD i .non = d := by rw [List.getD_eq_getElem?_getD, h]; rfl
  rw [List.getD_eq_getElem?_getD] at e1
  simp only [enumD, List.getElem?_map, List.getElem?_range hi, Option.map_some, List.getD_eq_getElem?_getD, e1]
theorem yields_enum {K : PySem.W.Frag} {G : Gh} {p : Addr} {vs : List V} {ds : List D} (hp : SqL K G.I p vs) (r : RepL K G vs ds) : Yields K e G (Ite K p) (enumD ds) where
  go := fun i T G' H' σ' δ' le S h => by
    rw [enumD_len] at h
    have hl : i < vs.length := by rw [r.length]; exact h
    exact ⟨vs, vs[i], S.ok.sub.seq (le.I.seq hp), List.getElem?_eq_getElem hl⟩
  yld := fun i T G' H' σ' δ' x H2 le S h y => by
    obtain ⟨t, x', rfl, ht, rfl, y⟩ := y
    obtain ⟨d, h1, h2⟩ := r.getV (y vs (S.ok.sub.seq (le.I.seq hp)))
    obtain ⟨G2, S2, st2, rep⟩ := S.newTup (vs := [.int (i : Nat), x']) (ds := [.int (i : Int), d]) (.cons (.int _) (.one (h2.mono le))) ht
    exact ⟨_, G2, enumD_get h1, S2, st2, rep⟩
  stop := fun i T G' H' σ' δ' le S h => ⟨vs, S.ok.sub.seq (le.I.seq hp), by rw [r.length]; rw [enumD_len] at h; exact h⟩
def iEnumL (t : TDE) : TDA := fun δ Q => t δ fun d δ1 => match d with | .lst ds => Q (enumD ds) δ1 | _ => False
theorem di_enumL {elts : List Expr} {kk : Nat} {tpos p : Pos} {a : Expr} {t : TDE} (hg : Gl X "enumerate") (hm : X.mg "enumerate" = none) (h : DE X e a t) (hs : starEach [a] X.env = [(false, eval a X.env)] := by rfl) :
    DI X e (.Tuple elts kk tpos) (.Call (.Name "enumerate" p) [a] [] pos) (iEnumL t) :=
  pi_imp (pi_enum hg hm (pa_cons h pa_nil hs) hs) fun σ H R ⟨T, G, δ, Qd, S, q, k⟩ => ⟨T, G, δ, _, S, q, fun v d H' G' δ' S' st rep q' => by
    cases d with
    | lst ds =>
      cases rep with
      | lst hp r => exact ⟨_, _, rfl, .inl (.inl (S'.ok.sub _ _ hp)), k _ _ H' G' δ' S' st (yields_enum (.inl (.inl hp)) r) q'⟩
    | _ => exact False.elim q'⟩
/-- the loop, by its invariant -/
def dFor (w : TDA) (g : TDG) (tb : TDS) : TDS := fun F δ => w δ fun ds δ1 => ∃ Inv : Nat → DSt → Prop, Inv 0 δ1 ∧
  (∀ i d δ', ds[i]? = some d → Inv i δ' → g d δ' fun δ2 => tb { F with nx := Inv (i + 1), ct := Inv (i + 1), bk := F.nx } δ2) ∧ ∀ δ', Inv ds.length δ' → F.nx δ'
theorem ds_for {tg iter : Expr} {body : List Stmt} {w : TDA} {g : TDG} {tb : TDS} {fp : List Nat} (hp : PassesOwn (model X.prog X.w) X.A X.env X.xe) (hc : X.calm = true) (hi : DI X e tg iter w) (hg : DG X e tg fp g) (hb : DSs X e body tb)
    (hs : ∀ x, foldedSetIterable iter X.env x = pure x := by intro _; rfl) : DS X e (.For tg iter body [] pos) (dFor w g tb) :=
  ps_imp (ps_for hp hc hi hg hb hs) fun E σ H ⟨G, δ, F, S, q, n, r, b, c⟩ => by
    refine ⟨.nil, G, δ, _, S, q, fun J ds H1 G1 δ1 S1 st1 Y ⟨Iv, h0, hs, hd⟩ => ?_⟩
    refine ⟨fun i m σ H => m = ds.length - i ∧ i ≤ ds.length ∧ ∃ G δ, Le G1 G ∧ SS X.K e .nil G H σ δ ∧ Iv i δ, ⟨ds.length, by simp, Nat.zero_le _, G1, δ1, Le.refl _, S1, h0⟩, ?_⟩
    rintro i m σ2 H2 ⟨rfl, hi, G2, δ2, le2, S2, iv⟩
    by_cases hlt : i < ds.length
    · refine .inr ⟨Y.go i _ G2 H2 σ2 δ2 le2 S2 hlt, fun σ' H' => ∃ G δ, Le G1 G ∧ SS X.K e .nil G H' σ' δ ∧ Iv (i + 1) δ, fun σ' H' ⟨G', δ', l', S', iv'⟩ => ⟨ds.length - (i + 1), by omega, rfl, hlt, G', δ', l', S', iv'⟩, fun x H' y => ?_⟩
      obtain ⟨d, G3, hd', S3, st3, rep⟩ := Y.yld i _ G2 H2 σ2 δ2 x H' le2 S2 hlt y
      refine ⟨.nil, G3, δ2, d, _, S3, rep, hs i d δ2 hd' iv, fun σ4 δ4 G4 H4 S4 st4 _ q4 => ?_⟩
      have le4 : Le G1 G4 := le2.trans (st3.le.trans st4.le)
      exact ⟨G4, δ4, _, S4, q4, fun σ5 δ5 G5 H5 le5 S5 q5 => ⟨G5, δ5, le4.trans le5, S5, q5⟩, r, fun σ5 δ5 G5 H5 le5 S5 q5 => n σ5 δ5 G5 H5 ((st1.le.trans le4).trans le5) S5 q5, fun σ5 δ5 G5 H5 le5 S5 q5 => ⟨G5, δ5, le4.trans le5, S5, q5⟩⟩
    · have e1 : i = ds.length := by omega
      subst e1
      exact .inl ⟨Y.stop _ _ G2 H2 σ2 δ2 le2 S2 (Nat.le_refl _), n σ2 δ2 G2 H2 (st1.le.trans le2) S2 (hd δ2 iv)⟩
def dWhile (c : TDT) (tb : TDS) : TDS := fun F δ => ∃ (P : DSt → Prop) (μ : DSt → Nat), P δ ∧ ∀ δ, P δ → c δ fun b δ1 => if b = true then tb { F with nx := fun δ' => P δ' ∧ μ δ' < μ δ, ct := fun δ' => P δ' ∧ μ δ' < μ δ, bk := F.nx } δ1 else F.nx δ1
theorem ds_while {c : Expr} {body : List Stmt} {tc : TDT} {tb : TDS} (hp : PassesOwn (model X.prog X.w) X.A X.env X.xe) (hc : DT X e c tc) (hb : DSs X e body tb) : DS X e (.While c body [] pos) (dWhile tc tb) :=
  ps_imp (ps_while hp hc hb) fun E σ H ⟨G, δ, F, S, ⟨P, μ, h0, hs⟩, n, r, b, c⟩ => by
    refine ⟨fun m σ H => ∃ G' δ', Le G G' ∧ SS X.K e .nil G' H σ δ' ∧ P δ' ∧ m = μ δ', ⟨_, G, δ, Le.refl _, S, h0, rfl⟩, ?_⟩
    rintro m σ2 H2 ⟨G2, δ2, le2, S2, p2, rfl⟩
    refine ⟨.nil, G2, δ2, _, S2, hs δ2 p2, fun k H3 G3 δ3 S3 st3 q3 => ?_⟩
    cases k with
    | false =>
      rw [if_neg Bool.false_ne_true] at q3 ⊢
      exact n σ2 δ3 G3 H3 (le2.trans st3.le) S3 q3
    | true =>
      rw [if_pos rfl] at q3 ⊢
      have le3 := le2.trans st3.le
      refine ⟨fun σ' H' => ∃ G' δ', Le G G' ∧ SS X.K e .nil G' H' σ' δ' ∧ P δ' ∧ μ δ' < μ δ2, fun σ' H' ⟨G', δ', l', S', p', lt⟩ => ⟨_, lt, G', δ', l', S', p', rfl⟩, ?_⟩
      exact ⟨G3, δ3, _, S3, q3, fun σ5 δ5 G5 H5 le5 S5 q5 => ⟨G5, δ5, le3.trans le5, S5, q5⟩, r, fun σ5 δ5 G5 H5 le5 S5 q5 => n σ5 δ5 G5 H5 (le3.trans le5) S5 q5, fun σ5 δ5 G5 H5 le5 S5 q5 => ⟨G5, δ5, le3.trans le5, S5, q5⟩⟩
end
end T

namespace T
open PySem L2

section
variable {X : Cx} {e : Ent} {pos : Pos}
/-! ### defs: promises over data -/
abbrev SpD := List D → (D → Prop) → Prop
def toSp (K : PySem.W.Frag) (sd : SpD) : Sp := fun vs H Q _ => ∃ (G : Gh) (ds : List D) (Qd : D → Prop), GOk G H ∧ RepL K G vs ds ∧ sd ds Qd ∧ ∀ d v G' H', GOk G' H' → Step ⟨G, H⟩ G H G' H' → Rep K G' v d → Qd d → Q v H'
/-- behind a call -/
theorem SS.after {K : PySem.W.Frag} {T : Tm} {G G' : Gh} {H H' : Hp} {σ : St} {δ : DSt} (S : SS K e T G H σ δ) (ok : GOk G' H') (c : Step ⟨G, H⟩ G H G' H') : SS K e T G' H' σ δ ∧ Step e G H G' H' := by
  have hs : ∀ a, (e.H a).isSome = true → (H a).isSome = true := fun a h => S.stp.dom a h h
  have st : Step e G H G' H' := ⟨c.le, fun a h n => c.old a (hs a h) (S.stp.noB a h n), fun a h n => c.noI a (hs a h) n, fun a h n => c.noB a (hs a h) n, fun a h q => c.dom a (hs a h) q⟩
  refine ⟨⟨S.ln, ok, S.stp.trans st, S.s.len, fun i s h => ?_, S.s.sep⟩, st⟩
  obtain ⟨x, hx, q⟩ := S.s.sl i s h
  refine ⟨x, hx, ?_⟩
  cases s with
  | no => trivial
  | im d => obtain ⟨v, e1, r⟩ := q; exact ⟨v, e1, r.mono c.le⟩
  | ow d =>
    obtain ⟨l, e1, m⟩ := q
    obtain ⟨o, ho⟩ := m.obj
    have hl : (H l).isSome = true := by rw [ho]; rfl
    exact ⟨l, e1, m.own.mono c.le (c.old l hl m.nB), c.noI l hl m.nI, c.noB l hl m.nB, m.new⟩
/-- a def of the module that keeps a promise over data, at a level -/
structure CalD (P : Program) (w : World) (K : PySem.W.Frag) (mg : Str → Option Value) (base : Heap) (k : Nat) (x : Str) (sd : SpD) : Prop where
  ex : ∃ f fd ps, FnOk P w K mg base CX0 k f fd ps (toSp K sd) ∧ mg x = some (.ref f) ∧ PySem.W.keepIn K (.ref f) = true ∧ Binds K fd ps []
def dCall (sd : SpD) (t : TDA) : TDE := fun δ Q => t δ fun ds δ1 => sd ds fun d => Q d δ1
theorem de_call {k j : Nat} {x : Str} {sd : SpD} {a : Expr} {es : List Expr} {t : TDA} {p : Pos} (c : CalD X.prog X.w X.K X.mg X.base k x sd) (hr : Room j X.A) (hk : k ≤ j) (hg : Gl X x) (ha : DA X e (a :: es) t)
    (hd : (x == ("__debug__" : Str)) = false := by decide) (he : starEach (a :: es) X.env = (false, eval a X.env) :: starEach es X.env := by rfl) (hpl : (backTo pos (starEach es X.env)).any (·.1) = false := by rfl) : DE X e (.Call (.Name x p) (a :: es) [] pos) (dCall sd t) := by
  obtain ⟨f, fd, ps, F, hm, kp, hb⟩ := c.ex
  refine pe_imp (pe_call F (hr.mono hk) hg hm kp hb .nil pass0 ha hd he hpl) fun σ H Q ⟨T, G, δ, Qd, S, q, k⟩ => ?_
  refine ⟨T, G, δ, _, S, q, fun vs ds H1 G1 δ1 S1 st1 r len q1 => ?_⟩
  show toSp X.K sd (vs ++ []) H1 Q E0
  rw [List.append_nil]
  exact ⟨G1, ds, _, S1.ok, r, q1, fun d v G' H' ok c rep qd => by
    obtain ⟨S2, st2⟩ := S1.after ok c
    exact k v d H' G' δ1 S2 (st1.trans st2) rep qd⟩
theorem de_call0 {k j : Nat} {x : Str} {sd : SpD} {p : Pos} (c : CalD X.prog X.w X.K X.mg X.base k x sd) (hr : Room j X.A) (hk : k ≤ j) (hg : Gl X x)
    (hd : (x == ("__debug__" : Str)) = false := by decide) : DE X e (.Call (.Name x p) [] [] pos) (dCall sd dNil) := by
  obtain ⟨f, fd, ps, F, hm, kp, hb⟩ := c.ex
  refine pe_imp (pe_call0 F (hr.mono hk) hg hm kp hb .nil pass0 hd) fun σ H Q ⟨T, G, δ, Qd, S, q, k⟩ => ?_
  show toSp X.K sd ([] ++ []) H Q E0
  rw [List.append_nil]
  exact ⟨G, [], _, S.ok, .nil, q, fun d v G' H' ok c rep qd => by
    obtain ⟨S2, st2⟩ := S.after ok c
    exact k v d H' G' δ S2 st2 rep qd⟩
def startD (n : Nat) (ds : List D) : DSt := ds.map Sl.im ++ List.replicate (n - ds.length) .no
theorem start_ss {K : PySem.W.Frag} {G : Gh} {H : Hp} {vs : List V} {ds : List D} {N : List Str} (ok : GOk G H) (r : RepL K G vs ds) : SS K ⟨G, H⟩ .nil G H (L2.start N vs) (startD N.length ds) := by
  have hl := r.length
  have e1 : (startD N.length ds).length = (L2.start N vs).length := by
    simp only [startD, L2.start, List.length_append, List.length_map, List.length_replicate]
    omega
  refine ⟨e1, ok, Step.refl, ?_, fun i s h => ?_, fun i j di dj l hij h => ?_⟩
  · simp only [Tm.nil, List.append_nil]; exact e1.symm
  · simp only [Tm.nil, List.append_nil] at h ⊢
    by_cases hi : i < ds.length
    · unfold startD at h
      rw [List.getElem?_append_left (by simpa using hi), List.getElem?_map] at h
      cases hd : ds[i]? with
      | none => rw [hd] at h; cases h
      | some d =>
        rw [hd] at h
        obtain ⟨v, hv, rv⟩ := r.get hd
        have e2 : s = .im d := (Option.some.inj h).symm
        subst e2
        refine ⟨some v, ?_, v, rfl, rv⟩
        unfold L2.start
        rw [List.getElem?_append_left (by simp; omega), List.getElem?_map, hv]
        rfl
    · have h1 := lt_of_get h
      rw [e1] at h1
      refine ⟨_, List.getElem?_eq_getElem h1, ?_⟩
      unfold startD at h
      rw [List.getElem?_append_right (by simp; omega)] at h
      have e2 : s = .no := by
        have := List.mem_of_getElem? h
        exact (List.mem_replicate.mp this).2
      subst e2
      trivial
  · simp only [Tm.nil, List.append_nil] at h
    exfalso
    unfold startD at h
    have hm := List.mem_of_getElem? h
    rcases List.mem_append.mp hm with hm | hm
    · obtain ⟨d, _, q⟩ := List.mem_map.mp hm
      cases q
    · exact nomatch (List.mem_replicate.mp hm).2
/-- the context of a def's body -/
abbrev cxF (P : Program) (w : World) (K : PySem.W.Frag) (mg : Str → Option Value) (base : Heap) (N : List Str) (qual : Str) (scope : Scope) (f : Addr) (cdv : Value) (A : Around) (outer : List Env) (s : Shared) (H : Hp) (E : XK) : Cx :=
  (cxOf CX0 P w K mg base N qual scope f cdv A outer s H E).nox
/-- THE RULE for a def -/
theorem fn_d {P : Program} {w : World} {K : PySem.W.Frag} {mg : Str → Option Value} {base : Heap} {x qual : Str} {params : Arguments} {body : List Stmt} {scope : Scope} {dvs : List V} {kws : List (Str × V)} {f : Addr} {fd : FuncData} {N ps : List Str} {k : Nat} {sd : SpD} {t : TDS}
    (F : FunD K x qual params body scope dvs kws f fd) (S : FnScope N ps scope) (len : ∀ ds Q, sd ds Q → ds.length = ps.length)
    (hb : ∀ (cdv : Value) (A : Around) (outer : List Env) (s : Shared) (H : Hp) (E : XK) (e : Ent), Room k (A.deeper (PyProof.Rows.envOfC qual scope s.heap.objs.size f cdv)) → DSs (cxF P w K mg base N qual scope f cdv A outer s H E) e body t)
    (hp : ∀ ds Q, sd ds Q → t { nx := fun _ => Q .non, rt := Q } (startD N.length ds)) : FnOk P w K mg base CX0 (k + 1) f fd ps (toSp K sd) := by
  refine F.ok S (fun vs H Q E h => ?_) (fun cdv A outer s H vs Q E hr h => ?_)
  · obtain ⟨G, ds, Qd, ok, r, q, _⟩ := h
    rw [r.length]
    exact len ds Qd q
  · obtain ⟨G, ds, Qd, ok, r, q, kk⟩ := h
    refine ⟨_, PSs.nox (hb cdv A outer s H E ⟨G, H⟩ hr), G, startD N.length ds, _, start_ss ok r, hp ds Qd q, fun σ' δ' G' H' le S' q' => ?_, fun v d G' H' ok' st rep q' => kk d v G' H' ok' st rep q', fun _ _ _ _ _ _ q' => q'.elim, fun _ _ _ _ _ _ q' => q'.elim⟩
    exact kk .non .non G' H' S'.ok S'.stp .non q'
theorem cal_of {P : Program} {w : World} {K : PySem.W.Frag} {mg : Str → Option Value} {base : Heap} {x qual : Str} {params : Arguments} {body : List Stmt} {scope : Scope} {f : Addr} {fd : FuncData} {ps : List Str} {k : Nat} {sd : SpD} {kws : List (Str × V)}
    (F : FunD K x qual params body scope [] kws f fd) (G : FnOk P w K mg base CX0 k f fd ps (toSp K sd)) (hm : mg x = some (.ref f))
    (h : ∀ (kV doc pm : Value) (an : Option Addr) (cdv ct : Value) (us : List Value), us.length = ps.length → bindArgs (PySem.W.fnOf x qual params body scope .none kV doc pm an cdv ct) ⟨us, []⟩ = pure (ps.zip us)) : CalD P w K mg base k x sd :=
  ⟨f, fd, ps, G, hm, F.kp, F.bindsN h⟩
/-! ### slices -/
abbrev TDO := DSt → (Option Int → DSt → Prop) → Prop
def liftP (K : PySem.W.Frag) (e : Ent) (t : TDO) : TO := fun σ H Q => ∃ (T : Tm) (G : Gh) (δ : DSt) (Qd : Option Int → DSt → Prop), SS K e T G H σ δ ∧ t δ Qd ∧ ∀ o H' G' δ', SS K e T G' H' σ δ' → Step e G H G' H' → Qd o δ' → Q o H'
def DP (X : Cx) (e : Ent) (o : Option Expr) (t : TDO) : Prop := PO X o (liftP X.K e t)
theorem po_imp {o : Option Expr} {t t' : TO} (h : PO X o t) (k : ∀ σ H Q, t' σ H Q → t σ H Q) : PO X o t' := ⟨fun pins s σ H Q I q => h.run pins s σ H Q I (k σ H Q q)⟩
def dP0 : TDO := fun δ Q => Q none δ
def dP1 (t : TDE) : TDO := fun δ Q => t δ fun d δ1 => match d with | .int i => Q (some i) δ1 | _ => False
theorem dp_none : DP X e none dP0 := po_imp po_none fun σ H Q ⟨T, G, δ, Qd, S, q, k⟩ => k none H G δ S Step.refl q
theorem dp_some {a : Expr} {t : TDE} (h : DE X e a t) : DP X e (some a) (dP1 t) := po_imp (po_some h) fun σ H Q ⟨T, G, δ, Qd, S, q, k⟩ => ⟨T, G, δ, _, S, q, fun v d H' G' δ' S' st rep q' => by
  cases d with
  | int i => exact ⟨i, rep.intI, k _ H' G' δ' S' st q'⟩
  | _ => exact False.elim q'⟩
def cutL {α : Type} (xs : List α) (lo hi : Option Int) : List α := (xs.drop (HT.sIx xs.length 0 lo)).take (HT.sIx xs.length xs.length hi - HT.sIx xs.length 0 lo)
theorem cutV_eq (xs : List V) (lo hi : Option Int) : cutV xs lo hi = cutL xs lo hi := rfl
theorem cutL_rep {K : PySem.W.Frag} {G : Gh} {vs : List V} {ds : List D} (r : RepL K G vs ds) (lo hi : Option Int) : RepL K G (cutL vs lo hi) (cutL ds lo hi) := by
  unfold cutL
  rw [r.length]
  exact (r.drop _).take _
theorem cutL_whole {α : Type} {xs : List α} {lo hi : Option Int} (h : HT.sIx xs.length 0 lo = 0 ∧ HT.sIx xs.length xs.length hi = xs.length) : cutL xs lo hi = xs := by
  unfold cutL
  rw [h.1, h.2]
  simp
theorem cutL_map {α β : Type} (f : α → β) (xs : List α) (lo hi : Option Int) : cutL (xs.map f) lo hi = (cutL xs lo hi).map f := by
  unfold cutL
  rw [List.length_map, List.map_take, List.map_drop]
def slD : D → Option Int → Option Int → (D → Prop) → Prop
  | .lst ds, lo, hi, Q => Q (.lst (cutL ds lo hi))
  | .tup ds, lo, hi, Q => Q (.tup (cutL ds lo hi))
  | .str s, lo, hi, Q => s.length ≤ sizeLine ∧ Q (.str (cutS s lo hi))
  | .scr ns, lo, hi, Q => Q (.lst ((cutL ns lo hi).map D.int))
  | _, _, _, _ => False
theorem sl_any : SlR X (fun x lo hi H Q => (rSlL X.K x lo hi H Q ∨ rSlA X.K x lo hi H Q) ∨ rSlS x lo hi H Q) := SlR.or (SlR.or sl_list sl_tupA) sl_str
theorem slD_ok {T : Tm} {G : Gh} {H : Hp} {σ : St} {δ : DSt} {x : V} {a : D} {lo hi : Option Int} {Qd : D → Prop} {Q : VK} (S : SS X.K e T G H σ δ) (ra : RdO X.K G H x a) (q : slD a lo hi Qd)
    (k : ∀ v d H' G', SS X.K e T G' H' σ δ → Step e G H G' H' → Rep X.K G' v d → Qd d → Q v H') : (rSlL X.K x lo hi H Q ∨ rSlA X.K x lo hi H Q) ∨ rSlS x lo hi H Q := by
  cases a with
  | lst ds =>
    obtain ⟨p, vs, rfl, hp, r⟩ := ra.lst S.ok
    refine .inl (.inl ⟨p, vs, rfl, .inl (.inl hp), fun l hl => ?_⟩)
    obtain ⟨S2, st2, nI, nB, new, ap⟩ := S.new (o := .lst (cutV vs lo hi)) hl
    obtain ⟨G3, S3, st3, rep⟩ := S2.freeze (l := l) (d := .lst (cutL ds lo hi)) ⟨⟨_, upd_same, cutL_rep r lo hi⟩, nI, nB, new⟩ ap
    exact k _ _ _ G3 S3 (st2.trans st3) rep q
  | scr ns =>
    obtain ⟨p, rfl, hp⟩ := ra.scr S.ok
    refine .inl (.inl ⟨p, _, rfl, hp, fun l hl => ?_⟩)
    rw [cutV_eq, cutL_map]
    obtain ⟨S2, st2, nI, nB, new, ap⟩ := S.new (o := .lst ((cutL ns lo hi).map V.int)) hl
    obtain ⟨G3, S3, st3, rep⟩ := S2.freeze (l := l) (d := .lst ((cutL ns lo hi).map D.int)) ⟨⟨_, upd_same, .ofInts _⟩, nI, nB, new⟩ ap
    exact k _ _ _ G3 S3 (st2.trans st3) rep q
  | tup ds =>
    have ra' := ra
    obtain ⟨p, vs, rfl, hp, r⟩ := ra.tup S.ok
    have hl := r.length
    refine .inl (.inr ⟨p, vs, rfl, hp, fun hw => ?_, fun hw l hl => ?_⟩)
    · rcases ra' with rep | ⟨_, _, z⟩
      · refine k _ _ H G S Step.refl rep ?_
        rw [hl] at hw
        have q : Qd (.tup (cutL ds lo hi)) := q
        rw [cutL_whole hw] at q
        exact q
      · exact z.elim
    · obtain ⟨G2, S2, st2, rep⟩ := S.newTup (cutL_rep r lo hi) hl
      exact k _ _ _ G2 S2 st2 rep q
  | str s =>
    obtain ⟨e1, o1⟩ := ra.str
    subst e1
    exact .inr ⟨s, rfl, q.1, k _ _ H G S Step.refl (.str (sOk_cut o1 lo hi)) q.2⟩
  | _ => exact False.elim q
def dSl (A : Opn) (tl th : TDO) : TDE := fun δ Q => match A with
  | .ex t => t δ fun d δ1 => tl δ1 fun lo δ2 => th δ2 fun hi δ3 => slD d lo hi fun z => Q z δ3
  | .sl i => (rdS δ i).isSome = true ∧ tl δ fun lo δ2 => th δ2 fun hi δ3 => match rdS δ3 i with | some d => slD d lo hi fun z => Q z δ3 | none => False
theorem de_slice {a : Expr} {A : Opn} {lo hi : Option Expr} {tl th : TDO} {p2 : Pos} (ha : OPN X e a A) (hl : DP X e lo tl) (hh : DP X e hi th) : DE X e (.Subscript a (.Slice lo hi none p2) pos) (dSl A tl th) := by
  cases A with
  | ex t =>
    refine pe_imp (pe_slice sl_any ha hl hh) fun σ H Q ⟨T, G, δ, Qd, S, q, k⟩ => ?_
    refine ⟨T, G, δ, _, S, q, fun v d H1 G1 δ1 S1 st1 r q1 => ⟨T, G1, δ1, _, S1, q1, fun lo H2 G2 δ2 S2 st2 q2 => ⟨T, G2, δ2, _, S2, q2, fun hi H3 G3 δ3 S3 st3 q3 => ?_⟩⟩⟩
    exact slD_ok S3 (.inl (r.mono (st2.le.trans st3.le))) q3 fun v d H' G' S' st rep qd => k v d H' G' δ3 S' ((st1.trans st2).trans (st3.trans st)) rep qd
  | sl i =>
    refine pe_imp (pe_slice sl_any ha hl hh) fun σ H Q ⟨T, G, δ, Qd, S, ⟨hi, q⟩, k⟩ => ?_
    obtain ⟨d0, h0⟩ := Option.isSome_iff_exists.mp hi
    obtain ⟨v, hv, _⟩ := rdS_ok S h0
    refine ⟨v, hv, T, G, δ, _, S, q, fun lo H2 G2 δ2 S2 st2 q2 => ⟨T, G2, δ2, _, S2, q2, fun hi H3 G3 δ3 S3 st3 q3 => ?_⟩⟩
    cases hd : rdS δ3 i with
    | none => rw [hd] at q3; exact q3.elim
    | some d =>
      rw [hd] at q3
      obtain ⟨v', hv', r⟩ := rdS_ok S3 hd
      rw [hv] at hv'
      cases hv'
      exact slD_ok S3 r q3 fun v d H' G' S' st rep qd => k v d H' G' δ3 S' (st2.trans (st3.trans st)) rep qd
/-! ### built-in functions -/
/-- one operand -/
def dOne (A : Opn) (k : D → DSt → Prop) : DSt → Prop := fun δ => match A with
  | .ex t => t δ fun d δ1 => k d δ1
  | .sl i => match rdS δ i with | some d => k d δ | none => False
theorem one_ok {a ex : Expr} {A : Opn} (ha : OPN X e a A) {f : TE → TE} {r : V → Hp → VK → Prop} (hf : ∀ ta, PE X a ta → PE X ex (f ta)) (ef : ∀ ta σ H Q, (ta σ H fun x H1 => r x H1 Q) → f ta σ H Q)
    {g : D → (D → Prop) → Prop} (ho : ∀ (T : Tm) (G : Gh) (H : Hp) (σ : St) (δ : DSt) (x : V) (a : D) (Qd : D → Prop) (Q : VK), SS X.K e T G H σ δ → RdO X.K G H x a → g a Qd → (∀ v d H' G', SS X.K e T G' H' σ δ → Step e G H G' H' → Rep X.K G' v d → Qd d → Q v H') → r x H Q) :
    DE X e ex (fun δ Q => dOne A (fun d δ1 => g d fun z => Q z δ1) δ) := by
  cases A with
  | ex t =>
    refine pe_imp (hf _ ha) fun σ H Q ⟨T, G, δ, Qd, S, q, k⟩ => ef _ _ _ _ ?_
    exact ⟨T, G, δ, _, S, q, fun v d H1 G1 δ1 S1 st1 rd q1 => ho T G1 H1 σ δ1 v d _ Q S1 (.inl rd) q1 fun v d H' G' S' st' rep qd => k v d H' G' δ1 S' (st1.trans st') rep qd⟩
  | sl i =>
    refine pe_imp (hf _ ha) fun σ H Q ⟨T, G, δ, Qd, S, q, k⟩ => ef _ _ _ _ ?_
    have q : (match rdS δ i with | some d => g d (fun z => Qd z δ) | none => False) := q
    cases hi : rdS δ i with
    | none => rw [hi] at q; exact q.elim
    | some d =>
      rw [hi] at q
      obtain ⟨v, hv, rd⟩ := rdS_ok S hi
      exact ⟨v, hv, ho T G H σ δ v d _ Q S rd q fun v d H' G' S' st' rep qd => k v d H' G' δ S' st' rep qd⟩
def dB1 (g : D → (D → Prop) → Prop) (A : Opn) : TDE := fun δ Q => dOne A (fun d δ1 => g d fun z => Q z δ1) δ
/-- what a call of one value asks, by data -/
def CalB (X : Cx) (e : Ent) (r : List V → Hp → VK → Prop) (g : D → (D → Prop) → Prop) : Prop := ∀ (T : Tm) (G : Gh) (H : Hp) (σ : St) (δ : DSt) (x : V) (a : D) (Qd : D → Prop) (Q : VK), SS X.K e T G H σ δ → RdO X.K G H x a → g a Qd →
  (∀ v d H' G', SS X.K e T G' H' σ δ → Step e G H G' H' → Rep X.K G' v d → Qd d → Q v H') → r [x] H Q
theorem de_B1 {x : Str} {id : String} {a : Expr} {A : Opn} {p : Pos} {r : List V → Hp → VK → Prop} {g : D → (D → Prop) → Prop} (hc : CallR X (.builtin id) r) (ho : CalB X e r g) (hg : Gl X x) (hm : X.mg x = none) (hv : bootBuiltins x = some (.builtin id)) (ha : OPN X e a A)
    (hn : x ≠ "__name__" := by decide) (hd : (x == ("__debug__" : Str)) = false := by decide) (hs : starEach (a :: []) X.env = (false, eval a X.env) :: starEach [] X.env := by rfl) (hpl : (backTo pos (starEach [] X.env)).any (·.1) = false := by rfl) : DE X e (.Call (.Name x p) [a] [] pos) (dB1 g A) :=
  one_ok ha (r := fun x H Q => r [x] H Q) (f := fun ta => tCB r (tCons ta tNil)) (fun ta h => pe_callB hc hg hm hv (pa_cons h pa_nil hs) hn hd hs hpl) (fun _ _ _ _ h => h) ho
theorem de_T1 {x : Str} {id : String} {a : Expr} {A : Opn} {p : Pos} {r : List V → Hp → VK → Prop} {g : D → (D → Prop) → Prop} (hc : CallR X (.type id) r) (ho : CalB X e r g) (hg : Gl X x) (hm : X.mg x = none) (hv : bootBuiltins x = some (.type id)) (ha : OPN X e a A)
    (hn : x ≠ "__name__" := by decide) (hd : (x == ("__debug__" : Str)) = false := by decide) (hs : starEach (a :: []) X.env = (false, eval a X.env) :: starEach [] X.env := by rfl) (hpl : (backTo pos (starEach [] X.env)).any (·.1) = false := by rfl) : DE X e (.Call (.Name x p) [a] [] pos) (dB1 g A) :=
  one_ok ha (r := fun x H Q => r [x] H Q) (f := fun ta => tCB r (tCons ta tNil)) (fun ta h => pe_callTy hc hg hm hv (pa_cons h pa_nil hs) hn hd hs hpl) (fun _ _ _ _ h => h) ho
end
end T

namespace T
open PySem L2

section
variable {X : Cx} {e : Ent} {pos : Pos}
/-! ### len, abs, list, tuple, int .. -/
def lenD : D → (D → Prop) → Prop
  | .lst ds, Q => Q (.int (ds.length : Int))
  | .tup ds, Q => Q (.int (ds.length : Int))
  | .str s, Q => s.length ≤ sizeLine ∧ Q (.int (s.length : Int))
  | .scr ns, Q => Q (.int (ns.length : Int))
  | _, _ => False
theorem cb_len : CalB X e (fun xs H Q => ∃ x n, xs = [x] ∧ LenV X.K x H n ∧ Q (.int n) H) lenD := by
  intro T G H σ δ x a Qd Q S ra q k
  cases a with
  | lst ds =>
    obtain ⟨p, vs, rfl, hp, r⟩ := ra.lst S.ok
    exact ⟨_, vs.length, rfl, .inl ⟨vs, .inl (.inl hp), rfl⟩, k _ _ H G S Step.refl (.int _) (by rw [r.length]; exact q)⟩
  | tup ds =>
    obtain ⟨p, vs, rfl, hp, r⟩ := ra.tup S.ok
    exact ⟨_, vs.length, rfl, .inr ⟨vs, hp, rfl⟩, k _ _ H G S Step.refl (.int _) (by rw [r.length]; exact q)⟩
  | scr ns =>
    obtain ⟨p, rfl, hp⟩ := ra.scr S.ok
    exact ⟨_, (ns.map V.int).length, rfl, .inl ⟨_, hp, rfl⟩, k _ _ H G S Step.refl (.int _) (by rw [List.length_map]; exact q)⟩
  | str s =>
    obtain ⟨e1, _⟩ := ra.str
    subst e1
    exact ⟨_, s.length, rfl, ⟨q.1, rfl⟩, k _ _ H G S Step.refl (.int _) q.2⟩
  | _ => exact False.elim q
theorem de_len {a : Expr} {A : Opn} {p : Pos} (ha : OPN X e a A) (hg : Gl X "len") (hm : X.mg "len" = none) (hs : starEach (a :: []) X.env = (false, eval a X.env) :: starEach [] X.env := by rfl) : DE X e (.Call (.Name "len" p) [a] [] pos) (dB1 lenD A) :=
  de_B1 call_len cb_len hg hm PySem.boot_len ha (hs := hs)
def absD : D → (D → Prop) → Prop
  | .int i, Q => Q (.int (if i < 0 then -i else i))
  | _, _ => False
theorem cb_abs : CalB X e (fun xs H Q => ∃ i, xs = [.int i] ∧ Q (.int (if i < 0 then -i else i)) H) absD := by
  intro T G H σ δ x a Qd Q S ra q k
  cases a with
  | int i =>
    have := ra.int
    subst this
    exact ⟨i, rfl, k _ _ H G S Step.refl (.int _) q⟩
  | _ => exact False.elim q
theorem de_abs {a : Expr} {A : Opn} {p : Pos} (ha : OPN X e a A) (hg : Gl X "abs") (hm : X.mg "abs" = none) (hs : starEach (a :: []) X.env = (false, eval a X.env) :: starEach [] X.env := by rfl) : DE X e (.Call (.Name "abs" p) [a] [] pos) (dB1 absD A) :=
  de_B1 call_abs cb_abs hg hm (by decide +kernel) ha (hs := hs)
def intD : D → (D → Prop) → Prop
  | .int i, Q => Q (.int i)
  | .bl b, Q => Q (.int (if b then 1 else 0))
  | _, _ => False
theorem cb_int : CalB X e (fun xs H Q => (∃ i, xs = [.int i] ∧ Q (.int i) H) ∨ ∃ k, xs = [.bl k] ∧ Q (.int (if k then 1 else 0)) H) intD := by
  intro T G H σ δ x a Qd Q S ra q k
  cases a with
  | int i =>
    have := ra.int
    subst this
    exact .inl ⟨i, rfl, k _ _ H G S Step.refl (.int _) q⟩
  | bl i =>
    have := ra.bl
    subst this
    exact .inr ⟨i, rfl, k _ _ H G S Step.refl (.int _) q⟩
  | _ => exact False.elim q
theorem de_int1 {a : Expr} {A : Opn} {p : Pos} (ha : OPN X e a A) (hg : Gl X "int") (hm : X.mg "int" = none) (hs : starEach (a :: []) X.env = (false, eval a X.env) :: starEach [] X.env := by rfl) : DE X e (.Call (.Name "int" p) [a] [] pos) (dB1 intD A) :=
  de_T1 call_int1 cb_int hg hm (by decide +kernel) ha (hs := hs)
def tupleD : D → (D → Prop) → Prop
  | .lst ds, Q => Q (.tup ds)
  | .tup ds, Q => Q (.tup ds)
  | _, _ => False
theorem cb_tuple : CalB X e (fun xs H Q => ∃ p ys, xs = [.ref p] ∧ ((SqL X.K H p ys ∧ ∀ l, H l = none → Q (.ref l) (upd H l (.tup ys))) ∨ (SqT X.K H p ys ∧ Q (.ref p) H))) tupleD := by
  intro T G H σ δ x a Qd Q S ra q k
  cases a with
  | lst ds =>
    obtain ⟨p, vs, rfl, hp, r⟩ := ra.lst S.ok
    refine ⟨p, vs, rfl, .inl ⟨.inl (.inl hp), fun l hl => ?_⟩⟩
    obtain ⟨G2, S2, st2, rep⟩ := S.newTup r hl
    exact k _ _ _ G2 S2 st2 rep q
  | tup ds =>
    have ra' := ra
    obtain ⟨p, vs, rfl, hp, r⟩ := ra.tup S.ok
    rcases ra' with rep | ⟨_, _, z⟩
    · exact ⟨p, vs, rfl, .inr ⟨hp, k _ _ H G S Step.refl rep q⟩⟩
    · exact z.elim
  | _ => exact False.elim q
theorem de_tuple1 {a : Expr} {A : Opn} {p : Pos} (ha : OPN X e a A) (hg : Gl X "tuple") (hm : X.mg "tuple" = none) (hs : starEach (a :: []) X.env = (false, eval a X.env) :: starEach [] X.env := by rfl) : DE X e (.Call (.Name "tuple" p) [a] [] pos) (dB1 tupleD A) :=
  de_T1 call_tuple_of cb_tuple hg hm (by decide +kernel) ha (hs := hs)
/-- a new list, ours -/
def listD : D → (D → Prop) → Prop
  | .lst ds, Q => Q (.lst ds)
  | .tup ds, Q => Q (.lst ds)
  | _, _ => False
theorem do_list1 {a : Expr} {A : Opn} {p : Pos} (ha : OPN X e a A) (hg : Gl X "list") (hm : X.mg "list" = none) (hs : starEach (a :: []) X.env = (false, eval a X.env) :: starEach [] X.env := by rfl) : DO X e (.Call (.Name "list" p) [a] [] pos) (dB1 listD A) := by
  have key : ∀ (T : Tm) (G : Gh) (H : Hp) (σ : St) (δ : DSt) (x : V) (a : D) (Qd : D → Prop) (Q : VK), SS X.K e T G H σ δ → RdO X.K G H x a → listD a Qd →
      (∀ l d H', SS X.K e T G H' σ δ → Step e G H G H' → Mine X.K e G H' l d → Apart σ δ T l → Qd d → Q (.ref l) H') → ∃ p ys, [x] = [V.ref p] ∧ (SqL X.K H p ys ∨ SqT X.K H p ys) ∧ ∀ l, H l = none → Q (.ref l) (upd H l (.lst ys)) := by
    intro T G H σ δ x a Qd Q S ra q k
    cases a with
    | lst ds =>
      obtain ⟨p, vs, rfl, hp, r⟩ := ra.lst S.ok
      refine ⟨p, vs, rfl, .inl (.inl (.inl hp)), fun l hl => ?_⟩
      obtain ⟨S2, st2, nI, nB, new, ap⟩ := S.new (o := .lst vs) hl
      exact k l (.lst ds) _ S2 st2 ⟨⟨vs, upd_same, r⟩, nI, nB, new⟩ ap q
    | tup ds =>
      obtain ⟨p, vs, rfl, hp, r⟩ := ra.tup S.ok
      refine ⟨p, vs, rfl, .inr hp, fun l hl => ?_⟩
      obtain ⟨S2, st2, nI, nB, new, ap⟩ := S.new (o := .lst vs) hl
      exact k l (.lst ds) _ S2 st2 ⟨⟨vs, upd_same, r⟩, nI, nB, new⟩ ap q
    | _ => exact False.elim q
  cases A with
  | ex t =>
    refine pe_imp (pe_callTy call_list_of hg hm (by decide +kernel) (pa_cons ha pa_nil hs) (he := hs)) fun σ H Q ⟨T, G, δ, Qd, S, q, k⟩ => ?_
    exact ⟨T, G, δ, _, S, q, fun v d H1 G1 δ1 S1 st1 rd q1 => key T G1 H1 σ δ1 v d _ Q S1 (.inl rd) q1 fun l d H' S' st' m ap qd => k l d H' G1 δ1 S' (st1.trans st') m ap qd⟩
  | sl i =>
    refine pe_imp (pe_callTy call_list_of hg hm (by decide +kernel) (pa_cons ha pa_nil hs) (he := hs)) fun σ H Q ⟨T, G, δ, Qd, S, q, k⟩ => ?_
    have q : (match rdS δ i with | some d => listD d (fun z => Qd z δ) | none => False) := q
    cases hi : rdS δ i with
    | none => rw [hi] at q; exact q.elim
    | some d =>
      rw [hi] at q
      obtain ⟨v, hv, rd⟩ := rdS_ok S hi
      exact ⟨v, hv, key T G H σ δ v d _ Q S rd q fun l d H' S' st' m ap qd => k l d H' G δ S' st' m ap qd⟩
def min2D : D → D → (D → Prop) → Prop
  | .int i, .int j, Q => Q (.int (if j < i then j else i))
  | _, _, _ => False
def max2D : D → D → (D → Prop) → Prop
  | .int i, .int j, Q => Q (.int (if j > i then j else i))
  | _, _, _ => False
def dB2 (g : D → D → (D → Prop) → Prop) (t u : TDE) : TDE := fun δ Q => t δ fun x δ1 => u δ1 fun y δ2 => g x y fun z => Q z δ2
theorem de_min2 {a b : Expr} {t u : TDE} {p : Pos} (hc : X.calm = true) (ha : DE X e a t) (hb : DE X e b u) (hg : Gl X "min") (hm : X.mg "min" = none) (hs : starEach (a :: [b]) X.env = (false, eval a X.env) :: starEach [b] X.env := by rfl) (hs2 : starEach (b :: []) X.env = (false, eval b X.env) :: starEach [] X.env := by rfl) (hpl : (backTo pos (starEach [b] X.env)).any (·.1) = false := by rfl) :
    DE X e (.Call (.Name "min" p) [a, b] [] pos) (dB2 min2D t u) :=
  pe_imp (pe_callB (call_min2 hc) hg hm (by decide +kernel) (pa_cons ha (pa_cons hb pa_nil hs2) hs) (he := hs) (hpl := hpl)) fun σ H Q ⟨T, G, δ, Qd, S, q, k⟩ => ⟨T, G, δ, _, S, q, fun v d H1 G1 δ1 S1 st1 r1 q1 => ⟨T, G1, δ1, _, S1, q1, fun v2 d2 H2 G2 δ2 S2 st2 r2 q2 => by
    cases d with
    | int i =>
      cases d2 with
      | int j =>
        have e1 := r1.intI
        have e2 := r2.intI
        subst e1 e2
        exact ⟨i, j, rfl, k _ _ H2 G2 δ2 S2 (st1.trans st2) (.int _) q2⟩
      | _ => exact False.elim q2
    | _ => exact False.elim q2⟩⟩
theorem de_max2 {a b : Expr} {t u : TDE} {p : Pos} (hc : X.calm = true) (ha : DE X e a t) (hb : DE X e b u) (hg : Gl X "max") (hm : X.mg "max" = none) (hs : starEach (a :: [b]) X.env = (false, eval a X.env) :: starEach [b] X.env := by rfl) (hs2 : starEach (b :: []) X.env = (false, eval b X.env) :: starEach [] X.env := by rfl) (hpl : (backTo pos (starEach [b] X.env)).any (·.1) = false := by rfl) :
    DE X e (.Call (.Name "max" p) [a, b] [] pos) (dB2 max2D t u) :=
  pe_imp (pe_callB (call_max2 hc) hg hm (by decide +kernel) (pa_cons ha (pa_cons hb pa_nil hs2) hs) (he := hs) (hpl := hpl)) fun σ H Q ⟨T, G, δ, Qd, S, q, k⟩ => ⟨T, G, δ, _, S, q, fun v d H1 G1 δ1 S1 st1 r1 q1 => ⟨T, G1, δ1, _, S1, q1, fun v2 d2 H2 G2 δ2 S2 st2 r2 q2 => by
    cases d with
    | int i =>
      cases d2 with
      | int j =>
        have e1 := r1.intI
        have e2 := r2.intI
        subst e1 e2
        exact ⟨i, j, rfl, k _ _ H2 G2 δ2 S2 (st1.trans st2) (.int _) q2⟩
      | _ => exact False.elim q2
    | _ => exact False.elim q2⟩⟩
/-- a global name of a built-in class -/
theorem de_ty {x : Str} {n : String} (hg : Gl X x) (hm : X.mg x = none) (hv : bootBuiltins x = some (.type n)) (hn : x ≠ "__name__" := by decide) (hd : (x == ("__debug__" : Str)) = false := by decide) : DE X e (.Name x pos) (dC (.ty n)) :=
  de_c (pe_bltn (v := .ty n) hg hm hv rfl hn hd) fun _ => .ty n
/-! ### methods of lists that are ours -/
def owL (δ : DSt) (i : Nat) : Option (List D) := match δ[i]? with
  | some (.ow (.lst ds)) => some ds
  | _ => none
theorem owL_ok {δ : DSt} {i : Nat} {ds : List D} (h : owL δ i = some ds) : δ[i]? = some (.ow (.lst ds)) := by
  unfold owL at h
  split at h
  · cases h; assumption
  · cases h
def dAppend (i : Nat) (t : TDE) : TDE := fun δ Q => (owL δ i).isSome = true ∧ t δ fun d δ1 => match owL δ1 i with | some ds => ds.length < sizeLine ∧ Q .non (δ1.set i (.ow (.lst (ds ++ [d])))) | none => False
theorem de_append {o a : Expr} {i : Nat} {t : TDE} {apos : Pos} (ho : PE X o (tVar i)) (ha : DE X e a t)
    (hbase : attributeBase o "append" X.env (eval o X.env) = eval o X.env := by rfl)
    (hfew : ((backTo pos (starEach (a :: []) X.env)).all (fun x => !x.1) && (backToKw pos (keywordEach [] X.env)).all (fun x => x.1.isSome)
      && decide ((a :: []).length + ([] : List Keyword).length + (if ([] : List Keyword).isEmpty then 0 else 1) < 30)) = true := by rfl)
    (hline : (apos.endLine == pos.line) = true := by rfl) (hs : starEach (a :: []) X.env = (false, eval a X.env) :: starEach [] X.env := by rfl) (hplain : (backTo pos (starEach [] X.env)).any (·.1) = false := by rfl) :
    DE X e (.Call (.Attribute o "append" apos) [a] [] pos) (dAppend i t) :=
  pe_imp (pe_bm PySem.F.plainAttrs_list PySem.F.slot_list_append PySem.F.type_list_append mt_append ho (pa_cons ha pa_nil hs) hbase hfew hline hs hplain) fun σ H Q ⟨T, G, δ, Qd, S, ⟨h0, q⟩, k⟩ => by
    obtain ⟨ds0, h0⟩ := Option.isSome_iff_exists.mp h0
    obtain ⟨x, hx, l, rfl, m⟩ := S.sl i _ (owL_ok h0)
    obtain ⟨vs, hl, r⟩ := m.own
    refine ⟨_, hx, .inl ⟨rfl, vs, .inl (.inl hl)⟩, T, G, δ, _, S, q, fun v d H1 G1 δ1 S1 st1 rd q1 => ?_⟩
    cases h1 : owL δ1 i with
    | none => rw [h1] at q1; exact q1.elim
    | some ds =>
      rw [h1] at q1
      have h1' := owL_ok h1
      obtain ⟨x', hx', l', e1, m'⟩ := S1.sl i _ h1'
      rw [hx] at hx'
      cases hx'
      have e2 : l = l' := by simpa using e1
      subst e2
      obtain ⟨ws, hw, rw'⟩ := m'.own
      refine ⟨l, ws, v, rfl, rfl, hw, by rw [rw'.length]; exact q1.1, ?_⟩
      obtain ⟨S2, st2⟩ := S1.write (d' := .lst (ds ++ [d])) (o := .lst (ws ++ [v])) h1' hx ⟨_, upd_same, rw'.append (.one rd)⟩
      exact k _ _ _ G1 _ S2 (st1.trans st2) .non q1.2
def dExtend (i : Nat) (t : TDE) : TDE := fun δ Q => (owL δ i).isSome = true ∧ t δ fun d δ1 => match d with
  | .lst es => (match owL δ1 i with | some ds => ds.length + es.length ≤ sizeLine ∧ Q .non (δ1.set i (.ow (.lst (ds ++ es)))) | none => False)
  | _ => False
theorem de_extend {o a : Expr} {i : Nat} {t : TDE} {apos : Pos} (ho : PE X o (tVar i)) (ha : DE X e a t)
    (hbase : attributeBase o "extend" X.env (eval o X.env) = eval o X.env := by rfl)
    (hfew : ((backTo pos (starEach (a :: []) X.env)).all (fun x => !x.1) && (backToKw pos (keywordEach [] X.env)).all (fun x => x.1.isSome)
      && decide ((a :: []).length + ([] : List Keyword).length + (if ([] : List Keyword).isEmpty then 0 else 1) < 30)) = true := by rfl)
    (hline : (apos.endLine == pos.line) = true := by rfl) (hs : starEach (a :: []) X.env = (false, eval a X.env) :: starEach [] X.env := by rfl) (hplain : (backTo pos (starEach [] X.env)).any (·.1) = false := by rfl) :
    DE X e (.Call (.Attribute o "extend" apos) [a] [] pos) (dExtend i t) :=
  pe_imp (pe_bm PySem.F.plainAttrs_list PySem.F.slot_list_extend PySem.F.type_list_extend mt_extend ho (pa_cons ha pa_nil hs) hbase hfew hline hs hplain) fun σ H Q ⟨T, G, δ, Qd, S, ⟨h0, q⟩, k⟩ => by
    obtain ⟨ds0, h0⟩ := Option.isSome_iff_exists.mp h0
    obtain ⟨x, hx, l, rfl, m⟩ := S.sl i _ (owL_ok h0)
    obtain ⟨vs, hl, r⟩ := m.own
    refine ⟨_, hx, .inl ⟨rfl, vs, .inl (.inl hl)⟩, T, G, δ, _, S, q, fun v d H1 G1 δ1 S1 st1 rd q1 => ?_⟩
    cases d with
    | lst es =>
      have q1 : (match owL δ1 i with | some ds => ds.length + es.length ≤ sizeLine ∧ Qd .non (δ1.set i (.ow (.lst (ds ++ es)))) | none => False) := q1
      cases h1 : owL δ1 i with
      | none => rw [h1] at q1; exact q1.elim
      | some ds =>
        rw [h1] at q1
        have h1' := owL_ok h1
        obtain ⟨x', hx', l', e1, m'⟩ := S1.sl i _ h1'
        rw [hx] at hx'
        cases hx'
        have e2 : l = l' := by simpa using e1
        subst e2
        obtain ⟨ws, hw, rw'⟩ := m'.own
        obtain ⟨b, zs, rfl, hb, rz⟩ := RdO.lst (.inl rd) S1.ok
        refine ⟨l, b, ws, zs, rfl, rfl, hw, hb, by rw [rw'.length, rz.length]; exact q1.1, ?_⟩
        obtain ⟨S2, st2⟩ := S1.write (d' := .lst (ds ++ es)) (o := .lst (ws ++ zs)) h1' hx ⟨_, upd_same, rw'.append rz⟩
        exact k _ _ _ G1 _ S2 (st1.trans st2) .non q1.2
    | _ => exact False.elim q1
def dPopAt (i : Nat) (t : TDE) : TDE := fun δ Q => (owL δ i).isSome = true ∧ t δ fun d δ1 => match d with
  | .int j => (match owL δ1 i with | some ds => (0 ≤ j ∧ j < ds.length ∧ j < 2 ^ 62) ∧ (match ds[j.toNat]? with | some y => Q y (δ1.set i (.ow (.lst (ds.eraseIdx j.toNat)))) | none => False) | none => False)
  | _ => False
theorem de_popAt {o a : Expr} {i : Nat} {t : TDE} {apos : Pos} (ho : PE X o (tVar i)) (ha : DE X e a t)
    (hbase : attributeBase o "pop" X.env (eval o X.env) = eval o X.env := by rfl)
    (hfew : ((backTo pos (starEach (a :: []) X.env)).all (fun x => !x.1) && (backToKw pos (keywordEach [] X.env)).all (fun x => x.1.isSome)
      && decide ((a :: []).length + ([] : List Keyword).length + (if ([] : List Keyword).isEmpty then 0 else 1) < 30)) = true := by rfl)
    (hline : (apos.endLine == pos.line) = true := by rfl) (hs : starEach (a :: []) X.env = (false, eval a X.env) :: starEach [] X.env := by rfl) (hplain : (backTo pos (starEach [] X.env)).any (·.1) = false := by rfl) :
    DE X e (.Call (.Attribute o "pop" apos) [a] [] pos) (dPopAt i t) :=
  pe_imp (pe_bm PySem.F.plainAttrs_list PySem.F.slot_list_pop PySem.F.type_list_pop mt_popAt ho (pa_cons ha pa_nil hs) hbase hfew hline hs hplain) fun σ H Q ⟨T, G, δ, Qd, S, ⟨h0, q⟩, k⟩ => by
    obtain ⟨ds0, h0⟩ := Option.isSome_iff_exists.mp h0
    obtain ⟨x, hx, l, rfl, m⟩ := S.sl i _ (owL_ok h0)
    obtain ⟨vs, hl, r⟩ := m.own
    refine ⟨_, hx, .inl ⟨rfl, vs, .inl (.inl hl)⟩, T, G, δ, _, S, q, fun v d H1 G1 δ1 S1 st1 rd q1 => ?_⟩
    cases d with
    | int j =>
      have ev := rd.intI
      subst ev
      have q1 : (match owL δ1 i with | some ds => (0 ≤ j ∧ j < ds.length ∧ j < 2 ^ 62) ∧ (match ds[j.toNat]? with | some y => Qd y (δ1.set i (.ow (.lst (ds.eraseIdx j.toNat)))) | none => False) | none => False) := q1
      cases h1 : owL δ1 i with
      | none => rw [h1] at q1; exact q1.elim
      | some ds =>
        rw [h1] at q1
        have h1' := owL_ok h1
        obtain ⟨x', hx', l', e1, m'⟩ := S1.sl i _ h1'
        rw [hx] at hx'
        cases hx'
        have e2 : l = l' := by simpa using e1
        subst e2
        obtain ⟨ws, hw, rw'⟩ := m'.own
        obtain ⟨⟨hj0, hj1, hj2⟩, q2⟩ := q1
        cases hy : ds[j.toNat]? with
        | none => rw [hy] at q2; exact q2.elim
        | some y =>
          rw [hy] at q2
          obtain ⟨z, hz, rz⟩ := rw'.get hy
          have hlen := rw'.length
          have hlw := lt_of_get hz
          refine ⟨l, ws, j, j.toNat, z, rfl, rfl, hw, by omega, by omega, seqIndex_of hj0 (by omega), hz, ?_⟩
          obtain ⟨S2, st2⟩ := S1.write (d' := .lst (ds.eraseIdx j.toNat)) (o := .lst (ws.eraseIdx j.toNat)) h1' hx ⟨_, upd_same, rw'.eraseIdx _⟩
          exact k _ _ _ G1 _ S2 (st1.trans st2) (rz.mono st2.le) q2
    | _ => exact False.elim q1
end
end T

namespace T
open PySem L2

section
variable {X : Cx} {e : Ent} {pos : Pos}
def wipeD (δ : DSt) : List Nat → DSt
  | [] => δ
  | v :: vs => (wipeD δ vs).set v .no
theorem wipeD_len (δ : DSt) : ∀ vs : List Nat, (wipeD δ vs).length = δ.length
  | [] => rfl
  | v :: vs => by rw [wipeD, List.length_set, wipeD_len δ vs]
theorem wipeD_get (δ : DSt) (j : Nat) : ∀ vs : List Nat, (wipeD δ vs)[j]? = if j ∈ vs then (δ[j]?).map (fun _ => Sl.no) else δ[j]?
  | [] => by simp [wipeD]
  | v :: vs => by
    rw [wipeD]
    by_cases z : v = j
    · subst z
      rw [if_pos (List.mem_cons_self)]
      by_cases hl : v < δ.length
      · rw [List.getElem?_set_self (by rw [wipeD_len]; exact hl), List.getElem?_eq_getElem hl]; rfl
      · rw [List.getElem?_eq_none (by rw [List.length_set, wipeD_len]; omega), List.getElem?_eq_none (by omega)]; rfl
    · rw [List.getElem?_set_ne z, wipeD_get δ j vs]
      have e1 : (j ∈ v :: vs) ↔ j ∈ vs := by simp [Ne.symm z]
      by_cases h : j ∈ vs
      · rw [if_pos h, if_pos (e1.mpr h)]
      · rw [if_neg h, if_neg (fun q => h (e1.mp q))]
theorem wipe_get (σ : St) (j : Nat) : ∀ vs : List Nat, (wipe σ vs)[j]? = if j ∈ vs then (σ[j]?).map (fun _ => none) else σ[j]?
  | [] => by simp [wipe]
  | v :: vs => by
    rw [wipe]
    by_cases z : v = j
    · subst z
      rw [if_pos (List.mem_cons_self)]
      by_cases hl : v < σ.length
      · rw [List.getElem?_set_self (by rw [wipe_length]; exact hl), List.getElem?_eq_getElem hl]; rfl
      · rw [List.getElem?_eq_none (by rw [List.length_set, wipe_length]; omega), List.getElem?_eq_none (by omega)]; rfl
    · rw [List.getElem?_set_ne z, wipe_get σ j vs]
      have e1 : (j ∈ v :: vs) ↔ j ∈ vs := by simp [Ne.symm z]
      by_cases h : j ∈ vs
      · rw [if_pos h, if_pos (e1.mpr h)]
      · rw [if_neg h, if_neg (fun q => h (e1.mp q))]
theorem wipe_only {σ σ' : St} {fp vs : List Nat} (o : Only1 fp σ σ') (h : ∀ i ∈ fp, i ∈ vs) : wipe σ' vs = wipe σ vs := by
  apply List.ext_getElem?
  intro j
  rw [wipe_get, wipe_get]
  by_cases hj : j ∈ vs
  · rw [if_pos hj, if_pos hj]
    by_cases hl : j < σ.length
    · rw [List.getElem?_eq_getElem hl, List.getElem?_eq_getElem (by rw [o.1]; exact hl)]; rfl
    · rw [List.getElem?_eq_none (show σ.length ≤ j by omega), List.getElem?_eq_none (show σ'.length ≤ j by rw [o.1]; omega)]
  · rw [if_neg hj, if_neg hj, o.2 j fun z => hj (h j z)]
theorem SS.move {K : PySem.W.Frag} {T : Tm} {G : Gh} {H : Hp} {σ σ' : St} {δ : DSt} {vs : List Nat} (S : SS K e T G H σ δ) (hl : σ'.length = σ.length) (h : ∀ i, i ∉ vs → σ'[i]? = σ[i]?) : SS K e T G H σ' (wipeD δ vs) := by
  have hd := wipeD_len δ vs
  have hln := S.ln
  have hlen := S.s.len
  simp only [List.length_append] at hlen
  have ow : ∀ (i : Nat) (d : D), (wipeD δ vs ++ T.d)[i]? = some (.ow d) → (δ ++ T.d)[i]? = some (.ow d) ∧ (σ' ++ T.v)[i]? = (σ ++ T.v)[i]? := fun i d q => by
    by_cases hi : i < δ.length
    · rw [get_l (by rw [hd]; exact hi), wipeD_get] at q
      by_cases hj : i ∈ vs
      · rw [if_pos hj, List.getElem?_eq_getElem hi] at q; cases q
      · rw [if_neg hj] at q
        rw [get_l hi, get_l (by omega), get_l (by omega)]
        exact ⟨q, h i hj⟩
    · rw [List.getElem?_append_right (by omega), hd] at q
      rw [List.getElem?_append_right (by omega), List.getElem?_append_right (by omega), List.getElem?_append_right (by omega), hl]
      exact ⟨q, rfl⟩
  refine ⟨by rw [hd, hl]; exact S.ln, S.ok, S.stp, by simp only [List.length_append]; omega, fun i s q => ?_, fun i j di dj l hij qi qj xi xj => ?_⟩
  · by_cases hi : i < δ.length
    · rw [get_l (by rw [hd]; exact hi), wipeD_get] at q
      by_cases hj : i ∈ vs
      · rw [if_pos hj, List.getElem?_eq_getElem hi] at q
        have e1 : s = .no := (Option.some.inj q).symm
        subst e1
        exact ⟨_, List.getElem?_eq_getElem (by simp only [List.length_append]; omega), trivial⟩
      · rw [if_neg hj] at q
        obtain ⟨o, h1, h2⟩ := S.sl i s q
        rw [get_l (by omega), h i hj]
        exact ⟨o, h1, h2⟩
    · rw [List.getElem?_append_right (by omega), hd] at q
      obtain ⟨o, h1, h2⟩ := S.s.sl i s (by rw [List.getElem?_append_right (by omega)]; exact q)
      rw [List.getElem?_append_right (by omega)] at h1
      rw [List.getElem?_append_right (by omega), hl]
      exact ⟨o, h1, h2⟩
  · obtain ⟨a1, a2⟩ := ow i di qi
    obtain ⟨b1, b2⟩ := ow j dj qj
    rw [a2] at xi
    rw [b2] at xj
    exact S.s.sep i j di dj l hij a1 b1 xi xj
def DTs (X : Cx) (e : Ent) (ifs : List Expr) (t : TDT) : Prop := PTs X ifs (liftT X.K e t)
def dYes : TDT := fun δ Q => Q true δ
theorem dts_nil : DTs X e [] dYes := ⟨fun pins s σ H Q I ⟨T, G, δ, Qd, S, q, k⟩ => pts_nil.run pins s σ H Q I (k true H G δ S Step.refl q)⟩
theorem dts_one {c : Expr} {t : TDT} (h : DT X e c t) : DTs X e [c] t := pts_one h
def dLc (w : TDA) (g : TDG) (tt : TDT) (te : TDE) (own : List Nat) : TDE := fun δ Q => w δ fun ds δ1 => ∃ Inv : Nat → List D → DSt → Prop, Inv 0 [] (wipeD δ1 own) ∧
  (∀ i d acc δ', ds[i]? = some d → Inv i acc δ' → g d (wipeD δ' own) fun δ2 => tt δ2 fun b δ3 => if b = true then te δ3 fun y δ4 => acc.length < sizeLine ∧ Inv (i + 1) (acc ++ [y]) (wipeD δ4 own) else Inv (i + 1) acc (wipeD δ3 own)) ∧
  ∀ acc δ', Inv ds.length acc δ' → Q (.lst acc) (wipeD δ' own)
theorem lc_ent {w : TDA} {g : TDG} {tt : TDT} {te : TDE} {own fp : List Nat} (hfp : ∀ i ∈ fp, i ∈ own) {σ : St} {H : Hp} {Q : VK} (h : liftO X.K e (dLc w g tt te own) σ H Q) :
    tLc (liftI X.K e w) (liftG X.K e fp g) (liftT X.K e tt) (lift X.K e te) own σ H Q := by
  obtain ⟨T, G, δ, Qd, S, q, k⟩ := h
  refine ⟨T, G, δ, _, S, q, fun J ds H1 G1 δ1 S1 st1 Y ⟨Iv, h0, hs, hd⟩ => ?_⟩
  intro L hL
  obtain ⟨S2, st2, nI, nB, new, ap⟩ := S1.new (o := .lst []) hL
  have S3 := S2.hold (l := L) (d := .lst []) ⟨⟨[], upd_same, .nil⟩, nI, nB, new⟩ ap
  have S4 : SS X.K e (T.push L (.lst [])) G1 (upd H1 L (.lst [])) (wipe σ own) (wipeD δ1 own) := S3.move (wipe_length σ own) fun i hi => by rw [wipe_get, if_neg hi]
  refine ⟨fun i m H' => m = ds.length - i ∧ i ≤ ds.length ∧ ∃ G' δ' acc, Step e G1 (upd H1 L (.lst [])) G' H' ∧ SS X.K e (T.push L (.lst acc)) G' H' (wipe σ own) (wipeD δ' own) ∧ Iv i acc (wipeD δ' own), ⟨ds.length, by simp, Nat.zero_le _, G1, δ1, [], Step.refl, S4, h0⟩, ?_⟩
  rintro i m H5 ⟨rfl, hi, G5, δ5, acc, st5, S5, iv⟩
  have wipe2 : ∀ δ : DSt, wipeD (wipeD δ own) own = wipeD δ own := fun δ => by
    apply List.ext_getElem?
    intro j
    rw [wipeD_get, wipeD_get]
    by_cases hj : j ∈ own
    · rw [if_pos hj, if_pos hj]; cases δ[j]? <;> rfl
    · rw [if_neg hj, if_neg hj]
  by_cases hlt : i < ds.length
  · refine .inr ⟨Y.go i _ G5 H5 _ _ st5.le S5 hlt, fun H' => ∃ G' δ' acc', Step e G1 (upd H1 L (.lst [])) G' H' ∧ SS X.K e (T.push L (.lst acc')) G' H' (wipe σ own) (wipeD δ' own) ∧ Iv (i + 1) acc' (wipeD δ' own), fun H' ⟨G', δ', acc', s', S', iv'⟩ => ⟨ds.length - (i + 1), by omega, rfl, hlt, G', δ', acc', s', S', iv'⟩, fun x H6 y => ?_⟩
    obtain ⟨d, G6, hd', S6, st6, rep⟩ := Y.yld i _ G5 H5 _ _ x H6 st5.le S5 hlt y
    have q6 := hs i d acc _ hd' iv
    rw [wipe2] at q6
    refine ⟨_, G6, _, d, _, S6, rep, q6, fun σ7 δ7 G7 H7 S7 st7 o7 q7 => ⟨?_, ?_⟩⟩
    · have e1 := wipe_only o7 hfp
      rw [e1]
      apply List.ext_getElem?
      intro j
      rw [wipe_get, wipe_get]
      by_cases hj : j ∈ own
      · rw [if_pos hj, if_pos hj]; cases σ[j]? <;> rfl
      · rw [if_neg hj, if_neg hj]
    · have hw7 : (wipe σ own).length = σ7.length ∧ ∀ i, i ∉ own → (wipe σ own)[i]? = σ7[i]? := ⟨o7.1.symm, fun i hi => (o7.2 i fun z => hi (hfp i z)).symm⟩
      refine ⟨_, G7, δ7, _, S7, q7, fun b H8 G8 δ8 S8 st8 q8 => ?_⟩
      have st18 := st5.trans (st6.trans (st7.trans st8))
      cases b with
      | false =>
        rw [if_neg Bool.false_ne_true] at q8
        refine iteF ?_
        exact ⟨G8, δ8, acc, st18, S8.move hw7.1 hw7.2, q8⟩
      | true =>
        rw [if_pos rfl] at q8
        refine iteT ?_
        refine ⟨_, G8, δ8, _, S8, q8, fun v y H9 G9 δ9 S9 st9 rv q9 => ?_⟩
        obtain ⟨_, m9, _⟩ := S9.drop
        obtain ⟨vs, hv, rl⟩ := m9.own
        refine ⟨vs, hv, by rw [rl.length]; exact q9.1, ?_⟩
        obtain ⟨S10, st10⟩ := S9.writeT (d' := .lst (acc ++ [y])) (o := .lst (vs ++ [v])) ⟨_, upd_same, rl.append (.one rv)⟩
        exact ⟨G9, δ9, acc ++ [y], st18.trans (st9.trans st10), S10.move hw7.1 hw7.2, q9.2⟩
  · have e1 : i = ds.length := by omega
    subst e1
    refine .inl ⟨Y.stop _ _ G5 H5 _ _ st5.le S5 (Nat.le_refl _), ?_⟩
    obtain ⟨S6, m6, ap6⟩ := S5.drop
    have S7 : SS X.K e T G5 H5 σ (wipeD δ5 own) := by
      have := S6.move (σ' := σ) (vs := own) (wipe_length σ own).symm fun i hi => by rw [wipe_get, if_neg hi]
      rwa [wipe2] at this
    have q7 := hd acc _ iv
    rw [wipe2] at q7
    refine k L (.lst acc) H5 G5 _ S7 (st1.trans (st2.trans st5)) m6 (fun i d hi z => ?_) q7
    have hi' := hi
    by_cases hl : i < δ5.length
    · rw [get_l (by rw [wipeD_len]; exact hl), wipeD_get] at hi'
      by_cases hj : i ∈ own
      · rw [if_pos hj, List.getElem?_eq_getElem hl] at hi'; cases hi'
      · refine ap6 i d hi ?_
        have hl2 : i < σ.length := by
          have := S7.ln
          rw [wipeD_len] at this
          omega
        rw [get_l hl2] at z
        rw [get_l (by rw [wipe_length]; exact hl2), wipe_get, if_neg hj]
        exact z
    · refine ap6 i d hi ?_
      have hl2 : ¬ i < σ.length := by
        have := S7.ln
        rw [wipeD_len] at this
        omega
      rw [List.getElem?_append_right (by omega)] at z
      rw [List.getElem?_append_right (by rw [wipe_length]; omega), wipe_length]
      exact z
theorem do_lc {elt tg iter : Expr} {ifs : List Expr} {scope : Scope} {own : List (Str × Nat)} {w : TDA} {g : TDG} {tt : TDT} {te : TDE} {fp : List Nat} (hc : X.calm = true) (hN : X.N.Nodup) (hi : DI X e tg iter w) (ok : BlkOk X.N X.env.scope scope own)
    (hg : ∀ (s : Shared) (H : Hp) (C : Addr) (cl : List (Str × Addr)) (fp' : List Addr), DG (X.blk s H scope (compEnvC scope cl C X.env) fp') e tg fp g) (ht : ∀ (s : Shared) (H : Hp) (C : Addr) (cl : List (Str × Addr)) (fp' : List Addr), DTs (X.blk s H scope (compEnvC scope cl C X.env) fp') e ifs tt)
    (he : ∀ (s : Shared) (H : Hp) (C : Addr) (cl : List (Str × Addr)) (fp' : List Addr), DE (X.blk s H scope (compEnvC scope cl C X.env) fp') e elt te) (hfp : ∀ i ∈ fp, i ∈ own.map (·.2) := by decide) (hs : ∀ x, foldedSetIterable iter X.env x = pure x := by intro _; rfl) :
    DO X e (.ListComp elt [⟨tg, iter, ifs, 0⟩] scope pos) (dLc w g tt te (own.map (·.2))) :=
  pe_imp (pe_lc (g := liftG X.K e fp g) (tt := liftT X.K e tt) (te := lift X.K e te) hc hN hi ok hg ht he hs) fun σ H Q h => lc_ent hfp h
theorem ds_setLcO {i : Nat} {y : Str} {py spos : Pos} {elt tg iter : Expr} {ifs : List Expr} {scope : Scope} {own : List (Str × Nat)} {w : TDA} {g : TDG} {tt : TDT} {te : TDE} {fp : List Nat} (hc : X.calm = true) (hN : X.N.Nodup) (hy : X.N[i]? = some y) (hyl : X.env.scope.names.lookup y = some .local)
    (hsw : swapsWith (.ListComp elt [⟨tg, iter, ifs, 0⟩] scope pos) (some (.Name y py)) spos.line X.env = pure true) (hi : DI X e tg iter w) (ok : BlkOk X.N X.env.scope scope own)
    (hg : ∀ (s : Shared) (H : Hp) (C : Addr) (cl : List (Str × Addr)) (fp' : List Addr), DG (X.blk s H scope (compEnvC scope cl C X.env) fp') e tg fp g) (ht : ∀ (s : Shared) (H : Hp) (C : Addr) (cl : List (Str × Addr)) (fp' : List Addr), DTs (X.blk s H scope (compEnvC scope cl C X.env) fp') e ifs tt)
    (he : ∀ (s : Shared) (H : Hp) (C : Addr) (cl : List (Str × Addr)) (fp' : List Addr), DE (X.blk s H scope (compEnvC scope cl C X.env) fp') e elt te) (hfp : ∀ i ∈ fp, i ∈ own.map (·.2) := by decide) (hs : ∀ x, foldedSetIterable iter X.env x = pure x := by intro _; rfl) :
    DS X e (.Assign [.Name y py] (.ListComp elt [⟨tg, iter, ifs, 0⟩] scope pos) spos) (dAsgO (dLc w g tt te (own.map (·.2))) i) :=
  ps_imp (ps_setLc (g := liftG X.K e fp g) (tt := liftT X.K e tt) (te := lift X.K e te) hc hN hy hyl hsw hi ok hg ht he hs) fun E σ H ⟨G, δ, F, S, q, n, r, b, c⟩ => lc_ent hfp ⟨.nil, G, δ, _, S, q, fun l d H' G' δ' S' st m ap q' => n _ _ G' H' st.le (S'.asgO m ap) q'⟩
theorem ds_setLc {i : Nat} {y : Str} {py spos : Pos} {elt tg iter : Expr} {ifs : List Expr} {scope : Scope} {own : List (Str × Nat)} {w : TDA} {g : TDG} {tt : TDT} {te : TDE} {fp : List Nat} (hc : X.calm = true) (hN : X.N.Nodup) (hy : X.N[i]? = some y) (hyl : X.env.scope.names.lookup y = some .local)
    (hsw : swapsWith (.ListComp elt [⟨tg, iter, ifs, 0⟩] scope pos) (some (.Name y py)) spos.line X.env = pure true) (hi : DI X e tg iter w) (ok : BlkOk X.N X.env.scope scope own)
    (hg : ∀ (s : Shared) (H : Hp) (C : Addr) (cl : List (Str × Addr)) (fp' : List Addr), DG (X.blk s H scope (compEnvC scope cl C X.env) fp') e tg fp g) (ht : ∀ (s : Shared) (H : Hp) (C : Addr) (cl : List (Str × Addr)) (fp' : List Addr), DTs (X.blk s H scope (compEnvC scope cl C X.env) fp') e ifs tt)
    (he : ∀ (s : Shared) (H : Hp) (C : Addr) (cl : List (Str × Addr)) (fp' : List Addr), DE (X.blk s H scope (compEnvC scope cl C X.env) fp') e elt te) (hfp : ∀ i ∈ fp, i ∈ own.map (·.2) := by decide) (hs : ∀ x, foldedSetIterable iter X.env x = pure x := by intro _; rfl) :
    DS X e (.Assign [.Name y py] (.ListComp elt [⟨tg, iter, ifs, 0⟩] scope pos) spos) (dAsg (dLc w g tt te (own.map (·.2))) i) :=
  ps_imp (ps_setLc (g := liftG X.K e fp g) (tt := liftT X.K e tt) (te := lift X.K e te) hc hN hy hyl hsw hi ok hg ht he hs) fun E σ H ⟨G, δ, F, S, q, n, r, b, c⟩ => lc_ent hfp ⟨.nil, G, δ, _, S, q, fun l d H' G' δ' S' st m ap q' => by
    obtain ⟨G2, S2, st2, r2⟩ := S'.freeze m ap
    exact n _ _ G2 H' (st.le.trans st2.le) (S2.asg r2) q'⟩
/-! ### a, b = x, y -/
/-- values, each frozen or ours -/
inductive Ev where
  | im (t : TDE) | ow (t : TDE)
def evPE (X : Cx) (e : Ent) (a : Expr) : Ev → Prop
  | .im t => DE X e a t
  | .ow t => DO X e a t
def dPar : List (Ev × Nat) → (DSt → Prop) → DSt → (DSt → DSt) → Prop
  | [], Q, δ, f => Q (f δ)
  | (.im t, i) :: r, Q, δ, f => t δ fun d δ1 => dPar r Q δ1 fun δ => (f δ).set i (.im d)
  | (.ow t, i) :: r, Q, δ, f => t δ fun d δ1 => dPar r Q δ1 fun δ => (f δ).set i (.ow d)
theorem ds_par {i j : Nat} {x y : Str} {a b : Expr} {A B : Ev} {px py pt : Pos} {kt k2 pt2} (hc : X.calm = true) (hN : X.N.Nodup) (hi : X.N[i]? = some x) (hj : X.N[j]? = some y) (hij : i ≠ j)
    (hx : X.env.scope.names.lookup x = some .local) (hy : X.env.scope.names.lookup y = some .local) (ha : evPE X e a A) (hb : evPE X e b B)
    (hw : swappedStores [.Tuple [.Name x px, .Name y py] kt pt] (.Tuple [a, b] k2 pt2) X.env = pure (some [x, y]))
    (hsa : starEach (a :: [b]) X.env = (false, eval a X.env) :: starEach [b] X.env := by rfl) (hsb : starEach (b :: []) X.env = (false, eval b X.env) :: starEach [] X.env := by rfl)
    (hs : swapsWithSole [.Tuple [.Name x px, .Name y py] kt pt] (.Tuple [a, b] k2 pt2) pos.line X.env = pure false := by rfl) :
    DS X e (.Assign [.Tuple [.Name x px, .Name y py] kt pt] (.Tuple [a, b] k2 pt2) pos) (fun F δ => dPar [(A, i), (B, j)] F.nx δ id) := by
  cases A with
  | im t =>
    cases B with
    | im u =>
      refine ps_imp (ps_par hc hN hi hj hij hx hy (pa_cons ha (pa_cons hb pa_nil hsb) hsa) hw hs) fun E σ H ⟨G, δ, F, S, q, n, r, b, c⟩ => ?_
      exact ⟨.nil, G, δ, _, S, q, fun v d H1 G1 δ1 S1 st1 r1 q1 => ⟨.nil, G1, δ1, _, S1, q1, fun w d2 H2 G2 δ2 S2 st2 r2 q2 => ⟨v, w, rfl, n _ _ G2 H2 (st1.le.trans st2.le) ((S2.asg (r1.mono st2.le)).asg r2) q2⟩⟩⟩
    | ow u =>
      refine ps_imp (ps_par hc hN hi hj hij hx hy (pa_cons ha (pa_cons hb pa_nil hsb) hsa) hw hs) fun E σ H ⟨G, δ, F, S, q, n, r, b, c⟩ => ?_
      refine ⟨.nil, G, δ, _, S, q, fun v d H1 G1 δ1 S1 st1 r1 q1 => ⟨.nil, G1, δ1, _, S1, q1, fun l d2 H2 G2 δ2 S2 st2 m ap q2 => ⟨v, .ref l, rfl, n _ _ G2 H2 (st1.le.trans st2.le) ((S2.asg (r1.mono st2.le)).asgO m fun p d' h z => ?_) q2⟩⟩⟩
      simp only [Tm.nil, List.append_nil] at h z ap
      rcases ow_set h with ⟨_, q⟩ | ⟨np, h⟩
      · cases q
      · rw [List.getElem?_set_ne (fun w => np w.symm)] at z
        exact ap p d' (by simpa [Tm.nil] using h) (by simpa [Tm.nil] using z)
  | ow t =>
    cases B with
    | im u =>
      refine ps_imp (ps_par hc hN hi hj hij hx hy (pa_cons ha (pa_cons hb pa_nil hsb) hsa) hw hs) fun E σ H ⟨G, δ, F, S, q, n, r, b, c⟩ => ?_
      refine ⟨.nil, G, δ, _, S, q, fun l d H1 G1 δ1 S1 st1 m ap q1 => ⟨_, G1, δ1, _, S1.hold m ap, q1, fun w d2 H2 G2 δ2 S2 st2 r2 q2 => ?_⟩⟩
      obtain ⟨S3, m3, ap3⟩ := S2.drop
      exact ⟨.ref l, w, rfl, n _ _ G2 H2 (st1.le.trans st2.le) ((S3.asgO m3 ap3).asg r2) q2⟩
    | ow u =>
      refine ps_imp (ps_par hc hN hi hj hij hx hy (pa_cons ha (pa_cons hb pa_nil hsb) hsa) hw hs) fun E σ H ⟨G, δ, F, S, q, n, r, b, c⟩ => ?_
      refine ⟨.nil, G, δ, _, S, q, fun l d H1 G1 δ1 S1 st1 m ap q1 => ⟨_, G1, δ1, _, S1.hold m ap, q1, fun l2 d2 H2 G2 δ2 S2 st2 m2 ap2 q2 => ?_⟩⟩
      have S2' := S2.hold m2 ap2
      obtain ⟨S3, m3, ap3⟩ := S2.drop
      refine ⟨.ref l, .ref l2, rfl, n _ _ G2 H2 (st1.le.trans st2.le) ((S3.asgO m3 ap3).asgO m2 fun p d' h z => ?_) q2⟩
      simp only [Tm.nil, List.append_nil] at h z
      have push : ∀ {p : Nat}, (δ2 ++ (Tm.nil.push l d).d)[p]? = if p = δ2.length then some (.ow d) else δ2[p]? := fun {p} => by
        simp only [Tm.push, Tm.nil, List.nil_append]; exact getElem?_snoc
      have pushV : ∀ {p : Nat}, (σ ++ (Tm.nil.push l d).v)[p]? = if p = σ.length then some (some (V.ref l)) else σ[p]? := fun {p} => by
        simp only [Tm.push, Tm.nil, List.nil_append]; exact getElem?_snoc
      rcases ow_set h with ⟨ep, _⟩ | ⟨np, h⟩
      · subst ep
        by_cases hl : p < σ.length
        · rw [List.getElem?_set_self hl] at z
          have : l = l2 := by simpa using z
          subst this
          exact ap2 δ2.length d (by rw [push, if_pos rfl]) (by rw [pushV, if_pos (by have := S3.ln; omega)])
        · rw [List.set_eq_of_length_le (by omega)] at z
          have := lt_of_get z
          omega
      · rw [List.getElem?_set_ne (fun w => np w.symm)] at z
        have hp := lt_of_get h
        exact ap2 p d' (by rw [push, if_neg (by omega)]; exact h) (by rw [pushV, if_neg (by have := S3.ln; omega)]; exact z)
end
end T

namespace T
open PySem L2

section
variable {X : Cx} {e : Ent} {pos : Pos}
/-! ### texts -/
def strsOf : List D → Option (List Str)
  | [] => some []
  | .str s :: r => (strsOf r).map (s :: ·)
  | _ :: _ => none
theorem strsOf_ok : ∀ {ds : List D} {ss : List Str}, strsOf ds = some ss → ds = ss.map D.str
  | [], ss, h => by cases h; rfl
  | d :: r, ss, h => by
    cases d with
    | str s =>
      rw [strsOf] at h
      cases hr : strsOf r with
      | none => rw [hr] at h; cases h
      | some rs =>
        rw [hr] at h
        cases h
        rw [List.map_cons, ← strsOf_ok hr]
    | _ => cases h
theorem strsOf_map : ∀ ss : List Str, strsOf (ss.map D.str) = some ss
  | [] => rfl
  | s :: r => by rw [List.map_cons, strsOf, strsOf_map r]; rfl
theorem sOk_join {sep : Str} (hs : sOk sep) : ∀ {ss : List Str}, (∀ s ∈ ss, sOk s) → sOk (Str.join sep ss)
  | [], _ => by intro c hc; simp [Str.join, Str.empty] at hc
  | [x], h => h x List.mem_cons_self
  | x :: y :: r, h => sOk_append (sOk_append (h x List.mem_cons_self) hs) (sOk_join hs fun s hs' => h s (List.mem_cons_of_mem _ hs'))
def joinD (sep : Str) : D → (D → Prop) → Prop
  | .lst ds, Q => (match strsOf ds with | some ss => (ss.map (·.length)).sum + ss.length * sep.length ≤ 16777216 ∧ Q (.str (Str.join sep ss)) | none => False)
  | .tup ds, Q => (match strsOf ds with | some ss => (ss.map (·.length)).sum + ss.length * sep.length ≤ 16777216 ∧ Q (.str (Str.join sep ss)) | none => False)
  | _, _ => False
def dJoin (t u : TDE) : TDE := fun δ Q => t δ fun x δ1 => match x with | .str sep => u δ1 fun y δ2 => joinD sep y fun z => Q z δ2 | _ => False
theorem Rep.strI {K : PySem.W.Frag} {G : Gh} {v : V} {b : Str} (r : Rep K G v (.str b)) : v = .str b ∧ sOk b := by cases r with | str h => exact ⟨rfl, h⟩
theorem joinD_ok {sep : Str} {d : D} {Q : D → Prop} (q : joinD sep d Q) : ∃ ss, (d = .lst (ss.map D.str) ∨ d = .tup (ss.map D.str)) ∧ (ss.map (·.length)).sum + ss.length * sep.length ≤ 16777216 ∧ Q (.str (Str.join sep ss)) := by
  cases d with
  | lst ds =>
    have q1 : (match strsOf ds with | some ss => (ss.map (·.length)).sum + ss.length * sep.length ≤ 16777216 ∧ Q (.str (Str.join sep ss)) | none => False) := q
    cases hss : strsOf ds with
    | none => rw [hss] at q1; exact q1.elim
    | some ss => rw [hss] at q1; exact ⟨ss, .inl (by rw [← strsOf_ok hss]), q1⟩
  | tup ds =>
    have q1 : (match strsOf ds with | some ss => (ss.map (·.length)).sum + ss.length * sep.length ≤ 16777216 ∧ Q (.str (Str.join sep ss)) | none => False) := q
    cases hss : strsOf ds with
    | none => rw [hss] at q1; exact q1.elim
    | some ss => rw [hss] at q1; exact ⟨ss, .inr (by rw [← strsOf_ok hss]), q1⟩
  | _ => exact False.elim q
theorem de_join {o a : Expr} {t u : TDE} {apos : Pos} (ho : DE X e o t) (ha : DE X e a u) (hs : starEach [a] X.env = [(false, eval a X.env)] := by rfl) (hbase : attributeBase o "join" X.env (eval o X.env) = eval o X.env := by rfl) (hline : (apos.endLine == pos.line) = true := by rfl) :
    DE X e (.Call (.Attribute o "join" apos) [a] [] pos) (dJoin t u) :=
  pe_imp (pe_join ho ha hs hbase hline) fun σ H Q ⟨T, G, δ, Qd, S, q, k⟩ => ⟨T, G, δ, _, S, q, fun v d H1 G1 δ1 S1 st1 r1 q1 => by
    cases d with
    | str sep =>
      obtain ⟨e1, o1⟩ := r1.strI
      subst e1
      refine ⟨⟨sep, rfl⟩, T, G1, δ1, _, S1, q1, fun v2 d2 H2 G2 δ2 S2 st2 r2 q2 => ?_⟩
      obtain ⟨ss, hd, hb, q3⟩ := joinD_ok q2
      rcases hd with rfl | rfl
      · obtain ⟨p, vs, rfl, hp, rl⟩ := RdO.lst (.inl r2) S2.ok
        have ev := rl.strs
        subst ev
        refine ⟨sep, p, ss, rfl, rfl, .inl (.inl (.inl hp)), hb, ?_⟩
        rw [TL.join_eq]
        exact k _ _ H2 G2 δ2 S2 (st1.trans st2) (.str (sOk_join o1 rl.okStrs)) q3
      · obtain ⟨p, vs, rfl, hp, rl⟩ := RdO.tup (.inl r2) S2.ok
        have ev := rl.strs
        subst ev
        refine ⟨sep, p, ss, rfl, rfl, .inr hp, hb, ?_⟩
        rw [TL.join_eq]
        exact k _ _ H2 G2 δ2 S2 (st1.trans st2) (.str (sOk_join o1 rl.okStrs)) q3
    | _ => exact False.elim q1⟩
/-- 'a b c'.split(' '), both written -/
theorem de_splitW {a b : Str} {ws : List Str} {j1 j2 : Nat} {p1 p2 apos : Pos} (h : Txt.split a b = ws) (hok : ∀ w ∈ ws, sOk w) (hb : (b.length == 0) = false) (hl : a.length + 2 ≤ sizeLine)
    (hs : starEach [Expr.Constant (.str b) j2 p2] X.env = [(false, eval (Expr.Constant (.str b) j2 p2) X.env)] := by rfl) (hbase : attributeBase (Expr.Constant (.str a) j1 p1) "split" X.env (eval (Expr.Constant (.str a) j1 p1) X.env) = eval (Expr.Constant (.str a) j1 p1) X.env := by rfl) (hline : (apos.endLine == pos.line) = true := by rfl) :
    DO X e (.Call (.Attribute (.Constant (.str a) j1 p1) "split" apos) [.Constant (.str b) j2 p2] [] pos) (dC (.lst (ws.map D.str))) :=
  pe_imp (pe_split pe_str pe_str hs hbase hline) fun σ H Q ⟨T, G, δ, Qd, S, q, k⟩ => ⟨⟨a, rfl⟩, a, b, rfl, rfl, hb, hl, fun p hp => by
    rw [h]
    obtain ⟨S2, st2, nI, nB, new, ap⟩ := S.new (o := .lst (ws.map V.str)) hp
    exact k p (.lst (ws.map D.str)) _ G δ S2 st2 ⟨⟨_, upd_same, .ofStrs ws hok⟩, nI, nB, new⟩ ap q⟩
/-! ### l[::-1] -/
def revD : D → (D → Prop) → Prop
  | .lst ds, Q => Q (.lst ds.reverse)
  | _, _ => False
theorem do_rev {a : Expr} {A : Opn} {k : Nat} {p1 p2 p3 : Pos} (ha : OPN X e a A) : DO X e (.Subscript a (.Slice none none (some (.UnaryOp .USub (.Constant (.int 1) k p1) p2)) p3) pos) (dB1 revD A) := by
  have key : ∀ (T : Tm) (G : Gh) (H : Hp) (σ : St) (δ : DSt) (x : V) (a : D) (Qd : D → Prop) (Q : VK), SS X.K e T G H σ δ → RdO X.K G H x a → revD a Qd →
      (∀ l d H', SS X.K e T G H' σ δ → Step e G H G H' → Mine X.K e G H' l d → Apart σ δ T l → Qd d → Q (.ref l) H') → ∃ p ys, x = V.ref p ∧ SqL X.K H p ys ∧ ∀ l, H l = none → Q (.ref l) (upd H l (.lst ys.reverse)) := by
    intro T G H σ δ x a Qd Q S ra q k
    cases a with
    | lst ds =>
      obtain ⟨p, vs, rfl, hp, r⟩ := ra.lst S.ok
      refine ⟨p, vs, rfl, .inl (.inl hp), fun l hl => ?_⟩
      obtain ⟨S2, st2, nI, nB, new, ap⟩ := S.new (o := .lst vs.reverse) hl
      exact k l (.lst ds.reverse) _ S2 st2 ⟨⟨_, upd_same, r.reverse⟩, nI, nB, new⟩ ap q
    | _ => exact False.elim q
  cases A with
  | ex t =>
    refine pe_imp (pe_revL ha) fun σ H Q ⟨T, G, δ, Qd, S, q, k⟩ => ?_
    exact ⟨T, G, δ, _, S, q, fun v d H1 G1 δ1 S1 st1 rd q1 => key T G1 H1 σ δ1 v d _ Q S1 (.inl rd) q1 fun l d H' S' st' m ap qd => k l d H' G1 δ1 S' (st1.trans st') m ap qd⟩
  | sl i =>
    refine pe_imp (pe_revL ha) fun σ H Q ⟨T, G, δ, Qd, S, q, k⟩ => ?_
    have q : (match rdS δ i with | some d => revD d (fun z => Qd z δ) | none => False) := q
    cases hi : rdS δ i with
    | none => rw [hi] at q; exact q.elim
    | some d =>
      rw [hi] at q
      obtain ⟨v, hv, rd⟩ := rdS_ok S hi
      exact ⟨v, hv, key T G H σ δ v d _ Q S rd q fun l d H' S' st' m ap qd => k l d H' G δ S' st' m ap qd⟩
end
end T

namespace T
open PySem L2

section
variable {X : Cx} {e : Ent} {pos : Pos}
def Tm.app (T : Tm) (vs : List V) (ss : List Sl) : Tm := ⟨T.v ++ vs.map some, T.d ++ ss⟩
theorem Tm.app_app (T : Tm) (a b : List V) (c d : List Sl) : (T.app a c).app b d = T.app (a ++ b) (c ++ d) := by simp [Tm.app]
theorem ap_mid {α : Type} (σ tv rv : List α) (x : α) : (σ ++ (tv ++ x :: rv))[σ.length + tv.length]? = some x := by
  rw [List.getElem?_append_right (by omega)]
  have : σ.length + tv.length - σ.length = tv.length := by omega
  rw [this, List.getElem?_append_right (by omega), Nat.sub_self]; rfl
theorem ap_lo {α : Type} (σ tv w w' : List α) {j : Nat} (h : j < σ.length + tv.length) : (σ ++ (tv ++ w))[j]? = (σ ++ (tv ++ w'))[j]? := by
  have A : ∀ w : List α, (σ ++ (tv ++ w))[j]? = (σ ++ tv)[j]? := fun w => by
    rw [← List.append_assoc]
    exact List.getElem?_append_left (by simpa using h)
  rw [A w, A w']
theorem ap_hi {α : Type} (σ tv rv : List α) (x : α) {j : Nat} (h : ¬ j < σ.length + tv.length) : (σ ++ (tv ++ x :: rv))[j + 1]? = (σ ++ (tv ++ rv))[j]? := by
  have A : ∀ (w : List α) (n : Nat), (σ ++ (tv ++ w))[σ.length + tv.length + n]? = w[n]? := fun w n => by
    rw [← List.append_assoc, List.getElem?_append_right (by simp)]
    congr 1
    simp
  have e1 : j + 1 = σ.length + tv.length + ((j - σ.length - tv.length) + 1) := by omega
  have e2 : j = σ.length + tv.length + (j - σ.length - tv.length) := by omega
  rw [e1, A]
  conv => rhs; rw [e2]
  rw [A]; rfl
theorem ap_set {α : Type} (σ w : List α) (y : α) {i j : Nat} (h : j ≠ i) : (σ.set i y ++ w)[j]? = (σ ++ w)[j]? := by
  by_cases h3 : j < σ.length
  · rw [List.getElem?_append_left (by rw [List.length_set]; exact h3), List.getElem?_append_left h3, List.getElem?_set_ne (Ne.symm h)]
  · rw [List.getElem?_append_right (by rw [List.length_set]; omega), List.getElem?_append_right (by omega), List.length_set]
theorem ap_self {α : Type} (σ w : List α) (y : α) {i : Nat} (h : i < σ.length) : (σ.set i y ++ w)[i]? = some y := by
  rw [List.getElem?_append_left (by rw [List.length_set]; exact h), List.getElem?_set_self h]
/-- the first of what is held goes into a slot -/
theorem SS.take1 {K : PySem.W.Frag} {G : Gh} {H : Hp} {σ : St} {δ : DSt} {tv rv : St} {td rd : DSt} {v : V} {s : Sl} {i : Nat} (htl : tv.length = td.length) (S : SS K e ⟨tv ++ some v :: rv, td ++ s :: rd⟩ G H σ δ) : SS K e ⟨tv ++ rv, td ++ rd⟩ G H (σ.set i (some v)) (δ.set i s) := by
  have hln := S.ln
  have hlen := S.s.len
  simp only [List.length_append, List.length_cons] at hlen
  have hn : σ.length + tv.length = δ.length + td.length := by omega
  let π : Nat → Nat := fun j => if j = i ∧ i < δ.length then δ.length + td.length else if j < δ.length + td.length then j else j + 1
  have C : ∀ {α : Type} (a b c : List α) (x : α), a.length = δ.length → a.length + b.length = δ.length + td.length → ∀ j, ((a.set i x) ++ (b ++ c))[j]? = (a ++ (b ++ x :: c))[π j]? := fun a b c x h0 h j => by
    show _ = (a ++ (b ++ x :: c))[if j = i ∧ i < δ.length then δ.length + td.length else if j < δ.length + td.length then j else j + 1]?
    by_cases h1 : j = i ∧ i < δ.length
    · rw [if_pos h1, h1.1, ap_self a _ x (by omega), ← h, ap_mid]
    · rw [if_neg h1]
      have e0 : (a.set i x ++ (b ++ c))[j]? = (a ++ (b ++ c))[j]? := by
        by_cases h2 : j = i
        · rw [List.set_eq_of_length_le (by omega)]
        · exact ap_set _ _ _ h2
      rw [e0]
      by_cases h2 : j < δ.length + td.length
      · rw [if_pos h2]
        exact ap_lo _ _ _ _ (by omega)
      · rw [if_neg h2]
        exact (ap_hi _ _ _ _ (by omega)).symm
  have A := C σ tv rv (some v) hln.symm hn
  have B := C δ td rd s rfl rfl
  have inj : ∀ a b, π a = π b → a = b := fun a b h => by
    have h : (if a = i ∧ i < δ.length then δ.length + td.length else if a < δ.length + td.length then a else a + 1) = (if b = i ∧ i < δ.length then δ.length + td.length else if b < δ.length + td.length then b else b + 1) := h
    by_cases a1 : a = i ∧ i < δ.length
    · by_cases b1 : b = i ∧ i < δ.length
      · omega
      · rw [if_pos a1, if_neg b1] at h
        split at h <;> omega
    · by_cases b1 : b = i ∧ i < δ.length
      · rw [if_neg a1, if_pos b1] at h
        split at h <;> omega
      · rw [if_neg a1, if_neg b1] at h
        split at h <;> split at h <;> omega
  refine ⟨by rw [List.length_set, List.length_set]; exact S.ln, S.ok, S.stp, by simp only [List.length_append, List.length_set]; omega, fun j x q => ?_, fun a b da db l hab qa qb xa xb => ?_⟩
  · rw [A j]
    exact S.s.sl (π j) x (by rw [← B j]; exact q)
  · exact S.s.sep (π a) (π b) da db l (fun z => hab (inj a b z)) (by rw [← B a]; exact qa) (by rw [← B b]; exact qb) (by rw [← A a]; exact xa) (by rw [← A b]; exact xb)
def setS : List Nat → List V → St → St
  | i :: is, v :: vs, σ => setS is vs (σ.set i (some v))
  | _, _, σ => σ
def setD : List Nat → List Sl → DSt → DSt
  | i :: is, s :: ss, δ => setD is ss (δ.set i s)
  | _, _, δ => δ
theorem SS.takes {K : PySem.W.Frag} {T : Tm} {G : Gh} {H : Hp} (htl : T.v.length = T.d.length) : ∀ {is : List Nat} {vs : List V} {ss : List Sl} {σ : St} {δ : DSt}, is.length = vs.length → vs.length = ss.length → SS K e (T.app vs ss) G H σ δ → SS K e T G H (setS is vs σ) (setD is ss δ)
  | [], [], [], σ, δ, _, _, S => by simpa [Tm.app, setS, setD] using S
  | i :: is, v :: vs, s :: ss, σ, δ, h1, h2, S => by
    have S1 : SS K e ⟨T.v ++ some v :: vs.map some, T.d ++ s :: ss⟩ G H σ δ := by simpa [Tm.app] using S
    have S2 := S1.take1 (i := i) htl
    exact SS.takes (is := is) (vs := vs) (ss := ss) htl (by simpa using h1) (by simpa using h2) S2
theorem SS.holdI {K : PySem.W.Frag} {T : Tm} {G : Gh} {H : Hp} {σ : St} {δ : DSt} {v : V} {d : D} (S : SS K e T G H σ δ) (r : Rep K G v d) : SS K e (T.app [v] [.im d]) G H σ δ := by
  have e1 : δ ++ (T.app [v] [.im d]).d = (δ ++ T.d) ++ [.im d] := by simp [Tm.app]
  have e2 : σ ++ (T.app [v] [.im d]).v = (σ ++ T.v) ++ [some v] := by simp [Tm.app]
  refine ⟨S.ln, S.ok, S.stp, ?_, fun i s hs => ?_, fun i j di dj x hij hi hj qi qj => ?_⟩
  · rw [e1, e2]
    have := S.s.len
    simp only [List.length_append] at this ⊢
    simp; omega
  · rw [e1, getElem?_snoc] at hs
    rw [e2, getElem?_snoc]
    by_cases z : i = (δ ++ T.d).length
    · rw [if_pos z] at hs
      cases hs
      rw [if_pos (by rw [S.s.len]; exact z)]
      exact ⟨_, rfl, v, rfl, r⟩
    · rw [if_neg z] at hs
      rw [if_neg (by rw [S.s.len]; exact z)]
      exact S.s.sl i s hs
  · rw [e1, getElem?_snoc] at hi hj
    rw [e2, getElem?_snoc] at qi qj
    rw [S.s.len] at qi qj
    by_cases zi : i = (δ ++ T.d).length
    · rw [if_pos zi] at hi; cases hi
    · by_cases zj : j = (δ ++ T.d).length
      · rw [if_pos zj] at hj; cases hj
      · rw [if_neg zi] at hi qi
        rw [if_neg zj] at hj qj
        exact S.s.sep i j di dj x hij hi hj qi qj
def dEvs : List Ev → DSt → (List Sl → DSt → Prop) → Prop
  | [], δ, Q => Q [] δ
  | .im t :: r, δ, Q => t δ fun d δ1 => dEvs r δ1 fun ss δ2 => Q (.im d :: ss) δ2
  | .ow t :: r, δ, Q => t δ fun d δ1 => dEvs r δ1 fun ss δ2 => Q (.ow d :: ss) δ2
def liftE (K : PySem.W.Frag) (e : Ent) (n : Nat) (l : List Ev) : TA := fun σ H Q => ∃ (T : Tm) (G : Gh) (δ : DSt) (Qd : List Sl → DSt → Prop), SS K e T G H σ δ ∧ dEvs l δ Qd ∧
  ∀ vs ss H' G' δ', SS K e (T.app vs ss) G' H' σ δ' → Step e G H G' H' → vs.length = n → ss.length = n → Qd ss δ' → Q vs H'
theorem ea_nil : PA X [] (liftE X.K e 0 []) := pa_imp pa_nil fun σ H Q ⟨T, G, δ, Qd, S, q, k⟩ => k [] [] H G δ (by simpa [Tm.app] using S) Step.refl rfl rfl q
theorem ea_cons {a : Expr} {es : List Expr} {v : Ev} {l : List Ev} {n : Nat} (h : evPE X e a v) (hr : PA X es (liftE X.K e n l)) (hs : starEach (a :: es) X.env = (false, eval a X.env) :: starEach es X.env := by rfl) : PA X (a :: es) (liftE X.K e (n + 1) (v :: l)) := by
  cases v with
  | im t =>
    refine pa_imp (pa_cons h hr hs) fun σ H Q ⟨T, G, δ, Qd, S, q, k⟩ => ?_
    refine ⟨T, G, δ, _, S, q, fun v d H1 G1 δ1 S1 st1 r1 q1 => ⟨_, G1, δ1, _, S1.holdI r1, q1, fun vs ss H2 G2 δ2 S2 st2 h1 h2 q2 => ?_⟩⟩
    rw [Tm.app_app] at S2
    exact k (v :: vs) (.im d :: ss) H2 G2 δ2 S2 (st1.trans st2) (by simp [h1]) (by simp [h2]) q2
  | ow t =>
    refine pa_imp (pa_cons h hr hs) fun σ H Q ⟨T, G, δ, Qd, S, q, k⟩ => ?_
    refine ⟨T, G, δ, _, S, q, fun l d H1 G1 δ1 S1 st1 m1 ap1 q1 => ⟨_, G1, δ1, _, S1.hold m1 ap1, q1, fun vs ss H2 G2 δ2 S2 st2 h1 h2 q2 => ?_⟩⟩
    have e1 : T.push l d = T.app [.ref l] [.ow d] := by simp [Tm.push, Tm.app]
    rw [e1, Tm.app_app] at S2
    exact k (.ref l :: vs) (.ow d :: ss) H2 G2 δ2 S2 (st1.trans st2) (by simp [h1]) (by simp [h2]) q2
def dPars (l : List Ev) (is : List Nat) : TDS := fun F δ => dEvs l δ fun ss δ1 => F.nx (setD is ss δ1)
/-- names = a tuple display, the stores swapped (no tuple is made) -/
theorem ds_par2 {i j : Nat} {x y : Str} {a b : Expr} {A B : Ev} {px py pt : Pos} {kt k2 pt2} (hc : X.calm = true) (hN : X.N.Nodup) (hi : X.N[i]? = some x) (hj : X.N[j]? = some y) (hij : i ≠ j)
    (hx : X.env.scope.names.lookup x = some .local) (hy : X.env.scope.names.lookup y = some .local) (ha : PA X [a, b] (liftE X.K e 2 [A, B]))
    (hw : swappedStores [.Tuple [.Name x px, .Name y py] kt pt] (.Tuple [a, b] k2 pt2) X.env = pure (some [x, y]))
    (hs : swapsWithSole [.Tuple [.Name x px, .Name y py] kt pt] (.Tuple [a, b] k2 pt2) pos.line X.env = pure false := by rfl) :
    DS X e (.Assign [.Tuple [.Name x px, .Name y py] kt pt] (.Tuple [a, b] k2 pt2) pos) (dPars [A, B] [i, j]) :=
  ps_imp (ps_par hc hN hi hj hij hx hy ha hw hs) fun E σ H ⟨G, δ, F, S, q, n, r, b, c⟩ => ⟨.nil, G, δ, _, S, q, fun vs ss H' G' δ' S' st h1 h2 q' => by
    match vs, ss, h1, h2 with
    | [v, w], [s1, s2], _, _ => exact ⟨v, w, rfl, n _ _ G' H' st.le (S'.takes (is := [i, j]) rfl rfl rfl) q'⟩⟩
theorem ds_par3 {i j l : Nat} {x y z : Str} {a b c : Expr} {A B C : Ev} {px py pz pt : Pos} {kt k2 pt2} (hc : X.calm = true) (hN : X.N.Nodup) (hi : X.N[i]? = some x) (hj : X.N[j]? = some y) (hl : X.N[l]? = some z) (hij : i ≠ j) (hil : i ≠ l) (hjl : j ≠ l)
    (hx : X.env.scope.names.lookup x = some .local) (hy : X.env.scope.names.lookup y = some .local) (hz : X.env.scope.names.lookup z = some .local) (ha : PA X [a, b, c] (liftE X.K e 3 [A, B, C]))
    (hw : swappedStores [.Tuple [.Name x px, .Name y py, .Name z pz] kt pt] (.Tuple [a, b, c] k2 pt2) X.env = pure (some [x, y, z]))
    (hs : swapsWithSole [.Tuple [.Name x px, .Name y py, .Name z pz] kt pt] (.Tuple [a, b, c] k2 pt2) pos.line X.env = pure false := by rfl) :
    DS X e (.Assign [.Tuple [.Name x px, .Name y py, .Name z pz] kt pt] (.Tuple [a, b, c] k2 pt2) pos) (dPars [A, B, C] [i, j, l]) :=
  ps_imp (L2.ps_par3 hc hN hi hj hl hij hil hjl hx hy hz ha hw hs) fun E σ H ⟨G, δ, F, S, q, n, r, b, c⟩ => ⟨.nil, G, δ, _, S, q, fun vs ss H' G' δ' S' st h1 h2 q' => by
    match vs, ss, h1, h2 with
    | [v, w, u], [s1, s2, s3], _, _ => exact ⟨v, w, u, rfl, n _ _ G' H' st.le (S'.takes (is := [i, j, l]) rfl rfl rfl) q'⟩⟩
/-- .. a tuple is made and taken apart -/
inductive Nms (X : Cx) : List Expr → List Nat → TGs → Prop
  | nil : Nms X [] [] gNil
  | cons {x : Str} {p : Pos} {i : Nat} {es : List Expr} {is : List Nat} {t : TGs} (h : PG X (.Name x p) (gName i)) (r : Nms X es is t) : Nms X (.Name x p :: es) (i :: is) (gCons (gName i) t)
theorem nms_run : ∀ {es : List Expr} {is : List Nat} {t : TGs}, Nms X es is t → ∀ (vs : List V) (σ : St) (H : Hp) (Q : St → Hp → Prop), vs.length = is.length → Q (setS is vs σ) H → t vs σ H Q
  | _, _, _, .nil, [], σ, H, Q, _, q => ⟨rfl, q⟩
  | _, _, _, .cons h r, v :: vs, σ, H, Q, hl, q => ⟨v, vs, rfl, nms_run r vs _ H Q (by simpa using hl) q⟩
theorem nms_pgs : ∀ {es : List Expr} {is : List Nat} {t : TGs}, Nms X es is t → PGs X es t
  | _, _, _, .nil => pgs_nil
  | _, _, _, .cons h r => pgs_cons h (nms_pgs r)
theorem ds_parT {tgs es : List Expr} {is : List Nat} {t : TGs} {l : List Ev} {kt k2 : Nat} {pt pt2 : Pos} {n : Nat} (hc : X.calm = true) (hn : Nms X tgs is t) (ha : PA X es (liftE X.K e n l)) (hnl : is.length = n) (hz : n ≤ 1000)
    (hn1 : (assignEach tgs X.env).length = n := by rfl) (hst : (assignEach tgs X.env).findIdx? (·.1) = none := by rfl)
    (hs : swapsWithSole [.Tuple tgs kt pt] (.Tuple es k2 pt2) pos.line X.env = pure false := by rfl) (hw : swappedStores [.Tuple tgs kt pt] (.Tuple es k2 pt2) X.env = pure none := by rfl)
    (h1 : (assignEach [Expr.Tuple tgs kt pt] X.env).map (·.2) = [assign (Expr.Tuple tgs kt pt) X.env] := by rfl) : DS X e (.Assign [.Tuple tgs kt pt] (.Tuple es k2 pt2) pos) (dPars l is) :=
  ps_imp (ps_asg (pe_tup ha) (pg_tup hc (nms_pgs hn) hn1 hst) hs hw h1) fun E σ H ⟨G, δ, F, S, q, nx, r, b, c⟩ => by
    refine ⟨.nil, G, δ, _, S, q, fun vs ss H' G' δ' S' st h1 h2 q' => ⟨by rw [h1]; exact le_line hz, fun p hp => ⟨p, vs, rfl, .inl (.inl upd_same), h1, nms_run hn vs σ _ _ (by rw [h1, hnl]) ?_⟩⟩⟩
    obtain ⟨S2, st2, _⟩ := S'.new (o := .tup vs) hp
    exact nx _ _ G' _ st.le (S2.takes (is := is) rfl (by rw [hnl, h1]) (by rw [h1, h2])) q'
end
end T

namespace T
open PySem L2

section
variable {X : Cx} {e : Ent} {pos : Pos}
theorem GOk.ag {G : Gh} {H : Hp} (k : GOk G H) {a g : Addr} (h : G.B a = some g) : a ≠ g := (k.sep a g a g h h).1
/-- a box that stands has changed -/
theorem SS.boxUpd {K : PySem.W.Frag} {T : Tm} {G : Gh} {H H' : Hp} {σ : St} {δ : DSt} {a g : Addr} (S : SS K e T G H σ δ) (hb : G.B a = some g) (ho : ∀ x, x ≠ a → x ≠ g → H' x = H x) (hn : BoxAt H' a g) : SS K e T G H' σ δ ∧ Step e G H G H' := by
  have fa : foot G a := .inl ⟨g, hb⟩
  have fg : foot G g := .inr ⟨a, hb⟩
  have inE : ∀ x, foot G x → (e.H x).isSome = true → foot e.G x := fun x f s => Classical.byContradiction fun n => S.stp.noB x s n f
  have st : Step e G H G H' := ⟨Le.refl _, fun x s n => ho x (fun z => n (inE x (z ▸ fa) s)) (fun z => n (inE x (z ▸ fg) s)), fun _ _ h => h, fun _ _ h => h, fun x s h => by
    by_cases h1 : x = a
    · subst h1; obtain ⟨_, _, _, _, q, _⟩ := hn.at_; rw [q]; rfl
    · by_cases h2 : x = g
      · subst h2; obtain ⟨_, _, _, _, _, q, _⟩ := hn.at_; rw [q]; rfl
      · rw [ho x h1 h2]; exact h⟩
  have ok : GOk G H' := by
    refine ⟨fun x o q => ?_, fun a' g' h => ?_, S.ok.sep⟩
    · have := (S.ok.box a g hb).2
      rw [ho x (fun z => by subst z; rw [this.1] at q; cases q) (fun z => by subst z; rw [this.2] at q; cases q)]
      exact S.ok.sub x o q
    · refine ⟨?_, (S.ok.box a' g' h).2⟩
      by_cases z : a' = a
      · subst z
        rw [h] at hb; cases hb
        exact hn
      · have s1 := S.ok.sep a g a' g' hb h
        have s2 := S.ok.sep a' g' a g h hb
        exact (S.ok.box a' g' h).1.keep (ho a' z s2.1) (ho g' (Ne.symm s1.1) (fun y => z (s2.2 y)))
  refine ⟨⟨S.ln, ok, S.stp.trans st, S.s.len, fun i s hs => ?_, S.s.sep⟩, st⟩
  obtain ⟨o, h1, h2⟩ := S.s.sl i s hs
  refine ⟨o, h1, ?_⟩
  cases s with
  | no => exact h2
  | im d => exact h2
  | ow d =>
    obtain ⟨l, rfl, m⟩ := h2
    exact ⟨l, rfl, m.own.mono (Le.refl _) (ho l (fun z => m.nB (z ▸ fa)) (fun z => m.nB (z ▸ fg))), m.nI, m.nB, m.new⟩
theorem RdO.box {K : PySem.W.Frag} {G : Gh} {H : Hp} {v : V} {a : Addr} (r : RdO K G H v (.box a)) : v = .ref a ∧ ∃ g, G.B a = some g := by
  rcases r with r | ⟨l, rfl, r⟩
  · cases r with | box h => exact ⟨rfl, _, h⟩
  · exact r.elim
/-- what a box holds -/
def boxK : List Str := ["now", "seed", "turn"]
def ixB : D → D → (D → Prop) → Prop
  | .box _, .str s, Q => s ∈ boxK ∧ ∀ n : Int, 0 ≤ n → Q (.int n)
  | _, _, _ => False
theorem valBox {g : Addr} {n s t : Int} : valV (boxKv g n s t) (.inr "great") = some (.ref g) ∧ valV (boxKv g n s t) (.inr "now") = some (.int n) ∧ valV (boxKv g n s t) (.inr "seed") = some (.int s) ∧ valV (boxKv g n s t) (.inr "turn") = some (.int t) :=
  ⟨rfl, rfl, rfl, rfl⟩
theorem opd_ixB {k0 : Nat} (hr : Room k0 X.A) : OpD X e (WIx X) ixB := by
  intro T G H σ δ x y a b Qd Q S ra rb q k
  cases a with
  | box a =>
    cases b with
    | str s =>
      obtain ⟨rfl, g, hb⟩ := ra.box
      obtain ⟨e2, _⟩ := rb.str
      subst e2
      obtain ⟨gs, n, sd, t, h1, h2, h3, h4, h5, h6, h7⟩ := (S.ok.box a g hb).1.at_
      have v := valBox (g := g) (n := n) (s := sd) (t := t)
      have q1 : s = "now" ∨ s = "seed" ∨ s = "turn" := by simpa [boxK] using q.1
      rcases q1 with rfl | rfl | rfl
      · exact wix_of (ix_dict (hu_of hr)) ⟨a, .int n, rfl, .inl ⟨_, .inr "now", .inl h1, rfl, v.2.1.symm⟩, k _ _ H G S Step.refl (.int n) (q.2 n h4)⟩
      · exact wix_of (ix_dict (hu_of hr)) ⟨a, .int sd, rfl, .inl ⟨_, .inr "seed", .inl h1, rfl, v.2.2.1.symm⟩, k _ _ H G S Step.refl (.int sd) (q.2 sd h5)⟩
      · exact wix_of (ix_dict (hu_of hr)) ⟨a, .int t, rfl, .inl ⟨_, .inr "turn", .inl h1, rfl, v.2.2.2.symm⟩, k _ _ H G S Step.refl (.int t) (q.2 t h6)⟩
    | _ => exact False.elim q
  | _ => exact False.elim q
theorem de_ixB {a b : Expr} {A B : Opn} {k0 : Nat} (hr : Room k0 X.A) (ha : OPN X e a A) (hb : OPN X e b B) (hs : PlainIx b := by exact fun _ _ => rfl) : DE X e (.Subscript a b pos) (dBin ixB A B) :=
  two_ok ha hb (f := fun ta tb => tOp (WIx X) ta tb) (fun ta tb h1 h2 => pe_ix wix_self h1 h2 hs) (fun _ _ _ _ _ => rfl) (opd_ixB hr)
def put4 (key : Str) (n : Int) (g : Addr) (a b c : Int) : List (Key × V) := if key = "now" then boxKv g n b c else if key = "seed" then boxKv g a n c else boxKv g a b n
theorem putBox {g : Addr} {a b c n : Int} : putK (boxKv g a b c) (.inr "now") (.int n) = boxKv g n b c ∧ putK (boxKv g a b c) (.inr "seed") (.int n) = boxKv g a n c ∧ putK (boxKv g a b c) (.inr "turn") (.int n) = boxKv g a b n :=
  ⟨rfl, rfl, rfl⟩
def dgBox (i : Nat) (key : Str) : TDG := fun d δ Q => match rdS δ i with | some (.box _) => (match d with | .int n => 0 ≤ n ∧ Q δ | _ => False) | _ => False
theorem dg_box {o : Expr} {i j k0 : Nat} {key : Str} {p2 : Pos} (hr : Room k0 X.A) (ho : PE X o (tVar i)) (hk : key ∈ boxK)
    (ha : ∀ v, assign (.Subscript o (.Constant (.str key) j p2) pos) X.env v = (do
      let ov ← holding [v] (eval o X.env)
      let iv ← holding [v, ov] (eval (.Constant (.str key) j p2) X.env)
      standAt pos
      holding [v, ov, iv] (setItem ov iv v)
      release [v, ov, iv] []) := by intro _; rfl) : DG X e (.Subscript o (.Constant (.str key) j p2) pos) [] (dgBox i key) :=
  pg_imp (pg_sub ho pe_str (set_dict (hu_of hr)) ha) fun v σ H Q ⟨T, G, δ, d, Qd, S, r, q, k⟩ => by
    unfold dgBox at q
    cases hi : rdS δ i with
    | none => rw [hi] at q; exact q.elim
    | some d0 =>
      rw [hi] at q
      cases d0 with
      | box a =>
        cases d with
        | int n =>
          obtain ⟨w, hw, rw'⟩ := rdS_ok S hi
          obtain ⟨rfl, g, hb⟩ := rw'.box
          have hv := r.intI
          subst hv
          obtain ⟨gs, nw, sd, t, h1, h2, h3, h4, h5, h6, h7⟩ := (S.ok.box a g hb).1.at_
          have hag := S.ok.ag hb
          have pb := putBox (g := g) (a := nw) (b := sd) (c := t) (n := n)
          have fin : ∀ kvs', BoxAt (L2.upd H a (.dK kvs')) a g → putK (boxKv g nw sd t) (.inr key) (.int n) = kvs' → gSub (tVar i) (tC (.str key)) rSetD (.int n) σ H Q := fun kvs' hB hp => by
            obtain ⟨S2, st2⟩ := S.boxUpd hb (H' := L2.upd H a (.dK kvs')) (fun x hx _ => upd_ne hx) hB
            refine ⟨_, hw, a, _, rfl, .inl ⟨_, .inr key, h1, rfl, by show (4 : Nat) < _; rw [sizeLine_eq]; decide, rfl⟩, ?_⟩
            rw [hp]
            exact k σ δ G _ S2 st2 Only1.refl q.2
          have q1 : key = "now" ∨ key = "seed" ∨ key = "turn" := by simpa [boxK] using hk
          rcases q1 with rfl | rfl | rfl
          · exact fin _ ⟨gs, n, sd, t, upd_same, by rw [upd_ne (Ne.symm hag)]; exact h2, h3, q.1, h5, h6, h7⟩ pb.1
          · exact fin _ ⟨gs, nw, n, t, upd_same, by rw [upd_ne (Ne.symm hag)]; exact h2, h3, h4, q.1, h6, h7⟩ pb.2.1
          · exact fin _ ⟨gs, nw, sd, n, upd_same, by rw [upd_ne (Ne.symm hag)]; exact h2, h3, h4, h5, q.1, h7⟩ pb.2.2
        | _ => exact q.elim
      | _ => exact q.elim
def dGreat (i : Nat) : TDS := fun F δ => match rdS δ i with | some (.box _) => F.nx δ | _ => False
/-- if box['now'] == 0 and len(box['great']) > 0: box['now'] = box['great'].pop() -/
theorem ds_great {o1 o2 o3 o4 : Expr} {i k0 j1 j2 j3 j4 j5 j6 : Nat} {p1 p2 p3 p4 p5 p6 p7 p8 p9 pa pb pc pd pe pf ph : Pos} (hr : Room k0 X.A) (h1 : PE X o1 (tVar i)) (h2 : PE X o2 (tVar i)) (h3 : PE X o3 (tVar i)) (h4 : PE X o4 (tVar i))
    (hg : Gl X "len") (hm : X.mg "len" = none)
    (hs : starEach [Expr.Subscript o2 (.Constant (.str "great") j3 p5) p6] X.env = (false, eval (.Subscript o2 (.Constant (.str "great") j3 p5) p6) X.env) :: starEach [] X.env := by rfl)
    (hbase : attributeBase (.Subscript o4 (.Constant (.str "great") j6 pc) pd) "pop" X.env (eval (.Subscript o4 (.Constant (.str "great") j6 pc) pd) X.env) = eval (.Subscript o4 (.Constant (.str "great") j6 pc) pd) X.env := by rfl)
    (hline : (pe.endLine == pf.line) = true := by rfl)
    (ha : ∀ v, assign (.Subscript o3 (.Constant (.str "now") j5 pa) pb) X.env v = (do
      let ov ← holding [v] (eval o3 X.env)
      let iv ← holding [v, ov] (eval (.Constant (.str "now") j5 pa) X.env)
      standAt pb
      holding [v, ov, iv] (setItem ov iv v)
      release [v, ov, iv] []) := by intro _; rfl)
    (hs2 : swapsWithSole [.Subscript o3 (.Constant (.str "now") j5 pa) pb] (.Call (.Attribute (.Subscript o4 (.Constant (.str "great") j6 pc) pd) "pop" pe) [] [] pf) ph.line X.env = pure false := by rfl)
    (hw : swappedStores [.Subscript o3 (.Constant (.str "now") j5 pa) pb] (.Call (.Attribute (.Subscript o4 (.Constant (.str "great") j6 pc) pd) "pop" pe) [] [] pf) X.env = pure none := by rfl)
    (hx1 : (assignEach [.Subscript o3 (.Constant (.str "now") j5 pa) pb] X.env).map (·.2) = [assign (.Subscript o3 (.Constant (.str "now") j5 pa) pb) X.env] := by rfl) :
    DS X e (.If (.BoolOp .And [.Compare (.Subscript o1 (.Constant (.str "now") j1 p1) p2) [.Eq] [.Constant (.int 0) j2 p3] p4,
      .Compare (.Call (.Name "len" p7) [.Subscript o2 (.Constant (.str "great") j3 p5) p6] [] p8) [.Gt] [.Constant (.int 0) j4 p9] p4'] p9')
      [.Assign [.Subscript o3 (.Constant (.str "now") j5 pa) pb] (.Call (.Attribute (.Subscript o4 (.Constant (.str "great") j6 pc) pd) "pop" pe) [] [] pf) ph] [] pos)
      (dGreat i) := by
  have e1 := pe_ix (pos := p2) (ix_dict (hu_of hr)) h1 (pe_str (x := "now") (j := j1) (pos := p1)) (fun _ _ => rfl)
  have e2 := pe_ix (pos := p6) (ix_dict (hu_of hr)) h2 (pe_str (x := "great") (j := j3) (pos := p5)) (fun _ _ => rfl)
  have e4 := pe_ix (pos := pd) (ix_dict (hu_of hr)) h4 (pe_str (x := "great") (j := j6) (pos := pc)) (fun _ _ => rfl)
  have c1 := pt_cmpR (pos := p4) op_eq e1 (pe_int (i := 0) (j := j2) (pos := p3)) rfl
  have l2 := pe_callB (p := p7) (pos := p8) call_len hg hm PySem.boot_len (pa_cons e2 pa_nil hs) (by decide) (by decide) hs rfl
  have c2 := pt_cmpR (pos := p4') op_gt l2 (pe_int (i := 0) (j := j4) (pos := p9)) rfl
  have cc := (pw_and (pos := p9') c1 (pw_and1 c2)).pt
  have po := pe_bm0 (apos := pe) (cpos := pf) PySem.F.plainAttrs_list PySem.F.slot_list_pop PySem.F.type_list_pop mt_pop e4 hbase hline
  have as := ps_asg (pos := ph) po (pg_sub h3 (pe_str (x := "now") (j := j5) (pos := pa)) (set_dict (hu_of hr)) ha) hs2 hw hx1
  refine ps_imp (ps_if (pos := pos) cc (pss_one as) pss_nil) fun E σ H ⟨G, δ, F, S, q, n, r, b, c⟩ => ?_
  unfold dGreat at q
  cases hi : rdS δ i with
  | none => rw [hi] at q; exact q.elim
  | some d0 =>
    rw [hi] at q
    cases d0 with
    | box a =>
      obtain ⟨w, hw, rw'⟩ := rdS_ok S hi
      obtain ⟨rfl, g, hb⟩ := rw'.box
      obtain ⟨gs, nw, sd, t, k1, k2, k3, k4, k5, k6, k7⟩ := (S.ok.box a g hb).1.at_
      have hag := S.ok.ag hb
      have v := valBox (g := g) (n := nw) (s := sd) (t := t)
      have done : E.nx σ H := n σ δ G H (Le.refl _) S q
      refine ⟨_, hw, a, .int nw, rfl, .inl ⟨_, .inr "now", .inl k1, rfl, v.2.1.symm⟩, rfl, _, rfl, ?_⟩
      show if _ = true then _ else _
      split
      · refine ⟨_, hw, a, .ref g, rfl, .inl ⟨_, .inr "great", .inl k1, rfl, v.1.symm⟩, .ref g, gs.length, rfl, .inl ⟨_, .inl (.inl k2), by simp⟩, _, _, rfl, rfl, _, rfl, ?_⟩
        show if _ = true then _ else _
        split
        · rename_i _ hpos
          have hpos : 0 < gs.length := by simpa using hpos
          have hne : gs ≠ [] := by intro z; subst z; simp at hpos
          have hlast : (gs.map V.int)[(gs.map V.int).length - 1]? = some (.int (gs.getLast hne)) := by
            rw [List.length_map, List.getElem?_map, ← List.getLast?_eq_getElem?, List.getLast?_eq_some_getLast hne]; rfl
          have pb := putBox (g := g) (a := nw) (b := sd) (c := t) (n := gs.getLast hne)
          refine ⟨_, hw, a, .ref g, rfl, .inl ⟨_, .inr "great", .inl k1, rfl, v.1.symm⟩, .inl ⟨rfl, _, .inl (.inl k2)⟩, g, _, _, rfl, rfl, k2, hlast, ?_⟩
          refine ⟨_, hw, a, _, rfl, .inl ⟨_, .inr "now", by rw [upd_ne hag]; exact k1, rfl, by show (4 : Nat) < _; rw [sizeLine_eq]; decide, rfl⟩, ?_⟩
          rw [pb.1]
          obtain ⟨S2, st2⟩ := S.boxUpd hb (H' := L2.upd (L2.upd H g (.lst (gs.map V.int).dropLast)) a (.dK (boxKv g (gs.getLast hne) sd t))) (fun x h1 h2 => by rw [upd_ne h1, upd_ne h2])
            ⟨gs.dropLast, _, sd, t, upd_same, by rw [upd_ne (Ne.symm hag), upd_same, List.map_dropLast], fun x hx => k3 x (List.dropLast_subset _ hx), k3 _ (List.getLast_mem hne), k5, k6, by rw [List.length_dropLast]; omega⟩
          exact n σ δ G _ (Le.refl _) S2 q
        · exact done
      · exact done
    | _ => exact q.elim
/-- a new box -/
def Gh.bx (G : Gh) (p l : Addr) : Gh := { G with B := fun x => if x = p then some l else G.B x }
theorem foot_bx {G : Gh} {p l x : Addr} (h : foot (G.bx p l) x) : x = p ∨ x = l ∨ foot G x := by
  rcases h with ⟨g, h⟩ | ⟨a, h⟩
  · by_cases z : x = p
    · exact .inl z
    · have h : (if x = p then some l else G.B x) = some g := h
      rw [if_neg z] at h
      exact .inr (.inr (.inl ⟨g, h⟩))
  · have h : (if a = p then some l else G.B a) = some x := h
    by_cases z : a = p
    · rw [if_pos z] at h; cases h; exact .inr (.inl rfl)
    · rw [if_neg z] at h
      exact .inr (.inr (.inr ⟨a, h⟩))
theorem SS.newBox {K : PySem.W.Frag} {T : Tm} {G : Gh} {H : Hp} {σ : St} {δ : DSt} {p l : Addr} {dp : D} {gs : List Int} {s : Int} (S : SS K e T G H σ δ) (mp : Mine K e G H p dp) (ap : Apart σ δ T p) (ml : Mine K e G H l (.lst (gs.map D.int))) (al : Apart σ δ T l) (hpl : p ≠ l)
    (h0 : ∀ x ∈ gs, 0 ≤ x) (h5 : gs.length ≤ 50) (hs : 0 ≤ s) : SS K e T (G.bx p l) (L2.upd H p (.dK (boxKv l 0 s 0))) σ δ ∧ Step e G H (G.bx p l) (L2.upd H p (.dK (boxKv l 0 s 0))) := by
  have bB : ∀ a g, (G.bx p l).B a = some g → (a = p ∧ g = l) ∨ (a ≠ p ∧ g ≠ p ∧ a ≠ l ∧ g ≠ l ∧ G.B a = some g) := fun a g h => by
    have h : (if a = p then some l else G.B a) = some g := h
    by_cases z : a = p
    · rw [if_pos z] at h; cases h; exact .inl ⟨z, rfl⟩
    · rw [if_neg z] at h
      exact .inr ⟨z, fun y => mp.nB (y ▸ .inr ⟨a, h⟩), fun y => ml.nB (y ▸ .inl ⟨g, h⟩), fun y => ml.nB (y ▸ .inr ⟨a, h⟩), h⟩
  have le : Le G (G.bx p l) := ⟨Same.refl _, fun a g h => by
    show (if a = p then some l else G.B a) = some g
    have z : a ≠ p := fun z => by subst z; exact mp.nB (.inl ⟨g, h⟩)
    rw [if_neg z]
    exact h⟩
  obtain ⟨vs, hl, rl⟩ := ml.own
  have hl : H l = some (.lst (gs.map V.int)) := by rw [hl, rl.ints]
  have hBox : BoxAt (L2.upd H p (.dK (boxKv l 0 s 0))) p l := ⟨gs, 0, s, 0, upd_same, by rw [upd_ne (Ne.symm hpl)]; exact hl, h0, Int.le_refl _, hs, Int.le_refl _, h5⟩
  have ok : GOk (G.bx p l) (L2.upd H p (.dK (boxKv l 0 s 0))) := by
    refine ⟨fun x o q => ?_, fun a g h => ?_, fun a g a' g' h h' => ?_⟩
    · have q : G.I x = some o := q
      have z : x ≠ p := fun z => by rw [z, mp.nI] at q; cases q
      rw [upd_ne z]
      exact S.ok.sub x o q
    · rcases bB a g h with ⟨rfl, rfl⟩ | ⟨n1, n2, n3, n4, h⟩
      · exact ⟨hBox, mp.nI, ml.nI⟩
      · exact ⟨(S.ok.box a g h).1.keep (upd_ne n1) (upd_ne n2), (S.ok.box a g h).2⟩
    · rcases bB a g h with ⟨rfl, rfl⟩ | ⟨n1, n2, n3, n4, h⟩
      · rcases bB a' g' h' with ⟨rfl, rfl⟩ | ⟨m1, m2, m3, m4, h'⟩
        · exact ⟨hpl, fun _ => rfl⟩
        · exact ⟨Ne.symm m2, fun z => absurd z.symm m4⟩
      · rcases bB a' g' h' with ⟨rfl, rfl⟩ | ⟨m1, m2, m3, m4, h'⟩
        · exact ⟨n3, fun z => absurd z n4⟩
        · exact S.ok.sep a g a' g' h h'
  have st : Step e G H (G.bx p l) (L2.upd H p (.dK (boxKv l 0 s 0))) := by
    have z : ∀ x, (e.H x).isSome = true → x ≠ p := fun x h z => by rw [z, mp.new] at h; cases h
    refine ⟨le, fun x h _ => upd_ne (z x h), fun _ _ h => h, fun x h n f => ?_, fun x h q => by rw [upd_ne (z x h)]; exact q⟩
    rcases foot_bx f with y | y | f
    · exact z x h y
    · rw [y, ml.new] at h; cases h
    · exact n f
  refine ⟨⟨S.ln, ok, S.stp.trans st, S.s.len, fun i s' hs' => ?_, S.s.sep⟩, st⟩
  obtain ⟨o, h1, h2⟩ := S.s.sl i s' hs'
  refine ⟨o, h1, ?_⟩
  cases s' with
  | no => exact h2
  | im d => obtain ⟨v, rfl, r⟩ := h2; exact ⟨v, rfl, r.mono le⟩
  | ow d =>
    obtain ⟨m, rfl, mm⟩ := h2
    have n1 : m ≠ p := fun z => ap i d hs' (z ▸ h1)
    have n2 : m ≠ l := fun z => al i d hs' (z ▸ h1)
    refine ⟨m, rfl, mm.own.mono le (upd_ne n1), mm.nI, fun f => ?_, mm.new⟩
    rcases foot_bx f with z | z | f
    · exact n1 z
    · exact n2 z
    · exact mm.nB f
def dBoxNew (tg ts : TDE) : TDE := fun δ Q => tg δ fun d δ1 => ∃ gs : List Int, d = .lst (gs.map D.int) ∧ (∀ x ∈ gs, 0 ≤ x) ∧ gs.length ≤ 50 ∧ ts δ1 fun d2 δ2 => ∃ s : Int, d2 = .int s ∧ 0 ≤ s ∧ ∀ a, Q (.box a) δ2
theorem de_boxNew {eg es : Expr} {tg ts : TDE} {j1 j2 j3 j4 j5 j6 : Nat} {p1 p2 p3 p4 p5 p6 : Pos} (hg : DO X e eg tg) (hs : DE X e es ts) :
    DE X e (.Dict [some (.Constant (.str "great") j1 p1), some (.Constant (.str "now") j2 p2), some (.Constant (.str "seed") j3 p3), some (.Constant (.str "turn") j4 p4)] [eg, .Constant (.int 0) j5 p5, es, .Constant (.int 0) j6 p6] pos) (dBoxNew tg ts) :=
  pe_imp (pe_disp (pps_cons pe_str hg (pps_cons pe_str pe_int (pps_cons pe_str hs (pps_cons pe_str pe_int pps_nil)))) rfl rfl (by simp) (show (4 : Nat) ≤ 15 by decide)) fun σ H Q ⟨T, G, δ, Qd, S, q, k⟩ => by
    intro p hp
    obtain ⟨S1, st1, nI, nB, new, ap⟩ := S.new (o := .dK []) hp
    have S1' := S1.hold (l := p) (d := .dct []) ⟨⟨[], upd_same, rfl, .nil⟩, nI, nB, new⟩ ap
    refine ⟨T.push p (.dct []), G, δ, _, S1', q, fun l d H2 G2 δ2 S2 st2 m2 ap2 q2 => ?_⟩
    obtain ⟨gs, rfl, g0, g5, q2⟩ := q2
    have S2' := S2.hold m2 ap2
    refine ⟨(T.push p (.dct [])).push l _, G2, δ2, _, S2', q2, fun v d2 H3 G3 δ3 S3 st3 r3 q3 => ?_⟩
    obtain ⟨s, rfl, s0, q3⟩ := q3
    have hv := r3.intI
    subst hv
    obtain ⟨S4, ml, al⟩ := S3.drop
    obtain ⟨S5, mp, ap5⟩ := S4.drop
    have hpl : p ≠ l := fun z => by
      have := al (δ3.length + T.d.length) (.dct []) (by simp [Tm.push]) 
      apply this
      have hln := S4.s.len
      have hl3 := S4.ln
      subst z
      have e1 : σ.length + T.v.length = δ3.length + T.d.length := by simp [Tm.push] at hln; omega
      rw [← e1]
      simp [Tm.push]
    have al5 : Apart σ δ3 T l := fun i d hi => by
      have hlt := lt_of_get hi
      have := al i d (by show (δ3 ++ (T.d ++ [_]))[i]? = _; rw [← List.append_assoc, get_l hlt]; exact hi)
      intro z
      apply this
      show (σ ++ (T.v ++ [_]))[i]? = _
      rw [← List.append_assoc, get_l (lt_of_get z)]
      exact z
    obtain ⟨kvs, hk, ek, _⟩ := mp.own
    have : kvs = [] := by simpa using ek
    subst this
    obtain ⟨S6, st6⟩ := S5.newBox mp ap5 ml al5 hpl g0 g5 s0
    refine ⟨hk, boxKv l 0 s 0, rfl, by show (4 : Nat) ≤ 15; decide, ?_⟩
    exact k _ (.box p) _ _ δ3 S6 (((st1.trans st2).trans st3).trans st6) (.box (g := l) (by show (if p = p then some l else _) = _; rw [if_pos rfl])) (q3 p)
end
end T

namespace T
open PySem L2

section
variable {X : Cx} {e : Ent} {pos : Pos}
def tyN : D → Option String
  | .non => some "NoneType"
  | .bl _ => some "bool"
  | .int _ => some "int"
  | .str _ => some "str"
  | .tup _ => some "tuple"
  | .lst _ => some "list"
  | .dct _ => some "dict"
  | .dtp _ => some "dict"
  | _ => none
theorem tyN_ok {K : PySem.W.Frag} {G : Gh} {H : Hp} {v : V} {d : D} {n : String} (ok : GOk G H) (r : Rep K G v d) (h : tyN d = some n) : TyX K H v (.type n) := by
  cases r with
  | non => cases h; exact .base .non
  | bl b => cases h; exact .base (.bl b)
  | int i => cases h; exact .base (.int i)
  | str q => cases h; exact .base (.str _)
  | tup q _ =>
    cases h
    rcases q with (q | ⟨o, q⟩) | ⟨o, its, n, h1, h2, _⟩
    · exact .base (.tup (ok.sub _ _ q))
    · exact .fTuple (ok.sub _ _ q)
    · exact .kTuple h1 h2
  | lst q _ => cases h; exact .base (.lst (ok.sub _ _ q))
  | dct q _ _ => cases h; exact .base (.dK (ok.sub _ _ q))
  | dtp q _ _ => cases h; exact .base (.dT (ok.sub _ _ q))
  | _ => cases h
def isiD : D → D → (D → Prop) → Prop
  | a, .ty n, Q => (match tyN a with | some t => (match kitB t n with | some b => Q (.bl b) | none => False) | none => False)
  | _, _, _ => False
theorem isiD_inv {a b : D} {Q : D → Prop} (h : isiD a b Q) : ∃ n t c, b = .ty n ∧ tyN a = some t ∧ kitB t n = some c ∧ Q (.bl c) := by
  cases b with
  | ty n =>
    cases ht : tyN a with
    | none => simp only [isiD, ht] at h
    | some t =>
      cases hc : kitB t n with
      | none => simp only [isiD, ht, hc] at h
      | some c => simp only [isiD, ht, hc] at h; exact ⟨n, t, c, rfl, rfl, hc, h⟩
  | _ => exact h.elim
theorem Rep.tyI {K : PySem.W.Frag} {G : Gh} {v : V} {n : String} (r : Rep K G v (.ty n)) : v = .ty n := by cases r; rfl
theorem de_isi {a b : Expr} {t u : TDE} {p : Pos} (ha : DE X e a t) (hb : DE X e b u) (hg : Gl X "isinstance") (hm : X.mg "isinstance" = none) (hs : starEach (a :: [b]) X.env = (false, eval a X.env) :: starEach [b] X.env := by rfl) (hs2 : starEach (b :: []) X.env = (false, eval b X.env) :: starEach [] X.env := by rfl) (hpl : (backTo pos (starEach [b] X.env)).any (·.1) = false := by rfl) :
    DE X e (.Call (.Name "isinstance" p) [a, b] [] pos) (dB2 isiD t u) :=
  pe_imp (pe_callB call_isi hg hm (by decide +kernel) (pa_cons ha (pa_cons hb pa_nil hs2) hs) (he := hs) (hpl := hpl)) fun σ H Q ⟨T, G, δ, Qd, S, q, k⟩ => ⟨T, G, δ, _, S, q, fun v d H1 G1 δ1 S1 st1 r1 q1 => ⟨T, G1, δ1, _, S1, q1, fun v2 d2 H2 G2 δ2 S2 st2 r2 q2 => by
    obtain ⟨n, t, c, rfl, h1, h2, q2⟩ := isiD_inv q2
    have e2 := r2.tyI
    subst e2
    exact ⟨v, _, .type t, .type n, c, rfl, .ty n, tyN_ok S2.ok (r1.mono st2.le) h1, kit_ty h2, k _ _ H2 G2 δ2 S2 (st1.trans st2) (.bl c) q2⟩⟩⟩
end
end T

namespace T
open PySem L2
def top (i : Nat) : Stmt := PySem.Challenge.pw_towgrove_k34_rows_shortened.main.body.getD i (.Pass ⟨0, 0, 0, 0⟩)
abbrev FnP (K : PySem.W.Frag) (x : Str) (st : Stmt) (f : Addr) (fd : FuncData) : Prop := FunD K x x (defArgs st) (defBody st) (defScope st) [] [] f fd
theorem osl {X : Cx} {e : Ent} {a : Expr} {i : Nat} (h : PE X a (tVar i)) : OPN X e a (.sl i) := h
theorem oex {X : Cx} {e : Ent} {a : Expr} {t : TDE} (h : DE X e a t) : OPN X e a (.ex t) := h
theorem eim {X : Cx} {e : Ent} {a : Expr} {t : TDE} (h : DE X e a t) : evPE X e a (.im t) := h
theorem eow {X : Cx} {e : Ent} {a : Expr} {t : TDE} (h : DO X e a t) : evPE X e a (.ow t) := h
instance {s : Str} : Decidable (sOk s) := by unfold sOk; infer_instance
theorem p_if {c : TDT} {t u : TDS} {F : DEnds} {δ : DSt} (h : c δ fun b δ1 => (b = true → t F δ1) ∧ (b = false → u F δ1)) (m : ∀ {P P' : Bool → DSt → Prop} {δ}, (∀ b δ, P b δ → P' b δ) → c δ P → c δ P') : dIfS c t u F δ :=
  m (fun b δ1 h => by cases b with | true => exact h.1 rfl | false => exact h.2 rfl) h
@[irreducible] def mulX : D → D → (D → Prop) → Prop := mulD
theorem opd_mulX {X : Cx} {e : Ent} : OpD X e (WOp X (binaryOp .Mult)) mulX := by unfold mulX; exact opd_mul
@[irreducible] def addX : D → D → (D → Prop) → Prop := addD
theorem opd_addX {X : Cx} {e : Ent} : OpD X e (WOp X (binaryOp .Add)) addX := by unfold addX; exact opd_add
theorem add_int {i j : Int} {Q : D → Prop} (k : Q (.int (i + j))) : addX (.int i) (.int j) Q := by unfold addX; exact k
theorem add_str {a b : Str} {Q : D → Prop} (h : a.length + b.length ≤ 1000) (k : ∀ t : Str, t.length = a.length + b.length → t = a ++ b → Q (.str t)) : addX (.str a) (.str b) Q := by unfold addX; exact ⟨le_line h, k _ (Str.length_append a b) rfl⟩
theorem add_lst {a b : List D} {Q : D → Prop} (h : a.length + b.length ≤ 1000) (k : Q (.lst (a ++ b))) : addX (.lst a) (.lst b) Q := by unfold addX; exact ⟨le_line h, k⟩
theorem add_tup {a b : List D} {Q : D → Prop} (h : a.length + b.length ≤ 1000) (k : Q (.tup (a ++ b))) : addX (.tup a) (.tup b) Q := by unfold addX; exact ⟨le_line h, k⟩
@[irreducible] def isiX : D → D → (D → Prop) → Prop := isiD
theorem de_isiX {X : Cx} {e : Ent} {pos : Pos} {a b : Expr} {t u : TDE} {p : Pos} (ha : DE X e a t) (hb : DE X e b u) (hg : Gl X "isinstance") (hm : X.mg "isinstance" = none) (hs : starEach (a :: [b]) X.env = (false, eval a X.env) :: starEach [b] X.env := by rfl) (hs2 : starEach (b :: []) X.env = (false, eval b X.env) :: starEach [] X.env := by rfl) (hpl : (backTo pos (starEach [b] X.env)).any (·.1) = false := by rfl) :
    DE X e (.Call (.Name "isinstance" p) [a, b] [] pos) (dB2 isiX t u) := by unfold isiX; exact de_isi ha hb hg hm hs hs2 hpl
theorem isi_at {d : D} {n t : String} {b : Bool} {Q : D → Prop} (h : tyN d = some t) (k : kitB t n = some b) (q : Q (.bl b)) : isiX d (.ty n) Q := by
  unfold isiX
  show (match tyN d with | some t => (match kitB t n with | some b => Q (.bl b) | none => False) | none => False)
  rw [h]
  show (match kitB t n with | some b => Q (.bl b) | none => False)
  rw [k]
  exact q
def sd__law_take : SpD := fun ds Q => ∃ a m, ds = [.box a, .int m] ∧ 0 < m ∧ m < 1073741824 ∧ ∀ i, 0 ≤ i → i < m → Q (.int i)
theorem len__law_take (ds : List D) (Q : D → Prop) (h : sd__law_take ds Q) : ds.length = 2 := by obtain ⟨a, m, rfl, _⟩ := h; rfl
theorem if_b {b : Bool} {p q : Prop} (h1 : b = true → p) (h2 : b = false → q) : if b = true then p else q := by cases b with | true => exact h1 rfl | false => exact h2 rfl
abbrev st__law_take : Stmt := top 4
abbrev N__law_take : List Str := ["_law_box_here", "_law_many", "_law_digit", "_law_one"]
theorem sc__law_take : FnScope N__law_take ["_law_box_here", "_law_many"] (defScope st__law_take) := ⟨rfl, rfl, rfl, by decide +kernel, rfl, by decide +kernel, by decide +kernel⟩
def t__law_take : TDS :=
  dSeq (dGreat 0)
  (dSeq (dIfS (dtBin (gtD) (.ex (dBin ixB (.sl 0) (.ex (dC (.str "now"))))) (.ex (dC (.int 0)))) (dSeq (dAsg (dBin modD (.ex (dBin ixB (.sl 0) (.ex (dC (.str "now"))))) (.sl 1)) 2)
  (dSeq (fun F δ => (dBin fdivD (.ex (dBin ixB (.sl 0) (.ex (dC (.str "now"))))) (.sl 1)) δ fun d δ1 => (dgBox 0 "now") d δ1 F.nx)
  (dRet (dVar 2)))) (dNext))
  (dSeq (fun F δ => (dBin addX (.ex (dBin ixB (.sl 0) (.ex (dC (.str "turn"))))) (.ex (dC (.int 1)))) δ fun d δ1 => (dgBox 0 "turn") d δ1 F.nx)
  (dSeq (dAsg (dBin modD (.ex (dBin mulD (.ex (dBin modD (.ex (dBin addX (.ex (dBin ixB (.sl 0) (.ex (dC (.str "seed"))))) (.ex (dBin mulD (.ex (dC (.int 69623))) (.ex (dBin ixB (.sl 0) (.ex (dC (.str "turn"))))))))) (.ex (dC (.int 2147483647))))) (.ex (dC (.int 16807))))) (.ex (dC (.int 2147483647)))) 3)
  (dSeq (fun F δ => (dBin addX (.ex (dBin modD (.ex (dBin addX (.sl 3) (.ex (dBin mulD (.ex (dC (.int 3))) (.ex (dBin ixB (.sl 0) (.ex (dC (.str "seed"))))))))) (.ex (dC (.int 2147483629))))) (.ex (dC (.int 1)))) δ fun d δ1 => (dgBox 0 "seed") d δ1 F.nx)
  (dRet (dBin modD (.ex (dBin fdivD (.ex (dBin addX (.ex (dBin mulD (.sl 3) (.ex (dC (.int 30269))))) (.ex (dBin ixB (.sl 0) (.ex (dC (.str "seed"))))))) (.ex (dC (.int 4099))))) (.sl 1)))))))
theorem pure__law_take (ds : List D) (Q : D → Prop) (h : sd__law_take ds Q) : t__law_take { nx := fun _ => Q .non, rt := Q } (startD 4 ds) := by
  obtain ⟨a, m, rfl, h0, h1, q⟩ := h
  refine And.intro rfl (And.intro (by decide +kernel) fun n hn => ?_)
  refine if_b (fun hb => ?_) (fun hb => ?_)
  · refine And.intro rfl (And.intro (by decide +kernel) fun n2 hn2 => And.intro h0 ?_)
    refine And.intro rfl (And.intro (by decide +kernel) fun n3 hn3 => And.intro ⟨h0, h1⟩ ?_)
    refine And.intro (Int.ediv_nonneg hn3 (Int.le_of_lt h0)) ?_
    exact q _ (Int.emod_nonneg _ (by omega)) (Int.emod_lt_of_pos _ h0)
  · refine And.intro rfl (And.intro (by decide +kernel) fun n2 hn2 => ?_)
    refine add_int ?_
    refine And.intro (by omega) ?_
    refine And.intro rfl (And.intro (by decide +kernel) fun n3 hn3 => ?_)
    refine And.intro rfl (And.intro (by decide +kernel) fun n4 hn4 => ?_)
    refine And.intro (.inl ⟨by decide, by decide⟩) (add_int ?_)
    refine And.intro (by decide) (And.intro (.inr ⟨by decide, by decide⟩) (And.intro (by decide) ?_))
    refine And.intro rfl (And.intro rfl (And.intro (by decide +kernel) fun n5 hn5 => ?_))
    refine And.intro (.inl ⟨by decide, by decide⟩) (add_int (And.intro (by decide) (add_int ?_)))
    refine And.intro (by omega) ?_
    refine And.intro rfl (And.intro (.inr ⟨by decide, by decide⟩) ?_)
    refine And.intro rfl (And.intro (by decide +kernel) fun n6 hn6 => add_int ?_)
    refine And.intro (by decide) ?_
    exact And.intro h0 (q _ (Int.emod_nonneg _ (by omega)) (Int.emod_lt_of_pos _ h0))
theorem ok__law_take {P : Program} {w : World} {K : PySem.W.Frag} {mg : Str → Option Value} {base : Heap} {f : Addr} {fd : FuncData} (F : FnP K "_law_take" st__law_take f fd) (m_len : mg "len" = none) : FnOk P w K mg base CX0 2 f fd ["_law_box_here", "_law_many"] (toSp K sd__law_take) :=
  fn_d (k := 1) (t := t__law_take) F sc__law_take len__law_take (fun cdv A outer s H E e hr => dss_cons (ds_great hr (pv 0) (pv 0) (pv 0) (pv 0) rfl m_len)
    (dss_cons (ds_if (dt_cmp opd_gt (oex (de_ixB hr (osl (pv 0)) (oex (de_str (by decide +kernel))))) (oex (de_int)) rfl) (dss_cons (ds_set (i := 2) sc__law_take.nd rfl (Or.inl rfl) (de_bin opd_mod (oex (de_ixB hr (osl (pv 0)) (oex (de_str (by decide +kernel))))) (osl (pv 1))))
    (dss_cons (ds_asg (de_bin opd_fdiv (oex (de_ixB hr (osl (pv 0)) (oex (de_str (by decide +kernel))))) (osl (pv 1))) (dg_box hr (pv 0) (by decide +kernel)))
    (dss_one (ds_ret (de_var (pv 2)))))) (dss_nil))
    (dss_cons (ds_asg (de_bin opd_addX (oex (de_ixB hr (osl (pv 0)) (oex (de_str (by decide +kernel))))) (oex (de_int))) (dg_box hr (pv 0) (by decide +kernel)))
    (dss_cons (ds_set (i := 3) sc__law_take.nd rfl (Or.inl rfl) (de_bin opd_mod (oex (de_bin opd_mul (oex (de_bin opd_mod (oex (de_bin opd_addX (oex (de_ixB hr (osl (pv 0)) (oex (de_str (by decide +kernel))))) (oex (de_bin opd_mul (oex (de_int)) (oex (de_ixB hr (osl (pv 0)) (oex (de_str (by decide +kernel))))))))) (oex (de_int)))) (oex (de_int)))) (oex (de_int))))
    (dss_cons (ds_asg (de_bin opd_addX (oex (de_bin opd_mod (oex (de_bin opd_addX (osl (pv 3)) (oex (de_bin opd_mul (oex (de_int)) (oex (de_ixB hr (osl (pv 0)) (oex (de_str (by decide +kernel))))))))) (oex (de_int)))) (oex (de_int))) (dg_box hr (pv 0) (by decide +kernel)))
    (dss_one (ds_ret (de_bin opd_mod (oex (de_bin opd_fdiv (oex (de_bin opd_addX (oex (de_bin opd_mul (osl (pv 3)) (oex (de_int)))) (oex (de_ixB hr (osl (pv 0)) (oex (de_str (by decide +kernel))))))) (oex (de_int)))) (osl (pv 1)))))))))) pure__law_take
def sd__law_box : SpD := fun ds Q => ∃ ns b, ds = [.scr ns, .int b] ∧ 0 ≤ b ∧ ∀ a, Q (.box a)
theorem len__law_box (ds : List D) (Q : D → Prop) (h : sd__law_box ds Q) : ds.length = 2 := by obtain ⟨a, m, rfl, _⟩ := h; rfl
theorem cutL_len50 {α : Type} (xs : List α) (lo : Option Int) : (cutL xs lo (some 50)).length ≤ 50 := by
  unfold cutL
  rw [List.length_take]
  have : HT.sIx xs.length xs.length (some 50) ≤ 50 := by
    show (if (50 : Int) < 0 then ((50 : Int) + (xs.length : Int)).toNat else min (50 : Int).toNat xs.length) ≤ 50
    rw [if_neg (by decide)]
    exact Nat.le_trans (Nat.min_le_left _ _) (by decide)
  omega
theorem map_int_get {ns : List Int} {i : Nat} {d : D} (h : (ns.map D.int)[i]? = some d) : ∃ n, d = .int n := by
  rw [List.getElem?_map] at h
  cases hn : ns[i]? with
  | none => rw [hn] at h; cases h
  | some n => rw [hn] at h; cases h; exact ⟨n, rfl⟩
theorem line_of {n : Nat} (h : n ≤ 100000) : n < sizeLine := by rw [sizeLine_eq]; omega
abbrev st__law_box : Stmt := top 3
abbrev N__law_box : List Str := ["_law_script", "_law_base", "_law_seed", "_law_cell", "_law_great"]
theorem sc__law_box : FnScope N__law_box ["_law_script", "_law_base"] (defScope st__law_box) := ⟨rfl, rfl, rfl, by decide +kernel, rfl, by decide +kernel, by decide +kernel⟩
def t__law_box : TDS :=
  dSeq (dAsg (dBin addX (.ex (dC (.int 7001))) (.ex (dBin mulD (.ex (dC (.int 211))) (.sl 1)))) 2)
  (dSeq (dFor (iSeq (dSl (.sl 0) (dP0) (dP1 (dC (.int 50))))) (dgName 3) (dAsg (dBin modD (.ex (dBin addX (.ex (dBin addX (.ex (dBin mulD (.sl 2) (.ex (dC (.int 48271))))) (.ex (dBin modD (.ex (dB1 absD (.sl 3))) (.ex (dC (.int 2147483629))))))) (.ex (dC (.int 29))))) (.ex (dC (.int 2147483647)))) 2))
  (dSeq (dAsg (dLc (iSeq (dSl (.sl 0) (dP1 (dVar 1)) (dP1 (dC (.int 50))))) (dgName 3) (dtBin (geD) (.ex (dB1 absD (.sl 3))) (.ex (dBin powD (.ex (dC (.int 10))) (.ex (dC (.int 18)))))) (dB1 absD (.sl 3)) [3]) 4)
  (dRet (dBoxNew (dB1 revD (.sl 4)) (dBin addX (.sl 2) (.ex (dC (.int 1))))))))
theorem pure__law_box (ds : List D) (Q : D → Prop) (h : sd__law_box ds Q) : t__law_box { nx := fun _ => Q .non, rt := Q } (startD 5 ds) := by
  obtain ⟨ns, b, rfl, h0, q⟩ := h
  refine And.intro (.inl ⟨by decide, by decide⟩) (add_int ?_)
  refine And.intro rfl (Exists.intro (fun (_ : Nat) (δ : DSt) => ∃ s c, δ = [.im (.scr ns), .im (.int b), .im (.int s), c, .no] ∧ 0 ≤ s) ?_)
  refine And.intro ?_ (And.intro ?_ ?_)
  · exact ⟨7001 + 211 * b, .no, rfl, by omega⟩
  · rintro i d δ' hd ⟨s, c, rfl, hs⟩
    obtain ⟨n, rfl⟩ := map_int_get hd
    refine And.intro rfl (And.intro (.inr ⟨by decide, by decide⟩) (And.intro (by decide) (add_int (add_int (And.intro (by decide) ?_)))))
    exact ⟨_, _, rfl, Int.emod_nonneg _ (by decide)⟩
  · rintro δ' ⟨s, c, rfl, hs⟩
    have hlen := cutL_len50 ns (some b)
    refine And.intro rfl (Exists.intro (fun (i : Nat) (acc : List D) (δ : DSt) => ∃ gs : List Int, acc = gs.map D.int ∧ (∀ x ∈ gs, 0 ≤ x) ∧ gs.length ≤ i ∧ δ = [.im (.scr ns), .im (.int b), .im (.int s), .no, .no]) ?_)
    refine And.intro ?_ (And.intro ?_ ?_)
    · exact ⟨[], rfl, (fun _ h => nomatch h), Nat.le_refl _, rfl⟩
    · rintro i d acc δ' hd ⟨gs, rfl, hg, hl, rfl⟩
      have hi := lt_of_get hd
      rw [List.length_map] at hi
      obtain ⟨n, rfl⟩ := map_int_get hd
      refine And.intro ⟨by decide, by decide, by decide⟩ ?_
      refine if_b (fun hb => ?_) (fun hb => ?_)
      · refine And.intro (line_of (by rw [List.length_map]; omega)) ?_
        refine ⟨gs ++ [if n < 0 then -n else n], by simp, fun x hx => ?_, by simp; omega, rfl⟩
        rcases List.mem_append.mp hx with hx | hx
        · exact hg x hx
        · rw [List.mem_singleton] at hx; subst hx; split <;> omega
      · exact ⟨gs, rfl, hg, by omega, rfl⟩
    · rintro acc δ' ⟨gs, rfl, hg, hl, rfl⟩
      have hl : gs.length ≤ 50 := by rw [List.length_map] at hl; omega
      refine Exists.intro gs.reverse (And.intro (by rw [List.map_reverse]) (And.intro (fun x hx => hg x (List.mem_reverse.mp hx)) (And.intro (by rw [List.length_reverse]; exact hl) ?_)))
      refine And.intro rfl (add_int ?_)
      exact Exists.intro (s + 1) (And.intro rfl (And.intro (by omega) q))
theorem ok__law_box {P : Program} {w : World} {K : PySem.W.Frag} {mg : Str → Option Value} {base : Heap} {f : Addr} {fd : FuncData} (F : FnP K "_law_box" st__law_box f fd) (m_abs : mg "abs" = none) : FnOk P w K mg base CX0 2 f fd ["_law_script", "_law_base"] (toSp K sd__law_box) :=
  fn_d (k := 1) (t := t__law_box) F sc__law_box len__law_box (fun cdv A outer s H E e hr => dss_cons (ds_set (i := 2) sc__law_box.nd rfl (Or.inl rfl) (de_bin opd_addX (oex (de_int)) (oex (de_bin opd_mul (oex (de_int)) (osl (pv 1))))))
    (dss_cons (ds_for PassesOwn.never rfl (di_seq (de_slice (osl (pv 0)) (dp_none) (dp_some (de_int)))) (dg_name (i := 3) sc__law_box.nd rfl (Or.inl rfl)) (dss_one (ds_set (i := 2) sc__law_box.nd rfl (Or.inl rfl) (de_bin opd_mod (oex (de_bin opd_addX (oex (de_bin opd_addX (oex (de_bin opd_mul (osl (pv 2)) (oex (de_int)))) (oex (de_bin opd_mod (oex (de_abs (osl (pv 3)) rfl m_abs)) (oex (de_int)))))) (oex (de_int)))) (oex (de_int))))))
    (dss_cons (ds_setLc (i := 4) (own := [("_law_cell", 3)]) (fp := [3]) rfl sc__law_box.nd rfl rfl (sw_true rfl rfl rfl (by decide +kernel)) (di_seq (de_slice (osl (pv 0)) (dp_some (de_var (pv 1))) (dp_some (de_int)))) (blkOk_by (N := N__law_box) (sc := defScope st__law_box) (own := [("_law_cell", 3)]) (by decide +kernel)) (fun _ _ _ _ _ => dg_name (i := 3) sc__law_box.nd rfl (Or.inl rfl)) (fun _ _ _ _ _ => dts_one (dt_cmp opd_ge (oex (de_abs (osl (pv 3)) rfl m_abs)) (oex (de_bin opd_pow (oex (de_int)) (oex (de_int)))) rfl)) (fun _ _ _ _ _ => de_abs (osl (pv 3)) rfl m_abs))
    (dss_one (ds_ret (de_boxNew (do_rev (osl (pv 4))) (de_bin opd_addX (osl (pv 2)) (oex (de_int))))))))) pure__law_box
def sd__law_mixed : SpD := fun ds Q => ∃ a l, (ds = [.box a, .lst l] ∨ ds = [.box a, .tup l]) ∧ l.length ≤ 1000 ∧ ∀ l' : List D, l'.Perm l → Q (.lst l')
theorem len__law_mixed (ds : List D) (Q : D → Prop) (h : sd__law_mixed ds Q) : ds.length = 2 := by obtain ⟨a, m, rfl | rfl, _⟩ := h <;> rfl
def onSm {α : Type} (o : Option α) (P : α → Prop) : Prop := match o with | some y => P y | none => False
theorem m_some {α : Type} {o : Option α} {x : α} {P : α → Prop} (h : o = some x) (p : P x) : onSm o P := by subst h; exact p
theorem perm_erase : ∀ {l : List D} {i : Nat} {y : D}, l[i]? = some y → (y :: l.eraseIdx i).Perm l
  | [], _, _, h => by simp at h
  | x :: r, 0, y, h => by simp at h; subst h; exact List.Perm.refl _
  | x :: r, i + 1, y, h => by
    rw [List.getElem?_cons_succ] at h
    rw [List.eraseIdx_cons_succ]
    exact (List.Perm.swap x y _).trans ((perm_erase h).cons x)
theorem perm_pop {l found : List D} {i : Nat} {y : D} {orig : List D} (h : (l ++ found).Perm orig) (hy : l[i]? = some y) : (l.eraseIdx i ++ (found ++ [y])).Perm orig := by
  obtain ⟨hi, e⟩ := List.getElem?_eq_some_iff.mp hy
  refine List.Perm.trans ?_ h
  have h1 : (y :: l.eraseIdx i).Perm l := perm_erase hy
  refine List.Perm.trans ?_ (List.Perm.append_right found h1)
  rw [← List.append_assoc]
  exact List.perm_append_comm
abbrev st__law_mixed : Stmt := top 5
abbrev N__law_mixed : List Str := ["_law_box_here", "_law_items", "_law_left", "_law_found", "_law_turn"]
theorem sc__law_mixed : FnScope N__law_mixed ["_law_box_here", "_law_items"] (defScope st__law_mixed) := ⟨rfl, rfl, rfl, by decide +kernel, rfl, by decide +kernel, by decide +kernel⟩
def t__law_mixed : TDS :=
  dSeq (dPars [.ow (dB1 listD (.sl 1)), .ow (dLst (dNil))] [2, 3])
  (dSeq (dFor (iRange1 (dB1 lenD (.sl 2))) (dgName 4) (dDrop (dAppend 3 (dPopAt 2 (dCall sd__law_take (dCons (dVar 0) (dCons (dB1 lenD (.sl 2)) (dNil))))))))
  (dRet (dVar 3)))
theorem pure__law_mixed (ds : List D) (Q : D → Prop) (h : sd__law_mixed ds Q) : t__law_mixed { nx := fun _ => Q .non, rt := Q } (startD 5 ds) := by
  obtain ⟨a, l, hds, hl, q⟩ := h
  have key : ∀ it, ds = [.box a, it] → (it = .lst l ∨ it = .tup l) → t__law_mixed { nx := fun _ => Q .non, rt := Q } (startD 5 ds) := by
    rintro it rfl hit
    have body : (dSeq (dFor (iRange1 (dB1 lenD (.sl 2))) (dgName 4) (dDrop (dAppend 3 (dPopAt 2 (dCall sd__law_take (dCons (dVar 0) (dCons (dB1 lenD (.sl 2)) (dNil)))))))) (dRet (dVar 3))) { nx := fun _ => Q .non, rt := Q } [.im (.box a), .im it, .ow (.lst l), .ow (.lst []), .no] := by
      refine And.intro ⟨by show -(2 ^ 62) ≤ (l.length : Int); omega, by show (l.length : Int) < 2 ^ 62; omega⟩ ?_
      refine Exists.intro (fun (i : Nat) (δ : DSt) => ∃ left found c, δ = [.im (.box a), .im it, .ow (.lst left), .ow (.lst found), c] ∧ (left ++ found).Perm l ∧ found.length = i) ?_
      refine And.intro ?_ (And.intro ?_ ?_)
      · exact ⟨l, [], .no, rfl, by simp, rfl⟩
      · rintro i d δ' hd ⟨left, found, c, rfl, hp, hi⟩
        have hi2 := lt_of_get hd
        rw [rngD_len] at hi2
        have hlen := hp.length_eq
        rw [List.length_append] at hlen
        have hi2 : i < l.length := by simpa using hi2
        refine And.intro rfl (And.intro rfl ?_)
        refine Exists.intro a (Exists.intro (left.length : Int) (And.intro rfl (And.intro (by omega) (And.intro (by omega) fun j j0 j1 => ?_))))
        obtain ⟨y, hy⟩ : ∃ y, left[j.toNat]? = some y := ⟨_, List.getElem?_eq_getElem (by omega)⟩
        refine And.intro ⟨j0, j1, by omega⟩ ?_
        rw [hy]
        refine And.intro (line_of (by omega)) ?_
        exact ⟨left.eraseIdx j.toNat, found ++ [y], _, rfl, perm_pop hp hy, by simp; omega⟩
      · rintro δ' ⟨left, found, c, rfl, hp, hi⟩
        rw [rngD_len] at hi
        have hlen := hp.length_eq
        rw [List.length_append] at hlen
        have : left = [] := List.length_eq_zero_iff.mp (by simp at hi; omega)
        subst this
        exact q found (by simpa using hp)
    rcases hit with rfl | rfl
    · exact body
    · exact body
  rcases hds with rfl | rfl
  · exact key _ rfl (.inl rfl)
  · exact key _ rfl (.inr rfl)
theorem ok__law_mixed {P : Program} {w : World} {K : PySem.W.Frag} {mg : Str → Option Value} {base : Heap} {f : Addr} {fd : FuncData} (F : FnP K "_law_mixed" st__law_mixed f fd) (c__law_take : CalD P w K mg base 2 "_law_take" sd__law_take) (m_range : mg "range" = none) (m_len : mg "len" = none) (m_list : mg "list" = none) : FnOk P w K mg base CX0 3 f fd ["_law_box_here", "_law_items"] (toSp K sd__law_mixed) :=
  fn_d (k := 2) (t := t__law_mixed) F sc__law_mixed len__law_mixed (fun cdv A outer s H E e hr => dss_cons (ds_par2 (i := 2) (j := 3) rfl sc__law_mixed.nd rfl rfl (by decide) rfl rfl (ea_cons (v := .ow (dB1 listD (.sl 1))) (eow (do_list1 (osl (pv 1)) rfl m_list)) (ea_cons (v := .ow (dLst (dNil))) (eow (do_lst (da_nil))) (ea_nil))) rfl)
    (dss_cons (ds_for PassesOwn.never rfl (di_range1 rfl m_range (de_len (osl (pv 2)) rfl m_len)) (dg_name (i := 4) sc__law_mixed.nd rfl (Or.inl rfl)) (dss_one (ds_expr (de_append (pv 3) (de_popAt (pv 2) (de_call c__law_take hr (by decide) rfl (da_cons (de_var (pv 0)) (da_cons (de_len (osl (pv 2)) rfl m_len) (da_nil)))))))))
    (dss_one (ds_ret (de_var (pv 3)))))) pure__law_mixed
mutual
def plain : D → Bool
  | .non => true
  | .int _ => true
  | .str _ => true
  | .tup l => plainL l
  | .lst l => plainL l
  | .bl _ => false
  | .dct _ => false
  | .dtp _ => false
  | .ins _ _ => false
  | .box _ => false
  | .ty _ => false
  | .ref _ => false
  | .scr _ => false
def plainL : List D → Bool
  | [] => true
  | d :: r => plain d && plainL r
end
mutual
theorem plain_dat : ∀ {d : D}, plain d = true → isDat d = true
  | .non, _ => rfl
  | .int _, _ => rfl
  | .str _, _ => rfl
  | .tup l, h => plainL_dat (l := l) h
  | .lst l, h => plainL_dat (l := l) h
theorem plainL_dat : ∀ {l : List D}, plainL l = true → isDatL l = true
  | [], _ => rfl
  | d :: r, h => by
    rw [plainL, Bool.and_eq_true] at h
    rw [isDatL, Bool.and_eq_true]
    exact ⟨plain_dat h.1, plainL_dat h.2⟩
end
mutual
theorem eqv_plain : ∀ (a b : D), plain a = true → plain b = true → (PyData.eqv (py a) (py b) = true ↔ a = b)
  | .non, b, _, hb => by cases b <;> first | (simp [py, PyData.eqv]; done) | cases hb
  | .int i, b, _, hb => by cases b <;> first | (simp [py, PyData.eqv]; done) | cases hb
  | .str i, b, _, hb => by cases b <;> first | (simp [py, PyData.eqv]; done) | cases hb
  | .tup l, b, ha, hb => by
    cases b with
    | tup r => simp only [py, PyData.eqv, D.tup.injEq]; exact eqvL_plain l r ha hb
    | non => simp [py, PyData.eqv]
    | int i => simp [py, PyData.eqv]
    | str i => simp [py, PyData.eqv]
    | lst r => simp [py, PyData.eqv]
    | _ => cases hb
  | .lst l, b, ha, hb => by
    cases b with
    | lst r => simp only [py, PyData.eqv, D.lst.injEq]; exact eqvL_plain l r ha hb
    | non => simp [py, PyData.eqv]
    | int i => simp [py, PyData.eqv]
    | str i => simp [py, PyData.eqv]
    | tup r => simp [py, PyData.eqv]
    | _ => cases hb
theorem eqvL_plain : ∀ (a b : List D), plainL a = true → plainL b = true → (PyData.eqvAll (pyL a) (pyL b) = true ↔ a = b)
  | [], [], _, _ => by simp [pyL, PyData.eqvAll]
  | [], _ :: _, _, _ => by simp [pyL, PyData.eqvAll]
  | _ :: _, [], _, _ => by simp [pyL, PyData.eqvAll]
  | x :: r, y :: s, ha, hb => by
    rw [plainL, Bool.and_eq_true] at ha hb
    simp only [pyL, PyData.eqvAll, Bool.and_eq_true, List.cons.injEq]
    rw [eqv_plain x y ha.1 hb.1, eqvL_plain r s ha.2 hb.2]
end
theorem eqB_plain {a b : D} (ha : plain a = true) (hb : plain b = true) : eqB a b = true ↔ a = b := eqv_plain a b ha hb
theorem plainL_all {l : List D} : plainL l = true ↔ ∀ d ∈ l, plain d = true := by
  induction l with
  | nil => simp [plainL]
  | cons d r ih => rw [plainL, Bool.and_eq_true, ih]; simp
theorem inL_plain {d : D} {l : List D} (hd : plain d = true) (hl : plainL l = true) : inL d l = true ↔ d ∈ l := by
  unfold inL
  rw [List.any_eq_true]
  constructor
  · rintro ⟨z, hz, e⟩
    rw [eqB_plain (plainL_all.mp hl z hz) hd] at e
    exact e ▸ hz
  · intro h
    exact ⟨d, h, (eqB_plain hd hd).mpr rfl⟩
theorem plain_strs (ss : List Str) : plainL (ss.map D.str) = true := plainL_all.mpr fun d hd => by
  obtain ⟨s, _, rfl⟩ := List.mem_map.mp hd
  rfl
theorem depL_le {l : List D} {n : Nat} (h : ∀ d ∈ l, dep d ≤ n) : dep (.lst l) ≤ n + 1 ∧ dep (.tup l) ≤ n + 1 := by
  have : PyData.depthAll (pyL l) ≤ n := by
    induction l with
    | nil => exact Nat.zero_le _
    | cons d r ih =>
      rw [pyL, PyData.depthAll]
      have h1 : (py d).depth ≤ n := h d List.mem_cons_self
      have h2 := ih fun x hx => h x (List.mem_cons_of_mem _ hx)
      omega
  constructor <;> (show PyData.depthAll (pyL l) + 1 ≤ n + 1; omega)
theorem dep_strs (ss : List Str) : dep (.lst (ss.map D.str)) ≤ 1 := (depL_le (n := 0) fun d hd => by
  obtain ⟨s, _, rfl⟩ := List.mem_map.mp hd
  exact Nat.le_refl _).1
theorem join_len : ∀ ss : List Str, (Str.join "" ss).length = (ss.map (·.length)).sum
  | [] => rfl
  | [x] => by simp [Str.join]
  | x :: y :: r => by
    have := join_len (y :: r)
    show ((x ++ ("" : Str)) ++ Str.join "" (y :: r)).length = _
    rw [Str.length_append, Str.length_append, this]
    rfl
theorem sum_le {ss : List Str} {n : Nat} (h : ∀ s ∈ ss, s.length ≤ n) : (ss.map (·.length)).sum ≤ ss.length * n := by
  induction ss with
  | nil => simp
  | cons s r ih =>
    have h1 := h s List.mem_cons_self
    have h2 := ih fun x hx => h x (List.mem_cons_of_mem _ hx)
    simp only [List.map_cons, List.sum_cons, List.length_cons, Nat.add_mul, Nat.one_mul]
    omega
theorem at_of {α : Type} {xs : List α} {i : Int} (h0 : 0 ≤ i) (h1 : i < xs.length) : ∃ x, xs[i.toNat]? = some x ∧ atI xs i = some x := by
  obtain ⟨x, hx⟩ : ∃ x, xs[i.toNat]? = some x := ⟨_, List.getElem?_eq_getElem (by omega)⟩
  refine ⟨x, hx, ?_⟩
  have := atI_nat hx
  rwa [Int.toNat_of_nonneg h0] at this
theorem ix_str {s : Str} {i : Int} {Q : D → Prop} (hl : s.length ≤ 1000) (h0 : 0 ≤ i) (h1 : i < s.length) (h : ∀ c, Q (.str ⟨#[c]⟩)) : ixD (.str s) (.int i) Q := by
  obtain ⟨c, _, hc⟩ := at_of (xs := s.cps.toList) h0 (by rw [Array.length_toList]; exact h1)
  show s.length ≤ sizeLine ∧ (match atI s.cps.toList i with | some c => Q (.str ⟨#[c]⟩) | none => False)
  rw [hc]
  exact ⟨le_line hl, h c⟩
theorem ix_lst {l : List D} {i : Int} {Q : D → Prop} (h0 : 0 ≤ i) (h1 : i < l.length) (h : ∀ d, l[i.toNat]? = some d → Q d) : ixD (.lst l) (.int i) Q := by
  obtain ⟨c, h2, hc⟩ := at_of (xs := l) h0 h1
  show (match atI l i with | some d => Q d | none => False)
  rw [hc]
  exact h c h2
theorem cutS_len (s : Str) (lo hi : Option Int) : (cutS s lo hi).length ≤ s.length := by
  show (((s.cps.toList.drop _).take _).toArray).size ≤ s.cps.size
  rw [List.size_toArray, List.length_take, List.length_drop]
  simp; omega
theorem join_strs {sep : Str} {ss : List Str} {Q : D → Prop} (h1 : (ss.map (·.length)).sum + ss.length * sep.length ≤ 16777216) (h : Q (.str (Str.join sep ss))) : joinD sep (.lst (ss.map D.str)) Q := by
  show (match strsOf (ss.map D.str) with | some ss => (ss.map (·.length)).sum + ss.length * sep.length ≤ 16777216 ∧ Q (.str (Str.join sep ss)) | none => False)
  rw [strsOf_map]
  exact ⟨h1, h⟩
theorem strs_of_mem : ∀ {l : List D}, (∀ d ∈ l, ∃ s, d = .str s) → ∃ ss : List Str, l = ss.map D.str
  | [], _ => ⟨[], rfl⟩
  | d :: r, h => by
    obtain ⟨s, rfl⟩ := h d List.mem_cons_self
    obtain ⟨ss, rfl⟩ := strs_of_mem fun x hx => h x (List.mem_cons_of_mem _ hx)
    exact ⟨s :: ss, rfl⟩
theorem perm_strs {l : List D} {w : List Str} (h : l.Perm (w.map D.str)) : ∃ w' : List Str, l = w'.map D.str ∧ w'.length = w.length ∧ (∀ s, s ∈ w' ↔ s ∈ w) ∧ (w.Nodup → w'.Nodup) := by
  obtain ⟨w', rfl⟩ := strs_of_mem (l := l) fun d hd => by
    obtain ⟨s, _, rfl⟩ := List.mem_map.mp (h.mem_iff.mp hd)
    exact ⟨s, rfl⟩
  have inj : ∀ a b : Str, D.str a = D.str b → a = b := fun a b h => by cases h; rfl
  have mm : ∀ (l : List Str) (s : Str), D.str s ∈ l.map D.str ↔ s ∈ l := fun l s => by
    rw [List.mem_map]
    exact ⟨fun ⟨x, hx, e⟩ => by cases e; exact hx, fun h => ⟨s, h, rfl⟩⟩
  refine ⟨w', rfl, by simpa using h.length_eq, fun s => ?_, fun hn => ?_⟩
  · rw [← mm w' s, ← mm w s, h.mem_iff]
  · have : (w.map D.str).Nodup := by
      rw [List.nodup_iff_pairwise_ne, List.pairwise_map]
      exact (List.nodup_iff_pairwise_ne.mp hn).imp fun hne e => hne (inj _ _ e)
    have := h.nodup_iff.mpr this
    rw [List.nodup_iff_pairwise_ne, List.pairwise_map] at this
    exact List.nodup_iff_pairwise_ne.mpr (this.imp fun hne e => hne (by rw [e]))
theorem mul_if {s : Str} {b : Bool} {Q : D → Prop} (hs : s.length ≤ 1) (h : ∀ t : Str, t.length ≤ 1 → Q (.str t)) : mulX (.str s) (.int (if b = true then 1 else 0)) Q := by
  unfold mulX
  refine And.intro ?_ ?_
  · cases b
    · exact .inl rfl
    · exact .inr rfl
  · cases b
    · exact h _ (Nat.zero_le _)
    · exact h _ hs
theorem get_str {ss : List Str} {i : Nat} {d : D} (h : (ss.map D.str)[i]? = some d) : ∃ s, s ∈ ss ∧ d = .str s ∧ ss[i]? = some s := by
  rw [List.getElem?_map] at h
  cases hs : ss[i]? with
  | none => rw [hs] at h; cases h
  | some s => rw [hs] at h; cases h; exact ⟨s, List.mem_of_getElem? hs, rfl, rfl⟩
def sd__law_names : SpD := fun ds Q => ∃ a m, ds = [.box a, .int m] ∧ 0 ≤ m ∧ m ≤ 60 ∧ ∀ ss : List Str, (ss.length : Int) = m → (∀ s ∈ ss, s.length ≤ 100) → Q (.lst (ss.map D.str))
theorem len__law_names (ds : List D) (Q : D → Prop) (h : sd__law_names ds Q) : ds.length = 2 := by obtain ⟨a, m, rfl, _⟩ := h; rfl
abbrev st__law_names : Stmt := top 6
abbrev N__law_names : List Str := ["_law_box_here", "_law_many", "_law_letters", "_law_words", "_law_stem", "_law_at", "_law_first", "_law_form", "_law_found", "_law_pairs", "_law_k", "_law_letter", "_law_long", "_law_ends", "_law_odd", "_law_some", "_law_word"]
theorem sc__law_names : FnScope N__law_names ["_law_box_here", "_law_many"] (defScope st__law_names) := ⟨rfl, rfl, rfl, by decide +kernel, rfl, by decide +kernel, by decide +kernel⟩
def t__law_names : TDS :=
  dSeq (dAsg (dC (.str "abcdefghijklmnopqrstuvwxyz")) 2)
  (dSeq (dAsg (dC (.lst (List.map D.str ["places", "edge", "rope", "party", "pull", "row", "undo", "show", "reach", "haul", "rest", "free", "nobody", "still", "length", "a"]))) 3)
  (dSeq (dAsg (dJoin (dC (.str "")) (dLc (iRange1 (dCall sd__law_take (dCons (dVar 0) (dCons (dC (.int 5)) (dNil))))) (dgName 10) (dYes) (dBin ixD (.sl 2) (.ex (dCall sd__law_take (dCons (dVar 0) (dCons (dC (.int 26)) (dNil)))))) [10])) 4)
  (dSeq (dPars [.im (dCall sd__law_take (dCons (dVar 0) (dCons (dBin addX (.ex (dB1 lenD (.sl 4))) (.ex (dC (.int 1)))) (dNil)))), .im (dCall sd__law_take (dCons (dVar 0) (dCons (dC (.int 26)) (dNil)))), .im (dCall sd__law_take (dCons (dVar 0) (dCons (dC (.int 5)) (dNil))))] [5, 6, 7])
  (dSeq (dPars [.ow (dLst (dNil)), .im (dCall sd__law_mixed (dCons (dVar 0) (dCons (dVar 3) (dNil)))), .ow (dLst (dCons (dC (.str "a")) (dCons (dC (.str "b")) (dNil))))] [8, 3, 9])
  (dSeq (dFor (iRange1 (dVar 1)) (dgName 10) (dSeq (dAsg (dBin addX (.ex (dBin ixD (.sl 2) (.ex (dBin modD (.ex (dBin addX (.sl 6) (.ex (dBin mulD (.ex (dC (.int 7))) (.sl 10))))) (.ex (dC (.int 26))))))) (.ex (dBin mulX (.ex (dBin ixD (.sl 2) (.ex (dBin fdivD (.sl 10) (.ex (dC (.int 26))))))) (.ex (dB1 intD (.ex (dBin (gtD) (.sl 10) (.ex (dC (.int 25)))))))))) 11)
  (dSeq (dDrop (dAppend 8 (dBin addX (.ex (dBin addX (.ex (dSl (.sl 4) (dP0) (dP1 (dVar 5)))) (.sl 11))) (.ex (dSl (.sl 4) (dP1 (dVar 5)) (dP0))))))
  (dDrop (dExtend 9 (dLst (dCons (dBin addX (.ex (dBin ixD (.sl 9) (.sl 10))) (.ex (dC (.str "a")))) (dCons (dBin addX (.ex (dBin ixD (.sl 9) (.sl 10))) (.ex (dC (.str "b")))) (dNil)))))))))
  (dSeq (dAsg (dJoin (dC (.str "")) (dLc (iRange1 (dC (.int 5))) (dgName 10) (dYes) (dBin ixD (.sl 2) (.ex (dCall sd__law_take (dCons (dVar 0) (dCons (dC (.int 25)) (dNil)))))) [10])) 12)
  (dSeq (dAsg (dLc (iRange1 (dB2 min2D (dVar 1) (dC (.int 26)))) (dgName 10) (dYes) (dBin addX (.sl 12) (.ex (dBin ixD (.sl 2) (.ex (dBin modD (.ex (dBin addX (.sl 6) (.ex (dBin mulD (.ex (dC (.int 7))) (.sl 10))))) (.ex (dC (.int 26)))))))) [10]) 13)
  (dSeq (dAsg (dBin addX (.ex (dLc (iSeq (dVar 3)) (dgName 16) (dtBin (inDn true) (.sl 16) (.sl 8)) (dVar 16) [16])) (.sl 8)) 14)
  (dSeq (dAsg (dLst (dCons (dVar 14) (dCons (dVar 9) (dCons (dBin ixD (.ex (dLst (dCons (dVar 13) (dCons (dVar 8) (dNil))))) (.ex (dB1 intD (.ex (dBin (gtD) (.sl 1) (.ex (dC (.int 26)))))))) (dCons (dVar 8) (dCons (dVar 8) (dNil))))))) 15)
  (dRet (dCall sd__law_mixed (dCons (dVar 0) (dCons (dSl (.ex (dBin ixD (.sl 15) (.sl 7))) (dP0) (dP1 (dVar 1))) (dNil))))))))))))))
theorem pure__law_names (ds : List D) (Q : D → Prop) (h : sd__law_names ds Q) : t__law_names { nx := fun _ => Q .non, rt := Q } (startD 17 ds) := by
  obtain ⟨a, m, rfl, m0, m1, q⟩ := h
  -- the stem
  refine Exists.intro a (Exists.intro 5 (And.intro rfl (And.intro (by decide) (And.intro (by decide) fun n n0 n1 => ?_))))
  refine And.intro ⟨by omega, by omega⟩ ?_
  refine Exists.intro (fun (i : Nat) (acc : List D) (δ : DSt) => ∃ ss : List Str, acc = ss.map D.str ∧ (∀ s ∈ ss, s.length ≤ 1) ∧ ss.length = i ∧ ∃ W, δ = [.im (.box a), .im (.int m), .im (.str "abcdefghijklmnopqrstuvwxyz"), .im (.lst W), .no, .no, .no, .no, .no, .no, .no, .no, .no, .no, .no, .no, .no] ∧ ∃ w, W = List.map D.str w ∧ w.length = 16 ∧ ∀ s ∈ w, s.length ≤ 100) ?_
  refine And.intro ?_ (And.intro ?_ ?_)
  · exact ⟨[], rfl, (fun _ h => nomatch h), rfl, _, rfl, _, rfl, rfl, by decide +kernel⟩
  · rintro i d acc δ' hd ⟨ss, rfl, hs, hi, W, rfl, w, rfl, wl, wb⟩
    refine And.intro rfl (Exists.intro a (Exists.intro 26 (And.intro rfl (And.intro (by decide) (And.intro (by decide) fun j j0 j1 => ?_)))))
    refine ix_str (by decide +kernel) j0 (by exact j1) fun c => ?_
    have := lt_of_get hd
    rw [rngD_len] at this
    refine And.intro (line_of (by rw [List.length_map]; omega)) ?_
    refine ⟨ss ++ [⟨#[c]⟩], by simp, fun s hs' => ?_, by simp; omega, _, rfl, w, rfl, wl, wb⟩
    rcases List.mem_append.mp hs' with h | h
    · exact hs s h
    · rw [List.mem_singleton] at h; subst h; exact Nat.le_refl _
  rintro acc δ' ⟨ss, rfl, hs, hi, W, rfl, w, rfl, wl, wb⟩
  rw [rngD_len] at hi
  have hsum := sum_le hs
  refine join_strs (by show _ + ss.length * 0 ≤ _; omega) ?_
  have hstem : (Str.join "" ss).length ≤ 4 := by rw [join_len]; omega
  generalize Str.join "" ss = stem at hstem
  -- where, first, form
  refine And.intro (le_line (by omega)) (add_int ?_)
  refine (Exists.intro a (Exists.intro ((stem.length : Int) + 1) (And.intro rfl (And.intro (by omega) (And.intro (by omega) fun at_ at0 at1 => ?_)))))
  refine Exists.intro a (Exists.intro 26 (And.intro rfl (And.intro (by decide) (And.intro (by decide) fun fi fi0 fi1 => ?_))))
  refine Exists.intro a (Exists.intro 5 (And.intro rfl (And.intro (by decide) (And.intro (by decide) fun fo fo0 fo1 => ?_))))
  refine Exists.intro a (Exists.intro (w.map D.str) (And.intro (.inl rfl) (And.intro (by rw [List.length_map]; omega) fun l' hp => ?_)))
  obtain ⟨w', rfl, wl', wm, _⟩ := perm_strs hp
  have wb' : ∀ s ∈ w', s.length ≤ 100 := fun s h => wb s ((wm s).mp h)
  refine And.intro ⟨by omega, by omega⟩ ?_
  refine Exists.intro (fun (i : Nat) (δ : DSt) => ∃ (found pairs : List Str) (c10 c11 : Sl), δ = [.im (.box a), .im (.int m), .im (.str "abcdefghijklmnopqrstuvwxyz"), .im (.lst (w'.map D.str)), .im (.str stem), .im (.int at_), .im (.int fi), .im (.int fo), .ow (.lst (found.map D.str)), .ow (.lst (pairs.map D.str)), c10, c11, .no, .no, .no, .no, .no] ∧
    found.length = i ∧ pairs.length = 2 * i + 2 ∧ (∀ s ∈ found, s.length ≤ 100) ∧ (∀ s ∈ pairs, s.length ≤ i + 1)) ?_
  refine And.intro ?_ (And.intro ?_ ?_)
  · exact ⟨[], ["a", "b"], _, _, rfl, rfl, rfl, (fun _ h => nomatch h), by decide +kernel⟩
  · rintro i d δ' hd ⟨found, pairs, c10, c11, rfl, fl, pl, fb, pb⟩
    have hi2 := lt_of_get hd
    rw [rngD_len] at hi2
    rw [rngD_get hi2] at hd
    cases hd
    rw [Int.zero_add]
    refine And.intro rfl (And.intro rfl (And.intro (.inl ⟨by decide, by decide⟩) (add_int (And.intro (by decide) ?_))))
    refine ix_str (by decide +kernel) (Int.emod_nonneg _ (by decide)) (Int.emod_lt_of_pos _ (by decide)) fun c => ?_
    refine And.intro rfl (And.intro rfl (And.intro ⟨by decide, by decide⟩ ?_))
    refine ix_str (by decide +kernel) (by omega) (by show (i : Int) / 26 < 26; omega) fun c2 => ?_
    refine And.intro rfl ?_
    refine mul_if (by exact Nat.le_refl 1) fun c2' hc2 => ?_
    refine add_str (by show 1 + c2'.length ≤ 1000; omega) fun le hle _ => ?_
    have hle : le.length ≤ 2 := by rw [hle]; show 1 + c2'.length ≤ 2; omega
    have l1 := cutS_len stem none (some at_)
    have l2 := cutS_len stem (some at_) none
    refine And.intro rfl (And.intro rfl (And.intro (le_line (by omega)) ?_))
    refine add_str (by omega) fun t1 ht1 _ => ?_
    refine And.intro rfl (And.intro (le_line (by omega)) ?_)
    refine add_str (by omega) fun t2 ht2 _ => ?_
    refine And.intro (line_of (by rw [List.length_map]; omega)) ?_
    refine And.intro rfl ?_
    refine ix_lst (by omega) (by rw [List.length_map]; omega) fun d1 hd1 => ?_
    obtain ⟨s1, m1', rfl, _⟩ := get_str hd1
    have := pb s1 m1'
    refine add_str (by show s1.length + 1 ≤ 1000; omega) fun t3 ht3 _ => ?_
    refine ix_lst (by omega) (by rw [List.length_map]; omega) fun d1 hd1 => ?_
    obtain ⟨s2, m2', rfl, _⟩ := get_str hd1
    have := pb s2 m2'
    refine add_str (by show s2.length + 1 ≤ 1000; omega) fun t4 ht4 _ => ?_
    have ht3 : t3.length = s1.length + 1 := ht3
    have ht4 : t4.length = s2.length + 1 := ht4
    refine And.intro (Nat.le_of_lt (line_of (by rw [List.length_map]; show pairs.length + 2 ≤ _; omega))) ?_
    refine ⟨found ++ [t2], pairs ++ [t3, t4], .im (.int i), .im (.str le), ?_, by simp; omega, by simp; omega, fun s hs' => ?_, fun s hs' => ?_⟩
    · rw [List.map_append, List.map_append]; rfl
    · rcases List.mem_append.mp hs' with h | h
      · exact fb s h
      · rw [List.mem_singleton] at h; subst h; omega
    · rcases List.mem_append.mp hs' with h | h
      · have := pb s h; omega
      · simp only [List.mem_cons, List.not_mem_nil, or_false] at h
        rcases h with rfl | rfl <;> omega
  · rintro δ' ⟨found, pairs, c10, c11, rfl, fl, pl, fb, pb⟩
    rw [rngD_len] at fl pl pb
    -- the long stem
    refine And.intro ⟨by decide, by decide⟩ ?_
    refine Exists.intro (fun (i : Nat) (acc : List D) (δ : DSt) => ∃ ss : List Str, acc = ss.map D.str ∧ (∀ s ∈ ss, s.length ≤ 1) ∧ ss.length = i ∧ δ = [.im (.box a), .im (.int m), .im (.str "abcdefghijklmnopqrstuvwxyz"), .im (.lst (w'.map D.str)), .im (.str stem), .im (.int at_), .im (.int fi), .im (.int fo), .ow (.lst (found.map D.str)), .ow (.lst (pairs.map D.str)), .no, c11, .no, .no, .no, .no, .no]) ?_
    refine And.intro ?_ (And.intro ?_ ?_)
    · exact ⟨[], rfl, (fun _ h => nomatch h), rfl, rfl⟩
    · rintro i d acc δ' hd ⟨ss, rfl, hs, hi, rfl⟩
      refine And.intro rfl (Exists.intro a (Exists.intro 25 (And.intro rfl (And.intro (by decide) (And.intro (by decide) fun j j0 j1 => ?_)))))
      refine ix_str (by decide +kernel) j0 (by show j < 26; omega) fun c => ?_
      have := lt_of_get hd
      rw [rngD_len] at this
      have this : i < 5 := this
      refine And.intro (line_of (by rw [List.length_map]; omega)) ?_
      refine ⟨ss ++ [⟨#[c]⟩], by simp, fun s hs' => ?_, by simp; omega, rfl⟩
      rcases List.mem_append.mp hs' with h | h
      · exact hs s h
      · rw [List.mem_singleton] at h; subst h; exact Nat.le_refl _
    rintro acc δ' ⟨ss, rfl, hs, hi, rfl⟩
    rw [rngD_len] at hi
    have hi : ss.length = 5 := hi
    have hsum := sum_le hs
    refine join_strs (by show _ + ss.length * 0 ≤ _; omega) ?_
    have hlong : (Str.join "" ss).length ≤ 5 := by rw [join_len]; omega
    generalize Str.join "" ss = long at hlong
    -- the ends
    refine And.intro ⟨by show _ ≤ (if (26 : Int) < m then 26 else m); split <;> omega, by show (if (26 : Int) < m then 26 else m) < _; split <;> omega⟩ ?_
    refine Exists.intro (fun (i : Nat) (acc : List D) (δ : DSt) => ∃ es : List Str, acc = es.map D.str ∧ (∀ s ∈ es, s.length ≤ 100) ∧ es.length = i ∧ δ = [.im (.box a), .im (.int m), .im (.str "abcdefghijklmnopqrstuvwxyz"), .im (.lst (w'.map D.str)), .im (.str stem), .im (.int at_), .im (.int fi), .im (.int fo), .ow (.lst (found.map D.str)), .ow (.lst (pairs.map D.str)), .no, c11, .im (.str long), .no, .no, .no, .no]) ?_
    refine And.intro ?_ (And.intro ?_ ?_)
    · exact ⟨[], rfl, (fun _ h => nomatch h), rfl, rfl⟩
    · rintro i d acc δ' hd ⟨es, rfl, hs, hi, rfl⟩
      have hi2 := lt_of_get hd
      rw [rngD_len] at hi2
      rw [rngD_get hi2] at hd
      cases hd
      have hi3 : i < 60 := by
        have : (if (26 : Int) < m then 26 else m).toNat ≤ 60 := by split <;> omega
        exact Nat.lt_of_lt_of_le hi2 this
      refine And.intro rfl (And.intro rfl (And.intro rfl (And.intro (.inl ⟨by decide, by decide⟩) (add_int (And.intro (by decide) ?_)))))
      refine ix_str (by decide +kernel) (Int.emod_nonneg _ (by decide)) (Int.emod_lt_of_pos _ (by decide)) fun c => ?_
      refine add_str (by show long.length + 1 ≤ 1000; omega) fun t ht _ => ?_
      have ht : t.length = long.length + 1 := ht
      refine And.intro (line_of (by rw [List.length_map]; omega)) ?_
      refine ⟨es ++ [t], by simp, fun s hs' => ?_, by simp; omega, rfl⟩
      rcases List.mem_append.mp hs' with h | h
      · exact hs s h
      · rw [List.mem_singleton] at h; subst h; omega
    rintro acc δ' ⟨es, rfl, esb, esl, rfl⟩
    rw [rngD_len] at esl
    -- the odd
    refine Exists.intro (fun (i : Nat) (acc : List D) (δ : DSt) => ∃ os : List Str, acc = os.map D.str ∧ (∀ s ∈ os, s.length ≤ 100) ∧ os.length ≤ i ∧ δ = [.im (.box a), .im (.int m), .im (.str "abcdefghijklmnopqrstuvwxyz"), .im (.lst (w'.map D.str)), .im (.str stem), .im (.int at_), .im (.int fi), .im (.int fo), .ow (.lst (found.map D.str)), .ow (.lst (pairs.map D.str)), .no, c11, .im (.str long), .im (.lst (es.map D.str)), .no, .no, .no]) ?_
    refine And.intro ?_ (And.intro ?_ ?_)
    · exact ⟨[], rfl, (fun _ h => nomatch h), Nat.le_refl _, rfl⟩
    · rintro i d acc δ' hd ⟨os, rfl, hs, hi, rfl⟩
      have hi2 := lt_of_get hd
      rw [List.length_map] at hi2
      obtain ⟨s, sm, rfl, _⟩ := get_str hd
      refine And.intro ⟨rfl, plainL_dat (plain_strs found), Nat.zero_le _, Nat.le_trans (dep_strs found) (by decide)⟩ ?_
      refine if_b (fun _ => ?_) (fun _ => ?_)
      · refine And.intro (line_of (by rw [List.length_map]; omega)) ?_
        refine ⟨os ++ [s], by simp, fun s' hs' => ?_, by simp; omega, rfl⟩
        rcases List.mem_append.mp hs' with h | h
        · exact hs s' h
        · rw [List.mem_singleton] at h; subst h; exact wb' _ sm
      · exact ⟨os, rfl, hs, by omega, rfl⟩
    rintro acc δ' ⟨os, rfl, osb, osl, rfl⟩
    rw [List.length_map] at osl
    refine add_lst (by rw [List.length_map, List.length_map]; omega) ?_
    -- the choice
    refine And.intro rfl ?_
    have good : ∀ d : D, (∃ ss : List Str, d = .lst (ss.map D.str) ∧ m ≤ ss.length ∧ ss.length ≤ 500 ∧ ∀ s ∈ ss, s.length ≤ 100) → slD d none (some m) fun z => sd__law_mixed [.box a, z] Q := fun d ⟨ss, e, h1, h2, h3⟩ => by
      subst e
      have hcut : cutL ss none (some m) = ss.take m.toNat := by
        unfold cutL
        have e1 : HT.sIx ss.length 0 none = 0 := rfl
        have e2 : HT.sIx ss.length ss.length (some m) = m.toNat := by
          show (if m < 0 then _ else min m.toNat ss.length) = m.toNat
          rw [if_neg (by omega)]
          omega
        rw [e1, e2, List.drop_zero, Nat.sub_zero]
      refine Exists.intro a (Exists.intro ((ss.take m.toNat).map D.str) (And.intro (.inl ?_) (And.intro (by simp; omega) fun l' hp => ?_)))
      · rw [← hcut, ← cutL_map]
      · obtain ⟨w2, rfl, w2l, w2m, _⟩ := perm_strs hp
        refine q w2 ?_ fun s hs => h3 s (List.mem_of_mem_take ((w2m s).mp hs))
        rw [w2l, List.length_take]
        omega
    have g1 : ∃ ss : List Str, D.lst (os.map D.str ++ found.map D.str) = .lst (ss.map D.str) ∧ m ≤ ss.length ∧ ss.length ≤ 500 ∧ ∀ s ∈ ss, s.length ≤ 100 := ⟨os ++ found, by rw [List.map_append], by simp; omega, by simp; omega, fun s hs => by
      rcases List.mem_append.mp hs with h | h
      · exact osb s h
      · exact fb s h⟩
    have g2 : ∃ ss : List Str, D.lst (pairs.map D.str) = .lst (ss.map D.str) ∧ m ≤ ss.length ∧ ss.length ≤ 500 ∧ ∀ s ∈ ss, s.length ≤ 100 := ⟨pairs, rfl, by omega, by omega, fun s hs => by have := pb s hs; omega⟩
    have g3 : ∃ ss : List Str, D.lst (found.map D.str) = .lst (ss.map D.str) ∧ m ≤ ss.length ∧ ss.length ≤ 500 ∧ ∀ s ∈ ss, s.length ≤ 100 := ⟨found, rfl, by omega, by omega, fb⟩
    refine ix_lst (by split <;> omega) (by show _ < (2 : Int); split <;> omega) fun d hd => ?_
    have gd : ∃ ss : List Str, d = .lst (ss.map D.str) ∧ m ≤ ss.length ∧ ss.length ≤ 500 ∧ ∀ s ∈ ss, s.length ≤ 100 := by
      by_cases hm : 26 < m
      · have : ((fun i j => decide (j < i)) m 26 : Bool) = true := decide_eq_true hm
        rw [this] at hd
        have hd : some (D.lst (found.map D.str)) = some d := hd
        cases hd
        exact g3
      · have : ((fun i j => decide (j < i)) m 26 : Bool) = false := decide_eq_false hm
        rw [this] at hd
        have hd : some (D.lst (es.map D.str)) = some d := hd
        cases hd
        have esl : es.length = (if (26 : Int) < m then 26 else m).toNat := esl
        rw [if_neg hm] at esl
        exact ⟨es, rfl, by omega, by omega, esb⟩
    refine ix_lst fo0 fo1 fun d2 hd2 => ?_
    refine good d2 ?_
    have := List.mem_of_getElem? hd2
    simp only [List.mem_cons, List.not_mem_nil, or_false] at this
    rcases this with rfl | rfl | rfl | rfl | rfl
    · exact g1
    · exact g2
    · exact gd
    · exact g3
    · exact g3
theorem ok__law_names {P : Program} {w : World} {K : PySem.W.Frag} {mg : Str → Option Value} {base : Heap} {f : Addr} {fd : FuncData} (F : FnP K "_law_names" st__law_names f fd) (c__law_mixed : CalD P w K mg base 3 "_law_mixed" sd__law_mixed) (c__law_take : CalD P w K mg base 2 "_law_take" sd__law_take) (m_int : mg "int" = none) (m_range : mg "range" = none) (m_min : mg "min" = none) (m_len : mg "len" = none) : FnOk P w K mg base CX0 4 f fd ["_law_box_here", "_law_many"] (toSp K sd__law_names) :=
  fn_d (k := 3) (t := t__law_names) F sc__law_names len__law_names (fun cdv A outer s H E e hr => dss_cons (ds_set (i := 2) sc__law_names.nd rfl (Or.inr rfl) (de_str (by decide +kernel)))
    (dss_cons (ds_set (i := 3) sc__law_names.nd rfl (Or.inl rfl) (DO.de (de_splitW (by decide +kernel) (by decide +kernel) rfl (by decide +kernel))))
    (dss_cons (ds_set (i := 4) sc__law_names.nd rfl (Or.inl rfl) (de_join (de_str (by decide +kernel)) (DO.de (do_lc (own := [("_law_k", 10)]) (fp := [10]) rfl sc__law_names.nd (di_range1 rfl m_range (de_call c__law_take hr (by decide) rfl (da_cons (de_var (pv 0)) (da_cons (de_int) (da_nil))))) (blkOk_by (N := N__law_names) (sc := defScope st__law_names) (own := [("_law_k", 10)]) (by decide +kernel)) (fun _ _ _ _ _ => dg_name (i := 10) sc__law_names.nd rfl (Or.inl rfl)) (fun _ _ _ _ _ => dts_nil) (fun _ _ _ _ _ => de_ix hr (osl (pv 2)) (oex (de_call c__law_take hr (by decide) rfl (da_cons (de_var (pv 0)) (da_cons (de_int) (da_nil))))))))))
    (dss_cons (ds_parT (is := [5, 6, 7]) rfl (.cons (pg_name (i := 5) sc__law_names.nd rfl (Or.inl rfl)) (.cons (pg_name (i := 6) sc__law_names.nd rfl (Or.inr rfl)) (.cons (pg_name (i := 7) sc__law_names.nd rfl (Or.inl rfl)) (Nms.nil)))) (ea_cons (v := .im (dCall sd__law_take (dCons (dVar 0) (dCons (dBin addX (.ex (dB1 lenD (.sl 4))) (.ex (dC (.int 1)))) (dNil))))) (eim (de_call c__law_take hr (by decide) rfl (da_cons (de_var (pv 0)) (da_cons (de_bin opd_addX (oex (de_len (osl (pv 4)) rfl m_len)) (oex (de_int))) (da_nil))))) (ea_cons (v := .im (dCall sd__law_take (dCons (dVar 0) (dCons (dC (.int 26)) (dNil))))) (eim (de_call c__law_take hr (by decide) rfl (da_cons (de_var (pv 0)) (da_cons (de_int) (da_nil))))) (ea_cons (v := .im (dCall sd__law_take (dCons (dVar 0) (dCons (dC (.int 5)) (dNil))))) (eim (de_call c__law_take hr (by decide) rfl (da_cons (de_var (pv 0)) (da_cons (de_int) (da_nil))))) (ea_nil)))) rfl (by decide))
    (dss_cons (ds_parT (is := [8, 3, 9]) rfl (.cons (pg_name (i := 8) sc__law_names.nd rfl (Or.inr rfl)) (.cons (pg_name (i := 3) sc__law_names.nd rfl (Or.inl rfl)) (.cons (pg_name (i := 9) sc__law_names.nd rfl (Or.inl rfl)) (Nms.nil)))) (ea_cons (v := .ow (dLst (dNil))) (eow (do_lst (da_nil))) (ea_cons (v := .im (dCall sd__law_mixed (dCons (dVar 0) (dCons (dVar 3) (dNil))))) (eim (de_call c__law_mixed hr (by decide) rfl (da_cons (de_var (pv 0)) (da_cons (de_var (pv 3)) (da_nil))))) (ea_cons (v := .ow (dLst (dCons (dC (.str "a")) (dCons (dC (.str "b")) (dNil))))) (eow (do_lst (da_cons (de_str (by decide +kernel)) (da_cons (de_str (by decide +kernel)) (da_nil))))) (ea_nil)))) rfl (by decide))
    (dss_cons (ds_for PassesOwn.never rfl (di_range1 rfl m_range (de_var (pv 1))) (dg_name (i := 10) sc__law_names.nd rfl (Or.inl rfl)) (dss_cons (ds_set (i := 11) sc__law_names.nd rfl (Or.inl rfl) (de_bin opd_addX (oex (de_ix hr (osl (pv 2)) (oex (de_bin opd_mod (oex (de_bin opd_addX (osl (pv 6)) (oex (de_bin opd_mul (oex (de_int)) (osl (pv 10)))))) (oex (de_int)))))) (oex (de_bin opd_mulX (oex (de_ix hr (osl (pv 2)) (oex (de_bin opd_fdiv (osl (pv 10)) (oex (de_int)))))) (oex (de_int1 (oex (de_cmp opd_gt (osl (pv 10)) (oex (de_int)) rfl)) rfl m_int))))))
    (dss_cons (ds_expr (de_append (pv 8) (de_bin opd_addX (oex (de_bin opd_addX (oex (de_slice (osl (pv 4)) (dp_none) (dp_some (de_var (pv 5))))) (osl (pv 11)))) (oex (de_slice (osl (pv 4)) (dp_some (de_var (pv 5))) (dp_none))))))
    (dss_one (ds_expr (de_extend (pv 9) (DO.de (do_lst (da_cons (de_bin opd_addX (oex (de_ix hr (osl (pv 9)) (osl (pv 10)))) (oex (de_str (by decide +kernel)))) (da_cons (de_bin opd_addX (oex (de_ix hr (osl (pv 9)) (osl (pv 10)))) (oex (de_str (by decide +kernel)))) (da_nil)))))))))))
    (dss_cons (ds_set (i := 12) sc__law_names.nd rfl (Or.inr rfl) (de_join (de_str (by decide +kernel)) (DO.de (do_lc (own := [("_law_k", 10)]) (fp := [10]) rfl sc__law_names.nd (di_range1 rfl m_range (de_int)) (blkOk_by (N := N__law_names) (sc := defScope st__law_names) (own := [("_law_k", 10)]) (by decide +kernel)) (fun _ _ _ _ _ => dg_name (i := 10) sc__law_names.nd rfl (Or.inl rfl)) (fun _ _ _ _ _ => dts_nil) (fun _ _ _ _ _ => de_ix hr (osl (pv 2)) (oex (de_call c__law_take hr (by decide) rfl (da_cons (de_var (pv 0)) (da_cons (de_int) (da_nil))))))))))
    (dss_cons (ds_setLc (i := 13) (own := [("_law_k", 10)]) (fp := [10]) rfl sc__law_names.nd rfl rfl (sw_true rfl rfl rfl (by decide +kernel)) (di_range1 rfl m_range (de_min2 rfl (de_var (pv 1)) (de_int) rfl m_min)) (blkOk_by (N := N__law_names) (sc := defScope st__law_names) (own := [("_law_k", 10)]) (by decide +kernel)) (fun _ _ _ _ _ => dg_name (i := 10) sc__law_names.nd rfl (Or.inl rfl)) (fun _ _ _ _ _ => dts_nil) (fun _ _ _ _ _ => de_bin opd_addX (osl (pv 12)) (oex (de_ix hr (osl (pv 2)) (oex (de_bin opd_mod (oex (de_bin opd_addX (osl (pv 6)) (oex (de_bin opd_mul (oex (de_int)) (osl (pv 10)))))) (oex (de_int))))))))
    (dss_cons (ds_set (i := 14) sc__law_names.nd rfl (Or.inl rfl) (de_bin opd_addX (oex (DO.de (do_lc (own := [("_law_word", 16)]) (fp := [16]) rfl sc__law_names.nd (di_seq (de_var (pv 3))) (blkOk_by (N := N__law_names) (sc := defScope st__law_names) (own := [("_law_word", 16)]) (by decide +kernel)) (fun _ _ _ _ _ => dg_name (i := 16) sc__law_names.nd rfl (Or.inl rfl)) (fun _ _ _ _ _ => dts_one (dt_cmp (opd_notIn (k0 := 0) (Room.mono (j := 0 + 1) hr (by decide))) (osl (pv 16)) (osl (pv 8)) rfl)) (fun _ _ _ _ _ => de_var (pv 16))))) (osl (pv 8))))
    (dss_cons (ds_set (i := 15) sc__law_names.nd rfl (Or.inl rfl) (DO.de (do_lst (da_cons (de_var (pv 14)) (da_cons (de_var (pv 9)) (da_cons (de_ix hr (oex (DO.de (do_lst (da_cons (de_var (pv 13)) (da_cons (de_var (pv 8)) (da_nil)))))) (oex (de_int1 (oex (de_cmp opd_gt (osl (pv 1)) (oex (de_int)) rfl)) rfl m_int))) (da_cons (de_var (pv 8)) (da_cons (de_var (pv 8)) (da_nil)))))))))
    (dss_one (ds_ret (de_call c__law_mixed hr (by decide) rfl (da_cons (de_var (pv 0)) (da_cons (de_slice (oex (de_ix hr (osl (pv 15)) (osl (pv 7)))) (dp_none) (dp_some (de_var (pv 1)))) (da_nil)))))))))))))))) pure__law_names
/-! ### the plain law: the last of each stays -/
def short : List D → List D
  | [] => []
  | x :: r => if inL x r = true then short r else x :: short r
theorem short_sub : ∀ {l : List D} {x : D}, x ∈ short l → x ∈ l
  | y :: r, x, h => by
    rw [short] at h
    split at h
    · exact List.mem_cons_of_mem _ (short_sub h)
    · rcases List.mem_cons.mp h with rfl | h
      · exact List.mem_cons_self
      · exact List.mem_cons_of_mem _ (short_sub h)
theorem short_mem : ∀ {l : List D} {x : D}, plainL l = true → (x ∈ short l ↔ x ∈ l)
  | [], x, _ => by simp [short]
  | y :: r, x, h => by
    rw [plainL, Bool.and_eq_true] at h
    refine ⟨short_sub, fun hx => ?_⟩
    rw [short]
    split
    · rename_i hin
      rw [short_mem h.2]
      rcases List.mem_cons.mp hx with rfl | hx
      · exact (inL_plain h.1 h.2).mp hin
      · exact hx
    · rcases List.mem_cons.mp hx with rfl | hx
      · exact List.mem_cons_self
      · exact List.mem_cons_of_mem _ ((short_mem h.2).mpr hx)
theorem short_plain {l : List D} (h : plainL l = true) : plainL (short l) = true := plainL_all.mpr fun d hd => plainL_all.mp h d (short_sub hd)
theorem short_nodup : ∀ {l : List D}, plainL l = true → (short l).Nodup
  | [], _ => List.nodup_nil
  | y :: r, h => by
    rw [plainL, Bool.and_eq_true] at h
    rw [short]
    split
    · exact short_nodup h.2
    · rename_i hin
      refine List.nodup_cons.mpr ⟨fun hm => hin ((inL_plain h.1 h.2).mpr (short_sub hm)), short_nodup h.2⟩
theorem short_id : ∀ {l : List D}, plainL l = true → l.Nodup → short l = l
  | [], _, _ => rfl
  | y :: r, h, n => by
    rw [plainL, Bool.and_eq_true] at h
    have n := List.nodup_cons.mp n
    rw [short, if_neg fun hin => n.1 ((inL_plain h.1 h.2).mp hin), short_id h.2 n.2]
theorem short_short {l : List D} (h : plainL l = true) : short (short l) = short l := short_id (short_plain h) (short_nodup h)
theorem short_len : ∀ l : List D, (short l).length ≤ l.length
  | [] => Nat.le_refl _
  | x :: r => by
    have := short_len r
    rw [short]
    split <;> simp <;> omega
def OkRow (l : List D) : Prop := plainL l = true ∧ (∀ d ∈ l, dep d ≤ 10) ∧ l.length ≤ 1000
theorem OkRow.sub {l l' : List D} (h : OkRow l) (hs : ∀ d ∈ l', d ∈ l) (hl : l'.length ≤ 1000) : OkRow l' := ⟨plainL_all.mpr fun d hd => plainL_all.mp h.1 d (hs d hd), fun d hd => h.2.1 d (hs d hd), hl⟩
theorem OkRow.dep {l : List D} (h : OkRow l) : T.dep (.lst l) ≤ 64 ∧ T.dep (.tup l) ≤ 64 := by
  have := depL_le h.2.1
  omega
theorem cutL_drop {α : Type} (l : List α) {i : Nat} (h : i ≤ l.length) : cutL l (some (i : Int)) none = l.drop i := by
  unfold cutL
  rw [HT.sIx_nat, Nat.min_eq_left h, HT.sIx_none, List.take_of_length_le (by simp)]
def sd_shortened : SpD := fun ds Q => ∃ l, (ds = [.lst l] ∨ ds = [.tup l]) ∧ OkRow l ∧ Q (.tup (short l))
theorem len_shortened (ds : List D) (Q : D → Prop) (h : sd_shortened ds Q) : ds.length = 1 := by obtain ⟨l, rfl | rfl, _⟩ := h <;> rfl
abbrev st_shortened : Stmt := top 1
abbrev N_shortened : List Str := ["row", "pulls", "at", "pull"]
theorem sc_shortened : FnScope N_shortened ["row"] (defScope st_shortened) := ⟨rfl, rfl, rfl, by decide +kernel, rfl, by decide +kernel, by decide +kernel⟩
def t_shortened : TDS :=
  dSeq (dAsg (dB1 listD (.sl 0)) 1)
  (dRet (dB1 tupleD (.ex (dLc (iEnumL (dVar 1)) (dgSeq 2 (dgCons (dgName 2) (dgCons (dgName 3) (dgNil)))) (dtBin (inDn true) (.sl 3) (.ex (dSl (.sl 1) (dP1 (dBin addX (.sl 2) (.ex (dC (.int 1))))) (dP0)))) (dVar 3) [2, 3]))))
theorem pure_shortened (ds : List D) (Q : D → Prop) (h : sd_shortened ds Q) : t_shortened { nx := fun _ => Q .non, rt := Q } (startD 4 ds) := by
  obtain ⟨l, hds, ok, q⟩ := h
  have key : ∀ it, ds = [it] → (it = .lst l ∨ it = .tup l) → t_shortened { nx := fun _ => Q .non, rt := Q } (startD 4 ds) := by
    rintro it rfl hit
    have body : (dRet (dB1 tupleD (.ex (dLc (iEnumL (dVar 1)) (dgSeq 2 (dgCons (dgName 2) (dgCons (dgName 3) (dgNil)))) (dtBin (inDn true) (.sl 3) (.ex (dSl (.sl 1) (dP1 (dBin addX (.sl 2) (.ex (dC (.int 1))))) (dP0)))) (dVar 3) [2, 3])))) { nx := fun _ => Q .non, rt := Q } [.im it, .im (.lst l), .no, .no] := by
      refine Exists.intro (fun (i : Nat) (acc : List D) (δ : DSt) => acc ++ short (l.drop i) = short l ∧ acc.length ≤ i ∧ δ = [.im it, .im (.lst l), .no, .no]) ?_
      refine And.intro ?_ (And.intro ?_ ?_)
      · exact ⟨rfl, Nat.le_refl _, rfl⟩
      · rintro i d acc δ' hd ⟨ha, hl, rfl⟩
        have hi := lt_of_get hd
        rw [enumD_len] at hi
        obtain ⟨x, hx⟩ : ∃ x, l[i]? = some x := ⟨_, List.getElem?_eq_getElem hi⟩
        rw [enumD_get hx] at hd
        cases hd
        have hm : x ∈ l := List.mem_of_getElem? hx
        have hdrop : l.drop i = x :: l.drop (i + 1) := by
          rw [List.drop_eq_getElem_cons hi]
          rw [List.getElem?_eq_getElem hi] at hx
          cases hx
          rfl
        have okd : OkRow (l.drop (i + 1)) := ok.sub (fun d hd => List.mem_of_mem_drop hd) (by rw [List.length_drop]; have := ok.2.2; omega)
        have hc : cutL l (some ((i : Int) + 1)) none = l.drop (i + 1) := cutL_drop (i := i + 1) l hi
        refine And.intro rfl (And.intro rfl (And.intro rfl (And.intro rfl (add_int ?_))))
        refine And.intro ?_ ?_
        · rw [hc]
          exact ⟨plain_dat (plainL_all.mp ok.1 x hm), plainL_dat okd.1, Nat.le_trans (ok.2.1 x hm) (by decide), okd.dep.1⟩
        rw [hc]
        refine if_b (fun hb => ?_) (fun hb => ?_)
        · have hn : ¬ inL x (l.drop (i + 1)) = true := by simpa using hb
          refine And.intro (line_of (by have := ok.2.2; omega)) ?_
          refine ⟨?_, by simp; omega, rfl⟩
          rw [← ha, hdrop, short, if_neg hn, List.append_assoc]
          rfl
        · have hn : inL x (l.drop (i + 1)) = true := by simpa using hb
          refine ⟨?_, by omega, rfl⟩
          rw [← ha, hdrop, short, if_pos hn]
      · rintro acc δ' ⟨ha, hl, rfl⟩
        rw [enumD_len, List.drop_length] at ha
        have ha : acc = short l := by simpa [short] using ha
        subst ha
        exact q
    rcases hit with rfl | rfl
    · exact body
    · exact body
  rcases hds with rfl | rfl
  · exact key _ rfl (.inl rfl)
  · exact key _ rfl (.inr rfl)
theorem ok_shortened {P : Program} {w : World} {K : PySem.W.Frag} {mg : Str → Option Value} {base : Heap} {f : Addr} {fd : FuncData} (F : FnP K "shortened" st_shortened f fd) (m_tuple : mg "tuple" = none) (m_enumerate : mg "enumerate" = none) (m_list : mg "list" = none) : FnOk P w K mg base CX0 2 f fd ["row"] (toSp K sd_shortened) :=
  fn_d (k := 1) (t := t_shortened) F sc_shortened len_shortened (fun cdv A outer s H E e hr => dss_cons (ds_set (i := 1) sc_shortened.nd rfl (Or.inr rfl) (DO.de (do_list1 (osl (pv 0)) rfl m_list)))
    (dss_one (ds_ret (de_tuple1 (oex (DO.de (do_lc (own := [("at", 2), ("pull", 3)]) (fp := ([2] ++ ([3] ++ []))) rfl sc_shortened.nd (di_enumL rfl m_enumerate (de_var (pv 1))) (blkOk_by (N := N_shortened) (sc := defScope st_shortened) (own := [("at", 2), ("pull", 3)]) (by decide +kernel)) (fun _ _ _ _ _ => dg_tup rfl (dgs_cons (dg_name (i := 2) sc_shortened.nd rfl (Or.inl rfl)) (dgs_cons (dg_name (i := 3) sc_shortened.nd rfl (Or.inl rfl)) (dgs_nil)))) (fun _ _ _ _ _ => dts_one (dt_cmp (opd_notIn (k0 := 0) (Room.mono (j := 0 + 1) hr (by decide))) (osl (pv 3)) (oex (de_slice (osl (pv 1)) (dp_some (de_bin opd_addX (osl (pv 2)) (oex (de_int)))) (dp_none))) rfl)) (fun _ _ _ _ _ => de_var (pv 3))))) rfl m_tuple)))) pure_shortened
def sd__law_due : SpD := fun ds Q => ∃ l, ds = [.lst l] ∧ OkRow l ∧ Q (.tup (short l))
theorem len__law_due (ds : List D) (Q : D → Prop) (h : sd__law_due ds Q) : ds.length = 1 := by obtain ⟨l, rfl, _⟩ := h; rfl
abbrev st__law_due : Stmt := top 7
abbrev N__law_due : List Str := ["_law_row", "_law_found", "_law_pull"]
theorem sc__law_due : FnScope N__law_due ["_law_row"] (defScope st__law_due) := ⟨rfl, rfl, rfl, by decide +kernel, rfl, by decide +kernel, by decide +kernel⟩
def t__law_due : TDS :=
  dSeq (dAsgO (dLst (dNil)) 1)
  (dSeq (dFor (iSeq (dB1 revD (.ex (dB1 listD (.sl 0))))) (dgName 2) (dIfS (dtBin (inDn true) (.sl 2) (.sl 1)) (dDrop (dAppend 1 (dVar 2))) (dNext)))
  (dRet (dB1 tupleD (.ex (dB1 revD (.sl 1))))))
theorem pure__law_due (ds : List D) (Q : D → Prop) (h : sd__law_due ds Q) : t__law_due { nx := fun _ => Q .non, rt := Q } (startD 3 ds) := by
  obtain ⟨l, rfl, ok, q⟩ := h
  refine Exists.intro (fun (i : Nat) (δ : DSt) => ∃ found c, found.reverse = short (l.drop (l.length - i)) ∧ δ = [.im (.lst l), .ow (.lst found), c]) ?_
  refine And.intro ?_ (And.intro ?_ ?_)
  · exact ⟨[], .no, by simp [short], rfl⟩
  · rintro i d δ' hd ⟨found, c, hf, rfl⟩
    have hi := lt_of_get hd
    rw [List.length_reverse] at hi
    rw [List.getElem?_reverse hi] at hd
    have hdm : d ∈ l := List.mem_of_getElem? hd
    have hj : l.length - 1 - i < l.length := by omega
    have hdrop : l.drop (l.length - (i + 1)) = d :: l.drop (l.length - i) := by
      have e1 : l.length - (i + 1) = l.length - 1 - i := by omega
      have e2 : l.length - i = l.length - 1 - i + 1 := by omega
      rw [e1, e2, List.drop_eq_getElem_cons hj]
      rw [List.getElem?_eq_getElem hj] at hd
      cases hd
      rfl
    have okd : OkRow (l.drop (l.length - i)) := ok.sub (fun d hd => List.mem_of_mem_drop hd) (by rw [List.length_drop]; have := ok.2.2; omega)
    have hmem : ∀ x, x ∈ found ↔ x ∈ l.drop (l.length - i) := fun x => by rw [← List.mem_reverse, hf, short_mem okd.1]
    have okf : OkRow found := okd.sub (fun x hx => (hmem x).mp hx) (by
      have := short_len (l.drop (l.length - i))
      rw [← hf, List.length_reverse] at this
      have := okd.2.2
      omega)
    have hin : inL d found = inL d (l.drop (l.length - i)) := by
      rw [Bool.eq_iff_iff, inL_plain (plainL_all.mp ok.1 d hdm) okf.1, inL_plain (plainL_all.mp ok.1 d hdm) okd.1, hmem]
    refine And.intro ⟨plain_dat (plainL_all.mp ok.1 d hdm), plainL_dat okf.1, Nat.le_trans (ok.2.1 d hdm) (by decide), okf.dep.1⟩ ?_
    refine if_b (fun hb => ?_) (fun hb => ?_)
    · have hn : ¬ inL d (l.drop (l.length - i)) = true := by rw [← hin]; simpa using hb
      refine And.intro rfl (And.intro (line_of (by have := okf.2.2; omega)) ?_)
      refine ⟨found ++ [d], _, ?_, rfl⟩
      rw [List.reverse_append, hf, hdrop, short, if_neg hn]
      rfl
    · have hn : inL d (l.drop (l.length - i)) = true := by rw [← hin]; simpa using hb
      exact ⟨found, _, by rw [hf, hdrop, short, if_pos hn], rfl⟩
  · rintro δ' ⟨found, c, hf, rfl⟩
    rw [List.length_reverse, Nat.sub_self, List.drop_zero] at hf
    show Q (.tup found.reverse)
    rw [hf]
    exact q
theorem ok__law_due {P : Program} {w : World} {K : PySem.W.Frag} {mg : Str → Option Value} {base : Heap} {f : Addr} {fd : FuncData} (F : FnP K "_law_due" st__law_due f fd) (m_tuple : mg "tuple" = none) (m_list : mg "list" = none) : FnOk P w K mg base CX0 2 f fd ["_law_row"] (toSp K sd__law_due) :=
  fn_d (k := 1) (t := t__law_due) F sc__law_due len__law_due (fun cdv A outer s H E e hr => dss_cons (ds_setO (i := 1) sc__law_due.nd rfl (Or.inl rfl) (do_lst (da_nil)))
    (dss_cons (ds_for PassesOwn.never rfl (di_seq (DO.de (do_rev (oex (DO.de (do_list1 (osl (pv 0)) rfl m_list)))))) (dg_name (i := 2) sc__law_due.nd rfl (Or.inl rfl)) (dss_one (ds_if (dt_cmp (opd_notIn (k0 := 0) (Room.mono (j := 0 + 1) hr (by decide))) (osl (pv 2)) (osl (pv 1)) rfl) (dss_one (ds_expr (de_append (pv 1) (de_var (pv 2))))) (dss_nil))))
    (dss_one (ds_ret (de_tuple1 (oex (DO.de (do_rev (osl (pv 1))))) rfl m_tuple))))) pure__law_due
def sd_law : SpD := fun ds Q => ∃ ns, ds = [.scr ns] ∧ Q (.bl true)
theorem len_law (ds : List D) (Q : D → Prop) (h : sd_law ds Q) : ds.length = 1 := by obtain ⟨l, rfl, _⟩ := h; rfl
theorem row_pair (l : List D) (h : ∀ d ∈ l, ∃ a b, d = .tup [.str a, .str b]) (hl : l.length ≤ 1000) : OkRow l :=
  ⟨plainL_all.mpr fun d hd => by obtain ⟨a, b, rfl⟩ := h d hd; rfl, fun d hd => by obtain ⟨a, b, rfl⟩ := h d hd; show (1 : Nat) ≤ 10; decide, hl⟩
abbrev st_law : Stmt := top 8
abbrev N_law : List Str := ["_law_script", "_law_base", "_law_box_here", "_law_names_here", "_law_many", "_law_row", "_law_turn", "_law_kept", "_law_form", "_law_handed", "_law_found"]
theorem sc_law : FnScope N_law ["_law_script"] (defScope st_law) := ⟨rfl, rfl, rfl, by decide +kernel, rfl, by decide +kernel, by decide +kernel⟩
def t_law : TDS :=
  dSeq (dFor (iRange1 (dC (.int 4))) (dgName 1) (dSeq (dAsg (dCall sd__law_box (dCons (dVar 0) (dCons (dVar 1) (dNil)))) 2)
  (dSeq (dAsg (dBin addX (.ex (dCall sd__law_names (dCons (dVar 2) (dCons (dC (.int 8)) (dNil))))) (.ex (dLst (dCons (dC (.str "")) (dCons (dC (.str "A")) (dCons (dC (.str "a b")) (dCons (dC (.str "b")) (dCons (dC (.str "a")) (dCons (dC (.str "b a")) (dCons (dC (.str "aaaaaab")) (dCons (dC (.str "aaaaaac")) (dNil)))))))))))) 3)
  (dSeq (dPars [.im (dCall sd__law_mixed (dCons (dVar 2) (dCons (dVar 3) (dNil)))), .im (dBin addX (.ex (dC (.int 1))) (.ex (dCall sd__law_take (dCons (dVar 2) (dCons (dC (.int 16)) (dNil))))))] [3, 4])
  (dSeq (dAsgO (dLst (dNil)) 5)
  (dSeq (dFor (iRange1 (dCall sd__law_take (dCons (dVar 2) (dCons (dC (.int 41)) (dNil))))) (dgName 6) (dDrop (dAppend 5 (dTup (dCons (dBin ixD (.sl 3) (.ex (dCall sd__law_take (dCons (dVar 2) (dCons (dVar 4) (dNil)))))) (dCons (dBin ixD (.sl 3) (.ex (dCall sd__law_take (dCons (dVar 2) (dCons (dVar 4) (dNil)))))) (dNil)))))))
  (dSeq (dPars [.im (dB1 listD (.sl 5)), .im (dCall sd__law_take (dCons (dVar 2) (dCons (dC (.int 2)) (dNil))))] [7, 8])
  (dSeq (dAsg (dBin ixD (.ex (dLst (dCons (dVar 5) (dCons (dB1 tupleD (.sl 5)) (dNil))))) (.sl 8)) 9)
  (dSeq (dAsg (dCall sd_shortened (dCons (dVar 9) (dNil))) 10)
  (dSeq (dIfS (dOr (dNot (dTru (.ex (dB2 isiX (dVar 10) (dC (.ty "tuple")))))) (dOr (dtBin (neD) (.sl 10) (.ex (dCall sd__law_due (dCons (dVar 7) (dNil))))) (dtBin (neD) (.ex (dB1 listD (.sl 9))) (.sl 7)))) (dRet (dC (.bl false))) (dNext))
  (dIfS (dOr (dtBin (neD) (.ex (dCall sd_shortened (dCons (dVar 10) (dNil)))) (.sl 10)) (dOr (dtBin (neD) (.ex (dCall sd_shortened (dCons (dB1 listD (.sl 10)) (dNil)))) (.sl 10)) (dtBin (neD) (.ex (dCall sd_shortened (dCons (dVar 9) (dNil)))) (.sl 10)))) (dRet (dC (.bl false))) (dNext))))))))))))
  (dRet (dC (.bl true)))
theorem pure_law (ds : List D) (Q : D → Prop) (h : sd_law ds Q) : t_law { nx := fun _ => Q .non, rt := Q } (startD 11 ds) := by
  obtain ⟨ns, rfl, q⟩ := h
  refine And.intro ⟨by decide, by decide⟩ ?_
  refine Exists.intro (fun (i : Nat) (δ : DSt) => ∃ c1 c2 c3 c4 c5 c6 c7 c8 c9 c10, δ = [.im (.scr ns), c1, c2, c3, c4, c5, c6, c7, c8, c9, c10]) ?_
  refine And.intro ?_ (And.intro ?_ ?_)
  · exact ⟨.no, .no, .no, .no, .no, .no, .no, .no, .no, .no, rfl⟩
  · rintro i_ d δ' hd ⟨c1, c2, c3, c4, c5, c6, c7, c8, c9, c10, rfl⟩
    have hi := lt_of_get hd
    rw [rngD_len] at hi
    rw [rngD_get hi] at hd
    cases hd
    refine Exists.intro ns (Exists.intro _ (And.intro rfl (And.intro (by omega) fun a => ?_)))
    refine Exists.intro a (Exists.intro 8 (And.intro rfl (And.intro (by decide) (And.intro (by decide) fun ss hss hsb => ?_))))
    have hss : ss.length = 8 := by omega
    refine add_lst (by rw [List.length_map]; show ss.length + 8 ≤ 1000; omega) ?_
    refine Exists.intro a (Exists.intro (ss.map D.str ++ List.map D.str ["", "A", "a b", "b", "a", "b a", "aaaaaab", "aaaaaac"]) (And.intro (.inl rfl) (And.intro (by simp; omega) fun l' hp => ?_)))
    rw [← List.map_append] at hp
    obtain ⟨w, rfl, wl, wm, _⟩ := perm_strs hp
    have wl : w.length = 16 := by rw [wl]; simp; omega
    refine Exists.intro a (Exists.intro 16 (And.intro rfl (And.intro (by decide) (And.intro (by decide) fun many many0 many1 => add_int ?_))))
    refine Exists.intro a (Exists.intro 41 (And.intro rfl (And.intro (by decide) (And.intro (by decide) fun n n0 n1 => ?_))))
    refine And.intro ⟨by omega, by omega⟩ ?_
    refine Exists.intro (fun (i : Nat) (δ : DSt) => ∃ row c, δ = [.im (.scr ns), .im (.int (0 + (i_ : Int))), .im (.box a), .im (.lst (w.map D.str)), .im (.int (1 + many)), .ow (.lst row), c, c7, c8, c9, c10] ∧ row.length = i ∧ ∀ d ∈ row, ∃ a b, d = .tup [.str a, .str b]) ?_
    refine And.intro ?_ (And.intro ?_ ?_)
    · exact ⟨[], c6, rfl, rfl, fun _ h => nomatch h⟩
    · rintro i d δ' hd ⟨row, c, rfl, hl, hr⟩
      have hi := lt_of_get hd
      rw [rngD_len] at hi
      refine And.intro rfl (And.intro rfl ?_)
      refine Exists.intro a (Exists.intro (1 + many) (And.intro rfl (And.intro (by omega) (And.intro (by omega) fun j j0 j1 => ?_))))
      refine ix_lst j0 (by rw [List.length_map]; omega) fun d1 hd1 => ?_
      obtain ⟨s1, _, rfl, _⟩ := get_str hd1
      refine And.intro rfl ?_
      refine Exists.intro a (Exists.intro (1 + many) (And.intro rfl (And.intro (by omega) (And.intro (by omega) fun j' j0' j1' => ?_))))
      refine ix_lst j0' (by rw [List.length_map]; omega) fun d2 hd2 => ?_
      obtain ⟨s2, _, rfl, _⟩ := get_str hd2
      refine And.intro (line_of (by omega)) ?_
      refine ⟨row ++ [.tup [.str s1, .str s2]], _, rfl, by simp; omega, fun d' hd' => ?_⟩
      rcases List.mem_append.mp hd' with h | h
      · exact hr d' h
      · rw [List.mem_singleton] at h; exact ⟨s1, s2, h⟩
    rintro δ' ⟨row, c, rfl, hl, hr⟩
    rw [rngD_len] at hl
    have ok : OkRow row := row_pair row hr (by omega)
    have okS : OkRow (short row) := ok.sub (fun d hd => short_sub hd) (Nat.le_trans (short_len row) ok.2.2)
    have eS : ∀ {x : D}, plain x = true → ¬ (!eqB x x) = true := fun {x} hx h => by
      rw [(eqB_plain hx hx).mpr rfl] at h
      cases h
    have pS : plain (.tup (short row)) = true := okS.1
    have pR : plain (.lst row) = true := ok.1
    have dS : (isDat (.tup (short row)) = true ∧ isDat (.tup (short row)) = true ∧ dep (.tup (short row)) ≤ 64 ∧ dep (.tup (short row)) ≤ 64) := ⟨plain_dat pS, plain_dat pS, okS.dep.2, okS.dep.2⟩
    have dR : (isDat (.lst row) = true ∧ isDat (.lst row) = true ∧ dep (.lst row) ≤ 64 ∧ dep (.lst row) ≤ 64) := ⟨plain_dat pR, plain_dat pR, ok.dep.1, ok.dep.1⟩
    refine Exists.intro a (Exists.intro 2 (And.intro rfl (And.intro (by decide) (And.intro (by decide) fun fo fo0 fo1 => ?_))))
    refine ix_lst fo0 fo1 fun hd_ hh => ?_
    have hh := List.mem_of_getElem? hh
    simp only [List.mem_cons, List.not_mem_nil, or_false] at hh
    have fin : ∀ d5 d6 d8, (hd_ = .lst row ∨ hd_ = .tup row) → (dSeq (dAsg (dCall sd_shortened (dCons (dVar 9) (dNil))) 10)
  (dSeq (dIfS (dOr (dNot (dTru (.ex (dB2 isiX (dVar 10) (dC (.ty "tuple")))))) (dOr (dtBin (neD) (.sl 10) (.ex (dCall sd__law_due (dCons (dVar 7) (dNil))))) (dtBin (neD) (.ex (dB1 listD (.sl 9))) (.sl 7)))) (dRet (dC (.bl false))) (dNext))
  (dIfS (dOr (dtBin (neD) (.ex (dCall sd_shortened (dCons (dVar 10) (dNil)))) (.sl 10)) (dOr (dtBin (neD) (.ex (dCall sd_shortened (dCons (dB1 listD (.sl 10)) (dNil)))) (.sl 10)) (dtBin (neD) (.ex (dCall sd_shortened (dCons (dVar 9) (dNil)))) (.sl 10)))) (dRet (dC (.bl false))) (dNext))))
      { nx := fun δ => ∃ c1 c2 c3 c4 c5 c6 c7 c8 c9 c10, δ = [.im (.scr ns), c1, c2, c3, c4, c5, c6, c7, c8, c9, c10], rt := Q, bk := fun _ => Q (.bl true), ct := fun δ => ∃ c1 c2 c3 c4 c5 c6 c7 c8 c9 c10, δ = [.im (.scr ns), c1, c2, c3, c4, c5, c6, c7, c8, c9, c10] }
      [.im (.scr ns), .im (.int (0 + (i_ : Int))), .im (.box a), .im (.lst (w.map D.str)), .im (.int (1 + many)), d5, d6, .im (.lst row), d8, .im hd_, c10] := by
      intro d5 d6 d8 hit
      refine Exists.intro row (And.intro (by rcases hit with rfl | rfl; exact .inl rfl; exact .inr rfl) (And.intro ok ?_))
      refine isi_at rfl (by decide +kernel : kitB "tuple" "tuple" = some true) ?_
      refine And.intro rfl (Exists.intro row (And.intro rfl (And.intro ok (And.intro dS ?_))))
      refine if_b (fun hb => absurd hb (eS pS)) (fun _ => ?_)
      have step : ∀ Q' : D → Prop, Q' (.lst row) → listD hd_ Q' := fun Q' h => by rcases hit with rfl | rfl <;> exact h
      refine step _ (And.intro dR ?_)
      refine if_b (fun hb => absurd hb (eS pR)) (fun _ => ?_)
      refine Exists.intro (short row) (And.intro (.inr rfl) (And.intro okS ?_))
      rw [short_short ok.1]
      refine And.intro dS ?_
      refine if_b (fun hb => absurd hb (eS pS)) (fun _ => ?_)
      refine Exists.intro (short row) (And.intro (.inl rfl) (And.intro okS ?_))
      rw [short_short ok.1]
      refine And.intro dS ?_
      refine if_b (fun hb => absurd hb (eS pS)) (fun _ => ?_)
      refine Exists.intro row (And.intro (by rcases hit with rfl | rfl; exact .inl rfl; exact .inr rfl) (And.intro ok (And.intro dS ?_)))
      refine if_b (fun hb => absurd hb (eS pS)) (fun _ => ?_)
      exact ⟨_, _, _, _, _, _, _, _, _, _, rfl⟩
    exact fin _ _ _ hh
  · rintro δ' ⟨c1, c2, c3, c4, c5, c6, c7, c8, c9, c10, rfl⟩
    exact q
theorem ok_law {P : Program} {w : World} {K : PySem.W.Frag} {mg : Str → Option Value} {base : Heap} {f : Addr} {fd : FuncData} (F : FnP K "law" st_law f fd) (c_shortened : CalD P w K mg base 2 "shortened" sd_shortened) (c__law_due : CalD P w K mg base 2 "_law_due" sd__law_due) (c__law_take : CalD P w K mg base 2 "_law_take" sd__law_take) (c__law_mixed : CalD P w K mg base 3 "_law_mixed" sd__law_mixed) (c__law_names : CalD P w K mg base 4 "_law_names" sd__law_names) (c__law_box : CalD P w K mg base 2 "_law_box" sd__law_box) (m_range : mg "range" = none) (m_list : mg "list" = none) (m_isinstance : mg "isinstance" = none) (m_tuple : mg "tuple" = none) : FnOk P w K mg base CX0 5 f fd ["_law_script"] (toSp K sd_law) :=
  fn_d (k := 4) (t := t_law) F sc_law len_law (fun cdv A outer s H E e hr => dss_cons (ds_for PassesOwn.never rfl (di_range1 rfl m_range (de_int)) (dg_name (i := 1) sc_law.nd rfl (Or.inl rfl)) (dss_cons (ds_set (i := 2) sc_law.nd rfl (Or.inl rfl) (de_call c__law_box hr (by decide) rfl (da_cons (de_var (pv 0)) (da_cons (de_var (pv 1)) (da_nil)))))
    (dss_cons (ds_set (i := 3) sc_law.nd rfl (Or.inl rfl) (de_bin opd_addX (oex (de_call c__law_names hr (by decide) rfl (da_cons (de_var (pv 2)) (da_cons (de_int) (da_nil))))) (oex (DO.de (do_lst (da_cons (de_str (by decide +kernel)) (da_cons (de_str (by decide +kernel)) (da_cons (de_str (by decide +kernel)) (da_cons (de_str (by decide +kernel)) (da_cons (de_str (by decide +kernel)) (da_cons (de_str (by decide +kernel)) (da_cons (de_str (by decide +kernel)) (da_cons (de_str (by decide +kernel)) (da_nil))))))))))))))
    (dss_cons (ds_par2 (i := 3) (j := 4) rfl sc_law.nd rfl rfl (by decide) rfl rfl (ea_cons (v := .im (dCall sd__law_mixed (dCons (dVar 2) (dCons (dVar 3) (dNil))))) (eim (de_call c__law_mixed hr (by decide) rfl (da_cons (de_var (pv 2)) (da_cons (de_var (pv 3)) (da_nil))))) (ea_cons (v := .im (dBin addX (.ex (dC (.int 1))) (.ex (dCall sd__law_take (dCons (dVar 2) (dCons (dC (.int 16)) (dNil))))))) (eim (de_bin opd_addX (oex (de_int)) (oex (de_call c__law_take hr (by decide) rfl (da_cons (de_var (pv 2)) (da_cons (de_int) (da_nil))))))) (ea_nil))) rfl)
    (dss_cons (ds_setO (i := 5) sc_law.nd rfl (Or.inl rfl) (do_lst (da_nil)))
    (dss_cons (ds_for PassesOwn.never rfl (di_range1 rfl m_range (de_call c__law_take hr (by decide) rfl (da_cons (de_var (pv 2)) (da_cons (de_int) (da_nil))))) (dg_name (i := 6) sc_law.nd rfl (Or.inl rfl)) (dss_one (ds_expr (de_append (pv 5) (de_tup (da_cons (de_ix hr (osl (pv 3)) (oex (de_call c__law_take hr (by decide) rfl (da_cons (de_var (pv 2)) (da_cons (de_var (pv 4)) (da_nil)))))) (da_cons (de_ix hr (osl (pv 3)) (oex (de_call c__law_take hr (by decide) rfl (da_cons (de_var (pv 2)) (da_cons (de_var (pv 4)) (da_nil)))))) (da_nil))))))))
    (dss_cons (ds_par2 (i := 7) (j := 8) rfl sc_law.nd rfl rfl (by decide) rfl rfl (ea_cons (v := .im (dB1 listD (.sl 5))) (eim (DO.de (do_list1 (osl (pv 5)) rfl m_list))) (ea_cons (v := .im (dCall sd__law_take (dCons (dVar 2) (dCons (dC (.int 2)) (dNil))))) (eim (de_call c__law_take hr (by decide) rfl (da_cons (de_var (pv 2)) (da_cons (de_int) (da_nil))))) (ea_nil))) rfl)
    (dss_cons (ds_set (i := 9) sc_law.nd rfl (Or.inl rfl) (de_ix hr (oex (DO.de (do_lst (da_cons (de_var (pv 5)) (da_cons (de_tuple1 (osl (pv 5)) rfl m_tuple) (da_nil)))))) (osl (pv 8))))
    (dss_cons (ds_set (i := 10) sc_law.nd rfl (Or.inl rfl) (de_call c_shortened hr (by decide) rfl (da_cons (de_var (pv 9)) (da_nil))))
    (dss_cons (ds_if (DW.dt (dw_or (dt_not (dt_tru (oex (de_isiX (de_var (pv 10)) (de_ty rfl m_tuple (by decide +kernel)) rfl m_isinstance)))) (dw_or (dt_cmp (opd_ne hr) (osl (pv 10)) (oex (de_call c__law_due hr (by decide) rfl (da_cons (de_var (pv 7)) (da_nil)))) rfl) (dw_or1 (dt_cmp (opd_ne hr) (oex (DO.de (do_list1 (osl (pv 9)) rfl m_list))) (osl (pv 7)) rfl))))) (dss_one (ds_ret (de_bl))) (dss_nil))
    (dss_one (ds_if (DW.dt (dw_or (dt_cmp (opd_ne hr) (oex (de_call c_shortened hr (by decide) rfl (da_cons (de_var (pv 10)) (da_nil)))) (osl (pv 10)) rfl) (dw_or (dt_cmp (opd_ne hr) (oex (de_call c_shortened hr (by decide) rfl (da_cons (DO.de (do_list1 (osl (pv 10)) rfl m_list)) (da_nil)))) (osl (pv 10)) rfl) (dw_or1 (dt_cmp (opd_ne hr) (oex (de_call c_shortened hr (by decide) rfl (da_cons (de_var (pv 9)) (da_nil)))) (osl (pv 10)) rfl))))) (dss_one (ds_ret (de_bl))) (dss_nil)))))))))))))
    (dss_one (ds_ret (de_bl)))) pure_law
theorem entry {K : PySem.W.Frag} {H : Hp} {a : Addr} {ns : List Int} {sd : SpD} (hS : SqL K H a (ns.map V.int)) (h : sd [.scr ns] fun d => d = .bl true) : toSp K sd [.ref a] H (fun v _ => v = .bl true) fun _ _ _ => False :=
  ⟨⟨H, fun _ => none⟩, [.scr ns], _, ⟨Same.refl _, (fun _ _ h => nomatch h), (fun _ _ _ _ h => nomatch h)⟩, .cons (.scr hS) .nil, h, fun d v G' H' _ _ r q => by subst q; exact r.blI⟩
/-! ### the head -/
def d__law_take : He.DefD := ⟨("_law_take", none), "_law_take", "_law_take", defArgs st__law_take, defBody st__law_take, defScope st__law_take, [], []⟩
def d__law_box : He.DefD := ⟨("_law_box", none), "_law_box", "_law_box", defArgs st__law_box, defBody st__law_box, defScope st__law_box, [], []⟩
def d__law_mixed : He.DefD := ⟨("_law_mixed", none), "_law_mixed", "_law_mixed", defArgs st__law_mixed, defBody st__law_mixed, defScope st__law_mixed, [], []⟩
def d__law_names : He.DefD := ⟨("_law_names", none), "_law_names", "_law_names", defArgs st__law_names, defBody st__law_names, defScope st__law_names, [], []⟩
def d_shortened : He.DefD := ⟨("shortened", none), "shortened", "shortened", defArgs st_shortened, defBody st_shortened, defScope st_shortened, [], []⟩
def d__law_due : He.DefD := ⟨("_law_due", none), "_law_due", "_law_due", defArgs st__law_due, defBody st__law_due, defScope st__law_due, [], []⟩
def d_law : He.DefD := ⟨("law", none), "law", "law", defArgs st_law, defBody st_law, defScope st_law, [], []⟩
def fn : List He.DefD := [d__law_take, d__law_box, d__law_mixed, d__law_names, d_shortened, d__law_due, d_law]
def fa : List He.Fa := [.glo "_law_take", .glo "_law_box", .glo "_law_mixed", .glo "_law_names", .glo "shortened", .glo "_law_due", .glo "law", .free "len", .free "abs", .free "range", .free "list", .free "int", .free "min", .free "tuple", .free "enumerate", .free "isinstance"]
abbrev R : PySem.W.OpenRow := PySem.W.OpenLaw.row PySem.Challenge.rw_towgrove_k34_rows_shortened
abbrev hk : PySem.W.Hook := He.hookD 4 fa fn
def ob (s : PySem.W.SharedT) : He.AlD := He.obsDG 4 fa fn (HandSHeadRun.getT s)
theorem ob_eq (s : PySem.W.SharedT) : ob s = hk.obs s.abs := He.obsDG_eq (HandSHeadRun.getT_eq s)
theorem run (w : World) : HandSHeadRun.RunEq R (PySem.W.view R.prog [8]) hk ob 3000 ["shortened", "_law_box", "_law_take", "_law_mixed", "_law_names", "_law_due"] w := by
  intro os
  kernel_rfl
theorem facts {P : Program} {w : World} {K : PySem.W.Frag} {h : Heap} {mg : Str → Option Value} {f : Addr} (X : K.In h) (G : h.Ns mainGlobals mg) (hfa : mg ("law" : Str) = some (.ref f)) (c : He.SaysD fa fn K) :
    ∃ fd : FuncData, (∀ (s : Shared) (v : Value), BindsTo s fd ⟨[v], []⟩ [("_law_script", v)]) ∧ ∀ base : Heap, K.In base → base.Ns mainGlobals mg → FnOk P w K mg base CX0 5 f fd ["_law_script"] (toSp K sd_law) := by
  obtain ⟨fd__law_take, F__law_take⟩ := c.def_ 0 (d := d__law_take) rfl
  have g__law_take := He.glo_ok X G (c.fact 0 (f := .glo "_law_take") rfl)
  obtain ⟨fd__law_box, F__law_box⟩ := c.def_ 1 (d := d__law_box) rfl
  have g__law_box := He.glo_ok X G (c.fact 1 (f := .glo "_law_box") rfl)
  obtain ⟨fd__law_mixed, F__law_mixed⟩ := c.def_ 2 (d := d__law_mixed) rfl
  have g__law_mixed := He.glo_ok X G (c.fact 2 (f := .glo "_law_mixed") rfl)
  obtain ⟨fd__law_names, F__law_names⟩ := c.def_ 3 (d := d__law_names) rfl
  have g__law_names := He.glo_ok X G (c.fact 3 (f := .glo "_law_names") rfl)
  obtain ⟨fd_shortened, F_shortened⟩ := c.def_ 4 (d := d_shortened) rfl
  have g_shortened := He.glo_ok X G (c.fact 4 (f := .glo "shortened") rfl)
  obtain ⟨fd__law_due, F__law_due⟩ := c.def_ 5 (d := d__law_due) rfl
  have g__law_due := He.glo_ok X G (c.fact 5 (f := .glo "_law_due") rfl)
  obtain ⟨fd_law, F_law⟩ := c.def_ 6 (d := d_law) rfl
  have g_law := He.glo_ok X G (c.fact 6 (f := .glo "law") rfl)
  have m_len := He.free_ok X G (c.fact 7 (f := .free "len") rfl)
  have m_abs := He.free_ok X G (c.fact 8 (f := .free "abs") rfl)
  have m_range := He.free_ok X G (c.fact 9 (f := .free "range") rfl)
  have m_list := He.free_ok X G (c.fact 10 (f := .free "list") rfl)
  have m_int := He.free_ok X G (c.fact 11 (f := .free "int") rfl)
  have m_min := He.free_ok X G (c.fact 12 (f := .free "min") rfl)
  have m_tuple := He.free_ok X G (c.fact 13 (f := .free "tuple") rfl)
  have m_enumerate := He.free_ok X G (c.fact 14 (f := .free "enumerate") rfl)
  have m_isinstance := He.free_ok X G (c.fact 15 (f := .free "isinstance") rfl)
  have e := hfa.symm.trans g_law
  cases e
  have b := FunD.bindsA (ps := ["_law_script"]) F_law fun _ _ _ _ _ _ us hl => match us, hl with | [_], _ => rfl
  refine ⟨fd_law, fun s v => b s [v] rfl, fun base _ _ => ?_⟩
  have c__law_take : CalD P w K mg base 2 "_law_take" sd__law_take := cal_of F__law_take (ok__law_take F__law_take m_len) g__law_take fun _ _ _ _ _ _ us hl => match us, hl with | [_, _], _ => rfl
  have c__law_box : CalD P w K mg base 2 "_law_box" sd__law_box := cal_of F__law_box (ok__law_box F__law_box m_abs) g__law_box fun _ _ _ _ _ _ us hl => match us, hl with | [_, _], _ => rfl
  have c__law_mixed : CalD P w K mg base 3 "_law_mixed" sd__law_mixed := cal_of F__law_mixed (ok__law_mixed F__law_mixed c__law_take m_range m_len m_list) g__law_mixed fun _ _ _ _ _ _ us hl => match us, hl with | [_, _], _ => rfl
  have c__law_names : CalD P w K mg base 4 "_law_names" sd__law_names := cal_of F__law_names (ok__law_names F__law_names c__law_mixed c__law_take m_int m_range m_min m_len) g__law_names fun _ _ _ _ _ _ us hl => match us, hl with | [_, _], _ => rfl
  have c_shortened : CalD P w K mg base 2 "shortened" sd_shortened := cal_of F_shortened (ok_shortened F_shortened m_tuple m_enumerate m_list) g_shortened fun _ _ _ _ _ _ us hl => match us, hl with | [_], _ => rfl
  have c__law_due : CalD P w K mg base 2 "_law_due" sd__law_due := cal_of F__law_due (ok__law_due F__law_due m_tuple m_list) g__law_due fun _ _ _ _ _ _ us hl => match us, hl with | [_], _ => rfl
  exact ok_law F_law c_shortened c__law_due c__law_take c__law_mixed c__law_names c__law_box m_range m_list m_isinstance m_tuple
end T
open PySem PySem.W PySem.Calls PyProof.Rows
theorem PySem.Challenge.cw_towgrove_k34_rows_shortened_holds : PySem.Challenge.rw_towgrove_k34_rows_shortened.Holds := by
  w_on; o_law
  refine HandSHeadRun.head_any (r := OpenLaw.row PySem.Challenge.rw_towgrove_k34_rows_shortened) (q := view (OpenLaw.row PySem.Challenge.rw_towgrove_k34_rows_shortened).prog [8]) (H := T.hk) (ob := T.ob) (M := 3000) (loose := ["shortened", "_law_box", "_law_take", "_law_mixed", "_law_names", "_law_due"]) (d := HandSHeadRun.topDef (OpenLaw.row PySem.Challenge.rw_towgrove_k34_rows_shortened).prog 8) (kwd := []) T.ob_eq
    (by kernel_rfl) (fun s => by kernel_rfl) T.run (by kernel_rfl) (by kernel_rfl) (by kernel_rfl) (by rfl) (by first | assumption | decide +kernel) (by decide +kernel) ⟨rfl, rfl, rfl, rfl, rfl, by decide +kernel⟩ ?hw ?hc
  case hw => w_witness2
  case hc =>
    refine L2.walk_ofE (l := PySem.Challenge.rw_towgrove_k34_rows_shortened) (n := 63) (k := 5) (x := "_law_script") (CX := L2.CX0) rfl (by decide) (by kernel_rfl) ⟨rfl, by decide, by decide⟩ ?F (fun _ _ _ _ z => z)
    intro w mg fa h Y G hmg0
    obtain ⟨K, KX, c⟩ := Y
    have hmg : mg ("law" : PySem.Str) = some (.ref fa) := by
      have e : (HandSHeadRun.topDef (OpenLaw.row PySem.Challenge.rw_towgrove_k34_rows_shortened).prog 8).name = ("law" : PySem.Str) := by kernel_rfl
      rw [← e]
      exact hmg0
    obtain ⟨fd, hb, hF⟩ := T.facts (P := (PySem.Challenge.rw_towgrove_k34_rows_shortened).prog) (w := w) KX G hmg c
    exact ⟨K, fd, T.toSp K T.sd_law, KX, hb, fun H a ns hl _ hS => T.entry hS ⟨ns, rfl, rfl⟩, hF⟩
