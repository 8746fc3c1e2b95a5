import PyProof.Rows.All
import Wide.All
import OpenK.AllK
import Wide.FinOn
import KE.KStateDown
import KE.KExcIs
import HandS.ForMost
import HandS.ForExc
import HandS.TryMany
import HandS.CallSlots
import HandS.Defaults
import HandS.ExcInit
import HandS.IsInst
import HandS.Style
import HandS.TupMul
import HandS.TupAny
import HandS.TupLe
import HandS.Conv
import HandS.Flow
import HandS.Zip
import HandS.ExcField
import HandS.DictComp
import KE.KEqSeq
import HandS.Head0
import HandS.Head1
import HandS.Head2
import HandS.HeadEnd
import HandS.HeadHook1
import HandS.HeadHook2
import PyProof.EqKinds
import HandS.Wide
import PyProof.Draws
import HandS.Iter
import HandS.SetFor
import HandS.Strs
import HandS.SortInts
import HandS.OwnEq
import KE.KUnpack
import PySem.Challenge.RW_stillaboard_k10_later_shortest_followed
set_option Elab.async false
set_option linter.all false
set_option maxRecDepth 100000
set_option maxHeartbeats 4000000
namespace TL
open PySem PySem.Spec PyProof.Rows L2
inductive T where
  | non | bl (b : Bool) | int (i : Int) | str (s : Str)
  | lst (ts : List T) | tup (ts : List T)
  | dic (ks : List Key) (ts : List T)
  | exc (C : Addr) (fs : List Str) (ts : List T)
  | ins (C : Addr) (fs : List Str) (ts : List T)
  | raw (v : V)
  | frz (o : Obj) (xs : List V)
  /-- what some part of the heap says of the value -/
  | abs (R : Hp → V → Prop)
mutual
/-- the value v stands, in the part G of the heap, for the data t -/
def Rep (G : Hp) : T → V → Prop
  | .non, v => v = .non
  | .bl b, v => v = .bl b
  | .int i, v => v = .int i
  | .str s, v => v = .str s
  | .lst ts, v => ∃ a vs, v = .ref a ∧ G a = some (.lst vs) ∧ RepL G ts vs
  | .tup ts, v => ∃ a vs, v = .ref a ∧ Rd G a (.tup vs) ∧ RepL G ts vs
  | .dic ks ts, v => ∃ a vs, v = .ref a ∧ ks.length = ts.length ∧ G a = some (.dK (ks.zip vs)) ∧ RepL G ts vs
  | .exc C fs ts, v => ∃ a d vs, v = .ref a ∧ fs.length = ts.length ∧ G a = some (exo a C (some d)) ∧ G d = some (exd d (fs.zip vs)) ∧ RepL G ts vs
  | .ins C fs ts, v => ∃ a dx vs, v = .ref a ∧ fs.length = ts.length ∧ G a = some (.ins C dx (fs.zip vs)) ∧ RepL G ts vs
  | .raw u, v => v = u
  | .frz o xs, v => ∃ a, v = .ref a ∧ G a = some (.frz o (.lst xs))
  | .abs R, v => ∃ G0 : Hp, (∀ a o, G0 a = some o → G a = some o) ∧ R G0 v
def RepL (G : Hp) : List T → List V → Prop
  | [], vs => vs = []
  | t :: ts, vs => ∃ v r, vs = v :: r ∧ Rep G t v ∧ RepL G ts r
end
/-- one part of the heap within another -/
abbrev Le (H H' : Hp) : Prop := ∀ a o, H a = some o → H' a = some o
theorem Le.rfl {H : Hp} : Le H H := fun _ _ h => h
theorem Le.tr {H H1 H2 : Hp} (a : Le H H1) (b : Le H1 H2) : Le H H2 := fun x o h => b x o (a x o h)
theorem Le.new {H : Hp} {p : Addr} {o : HO} (h : H p = none) : Le H (upd H p o) := fun a u e => by
  rw [upd_ne (ne_of_none e h)]; exact e
theorem Le.rd {H H' : Hp} (e : Le H H') {a : Addr} {u : HO} (h : Rd H a u) : Rd H' a u := h.elim (fun h => .inl (e _ _ h)) fun ⟨o, h⟩ => .inr ⟨o, e _ _ h⟩
theorem sqR {K : PySem.W.Frag} {H : Hp} {a : Addr} {xs : List V} (h : Rd H a (.tup xs)) : SqT K H a xs := .inl h
theorem Le.back {H H' : Hp} {p : Addr} (e : Le H H') (h : H' p = none) : H p = none := by
  cases q : H p with
  | none => rfl
  | some o => rw [e p o q] at h; cases h
mutual
theorem Rep.up {G G' : Hp} (e : Le G G') : ∀ (t : T) (v : V), Rep G t v → Rep G' t v
  | .non, _, h => h
  | .bl _, _, h => h
  | .int _, _, h => h
  | .str _, _, h => h
  | .lst ts, _, ⟨a, vs, h1, h2, h3⟩ => ⟨a, vs, h1, e _ _ h2, RepL.up e ts vs h3⟩
  | .tup ts, _, ⟨a, vs, h1, h2, h3⟩ => ⟨a, vs, h1, Le.rd e h2, RepL.up e ts vs h3⟩
  | .dic ks ts, _, ⟨a, vs, h1, h0, h2, h3⟩ => ⟨a, vs, h1, h0, e _ _ h2, RepL.up e ts vs h3⟩
  | .exc C fs ts, _, ⟨a, d, vs, h1, h0, h2, h4, h3⟩ => ⟨a, d, vs, h1, h0, e _ _ h2, e _ _ h4, RepL.up e ts vs h3⟩
  | .ins C fs ts, _, ⟨a, d, vs, h1, h0, h2, h3⟩ => ⟨a, d, vs, h1, h0, e _ _ h2, RepL.up e ts vs h3⟩
  | .raw _, _, h => h
  | .frz _ _, _, ⟨a, h1, h2⟩ => ⟨a, h1, e _ _ h2⟩
  | .abs _, _, ⟨G0, h1, h2⟩ => ⟨G0, fun a o h => e _ _ (h1 a o h), h2⟩
theorem RepL.up {G G' : Hp} (e : Le G G') : ∀ (ts : List T) (vs : List V), RepL G ts vs → RepL G' ts vs
  | [], _, h => h
  | t :: ts, _, ⟨v, r, h1, h2, h3⟩ => ⟨v, r, h1, Rep.up e t v h2, RepL.up e ts r h3⟩
end
/-- a tuple that has no dict of its own: its methods are there -/
def tpn (ts : List T) : T := .abs fun G v => ∃ a o vs, v = .ref a ∧ G a = some (.frz o (.tup vs)) ∧ o.dict = none ∧ RepL G ts vs
theorem Rep.tpnE {G : Hp} {ts : List T} {v : V} (h : Rep G (tpn ts) v) : ∃ a o vs, v = .ref a ∧ G a = some (.frz o (.tup vs)) ∧ o.dict = none ∧ RepL G ts vs :=
  let ⟨_, l, a, o, vs, h1, h2, h3, h4⟩ := h; ⟨a, o, vs, h1, l _ _ h2, h3, RepL.up l ts vs h4⟩
theorem Rep.tpnI {G : Hp} {ts : List T} {a : Addr} {o : Obj} {vs : List V} (h2 : G a = some (.frz o (.tup vs))) (h3 : o.dict = none) (h4 : RepL G ts vs) : Rep G (tpn ts) (.ref a) :=
  ⟨G, fun _ _ h => h, a, o, vs, rfl, h2, h3, h4⟩
theorem tpn_tup {G : Hp} {ts : List T} {v : V} (h : Rep G (tpn ts) v) : Rep G (.tup ts) v := let ⟨a, o, vs, h1, h2, _, h4⟩ := h.tpnE; ⟨a, vs, h1, .inr ⟨o, h2⟩, h4⟩
theorem RepL.len {G : Hp} : ∀ {ts : List T} {vs : List V}, RepL G ts vs → vs.length = ts.length
  | [], _, h => by rw [show _ = _ from h]; rfl
  | t :: ts, _, ⟨v, r, h1, _, h3⟩ => by rw [h1, List.length_cons, List.length_cons, RepL.len h3]
theorem RepL.app {G : Hp} : ∀ {ts us : List T} {vs ws : List V}, RepL G ts vs → RepL G us ws → RepL G (ts ++ us) (vs ++ ws)
  | [], _, _, _, h, k => by rw [show _ = _ from h]; exact k
  | t :: ts, _, _, _, ⟨v, r, h1, h2, h3⟩, k => ⟨v, r ++ _, by rw [h1]; rfl, h2, RepL.app h3 k⟩
theorem RepL.one {G : Hp} {t : T} {v : V} (h : Rep G t v) : RepL G [t] [v] := ⟨v, [], rfl, h, rfl⟩
theorem RepL.get {G : Hp} : ∀ {ts : List T} {vs : List V} {i : Nat} {v : V}, RepL G ts vs → vs[i]? = some v → ∃ t, ts[i]? = some t ∧ Rep G t v
  | [], _, i, v, h, e => by rw [show _ = _ from h] at e; simp at e
  | t :: ts, _, 0, v, ⟨w, r, h1, h2, h3⟩, e => by
    rw [h1] at e; simp at e; subst e; exact ⟨t, rfl, h2⟩
  | t :: ts, _, i + 1, v, ⟨w, r, h1, h2, h3⟩, e => by
    rw [h1] at e
    obtain ⟨u, a, b⟩ := RepL.get (i := i) (v := v) h3 (by simpa using e)
    exact ⟨u, by simpa using a, b⟩
theorem RepL.getT {G : Hp} : ∀ {ts : List T} {vs : List V} {i : Nat} {t : T}, RepL G ts vs → ts[i]? = some t → ∃ v, vs[i]? = some v ∧ Rep G t v
  | [], _, i, v, h, e => by simp at e
  | t :: ts, _, 0, u, ⟨w, r, h1, h2, h3⟩, e => by
    simp at e; subst e; exact ⟨w, by rw [h1]; rfl, h2⟩
  | t :: ts, _, i + 1, u, ⟨w, r, h1, h2, h3⟩, e => by
    obtain ⟨x, a, b⟩ := RepL.getT (i := i) (t := u) h3 (by simpa using e)
    exact ⟨x, by rw [h1]; simpa using a, b⟩
theorem RepL.set {G : Hp} {t : T} {v : V} (h : Rep G t v) : ∀ {ts : List T} {vs : List V} (i : Nat), RepL G ts vs → RepL G (ts.set i t) (vs.set i v)
  | [], _, _, k => by rw [show _ = _ from k]; exact (rfl : ([] : List V) = [])
  | _ :: ts, _, 0, ⟨w, r, h1, h2, h3⟩ => by rw [h1]; exact ⟨v, r, rfl, h, h3⟩
  | _ :: ts, _, i + 1, ⟨w, r, h1, h2, h3⟩ => by rw [h1]; exact ⟨w, r.set i v, rfl, h2, RepL.set h i h3⟩
theorem RepL.drop {G : Hp} : ∀ {ts : List T} {vs : List V} (n : Nat), RepL G ts vs → RepL G (ts.drop n) (vs.drop n)
  | ts, vs, 0, h => h
  | [], _, n + 1, h => by rw [show _ = _ from h]; exact (rfl : ([] : List V) = [])
  | t :: ts, _, n + 1, ⟨w, r, h1, h2, h3⟩ => by rw [h1]; exact RepL.drop n h3
theorem RepL.take {G : Hp} : ∀ {ts : List T} {vs : List V} (n : Nat), RepL G ts vs → RepL G (ts.take n) (vs.take n)
  | ts, vs, 0, h => (rfl : vs.take 0 = [])
  | [], _, n + 1, h => by rw [show _ = _ from h]; exact (rfl : ([] : List V) = [])
  | t :: ts, _, n + 1, ⟨w, r, h1, h2, h3⟩ => by rw [h1]; exact ⟨w, r.take n, rfl, h2, RepL.take n h3⟩
theorem RepL.ints {G : Hp} : ∀ {ns : List Int} {vs : List V}, RepL G (ns.map T.int) vs → vs = ns.map V.int
  | [], _, h => h
  | n :: ns, _, ⟨v, r, h1, h2, h3⟩ => by
    rw [h1, show v = _ from h2, RepL.ints h3]; rfl
theorem RepL.ofInts {G : Hp} : ∀ (ns : List Int), RepL G (ns.map T.int) (ns.map V.int)
  | [] => rfl
  | n :: ns => ⟨_, _, rfl, rfl, RepL.ofInts ns⟩
theorem RepL.bls {G : Hp} : ∀ {ns : List Bool} {vs : List V}, RepL G (ns.map T.bl) vs → vs = ns.map V.bl
  | [], _, h => h
  | n :: ns, _, ⟨v, r, h1, h2, h3⟩ => by
    rw [h1, show v = _ from h2, RepL.bls h3]; rfl
end TL
set_option maxHeartbeats 4000000
namespace TL
open PySem PySem.Spec PyProof.Rows L2
def oexB (K : PySem.W.Frag) (C : Addr) : Bool := match K.lookup C with
  | some ⟨.type "type", _, .cls cd, sl⟩ => (match cd.mro, sl.toList with
    | .ref C' :: bm, [_, _, _, _, some (.builtin n), _] => C' == C && n == "ValueError.__new__" && !cd.hasDel && cd.hasDict && PySem.HandSPX.refsVE bm
    | _, _ => false)
  | _ => false
theorem oexB_ok {K : PySem.W.Frag} {C : Addr} (q : oexB K C = true) : ∃ nm q N bs bm sn sub ab col dd k0 k1 k2 k3 k5, K.lookup C = some (excClassObj nm q C N bs bm true sn sub ab col dd k0 k1 k2 k3 k5 "ValueError.__new__") ∧ PySem.HandSPX.refsVE bm = true := by
  unfold oexB at q
  split at q
  · rename_i dd cd sl ho
    split at q
    · rename_i C' bm k0 k1 k2 k3 n k5 hm hs
      simp only [Bool.and_eq_true, beq_iff_eq, Bool.not_eq_true'] at q
      obtain ⟨⟨⟨⟨rfl, rfl⟩, hdel⟩, hdc⟩, ht⟩ := q
      obtain ⟨nm, bs, mro, ns, qn, hd, sn, sub, ab, col, del⟩ := cd
      dsimp only at hm hdel hdc
      subst hm hdel hdc
      have hsl : sl = #[k0, k1, k2, k3, some (.builtin "ValueError.__new__"), k5] := by
        obtain ⟨l⟩ := sl
        simp only at hs
        rw [hs]
      subst hsl
      exact ⟨nm, qn, ns, bs, bm, sn, sub, ab, col, dd, k0, k1, k2, k3, k5, ho, ht⟩
    · cases q
  · cases q
/-- an exception class: its instances are made, raised, caught, asked for their class and fields -/
structure ExcOk (K : PySem.W.Frag) (C : Addr) : Prop where
  oex : OexC K C
  ga : PySem.W.findIn K (.ref C) "__getattribute__" = some (some (.builtin "BaseException.__getattribute__"))
  gg : PySem.W.findIn K (.ref C) "__getattr__" = some none
  hd : PySem.W.hasDictIn K C = true
  hcl : (PySem.W.clsIn K C).isSome = true
  ha : PySem.W.findIn K (.ref C) "__class__" = some (some (.builtin "object.__class__"))
  hn : PySem.W.specialIn K (.builtin "object.__class__") "__get__" = some (some (.builtin "getset_descriptor.__get__"))
  ht : PySem.W.takesIn K (.builtin "object.__class__") = some true
  hm : PySem.W.mroIn K C (.type "object") = some true
def excOkB (K : PySem.W.Frag) (C : Addr) : Bool :=
  oexB K C && decide (PySem.W.findIn K (.ref C) "__setattr__" = some (some (.builtin "object.__setattr__"))) && decide (PySem.W.subIn K (.ref C) (.type "BaseException") = some true) &&
  decide (PySem.W.typeIn K (.ref C) = some (.type "type")) && PySem.W.keepIn K (.ref C) &&
  decide (PySem.W.findIn K (.ref C) "__getattribute__" = some (some (.builtin "BaseException.__getattribute__"))) && decide (PySem.W.findIn K (.ref C) "__getattr__" = some none) &&
  PySem.W.hasDictIn K C && (PySem.W.clsIn K C).isSome && decide (PySem.W.findIn K (.ref C) "__class__" = some (some (.builtin "object.__class__"))) &&
  decide (PySem.W.specialIn K (.builtin "object.__class__") "__get__" = some (some (.builtin "getset_descriptor.__get__"))) &&
  decide (PySem.W.takesIn K (.builtin "object.__class__") = some true) && decide (PySem.W.mroIn K C (.type "object") = some true)
theorem excOkB_ok {K : PySem.W.Frag} {C : Addr} (h : excOkB K C = true) : ExcOk K C := by
  unfold excOkB at h
  simp only [Bool.and_eq_true, decide_eq_true_eq] at h
  obtain ⟨⟨⟨⟨⟨⟨⟨⟨⟨⟨⟨⟨h1, h2⟩, h3⟩, h4⟩, h5⟩, h6⟩, h7⟩, h8⟩, h9⟩, h10⟩, h11⟩, h12⟩, h13⟩ := h
  exact ⟨⟨oexB_ok h1, h2, h3, h4, h5⟩, h6, h7, h8, h9, h10, h11, h12, h13⟩
abbrev AlL : Type := He.AlD × Bool
def obsL (n : Nat) (fa : List He.Fa) (fn : List He.DefD) (ex : List (PySem.W.Frag → Bool)) (g : Addr → Option Obj) : AlL :=
  (He.obsD fa fn (He.frG g (He.asD g n)), ex.all fun f => f (He.frG g (He.asD g n)))
def hookL (n : Nat) (fa : List He.Fa) (fn : List He.DefD) (ex : List (PySem.W.Frag → Bool)) : PySem.W.Hook where
  α := AlL
  obs := fun s => obsL n fa fn ex s.heap.get?
  val := fun _ => (He.valD fn, true)
  says := fun _ h => ∃ K : PySem.W.Frag, K.In h ∧ He.SaysD fa fn K ∧ ∀ f ∈ ex, f K = true
  of := fun _ s e => ⟨_, He.frG_in, congrArg (fun z : AlL => z.1) e, fun f hf => List.all_eq_true.mp (congrArg (fun z : AlL => z.2) e) f hf⟩
  keeps := fun _ _ _ ⟨K, hK, c⟩ k => ⟨K, PySem.W.Frag.In.keeps hK k, c⟩
theorem obsL_eq {n : Nat} {fa : List He.Fa} {fn : List He.DefD} {ex : List (PySem.W.Frag → Bool)} {g : Addr → Option Obj} {s : Shared} (h : ∀ a, g a = s.heap.get? a) : obsL n fa fn ex g = (hookL n fa fn ex).obs s := by
  have e : g = s.heap.get? := funext h
  rw [e] <;> rfl
end TL
set_option maxHeartbeats 4000000
namespace TL
open PySem PySem.Spec PyProof.Rows L2
inductive Sl where
  | no | v (t : T) | x (u : V) (t : T) | o (p : Addr) (Pd : List T → Prop)
abbrev Env := List Sl
/-- the ground of a def's run: what stood at the entry (but the lists that are handed over), the data's part of it -/
structure Bs where
  B : Hp
  G : Hp
structure Grow (G H G' H' : Hp) : Prop where
  g : Le G G'
  h : Le H H'
  gh : Le G' H'
  fr : ∀ a, H a ≠ none → G a = none → G' a = none
theorem Grow.rfl {G H : Hp} (e : Le G H) : Grow G H G H := ⟨Le.rfl, Le.rfl, e, fun _ _ h => h⟩
theorem Le.some {H H' : Hp} (e : Le H H') {a : Addr} (h : H a ≠ none) : H' a ≠ none := by
  cases q : H a with
  | none => exact absurd q h
  | some o => rw [e a o q]; exact fun z => nomatch z
theorem Grow.tr {G H G1 H1 G2 H2 : Hp} (a : Grow G H G1 H1) (b : Grow G1 H1 G2 H2) : Grow G H G2 H2 :=
  ⟨a.g.tr b.g, a.h.tr b.h, b.gh, fun x h n => b.fr x (a.h.some h) (a.fr x h n)⟩
theorem upd_mono {G H : Hp} (e : Le G H) (p : Addr) (o : HO) : Le (upd G p o) (upd H p o) := fun a u h => by
  by_cases q : a = p
  · subst q; rw [upd_same] at h ⊢; exact h
  · rw [upd_ne q] at h ⊢; exact e a u h
theorem Grow.new {G H : Hp} {p : Addr} {o : HO} (e : Le G H) (h : H p = none) : Grow G H (upd G p o) (upd H p o) :=
  ⟨Le.new (e.back h), Le.new h, upd_mono e p o, fun a n g => by
    have q : a ≠ p := fun z => n (by rw [z]; exact h)
    rw [upd_ne q]; exact g⟩
structure Sta (b : Bs) (G H : Hp) (σ : L2.St) (ρ : Env) : Prop where
  bh : Le b.B H
  g0 : Le b.G G
  gh : Le G H
  fr : ∀ a, b.B a ≠ none → b.G a = none → G a = none
  len : σ.length = ρ.length
  val : ∀ (i : Nat) (t : T), ρ[i]? = some (.v t) → ∃ v, σ[i]? = some (some v) ∧ Rep G t v
  ex : ∀ (i : Nat) (u : V) (t : T), ρ[i]? = some (.x u t) → σ[i]? = some (some u) ∧ Rep G t u
  own : ∀ (i : Nat) (p : Addr) (Pd : List T → Prop), ρ[i]? = some (.o p Pd) → ∃ (ts : List T) (vs : List V), σ[i]? = some (some (V.ref p)) ∧ H p = some (.lst vs) ∧ G p = none ∧ b.B p = none ∧ RepL G ts vs ∧ Pd ts
  inj : ∀ (i j : Nat) (p : Addr) (Pd Qd : List T → Prop), ρ[i]? = some (.o p Pd) → ρ[j]? = some (.o p Qd) → i = j
section
variable {b : Bs} {G H G' H' : Hp} {σ : L2.St} {ρ : Env} {i : Nat} {t : T} {v : V}
theorem Sta.grow (S : Sta b G H σ ρ) (g : Grow G H G' H') : Sta b G' H' σ ρ where
  bh := S.bh.tr g.h
  g0 := S.g0.tr g.g
  gh := g.gh
  fr := fun a h n => g.fr a (S.bh.some h) (S.fr a h n)
  len := S.len
  val := fun i t e => let ⟨v, a, r⟩ := S.val i t e; ⟨v, a, r.up g.g⟩
  ex := fun i u t e => let ⟨a, r⟩ := S.ex i u t e; ⟨a, r.up g.g⟩
  own := fun i p Pd e => let ⟨ts, vs, a, h, n, nb, r, q⟩ := S.own i p Pd e
    ⟨ts, vs, a, g.h _ _ h, g.fr p (by rw [h]; exact fun z => nomatch z) n, nb, r.up g.g, q⟩
  inj := S.inj
theorem Sta.le (S : Sta b G H σ ρ) (e : Le H H') : Sta b G H' σ ρ := S.grow ⟨Le.rfl, e, S.gh.tr e, fun _ _ n => n⟩
theorem get_set {α : Type} {l : List α} {i j : Nat} {x y : α} (h : (l.set i x)[j]? = some y) : (i = j ∧ x = y ∧ i < l.length) ∨ (i ≠ j ∧ l[j]? = some y) := by
  by_cases e : i = j
  · subst e
    by_cases q : i < l.length
    · rw [List.getElem?_set_self q] at h; exact .inl ⟨rfl, Option.some.inj h, q⟩
    · rw [List.getElem?_eq_none (by simpa using q)] at h; cases h
  · rw [List.getElem?_set_ne e] at h; exact .inr ⟨e, h⟩
theorem set_get {α : Type} {l : List α} {i : Nat} {x : α} (h : i < l.length) : (l.set i x)[i]? = some x := List.getElem?_set_self h
/-- a name gets a value of the data's part -/
theorem Sta.setv (S : Sta b G H σ ρ) (i : Nat) (r : Rep G t v) : Sta b G H (σ.set i (some v)) (ρ.set i (.v t)) where
  bh := S.bh
  g0 := S.g0
  gh := S.gh
  fr := S.fr
  len := by rw [List.length_set, List.length_set]; exact S.len
  val := fun j u e => by
    rcases get_set e with ⟨e1, e2, e3⟩ | ⟨e1, e2⟩
    · cases e2; subst e1; exact ⟨v, set_get (by rw [S.len]; exact e3), r⟩
    · rw [List.getElem?_set_ne e1]; exact S.val j u e2
  ex := fun j w u e => by
    rcases get_set e with ⟨e1, e2, e3⟩ | ⟨e1, e2⟩
    · cases e2
    · rw [List.getElem?_set_ne e1]; exact S.ex j w u e2
  own := fun j p Pd e => by
    rcases get_set e with ⟨e1, e2, e3⟩ | ⟨e1, e2⟩
    · cases e2
    · rw [List.getElem?_set_ne e1]; exact S.own j p Pd e2
  inj := fun j k p Pd Qd e f => by
    rcases get_set e with ⟨e1, e2, e3⟩ | ⟨e1, e2⟩
    · cases e2
    · rcases get_set f with ⟨f1, f2, f3⟩ | ⟨f1, f2⟩
      · cases f2
      · exact S.inj j k p Pd Qd e2 f2
theorem Sta.setx (S : Sta b G H σ ρ) (i : Nat) (r : Rep G t v) : Sta b G H (σ.set i (some v)) (ρ.set i (.x v t)) where
  bh := S.bh
  g0 := S.g0
  gh := S.gh
  fr := S.fr
  len := by rw [List.length_set, List.length_set]; exact S.len
  val := fun j u e => by
    rcases get_set e with ⟨e1, e2, e3⟩ | ⟨e1, e2⟩
    · cases e2
    · rw [List.getElem?_set_ne e1]; exact S.val j u e2
  ex := fun j w u e => by
    rcases get_set e with ⟨e1, e2, e3⟩ | ⟨e1, e2⟩
    · cases e2; subst e1; exact ⟨set_get (by rw [S.len]; exact e3), r⟩
    · rw [List.getElem?_set_ne e1]; exact S.ex j w u e2
  own := fun j p Pd e => by
    rcases get_set e with ⟨e1, e2, e3⟩ | ⟨e1, e2⟩
    · cases e2
    · rw [List.getElem?_set_ne e1]; exact S.own j p Pd e2
  inj := fun j k p Pd Qd e f => by
    rcases get_set e with ⟨e1, e2, e3⟩ | ⟨e1, e2⟩
    · cases e2
    · rcases get_set f with ⟨f1, f2, f3⟩ | ⟨f1, f2⟩
      · cases f2
      · exact S.inj j k p Pd Qd e2 f2
/-- a name gets a list of its own, new -/
theorem Sta.seto (S : Sta b G H σ ρ) (i : Nat) {p : Addr} {ts : List T} {vs : List V} {Pd : List T → Prop} (hp : H p = some (.lst vs)) (gp : G p = none) (bp : b.B p = none) (r : RepL G ts vs) (q : Pd ts)
    (ap : ∀ (j : Nat) (Qd : List T → Prop), i ≠ j → ρ[j]? ≠ some (.o p Qd)) : Sta b G H (σ.set i (some (.ref p))) (ρ.set i (.o p Pd)) where
  bh := S.bh
  g0 := S.g0
  gh := S.gh
  fr := S.fr
  len := by rw [List.length_set, List.length_set]; exact S.len
  val := fun j u e => by
    rcases get_set e with ⟨e1, e2, e3⟩ | ⟨e1, e2⟩
    · cases e2
    · rw [List.getElem?_set_ne e1]; exact S.val j u e2
  ex := fun j w u e => by
    rcases get_set e with ⟨e1, e2, e3⟩ | ⟨e1, e2⟩
    · cases e2
    · rw [List.getElem?_set_ne e1]; exact S.ex j w u e2
  own := fun j c Qd e => by
    rcases get_set e with ⟨e1, e2, e3⟩ | ⟨e1, e2⟩
    · cases e2; subst e1; exact ⟨ts, vs, set_get (by rw [S.len]; exact e3), hp, gp, bp, r, q⟩
    · rw [List.getElem?_set_ne e1]; exact S.own j c Qd e2
  inj := fun j k c Pd' Qd e f => by
    rcases get_set e with ⟨e1, e2, e3⟩ | ⟨e1, e2⟩
    · rcases get_set f with ⟨f1, f2, f3⟩ | ⟨f1, f2⟩
      · exact e1.symm.trans f1
      · cases e2
        subst e1
        exact absurd f2 (ap k Qd f1)
    · rcases get_set f with ⟨f1, f2, f3⟩ | ⟨f1, f2⟩
      · cases f2
        subst f1
        exact absurd e2 (ap j Pd' e1)
      · exact S.inj j k c Pd' Qd e2 f2
/-- a list of one's own is changed -/
theorem Sta.wr (S : Sta b G H σ ρ) {p : Addr} {Pd : List T → Prop} (e : ρ[i]? = some (.o p Pd)) {ts : List T} {vs : List V} (r : RepL G ts vs) {Qd : List T → Prop} (q : Qd ts) :
    Sta b G (upd H p (.lst vs)) σ (ρ.set i (.o p Qd)) := by
  obtain ⟨ts0, vs0, a0, h0, n0, nb0, r0, q0⟩ := S.own i p Pd e
  have hi : i < ρ.length := (List.getElem?_eq_some_iff.mp e).1
  have ne : ∀ {a : Addr} {o : HO}, G a = some o → a ≠ p := fun {a o} g z => by rw [z, n0] at g; cases g
  refine ⟨fun a o h => ?_, S.g0, fun a o g => ?_, S.fr, by rw [List.length_set]; exact S.len, fun j u f => ?_, fun j w u f => ?_, fun j c Rd f => ?_, fun j k c Rd Ud f f' => ?_⟩
  · have : a ≠ p := fun z => by rw [z, nb0] at h; cases h
    rw [upd_ne this]; exact S.bh a o h
  · rw [upd_ne (ne g)]; exact S.gh a o g
  · rcases get_set f with ⟨e1, e2, e3⟩ | ⟨e1, e2⟩
    · cases e2
    · exact S.val j u e2
  · rcases get_set f with ⟨e1, e2, e3⟩ | ⟨e1, e2⟩
    · cases e2
    · exact S.ex j w u e2
  · rcases get_set f with ⟨e1, e2, e3⟩ | ⟨e1, e2⟩
    · cases e2; subst e1; exact ⟨ts, vs, a0, upd_same, n0, nb0, r, q⟩
    · obtain ⟨ts2, vs2, a2, h2, n2, nb2, r2, q2⟩ := S.own j c Rd e2
      have np : c ≠ p := fun z => e1 (S.inj i j p Pd Rd e (by rw [← z]; exact e2))
      exact ⟨ts2, vs2, a2, by rw [upd_ne np]; exact h2, n2, nb2, r2, q2⟩
  · rcases get_set f with ⟨e1, e2, e3⟩ | ⟨e1, e2⟩
    · cases e2
      subst e1
      rcases get_set f' with ⟨f1, f2, f3⟩ | ⟨f1, f2⟩
      · exact f1
      · exact S.inj i k p Pd Ud e f2
    · rcases get_set f' with ⟨f1, f2, f3⟩ | ⟨f1, f2⟩
      · cases f2
        subst f1
        exact S.inj j i p Rd Pd e2 e
      · exact S.inj j k c Rd Ud e2 f2
/-- forget what a slot holds -/
theorem Sta.forget (S : Sta b G H σ ρ) (i : Nat) : Sta b G H σ (ρ.set i .no) where
  bh := S.bh
  g0 := S.g0
  gh := S.gh
  fr := S.fr
  len := by rw [List.length_set]; exact S.len
  val := fun j u e => by
    rcases get_set e with ⟨_, e2, _⟩ | ⟨_, e2⟩
    · cases e2
    · exact S.val j u e2
  ex := fun j w u e => by
    rcases get_set e with ⟨_, e2, _⟩ | ⟨_, e2⟩
    · cases e2
    · exact S.ex j w u e2
  own := fun j p Pd e => by
    rcases get_set e with ⟨_, e2, _⟩ | ⟨_, e2⟩
    · cases e2
    · exact S.own j p Pd e2
  inj := fun j k p Pd Qd e f => by
    rcases get_set e with ⟨_, e2, _⟩ | ⟨_, e2⟩
    · cases e2
    · rcases get_set f with ⟨_, f2, _⟩ | ⟨_, f2⟩
      · cases f2
      · exact S.inj j k p Pd Qd e2 f2
theorem freeze_gr {p : Addr} {vs : List V} (S : Sta b G H σ ρ) (hp : H p = some (.lst vs)) (bp : b.B p = none) : (∀ a o, upd G p (.lst vs) a = some o → H a = some o) ∧ ∀ a, b.B a ≠ none → b.G a = none → upd G p (.lst vs) a = none := by
  refine ⟨fun a o g => ?_, fun a hb hg => ?_⟩
  · by_cases z : a = p
    · subst z; rw [upd_same] at g; cases g; exact hp
    · rw [upd_ne z] at g; exact S.gh a o g
  · have z : a ≠ p := fun z => hb (by rw [z]; exact bp)
    rw [upd_ne z]; exact S.fr a hb hg
/-- a list of one's own goes into the data's part -/
theorem Sta.freeze (S : Sta b G H σ ρ) {p : Addr} {Pd : List T → Prop} (e : ρ[i]? = some (.o p Pd)) : ∃ ts vs, σ[i]? = some (some (.ref p)) ∧ H p = some (.lst vs) ∧ RepL G ts vs ∧ Pd ts ∧ Le G (upd G p (.lst vs)) ∧ Sta b (upd G p (.lst vs)) H σ (ρ.set i (.v (.lst ts))) := by
  obtain ⟨ts, vs, a0, h0, n0, nb0, r0, q0⟩ := S.own i p Pd e
  have lg : Le G (upd G p (.lst vs)) := Le.new n0
  obtain ⟨g1, g2⟩ := freeze_gr S h0 nb0
  refine ⟨ts, vs, a0, h0, r0, q0, lg, S.bh, S.g0.tr lg, g1, g2, by rw [List.length_set]; exact S.len, fun j u f => ?_, fun j w u f => ?_, fun j c Rd f => ?_, fun j k c Rd Ud f f' => ?_⟩
  · rcases get_set f with ⟨e1, e2, e3⟩ | ⟨e1, e2⟩
    · cases e2; subst e1; exact ⟨_, a0, p, vs, rfl, upd_same, r0.up lg⟩
    · obtain ⟨v, x1, x2⟩ := S.val j u e2; exact ⟨v, x1, x2.up lg⟩
  · rcases get_set f with ⟨e1, e2, e3⟩ | ⟨e1, e2⟩
    · cases e2
    · obtain ⟨x1, x2⟩ := S.ex j w u e2; exact ⟨x1, x2.up lg⟩
  · rcases get_set f with ⟨e1, e2, e3⟩ | ⟨e1, e2⟩
    · cases e2
    · obtain ⟨ts2, vs2, a2, h2, n2, nb2, r2, q2⟩ := S.own j c Rd e2
      have np : c ≠ p := fun z => e1 (S.inj i j p Pd Rd e (by rw [← z]; exact e2))
      exact ⟨ts2, vs2, a2, h2, by rw [upd_ne np]; exact n2, nb2, r2.up lg, q2⟩
  · rcases get_set f with ⟨e1, e2, e3⟩ | ⟨e1, e2⟩
    · cases e2
    · rcases get_set f' with ⟨f1, f2, f3⟩ | ⟨f1, f2⟩
      · cases f2
      · exact S.inj j k c Rd Ud e2 f2
/-- a new list goes into the data's part -/
theorem Sta.freezeNew (S : Sta b G H σ ρ) {p : Addr} {vs : List V} (hp : H p = some (.lst vs)) (gp : G p = none) (bp : b.B p = none) (ap : ∀ (j : Nat) (Qd : List T → Prop), ρ[j]? ≠ some (.o p Qd)) :
    Le G (upd G p (.lst vs)) ∧ Sta b (upd G p (.lst vs)) H σ ρ := by
  have lg : Le G (upd G p (.lst vs)) := Le.new gp
  obtain ⟨g1, g2⟩ := freeze_gr S hp bp
  refine ⟨lg, S.bh, S.g0.tr lg, g1, g2, S.len, fun j u f => ?_, fun j w u f => ?_, fun j c Rd f => ?_, S.inj⟩
  · obtain ⟨v, x1, x2⟩ := S.val j u f; exact ⟨v, x1, x2.up lg⟩
  · obtain ⟨x1, x2⟩ := S.ex j w u f; exact ⟨x1, x2.up lg⟩
  · obtain ⟨ts2, vs2, a2, h2, n2, nb2, r2, q2⟩ := S.own j c Rd f
    have np : c ≠ p := fun z => ap j Rd (by rw [← z]; exact f)
    exact ⟨ts2, vs2, a2, h2, by rw [upd_ne np]; exact n2, nb2, r2.up lg, q2⟩
end
end TL
set_option maxHeartbeats 4000000
namespace TL
open PySem PySem.Spec PyProof.Rows L2
/-- an error that leaves: its class, its fields (none: it has no dict of its own) -/
structure Er where
  C : Addr
  fs : Option (List (Str × V))
def ErAt (H : Hp) (od : Option Addr) : Option (List (Str × V)) → Prop
  | none => od = none
  | some fs => ∃ d, od = some d ∧ H d = some (.xd fs)
/-- what is wished of the errors that may leave -/
abbrev XP := Er → Env → Prop
def KErr (E : WX) (X : XP) (b : Bs) (G : Hp) (σ : L2.St) : Prop := ∀ (er : Er) (ρ' : Env) (od : Option Addr) (G' H' : Hp), X er ρ' → ErAt H' od er.fs → Sta b G' H' σ ρ' → Le G G' → E (.ref er.C) od σ H'
theorem KErr.up {E : WX} {X : XP} {b : Bs} {G G' : Hp} {σ : L2.St} (k : KErr E X b G σ) (e : Le G G') : KErr E X b G' σ := fun er ρ' od G2 H2 x a S l => k er ρ' od G2 H2 x a S (e.tr l)
def wE (E : WX) (X : XP) (te : TE) (ρ : Env) (Φ : V → T → Env → Prop) : Prop := ∀ (b : Bs) (G H : Hp) (σ : L2.St) (Q : VK), Sta b G H σ ρ →
  (∀ v t ρ' G' H', Φ v t ρ' → Rep G' t v → Sta b G' H' σ ρ' → Le G G' → Q v H') → KErr E X b G σ → te σ H Q
/-- a new list -/
def wF (E : WX) (X : XP) (te : TE) (ρ : Env) (Ψ : List T → Env → Prop) : Prop := ∀ (b : Bs) (G H : Hp) (σ : L2.St) (Q : VK), Sta b G H σ ρ →
  (∀ p vs ts ρ' G' H', Ψ ts ρ' → H' p = some (.lst vs) → G' p = none → b.B p = none → RepL G' ts vs → (∀ (j : Nat) (Qd : List T → Prop), ρ'[j]? ≠ some (.o p Qd)) → Sta b G' H' σ ρ' → Le G G' → Q (.ref p) H') →
  KErr E X b G σ → te σ H Q
def wT (E : WX) (X : XP) (tt : TT) (ρ : Env) (Φ : Bool → Env → Prop) : Prop := ∀ (b : Bs) (G H : Hp) (σ : L2.St) (Q : Bool → Hp → Prop), Sta b G H σ ρ →
  (∀ c ρ' G' H', Φ c ρ' → Sta b G' H' σ ρ' → Le G G' → Q c H') → KErr E X b G σ → tt σ H Q
def wA (E : WX) (X : XP) (ta : TA) (ρ : Env) (Φ : List V → List T → Env → Prop) : Prop := ∀ (b : Bs) (G H : Hp) (σ : L2.St) (Q : List V → Hp → Prop), Sta b G H σ ρ →
  (∀ vs ts ρ' G' H', Φ vs ts ρ' → RepL G' ts vs → Sta b G' H' σ ρ' → Le G G' → Q vs H') → KErr E X b G σ → ta σ H Q
structure Post where
  nx : Env → Prop := fun _ => False
  rt : T → Env → Prop := fun _ _ => False
  rf : List T → Env → Prop := fun _ _ => False
  bk : Env → Prop := fun _ => False
  ct : Env → Prop := fun _ => False
  /-- the slot whose list is handed over (1000000: none) -/
  z : Nat := 1000000
structure KEnds (D : Ends) (P : Post) (b : Bs) (G : Hp) : Prop where
  nx : ∀ ρ' σ' G' H', P.nx ρ' → Sta b G' H' σ' ρ' → Le G G' → D.nx σ' H'
  rt : ∀ v t ρ' σ' G' H', P.rt t ρ' → Rep G' t v → Sta b G' H' σ' ρ' → Le G G' → D.rt v H'
  rf : ∀ p vs ts ρ' σ' G' H', P.rf ts ρ' → (∀ Qd, ρ'[P.z]? ≠ some (.o p Qd)) → H' p = some (.lst vs) → G' p = none → b.B p = none → RepL G' ts vs → Sta b G' H' σ' ρ' → Le G G' → D.rt (.ref p) H'
  bk : ∀ ρ' σ' G' H', P.bk ρ' → Sta b G' H' σ' ρ' → Le G G' → D.bk σ' H'
  ct : ∀ ρ' σ' G' H', P.ct ρ' → Sta b G' H' σ' ρ' → Le G G' → D.ct σ' H'
theorem KEnds.up {D : Ends} {P : Post} {b : Bs} {G G' : Hp} (k : KEnds D P b G) (e : Le G G') : KEnds D P b G' :=
  ⟨fun ρ' σ' G2 H2 p S l => k.nx ρ' σ' G2 H2 p S (e.tr l), fun v t ρ' σ' G2 H2 p r S l => k.rt v t ρ' σ' G2 H2 p r S (e.tr l), fun p vs ts ρ' σ' G2 H2 h1 hz h2 h3 h4 h5 S l => k.rf p vs ts ρ' σ' G2 H2 h1 hz h2 h3 h4 h5 S (e.tr l),
   fun ρ' σ' G2 H2 p S l => k.bk ρ' σ' G2 H2 p S (e.tr l), fun ρ' σ' G2 H2 p S l => k.ct ρ' σ' G2 H2 p S (e.tr l)⟩
def KErrS (E : WX) (X : XP) (b : Bs) (G : Hp) : Prop := ∀ σ, KErr E X b G σ
def wS (E : WX) (X : XP) (ts : TS) (ρ : Env) (P : Post) : Prop := ∀ (b : Bs) (G H : Hp) (σ : L2.St) (D : Ends), Sta b G H σ ρ → KEnds D P b G → KErrS E X b G → ts D σ H
/-- a target of an assignment -/
def wG (g : TG) (t : T) (u : V) (ρ : Env) (Φ : Env → Prop) : Prop := ∀ (b : Bs) (G H : Hp) (σ : L2.St) (Q : L2.St → Hp → Prop), Sta b G H σ ρ → Rep G t u → (∀ σ' ρ', Φ ρ' → Sta b G H σ' ρ' → Q σ' H) → g u σ H Q
/-- what an iterator yields, in all later heaps -/
def Yields (J : It) (ts : List T) (G0 : Hp) : Prop := ∀ G H, Le G0 G → Le G H → (∀ (i : Nat) (t : T), ts[i]? = some t → J.go i H ∧ ∀ x H', J.yld i H x H' → ∃ G', Grow G H G' H' ∧ Rep G' t x) ∧ J.stop ts.length H
def wI (E : WX) (X : XP) (wi : TI) (ρ : Env) (Φ : List T → Env → Prop) : Prop := ∀ (b : Bs) (G H : Hp) (σ : L2.St) (R : It → Hp → Prop), Sta b G H σ ρ →
  (∀ J ts ρ' G' H', Φ ts ρ' → Yields J ts G' → Sta b G' H' σ ρ' → Le G G' → R J H') → KErr E X b G σ → wi σ H R
section
variable {E : WX} {X : XP} {ρ : Env} {te ta tb : TE} {Φ Φ' : V → T → Env → Prop} {Ψ : List T → Env → Prop} {i : Nat}
theorem wE_imp (h : wE E X te ρ Φ) (k : ∀ v t ρ', Φ v t ρ' → Φ' v t ρ') : wE E X te ρ Φ' := fun b G H σ Q S q ke => h b G H σ Q S (fun v t ρ' G' H' p r S' l => q v t ρ' G' H' (k _ _ _ p) r S' l) ke
/-- a new list, kept as it is from now on -/
theorem wE_F (h : wF E X te ρ fun ts ρ' => ∀ v, Φ v (.lst ts) ρ') : wE E X te ρ Φ := fun b G H σ Q S q ke =>
  h b G H σ Q S (fun p vs ts ρ' G' H' h1 h2 h3 h4 h5 h6 S' l =>
    let ⟨l2, S2⟩ := S'.freezeNew h2 h3 h4 h6
    q (.ref p) (.lst ts) ρ' _ H' (h1 _) ⟨p, vs, rfl, upd_same, h5.up l2⟩ S2 (l.tr l2)) ke
theorem wE_v {t : T} (e : ρ[i]? = some (.v t)) (h : ∀ v, Φ v t ρ) : wE E X (tVar i) ρ Φ := fun b G H σ Q S q _ => by
  obtain ⟨v, a, r⟩ := S.val i t e
  exact ⟨v, a, q v t ρ G H (h v) r S Le.rfl⟩
theorem wE_x {t : T} {u : V} (e : ρ[i]? = some (.x u t)) (h : Φ u t ρ) : wE E X (tVar i) ρ Φ := fun b G H σ Q S q _ => by
  obtain ⟨a, r⟩ := S.ex i u t e
  exact ⟨u, a, q u t ρ G H h r S Le.rfl⟩
/-- a list of one's own, given out for good -/
theorem wE_o {p : Addr} {Pd : List T → Prop} (e : ρ[i]? = some (.o p Pd)) (h : ∀ ts, Pd ts → Φ (.ref p) (.lst ts) (ρ.set i (.v (.lst ts)))) : wE E X (tVar i) ρ Φ := fun b G H σ Q S q _ => by
  obtain ⟨ts, vs, a0, h0, r0, q0, lg, S2⟩ := S.freeze e
  exact ⟨_, a0, q _ _ _ _ H (h ts q0) ⟨p, vs, rfl, upd_same, r0.up lg⟩ S2 lg⟩
theorem wE_int {n : Int} (h : Φ (.int n) (.int n) ρ) : wE E X (tC (.int n)) ρ Φ := fun b G H σ Q S q _ => q _ _ ρ G H h rfl S Le.rfl
theorem wE_bl {n : Bool} (h : Φ (.bl n) (.bl n) ρ) : wE E X (tC (.bl n)) ρ Φ := fun b G H σ Q S q _ => q _ _ ρ G H h rfl S Le.rfl
theorem wE_non (h : Φ .non .non ρ) : wE E X (tC .non) ρ Φ := fun b G H σ Q S q _ => q _ _ ρ G H h rfl S Le.rfl
theorem wE_str {n : Str} (h : Φ (.str n) (.str n) ρ) : wE E X (tC (.str n)) ρ Φ := fun b G H σ Q S q _ => q _ _ ρ G H h rfl S Le.rfl
theorem wE_raw {u : V} (h : Φ u (.raw u) ρ) : wE E X (tC u) ρ Φ := fun b G H σ Q S q _ => q _ _ ρ G H h rfl S Le.rfl
def OpOk (r : R2) (f : T → T → (T → Prop) → Prop) : Prop := ∀ (b : Bs) (G H : Hp) (σ : L2.St) (ρ : Env) (v1 v2 : V) (t1 t2 : T) (K : T → Prop) (Q : VK), Sta b G H σ ρ → Rep G t1 v1 → Rep G t2 v2 → f t1 t2 K →
  (∀ v t G' H', K t → Rep G' t v → Sta b G' H' σ ρ → Le G G' → Q v H') → r v1 v2 H Q
def UnOk (r : V → Hp → VK → Prop) (f : T → (T → Prop) → Prop) : Prop := ∀ (b : Bs) (G H : Hp) (σ : L2.St) (ρ : Env) (v1 : V) (t1 : T) (K : T → Prop) (Q : VK), Sta b G H σ ρ → Rep G t1 v1 → f t1 K →
  (∀ v t G' H', K t → Rep G' t v → Sta b G' H' σ ρ → Le G G' → Q v H') → r v1 H Q
def CbOk (r : List V → Hp → VK → Prop) (f : List T → (T → Prop) → Prop) : Prop := ∀ (b : Bs) (G H : Hp) (σ : L2.St) (ρ : Env) (vs : List V) (ts : List T) (K : T → Prop) (Q : VK), Sta b G H σ ρ → RepL G ts vs → f ts K →
  (∀ v t G' H', K t → Rep G' t v → Sta b G' H' σ ρ → Le G G' → Q v H') → r vs H Q
theorem wE_op {r : R2} {f : T → T → (T → Prop) → Prop} (ho : OpOk r f) (h : wE E X ta ρ fun _ x ρ1 => wE E X tb ρ1 fun _ y ρ2 => f x y fun z => ∀ v, Φ v z ρ2) : wE E X (tOp r ta tb) ρ Φ := fun b G H σ Q S q ke =>
  h b G H σ _ S (fun v1 t1 ρ1 G1 H1 h1 r1 S1 l1 => h1 b G1 H1 σ _ S1 (fun v2 t2 ρ2 G2 H2 h2 r2 S2 l2 =>
    ho b G2 H2 σ ρ2 v1 v2 t1 t2 _ Q S2 (r1.up l2) r2 h2 fun v t G' H' k r' S' l' => q v t ρ2 G' H' (k v) r' S' ((l1.tr l2).tr l')) (ke.up l1)) ke
theorem wE_un {r : V → Hp → VK → Prop} {f : T → (T → Prop) → Prop} (ho : UnOk r f) (h : wE E X ta ρ fun _ x ρ1 => f x fun z => ∀ v, Φ v z ρ1) : wE E X (tUn r ta) ρ Φ := fun b G H σ Q S q ke =>
  h b G H σ _ S (fun v1 t1 ρ1 G1 H1 h1 r1 S1 l1 => ho b G1 H1 σ ρ1 v1 t1 _ Q S1 r1 h1 fun v t G' H' k r' S' l' => q v t ρ1 G' H' (k v) r' S' (l1.tr l')) ke
theorem wE_cb {r : List V → Hp → VK → Prop} {f : List T → (T → Prop) → Prop} {t : TA} (ho : CbOk r f) (h : wA E X t ρ fun _ xs ρ1 => f xs fun z => ∀ v, Φ v z ρ1) : wE E X (tCB r t) ρ Φ := fun b G H σ Q S q ke =>
  h b G H σ _ S (fun vs xs ρ1 G1 H1 h1 r1 S1 l1 => ho b G1 H1 σ ρ1 vs xs _ Q S1 r1 h1 fun v t G' H' k r' S' l' => q v t ρ1 G' H' (k v) r' S' (l1.tr l')) ke
theorem wA_nil {Φ : List V → List T → Env → Prop} (h : Φ [] [] ρ) : wA E X tNil ρ Φ := fun b G H σ Q S q _ => q [] [] ρ G H h rfl S Le.rfl
theorem wA_cons {Φ : List V → List T → Env → Prop} {tr : TA} (h : wE E X ta ρ fun v x ρ1 => wA E X tr ρ1 fun vs xs ρ2 => Φ (v :: vs) (x :: xs) ρ2) : wA E X (tCons ta tr) ρ Φ := fun b G H σ Q S q ke =>
  h b G H σ _ S (fun v1 t1 ρ1 G1 H1 h1 r1 S1 l1 => h1 b G1 H1 σ _ S1 (fun vs ts ρ2 G2 H2 h2 r2 S2 l2 =>
    q (v1 :: vs) (t1 :: ts) ρ2 G2 H2 h2 ⟨v1, vs, rfl, r1.up l2, r2⟩ S2 (l1.tr l2)) (ke.up l1)) ke
theorem wE_tup {t : TA} (h : wA E X t ρ fun _ ts ρ1 => ts.length ≤ sizeLine ∧ ∀ v, Φ v (.tup ts) ρ1) : wE E X (tTup t) ρ Φ := fun b G H σ Q S q ke =>
  h b G H σ _ S (fun vs ts ρ1 G1 H1 ⟨h0, h1⟩ r1 S1 l1 => ⟨by rw [r1.len]; exact h0, fun p hp => by
    have g := Grow.new (o := .tup vs) S1.gh hp
    exact q _ _ ρ1 _ _ (h1 _) ⟨p, vs, rfl, .inl upd_same, r1.up g.g⟩ (S1.grow g) (l1.tr g.g)⟩) ke
theorem wF_lst {t : TA} (h : wA E X t ρ fun _ ts ρ1 => ts.length ≤ sizeLine ∧ Ψ ts ρ1) : wF E X (tLst t) ρ Ψ := fun b G H σ Q S q ke =>
  h b G H σ _ S (fun vs ts ρ1 G1 H1 ⟨h0, h1⟩ r1 S1 l1 => ⟨by rw [r1.len]; exact h0, fun p hp => by
    have g := Le.new (o := .lst vs) hp
    refine q p vs ts ρ1 G1 _ h1 upd_same (S1.gh.back hp) (S1.bh.back hp) r1 (fun j Qd e => ?_) (S1.le g) l1
    obtain ⟨ts2, vs2, a2, h2, _⟩ := S1.own j p Qd e
    rw [hp] at h2
    cases h2⟩) ke
variable {tt tu : TT} {Θ : Bool → Env → Prop}
theorem wT_test (h : wE E X te ρ fun _ t ρ' => ∃ c, t = .bl c ∧ Θ c ρ') : wT E X (tTest te) ρ Θ := fun b G H σ Q S q ke =>
  h b G H σ _ S (fun v t ρ' G' H' ⟨c, e, h1⟩ r S' l => by subst e; exact ⟨c, r, q c ρ' G' H' h1 S' l⟩) ke
theorem wT_not (h : wT E X tt ρ fun c ρ' => Θ (!c) ρ') : wT E X (tNot tt) ρ Θ := fun b G H σ Q S q ke => h b G H σ _ S (fun c ρ' G' H' h1 S' l => q _ ρ' G' H' h1 S' l) ke
theorem wT_and (h : wT E X tt ρ fun c ρ1 => if c = true then wT E X tu ρ1 Θ else Θ false ρ1) : wT E X (tAnd tt tu) ρ Θ := fun b G H σ Q S q ke =>
  h b G H σ _ S (fun c ρ1 G1 H1 h1 S1 l1 => by
    cases c with
    | true => exact h1 b G1 H1 σ Q S1 (fun c ρ' G' H' h2 S' l => q c ρ' G' H' h2 S' (l1.tr l)) (ke.up l1)
    | false => exact q false ρ1 G1 H1 h1 S1 l1) ke
theorem wT_or (h : wT E X tt ρ fun c ρ1 => if c = true then Θ true ρ1 else wT E X tu ρ1 Θ) : wT E X (tOr tt tu) ρ Θ := fun b G H σ Q S q ke =>
  h b G H σ _ S (fun c ρ1 G1 H1 h1 S1 l1 => by
    cases c with
    | false => exact h1 b G1 H1 σ Q S1 (fun c ρ' G' H' h2 S' l => q c ρ' G' H' h2 S' (l1.tr l)) (ke.up l1)
    | true => exact q true ρ1 G1 H1 h1 S1 l1) ke
theorem wT_yes (h : Θ true ρ) : wT E X tYes ρ Θ := fun b G H σ Q S q _ => q true ρ G H h S Le.rfl
theorem wE_andV (h : wE E X ta ρ fun _ x ρ1 => ∃ c, x = .bl c ∧ if c = true then wE E X tb ρ1 Φ else ∀ v, Φ v (.bl false) ρ1) : wE E X (tAndV ta tb) ρ Φ := fun b G H σ Q S q ke =>
  h b G H σ _ S (fun v x ρ1 G1 H1 ⟨c, e, h1⟩ r S1 l1 => by
    subst e
    refine ⟨c, r, ?_⟩
    cases c with
    | true => exact h1 b G1 H1 σ Q S1 (fun v t ρ' G' H' h2 r2 S' l => q v t ρ' G' H' h2 r2 S' (l1.tr l)) (ke.up l1)
    | false => exact q _ _ ρ1 G1 H1 (h1 _) rfl S1 l1) ke
theorem wE_orV (h : wE E X ta ρ fun _ x ρ1 => ∃ c, x = .bl c ∧ if c = true then ∀ v, Φ v (.bl true) ρ1 else wE E X tb ρ1 Φ) : wE E X (tOrV ta tb) ρ Φ := fun b G H σ Q S q ke =>
  h b G H σ _ S (fun v x ρ1 G1 H1 ⟨c, e, h1⟩ r S1 l1 => by
    subst e
    refine ⟨c, r, ?_⟩
    cases c with
    | false => exact h1 b G1 H1 σ Q S1 (fun v t ρ' G' H' h2 r2 S' l => q v t ρ' G' H' h2 r2 S' (l1.tr l)) (ke.up l1)
    | true => exact q _ _ ρ1 G1 H1 (h1 _) rfl S1 l1) ke
theorem wE_notV (h : wE E X ta ρ fun _ x ρ1 => ∃ c, x = .bl c ∧ ∀ v, Φ v (.bl (!c)) ρ1) : wE E X (tNotV ta) ρ Φ := fun b G H σ Q S q ke =>
  h b G H σ _ S (fun v x ρ1 G1 H1 ⟨c, e, h1⟩ r S1 l1 => by
    subst e
    exact ⟨c, r, q _ _ ρ1 G1 H1 (h1 _) rfl S1 l1⟩) ke
theorem wE_if (h : wT E X tt ρ fun c ρ1 => if c = true then wE E X ta ρ1 Φ else wE E X tb ρ1 Φ) : wE E X (tIf tt ta tb) ρ Φ := fun b G H σ Q S q ke =>
  h b G H σ _ S (fun c ρ1 G1 H1 h1 S1 l1 => by
    cases c with
    | true => exact h1 b G1 H1 σ Q S1 (fun v t ρ' G' H' h2 r2 S' l => q v t ρ' G' H' h2 r2 S' (l1.tr l)) (ke.up l1)
    | false => exact h1 b G1 H1 σ Q S1 (fun v t ρ' G' H' h2 r2 S' l => q v t ρ' G' H' h2 r2 S' (l1.tr l)) (ke.up l1)) ke
theorem wE_chain {r r' : R2} {f f' : T → T → (T → Prop) → Prop} {tc : TE} (ho : OpOk r f) (ho' : OpOk r' f')
    (h : wE E X ta ρ fun _ x ρ1 => wE E X tb ρ1 fun _ y ρ2 => f x y fun z => ∃ c, z = .bl c ∧ if c = true then wE E X tc ρ2 fun _ w ρ3 => f' y w fun z => ∀ v, Φ v z ρ3 else ∀ v, Φ v (.bl false) ρ2) : wE E X (tChain r r' ta tb tc) ρ Φ := fun b G H σ Q S q ke =>
  h b G H σ _ S (fun v1 t1 ρ1 G1 H1 h1 r1 S1 l1 => h1 b G1 H1 σ _ S1 (fun v2 t2 ρ2 G2 H2 h2 r2 S2 l2 =>
    ho b G2 H2 σ ρ2 v1 v2 t1 t2 _ _ S2 (r1.up l2) r2 h2 fun v t G3 H3 ⟨c, e, k⟩ r3 S3 l3 => by
      subst e
      refine ⟨c, r3, ?_⟩
      cases c with
      | true =>
        show tc σ H3 fun w H4 => r' v2 w H4 Q
        exact k b G3 H3 σ _ S3 (fun v4 t4 ρ4 G4 H4 h4 r4 S4 l4 => ho' b G4 H4 σ ρ4 v2 v4 t2 t4 _ Q S4 ((r2.up l3).up l4) r4 h4 fun v5 t5 G5 H5 k5 r5 S5 l5 => q v5 t5 ρ4 G5 H5 (k5 v5) r5 S5 ((((l1.tr l2).tr l3).tr l4).tr l5)) (ke.up ((l1.tr l2).tr l3))
      | false => exact q _ _ ρ2 G3 H3 (k _) rfl S3 ((l1.tr l2).tr l3)) (ke.up l1)) ke
end
end TL
set_option maxHeartbeats 4000000
namespace TL
open PySem PySem.Spec PyProof.Rows L2
section
variable {E : WX} {X : XP} {ρ : Env} {te ta tb : TE} {tt : TT} {t u ts tw : TS} {P : Post} {g : TG} {i : Nat}
theorem wS_seq (h : wS E X t ρ { P with nx := fun ρ1 => wS E X u ρ1 P }) : wS E X (tSeq t u) ρ P := fun b G H σ D S k ke =>
  h b G H σ { D with nx := u D } S ⟨fun ρ' σ' G' H' p S' l => p b G' H' σ' D S' (k.up l) (fun σ => (ke σ).up l), k.rt, k.rf, k.bk, k.ct⟩ ke
theorem wS_next (h : P.nx ρ) : wS E X tNext ρ P := fun b G H σ D S k _ => k.nx ρ σ G H h S Le.rfl
theorem wS_drop (h : wE E X te ρ fun _ _ ρ' => P.nx ρ') : wS E X (tDrop te) ρ P := fun b G H σ D S k ke =>
  h b G H σ _ S (fun v t ρ' G' H' h1 r S' l => k.nx ρ' σ G' H' h1 S' l) (ke σ)
theorem wS_ret (h : wE E X te ρ fun _ t ρ' => P.rt t ρ') : wS E X (tRet te) ρ P := fun b G H σ D S k ke =>
  h b G H σ _ S (fun v t ρ' G' H' h1 r S' l => k.rt v t ρ' σ G' H' h1 r S' l) (ke σ)
theorem wS_retF (h : wF E X te ρ fun ts ρ' => P.rf ts ρ') : wS E X (tRet te) ρ P := fun b G H σ D S k ke =>
  h b G H σ _ S (fun p vs ts ρ' G' H' h1 h2 h3 h4 h5 h6 S' l => k.rf p vs ts ρ' σ G' H' h1 (h6 _) h2 h3 h4 h5 S' l) (ke σ)
theorem wS_if (h : wT E X tt ρ fun c ρ1 => if c = true then wS E X t ρ1 P else wS E X u ρ1 P) : wS E X (tIfS tt t u) ρ P := fun b G H σ D S k ke =>
  h b G H σ _ S (fun c ρ1 G1 H1 h1 S1 l1 => by
    cases c with
    | true => exact h1 b G1 H1 σ D S1 (k.up l1) (fun σ => (ke σ).up l1)
    | false => exact h1 b G1 H1 σ D S1 (k.up l1) (fun σ => (ke σ).up l1)) (ke σ)
/-- x = e -/
theorem wS_set (h : wE E X te ρ fun _ t ρ' => P.nx (ρ'.set i (.v t))) : wS E X (tAsg te (gName i)) ρ P := fun b G H σ D S k ke =>
  h b G H σ _ S (fun v t ρ' G' H' h1 r S' l => k.nx _ _ G' H' h1 (S'.setv i r) l) (ke σ)
/-- x = a new list, to be one's own -/
theorem wS_setF (h : wF E X te ρ fun ts ρ' => ∀ p, P.nx (ρ'.set i (.o p (· = ts)))) : wS E X (tAsg te (gName i)) ρ P := fun b G H σ D S k ke =>
  h b G H σ _ S (fun p vs ts ρ' G' H' h1 h2 h3 h4 h5 h6 S' l => k.nx _ _ G' H' (h1 p) (S'.seto i h2 h3 h4 h5 rfl fun j Qd _ => h6 j Qd) l) (ke σ)
/-- weaken what is known of a list of one's own -/
theorem Sta.ow {b : Bs} {G H : Hp} {σ : L2.St} (S : Sta b G H σ ρ) {p : Addr} {Pd Qd : List T → Prop} (e : ρ[i]? = some (.o p Pd)) (h : ∀ ts, Pd ts → Qd ts) : Sta b G H σ (ρ.set i (.o p Qd)) := by
  refine ⟨S.bh, S.g0, S.gh, S.fr, by rw [List.length_set]; exact S.len, fun j u f => ?_, fun j w u f => ?_, fun j c Rd f => ?_, fun j k c Rd Ud f f' => ?_⟩
  · rcases get_set f with ⟨e1, e2, e3⟩ | ⟨e1, e2⟩
    · cases e2
    · exact S.val j u e2
  · rcases get_set f with ⟨e1, e2, e3⟩ | ⟨e1, e2⟩
    · cases e2
    · exact S.ex j w u e2
  · rcases get_set f with ⟨e1, e2, e3⟩ | ⟨e1, e2⟩
    · cases e2; subst e1
      obtain ⟨ts, vs, a, h1, n, nb, r, q⟩ := S.own i p Pd e
      exact ⟨ts, vs, a, h1, n, nb, r, h _ q⟩
    · exact S.own j c Rd e2
  · have up : ∀ {m : Nat} {c : Addr} {Zd : List T → Prop}, (ρ.set i (.o p Qd))[m]? = some (.o c Zd) → ∃ Yd, ρ[m]? = some (.o c Yd) := fun {m c Zd} z => by
      rcases get_set z with ⟨e1, e2, e3⟩ | ⟨e1, e2⟩
      · cases e2; subst e1; exact ⟨Pd, e⟩
      · exact ⟨Zd, e2⟩
    obtain ⟨Y1, y1⟩ := up f
    obtain ⟨Y2, y2⟩ := up f'
    exact S.inj j k c Y1 Y2 y1 y2
theorem wS_ow {p : Addr} {Pd : List T → Prop} (Qd : List T → Prop) (e : ρ[i]? = some (.o p Pd)) (h : ∀ ts, Pd ts → Qd ts) (k : wS E X t (ρ.set i (.o p Qd)) P) : wS E X t ρ P := fun b G H σ D S kd ke => k b G H σ D (S.ow e h) kd ke
theorem wE_ow {Φ : V → T → Env → Prop} {p : Addr} {Pd : List T → Prop} (Qd : List T → Prop) (e : ρ[i]? = some (.o p Pd)) (h : ∀ ts, Pd ts → Qd ts) (k : wE E X te (ρ.set i (.o p Qd)) Φ) : wE E X te ρ Φ := fun b G H σ Q S kd ke => k b G H σ Q (S.ow e h) kd ke
/-- x op= e -/
theorem wS_aug {r : R2} {f : T → T → (T → Prop) → Prop} {x : T} (e : ρ[i]? = some (.v x)) (ho : OpOk r f) (h : wE E X te ρ fun _ y ρ' => f x y fun z => P.nx (ρ'.set i (.v z))) : wS E X (tAug i te r) ρ P := fun b G H σ D S k ke => by
  obtain ⟨v, a, rx⟩ := S.val i x e
  exact ⟨v, a, h b G H σ _ S (fun v2 t2 ρ' G' H' h1 r2 S' l => ho b G' H' σ ρ' v v2 x t2 _ _ S' (rx.up l) r2 h1 fun v3 t3 G3 H3 k3 r3 S3 l3 => k.nx _ _ G3 H3 k3 (S3.setv i r3) (l.tr l3)) (ke σ)⟩
/-- a, b = x, y -/
theorem wS_par {ta : TA} {j : Nat} (h : wA E X ta ρ fun vs ts ρ' => ∃ x y, ts = [x, y] ∧ P.nx ((ρ'.set i (.v x)).set j (.v y))) : wS E X (tPar i j ta) ρ P := fun b G H σ D S k ke =>
  h b G H σ _ S (fun vs ts ρ' G' H' ⟨x, y, e, h1⟩ r S' l => by
    subst e
    obtain ⟨v, r1, rfl, a1, w, r2, rfl, a2, rfl⟩ := r
    exact ⟨v, w, rfl, k.nx _ _ G' H' h1 ((S'.setv i a1).setv j a2) l⟩) (ke σ)
theorem wS_par3 {ta : TA} {j m : Nat} (h : wA E X ta ρ fun vs ts ρ' => ∃ x y z, ts = [x, y, z] ∧ P.nx (((ρ'.set i (.v x)).set j (.v y)).set m (.v z))) : wS E X (tPar3 i j m ta) ρ P := fun b G H σ D S k ke =>
  h b G H σ _ S (fun vs ts ρ' G' H' ⟨x, y, z, e, h1⟩ r S' l => by
    subst e
    obtain ⟨v, r1, rfl, a1, w, r2, rfl, a2, q, r3, rfl, a3, rfl⟩ := r
    exact ⟨v, w, q, rfl, k.nx _ _ G' H' h1 (((S'.setv i a1).setv j a2).setv m a3) l⟩) (ke σ)
/-- xs.append(e), xs a list of one's own -/
theorem wS_app {K : PySem.W.Frag} {p : Addr} {Pd : List T → Prop} (e : ρ[i]? = some (.o p Pd)) (h : wE E X te ρ fun _ y ρ' => ∃ Pd', ρ'[i]? = some (.o p Pd') ∧ (∀ ts, Pd' ts → ts.length < sizeLine) ∧ P.nx (ρ'.set i (.o p fun ts => ∃ us, Pd' us ∧ ts = us ++ [y]))) :
    wS E X (tDrop (tBM K "list" rAppend (tVar i) (tCons te tNil))) ρ P := fun b G H σ D S k ke => by
  obtain ⟨ts, vs, a, h1, n, nb, r, q⟩ := S.own i p Pd e
  refine ⟨_, a, .inl ⟨rfl, _, SqL.of h1⟩, h b G H σ _ S (fun v y ρ' G' H' ⟨Pd', e', hz, h2⟩ ry S' l => ?_) (ke σ)⟩
  obtain ⟨ts', vs', a', h1', n', nb', r', q'⟩ := S'.own i p Pd' e'
  refine ⟨p, vs', v, rfl, rfl, h1', by rw [r'.len]; exact hz _ q', k.nx _ σ G' _ h2 ?_ l⟩
  exact S'.wr e' (r'.app (RepL.one ry)) ⟨ts', q', rfl⟩
theorem wG_name {Φ : Env → Prop} {x : T} {v : V} (h : Φ (ρ.set i (.v x))) : wG (gName i) x v ρ Φ := fun b G H σ Q S r q => q _ _ h (S.setv i r)
def wGs (g : TGs) (ts : List T) (us : List V) (ρ : Env) (Φ : Env → Prop) : Prop := ∀ (b : Bs) (G H : Hp) (σ : L2.St) (Q : L2.St → Hp → Prop), Sta b G H σ ρ → RepL G ts us → (∀ σ' ρ', Φ ρ' → Sta b G H σ' ρ' → Q σ' H) → g us σ H Q
theorem wGs_nil {Φ : Env → Prop} (h : Φ ρ) : wGs gNil [] [] ρ Φ := fun b G H σ Q S r q => ⟨rfl, q _ _ h S⟩
theorem wGs_cons {Φ : Env → Prop} {x : T} {xs : List T} {v : V} {vs : List V} {gs : TGs} (h : wG g x v ρ fun ρ1 => wGs gs xs vs ρ1 Φ) : wGs (gCons g gs) (x :: xs) (v :: vs) ρ Φ := fun b G H σ Q S r q => by
  obtain ⟨v', r', e, a, c⟩ := r
  cases e
  exact ⟨v, vs, rfl, h b G H σ _ S a fun σ1 ρ1 h1 S1 => h1 b G H σ1 Q S1 c q⟩
theorem wG_tup {K : PySem.W.Frag} {Φ : Env → Prop} {xs : List T} {v : V} {n : Nat} {gs : TGs} (hn : xs.length = n) (h : ∀ vs, vs.length = n → wGs gs xs vs ρ Φ) : wG (gTup K n gs) (.tup xs) v ρ Φ := fun b G H σ Q S r q => by
  obtain ⟨a, vs, e, h1, h2⟩ := r
  subst e
  exact ⟨a, vs, rfl, sqR (S.gh.rd h1), by rw [h2.len]; exact hn, h vs (by rw [h2.len]; exact hn) b G H σ Q S h2 q⟩
theorem wS_asg (h : wE E X te ρ fun v x ρ1 => wG g x v ρ1 P.nx) : wS E X (tAsg te g) ρ P := fun b G H σ D S k ke =>
  h b G H σ _ S (fun v t ρ' G' H' h1 r S' l => h1 b G' H' σ _ S' r fun σ2 ρ2 h2 S2 => k.nx ρ2 σ2 G' H' h2 S2 l) (ke σ)
/-- xs[j] = e, xs a list of one's own -/
theorem wS_setitem {p : Addr} (h : wE E X te ρ fun _ y ρ1 => (∃ Pd0, ρ1[i]? = some (.o p Pd0)) ∧ wE E X tb ρ1 fun _ n ρ2 => ∃ (Pd : List T → Prop) (j : Nat), ρ2[i]? = some (.o p Pd) ∧ n = .int (j : Int) ∧ (∀ ts, Pd ts → j < ts.length) ∧ P.nx (ρ2.set i (.o p fun ts => ∃ us, Pd us ∧ ts = us.set j y))) :
    wS E X (tAsg te (gSub (tVar i) tb rSetL)) ρ P := fun b G H σ D S k ke =>
  h b G H σ _ S (fun v y ρ1 G1 H1 ⟨⟨Pd0, e0⟩, h1⟩ r1 S1 l1 => by
    obtain ⟨_, _, hp, _⟩ := S1.own i p Pd0 e0
    refine ⟨_, hp, h1 b G1 H1 σ _ S1 (fun w n ρ2 G2 H2 ⟨Pd, j, e, en, hj, h2⟩ r2 S2 l2 => ?_) ((ke σ).up l1)⟩
    subst en
    obtain ⟨ts, vs, a, hl, ng, nb, r, q⟩ := S2.own i p Pd e
    have jl : j < vs.length := by rw [r.len]; exact hj _ q
    have ex : ixN vs.length (j : Int) = some j := by
      unfold ixN
      rw [if_pos (by omega), if_pos (by omega)]
      simp
    exact ⟨p, vs, (j : Int), j, rfl, r2, hl, ex, k.nx _ σ G2 _ h2 (S2.wr e (r.set (r1.up l2) j) ⟨ts, q, rfl⟩) (l1.tr l2)⟩) (ke σ)
variable {wi : TI}
/-- lo, lo + 1, .., below hi -/
def rngT (lo hi : Int) : List T := (List.range (hi - lo).toNat).map fun k => T.int (lo + (k : Nat))
theorem rngT_get {lo hi : Int} {i : Nat} {t : T} (h : (rngT lo hi)[i]? = some t) : t = .int (lo + (i : Nat)) ∧ i < (hi - lo).toNat := by
  unfold rngT at h
  rw [List.getElem?_map] at h
  cases e : (List.range (hi - lo).toNat)[i]? with
  | none => rw [e] at h; cases h
  | some k =>
    rw [e] at h
    obtain ⟨h1, h2⟩ := List.getElem?_eq_some_iff.mp e
    rw [List.getElem_range] at h2
    rw [List.length_range] at h1
    subst h2
    exact ⟨(Option.some.inj h).symm, h1⟩
theorem rngT_len (lo hi : Int) : (rngT lo hi).length = (hi - lo).toNat := by unfold rngT; rw [List.length_map, List.length_range]
theorem yields_range {lo : Int} {n : Nat} {hi : Int} {G : Hp} (e : (hi - lo).toNat = n) : Yields (Itr lo n) (rngT lo hi) G := fun G2 H2 l m => by
  refine ⟨fun i t ht => ?_, by show n ≤ (rngT lo hi).length; rw [rngT_len, e]; exact Nat.le_refl _⟩
  obtain ⟨e1, e2⟩ := rngT_get ht
  refine ⟨by show i < n; rw [← e]; exact e2, fun x H' ⟨a, c⟩ => ?_⟩
  subst a c e1
  exact ⟨G2, Grow.rfl m, rfl⟩
theorem wI_range1 {ta : TA} {Φ : List T → Env → Prop} (h : wA E X ta ρ fun _ ts ρ1 => ∃ n : Int, ts = [.int n] ∧ -(2 ^ 62) ≤ n ∧ n < 2 ^ 62 ∧ Φ (rngT 0 n) ρ1) : wI E X (iRng1 ta) ρ Φ := fun b G H σ R S q ke =>
  h b G H σ _ S (fun vs ts ρ1 G1 H1 ⟨n, e, e1, e2, h1⟩ r S1 l1 => by
    subst e
    obtain ⟨v, r1, rfl, a1, rfl⟩ := r
    cases a1
    exact ⟨n, rfl, e1, e2, q _ _ ρ1 G1 H1 h1 (yields_range (by rw [Int.sub_zero])) S1 l1⟩) ke
theorem wI_range2 {ta : TA} {Φ : List T → Env → Prop} (h : wA E X ta ρ fun _ ts ρ1 => ∃ m n : Int, ts = [.int m, .int n] ∧ (-(2 ^ 62) ≤ m ∧ m < 2 ^ 62 ∧ -(2 ^ 62) ≤ n ∧ n < 2 ^ 62) ∧ Φ (rngT m n) ρ1) : wI E X (iRng2 ta) ρ Φ := fun b G H σ R S q ke =>
  h b G H σ _ S (fun vs ts ρ1 G1 H1 ⟨m, n, e, e1, h1⟩ r S1 l1 => by
    subst e
    obtain ⟨v, r1, rfl, a1, w, r2, rfl, a2, rfl⟩ := r
    cases a1
    cases a2
    exact ⟨m, n, rfl, e1, q _ _ ρ1 G1 H1 h1 (yields_range rfl) S1 l1⟩) ke
/-- for g in wi: tb -/
theorem wS_for {tb : TS} (h : wI E X wi ρ fun xs ρ1 => ∃ Iv : Nat → Env → Prop, Iv 0 ρ1 ∧
    (∀ (i : Nat) (x : T) (ρ2 : Env) (v : V), xs[i]? = some x → Iv i ρ2 → wG g x v ρ2 fun ρ3 => wS E X tb ρ3 { P with nx := Iv (i + 1), ct := Iv (i + 1), bk := P.nx }) ∧ ∀ ρ2, Iv xs.length ρ2 → P.nx ρ2) : wS E X (tFor wi g tb) ρ P := fun b G H σ D S k ke =>
  h b G H σ _ S (fun J xs ρ1 G1 H1 ⟨Iv, i0, turn, fin⟩ y S1 l1 => by
    refine ⟨fun i m σ' H' => m = xs.length - i ∧ i ≤ xs.length ∧ ∃ ρ2 G2, Iv i ρ2 ∧ Sta b G2 H' σ' ρ2 ∧ Le G1 G2, ⟨xs.length, by simp, Nat.zero_le _, ρ1, G1, i0, S1, Le.rfl⟩, ?_⟩
    rintro i m σ' H' ⟨rfl, hi, ρ2, G2, hI, S2, l2⟩
    obtain ⟨y1, y2⟩ := y G2 H' l2 S2.gh
    by_cases hlt : i < xs.length
    · obtain ⟨x, hx⟩ : ∃ x, xs[i]? = some x := ⟨xs[i], by simp [hlt]⟩
      obtain ⟨go, yl⟩ := y1 i x hx
      refine .inr ⟨go, fun σ3 H3 => ∃ ρ3 G3, Iv (i + 1) ρ3 ∧ Sta b G3 H3 σ3 ρ3 ∧ Le G1 G3, fun σ3 H3 ⟨ρ3, G3, j, S3, l3⟩ => ⟨xs.length - (i + 1), by omega, rfl, hlt, ρ3, G3, j, S3, l3⟩, fun v H3 hy => ?_⟩
      obtain ⟨G3, gr, rx⟩ := yl v H3 hy
      refine turn i x ρ2 v hx hI b G3 H3 σ' _ (S2.grow gr) rx fun σ4 ρ4 h4 S4 => ?_
      have l3 : Le G1 G3 := l2.tr gr.g
      refine h4 b G3 H3 σ4 _ S4 ⟨fun ρ' σ5 G' H5 p S5 l5 => ⟨ρ', G', p, S5, l3.tr l5⟩, fun v t ρ' σ5 G' H5 p r S5 l5 => k.rt v t ρ' σ5 G' H5 p r S5 ((l1.tr l3).tr l5), fun p vs ts ρ' σ5 G' H5 h1 hz h2 h3 h4 h5 S5 l5 => k.rf p vs ts ρ' σ5 G' H5 h1 hz h2 h3 h4 h5 S5 ((l1.tr l3).tr l5),
        fun ρ' σ5 G' H5 p S5 l5 => k.nx ρ' σ5 G' H5 p S5 ((l1.tr l3).tr l5), fun ρ' σ5 G' H5 p S5 l5 => ⟨ρ', G', p, S5, l3.tr l5⟩⟩ (fun σ => (ke σ).up (l1.tr l3))
    · have e : i = xs.length := by omega
      subst e
      exact .inl ⟨y2, k.nx ρ2 σ' G2 H' (fin ρ2 hI) S2 (l1.tr l2)⟩) (ke σ)
/-- while, by a word with a number that falls -/
theorem wS_while {tb : TS} (Iv : Nat → Env → Prop) (m0 : Nat) (h0 : Iv m0 ρ) (hs : ∀ m ρ1, Iv m ρ1 → wT E X tt ρ1 fun c ρ2 => if c = true then wS E X tb ρ2 { P with nx := fun ρ3 => ∃ m', m' < m ∧ Iv m' ρ3, ct := fun ρ3 => ∃ m', m' < m ∧ Iv m' ρ3, bk := P.nx } else P.nx ρ2) :
    wS E X (tWhile tt tb) ρ P := fun b G H σ D S k ke => by
  refine ⟨fun m σ' H' => ∃ ρ1 G1, Iv m ρ1 ∧ Sta b G1 H' σ' ρ1 ∧ Le G G1, ⟨m0, ρ, G, h0, S, Le.rfl⟩, ?_⟩
  rintro m σ1 H1 ⟨ρ1, G1, hI, S1, l1⟩
  refine hs m ρ1 hI b G1 H1 σ1 _ S1 (fun c ρ2 G2 H2 h2 S2 l2 => ?_) ((ke σ1).up l1)
  cases c with
  | true =>
    refine ⟨fun σ3 H3 => ∃ m', m' < m ∧ ∃ ρ3 G3, Iv m' ρ3 ∧ Sta b G3 H3 σ3 ρ3 ∧ Le G G3, fun σ3 H3 ⟨m', a, c⟩ => ⟨m', a, c⟩, ?_⟩
    have l3 : Le G G2 := l1.tr l2
    exact h2 b G2 H2 σ1 _ S2 ⟨fun ρ' σ5 G' H5 ⟨m', a, c⟩ S5 l5 => ⟨m', a, ρ', G', c, S5, l3.tr l5⟩, fun v t ρ' σ5 G' H5 p r S5 l5 => k.rt v t ρ' σ5 G' H5 p r S5 (l3.tr l5), fun p vs ts ρ' σ5 G' H5 h1 hz h2 h3 h4 h5 S5 l5 => k.rf p vs ts ρ' σ5 G' H5 h1 hz h2 h3 h4 h5 S5 (l3.tr l5),
        fun ρ' σ5 G' H5 p S5 l5 => k.nx ρ' σ5 G' H5 p S5 (l3.tr l5), fun ρ' σ5 G' H5 ⟨m', a, c⟩ S5 l5 => ⟨m', a, ρ', G', c, S5, l3.tr l5⟩⟩ (fun σ => (ke σ).up l3)
  | false => exact k.nx ρ2 σ1 G2 H2 h2 S2 (l1.tr l2)
end
end TL
set_option maxHeartbeats 4000000
namespace TL
open PySem PySem.Spec PyProof.Rows L2
section
variable {E : WX} {X : XP} {ρ : Env} {te ta tb : TE} {tt : TT} {t u ts tw : TS} {P : Post} {g : TG} {i : Nat}
def wipeE (ρ : Env) : List Nat → Env
  | [] => ρ
  | v :: vs => (wipeE ρ vs).set v .no
theorem Sta.wipe {b : Bs} {G H : Hp} {σ : L2.St} {ρ : Env} (S : Sta b G H σ ρ) : ∀ vs : List Nat, Sta b G H (wipe σ vs) (wipeE ρ vs)
  | [] => S
  | v :: vs => by
    have S1 := S.wipe vs
    have S2 := S1.forget v
    show Sta b G H ((L2.wipe σ vs).set v none) ((wipeE ρ vs).set v .no)
    refine ⟨S2.bh, S2.g0, S2.gh, S2.fr, by rw [List.length_set, List.length_set]; exact S1.len, fun j t e => ?_, fun j w t e => ?_, fun j p Pd e => ?_, fun j k p Pd Qd e f => ?_⟩
    · rcases get_set e with ⟨_, e2, _⟩ | ⟨e1, e2⟩
      · cases e2
      · rw [List.getElem?_set_ne e1]; exact S1.val j t e2
    · rcases get_set e with ⟨_, e2, _⟩ | ⟨e1, e2⟩
      · cases e2
      · rw [List.getElem?_set_ne e1]; exact S1.ex j w t e2
    · rcases get_set e with ⟨_, e2, _⟩ | ⟨e1, e2⟩
      · cases e2
      · rw [List.getElem?_set_ne e1]; exact S1.own j p Pd e2
    · rcases get_set e with ⟨_, e2, _⟩ | ⟨e1, e2⟩
      · cases e2
      · rcases get_set f with ⟨_, f2, _⟩ | ⟨f1, f2⟩
        · cases f2
        · exact S1.inj j k p Pd Qd e2 f2
/-- slots outside vs are as they were -/
def Agree (σ σ' : L2.St) (vs : List Nat) : Prop := σ'.length = σ.length ∧ ∀ k, k ∉ vs → σ'[k]? = σ[k]?
theorem wipe_get {σ : L2.St} {k : Nat} : ∀ {vs : List Nat}, k ∈ vs → k < σ.length → (wipe σ vs)[k]? = some none
  | v :: vs, h, hl => by
    show ((wipe σ vs).set v none)[k]? = some none
    by_cases e : v = k
    · subst e; rw [List.getElem?_set_self (by rw [wipe_length]; exact hl)]
    · rw [List.getElem?_set_ne e]
      rcases List.mem_cons.mp h with z | z
      · exact absurd z.symm e
      · exact wipe_get z hl
theorem wipe_agree {σ σ' : L2.St} {vs : List Nat} (a : Agree σ σ' vs) : wipe σ' vs = wipe σ vs := by
  apply List.ext_getElem?
  intro k
  by_cases hk : k ∈ vs
  · by_cases hl : k < σ.length
    · rw [wipe_get hk hl, wipe_get hk (by rw [a.1]; exact hl)]
    · rw [List.getElem?_eq_none (by rw [wipe_length, a.1]; omega), List.getElem?_eq_none (by rw [wipe_length]; omega)]
  · rw [wipe_out hk, wipe_out hk]
    exact a.2 k hk
theorem agree_wipe (σ : L2.St) (vs : List Nat) : Agree σ (wipe σ vs) vs := ⟨wipe_length σ vs, fun k hk => wipe_out hk⟩
/-- a target that stores into the slots vs alone -/
def wGa (vs : List Nat) (g : TG) (t : T) (u : V) (ρ : Env) (Φ : Env → Prop) : Prop := ∀ (b : Bs) (G H : Hp) (σ : L2.St) (Q : L2.St → Hp → Prop), Sta b G H σ ρ → Rep G t u → (∀ σ' ρ', Φ ρ' → Sta b G H σ' ρ' → Agree σ σ' vs → Q σ' H) → g u σ H Q
theorem wGa_name {vs : List Nat} {Φ : Env → Prop} {x : T} {v : V} (hi : i ∈ vs) (h : Φ (ρ.set i (.v x))) : wGa vs (gName i) x v ρ Φ := fun b G H σ Q S r q => q _ _ h (S.setv i r) ⟨by rw [List.length_set], fun k hk => List.getElem?_set_ne fun (e : i = k) => hk (by rw [← e]; exact hi)⟩
def Own (ρ : Env) (a : Addr) : Prop := ∃ (j : Nat) (Pd : List T → Prop), ρ[j]? = some (.o a Pd)
open Classical in
noncomputable def cutB (H : Hp) (ρ : Env) : Hp := fun a => if Own ρ a then none else H a
theorem cutB_not {H : Hp} {ρ : Env} {a : Addr} (h : ¬ Own ρ a) : cutB H ρ a = H a := if_neg h
theorem cutB_own {H : Hp} {ρ : Env} {a : Addr} (h : Own ρ a) : cutB H ρ a = none := if_pos h
theorem cutB_some {H : Hp} {ρ : Env} {a : Addr} {o : HO} (h : cutB H ρ a = some o) : H a = some o ∧ ¬ Own ρ a := by
  by_cases q : Own ρ a
  · rw [cutB_own q] at h; cases h
  · rw [cutB_not q] at h; exact ⟨h, q⟩
theorem Sta.inB {b : Bs} {G H : Hp} {σ : L2.St} {ρ : Env} (S : Sta b G H σ ρ) : Sta ⟨cutB H ρ, G⟩ G H σ ρ :=
  ⟨fun a o h => (cutB_some h).1, Le.rfl, S.gh, fun _ _ h => h, S.len, S.val, S.ex, fun i p Pd e => let ⟨ts, vs, a, h, n, nb, r, q⟩ := S.own i p Pd e; ⟨ts, vs, a, h, n, cutB_own ⟨i, Pd, e⟩, r, q⟩, S.inj⟩
theorem Sta.outB {b : Bs} {G H G' H' : Hp} {σ σ' : L2.St} {ρ ρ' : Env} (S : Sta b G H σ ρ) (S' : Sta ⟨cutB H ρ, G⟩ G' H' σ' ρ') : Sta b G' H' σ' ρ' := by
  have nown : ∀ {a : Addr}, b.B a ≠ none → ¬ Own ρ a := fun {a} h ⟨j, Pd, e⟩ => by
    obtain ⟨_, _, _, _, _, nb, _⟩ := S.own j a Pd e
    exact h nb
  refine ⟨fun a o h => ?_, S.g0.tr S'.g0, S'.gh, fun a h n => ?_, S'.len, S'.val, S'.ex, fun i p Pd e => ?_, S'.inj⟩
  · exact S'.bh a o (by show cutB H ρ a = some o; rw [cutB_not (nown (by rw [h]; exact fun z => nomatch z))]; exact S.bh a o h)
  · exact S'.fr a (by show cutB H ρ a ≠ none; rw [cutB_not (nown h)]; exact S.bh.some h) (S.fr a h n)
  · obtain ⟨ts, vs, a, h, n, nb, r, q⟩ := S'.own i p Pd e
    refine ⟨ts, vs, a, h, n, ?_, r, q⟩
    cases z : b.B p with
    | none => rfl
    | some o =>
      have h1 : b.B p ≠ none := by rw [z]; exact fun y => nomatch y
      have h2 : cutB H ρ p = none := nb
      rw [cutB_not (nown h1)] at h2
      exact absurd h2 (S.bh.some h1)
/-- kept: what stood, is not a name's own list, and did not belong to the data -/
structure Kept (G H G' H' : Hp) (ρ : Env) : Prop where
  h : ∀ a o, ¬ Own ρ a → H a = some o → H' a = some o
  g : ∀ a, ¬ Own ρ a → H a ≠ none → G a = none → G' a = none
theorem kept_of {G H G' H' : Hp} {ρ ρ' : Env} {σ' : L2.St} (S' : Sta ⟨cutB H ρ, G⟩ G' H' σ' ρ') : Kept G H G' H' ρ :=
  ⟨fun a o n e => S'.bh a o (by show cutB H ρ a = some o; rw [cutB_not n]; exact e), fun a n e g => S'.fr a (by show cutB H ρ a ≠ none; rw [cutB_not n]; exact e) g⟩
theorem wE_fr {Φ : V → T → Env → Prop} (h : wE E X te ρ Φ) {b : Bs} {G H : Hp} {σ : L2.St} {Q : VK} (S : Sta b G H σ ρ)
    (k : ∀ v t ρ' G' H', Φ v t ρ' → Rep G' t v → Sta b G' H' σ ρ' → Le G G' → Kept G H G' H' ρ → Q v H') (ke : KErr E X b G σ) : te σ H Q :=
  h _ G H σ Q S.inB (fun v t ρ' G' H' p r S' l => k v t ρ' G' H' p r (S.outB S') l (kept_of S')) fun er ρ' od G' H' x a S' l => ke er ρ' od G' H' x a (S.outB S') l
theorem wT_fr {Θ : Bool → Env → Prop} (h : wT E X tt ρ Θ) {b : Bs} {G H : Hp} {σ : L2.St} {Q : Bool → Hp → Prop} (S : Sta b G H σ ρ)
    (k : ∀ c ρ' G' H', Θ c ρ' → Sta b G' H' σ ρ' → Le G G' → Kept G H G' H' ρ → Q c H') (ke : KErr E X b G σ) : tt σ H Q :=
  h _ G H σ Q S.inB (fun c ρ' G' H' p S' l => k c ρ' G' H' p (S.outB S') l (kept_of S')) fun er ρ' od G' H' x a S' l => ke er ρ' od G' H' x a (S.outB S') l
theorem Sta.wrNew {b : Bs} {G H : Hp} {σ : L2.St} {ρ : Env} (S : Sta b G H σ ρ) {D : Addr} {o : HO} (g : G D = none) (hb : b.B D = none) (ap : ¬ Own ρ D) : Sta b G (upd H D o) σ ρ := by
  refine ⟨fun a u h => ?_, S.g0, fun a u h => ?_, S.fr, S.len, S.val, S.ex, fun i p Pd e => ?_, S.inj⟩
  · have : a ≠ D := fun z => by rw [z, hb] at h; cases h
    rw [upd_ne this]; exact S.bh a u h
  · have : a ≠ D := fun z => by rw [z, g] at h; cases h
    rw [upd_ne this]; exact S.gh a u h
  · obtain ⟨ts, vs, a, h, n, nb, r, q⟩ := S.own i p Pd e
    have np : p ≠ D := fun z => ap ⟨i, Pd, by rw [← z]; exact e⟩
    exact ⟨ts, vs, a, by rw [upd_ne np]; exact h, n, nb, r, q⟩
theorem wipeE_o {ρ : Env} {j : Nat} {s : Sl} (hs : s ≠ .no) : ∀ {vs : List Nat}, (wipeE ρ vs)[j]? = some s → ρ[j]? = some s ∧ j ∉ vs
  | [], h => ⟨h, by simp⟩
  | v :: vs, h => by
    rcases get_set (show ((wipeE ρ vs).set v .no)[j]? = some s from h) with ⟨_, e2, _⟩ | ⟨e1, e2⟩
    · exact absurd e2.symm hs
    · obtain ⟨a, c⟩ := wipeE_o hs e2
      exact ⟨a, by simp only [List.mem_cons, not_or]; exact ⟨fun z => e1 z.symm, c⟩⟩
theorem wipeE_out {ρ : Env} {j : Nat} : ∀ {vs : List Nat}, j ∉ vs → (wipeE ρ vs)[j]? = ρ[j]?
  | [], _ => rfl
  | v :: vs, h => by
    simp only [List.mem_cons, not_or] at h
    show ((wipeE ρ vs).set v .no)[j]? = _
    rw [List.getElem?_set_ne (fun z => h.1 z.symm)]
    exact wipeE_out h.2
theorem wipeE_length {ρ : Env} : ∀ (vs : List Nat), (wipeE ρ vs).length = ρ.length
  | [] => rfl
  | v :: vs => by show ((wipeE ρ vs).set v .no).length = _; rw [List.length_set, wipeE_length vs]
/-- out of a comprehension's block -/
theorem Sta.unwipe {b : Bs} {G1 H1 G H : Hp} {σ : L2.St} {ρ : Env} {vs : List Nat} (S1 : Sta b G1 H1 σ ρ) (l : Le G1 G) (S : Sta b G H (L2.wipe σ vs) (wipeE ρ vs)) (no : ∀ k ∈ vs, ∀ p Pd, ρ[k]? ≠ some (.o p Pd)) : Sta b G H σ ρ := by
  refine ⟨S.bh, S.g0, S.gh, S.fr, S1.len, fun j t e => let ⟨v, a, r⟩ := S1.val j t e; ⟨v, a, r.up l⟩, fun j u t e => let ⟨a, r⟩ := S1.ex j u t e; ⟨a, r.up l⟩, fun j p Pd e => ?_, S1.inj⟩
  have hj : j ∉ vs := fun z => no j z p Pd e
  obtain ⟨ts, ws, a, h⟩ := S.own j p Pd (by rw [wipeE_out hj]; exact e)
  exact ⟨ts, ws, by rw [wipe_out hj] at a; exact a, h⟩
/-- the wish within a comprehension: nothing is raised -/
abbrev E00 : WX := fun _ _ _ _ => False
abbrev X00 : XP := fun _ _ => False
theorem kerr00 {b : Bs} {G : Hp} {σ : L2.St} : KErr E00 X00 b G σ := fun _ _ _ _ _ x => x.elim
/-- none of these slots holds a list of one's own -/
def noOwn (vs : List Nat) (ρ : Env) : Bool := vs.all fun k => match ρ[k]? with
  | some (.o _ _) => false
  | _ => true
theorem noOwn_ok {vs : List Nat} {ρ : Env} (h : noOwn vs ρ = true) : ∀ k ∈ vs, ∀ p Pd, ρ[k]? ≠ some (.o p Pd) := fun k hk p Pd e => by
  have q := List.all_eq_true.mp h k hk
  simp only [e] at q
  cases q
/-- [te for g in wi if tt]; Iv by turns and what is made so far -/
theorem wF_lc {wi : TI} {vs : List Nat} {Ψ : List T → Env → Prop} (h : wI E X wi ρ fun xs ρ1 => noOwn vs ρ1 = true ∧ ∃ Iv : Nat → List T → Prop, Iv 0 [] ∧
    (∀ (i : Nat) (x : T) (acc : List T) (v : V), xs[i]? = some x → Iv i acc → wGa vs g x v (wipeE ρ1 vs) fun ρ3 => noOwn vs ρ3 = true ∧ wipeE ρ3 vs = wipeE ρ1 vs ∧ wT E00 X00 tt ρ3 fun c ρ4 => ρ4 = ρ3 ∧
      if c = true then wE E00 X00 te ρ3 fun _ y ρ5 => ρ5 = ρ3 ∧ acc.length < sizeLine ∧ Iv (i + 1) (acc ++ [y]) else Iv (i + 1) acc) ∧
    ∀ acc, Iv xs.length acc → Ψ acc ρ1) : wF E X (tLc wi g tt te vs) ρ Ψ := fun b G H σ Q S q ke => by
  refine h b G H σ _ S (fun J xs ρ1 G1 H1 ⟨no, Iv, i0, turn, fin⟩ y S1 l1 => ?_) ke
  have no := noOwn_ok no
  intro D hD
  have gD : G1 D = none := S1.gh.back hD
  have bD : b.B D = none := S1.bh.back hD
  have ap0 : ∀ (j : Nat) (Qd : List T → Prop), ρ1[j]? ≠ some (.o D Qd) := fun j Qd e => by
    obtain ⟨ts, ws, a, h2, _⟩ := S1.own j D Qd e
    rw [hD] at h2; cases h2
  have ap : ∀ {ρ' : Env}, wipeE ρ' vs = wipeE ρ1 vs → (∀ k ∈ vs, ∀ p Pd, ρ'[k]? ≠ some (.o p Pd)) → ¬ Own ρ' D := fun {ρ'} ew nw ⟨j, Pd, e⟩ => by
    have hj : j ∉ vs := fun z => nw j z D Pd e
    have e2 : (wipeE ρ' vs)[j]? = some (.o D Pd) := by rw [wipeE_out hj]; exact e
    rw [ew, wipeE_out hj] at e2
    exact ap0 j Pd e2
  have S0 : Sta b G1 (upd H1 D (.lst [])) (L2.wipe σ vs) (wipeE ρ1 vs) := (S1.wipe vs).le (Le.new hD)
  refine ⟨fun i m H' => m = xs.length - i ∧ i ≤ xs.length ∧ ∃ G2 acc ws, Iv i acc ∧ Sta b G2 H' (L2.wipe σ vs) (wipeE ρ1 vs) ∧ Le G1 G2 ∧ H' D = some (.lst ws) ∧ G2 D = none ∧ RepL G2 acc ws, ⟨xs.length, by simp, Nat.zero_le _, G1, [], [], i0, S0, Le.rfl, upd_same, gD, rfl⟩, ?_⟩
  rintro i m H' ⟨rfl, hi, G2, acc, ws, hI, S2, l2, hD2, gD2, ra⟩
  obtain ⟨y1, y2⟩ := y G2 H' l2 S2.gh
  by_cases hlt : i < xs.length
  · obtain ⟨x, hx⟩ : ∃ x, xs[i]? = some x := ⟨xs[i], by simp [hlt]⟩
    obtain ⟨go, yl⟩ := y1 i x hx
    refine .inr ⟨go, fun H3 => ∃ G3 acc ws, Iv (i + 1) acc ∧ Sta b G3 H3 (L2.wipe σ vs) (wipeE ρ1 vs) ∧ Le G1 G3 ∧ H3 D = some (.lst ws) ∧ G3 D = none ∧ RepL G3 acc ws, fun H3 c => ⟨xs.length - (i + 1), by omega, rfl, hlt, c⟩, fun v H3 hy => ?_⟩
    obtain ⟨G3, gr, rx⟩ := yl v H3 hy
    have hD3 : H3 D = some (.lst ws) := gr.h _ _ hD2
    have gD3 : G3 D = none := gr.fr D (by rw [hD2]; exact fun z => nomatch z) gD2
    have l3 : Le G1 G3 := l2.tr gr.g
    refine turn i x acc v hx hI b G3 H3 (L2.wipe σ vs) _ (S2.grow gr) rx fun σ4 ρ4 ⟨no4, ew4, h4⟩ S4 ag => ?_
    have no4 := noOwn_ok no4
    have ew : L2.wipe σ4 vs = L2.wipe σ vs := (wipe_agree ag).trans (wipe_agree (agree_wipe σ vs))
    have nD : ¬ Own ρ4 D := ap ew4 no4
    have back : ∀ {G5 H5 : Hp}, Sta b G5 H5 σ4 ρ4 → Sta b G5 H5 (L2.wipe σ vs) (wipeE ρ1 vs) := fun {G5 H5} S5 => by
      have z := S5.wipe vs
      rw [ew, ew4] at z
      exact z
    refine ⟨by rw [ew], wT_fr h4 S4 (fun c ρ5 G5 H5 ⟨e5, h5⟩ S5 l5 k5 => ?_) kerr00⟩
    subst e5
    have hD5 : H5 D = some (.lst ws) := k5.h D _ nD hD3
    have gD5 : G5 D = none := k5.g D nD (by rw [hD3]; exact fun z => nomatch z) gD3
    cases c with
    | false => exact ⟨G5, acc, ws, h5, back S5, l3.tr l5, hD5, gD5, (ra.up gr.g).up l5⟩
    | true =>
      refine wE_fr h5 S5 (fun w y ρ6 G6 H6 ⟨e6, hz, h6⟩ r6 S6 l6 k6 => ?_) kerr00
      subst e6
      have hD6 : H6 D = some (.lst ws) := k6.h D _ nD hD5
      have gD6 : G6 D = none := k6.g D nD (by rw [hD5]; exact fun z => nomatch z) gD5
      have r7 : RepL G6 acc ws := ((ra.up gr.g).up l5).up l6
      exact ⟨ws, hD6, by rw [r7.len]; exact hz, G6, acc ++ [y], ws ++ [w], h6, back (S6.wrNew gD6 bD nD), (l3.tr l5).tr l6, upd_same, gD6, r7.app (RepL.one r6)⟩
  · have e : i = xs.length := by omega
    subst e
    exact .inl ⟨y2, q D ws acc ρ1 G2 H' (fin acc hI) hD2 gD2 bD ra ap0 (S1.unwipe l2 S2 no) (l1.tr l2)⟩
/-- called with data ts: data t with post ts t; or an error as xc says -/
def sP (pre : List T → Prop) (post : List T → T → Prop) (xc : List V → List T → Er → Prop) : Sp := fun vs H Q E => ∃ ts G, RepL G ts vs ∧ Le G H ∧ pre ts ∧
  (∀ t v G' H', post ts t → Rep G' t v → Grow G H G' H' → Q v H') ∧ ∀ er od G' H', xc vs ts er → ErAt H' od er.fs → Grow G H G' H' → E (.ref er.C) od H'
/-- .. a new list -/
def sF (pre : List T → Prop) (post : List T → List T → Prop) (xc : List V → List T → Er → Prop) : Sp := fun vs H Q E => ∃ ts G, RepL G ts vs ∧ Le G H ∧ pre ts ∧
  (∀ us p ws G' H', post ts us → H' p = some (.lst ws) → G' p = none → H p = none → RepL G' us ws → Grow G H G' H' → Q (.ref p) H') ∧ ∀ er od G' H', xc vs ts er → ErAt H' od er.fs → Grow G H G' H' → E (.ref er.C) od H'
/-- all but the list at p stays -/
structure GrowP (p : Addr) (G H G' H' : Hp) : Prop where
  g : Le G G'
  h : ∀ a o, a ≠ p → H a = some o → H' a = some o
  gh : Le G' H'
  fr : ∀ a, H a ≠ none → G a = none → G' a = none
/-- the first argument is a list that is handed over: as Pa says at the entry, as Pb says behind -/
def sO {ι : Type} (Pa Pb : ι → List T → Prop) (pre : List T → Prop) (post : List T → T → Prop) (xc : List V → List T → Er → Prop) : Sp := fun vs H Q E => ∃ (n : ι) (p : Addr) (bs : List T) (bv us : List V) (ts : List T) (G : Hp), vs = .ref p :: us ∧ H p = some (.lst bv) ∧ G p = none ∧ RepL G bs bv ∧ Pa n bs ∧ RepL G ts us ∧ Le G H ∧ pre ts ∧
  (∀ t v bs' bv' G' H', post ts t → Rep G' t v → H' p = some (.lst bv') → RepL G' bs' bv' → Pb n bs' → GrowP p G H G' H' → Q v H') ∧
  ∀ er od bs' bv' G' H', xc us ts er → ErAt H' od er.fs → H' p = some (.lst bv') → RepL G' bs' bv' → Pb n bs' → GrowP p G H G' H' → E (.ref er.C) od H'
theorem Sta.growP {b : Bs} {G H G' H' : Hp} {σ : L2.St} {ρ : Env} {Pd Pe : List T → Prop} {p : Addr} (S : Sta b G H σ ρ) (e : ρ[i]? = some (.o p Pd)) (g : GrowP p G H G' H') {ts : List T} {vs : List V} (hp : H' p = some (.lst vs)) (r : RepL G' ts vs) (q : Pe ts) : Sta b G' H' σ (ρ.set i (.o p Pe)) := by
  obtain ⟨ts0, vs0, a0, h0, n0, nb0, r0, q0⟩ := S.own i p Pd e
  refine ⟨fun a o h => ?_, S.g0.tr g.g, g.gh, fun a h n => g.fr a (S.bh.some h) (S.fr a h n), by rw [List.length_set]; exact S.len, fun j t f => ?_, fun j u t f => ?_, fun j c Rd f => ?_, fun j k c Rd Ud f f' => ?_⟩
  · exact g.h a o (fun z => by rw [z, nb0] at h; cases h) (S.bh a o h)
  · rcases get_set f with ⟨e1, e2, e3⟩ | ⟨e1, e2⟩
    · cases e2
    · obtain ⟨v, x, y⟩ := S.val j t e2
      exact ⟨v, x, y.up g.g⟩
  · rcases get_set f with ⟨e1, e2, e3⟩ | ⟨e1, e2⟩
    · cases e2
    · obtain ⟨x, y⟩ := S.ex j u t e2
      exact ⟨x, y.up g.g⟩
  · rcases get_set f with ⟨e1, e2, e3⟩ | ⟨e1, e2⟩
    · cases e2
      subst e1
      exact ⟨ts, vs, a0, hp, g.fr p (by rw [h0]; exact fun z => nomatch z) n0, nb0, r, q⟩
    · obtain ⟨ts2, vs2, a2, h2, n2, nb2, r2, q2⟩ := S.own j c Rd e2
      have np : c ≠ p := fun y => e1 (S.inj i j p Pd Rd e (by rw [← y]; exact e2))
      exact ⟨ts2, vs2, a2, g.h _ _ np h2, g.fr c (by rw [h2]; exact fun z => nomatch z) n2, nb2, r2.up g.g, q2⟩
  · have up : ∀ {m : Nat} {c : Addr} {Zd : List T → Prop}, (ρ.set i (.o p Pe))[m]? = some (.o c Zd) → ∃ Yd, ρ[m]? = some (.o c Yd) := fun {m c Zd} z => by
      rcases get_set z with ⟨e1, e2, e3⟩ | ⟨e1, e2⟩
      · cases e2; subst e1; exact ⟨Pd, e⟩
      · exact ⟨Zd, e2⟩
    obtain ⟨Y1, y1⟩ := up f
    obtain ⟨Y2, y2⟩ := up f'
    exact S.inj j k c Y1 Y2 y1 y2
theorem wE_call {pre : List T → Prop} {post : List T → T → Prop} {xc : List V → List T → Er → Prop} {ta : TA} {Φ : V → T → Env → Prop} (h : wA E X ta ρ fun vs ts ρ1 => pre ts ∧ (∀ t v, post ts t → Φ v t ρ1) ∧ ∀ er, xc vs ts er → X er ρ1) :
    wE E X (tCallS (sP pre post xc) (WE E) ta) ρ Φ := fun b G H σ Q S q ke =>
  h b G H σ _ S (fun vs ts ρ1 G1 H1 ⟨h1, h2, h3⟩ r1 S1 l1 => ⟨ts, G1, r1, S1.gh, h1, fun t v G' H' p r g => q v t ρ1 G' H' (h2 t v p) r (S1.grow g) (l1.tr g.g), fun er od G' H' p a g => ke er ρ1 od G' H' (h3 er p) a (S1.grow g) (l1.tr g.g)⟩) ke
theorem wF_call {pre : List T → Prop} {post : List T → List T → Prop} {xc : List V → List T → Er → Prop} {ta : TA} {Ψ : List T → Env → Prop} (h : wA E X ta ρ fun vs ts ρ1 => pre ts ∧ (∀ us, post ts us → Ψ us ρ1) ∧ ∀ er, xc vs ts er → X er ρ1) :
    wF E X (tCallS (sF pre post xc) (WE E) ta) ρ Ψ := fun b G H σ Q S q ke =>
  h b G H σ _ S (fun vs ts ρ1 G1 H1 ⟨h1, h2, h3⟩ r1 S1 l1 => ⟨ts, G1, r1, S1.gh, h1, fun us p ws G' H' po hp gp hn r g => q p ws us ρ1 G' H' (h2 us po) hp gp (S1.bh.back hn) r (fun j Qd e => by
      obtain ⟨ts2, vs2, a2, e2, _⟩ := S1.own j p Qd e
      rw [hn] at e2; cases e2) (S1.grow g) (l1.tr g.g), fun er od G' H' p a g => ke er ρ1 od G' H' (h3 er p) a (S1.grow g) (l1.tr g.g)⟩) ke
/-- f(box, ..): the box a list of one's own -/
theorem wE_callO {ι : Type} {Pa Pb : ι → List T → Prop} {p : Addr} {pre : List T → Prop} {post : List T → T → Prop} {xc : List V → List T → Er → Prop} {ta : TA} {Φ : V → T → Env → Prop} (n : ι) (e : ρ[i]? = some (.o p (Pa n))) (h : wA E X ta ρ fun vs ts ρ1 => ρ1[i]? = some (.o p (Pa n)) ∧ pre ts ∧ (∀ t v, post ts t → Φ v t (ρ1.set i (.o p (Pb n)))) ∧ ∀ er, xc vs ts er → X er (ρ1.set i (.o p (Pb n)))) :
    wE E X (tCallS (sO Pa Pb pre post xc) (WE E) (tCons (tVar i) ta)) ρ Φ := fun b G H σ Q S q ke => by
  obtain ⟨bs, bv, hs, _⟩ := S.own i p _ e
  refine ⟨_, hs, h b G H σ _ S (fun vs ts ρ1 G1 H1 ⟨h0, h1, h2, h3⟩ r1 S1 l1 => ?_) ke⟩
  obtain ⟨bs1, bv1, hs1, hp1, gp1, nb1, rb1, q1⟩ := S1.own i p _ h0
  exact ⟨n, p, bs1, bv1, vs, ts, G1, rfl, hp1, gp1, rb1, q1, r1, S1.gh, h1, fun t v bs' bv' G' H' po r hp' rb' q' g => q v t _ G' H' (h2 t v po) r (S1.growP h0 g hp' rb' q') (l1.tr g.g),
    fun er od bs' bv' G' H' po a hp' rb' q' g => ke er _ od G' H' (h3 er po) a (S1.growP h0 g hp' rb' q') (l1.tr g.g)⟩
def envOf (N : Nat) (vs : List V) (ts : List T) : Env := (vs.zip ts).map (fun p => Sl.x p.1 p.2) ++ List.replicate (N - vs.length) Sl.no
theorem sta_start {b : Bs} {G H : Hp} (bh : Le b.B H) (g0 : Le b.G G) (gh : Le G H) (fr : ∀ a, b.B a ≠ none → b.G a = none → G a = none) {N : List Str} {vs : List V} {ts : List T} (r : RepL G ts vs) : Sta b G H (L2.start N vs) (envOf N.length vs ts) := by
  have hl := r.len
  have lz : ((vs.zip ts).map fun p => Sl.x p.1 p.2).length = vs.length := by rw [List.length_map, List.length_zip, hl, Nat.min_self]
  have key : ∀ (i : Nat) (s : Sl), (envOf N.length vs ts)[i]? = some s → s = .no ∨ ∃ v t, s = .x v t ∧ vs[i]? = some v ∧ ts[i]? = some t := fun i s e => by
    unfold envOf at e
    by_cases hi : i < vs.length
    · rw [List.getElem?_append_left (by rw [lz]; exact hi), List.getElem?_map] at e
      cases z : (vs.zip ts)[i]? with
      | none => rw [z] at e; cases e
      | some p =>
        rw [z] at e
        obtain ⟨z1, z2⟩ := List.getElem?_zip_eq_some.mp z
        exact .inr ⟨p.1, p.2, (Option.some.inj e).symm, z1, z2⟩
    · rw [List.getElem?_append_right (by rw [lz]; omega)] at e
      left
      have := List.mem_of_getElem? e
      exact (List.mem_replicate.mp this).2
  refine ⟨bh, g0, gh, fr, ?_, fun i t e => ?_, fun i u t e => ?_, fun i p Pd e => ?_, fun i j p Pd Qd e => ?_⟩
  · unfold L2.start envOf
    rw [List.length_append, List.length_append, lz, List.length_map, List.length_replicate, List.length_replicate]
  · rcases key i _ e with z | ⟨v, t', z, _⟩ <;> cases z
  · rcases key i _ e with z | ⟨v, t', z, z1, z2⟩
    · cases z
    · cases z
      obtain ⟨w, a, c⟩ := r.getT z2
      rw [z1] at a
      cases a
      refine ⟨?_, c⟩
      unfold L2.start
      have hi : i < vs.length := (List.getElem?_eq_some_iff.mp z1).1
      rw [List.getElem?_append_left (by rw [List.length_map]; exact hi), List.getElem?_map, z1]
      rfl
  · rcases key i _ e with z | ⟨v, t', z, _⟩ <;> cases z
  · rcases key i _ e with z | ⟨v, t', z, _⟩ <;> cases z
/-- the wish of a def about errors -/
abbrev WD (E : XK) : WX := fun cls d _ H => E cls d H
theorem run_sP {pre : List T → Prop} {post : List T → T → Prop} {xc : List V → List T → Er → Prop} {N : List Str} {tb : XK → TS} {vs : List V} {H : Hp} {Q : VK} {E : XK} (h : sP pre post xc vs H Q E)
    (body : ∀ ts, vs.length = ts.length → pre ts → wS (WD E) (fun er _ => xc vs ts er) (tb E) (envOf N.length vs ts) { rt := fun t _ => post ts t, nx := fun _ => post ts .non, rf := fun us _ => post ts (.lst us) }) :
    tb E { nx := fun _ H' => Q .non H', rt := Q } (L2.start N vs) H := by
  obtain ⟨ts, G, r, gh, hp, k, kx⟩ := h
  have S : Sta ⟨H, G⟩ G H (L2.start N vs) (envOf N.length vs ts) := sta_start Le.rfl Le.rfl gh (fun _ _ h => h) r
  have gr : ∀ {G' H' : Hp} {σ' : L2.St} {ρ' : Env}, Sta ⟨H, G⟩ G' H' σ' ρ' → Grow G H G' H' := fun S' => ⟨S'.g0, S'.bh, S'.gh, S'.fr⟩
  refine body ts r.len hp ⟨H, G⟩ G H _ _ S ⟨fun ρ' σ' G' H' p S' _ => k .non .non G' H' p rfl (gr S'), fun v t ρ' σ' G' H' p rr S' _ => k t v G' H' p rr (gr S'), fun p vs' us ρ' σ' G' H' po _ hp' gp bp rr S' _ => ?_, fun _ _ _ _ p => p.elim, fun _ _ _ _ p => p.elim⟩ fun σ er ρ' od G' H' x a S' _ => kx er od G' H' x a (gr S')
  have g1 := gr S'
  have lg : Le G' (upd G' p (.lst vs')) := Le.new gp
  refine k _ _ (upd G' p (.lst vs')) H' po ⟨p, vs', rfl, upd_same, rr.up lg⟩ ⟨g1.g.tr lg, g1.h, fun a o e => ?_, fun a n g => ?_⟩
  · by_cases z : a = p
    · subst z; rw [upd_same] at e; cases e; exact hp'
    · rw [upd_ne z] at e; exact g1.gh a o e
  · have z : a ≠ p := fun z => n (by rw [z]; exact bp)
    rw [upd_ne z]; exact g1.fr a n g
theorem run_sF {pre : List T → Prop} {post : List T → List T → Prop} {xc : List V → List T → Er → Prop} {N : List Str} {tb : XK → TS} {vs : List V} {H : Hp} {Q : VK} {E : XK} (h : sF pre post xc vs H Q E)
    (body : ∀ ts, vs.length = ts.length → pre ts → wS (WD E) (fun er _ => xc vs ts er) (tb E) (envOf N.length vs ts) { rf := fun us _ => post ts us }) :
    tb E { nx := fun _ H' => Q .non H', rt := Q } (L2.start N vs) H := by
  obtain ⟨ts, G, r, gh, hp, k, kx⟩ := h
  have S : Sta ⟨H, G⟩ G H (L2.start N vs) (envOf N.length vs ts) := sta_start Le.rfl Le.rfl gh (fun _ _ h => h) r
  have gr : ∀ {G' H' : Hp} {σ' : L2.St} {ρ' : Env}, Sta ⟨H, G⟩ G' H' σ' ρ' → Grow G H G' H' := fun S' => ⟨S'.g0, S'.bh, S'.gh, S'.fr⟩
  exact body ts r.len hp ⟨H, G⟩ G H _ _ S ⟨fun _ _ _ _ p => p.elim, fun _ _ _ _ _ _ p => p.elim, fun p vs' us ρ' σ' G' H' po _ hp' gp bp rr S' _ => k us p vs' G' H' po hp' gp bp rr (gr S'), fun _ _ _ _ p => p.elim, fun _ _ _ _ p => p.elim⟩ fun σ er ρ' od G' H' x a S' _ => kx er od G' H' x a (gr S')
open Classical in
/-- the heap without the list that is handed over -/
noncomputable def lessP (H : Hp) (p : Addr) : Hp := fun a => if a = p then none else H a
theorem lessP_ne {H : Hp} {p a : Addr} (h : a ≠ p) : lessP H p a = H a := if_neg h
theorem lessP_at {H : Hp} {p : Addr} : lessP H p p = none := if_pos rfl
theorem sta_startO {G H : Hp} (gh : Le G H) {N : List Str} {p : Addr} {bs : List T} {bv : List V} (hp : H p = some (.lst bv)) (gp : G p = none) (rb : RepL G bs bv) {Pd : List T → Prop} (q : Pd bs) {us : List V} {ts : List T} (r : RepL G ts us) (hN : 0 < N.length) :
    Sta ⟨lessP H p, G⟩ G H (L2.start N (.ref p :: us)) (.o p Pd :: envOf (N.length - 1) us ts) := by
  have l0 : Le (lessP H p) H := fun a o h => by
    by_cases z : a = p
    · rw [z, lessP_at] at h; cases h
    · rw [lessP_ne z] at h; exact h
  have S : Sta ⟨lessP H p, G⟩ G H (L2.start (N.drop 1) us) (envOf (N.drop 1).length us ts) := sta_start l0 Le.rfl gh (fun _ _ h => h) r
  have e : L2.start N (.ref p :: us) = some (.ref p) :: L2.start (N.drop 1) us := by
    unfold L2.start
    rw [List.map_cons, List.cons_append, List.length_cons, List.length_drop]
    congr 3
    omega
  have e2 : (N.drop 1).length = N.length - 1 := List.length_drop ..
  rw [e2] at S
  rw [e]
  have no : ∀ (i : Nat) (c : Addr) (Qd : List T → Prop), (envOf (N.length - 1) us ts)[i]? ≠ some (.o c Qd) := fun i c Qd h => by
    unfold envOf at h
    have m := List.mem_of_getElem? h
    rcases List.mem_append.mp m with m | m
    · obtain ⟨w, _, z⟩ := List.mem_map.mp m
      cases z
    · have z := (List.mem_replicate.mp m).2
      cases z
  refine ⟨S.bh, S.g0, S.gh, S.fr, by rw [List.length_cons, List.length_cons, S.len], fun i t h => ?_, fun i u t h => ?_, fun i c Qd h => ?_, fun i j c Qd Rd h k => ?_⟩
  · cases i with
    | zero => cases h
    | succ i => exact S.val i t h
  · cases i with
    | zero => cases h
    | succ i => exact S.ex i u t h
  · cases i with
    | zero => cases h; exact ⟨bs, bv, rfl, hp, gp, lessP_at, rb, q⟩
    | succ i => exact absurd h (no i c Qd)
  · cases i with
    | zero =>
      cases j with
      | zero => rfl
      | succ j => exact absurd k (no j c Rd)
    | succ i => exact absurd h (no i c Qd)
theorem growP_of {G H G' H' : Hp} {p : Addr} {σ' : L2.St} {ρ' : Env} {Pd : List T → Prop} (S' : Sta ⟨lessP H p, G⟩ G' H' σ' ρ') (e : ρ'[0]? = some (.o p Pd)) (hp : H p ≠ none) : ∃ bs bv, H' p = some (.lst bv) ∧ G' p = none ∧ RepL G' bs bv ∧ Pd bs ∧ GrowP p G H G' H' := by
  obtain ⟨ts, vs, a, h, n, nb, r, q⟩ := S'.own 0 p Pd e
  refine ⟨ts, vs, h, n, r, q, S'.g0, fun a o ne e => S'.bh a o (by show lessP H p a = some o; rw [lessP_ne ne]; exact e), S'.gh, fun a ne g => ?_⟩
  by_cases z : a = p
  · rw [z]; exact n
  · exact S'.fr a (by show lessP H p a ≠ none; rw [lessP_ne z]; exact ne) g
/-- .. of one whose first argument is a list that is handed over -/
theorem run_sO {ι : Type} {Pa Pb : ι → List T → Prop} {pre : List T → Prop} {post : List T → T → Prop} {xc : List V → List T → Er → Prop} {N : List Str} {tb : XK → TS} {vs : List V} {H : Hp} {Q : VK} {E : XK} (h : sO Pa Pb pre post xc vs H Q E)
    (body : ∀ n p us ts, vs = .ref p :: us → us.length = ts.length → pre ts → wS (WD E) (fun er ρ' => xc us ts er ∧ ρ'[0]? = some (Sl.o p (Pb n))) (tb E) (.o p (Pa n) :: envOf (N.length - 1) us ts) { rt := fun t ρ' => post ts t ∧ ρ'[0]? = some (Sl.o p (Pb n)), nx := fun ρ' => post ts .non ∧ ρ'[0]? = some (Sl.o p (Pb n)), rf := fun us ρ' => post ts (.lst us) ∧ ρ'[0]? = some (Sl.o p (Pb n)), z := 0 }) (hN : 0 < N.length) :
    tb E { nx := fun _ H' => Q .non H', rt := Q } (L2.start N vs) H := by
  obtain ⟨n, p, bs, bv, us, ts, G, rfl, hp, gp, rb, q, r, gh, pr, k, kx⟩ := h
  have hp0 : H p ≠ none := by rw [hp]; exact fun z => nomatch z
  refine body n p us ts rfl r.len pr ⟨lessP H p, G⟩ G H _ _ (sta_startO gh hp gp rb q r hN) ⟨fun ρ' σ' G' H' x S' _ => ?_, fun v t ρ' σ' G' H' x rr S' _ => ?_, fun c vs' ws ρ' σ' G' H' x nz hc gc bc rr S' _ => ?_, fun _ _ _ _ p => p.elim, fun _ _ _ _ p => p.elim⟩ fun σ er ρ' od G' H' x a S' _ => ?_
  · obtain ⟨po, e⟩ := x
    obtain ⟨bs', bv', h1, _, h2, h3, g⟩ := growP_of S' e hp0
    exact k .non .non bs' bv' G' H' po rfl h1 h2 h3 g
  · obtain ⟨po, e⟩ := x
    obtain ⟨bs', bv', h1, _, h2, h3, g⟩ := growP_of S' e hp0
    exact k t v bs' bv' G' H' po rr h1 h2 h3 g
  · obtain ⟨po, e⟩ := x
    obtain ⟨bs', bv', h1, h0, h2, h3, g⟩ := growP_of S' e hp0
    have lg : Le G' (upd G' c (.lst vs')) := Le.new gc
    have z : c ≠ p := fun z => nz (Pb n) (by rw [z]; exact e)
    refine k _ _ bs' bv' (upd G' c (.lst vs')) H' po ⟨c, vs', rfl, upd_same, rr.up lg⟩ h1 (h2.up lg) h3 ⟨g.g.tr lg, g.h, fun a o e => ?_, fun a n y => ?_⟩
    · by_cases z : a = c
      · subst z; rw [upd_same] at e; cases e; exact hc
      · rw [upd_ne z] at e; exact g.gh a o e
    · by_cases w : a = c
      · subst w
        exact absurd (show lessP H p a = none from bc) (by rw [lessP_ne z]; exact n)
      · rw [upd_ne w]; exact g.fr a n y
  · obtain ⟨x1, e⟩ := x
    obtain ⟨bs', bv', h1, _, h2, h3, g⟩ := growP_of S' e hp0
    exact kx er od bs' bv' G' H' x1 a h1 h2 h3 g
end
end TL
set_option maxHeartbeats 4000000
namespace TL
open PySem PySem.Spec PyProof.Rows L2
/-- any list against the empty one -/
def rEqL (K : PySem.W.Frag) : R2 := fun x y H Q => ∃ (a b : Addr) (xs : List V), x = .ref a ∧ y = .ref b ∧ SqL K H a xs ∧ SqL K H b [] ∧ Q (.bl xs.isEmpty) H
def rNeL (K : PySem.W.Frag) : R2 := fun x y H Q => ∃ (a b : Addr) (xs : List V), x = .ref a ∧ y = .ref b ∧ SqL K H a xs ∧ SqL K H b [] ∧ Q (.bl (!xs.isEmpty)) H
theorem op_eqL {X : Cx} (hu : X.A.units < cLine) : OpR X (compareOp .Eq) (rEqL X.K) := by
  intro pins s σ H x y v u Q I rx ry h
  obtain ⟨a, b, xs, rfl, rfl, ha, hb, q⟩ := h
  obtain rfl : v = Value.ref a := rx
  obtain rfl : u = Value.ref b := ry
  obtain ⟨ia, ra, ⟨o, n, ho, hc, _, hd⟩, _⟩ := I.list ha
  obtain ⟨ib, rb, ⟨o2, n2, ho2, hc2, _, hd2⟩, _⟩ := I.list hb
  cases rb
  cases ra with
  | nil => exact SeqAt.eq_listAt (e := fun _ => true) ⟨o, ho, hc, n, hd⟩ ⟨o2, ho2, hc2, n2, hd2⟩ rfl hu (fun j h1 => absurd h1 (by simp)) ⟨.bl _, H, I, rfl, q⟩
  | cons r1 r2 => exact SeqAt.eq_list_lengthsAt ⟨o, ho, hc, n, hd⟩ ⟨o2, ho2, hc2, n2, hd2⟩ (by simp) hu ⟨.bl _, H, I, rfl, q⟩
theorem op_neL {X : Cx} (hu : X.A.units < cLine) : OpR X (compareOp .NotEq) (rNeL X.K) := by
  intro pins s σ H x y v u Q I rx ry h
  obtain ⟨a, b, xs, rfl, rfl, ha, hb, q⟩ := h
  obtain rfl : v = Value.ref a := rx
  obtain rfl : u = Value.ref b := ry
  obtain ⟨ia, ra, ⟨o, n, ho, hc, _, hd⟩, _⟩ := I.list ha
  obtain ⟨ib, rb, ⟨o2, n2, ho2, hc2, _, hd2⟩, _⟩ := I.list hb
  cases rb
  cases ra with
  | nil => exact SeqAt.RcNeAt.lists (e := fun _ => true) ⟨o, ho, hc, n, hd⟩ ⟨o2, ho2, hc2, n2, hd2⟩ rfl hu (fun j h1 => absurd h1 (by simp)) _ _ _ _ ⟨.bl _, H, I, rfl, q⟩
  | cons r1 r2 => exact SeqAt.RcNeAt.lists_lengths ⟨o, ho, hc, n, hd⟩ ⟨o2, ho2, hc2, n2, hd2⟩ (by simp) hu _ _ _ _ ⟨.bl _, H, I, rfl, q⟩
/-- any tuple against the empty one -/
def rEqT (K : PySem.W.Frag) : R2 := fun x y H Q => ∃ (a b : Addr) (xs : List V), x = .ref a ∧ y = .ref b ∧ SqT K H a xs ∧ SqT K H b [] ∧ Q (.bl xs.isEmpty) H
theorem op_eqT {X : Cx} (hu : X.A.units < cLine) : OpR X (compareOp .Eq) (rEqT X.K) := by
  intro pins s σ H x y v u Q I rx ry h
  obtain ⟨a, b, xs, rfl, rfl, ha, hb, q⟩ := h
  obtain rfl : v = Value.ref a := rx
  obtain rfl : u = Value.ref b := ry
  obtain ⟨ia, ra, ⟨o, ho, hc, n, hd⟩, _⟩ := I.tuple ha
  obtain ⟨ib, rb, ⟨o2, ho2, hc2, n2, hd2⟩, _⟩ := I.tuple hb
  cases rb
  refine SeqAt.eq_tupleAt (e := fun _ => true) ⟨o, ho, hc, n, hd⟩ ⟨o2, ho2, hc2, n2, hd2⟩ hu (fun j h1 h2 => absurd h2 (by simp)) ?_
  cases ra with
  | nil => exact ⟨.bl _, H, I, rfl, q⟩
  | cons r1 r2 => exact ⟨.bl false, H, I, by simp [L2.RelV], q⟩
end TL
set_option maxHeartbeats 4000000
namespace TL
open PySem PySem.Spec PyProof.Rows L2
theorem tuple_mul1 (l : Addr) (items : Array Value) (n : Nat) (dd : Option Addr) (sl : Array (Option Value)) (x : Int) (u : Tok) (e : x = 1) :
    Meets (Builtin.«tuple.__mul__» ⟨[.ref l, .int x u], []⟩) (fun _ R s => s.heap.get? l = some { cls := .type "tuple", dict := dd, data := .seq items n, slots := sl } ∧ R (.ok (.ret (Value.ref l))) s) :=
  .of_wp fun prog w A R s h => by
    obtain ⟨hp, g, d, tk, os⟩ := s
    obtain ⟨hl, h⟩ := h
    have f1 := AutoSeq1.idx_int
    have c0 : (decide (x < -(2 ^ 63)) || decide (x ≥ 2 ^ 63)) = false := by rw [e]; decide
    have c1 : (items.isEmpty || x == 1) = true := by rw [e]; simp
    wp_walk using wpAny_loadPart' hl
    exact ⟨_, rfl, h⟩
theorem tuple_mul0 (l : Addr) (items : Array Value) (n : Nat) (dd : Option Addr) (sl : Array (Option Value)) (x : Int) (u : Tok) (e : x = 0) (hi : items.isEmpty = false) :
    Meets (Builtin.«tuple.__mul__» ⟨[.ref l, .int x u], []⟩) (fun _ R s => s.heap.get? l = some { cls := .type "tuple", dict := dd, data := .seq items n, slots := sl } ∧
      R (.ok (.ret (Value.ref s.heap.objs.size))) { s with heap := s.heap.push { cls := Value.type "tuple", data := Data.seq #[] }, toks := s.toks }) :=
  .of_wp fun prog w A R s h => by
    obtain ⟨hp, g, d, tk, os⟩ := s
    obtain ⟨hl, h⟩ := h
    have f1 := AutoSeq1.idx_int
    have c0 : (decide (x < -(2 ^ 63)) || decide (x ≥ 2 ^ 63)) = false := by rw [e]; decide
    have c1 : (items.isEmpty || x == 1) = false := by rw [e, hi]; rfl
    have c2 : (decide (x ≤ 0) || items.isEmpty) = true := by rw [e]; rfl
    wp_walk using wpAny_loadPart' hl
    exact ⟨_, rfl, h⟩
/-- t * 1: t itself; t * 0: a new () -/
def rRep01 (K : PySem.W.Frag) : R2 := fun x y H Q => ∃ l k xs, x = .ref l ∧ y = .int k ∧ SqT K H l xs ∧ xs ≠ [] ∧ ((k = 1 ∧ Q (.ref l) H) ∨ (k = 0 ∧ ∀ p, H p = none → Q (.ref p) (upd H p (.tup []))))
theorem op_rep01 {X : Cx} : OpR X (binaryOp .Mult) (rRep01 X.K) := by
  intro pins s σ H x y v u Q I rx ry h
  obtain ⟨l, k, xs, rfl, rfl, hT, hne, hk⟩ := h
  cases rx
  obtain ⟨t, rfl⟩ := ry
  obtain ⟨its, r, ⟨⟨cls, dd, data, sl⟩, ho, hc, n, hd⟩, hs⟩ := I.tuple hT
  simp only at hc hd
  subst hc hd
  have hle : its.length = xs.length := r.length.symm
  have hn : its ≠ [] := fun e => hne (by
    rw [e] at hle
    exact List.eq_nil_of_length_eq_zero hle.symm)
  have hi : its.toArray.isEmpty = false := by
    cases its with
    | nil => exact absurd rfl hn
    | cons a b => rfl
  rcases hk with ⟨k1, q⟩ | ⟨k0, q⟩
  · exact wpAny_binaryOp_repeat_ref (T := "tuple") (U := "int") (by decide) ⟨_, ho, rfl⟩ (fun s' => typeIs_int s' k t) noFill_tuple_mul F.fills_int_mul F.slot_int_rmul repeat_tuple F.slot_int_index.lookup
      (call_meets F.slot_int_rmul (typeIs_int s k t) F.entry_int_rmul (F.args_int_rmul_2 _ _) (int_rmul_tuple k t l its.toArray n dd sl)
        ⟨ho, rfl, ⟨_, ho, rfl⟩, call_meets F.slot_tuple_mul ⟨_, ho, rfl⟩ F.entry_tuple_mul (F.args_tuple_mul_2 _ _) (tuple_mul1 l its.toArray n dd sl k t k1) ⟨ho, .ref l, H, I, rfl, q⟩⟩)
  · refine wpAny_binaryOp_repeat_ref (T := "tuple") (U := "int") (by decide) ⟨_, ho, rfl⟩ (fun s' => typeIs_int s' k t) noFill_tuple_mul F.fills_int_mul F.slot_int_rmul repeat_tuple F.slot_int_index.lookup
      (call_meets F.slot_int_rmul (typeIs_int s k t) F.entry_int_rmul (F.args_int_rmul_2 _ _) (int_rmul_tuple k t l its.toArray n dd sl)
        ⟨ho, rfl, ⟨_, ho, rfl⟩, call_meets F.slot_tuple_mul ⟨_, ho, rfl⟩ F.entry_tuple_mul (F.args_tuple_mul_2 _ _) (tuple_mul0 l its.toArray n dd sl k t k0 hi) ⟨ho, ?_⟩⟩)
    refine ⟨.ref s.heap.objs.size, _, I.laid (t' := s.toks) (o := .tup []) (fun b ob q => Heap.get?_push_of_some _ q) (Nat.le_refl _) ?_, rfl, q _ (I.hok.fresh (Nat.le_refl _))⟩
    exact ⟨by show 0 ≤ sizeLine; exact Nat.zero_le _, [], .nil, IsTup.new _ _⟩
/-- a list against a tuple, a tuple against a list -/
def rEqM (K : PySem.W.Frag) : R2 := fun x y H Q => ∃ (a b : Addr) (xs ys : List V), x = .ref a ∧ y = .ref b ∧ ((SqL K H a xs ∧ SqT K H b ys) ∨ (SqT K H a xs ∧ SqL K H b ys)) ∧ Q (.bl false) H
theorem op_eqM {X : Cx} (hu : X.A.units < cLine) : OpR X (compareOp .Eq) (rEqM X.K) := by
  intro pins s σ H x y v u Q I rx ry h
  obtain ⟨a, b, xs, ys, rfl, rfl, hk, q⟩ := h
  obtain rfl : v = Value.ref a := rx
  obtain rfl : u = Value.ref b := ry
  rcases hk with ⟨ha, hb⟩ | ⟨ha, hb⟩
  · obtain ⟨ia, ra, ⟨o, n, ho, hc, _, hd⟩, _⟩ := I.list ha
    obtain ⟨ib, rb, ⟨o2, ho2, hc2, n2, hd2⟩, _⟩ := I.tuple hb
    exact SeqAt.RcAt.list_tuple ⟨o, ho, hc, n, hd⟩ ⟨o2, ho2, hc2, n2, hd2⟩ hu _ _ _ _ ⟨.bl false, H, I, rfl, q⟩
  · obtain ⟨ia, ra, ⟨o, ho, hc, n, hd⟩, _⟩ := I.tuple ha
    obtain ⟨ib, rb, ⟨o2, n2, ho2, hc2, _, hd2⟩, _⟩ := I.list hb
    exact SeqAt.RcAt.tuple_list ⟨o, ho, hc, n, hd⟩ ⟨o2, ho2, hc2, n2, hd2⟩ hu _ _ _ _ ⟨.bl false, H, I, rfl, q⟩
end TL
set_option maxHeartbeats 4000000
namespace TL
open PySem PySem.Spec PyProof.Rows L2
def rAddU (K : PySem.W.Frag) : R2 := fun x y H Q => (∃ i j, x = .int i ∧ y = .int j ∧ Q (.int (i + j)) H) ∨ ((∃ i j, x = .str i ∧ y = .str j ∧ i.length + j.length ≤ sizeLine ∧ Q (.str (i ++ j)) H) ∨ (rCat x y H Q ∨ rCatA K x y H Q))
theorem uAdd {X : Cx} : OpR X (binaryOp .Add) (rAddU X.K) := op_add.or (op_add_str.or (op_cat.or op_catA))
abbrev rSubU : R2 := rI0 fun i j => .int (i - j)
theorem uSub {X : Cx} : OpR X (binaryOp .Sub) rSubU := op_sub
def rMulU (K : PySem.W.Frag) : R2 := fun x y H Q => rI CMul (fun i j => .int (i * j)) x y H Q ∨ (rRep x y H Q ∨ (rRepT K x y H Q ∨ rRep01 K x y H Q))
theorem uMul {X : Cx} : OpR X (binaryOp .Mult) (rMulU X.K) := op_mul.or (op_rep.or (op_repT.or op_rep01))
abbrev rModU : R2 := rI (fun _ j => 0 < j) fun i j => .int (i % j)
theorem uMod {X : Cx} : OpR X (binaryOp .Mod) rModU := op_mod
abbrev rDivU : R2 := rI CDivW fun i j => .int (i / j)
theorem uDiv {X : Cx} : OpR X (binaryOp .FloorDiv) rDivU := op_fdivW
abbrev rPowU : R2 := rI CPow fun i j => .int (i ^ j.toNat)
theorem uPow {X : Cx} : OpR X (binaryOp .Pow) rPowU := op_pow
abbrev rLtU : R2 := rI0 fun i j => .bl (decide (i < j))
abbrev rLeU : R2 := rI0 fun i j => .bl (decide (i ≤ j))
abbrev rGtU : R2 := rI0 fun i j => .bl (decide (j < i))
abbrev rGeU : R2 := rI0 fun i j => .bl (decide (j ≤ i))
def rEqU (K : PySem.W.Frag) : R2 := fun x y H Q => rEq x y H Q ∨ rEqD K x y H Q
theorem uEq {X : Cx} (hu : X.A.units + 64 < cLine) : OpR X (compareOp .Eq) (rEqU X.K) := op_eq.or (op_eqD hu)
def rNeU (K : PySem.W.Frag) : R2 := fun x y H Q => rNe x y H Q ∨ (rNeD K x y H Q ∨ rNeL K x y H Q)
theorem uNe {X : Cx} (hu : X.A.units + 64 < cLine) : OpR X (compareOp .NotEq) (rNeU X.K) := op_ne.or ((op_neD hu).or (op_neL (Nat.lt_of_le_of_lt (Nat.le_add_right _ _) hu)))
def rIsU : R2 := fun x y H Q => (y = .non ∧ Q (.bl (decide (x = .non))) H) ∨ rIsB x y H Q
theorem uIs {X : Cx} : OpR X (compareOp .Is) rIsU := op_isN.or op_isBl
def rIsNotU : R2 := fun x y H Q => (y = .non ∧ Q (.bl (!decide (x = .non))) H) ∨ rNotB x y H Q
theorem uIsNot {X : Cx} : OpR X (compareOp .IsNot) rIsNotU := op_notN.or op_notBl
section
variable {b : Bs} {G H : Hp} {σ : L2.St} {ρ : Env}
/-- from plain data to the library's -/
def fAdd : T → T → (T → Prop) → Prop
  | .int i, .int j, k => k (.int (i + j))
  | .str i, .str j, k => i.length + j.length ≤ sizeLine ∧ k (.str (i ++ j))
  | .lst xs, .lst ys, k => xs.length + ys.length ≤ sizeLine ∧ k (.lst (xs ++ ys))
  | .tup xs, .tup ys, k => xs.length + ys.length ≤ sizeLine ∧ k (.tup (xs ++ ys))
  | _, _, _ => False
theorem addOk {K : PySem.W.Frag} : OpOk (rAddU K) fAdd := fun b G H σ ρ v1 v2 t1 t2 K' Q S r1 r2 h q => by
  unfold fAdd at h
  split at h
  · cases r1; cases r2
    exact .inl ⟨_, _, rfl, rfl, q _ _ G H h rfl S Le.rfl⟩
  · cases r1; cases r2
    exact .inr (.inl ⟨_, _, rfl, rfl, h.1, q _ _ G H h.2 rfl S Le.rfl⟩)
  · rename_i xs ys k
    obtain ⟨a, vs, rfl, ha, ra⟩ := r1
    obtain ⟨c, ws, rfl, hc, rc⟩ := r2
    refine .inr (.inr (.inl ⟨a, c, vs, ws, rfl, rfl, S.gh _ _ ha, S.gh _ _ hc, by rw [ra.len, rc.len]; exact h.1, fun p hp => ?_⟩))
    have g := Grow.new (o := .lst (vs ++ ws)) S.gh hp
    exact q _ _ _ _ h.2 ⟨p, vs ++ ws, rfl, upd_same, (ra.app rc).up g.g⟩ (S.grow g) g.g
  · rename_i k0 xs ys
    obtain ⟨a, vs, rfl, ha, ra⟩ := r1
    obtain ⟨c, ws, rfl, hc, rc⟩ := r2
    refine .inr (.inr (.inr ⟨a, c, vs, ws, rfl, rfl, sqR (S.gh.rd ha), sqR (S.gh.rd hc), by rw [ra.len, rc.len]; exact h.1, fun e => ?_, fun e1 e2 => ?_, fun e1 e2 p hp => ?_⟩))
    · subst e
      have e : xs = [] := List.length_eq_zero_iff.mp (by rw [← ra.len]; rfl)
      subst e
      exact q _ _ G H h.2 ⟨c, ws, rfl, hc, rc⟩ S Le.rfl
    · subst e2
      have e : ys = [] := List.length_eq_zero_iff.mp (by rw [← rc.len]; rfl)
      subst e
      exact q _ _ G H h.2 ⟨a, vs, rfl, ha, by rw [List.append_nil]; exact ra⟩ S Le.rfl
    · have g := Grow.new (o := .tup (vs ++ ws)) S.gh hp
      exact q _ _ _ _ h.2 ⟨p, vs ++ ws, rfl, .inl upd_same, (ra.app rc).up g.g⟩ (S.grow g) g.g
  · cases h
def fI (C : Int → Int → Prop) (g : Int → Int → T) : T → T → (T → Prop) → Prop
  | .int i, .int j, k => C i j ∧ k (g i j)
  | _, _, _ => False
def fI0 (g : Int → Int → T) : T → T → (T → Prop) → Prop
  | .int i, .int j, k => k (g i j)
  | _, _, _ => False
theorem opI0Ok {g : Int → Int → V} {g' : Int → Int → T} (hg : ∀ i j (G : Hp), Rep G (g' i j) (g i j)) : OpOk (rI0 g) (fI0 g') := fun b G H σ ρ v1 v2 t1 t2 K' Q S r1 r2 h q => by
  unfold fI0 at h
  split at h
  · cases r1; cases r2
    exact ⟨_, _, rfl, rfl, q _ _ G H h (hg _ _ G) S Le.rfl⟩
  · cases h
theorem opIOk {C : Int → Int → Prop} {g : Int → Int → V} {g' : Int → Int → T} (hg : ∀ i j (G : Hp), Rep G (g' i j) (g i j)) : OpOk (rI C g) (fI C g') := fun b G H σ ρ v1 v2 t1 t2 K' Q S r1 r2 h q => by
  unfold fI at h
  split at h
  · cases r1; cases r2
    exact ⟨_, _, rfl, rfl, h.1, q _ _ G H h.2 (hg _ _ G) S Le.rfl⟩
  · cases h
abbrev fSub := fI0 fun i j => .int (i - j)
theorem subOk : OpOk rSubU fSub := opI0Ok fun _ _ _ => rfl
abbrev fMod := fI (fun _ j => 0 < j) fun i j => .int (i % j)
theorem modOk : OpOk rModU fMod := opIOk fun _ _ _ => rfl
abbrev fDiv := fI CDivW fun i j => .int (i / j)
theorem divOk : OpOk rDivU fDiv := opIOk fun _ _ _ => rfl
abbrev fPow := fI CPow fun i j => .int (i ^ j.toNat)
theorem powOk : OpOk rPowU fPow := opIOk fun _ _ _ => rfl
abbrev fLt := fI0 fun i j => .bl (decide (i < j))
theorem ltOk : OpOk rLtU fLt := opI0Ok fun _ _ _ => rfl
abbrev fLe := fI0 fun i j => .bl (decide (i ≤ j))
theorem leOk : OpOk rLeU fLe := opI0Ok fun _ _ _ => rfl
abbrev fGt := fI0 fun i j => .bl (decide (j < i))
theorem gtOk : OpOk rGtU fGt := opI0Ok fun _ _ _ => rfl
abbrev fGe := fI0 fun i j => .bl (decide (j ≤ i))
theorem geOk : OpOk rGeU fGe := opI0Ok fun _ _ _ => rfl
theorem repL_flat {G : Hp} {ts : List T} {vs : List V} (r : RepL G ts vs) : ∀ k : Nat, RepL G (List.replicate k ts).flatten (List.replicate k vs).flatten
  | 0 => rfl
  | k + 1 => by rw [List.replicate_succ, List.replicate_succ, List.flatten_cons, List.flatten_cons]; exact r.app (repL_flat r k)
def fMul : T → T → (T → Prop) → Prop
  | .int i, .int j, k => CMul i j ∧ k (.int (i * j))
  | .lst xs, .int n, k => -(2 ^ 63) ≤ n ∧ n < 2 ^ 63 ∧ xs.length * n.toNat ≤ sizeLine ∧ k (.lst (List.replicate n.toNat xs).flatten)
  | .tup xs, .int n, k => xs ≠ [] ∧ 0 ≤ n ∧ n ≤ 1000 ∧ xs.length ≤ 1000 ∧ k (.tup (List.replicate n.toNat xs).flatten)
  | _, _, _ => False
theorem mulOk {K : PySem.W.Frag} : OpOk (rMulU K) fMul := fun b G H σ ρ v1 v2 t1 t2 K' Q S r1 r2 h q => by
  unfold fMul at h
  split at h
  · cases r1; cases r2
    exact .inl ⟨_, _, rfl, rfl, h.1, q _ _ G H h.2 rfl S Le.rfl⟩
  · rename_i k0 xs n
    obtain ⟨a, vs, rfl, ha, ra⟩ := r1
    cases r2
    refine .inr (.inl ⟨a, _, vs, rfl, rfl, S.gh _ _ ha, h.1, h.2.1, by rw [ra.len]; exact h.2.2.1, fun p hp => ?_⟩)
    have g := Grow.new (o := .lst (List.replicate n.toNat vs).flatten) S.gh hp
    exact q _ _ _ _ h.2.2.2 ⟨p, _, rfl, upd_same, (repL_flat ra _).up g.g⟩ (S.grow g) g.g
  · rename_i k0 xs n
    obtain ⟨a, vs, rfl, ha, ra⟩ := r1
    cases r2
    have hv : vs ≠ [] := fun e => h.1 (List.length_eq_zero_iff.mp (by rw [← ra.len, e]; rfl))
    by_cases n2 : 2 ≤ n
    · refine .inr (.inr (.inl ⟨a, _, vs, rfl, rfl, sqR (S.gh.rd ha), hv, n2, h.2.2.1, by rw [ra.len]; exact h.2.2.2.1, fun p hp => ?_⟩))
      have g := Grow.new (o := .tup (List.replicate n.toNat vs).flatten) S.gh hp
      exact q _ _ _ _ h.2.2.2.2 ⟨p, _, rfl, .inl upd_same, (repL_flat ra _).up g.g⟩ (S.grow g) g.g
    · have n0 := h.2.1
      refine .inr (.inr (.inr ⟨a, _, vs, rfl, rfl, sqR (S.gh.rd ha), hv, ?_⟩))
      by_cases n1 : n = 1
      · refine .inl ⟨n1, q _ _ G H h.2.2.2.2 ⟨a, vs, rfl, ha, ?_⟩ S Le.rfl⟩
        rw [n1]
        show RepL G (xs ++ []) vs
        rw [List.append_nil]
        exact ra
      · have nz : n = 0 := by omega
        refine .inr ⟨nz, fun p hp => ?_⟩
        have g := Grow.new (o := .tup []) S.gh hp
        have hh := h.2.2.2.2
        rw [nz] at hh
        exact q _ _ _ _ hh ⟨p, [], rfl, .inl upd_same, rfl⟩ (S.grow g) g.g
  · cases h
mutual
/-- plain data as the library has it -/
def toPy : T → Option PyData
  | .non => some .none
  | .bl c => some (.bool c)
  | .int i => some (.int i)
  | .str s => some (.str s)
  | .lst ts => (toPyL ts).map .list
  | .tup ts => (toPyL ts).map .tuple
  | _ => none
def toPyL : List T → Option (List PyData)
  | [] => some []
  | t :: ts => match toPy t, toPyL ts with
    | some d, some ds => some (d :: ds)
    | _, _ => none
end
mutual
theorem dp_of {K : PySem.W.Frag} {G H : Hp} (gh : Le G H) : ∀ (t : T) (v : V) (d : PyData), Rep G t v → toPy t = some d → Dp K H v d
  | .non, _, _, r, e => by cases r; cases e; exact .non
  | .bl c, _, _, r, e => by cases r; cases e; exact .bl c
  | .int c, _, _, r, e => by cases r; cases e; exact .int c
  | .str c, _, _, r, e => by cases r; cases e; exact .str c
  | .lst ts, _, _, ⟨a, vs, e1, ha, ra⟩, e => by
    subst e1
    unfold toPy at e
    cases z : toPyL ts with
    | none => rw [z] at e; cases e
    | some ds => rw [z] at e; cases e; exact .lst (SqL.of (gh _ _ ha)) (dpL_of gh ts vs ds ra z)
  | .tup ts, _, _, ⟨a, vs, e1, ha, ra⟩, e => by
    subst e1
    unfold toPy at e
    cases z : toPyL ts with
    | none => rw [z] at e; cases e
    | some ds => rw [z] at e; cases e; exact .tup (sqR (Le.rd gh ha)) (dpL_of gh ts vs ds ra z)
  | .dic _ _, _, _, _, e => by cases e
  | .exc _ _ _, _, _, _, e => by cases e
  | .ins _ _ _, _, _, _, e => by cases e
  | .raw _, _, _, _, e => by cases e
  | .frz _ _, _, _, _, e => by cases e
  | .abs _, _, _, _, e => by cases e
theorem dpL_of {K : PySem.W.Frag} {G H : Hp} (gh : Le G H) : ∀ (ts : List T) (vs : List V) (ds : List PyData), RepL G ts vs → toPyL ts = some ds → DpAll K H vs ds
  | [], _, _, r, e => by rw [show _ = _ from r]; cases e; exact .nil
  | t :: ts, _, _, ⟨v, vr, e1, r1, r2⟩, e => by
    subst e1
    unfold toPyL at e
    cases z : toPy t with
    | none => rw [z] at e; cases e
    | some d =>
      cases y : toPyL ts with
      | none => rw [z, y] at e; cases e
      | some ds =>
        rw [z, y] at e
        cases e
        exact .cons (dp_of gh t v d r1 z) (dpL_of gh ts vr ds r2 y)
end
/-- equal as Python has it, of plain data that is not deeper than 64 -/
def EqD (x y : T) (c : Bool) : Prop := ∃ d e, toPy x = some d ∧ toPy y = some e ∧ SeqAt.shaped d = true ∧ SeqAt.shaped e = true ∧ PyData.eqv d e = c
def fEq : T → T → (T → Prop) → Prop
  | .int i, .int j, k => k (.bl (decide (i = j)))
  | .bl i, .bl j, k => k (.bl (decide (i = j)))
  | .str i, .str j, k => k (.bl (decide (i = j)))
  | .non, .non, k => k (.bl true)
  | x, y, k => ∃ c, EqD x y c ∧ k (.bl c)
def fNe : T → T → (T → Prop) → Prop
  | .int i, .int j, k => k (.bl (!decide (i = j)))
  | .bl i, .bl j, k => k (.bl (!decide (i = j)))
  | .str i, .str j, k => k (.bl (!decide (i = j)))
  | .non, .non, k => k (.bl false)
  | x, y, k => ∃ c, EqD x y c ∧ k (.bl (!c))
theorem vinj_int {i j : Int} : decide (V.int i = V.int j) = decide (i = j) := by
  by_cases h : i = j
  · subst h; simp
  · have : V.int i ≠ V.int j := fun z => h (V.int.inj z)
    rw [decide_eq_false h, decide_eq_false this]
theorem vinj_bl {i j : Bool} : decide (V.bl i = V.bl j) = decide (i = j) := by
  by_cases h : i = j
  · subst h; simp
  · have : V.bl i ≠ V.bl j := fun z => h (V.bl.inj z)
    rw [decide_eq_false h, decide_eq_false this]
theorem vinj_str {i j : Str} : decide (V.str i = V.str j) = decide (i = j) := by
  by_cases h : i = j
  · subst h; simp
  · have : V.str i ≠ V.str j := fun z => h (V.str.inj z)
    rw [decide_eq_false h, decide_eq_false this]
theorem eqOk {K : PySem.W.Frag} : OpOk (rEqU K) fEq := fun b G H σ ρ v1 v2 t1 t2 K' Q S r1 r2 h q => by
  unfold fEq at h
  split at h
  · cases r1; cases r2
    exact .inl ⟨rfl, q _ _ G H h (by show V.bl _ = _; rw [vinj_int]) S Le.rfl⟩
  · cases r1; cases r2
    exact .inl ⟨rfl, q _ _ G H h (by show V.bl _ = _; rw [vinj_bl]) S Le.rfl⟩
  · cases r1; cases r2
    exact .inl ⟨rfl, q _ _ G H h (by show V.bl _ = _; rw [vinj_str]) S Le.rfl⟩
  · cases r1; cases r2
    exact .inl ⟨rfl, q _ _ G H h rfl S Le.rfl⟩
  · obtain ⟨c, ⟨d, e, h1, h2, h3, h4, h5⟩, hk⟩ := h
    exact .inr ⟨d, e, dp_of S.gh _ _ _ r1 h1, dp_of S.gh _ _ _ r2 h2, h3, h4, q _ _ G H hk (by rw [h5]; rfl) S Le.rfl⟩
theorem neOk {K : PySem.W.Frag} : OpOk (rNeU K) fNe := fun b G H σ ρ v1 v2 t1 t2 K' Q S r1 r2 h q => by
  unfold fNe at h
  split at h
  · cases r1; cases r2
    exact .inl ⟨rfl, q _ _ G H h (by show V.bl _ = _; rw [vinj_int]) S Le.rfl⟩
  · cases r1; cases r2
    exact .inl ⟨rfl, q _ _ G H h (by show V.bl _ = _; rw [vinj_bl]) S Le.rfl⟩
  · cases r1; cases r2
    exact .inl ⟨rfl, q _ _ G H h (by show V.bl _ = _; rw [vinj_str]) S Le.rfl⟩
  · cases r1; cases r2
    exact .inl ⟨rfl, q _ _ G H h rfl S Le.rfl⟩
  · obtain ⟨c, ⟨d, e, h1, h2, h3, h4, h5⟩, hk⟩ := h
    exact .inr (.inl ⟨d, e, dp_of S.gh _ _ _ r1 h1, dp_of S.gh _ _ _ r2 h2, h3, h4, q _ _ G H hk (by rw [h5]; rfl) S Le.rfl⟩)
def isNonT : T → Bool
  | .non => true
  | _ => false
def notRaw : T → Prop
  | .raw _ => False
  | .frz _ _ => False
  | .abs _ => False
  | _ => True
theorem rep_non {G : Hp} {t : T} {v : V} (r : Rep G t v) (n : notRaw t) : decide (v = V.non) = isNonT t := by
  cases t with
  | non => cases r; rfl
  | bl c => cases r; rfl
  | int c => cases r; rfl
  | str c => cases r; rfl
  | lst ts => obtain ⟨a, vs, rfl, _⟩ := r; rfl
  | tup ts => obtain ⟨a, vs, rfl, _⟩ := r; rfl
  | dic k ts => obtain ⟨a, vs, rfl, _⟩ := r; rfl
  | exc C k ts => obtain ⟨a, d, vs, rfl, _⟩ := r; rfl
  | ins C k ts => obtain ⟨a, d, vs, rfl, _⟩ := r; rfl
  | raw u => exact n.elim
  | frz o xs => exact n.elim
  | abs R => exact n.elim
def fIs : T → T → (T → Prop) → Prop
  | x, .non, k => notRaw x ∧ k (.bl (isNonT x))
  | .bl c, .bl d, k => k (.bl (decide (c = d)))
  | _, _, _ => False
def fIsNot : T → T → (T → Prop) → Prop
  | x, .non, k => notRaw x ∧ k (.bl (!isNonT x))
  | .bl c, .bl d, k => k (.bl (!decide (c = d)))
  | _, _, _ => False
theorem isOk : OpOk rIsU fIs := fun b G H σ ρ v1 v2 t1 t2 K' Q S r1 r2 h q => by
  unfold fIs at h
  split at h
  · cases r2
    exact .inl ⟨rfl, q _ _ G H h.2 (by rw [rep_non r1 h.1]; rfl) S Le.rfl⟩
  · cases r1; cases r2
    exact .inr ⟨_, _, rfl, rfl, q _ _ G H h rfl S Le.rfl⟩
  · cases h
theorem isNotOk : OpOk rIsNotU fIsNot := fun b G H σ ρ v1 v2 t1 t2 K' Q S r1 r2 h q => by
  unfold fIsNot at h
  split at h
  · cases r2
    exact .inl ⟨rfl, q _ _ G H h.2 (by rw [rep_non r1 h.1]; rfl) S Le.rfl⟩
  · cases r1; cases r2
    exact .inr ⟨_, _, rfl, rfl, q _ _ G H h rfl S Le.rfl⟩
  · cases h
def fIx : T → T → (T → Prop) → Prop
  | .lst ts, .int i, k => ∃ t, atI ts i = some t ∧ k t
  | .tup ts, .int i, k => ∃ t, atI ts i = some t ∧ k t
  | .str s, .int i, k => s.length ≤ sizeLine ∧ ∃ c, atI s.cps.toList i = some c ∧ k (.str ⟨#[c]⟩)
  | _, _, _ => False
theorem atI_rep {G : Hp} {ts : List T} {vs : List V} {i : Int} {t : T} (r : RepL G ts vs) (h : atI ts i = some t) : ∃ v, atI vs i = some v ∧ Rep G t v := by
  unfold atI at h ⊢
  rw [r.len]
  cases e : ixN ts.length i with
  | none => rw [e] at h; cases h
  | some j => rw [e] at h; exact r.getT h
theorem ixOk {K : PySem.W.Frag} : OpOk (rIx K) fIx := fun b G H σ ρ v1 v2 t1 t2 K' Q S r1 r2 h q => by
  unfold fIx at h
  split at h
  · obtain ⟨t, e, hk⟩ := h
    obtain ⟨a, vs, rfl, ha, ra⟩ := r1
    cases r2
    obtain ⟨v, e1, rv⟩ := atI_rep ra e
    exact .inl ⟨a, vs, _, v, rfl, rfl, SqL.of (S.gh _ _ ha), e1, q _ _ G H hk rv S Le.rfl⟩
  · obtain ⟨t, e, hk⟩ := h
    obtain ⟨a, vs, rfl, ha, ra⟩ := r1
    cases r2
    obtain ⟨v, e1, rv⟩ := atI_rep ra e
    exact .inr (.inl ⟨a, vs, _, v, rfl, rfl, sqR (S.gh.rd ha), e1, q _ _ G H hk rv S Le.rfl⟩)
  · obtain ⟨hz, c, e, hk⟩ := h
    cases r1; cases r2
    exact .inr (.inr ⟨_, _, c, rfl, rfl, hz, e, q _ _ G H hk rfl S Le.rfl⟩)
  · cases h
end
section
variable {E : WX} {X : XP} {ρ : Env} {te ta tb : TE} {Φ : V → T → Env → Prop} {i : Nat} {K : PySem.W.Frag}
/-- an item of a list of one's own -/
theorem wE_ixO {p : Addr} (h : (∃ Pd0, ρ[i]? = some (.o p Pd0)) ∧ wE E X tb ρ fun _ n ρ1 => ∃ (Pd : List T → Prop) (j : Nat), n = .int (j : Int) ∧ ρ1[i]? = some (.o p Pd) ∧ ∀ ts, Pd ts → ∃ t, ts[j]? = some t ∧ ∀ v, Φ v t ρ1) : wE E X (tOp (rIx K) (tVar i) tb) ρ Φ := fun b G H σ Q S q ke => by
  obtain ⟨⟨Pd0, e0⟩, h⟩ := h
  obtain ⟨_, _, a0, _⟩ := S.own i p Pd0 e0
  refine ⟨_, a0, h b G H σ _ S (fun v n ρ1 G1 H1 ⟨Pd, j, en, e, h1⟩ r1 S1 l1 => ?_) ke⟩
  subst en
  obtain ⟨ts, vs, a, hl, ng, nb, r, qq⟩ := S1.own i p Pd e
  obtain ⟨t, ht, hk⟩ := h1 ts qq
  obtain ⟨v, hv, rv⟩ := r.getT ht
  exact .inl ⟨p, vs, _, v, rfl, r1, SqL.of hl, atI_nat hv, q _ _ ρ1 G1 H1 (hk v) rv S1 l1⟩
def tTruU (K : PySem.W.Frag) (te : TE) : TT := fun σ H Q => te σ H fun x H' => ∃ k, TruV K x H' k ∧ Q k H'
/-- truth of data -/
def truT : T → Option Bool
  | .non => some false
  | .bl c => some c
  | .int i => some (i != 0)
  | .lst ts => some (!ts.isEmpty)
  | .tup ts => some (!ts.isEmpty)
  | _ => none
theorem isEmpty_rep {G : Hp} {ts : List T} {vs : List V} (r : RepL G ts vs) : vs.isEmpty = ts.isEmpty := by
  cases ts with
  | nil => rw [show _ = _ from r]; rfl
  | cons t ts => obtain ⟨v, w, rfl, _⟩ := r; rfl
theorem wT_tru {Θ : Bool → Env → Prop} (h : wE E X te ρ fun _ t ρ' => ∃ c, truT t = some c ∧ Θ c ρ') : wT E X (tTruU K te) ρ Θ := fun b G H σ Q S q ke =>
  h b G H σ _ S (fun v t ρ' G' H' ⟨c, e, h1⟩ r S' l => by
    refine ⟨c, ?_, q c ρ' G' H' h1 S' l⟩
    cases t with
    | non => cases r; cases e; rfl
    | bl d => cases r; cases e; rfl
    | int d => cases r; cases e; rfl
    | lst ts =>
      obtain ⟨a, vs, rfl, ha, ra⟩ := r
      cases e
      exact .inl ⟨vs, SqL.of (S'.gh _ _ ha), by rw [isEmpty_rep ra]⟩
    | tup ts =>
      obtain ⟨a, vs, rfl, ha, ra⟩ := r
      cases e
      exact .inr (.inl ⟨vs, sqR (S'.gh.rd ha), by rw [isEmpty_rep ra]⟩)
    | str d => cases e
    | dic _ _ => cases e
    | exc _ _ _ => cases e
    | ins _ _ _ => cases e
    | raw _ => cases e
    | frz _ _ => cases e
    | abs _ => cases e) ke
end
end TL
set_option maxHeartbeats 4000000
namespace TL
open PySem PySem.Spec PyProof.Rows L2
section
variable {E : WX} {X : XP} {ρ : Env} {te ta tb : TE} {Φ : V → T → Env → Prop} {i : Nat} {K : PySem.W.Frag}
def rLenU (K : PySem.W.Frag) : List V → Hp → VK → Prop := fun xs H Q => ∃ x n, xs = [x] ∧ LenV K x H n ∧ Q (.int n) H
theorem uLen {Y : Cx} : CallR Y (.builtin "len") (rLenU Y.K) := call_len
def fLen : List T → (T → Prop) → Prop
  | [.lst ts], k => k (.int ts.length)
  | [.tup ts], k => k (.int ts.length)
  | [.str s], k => s.length ≤ sizeLine ∧ k (.int s.length)
  | _, _ => False
theorem lenOk : CbOk (rLenU K) fLen := fun b G H σ ρ vs ts K' Q S r h q => by
  unfold fLen at h
  split at h
  · obtain ⟨v, r0, rfl, ⟨a, ws, rfl, ha, ra⟩, rfl⟩ := r
    exact ⟨_, _, rfl, .inl ⟨ws, SqL.of (S.gh _ _ ha), rfl⟩, q _ _ G H h (by rw [ra.len]; rfl) S Le.rfl⟩
  · obtain ⟨v, r0, rfl, ⟨a, ws, rfl, ha, ra⟩, rfl⟩ := r
    exact ⟨_, _, rfl, .inr ⟨ws, sqR (S.gh.rd ha), rfl⟩, q _ _ G H h (by rw [ra.len]; rfl) S Le.rfl⟩
  · obtain ⟨v, r0, rfl, r1, rfl⟩ := r
    cases r1
    exact ⟨_, _, rfl, ⟨h.1, rfl⟩, q _ _ G H h.2 rfl S Le.rfl⟩
  · cases h
def rIntU : List V → Hp → VK → Prop := fun xs H Q => (∃ i, xs = [.int i] ∧ Q (.int i) H) ∨ ∃ k, xs = [.bl k] ∧ Q (.int (if k then 1 else 0)) H
theorem uInt {Y : Cx} : CallR Y (.type "int") rIntU := call_int1
def fInt : List T → (T → Prop) → Prop
  | [.int j], k => k (.int j)
  | [.bl c], k => k (.int (if c then 1 else 0))
  | _, _ => False
theorem intOk : CbOk rIntU fInt := fun b G H σ ρ vs ts K' Q S r h q => by
  unfold fInt at h
  split at h
  · obtain ⟨v, r0, rfl, r1, rfl⟩ := r
    cases r1
    exact .inl ⟨_, rfl, q _ _ G H h rfl S Le.rfl⟩
  · obtain ⟨v, r0, rfl, r1, rfl⟩ := r
    cases r1
    exact .inr ⟨_, rfl, q _ _ G H h rfl S Le.rfl⟩
  · cases h
def rAbsU : List V → Hp → VK → Prop := fun xs H Q => ∃ i, xs = [.int i] ∧ Q (.int (if i < 0 then -i else i)) H
theorem uAbs {Y : Cx} : CallR Y (.builtin "abs") rAbsU := call_abs
def fAbs : List T → (T → Prop) → Prop
  | [.int j], k => k (.int (if j < 0 then -j else j))
  | _, _ => False
theorem absOk : CbOk rAbsU fAbs := fun b G H σ ρ vs ts K' Q S r h q => by
  unfold fAbs at h
  split at h
  · obtain ⟨v, r0, rfl, r1, rfl⟩ := r
    cases r1
    exact ⟨_, rfl, q _ _ G H h rfl S Le.rfl⟩
  · cases h
def rMaxU : List V → Hp → VK → Prop := fun xs H Q => ∃ i j, xs = [.int i, .int j] ∧ Q (.int (if j > i then j else i)) H
theorem uMax {Y : Cx} (hc : Y.calm = true) : CallR Y (.builtin "max") rMaxU := call_max2 hc
def fMax : List T → (T → Prop) → Prop
  | [.int i, .int j], k => k (.int (if j > i then j else i))
  | _, _ => False
theorem maxOk : CbOk rMaxU fMax := fun b G H σ ρ vs ts K' Q S r h q => by
  unfold fMax at h
  split at h
  · obtain ⟨v, r0, rfl, r1, w, r2, rfl, r3, rfl⟩ := r
    cases r1; cases r3
    exact ⟨_, _, rfl, q _ _ G H h rfl S Le.rfl⟩
  · cases h
def rMinU : List V → Hp → VK → Prop := fun xs H Q => ∃ i j, xs = [.int i, .int j] ∧ Q (.int (if j < i then j else i)) H
theorem uMin {Y : Cx} (hc : Y.calm = true) : CallR Y (.builtin "min") rMinU := call_min2 hc
def fMin : List T → (T → Prop) → Prop
  | [.int i, .int j], k => k (.int (if j < i then j else i))
  | _, _ => False
theorem minOk : CbOk rMinU fMin := fun b G H σ ρ vs ts K' Q S r h q => by
  unfold fMin at h
  split at h
  · obtain ⟨v, r0, rfl, r1, w, r2, rfl, r3, rfl⟩ := r
    cases r1; cases r3
    exact ⟨_, _, rfl, q _ _ G H h rfl S Le.rfl⟩
  · cases h
theorem uSum {Y : Cx} (hc : Y.calm = true) : CallR Y (.builtin "sum") (rSum Y.K) := cr_sum hc
/-- sum(a list of ints) -/
def fSum : List T → (T → Prop) → Prop := fun ts k => ∃ ns : List Int, ts = [.lst (ns.map T.int)] ∧ k (.int ns.sum)
theorem sumOk : CbOk (rSum K) fSum := fun b G H σ ρ vs ts K' Q S r h q => by
  obtain ⟨ns, rfl, hk⟩ := h
  obtain ⟨v, r0, rfl, ⟨a, ws, rfl, ha, ra⟩, rfl⟩ := r
  have e := ra.ints
  subst e
  exact ⟨a, ns, rfl, SqL.of (S.gh _ _ ha), q _ _ G H hk rfl S Le.rfl⟩
theorem uAll {Y : Cx} (hc : Y.calm = true) : CallR Y (.builtin "all") (rAll Y.K) := cr_all hc
def fAll : List T → (T → Prop) → Prop := fun ts k => ∃ ns : List Bool, ts = [.lst (ns.map T.bl)] ∧ k (.bl (ns.all id))
theorem allOk : CbOk (rAll K) fAll := fun b G H σ ρ vs ts K' Q S r h q => by
  obtain ⟨ns, rfl, hk⟩ := h
  obtain ⟨v, r0, rfl, ⟨a, ws, rfl, ha, ra⟩, rfl⟩ := r
  have e := ra.bls
  subst e
  exact ⟨a, ns, rfl, SqL.of (S.gh _ _ ha), q _ _ G H hk rfl S Le.rfl⟩
/-- list(a list | a tuple): a new list -/
def rListU (K : PySem.W.Frag) : List V → Hp → VK → Prop := fun xs H Q => ∃ p ys, xs = [.ref p] ∧ (SqL K H p ys ∨ SqT K H p ys) ∧ ∀ l, H l = none → Q (.ref l) (upd H l (.lst ys))
theorem uList {Y : Cx} : CallR Y (.type "list") (rListU Y.K) := call_list_of
theorem wF_list {t : TA} {Ψ : List T → Env → Prop} (h : wA E X t ρ fun _ xs ρ1 => ∃ ts, (xs = [.lst ts] ∨ xs = [.tup ts]) ∧ Ψ ts ρ1) : wF E X (tCB (rListU K) t) ρ Ψ := fun b G H σ Q S q ke =>
  h b G H σ _ S (fun vs xs ρ1 G1 H1 ⟨ts, hx, h1⟩ r S1 l1 => by
    have fin : ∀ {a : Addr} {ws : List V}, (SqL K H1 a ws ∨ SqT K H1 a ws) → RepL G1 ts ws → rListU K [.ref a] H1 Q := fun {a ws} hs ra => ⟨a, ws, rfl, hs, fun l hl => by
      refine q l ws ts ρ1 G1 _ h1 upd_same (S1.gh.back hl) (S1.bh.back hl) ra (fun j Qd e => ?_) (S1.le (Le.new hl)) l1
      obtain ⟨_, _, _, h2, _⟩ := S1.own j l Qd e
      rw [hl] at h2; cases h2⟩
    rcases hx with rfl | rfl
    · obtain ⟨v, r0, rfl, ⟨a, ws, rfl, ha, ra⟩, rfl⟩ := r
      exact fin (.inl (SqL.of (S1.gh _ _ ha))) ra
    · obtain ⟨v, r0, rfl, ⟨a, ws, rfl, ha, ra⟩, rfl⟩ := r
      exact fin (.inr (sqR (S1.gh.rd ha))) ra) ke
/-- tuple(a list | a tuple) -/
def rTupU (K : PySem.W.Frag) : List V → Hp → VK → Prop := fun xs H Q => ∃ p ys, xs = [.ref p] ∧ ((SqL K H p ys ∧ ∀ l, H l = none → Q (.ref l) (upd H l (.tup ys))) ∨ (SqT K H p ys ∧ Q (.ref p) H))
theorem uTup {Y : Cx} : CallR Y (.type "tuple") (rTupU Y.K) := call_tuple_of
def fTup : List T → (T → Prop) → Prop
  | [.lst ts], k => k (.tup ts)
  | [.tup ts], k => k (.tup ts)
  | _, _ => False
theorem tupOk : CbOk (rTupU K) fTup := fun b G H σ ρ vs ts K' Q S r h q => by
  unfold fTup at h
  split at h
  · obtain ⟨v, r0, rfl, ⟨a, ws, rfl, ha, ra⟩, rfl⟩ := r
    refine ⟨a, ws, rfl, .inl ⟨SqL.of (S.gh _ _ ha), fun l hl => ?_⟩⟩
    have g := Grow.new (o := .tup ws) S.gh hl
    exact q _ _ _ _ h ⟨l, ws, rfl, .inl upd_same, ra.up g.g⟩ (S.grow g) g.g
  · obtain ⟨v, r0, rfl, ⟨a, ws, rfl, ha, ra⟩, rfl⟩ := r
    exact ⟨a, ws, rfl, .inr ⟨sqR (S.gh.rd ha), q _ _ G H h ⟨a, ws, rfl, ha, ra⟩ S Le.rfl⟩⟩
  · cases h
def rSlU (K : PySem.W.Frag) : V → Option Int → Option Int → Hp → VK → Prop := fun x lo hi H Q => rSlL K x lo hi H Q ∨ (rSlA K x lo hi H Q ∨ rSlS x lo hi H Q)
theorem uSl {Y : Cx} : SlR Y (rSlU Y.K) := sl_list.or (sl_tupA.or sl_str)
def wO (E : WX) (X : XP) (to : TO) (ρ : Env) (Φ : Option Int → Env → Prop) : Prop := ∀ (b : Bs) (G H : Hp) (σ : L2.St) (Q : Option Int → Hp → Prop), Sta b G H σ ρ → (∀ o ρ' G' H', Φ o ρ' → Sta b G' H' σ ρ' → Le G G' → Q o H') → KErr E X b G σ → to σ H Q
theorem wO_none {Φ : Option Int → Env → Prop} (h : Φ none ρ) : wO E X tNoPart ρ Φ := fun b G H σ Q S q _ => q none ρ G H h S Le.rfl
theorem wO_some {Φ : Option Int → Env → Prop} (h : wE E X te ρ fun _ t ρ1 => ∃ n, t = .int n ∧ Φ (some n) ρ1) : wO E X (tPart te) ρ Φ := fun b G H σ Q S q ke =>
  h b G H σ _ S (fun v t ρ1 G1 H1 ⟨n, e, h1⟩ r S1 l1 => by subst e; exact ⟨n, r, q _ ρ1 G1 H1 h1 S1 l1⟩) ke
def cutT {α : Type} (xs : List α) (lo hi : Option Int) : List α := (xs.drop (HT.sIx xs.length 0 lo)).take (HT.sIx xs.length xs.length hi - HT.sIx xs.length 0 lo)
theorem cut_rep {G : Hp} {ts : List T} {vs : List V} (r : RepL G ts vs) (lo hi : Option Int) : RepL G (cutT ts lo hi) (cutV vs lo hi) := by
  unfold cutT cutV
  rw [r.len]
  exact (r.drop _).take _
def fSl : T → Option Int → Option Int → (T → Prop) → Prop
  | .lst ts, lo, hi, k => k (.lst (cutT ts lo hi))
  | .tup ts, lo, hi, k => k (.tup (cutT ts lo hi))
  | .str s, lo, hi, k => s.length ≤ sizeLine ∧ k (.str (cutS s lo hi))
  | _, _, _, _ => False
theorem cut_whole {α : Type} {xs : List α} {lo hi : Option Int} (h : HT.sIx xs.length 0 lo = 0 ∧ HT.sIx xs.length xs.length hi = xs.length) : cutT xs lo hi = xs := by
  unfold cutT
  rw [h.1, h.2, List.drop_zero, Nat.sub_zero, List.take_length]
theorem wE_sl {tl th : TO} (h : wE E X te ρ fun _ x ρ1 => wO E X tl ρ1 fun lo ρ2 => wO E X th ρ2 fun hi ρ3 => fSl x lo hi fun z => ∀ v, Φ v z ρ3) : wE E X (tSl (rSlU K) te tl th) ρ Φ := fun b G H σ Q S q ke =>
  h b G H σ _ S (fun v x ρ1 G1 H1 h1 r1 S1 l1 => h1 b G1 H1 σ _ S1 (fun lo ρ2 G2 H2 h2 S2 l2 => h2 b G2 H2 σ _ S2 (fun hi ρ3 G3 H3 h3 S3 l3 => by
    have r3 := (r1.up l2).up l3
    have l : Le G G3 := (l1.tr l2).tr l3
    have h3 : fSl x lo hi (fun z => ∀ v, Φ v z ρ3) := h3
    cases x with
    | lst ts =>
      obtain ⟨a, ws, rfl, ha, ra⟩ := r3
      refine .inl ⟨a, ws, rfl, SqL.of (S3.gh _ _ ha), fun p hp => ?_⟩
      have g := Grow.new (o := .lst (cutV ws lo hi)) S3.gh hp
      exact q _ _ ρ3 _ _ (h3 _) ⟨p, _, rfl, upd_same, (cut_rep ra lo hi).up g.g⟩ (S3.grow g) (l.tr g.g)
    | tup ts =>
      obtain ⟨a, ws, rfl, ha, ra⟩ := r3
      refine .inr (.inl ⟨a, ws, rfl, sqR (S3.gh.rd ha), fun hw => ?_, fun _ p hp => ?_⟩)
      · rw [ra.len] at hw
        have h4 : ∀ v, Φ v (.tup (cutT ts lo hi)) ρ3 := h3
        rw [cut_whole hw] at h4
        exact q _ _ ρ3 G3 H3 (h4 _) ⟨a, ws, rfl, ha, ra⟩ S3 l
      · have g := Grow.new (o := .tup (cutV ws lo hi)) S3.gh hp
        exact q _ _ ρ3 _ _ (h3 _) ⟨p, _, rfl, .inl upd_same, (cut_rep ra lo hi).up g.g⟩ (S3.grow g) (l.tr g.g)
    | str z =>
      cases r3
      exact .inr (.inr ⟨_, rfl, h3.1, q _ _ ρ3 G3 H3 (h3.2 _) rfl S3 l⟩)
    | _ => exact h3.elim) ((ke.up l1).up l2)) (ke.up l1)) ke
end
/-- the type of data -/
def tyT : T → Value
  | .non => .type "NoneType"
  | .bl _ => .type "bool"
  | .int _ => .type "int"
  | .str _ => .type "str"
  | .lst _ => .type "list"
  | .tup _ => .type "tuple"
  | .dic _ _ => .type "dict"
  | .exc C _ _ => .ref C
  | .ins C _ _ => .ref C
  | .raw _ => .none
  | .frz _ _ => .none
  | .abs _ => .none
/-- what an own class must be -/
structure InsOk (K : PySem.W.Frag) (C : Addr) : Prop where
  cl : Cls K C
  ha : PySem.W.findIn K (.ref C) "__class__" = some (some (.builtin "object.__class__"))
  hn : PySem.W.specialIn K (.builtin "object.__class__") "__get__" = some (some (.builtin "getset_descriptor.__get__"))
  ht : PySem.W.takesIn K (.builtin "object.__class__") = some true
  hm : PySem.W.mroIn K C (.type "object") = some true
def tyOk (K : PySem.W.Frag) : T → Prop
  | .exc C _ _ => ExcOk K C
  | .ins C _ _ => InsOk K C
  | .raw _ => False
  | .frz _ _ => False
  | .abs _ => False
  | _ => True
/-- the type of a value, an exception's too -/
def TyU (K : PySem.W.Frag) (H : Hp) (v : V) (t : Value) : Prop := TyX K H v t ∨ ∃ a C d fs, v = .ref a ∧ H a = some (exo a C (some d)) ∧ H d = some (exd d fs) ∧ ExcOk K C ∧ t = .ref C
theorem ty_rep {K : PySem.W.Frag} {G H : Hp} (gh : Le G H) {t : T} {v : V} (r : Rep G t v) (h : tyOk K t) : TyU K H v (tyT t) := by
  cases t with
  | non => cases r; exact .inl (.base .non)
  | bl c => cases r; exact .inl (.base (.bl c))
  | int c => cases r; exact .inl (.base (.int c))
  | str c => cases r; exact .inl (.base (.str c))
  | lst ts => obtain ⟨a, vs, rfl, ha, _⟩ := r; exact .inl (.base (.lst (gh _ _ ha)))
  | tup ts =>
    obtain ⟨a, vs, rfl, ha, _⟩ := r
    rcases ha with ha | ⟨o, ha⟩
    · exact .inl (.base (.tup (gh _ _ ha)))
    · exact .inl (.fTuple (gh _ _ ha))
  | dic k ts => obtain ⟨a, vs, rfl, _, ha, _⟩ := r; exact .inl (.base (.dK (gh _ _ ha)))
  | exc C k ts => obtain ⟨a, d, vs, rfl, _, ha, hd, _⟩ := r; exact .inr ⟨a, C, d, _, rfl, gh _ _ ha, gh _ _ hd, h, rfl⟩
  | ins C k ts => obtain ⟨a, d, vs, rfl, _, ha, _⟩ := r; exact .inl (.base (.ins (gh _ _ ha) h.cl h.ha h.hn h.ht h.hm))
  | raw u => exact h.elim
  | frz o xs => exact h.elim
  | abs R => exact h.elim
theorem kit_u {X : Cx} {pins : List (Addr × Obj)} {σ : L2.St} {H : Hp} {s : Shared} {x : V} {u t : Value} (I : Inv X pins σ H s) (rx : RelV x u) (ty : TyU X.K H x t) :
    ∃ P : Heap → Prop, PySem.W.KitX X.K u t P ∧ P s.heap ∧ u ≠ .builtin "__main__.__loader__#opaque" := by
  rcases ty with ty | ⟨a, C, d, fs, rfl, ha, hd, T, rfl⟩
  · exact kit_of I rx ty
  · cases (show u = Value.ref a from rx)
    obtain ⟨t1, he⟩ := exo_at I.hok ha
    obtain ⟨mA, hns, _⟩ := exd_at I.hok hd
    obtain ⟨od, ho, _⟩ := lookIn_ns hns
    exact ⟨_, PySem.W.kitx_exc (od := some od) T.hcl T.ga T.gg T.oex.exC T.ha T.hn T.ht T.hm, ⟨he, rfl, rfl, ho⟩, fun z => nomatch z⟩
def rIsiU (K : PySem.W.Frag) : List V → Hp → VK → Prop := fun xs H Q => ∃ (x c : V) (t : Value) (b : Bool), xs = [x, c] ∧ TyU K H x t ∧ Q (.bl b) H ∧
  ((∃ u, ClsV c u ∧ PySem.W.kitOne K t u = some b) ∨ ∃ tp cs us, c = .ref tp ∧ Rd H tp (.tup cs) ∧ Paired ClsV cs us ∧ PySem.W.kitAny K t us = some b)
theorem uIsi {Y : Cx} : CallR Y (.builtin "isinstance") (rIsiU Y.K) := by
  intro pins s σ H xs us Q I r h
  obtain ⟨x, c, t, b, rfl, ty, q, h⟩ := h
  obtain ⟨u1, u2, rfl, r1, r2⟩ := vals2 r
  obtain ⟨P, Z, p, hx⟩ := kit_u I r1 ty
  rcases h with ⟨u, k, e⟩ | ⟨tp, cs, ws, rfl, hT, k, e⟩
  · have e2 := k.eq r2
    subst e2
    exact PySem.W.kia_one Z I.kIn p e hx fun tk => ⟨.bl b, H, I.tok tk, rfl, q⟩
  · cases (show u2 = Value.ref tp from r2)
    obtain ⟨_, its, rv, o, h1, h2, n, h3⟩ := (show ObjOk Y.prog Y.w H s.heap tp (.tup cs) from hT.ok I.hok)
    have e3 := ClsV.all k rv
    subst e3
    obtain ⟨oc, od, dt, sl⟩ := o
    simp only at h2 h3
    subst h2 h3
    exact PySem.W.kia_tup Z I.kIn p h1 e hx fun tk => ⟨.bl b, H, I.tok tk, rfl, q⟩
/-- classes as data -/
def ClsT : T → Value → Prop
  | .raw c, u => ClsV c u
  | _, _ => False
def fIsi (K : PySem.W.Frag) : List T → (T → Prop) → Prop := fun ts k => ∃ x c b, ts = [x, c] ∧ tyOk K x ∧ k (.bl b) ∧
  ((∃ u, ClsT c u ∧ PySem.W.kitOne K (tyT x) u = some b) ∨ ∃ cs us, c = .tup cs ∧ Paired ClsT cs us ∧ PySem.W.kitAny K (tyT x) us = some b)
theorem cls_rep {G : Hp} {c : T} {v : V} {u : Value} (r : Rep G c v) (h : ClsT c u) : ClsV v u := by
  cases c with
  | raw w => cases r; exact h
  | _ => exact h.elim
theorem clsL_rep {G : Hp} : ∀ {cs : List T} {vs : List V} {us : List Value}, RepL G cs vs → Paired ClsT cs us → Paired ClsV vs us
  | [], _, _, r, h => by cases h; rw [show _ = _ from r]; exact .nil
  | c :: cs, _, _, ⟨v, w, e, r1, r2⟩, h => by
    cases h with
    | cons h1 h2 => rw [e]; exact .cons (cls_rep r1 h1) (clsL_rep r2 h2)
theorem isiOk {K : PySem.W.Frag} : CbOk (rIsiU K) (fIsi K) := fun b G H σ ρ vs ts K' Q S r h q => by
  obtain ⟨x, c, bb, rfl, ok, hk, h⟩ := h
  obtain ⟨v, r0, rfl, r1, w, r2, rfl, r3, rfl⟩ := r
  refine ⟨v, w, _, bb, rfl, ty_rep S.gh r1 ok, q _ _ G H hk rfl S Le.rfl, ?_⟩
  rcases h with ⟨u, k, e⟩ | ⟨cs, us, rfl, k, e⟩
  · exact .inl ⟨u, cls_rep r3 k, e⟩
  · obtain ⟨a, ws, rfl, ha, ra⟩ := r3
    exact .inr ⟨a, ws, us, rfl, S.gh.rd ha, clsL_rep ra k, e⟩
/-- built-in classes: which is which, by the table of the language -/
def isTy (x : T) (n : String) : Bool := match tyT x with
  | .type m => m == n || (m == "bool" && n == "int")
  | _ => false
def tys : List String := ["NoneType", "bool", "int", "str", "list", "tuple", "dict"]
def tysC : List String := ["bool", "int", "str", "list", "tuple", "dict"]
theorem tys_kit : (tys.all fun m => tysC.all fun n => decide (kitB m n = some (m == n || (m == "bool" && n == "int")))) = true := by decide +kernel
theorem kit_isTy {K : PySem.W.Frag} {x : T} {n : String} (hn : n ∈ tysC) (h : ∃ m, m ∈ tys ∧ tyT x = .type m) : PySem.W.kitOne K (tyT x) (.type n) = some (isTy x n) := by
  obtain ⟨m, hm, e⟩ := h
  have q := List.all_eq_true.mp (List.all_eq_true.mp tys_kit m hm) n hn
  unfold isTy
  rw [e]
  exact kit_ty (of_decide_eq_true q)
end TL
set_option maxHeartbeats 4000000
namespace TL
open PySem PySem.Spec PyProof.Rows L2
def mkF (names : List Str) (vs : List V) : List (Str × V) := names.reverse.zip vs.reverse
def spIni (C : Addr) (names : List Str) : Sp := fun vs H Q _ => ∃ a ys, vs = .ref a :: ys ∧ ys.length = names.length ∧ H a = some (exo a C none) ∧
  ∀ d H', H d = none → d ≠ a → H' a = some (exo a C (some d)) → H' d = some (exd d (mkF names ys)) → (∀ b, b ≠ a → b ≠ d → H' b = H b) → Q .non H'
theorem ini1 {K : PySem.W.Frag} {C : Addr} {f : Str} (T : ExcOk K C) (hf : PySem.W.findIn K (.ref C) f = some none) {N : List Str} (hN : N.length = 2) {vs : List V} {H : Hp} {Q : VK} {E : XK} (h : spIni C [f] vs H Q E) :
    tOst K f (tVar 0) (tVar 1) { nx := fun _ H' => Q .non H', rt := Q } (L2.start N vs) H := by
  obtain ⟨a, ys, rfl, hl, ha, k⟩ := h
  match ys, hl with
  | [y], _ =>
    have e : L2.start N [V.ref a, y] = [some (V.ref a), some y] := by
      unfold L2.start
      rw [hN]
      rfl
    rw [e]
    refine ⟨y, rfl, V.ref a, rfl, a, C, rfl, T.oex, hf, .inl ⟨ha, fun dx hd hda => ?_⟩⟩
    exact k dx _ hd hda upd_same (by rw [upd_ne hda, upd_same]; rfl) fun b h1 h2 => by rw [upd_ne h1, upd_ne h2]
def tRaiseO (C : Addr) (sp : Sp) (ta : TA) (W : WX) : TS := fun _ σ H => tMkO C sp [] ta σ H fun cls d H' => W cls d σ H'
section
variable {E : WX} {X : XP} {ρ : Env} {te ta tb : TE} {Φ : V → T → Env → Prop} {i : Nat} {K : PySem.W.Frag} {P : Post}
theorem wS_raise {C : Addr} {names : List Str} {t : TA} (h : wA E X t ρ fun vs ts ρ1 => vs.length = names.length ∧ names.length ≤ 1000 ∧ X ⟨C, some (mkF names vs)⟩ ρ1) : wS E X (tRaiseO C (spIni C names) t E) ρ P := fun b G H σ D S k ke =>
  h b G H σ _ S (fun vs ts ρ1 G1 H1 ⟨h0, hz, h1⟩ r1 S1 l1 => ⟨by rw [h0]; exact hz, fun a ha => ⟨a, vs, by rw [List.append_nil], h0, upd_same, fun d H' hd hda e1 e2 e3 => ⟨rfl, d, mkF names vs, e1, e2, by rw [upd_ne hda] at hd; exact hd, by
    rw [upd_ne hda] at hd
    have e : upd (del H' a) d (.xd (mkF names vs)) = upd H1 d (.xd (mkF names vs)) := by
      funext b
      by_cases z : b = d
      · rw [z, upd_same, upd_same]
      · rw [upd_ne z, upd_ne z]
        by_cases y : b = a
        · rw [y, del_same, ha]
        · rw [del_ne y, e3 b y z, upd_ne y]
    rw [e]
    exact ke σ ⟨C, some (mkF names vs)⟩ ρ1 (some d) G1 _ h1 ⟨d, rfl, upd_same⟩ (S1.le (Le.new hd)) l1⟩⟩⟩) (ke σ)
abbrev Cl := Value × Option Nat × (Addr → Value → Option Addr → TS)
/-- behind a clause with a name the name is gone -/
def endsBut (i : Nat) (D : Ends) : Ends := { nx := fun σ H => D.nx (σ.set i none) H, rt := D.rt, bk := fun σ H => D.bk (σ.set i none) H, ct := fun σ H => D.ct (σ.set i none) H }
def suiteOf (c : Cl) (a : Addr) (cls : Value) (d : Option Addr) : TS := fun D σ H => match c.2.1 with
  | none => c.2.2 a cls d D σ H
  | some i => c.2.2 a cls d (endsBut i D) (σ.set i (some (.ref a))) H
def wMA (K : PySem.W.Frag) (Wout : WX) (D : Ends) : List Cl → WX
  | [] => Wout
  | c :: r => fun cls d σ H => ∃ b, PySem.W.exmOne K cls c.1 = some b ∧ (b = true → ∀ a, H a = none → suiteOf c a cls d D σ H) ∧ (b = false → wMA K Wout D r cls d σ H)
def tTryA (K : PySem.W.Frag) (Wout : WX) (l : List Cl) (tb : WX → TS) : TS := fun D σ H => tb (wMA K Wout D l) D σ H
def wSuite (c : Cl) (er : Er) (ρ : Env) (P : Post) : Prop := ∀ (a : Addr) (od : Option Addr) (b : Bs) (G H : Hp) (σ : L2.St) (D : Ends), Sta b G H σ ρ → ErAt H od er.fs → H a = none → KEnds D P b G → suiteOf c a (.ref er.C) od D σ H
def wH (K : PySem.W.Frag) (X : XP) (P : Post) (er : Er) (ρ : Env) : List Cl → Prop
  | [] => X er ρ
  | c :: r => ∃ b, PySem.W.exmOne K (.ref er.C) c.1 = some b ∧ (b = true → wSuite c er ρ P) ∧ (b = false → wH K X P er ρ r)
theorem wS_try {l : List Cl} {tb : WX → TS} (X' : XP) (hb : ∀ W, wS W X' (tb W) ρ P) (hh : ∀ er ρ', X' er ρ' → wH K X P er ρ' l) : wS E X (tTryA K E l tb) ρ P := fun b G H σ D S k ke => by
  refine hb _ b G H σ D S k fun σ1 er ρ1 od G1 H1 x a S1 l1 => ?_
  have go : ∀ (l : List Cl), wH K X P er ρ1 l → wMA K E D l (.ref er.C) od σ1 H1 := by
    intro l
    induction l with
    | nil => intro h; exact ke σ1 er ρ1 od G1 H1 h a S1 l1
    | cons c r ih =>
      rintro ⟨bb, e, h1, h2⟩
      exact ⟨bb, e, fun hb a0 ha0 => h1 hb a0 od b G1 H1 σ1 D S1 a ha0 (k.up l1), fun hb => ih (h2 hb)⟩
  exact go l (hh er ρ1 x)
theorem wSuite_plain {c : Value} {t : TS} {er : Er} (h : wS E00 X00 t ρ P) : wSuite (c, none, fun _ _ _ => t) er ρ P := fun a od b G H σ D S _ _ k => h b G H σ D S k fun _ => kerr00
end
end TL
set_option maxHeartbeats 4000000
namespace TL
open PySem PySem.Spec PyProof.Rows L2
inductive ClsOk (X : Cx) : List ExceptHandler → List Cl → Prop
  | nil : ClsOk X [] []
  | plain {x : Str} {c : Value} {ts : Addr → Value → Option Addr → TS} {b₀ : Stmt} {suite : List Stmt} {np pos' : Pos} {hds : List ExceptHandler} {l : List Cl} (hc : Names X x c)
      (hsu : ∀ (a : Addr) (oe : Obj) (cls : Value) (d : Option Addr) (pn : List (Addr × Obj)), Zc cls d oe → (∃ vs, oe.data = .fields vs) → PSs (X.suite a ((a, oe) :: pn)) (b₀ :: suite) (ts a cls d)) (r : ClsOk X hds l) :
      ClsOk X (.ExceptHandler (some (.Name x np)) none (b₀ :: suite) pos' :: hds) ((c, none, ts) :: l)
  | named {x n : Str} {i : Nat} {c : Value} {ts : Addr → Value → Option Addr → TS} {b₀ : Stmt} {suite : List Stmt} {np pos' : Pos} {hds : List ExceptHandler} {l : List Cl} (hc : Names X x c) (hi : X.N[i]? = some n) (hln : X.env.kindOf n = some .local)
      (hsu : ∀ (a : Addr) (oe : Obj) (cls : Value) (d : Option Addr) (pn : List (Addr × Obj)), Zc cls d oe → (∃ vs, oe.data = .fields vs) → PSs (X.suite a ((a, oe) :: pn)) (b₀ :: suite) (ts a cls d)) (r : ClsOk X hds l) :
      ClsOk X (.ExceptHandler (some (.Name x np)) (some n) (b₀ :: suite) pos' :: hds) ((c, some i, ts) :: l)
theorem ps_tryA {X : Cx} {body : List Stmt} {h₀ : ExceptHandler} {hds : List ExceptHandler} {l : List Cl} {pos : Pos} {tb : WX → TS} {Wout : WX} (hs : X.stack = X.env :: X.outer) (hf : X.env.frame = some X.env.locals) (hN : X.N.Nodup) (tk : Takes X Wout)
    (hb : ∀ (W : WX) (pn : List (Addr × Obj)) (xe : Value → Shared → Prop), Takes (X.tr pn xe) W → PassesOwn (model X.prog X.w) X.A X.env xe → PSs (X.tr pn xe) body (tb W))
    (hh : ClsOk X (h₀ :: hds) l) : PS X (.Try body (h₀ :: hds) [] [] pos) (tTryA X.K Wout l tb) := by
  refine ⟨fun pins s σ H D I h => ?_⟩
  have ok := I.ok
  have hfr : X.A.frames = some (X.env :: X.outer) := by rw [ok.frames, hs]
  refine wpAny_Try_except (wpAny_mono ((hb (wMA X.K Wout D l) (X.pn ++ pins) (fun e s₁ => wpAny (model X.prog X.w) X.A (noteFrame e X.env) (fun _ s₂ => wpAny (model X.prog X.w) X.A (setFlight e none) (fun _ s₃ =>
    wpAny (model X.prog X.w) X.A (handleBy e X.env (h₀ :: hds)) (SP X pins D) X.xe s₃) X.xe s₂) X.xe s₁) (fun u s' xx => ?_) PassesOwn.looking).run [] s σ H D (I.toTry _) h) (fun f s1 hsp => ?_) (fun e s1 he => he))
  · obtain ⟨a, B, sI, pins', σ', H', cls, d, rfl, J', nb, up, sky, na, os, ag, w⟩ := xx
    have J : Inv X pins σ' H' sI := J'.ofTry ok
    have sky' : Sky B (X.env :: X.outer) a (Zc cls d) X.env.locals s'.heap := by rw [← hs]; exact sky
    show wpAny (model X.prog X.w) X.A (noteFrame (.ref a) X.env) _ _ _
    refine Sky.land Zc.steady hfr hf sky' fun h3 fl3 up3 => ?_
    have J3 : Inv X pins σ' H' { s' with heap := h3 } := J.landed nb fl3.1 (up.trans up3) os ag
    obtain ⟨oe3, vs3, he3, hz3, hd3⟩ := fl3.there
    have nfr : a ∉ frs (X.env :: X.outer) := fun hm => by
      obtain ⟨_, o', e', hnf⟩ := fl3.2.2.1.mem hm
      rw [he3] at e'
      cases e'
      exact hnf _ hd3
    have nL : a ≠ X.env.locals := fun z => nfr (List.mem_filterMap.mpr ⟨X.env, List.mem_cons_self, by rw [hf, z]⟩)
    have nF : a ∉ X.fs := fun hm => by
      obtain ⟨e, he, q⟩ := List.mem_filterMap.mp hm
      exact nfr (List.mem_filterMap.mpr ⟨e, List.mem_cons_of_mem _ he, q⟩)
    have S3 := J3.suite he3 hd3 na nL nF
    have LT : PySem.W.Looks (model X.prog X.w) h3 (typeOf (.ref a)) cls := fun A Q E s k q => wpAny_typeOf_ref (k _ _ he3) (by rw [hz3.1]; exact q)
    have test : ∀ {x : Str} {c : Value} {np : Pos} {Q : Value → Shared → Prop} {E : Value → Shared → Prop}, Names X x c → Q c { s' with heap := h3 } → wpAny (model X.prog X.w) (X.A.mark (some (.ref a))) (eval (.Name x np) X.env) Q E { s' with heap := h3 } := fun {x c np Q E} hc q => by
      obtain ⟨hg, hdbg, hm | ⟨hm, hv, hnn⟩⟩ := hc
      · exact ld_glob (X := X.suite a ((a, oe3) :: (X.pn ++ pins))) S3 hg hm q hdbg
      · exact ld_blt (X := X.suite a ((a, oe3) :: (X.pn ++ pins))) S3 hg hm hv q hnn hdbg
    have go : ∀ {hds' : List ExceptHandler} {l' : List Cl}, ClsOk X hds' l' → wMA X.K Wout D l' cls d σ' H' → wpAny (model X.prog X.w) X.A (handleBy (.ref a) X.env hds') (SP X pins D) X.xe { s' with heap := h3 } := by
      intro hds' l' hk
      induction hk with
      | nil =>
        intro w
        refine wpAny_handleBy_nil ?_
        obtain ⟨k1, k2, k3, oe, vs, T, oT, ts', he, hz, hd, h1, hr⟩ := id fl3
        unfold PySem.passOn
        refine wpAny_bind (wpAny_field he hd h1 ?_)
        rw [if_neg (show ¬ ((Value.ref T == Value.none) = true) from by simp)]
        have fin : wpAny (model X.prog X.w) X.A (setFlight (.ref a) X.env.frame) (fun _ s4 => wpAny (model X.prog X.w) X.A (throw (.ref a) : Sem Flow) (SP X pins D) X.xe s4) X.xe { s' with heap := h3 } := by
          rw [hf]
          refine HandSPX.setFlight_upZ fl3 fun h4 hh4 up4 => wpAny_throw (tk _ _ ?_)
          exact ⟨a, B, sI, pins, σ', H', cls, d, rfl, J, nb, (up.trans up3).trans up4, .inr (.inr (by rw [hs]; exact hh4)), na, os, ag, w⟩
        first
          | exact wpAny_bind (wpAny_pure (wpAny_bind fin))
          | exact wpAny_bind fin
      | @plain x c ts b₀ suite np pos' hds2 l2 hc hsu r ih =>
        rintro ⟨b, hb1, hyes, hno⟩
        refine wpAny_handleBy_cons (codeAny_handlers_test (test hc ((PySem.W.exm_one (M := model X.prog X.w) J3.kIn LT hb1).here ?_))) (by intro q; cases q)
        cases b with
        | true =>
          refine codeAny_handlers_suite (HandSPX.lands_againZ fl3 fun h4 fl4 up4 => ?_)
          have J4 : Inv X pins σ' H' { s' with heap := h4 } := J.landed nb fl4.1 ((up.trans up3).trans up4) os ag
          obtain ⟨oe4, vs4, he4, hz4, hd4⟩ := fl4.there
          refine wpAny_mono ((hsu a oe4 cls d (X.pn ++ pins) hz4 ⟨_, hd4⟩).run [] _ _ H' _ (J4.suite he4 hd4 na nL nF) (hyes rfl a na)) (fun f s6 hsp => ?_) (fun _ _ z => z.elim)
          cases f with
          | next => exact hsp.elim fun σ6 ⟨H6, S6, q6⟩ => ⟨_, _, S6.unsuite ok, q6⟩
          | brk => exact hsp.elim fun σ6 ⟨H6, S6, q6⟩ => ⟨_, _, S6.unsuite ok, q6⟩
          | cont => exact hsp.elim fun σ6 ⟨H6, S6, q6⟩ => ⟨_, _, S6.unsuite ok, q6⟩
          | ret u => exact hsp.elim fun v6 ⟨σ6, H6, S6, r6, q6⟩ => ⟨_, _, _, S6.unsuite ok, r6, q6⟩
        | false =>
          show wpAny _ X.A (handleBy (.ref a) X.env hds2) _ _ _
          exact ih (hno rfl)
      | @named x n i c ts b₀ suite np pos' hds2 l2 hc hi hln hsu r ih =>
        rintro ⟨b, hb1, hyes, hno⟩
        refine wpAny_handleBy_cons (codeAny_handlers_test (test hc ((PySem.W.exm_one (M := model X.prog X.w) J3.kIn LT hb1).here ?_))) (by intro q; cases q)
        cases b with
        | true =>
          refine codeAny_handlers_suite_as (HandSPX.lands_againZ fl3 fun h4 fl4 up4 => ?_)
          have J4 : Inv X pins σ' H' { s' with heap := h4 } := J.landed nb fl4.1 ((up.trans up3).trans up4) os ag
          obtain ⟨oe4, vs4, he4, hz4, hd4⟩ := fl4.there
          refine store_ok (X := X.suite a ((a, oe4) :: (X.pn ++ pins))) (v := .ref a) (J4.suite he4 hd4 na nL nF) hN hi (.inl hln) rfl (fun s5 S5 => ?_) (.inr hln)
          refine wpAny_mono ((hsu a oe4 cls d (X.pn ++ pins) hz4 ⟨_, hd4⟩).run [] s5 _ H' _ S5 (hyes rfl a na)) (fun f s6 hsp => ?_) (fun _ _ z => z.elim)
          have end_ : ∀ {σ6 : L2.St} {H6 : Hp} {Q : Shared → Prop}, Inv (X.suite a ((a, oe4) :: (X.pn ++ pins))) [] σ6 H6 s6 → (∀ s7, Inv X pins (σ6.set i none) H6 s7 → Q s7) →
              wpAny (model X.prog X.w) X.A (do bindName X.env n .none; unbindBehindTheSuite X.env n pos') (fun _ s7 => Q s7) X.xe s6 := fun {σ6 H6 Q} S6 hq => gone_ok (S6.unsuite ok) hN hi hln hq
          cases f with
          | next => exact hsp.elim fun σ6 ⟨H6, S6, q6⟩ => end_ S6 fun s7 J7 => ⟨_, _, J7, q6⟩
          | brk => exact hsp.elim fun σ6 ⟨H6, S6, q6⟩ => end_ S6 fun s7 J7 => ⟨_, _, J7, q6⟩
          | cont => exact hsp.elim fun σ6 ⟨H6, S6, q6⟩ => end_ S6 fun s7 J7 => ⟨_, _, J7, q6⟩
          | ret u => exact hsp.elim fun v6 ⟨σ6, H6, S6, r6, q6⟩ => end_ S6 fun s7 J7 => ⟨_, _, _, J7, r6, q6⟩
        | false =>
          show wpAny _ X.A (handleBy (.ref a) X.env hds2) _ _ _
          exact ih (hno rfl)
    exact go hh w
  · cases f with
    | next => exact hsp.elim fun σ' ⟨H', J', q⟩ => wpAny_execs_nil ⟨σ', H', J'.ofTry ok, q⟩
    | brk => exact hsp.elim fun σ' ⟨H', J', q⟩ => ⟨σ', H', J'.ofTry ok, q⟩
    | cont => exact hsp.elim fun σ' ⟨H', J', q⟩ => ⟨σ', H', J'.ofTry ok, q⟩
    | ret u => exact hsp.elim fun v ⟨σ', H', J', r, q⟩ => ⟨v, σ', H', J'.ofTry ok, r, q⟩
end TL
set_option maxHeartbeats 4000000
namespace TL
open PySem PySem.Spec PyProof.Rows L2
/-- two dicts of one pair each, the values ints: equal or not -/
def rEqD1 : R2 := fun x y H Q => ∃ (a b : Addr) (k k' : Key) (m n : Int), x = .ref a ∧ y = .ref b ∧ H a = some (.dK [(k, .int m)]) ∧ H b = some (.dK [(k', .int n)]) ∧ Q (.bl (decide (k' = k) && decide (m = n))) H
theorem kv1 {k : Key} {m : Int} {va : List (Key × Value)} (r : KV [(k, V.int m)] va) : ∃ t, va = [(k, .int m t)] := by
  unfold KV at r
  cases r with
  | cons h t =>
    cases t
    obtain ⟨h1, h2⟩ := h
    rename_i b
    obtain ⟨k2, v⟩ := b
    cases h1
    obtain ⟨t, e⟩ := (h2 : RelV (.int m) v)
    have e : v = .int m t := e
    exact ⟨t, by rw [e]⟩
theorem op_eq_dict1 {X : Cx} (hu : X.A.units < cLine) : OpR X (compareOp .Eq) rEqD1 := by
  intro pins s σ H x y v u Q I rx ry h
  obtain ⟨a, b, k, k', m, n, rfl, rfl, ea, eb, q⟩ := h
  obtain rfl : v = Value.ref a := rx
  obtain rfl : u = Value.ref b := ry
  obtain ⟨_, ya, va, ra, da⟩ := (show ObjOk X.prog X.w H s.heap a (.dK _) from I.hok a _ ea)
  obtain ⟨_, yb, vb, rb, db⟩ := (show ObjOk X.prog X.w H s.heap b (.dK _) from I.hok b _ eb)
  obtain ⟨t, rfl⟩ := kv1 ra
  obtain ⟨t', rfl⟩ := kv1 rb
  refine PySem.W.keq_eq (knd := mixKind X.prog X.w) (r := decide (k' = k) && decide (m = n)) ya yb da db hu (fun _ => ?_) (fin_bl I q (by simp))
  by_cases e : k' = k
  · subst e
    have := PySem.W.KeqHits.hit (A := X.A.in1) (s := s) (kb := [(k', Value.int n t')]) (k := k') (v := .int m t) (y := .int n t') (r := []) (by simp [valueAt]) (SeqAt.EqAt.int_int m t n t') .nil
    have e2 : ((m == n) && true) = (decide (k' = k') && decide (m = n)) := by
      rw [decide_eq_true rfl, Bool.true_and, Bool.and_true]
      rfl
    rw [e2] at this
    exact this
  · rw [decide_eq_false e, Bool.false_and]
    exact .miss (by simp [valueAt, e])
end TL
set_option maxHeartbeats 4000000
namespace TL
open PySem PySem.Spec PyProof.Rows L2
def rEqQ (K : PySem.W.Frag) : R2 := fun x y H Q => rEqU K x y H Q ∨ (rEqD1 x y H Q ∨ (rEqL K x y H Q ∨ (rEqT K x y H Q ∨ rEqM K x y H Q)))
theorem uEqQ {X : Cx} (hu : X.A.units + 64 < cLine) : OpR X (compareOp .Eq) (rEqQ X.K) := (uEq hu).or ((op_eq_dict1 (Nat.lt_of_le_of_lt (Nat.le_add_right _ _) hu)).or ((op_eqL (Nat.lt_of_le_of_lt (Nat.le_add_right _ _) hu)).or ((op_eqT (Nat.lt_of_le_of_lt (Nat.le_add_right _ _) hu)).or (op_eqM (Nat.lt_of_le_of_lt (Nat.le_add_right _ _) hu)))))
def fEqQ : T → T → (T → Prop) → Prop
  | .dic [k] [.int n], .dic [k'] [.int n'], c => c (.bl (decide (k' = k) && decide (n = n')))
  | x, y, c => fEq x y c
theorem eqQOk {K : PySem.W.Frag} : OpOk (rEqQ K) fEqQ := fun b G H σ ρ v1 v2 t1 t2 K' Q S r1 r2 h q => by
  unfold fEqQ at h
  split at h
  · obtain ⟨a, vs, rfl, _, ha, ⟨v, w, rfl, e1, e2⟩⟩ := r1
    obtain ⟨a', vs', rfl, _, ha', ⟨v', w', rfl, e1', e2'⟩⟩ := r2
    cases e1; cases e1'; subst e2; subst e2'
    exact .inr (.inl ⟨a, a', _, _, _, _, rfl, rfl, S.gh _ _ ha, S.gh _ _ ha', q _ _ G H h rfl S Le.rfl⟩)
  · exact eqOk b G H σ ρ v1 v2 t1 t2 K' (fun u H' => Q u H') S r1 r2 h q |> .inl
end TL
set_option maxHeartbeats 4000000
namespace TL
open PySem PySem.Spec PyProof.Rows L2
def ByNs (K : PySem.W.Frag) (mg : Str → Option Value) : Prop := ∃ h : Heap, K.In h ∧ h.Ns mainGlobals mg
section
variable {K : PySem.W.Frag} {mg : Str → Option Value} {fa : List He.Fa} {fn : List He.DefD}
theorem ByNs.gl (W : ByNs K mg) (c : He.SaysD fa fn K) (i : Nat) {x : Str} (h : fa[i]? = some (.glo x)) : mg x = some (.ref (He.ga K x)) := let ⟨_, X, G⟩ := W; He.glo_ok X G (c.fact i h)
theorem ByNs.fr (W : ByNs K mg) (c : He.SaysD fa fn K) (i : Nat) {x : Str} (h : fa[i]? = some (.free x)) : mg x = none := let ⟨_, X, G⟩ := W; He.free_ok X G (c.fact i h)
theorem ByNs.int (W : ByNs K mg) (c : He.SaysD fa fn K) (i : Nat) {x : Str} {n : Int} (h : fa[i]? = some (.int x n)) : ∃ t, mg x = some (.int n t) := let ⟨_, X, G⟩ := W; He.int_ok X G (c.fact i h)
end
abbrev rNegU : V → Hp → VK → Prop := rU fun i => .int (-i)
theorem uNeg {X : Cx} : UnR X (unaryOp .USub) rNegU := un_neg
def fNeg : T → (T → Prop) → Prop
  | .int i, k => k (.int (-i))
  | _, _ => False
theorem negOk : UnOk rNegU fNeg := fun b G H σ ρ v1 t1 K' Q S r1 h q => by
  unfold fNeg at h
  split at h
  · cases r1
    exact ⟨_, rfl, q _ _ G H h rfl S Le.rfl⟩
  · cases h
theorem ipOk {g : Int → Int → Int} : OpOk (ipI g) (fI0 fun i j => .int (g i j)) := fun b G H σ ρ v1 v2 t1 t2 K' Q S r1 r2 h q => by
  unfold fI0 at h
  split at h
  · cases r1; cases r2
    exact ⟨_, _, rfl, rfl, q _ _ G H h rfl S Le.rfl⟩
  · cases h
theorem sP_len {pre : List T → Prop} {post : List T → T → Prop} {xc : List V → List T → Er → Prop} {n : Nat} (h : ∀ ts, pre ts → ts.length = n) : ∀ vs H Q E, sP pre post xc vs H Q E → vs.length = n := fun vs H Q E ⟨ts, G, r, _, hp, _⟩ => by rw [r.len]; exact h ts hp
theorem sF_len {pre : List T → Prop} {post : List T → List T → Prop} {xc : List V → List T → Er → Prop} {n : Nat} (h : ∀ ts, pre ts → ts.length = n) : ∀ vs H Q E, sF pre post xc vs H Q E → vs.length = n := fun vs H Q E ⟨ts, G, r, _, hp, _⟩ => by rw [r.len]; exact h ts hp
theorem sO_len {ι : Type} {Pa Pb : ι → List T → Prop} {pre : List T → Prop} {post : List T → T → Prop} {xc : List V → List T → Er → Prop} {n : Nat} (h : ∀ ts, pre ts → ts.length = n) : ∀ vs H Q E, sO Pa Pb pre post xc vs H Q E → vs.length = n + 1 := fun vs H Q E ⟨_, p, bs, bv, us, ts, G, e, _, _, _, _, r, _, hp, _⟩ => by rw [e, List.length_cons, r.len, h ts hp]
end TL
set_option maxHeartbeats 4000000
namespace TL
open PySem PySem.Spec PyProof.Rows L2
def exMkB (x : Str) (fs : List Str) (K : PySem.W.Frag) : Bool := excOkB K (He.ga K x) && fs.all (fun f => decide (PySem.W.findIn K (.ref (He.ga K x)) f = some none)) &&
  decide (PySem.W.findIn K (.ref (He.ga K x)) "__init__" = some (some (.ref (He.fAd K (x, some "__init__"))))) && decide (PySem.W.typeIn K (.ref (He.fAd K (x, some "__init__"))) = some (.type "function"))
structure ExMk (K : PySem.W.Frag) (x : Str) (fs : List Str) : Prop where
  ok : ExcOk K (He.ga K x)
  nof : ∀ f ∈ fs, PySem.W.findIn K (.ref (He.ga K x)) f = some none
  iC : PySem.W.findIn K (.ref (He.ga K x)) "__init__" = some (some (.ref (He.fAd K (x, some "__init__"))))
  tI : PySem.W.typeIn K (.ref (He.fAd K (x, some "__init__"))) = some (.type "function")
theorem exMk_of {K : PySem.W.Frag} {x : Str} {fs : List Str} (h : exMkB x fs K = true) : ExMk K x fs := by
  unfold exMkB at h
  simp only [Bool.and_eq_true, decide_eq_true_eq, List.all_eq_true] at h
  exact ⟨excOkB_ok h.1.1.1, h.1.1.2, h.1.2, h.2⟩
def clsB (x : Str) (K : PySem.W.Frag) : Bool := tysC.all (fun m => decide (PySem.W.kitOne K (.ref (He.ga K x)) (.type m) = some false)) && tys.all (fun m => decide (PySem.W.kitOne K (.type m) (.ref (He.ga K x)) = some false)) &&
  decide (PySem.W.kitOne K (.ref (He.ga K x)) (.ref (He.ga K x)) = some true)
structure ClsIs (K : PySem.W.Frag) (x : Str) : Prop where
  ct : ∀ m ∈ tysC, PySem.W.kitOne K (.ref (He.ga K x)) (.type m) = some false
  tc : ∀ m ∈ tys, PySem.W.kitOne K (.type m) (.ref (He.ga K x)) = some false
  cc : PySem.W.kitOne K (.ref (He.ga K x)) (.ref (He.ga K x)) = some true
theorem clsIs_of {K : PySem.W.Frag} {x : Str} (h : clsB x K = true) : ClsIs K x := by
  unfold clsB at h
  simp only [Bool.and_eq_true, decide_eq_true_eq, List.all_eq_true] at h
  exact ⟨h.1.1, h.1.2, h.2⟩
def exmB (x y : Str) (c : Bool) (K : PySem.W.Frag) : Bool := decide (PySem.W.exmOne K (.ref (He.ga K x)) (.ref (He.ga K y)) = some c)
theorem exm_of {K : PySem.W.Frag} {x y : Str} {c : Bool} (h : exmB x y c K = true) : PySem.W.exmOne K (.ref (He.ga K x)) (.ref (He.ga K y)) = some c := of_decide_eq_true h
/-- such a class, its __init__ proved -/
structure OkI (P : Program) (w : World) (K : PySem.W.Frag) (mg : Str → Option Value) (base : Heap) (j : Nat) (x : Str) (ps names : List Str) : Prop where
  gl : mg x = some (.ref (He.ga K x))
  em : ExMk K x names
  ex : ∃ fd : FuncData, FnOk P w K mg base (L2.CX P w) j (He.fAd K (x, some "__init__")) fd ps (spIni (He.ga K x) names) ∧ Binds K fd ps []
theorem spIni_len {C : Addr} {names : List Str} : ∀ vs H Q E, spIni C names vs H Q E → vs.length = names.length + 1 := fun vs H Q E ⟨a, ys, e, h, _⟩ => by rw [e, List.length_cons, h]
theorem okI1 {P : Program} {w : World} {K : PySem.W.Frag} {mg : Str → Option Value} {base : Heap} {x qual : Str} {params : Arguments} {scope : Scope} {kws : List (Str × V)} {fd : FuncData} {n0 n1 f : Str} {p p1 p2 p3 : Pos}
    (gl : mg x = some (.ref (He.ga K x))) (mk : ExMk K x [f]) (F : FunD K "__init__" qual params [.Assign [.Attribute (.Name n0 p1) f p2] (.Name n1 p3) p] scope [] kws (He.fAd K (x, some "__init__")) fd) (S : FnScope [n0, n1] [n0, n1] scope)
    (h0 : scope.names.lookup n0 = some .local) (h1 : scope.names.lookup n1 = some .local) (d0 : (n0 == ("__debug__" : Str)) = false ∧ (n0 == ("__classdict__" : Str)) = false) (d1 : (n1 == ("__debug__" : Str)) = false ∧ (n1 == ("__classdict__" : Str)) = false)
    (hb : ∀ (kV doc pm : Value) (an : Option Addr) (cdv ct : Value) (us : List Value), us.length = [n0, n1].length → bindArgs (PySem.W.fnOf "__init__" qual params [.Assign [.Attribute (.Name n0 p1) f p2] (.Name n1 p3) p] scope .none kV doc pm an cdv ct) ⟨us, []⟩ = pure ([n0, n1].zip us)) : OkI P w K mg base 1 x [n0, n1] [f] := by
  refine ⟨gl, mk, fd, F.ok S spIni_len (fun cdv A outer s H vs Q E hr h => ⟨tOst K f (tVar 0) (tVar 1), ?_, ini1 mk.ok (mk.nof f (List.mem_cons_self ..)) rfl h⟩), F.bindsN hb⟩
  exact pss_one (ps_ost (pe_var (i := 0) rfl (.inl h0) d0.1 d0.2) (pe_var (i := 1) rfl (.inl h1) d1.1 d1.2) rfl)
section
variable {X : Cx} {j : Nat} {x : Str} {p pos : Pos} {e : Expr} {es : List Expr} {t : TA} {ps names : List Str} {W : WX}
theorem ps_raiseI {posr : Pos} (hc : X.calm = true) (D : OkI X.prog X.w X.K X.mg X.base j x ps names) (hr : Room (j + 1) X.A) (tk : Takes X W) (hg : Gl X x) (ha : PA X (e :: es) t)
    (hdb : (x == ("__debug__" : Str)) = false := by decide) (he : starEach (e :: es) X.env = (false, eval e X.env) :: starEach es X.env := by rfl) (hpl : (backTo pos (starEach es X.env)).any (·.1) = false := by rfl) :
    PS X (.Raise (some (.Call (.Name x p) (e :: es) [] pos)) none posr) (tRaiseO (He.ga X.K x) (spIni (He.ga X.K x) names) t W) := by
  obtain ⟨fd, F, hb⟩ := D.ex
  exact ps_raise hc tk (pmk_oex D.em.ok.oex D.em.iC D.em.tI F hr hb .nil (passes_call tk fun _ _ _ _ z => z.elim) hg D.gl ha hdb he hpl)
end
end TL
set_option maxHeartbeats 4000000
namespace TL
open PySem PySem.Spec PyProof.Rows L2
section
variable {E : WX} {X : XP} {ρ : Env} {te ta tb : TE} {tt : TT} {Φ : V → T → Env → Prop} {Ψ : List T → Env → Prop} {i : Nat} {K : PySem.W.Frag} {P : Post}
theorem wA_fr {ta : TA} {Φ : List V → List T → Env → Prop} (h : wA E X ta ρ Φ) {b : Bs} {G H : Hp} {σ : L2.St} {Q : List V → Hp → Prop} (S : Sta b G H σ ρ)
    (k : ∀ vs ts ρ' G' H', Φ vs ts ρ' → RepL G' ts vs → Sta b G' H' σ ρ' → Le G G' → Kept G H G' H' ρ → Q vs H') (ke : KErr E X b G σ) : ta σ H Q :=
  h _ G H σ Q S.inB (fun vs ts ρ' G' H' p r S' l => k vs ts ρ' G' H' p r (S.outB S') l (kept_of S')) fun er ρ' od G' H' x a S' l => ke er ρ' od G' H' x a (S.outB S') l
def RepX (G : Hp) (p : Addr) : List (Option T) → List V → Prop
  | [], vs => vs = []
  | none :: ts, vs => ∃ r, vs = .ref p :: r ∧ RepX G p ts r
  | some t :: ts, vs => ∃ v r, vs = v :: r ∧ Rep G t v ∧ RepX G p ts r
theorem RepX.up {G G' : Hp} {p : Addr} (e : Le G G') : ∀ {ts : List (Option T)} {vs : List V}, RepX G p ts vs → RepX G' p ts vs
  | [], _, h => h
  | none :: ts, _, ⟨r, h1, h3⟩ => ⟨r, h1, RepX.up e h3⟩
  | some t :: ts, _, ⟨v, r, h1, h2, h3⟩ => ⟨v, r, h1, h2.up e, RepX.up e h3⟩
theorem RepX.len {G : Hp} {p : Addr} : ∀ {ts : List (Option T)} {vs : List V}, RepX G p ts vs → vs.length = ts.length
  | [], _, h => by rw [show _ = _ from h]; rfl
  | none :: ts, _, ⟨r, h1, h3⟩ => by rw [h1, List.length_cons, List.length_cons, RepX.len h3]
  | some t :: ts, _, ⟨v, r, h1, _, h3⟩ => by rw [h1, List.length_cons, List.length_cons, RepX.len h3]
theorem RepX.get {G : Hp} {p : Addr} : ∀ {ts : List (Option T)} {vs : List V} {i : Nat} {o : Option T}, RepX G p ts vs → ts[i]? = some o → ∃ v, vs[i]? = some v ∧ match o with
    | none => v = .ref p
    | some t => Rep G t v
  | [], _, i, o, _, e => by simp at e
  | none :: ts, _, 0, o, ⟨r, h1, h3⟩, e => by simp at e; subst e; exact ⟨_, by rw [h1]; rfl, rfl⟩
  | none :: ts, _, i + 1, o, ⟨r, h1, h3⟩, e => by
    obtain ⟨v, a, c⟩ := RepX.get (i := i) (o := o) h3 (by simpa using e)
    exact ⟨v, by rw [h1]; simpa using a, c⟩
  | some t :: ts, _, 0, o, ⟨v, r, h1, h2, h3⟩, e => by simp at e; subst e; exact ⟨v, by rw [h1]; rfl, h2⟩
  | some t :: ts, _, i + 1, o, ⟨v, r, h1, h2, h3⟩, e => by
    obtain ⟨v, a, c⟩ := RepX.get (i := i) (o := o) h3 (by simpa using e)
    exact ⟨v, by rw [h1]; simpa using a, c⟩
end
theorem xfOf {K : PySem.W.Frag} {x : Str} {fs : List Str} (h : ExMk K x fs) : XfC K (He.ga K x) := ⟨h.ok.ga, h.ok.gg, h.ok.oex.exC, h.ok.hd⟩
end TL
set_option maxHeartbeats 4000000
namespace TL
open PySem PySem.Spec PyProof.Rows L2
section
variable {E : WX} {X : XP} {ρ : Env} {te ta tb : TE} {tt : TT} {Φ : V → T → Env → Prop} {Ψ : List T → Env → Prop} {i : Nat} {K : PySem.W.Frag} {P : Post} {g : TG}
/-- a comprehension by a test and a value of each item -/
theorem wF_lcT {wi : TI} {vs : List Nat} (h : wI E X wi ρ fun xs ρ1 => noOwn vs ρ1 = true ∧ xs.length ≤ sizeLine ∧ ∃ (p : T → Bool) (q : T → T),
    (∀ x v, x ∈ xs → wGa vs g x v (wipeE ρ1 vs) fun ρ3 => noOwn vs ρ3 = true ∧ wipeE ρ3 vs = wipeE ρ1 vs ∧ wT E00 X00 tt ρ3 fun c ρ4 => ρ4 = ρ3 ∧ c = p x ∧ (p x = true → wE E00 X00 te ρ3 fun _ y ρ5 => ρ5 = ρ3 ∧ y = q x)) ∧
    Ψ ((xs.filter p).map q) ρ1) : wF E X (tLc wi g tt te vs) ρ Ψ := by
  refine wF_lc fun b G H σ R S q ke => h b G H σ R S (fun J xs ρ' G' H' ⟨no, hz, p, qf, turn, fin⟩ y S' l => q J xs ρ' G' H' ⟨no, fun i acc => acc = ((xs.take i).filter p).map qf, by show ([] : List T) = ((xs.take 0).filter p).map qf; rw [List.take_zero]; rfl, fun i x acc v hx hI => ?_, fun acc hI => ?_⟩ y S' l) ke
  · have hm : x ∈ xs := List.mem_of_getElem? hx
    have hi : i < xs.length := (List.getElem?_eq_some_iff.mp hx).1
    have ex : xs.take (i + 1) = xs.take i ++ [x] := by
      rw [List.take_add_one, hx]
      rfl
    intro b2 G2 H2 σ2 Q2 S2 r2 k2
    refine turn x v hm b2 G2 H2 σ2 Q2 S2 r2 fun σ3 ρ3 ⟨n1, n2, n3⟩ S3 a3 => k2 σ3 ρ3 ⟨n1, n2, ?_⟩ S3 a3
    intro b4 G4 H4 σ4 Q4 S4 k4 e4
    refine n3 b4 G4 H4 σ4 Q4 S4 (fun c ρ5 G5 H5 ⟨m1, m2, m3⟩ S5 l5 => k4 c ρ5 G5 H5 ⟨m1, ?_⟩ S5 l5) e4
    subst m2
    cases w : p x with
    | true =>
      rw [if_pos rfl]
      refine wE_imp (m3 w) fun _ z ρ6 ⟨e1, e2⟩ => ⟨e1, ?_, ?_⟩
      · rw [hI, List.length_map]
        have := List.length_filter_le p (xs.take i)
        rw [List.length_take] at this
        omega
      · show acc ++ [z] = ((xs.take (i + 1)).filter p).map qf
        rw [ex, List.filter_append, List.map_append, hI, e2]
        simp [w]
    | false =>
      rw [if_neg (by simp)]
      show acc = ((xs.take (i + 1)).filter p).map qf
      rw [ex, List.filter_append, List.map_append, hI]
      simp [w]
  · have e : acc = ((xs.take xs.length).filter p).map qf := hI
    rw [List.take_length] at e
    rw [e]
    exact fin
theorem toPyL_ints : ∀ ns : List Int, toPyL (ns.map T.int) = some (ns.map PyData.int)
  | [] => rfl
  | n :: ns => by
    show (match toPy (T.int n), toPyL (ns.map T.int) with
      | some d, some ds => some (d :: ds)
      | _, _ => none) = _
    rw [toPyL_ints ns]
    rfl
theorem eqD_nil (ns : List Int) : EqD (.lst (ns.map T.int)) (.lst []) ns.isEmpty := by
  refine ⟨.list (ns.map PyData.int), .list [], ?_, rfl, PySem.W.ke_shaped_ints ns, PySem.W.ke_shaped_ints [], ?_⟩
  · show (toPyL (ns.map T.int)).map PyData.list = _
    rw [toPyL_ints]
    rfl
  · cases ns <;> rfl
/-- [..] == [], whole numbers -/
theorem wE_eqNil (h : wF E X te ρ fun ts ρ1 => ∃ ns : List Int, ts = ns.map T.int ∧ ∀ v, Φ v (.bl ns.isEmpty) ρ1) : wE E X (tOp (rEqQ K) te (tLst tNil)) ρ Φ := by
  refine wE_op eqQOk (wE_F (show wF E X te ρ fun ts ρ1 => ∀ v, _ from fun b G H σ Q S q ke => h b G H σ Q S (fun p vs ts ρ' G' H' ⟨ns, e, hk⟩ h2 h3 h4 h5 h6 S' l => q p vs ts ρ' G' H' (fun v => ?_) h2 h3 h4 h5 h6 S' l) ke))
  subst e
  exact wE_F (wF_lst (wA_nil ⟨by show 0 ≤ sizeLine; exact Nat.zero_le _, fun _ => ⟨_, eqD_nil ns, hk⟩⟩))
end
end TL
set_option maxHeartbeats 4000000
namespace TL
open PySem PySem.Spec PyProof.Rows L2
section
variable {i j : Int} {k : T → Prop} {c d : Bool} {s t : Str} {xs ys : List T} {K : PySem.W.Frag}
theorem gAdd (h : k (.int (i + j))) : fAdd (.int i) (.int j) k := h
theorem gSub (h : k (.int (i - j))) : fSub (.int i) (.int j) k := h
theorem gMulL (c1 : -(2 ^ 64) < i) (c2 : i < 2 ^ 64) (h : k (.int (i * j))) : fMul (.int i) (.int j) k := ⟨.inl ⟨c1, c2⟩, h⟩
theorem gMulR (c1 : -(2 ^ 64) < j) (c2 : j < 2 ^ 64) (h : k (.int (i * j))) : fMul (.int i) (.int j) k := ⟨.inr ⟨c1, c2⟩, h⟩
theorem gMod (c : 0 < j) (h : k (.int (i % j))) : fMod (.int i) (.int j) k := ⟨c, h⟩
theorem gDivW (c1 : 0 < j) (c2 : j < 2 ^ 62) (h : k (.int (i / j))) : fDiv (.int i) (.int j) k := ⟨wide_div (b := 62) c1 (by omega) (by decide) (by decide), h⟩
theorem gDiv (c1 : 0 < j) (c2 : j < 1073741824) (h : k (.int (i / j))) : fDiv (.int i) (.int j) k := gDivW c1 (by omega) h
theorem gPow (c1 : 0 ≤ j) (c2 : j ≤ 1000000) (c3 : i.natAbs < 2 ^ 64) (h : k (.int (i ^ j.toNat))) : fPow (.int i) (.int j) k := ⟨⟨c1, c2, c3⟩, h⟩
theorem gLt (h : k (.bl (decide (i < j)))) : fLt (.int i) (.int j) k := h
theorem gLe (h : k (.bl (decide (i ≤ j)))) : fLe (.int i) (.int j) k := h
theorem gGt (h : k (.bl (decide (j < i)))) : fGt (.int i) (.int j) k := h
theorem gGe (h : k (.bl (decide (j ≤ i)))) : fGe (.int i) (.int j) k := h
theorem gEqI (h : k (.bl (decide (i = j)))) : fEqQ (.int i) (.int j) k := h
theorem gEqB (h : k (.bl (decide (c = d)))) : fEqQ (.bl c) (.bl d) k := h
theorem gNeI (h : k (.bl (!decide (i = j)))) : fNe (.int i) (.int j) k := h
theorem gNeS (h : k (.bl (!decide (s = t)))) : fNe (.str s) (.str t) k := h
theorem gNeg (h : k (.int (-i))) : fNeg (.int i) k := h
theorem gInt (h : k (.int i)) : fInt [.int i] k := h
theorem gAbs (h : k (.int (if i < 0 then -i else i))) : fAbs [.int i] k := h
theorem gMax (h : k (.int (if j > i then j else i))) : fMax [.int i, .int j] k := h
theorem gMin (h : k (.int (if j < i then j else i))) : fMin [.int i, .int j] k := h
theorem gLenL (h : k (.int xs.length)) : fLen [.lst xs] k := h
theorem gLenT (h : k (.int xs.length)) : fLen [.tup xs] k := h
theorem gLenS (c : s.length ≤ sizeLine) (h : k (.int s.length)) : fLen [.str s] k := ⟨c, h⟩
theorem gIsB (h : k (.bl (decide (c = d)))) : fIs (.bl c) (.bl d) k := h
theorem gIxL (n : Nat) {x : T} (e : i = (n : Int)) (g : xs[n]? = some x) (h : k x) : fIx (.lst xs) (.int i) k := ⟨x, by rw [e]; exact atI_nat g, h⟩
theorem gIxT (n : Nat) {x : T} (e : i = (n : Int)) (g : xs[n]? = some x) (h : k x) : fIx (.tup xs) (.int i) k := ⟨x, by rw [e]; exact atI_nat g, h⟩
theorem gSlL {lo hi : Option Int} (h : k (.lst (cutT xs lo hi))) : fSl (.lst xs) lo hi k := h
end
section
variable {E : WX} {X : XP} {ρ : Env} {te ta tb : TE} {Φ : V → T → Env → Prop} {i : Nat} {P : Post} {tt : TT}
theorem ite_t {A B : Prop} (h : A) : if true = true then A else B := by rw [if_pos rfl]; exact h
theorem ite_f {A B : Prop} (h : B) : if false = true then A else B := by rw [if_neg (by simp)]; exact h
theorem ite_c {A B : Prop} {c : Bool} (h1 : c = true → A) (h2 : c = false → B) : if c = true then A else B := by
  cases c with
  | true => exact ite_t (h1 rfl)
  | false => exact ite_f (h2 rfl)
end
end TL
set_option maxHeartbeats 4000000
namespace TL
open PySem PySem.Spec PyProof.Rows L2
section
variable {E : WX} {X : XP} {ρ : Env} {te ta tb tc : TE} {Φ : V → T → Env → Prop} {i j m : Nat} {P : Post} {t : TS}
/-- all but a list that no one knows stays -/
theorem Sta.growN {b : Bs} {G H G' H' : Hp} {σ : L2.St} {p : Addr} (S : Sta b G H σ ρ) (nb : b.B p = none) (no : ∀ (j : Nat) (Pd : List T → Prop), ρ[j]? ≠ some (.o p Pd)) (g : GrowP p G H G' H') : Sta b G' H' σ ρ := by
  refine ⟨fun a o h => ?_, S.g0.tr g.g, g.gh, fun a h n => g.fr a (S.bh.some h) (S.fr a h n), S.len, fun j t f => let ⟨v, x, y⟩ := S.val j t f; ⟨v, x, y.up g.g⟩, fun j u t f => let ⟨x, y⟩ := S.ex j u t f; ⟨x, y.up g.g⟩, fun j c Rd f => ?_, S.inj⟩
  · exact g.h a o (fun z => by rw [z, nb] at h; cases h) (S.bh a o h)
  · obtain ⟨ts2, vs2, a2, h2, n2, nb2, r2, q2⟩ := S.own j c Rd f
    have np : c ≠ p := fun z => no j Rd (by rw [← z]; exact f)
    exact ⟨ts2, vs2, a2, g.h _ _ np h2, g.fr c (by rw [h2]; exact fun z => nomatch z) n2, nb2, r2.up g.g, q2⟩
/-- f(a new list, ..) -/
theorem wE_callF {ι : Type} {Pa Pb : ι → List T → Prop} {pre : List T → Prop} {post : List T → T → Prop} {xc : List V → List T → Er → Prop} {tr : TA} (n : ι)
    (h : wF E X te ρ fun us ρ1 => Pa n us ∧ wA E X tr ρ1 fun vs ts ρ2 => ρ2 = ρ1 ∧ pre ts ∧ (∀ t v, post ts t → Φ v t ρ1) ∧ ∀ er, xc vs ts er → X er ρ1) : wE E X (tCallS (sO Pa Pb pre post xc) (WE E) (tCons te tr)) ρ Φ := fun b G H σ Q S q ke =>
  h b G H σ _ S (fun p ws us ρ1 G1 H1 ⟨hP, h1⟩ hp gp bp ru no S1 l1 => by
    have nO : ¬ Own ρ1 p := fun ⟨j, Pd, e⟩ => no j Pd e
    refine wA_fr h1 S1 (fun vs ts ρ2 G2 H2 ⟨e2, h2, h3, h4⟩ r2 S2 l2 kp => ?_) (ke.up l1)
    subst e2
    have hp2 := kp.h p _ nO hp
    have gp2 := kp.g p nO (by rw [hp]; exact fun z => nomatch z) gp
    exact ⟨n, p, us, ws, vs, ts, G2, rfl, hp2, gp2, ru.up l2, hP, r2, S2.gh, h2, fun t v bs' bv' G' H' po r hp' rb' q' g => q v t _ G' H' (h3 t v po) r (S2.growN bp no g) ((l1.tr l2).tr g.g),
      fun er od bs' bv' G' H' po a hp' rb' q' g => ke er _ od G' H' (h4 er po) a (S2.growN bp no g) ((l1.tr l2).tr g.g)⟩) ke
end
end TL
set_option maxHeartbeats 4000000
namespace TL
open PySem PySem.Spec PyProof.Rows L2
/-- a list of whole numbers that stood ahead of the call -/
def ScrT (K : PySem.W.Frag) (t : T) (ns : List Int) : Prop := (∃ o, t = .frz o (ns.map V.int)) ∨ ∃ a, t = .raw (.ref a) ∧ ∀ H : Hp, SqL K H a (ns.map V.int)
theorem scr_rd {K : PySem.W.Frag} {G H : Hp} {t : T} {v : V} {ns : List Int} (s : ScrT K t ns) (r : Rep G t v) (l : Le G H) : ∃ a, v = .ref a ∧ SqL K H a (ns.map V.int) := by
  rcases s with ⟨o, rfl⟩ | ⟨a, rfl, h⟩
  · obtain ⟨a, rfl, g⟩ := r
    exact ⟨a, rfl, .inl (.inr ⟨o, l _ _ g⟩)⟩
  · exact ⟨a, r, h H⟩
/-- the law's argument -/
theorem scr_of {K : PySem.W.Frag} {H : Hp} {a : Addr} {ns : List Int} (hO : Only H) (h : SqL K H a (ns.map V.int)) : ∃ t G, ScrT K t ns ∧ Rep G t (.ref a) ∧ Le G H := by
  rcases h with (h | ⟨o, h⟩) | h
  · rcases hO a with z | ⟨o, xs, z⟩
    · rw [z] at h; cases h
    · rw [z] at h; cases h
  · exact ⟨.frz o (ns.map V.int), H, .inl ⟨o, rfl⟩, ⟨a, rfl, h⟩, Le.rfl⟩
  · exact ⟨.raw (.ref a), H, .inr ⟨a, rfl, fun _ => .inr h⟩, rfl, Le.rfl⟩
section
variable {E : WX} {X : XP} {ρ : Env} {te ta tb : TE} {Φ : V → T → Env → Prop} {i : Nat} {K : PySem.W.Frag} {u : V} {t : T} {ns : List Int}
theorem wE_lenS (s : ScrT K t ns) (e : ρ[i]? = some (.x u t)) (h : ∀ v, Φ v (.int ns.length) ρ) : wE E X (tCB (rLenU K) (tCons (tVar i) tNil)) ρ Φ := fun b G H σ Q S q ke => by
  obtain ⟨a0, r⟩ := S.ex i u t e
  obtain ⟨a, rfl, hs⟩ := scr_rd s r S.gh
  refine ⟨_, a0, _, _, rfl, .inl ⟨_, hs, rfl⟩, ?_⟩
  rw [List.length_map]
  exact q _ _ ρ G H (h _) rfl S Le.rfl
theorem wE_ixS (s : ScrT K t ns) (e : ρ[i]? = some (.x u t)) (h : wE E X tb ρ fun _ n ρ1 => ∃ (j : Nat) (z : Int), n = .int (j : Int) ∧ ns[j]? = some z ∧ ∀ v, Φ v (.int z) ρ1) : wE E X (tOp (rIx K) (tVar i) tb) ρ Φ := fun b G H σ Q S q ke => by
  obtain ⟨a0, r⟩ := S.ex i u t e
  refine ⟨_, a0, h b G H σ _ S (fun v n ρ1 G1 H1 ⟨j, z, en, hz, hk⟩ r1 S1 l1 => ?_) ke⟩
  subst en
  obtain ⟨a, rfl, hs⟩ := scr_rd s (r.up l1) S1.gh
  refine .inl ⟨a, _, _, .int z, rfl, r1, hs, atI_nat ?_, q _ _ ρ1 G1 H1 (hk _) rfl S1 l1⟩
  rw [List.getElem?_map, hz]
  rfl
theorem wE_slS {tl th : TO} (s : ScrT K t ns) (e : ρ[i]? = some (.x u t)) (h : wO E X tl ρ fun lo ρ2 => wO E X th ρ2 fun hi ρ3 => ∀ v, Φ v (.lst ((cutT ns lo hi).map T.int)) ρ3) : wE E X (tSl (rSlU K) (tVar i) tl th) ρ Φ := fun b G H σ Q S q ke => by
  obtain ⟨a0, r⟩ := S.ex i u t e
  refine ⟨_, a0, h b G H σ _ S (fun lo ρ2 G2 H2 h2 S2 l2 => h2 b G2 H2 σ _ S2 (fun hi ρ3 G3 H3 h3 S3 l3 => ?_) (ke.up l2)) ke⟩
  have l : Le G G3 := l2.tr l3
  obtain ⟨a, rfl, hs⟩ := scr_rd s (r.up l) S3.gh
  refine .inl ⟨a, _, rfl, hs, fun p hp => ?_⟩
  have ec : cutV (ns.map V.int) lo hi = (cutT ns lo hi).map V.int := by
    unfold cutV cutT
    rw [List.length_map, ← List.map_drop, ← List.map_take]
  rw [ec]
  have g := Grow.new (o := .lst ((cutT ns lo hi).map V.int)) S3.gh hp
  exact q _ _ ρ3 _ _ (h3 _) ⟨p, _, rfl, upd_same, RepL.ofInts _⟩ (S3.grow g) (l.tr g.g)
end
end TL
set_option maxHeartbeats 4000000
namespace TL
open PySem PySem.Spec PyProof.Rows L2
section
variable {E : WX} {X : XP} {ρ : Env} {te ta tb : TE} {tt : TT} {g : TG} {i : Nat} {P : Post}
theorem own_back {G H G' H' : Hp} {σ' : L2.St} {ρ' : Env} (S' : Sta ⟨cutB H ρ, G⟩ G' H' σ' ρ') {a : Addr} (hO : ¬ Own ρ a) (ha : H a ≠ none) : ¬ Own ρ' a := fun ⟨j, Pd, e⟩ => by
  obtain ⟨_, _, _, _, _, nb, _⟩ := S'.own j a Pd e
  have z : cutB H ρ a = none := nb
  rw [cutB_not hO] at z
  exact ha z
theorem wipeE_no {ρ : Env} : ∀ {vs : List Nat}, (∀ k ∈ vs, ρ[k]? = some .no) → wipeE ρ vs = ρ
  | [], _ => rfl
  | v :: vs, h => by
    show (wipeE ρ vs).set v .no = ρ
    rw [wipeE_no fun k hk => h k (List.mem_cons_of_mem _ hk)]
    apply List.ext_getElem?
    intro k
    by_cases z : v = k
    · subst z
      have e := h v (List.mem_cons_self ..)
      have hi : v < ρ.length := (List.getElem?_eq_some_iff.mp e).1
      rw [List.getElem?_set_self hi, e]
    · rw [List.getElem?_set_ne z]
theorem wipeE_at {ρ : Env} : ∀ {vs : List Nat} {k : Nat}, k ∈ vs → k < ρ.length → (wipeE ρ vs)[k]? = some .no
  | v :: vs, k, h, hl => by
    show ((wipeE ρ vs).set v .no)[k]? = _
    by_cases z : v = k
    · subst z
      rw [List.getElem?_set_self (by rw [wipeE_length]; exact hl)]
    · rw [List.getElem?_set_ne z]
      rcases List.mem_cons.mp h with y | y
      · exact absurd y.symm z
      · exact wipeE_at y hl
theorem Sta.unwipeO {b : Bs} {G H : Hp} {σ : L2.St} {vs : List Nat} (S : Sta b G H (L2.wipe σ vs) ρ) (no : ∀ k ∈ vs, ρ[k]? = some .no) : Sta b G H σ ρ := by
  have out : ∀ {j : Nat} {s : Sl}, s ≠ .no → ρ[j]? = some s → (L2.wipe σ vs)[j]? = σ[j]? := fun {j s} hs e => wipe_out fun z => by
    rw [no j z] at e
    exact hs (Option.some.inj e).symm
  refine ⟨S.bh, S.g0, S.gh, S.fr, by rw [← S.len, wipe_length], fun j t e => ?_, fun j u t e => ?_, fun j p Pd e => ?_, S.inj⟩
  · obtain ⟨v, a, r⟩ := S.val j t e
    exact ⟨v, by rw [← out (s := .v t) (fun z => nomatch z) e]; exact a, r⟩
  · obtain ⟨a, r⟩ := S.ex j u t e
    exact ⟨by rw [← out (s := .x u t) (fun z => nomatch z) e]; exact a, r⟩
  · obtain ⟨ts, ws, a, r⟩ := S.own j p Pd e
    exact ⟨ts, ws, by rw [← out (s := .o p Pd) (fun z => nomatch z) e]; exact a, r⟩
/-- [te for g in wi if tt], the names' lists may be changed; Iv by turns, what is made so far and the names -/
theorem wF_lcO {wi : TI} {vs : List Nat} {Ψ : List T → Env → Prop} (h : wI E X wi ρ fun xs ρ1 => (∀ k ∈ vs, ρ1[k]? = some .no) ∧ ∃ Iv : Nat → List T → Env → Prop, Iv 0 [] ρ1 ∧
    (∀ (i : Nat) (x : T) (acc : List T) (v : V) (ρ2 : Env), xs[i]? = some x → Iv i acc ρ2 → wGa vs g x v ρ2 fun ρ3 => wT E00 X00 tt ρ3 fun c ρ4 =>
      if c = true then wE E00 X00 te ρ4 fun _ y ρ5 => noOwn vs ρ5 = true ∧ acc.length < sizeLine ∧ Iv (i + 1) (acc ++ [y]) (wipeE ρ5 vs) else noOwn vs ρ4 = true ∧ Iv (i + 1) acc (wipeE ρ4 vs)) ∧
    ∀ acc ρ2, Iv xs.length acc ρ2 → Ψ acc ρ2) : wF E X (tLc wi g tt te vs) ρ Ψ := fun b G H σ Q S q ke => by
  refine h b G H σ _ S (fun J xs ρ1 G1 H1 ⟨no1, Iv, i0, turn, fin⟩ y S1 l1 => ?_) ke
  intro D hD
  have gD : G1 D = none := S1.gh.back hD
  have bD : b.B D = none := S1.bh.back hD
  have ap0 : ¬ Own ρ1 D := fun ⟨j, Qd, e⟩ => by
    obtain ⟨ts, ws, a, h2, _⟩ := S1.own j D Qd e
    rw [hD] at h2; cases h2
  have S0 : Sta b G1 (upd H1 D (.lst [])) (L2.wipe σ vs) ρ1 := by
    have z := (S1.wipe vs).le (Le.new (o := .lst []) hD)
    rw [wipeE_no no1] at z
    exact z
  have vl : ∀ k ∈ vs, k < σ.length := fun k hk => by
    rw [S1.len]
    exact (List.getElem?_eq_some_iff.mp (no1 k hk)).1
  refine ⟨fun i m H' => m = xs.length - i ∧ i ≤ xs.length ∧ ∃ G2 acc ws ρ2, Iv i acc ρ2 ∧ (∀ k ∈ vs, ρ2[k]? = some .no) ∧ Sta b G2 H' (L2.wipe σ vs) ρ2 ∧ Le G1 G2 ∧ H' D = some (.lst ws) ∧ G2 D = none ∧ ¬ Own ρ2 D ∧ RepL G2 acc ws, ⟨xs.length, by simp, Nat.zero_le _, G1, [], [], ρ1, i0, no1, S0, Le.rfl, upd_same, gD, ap0, rfl⟩, ?_⟩
  rintro i m H' ⟨rfl, hi, G2, acc, ws, ρ2, hI, no2, S2, l2, hD2, gD2, nD2, ra⟩
  obtain ⟨y1, y2⟩ := y G2 H' l2 S2.gh
  by_cases hlt : i < xs.length
  · obtain ⟨x, hx⟩ : ∃ x, xs[i]? = some x := ⟨xs[i], by simp [hlt]⟩
    obtain ⟨go, yl⟩ := y1 i x hx
    refine .inr ⟨go, fun H3 => ∃ G3 acc ws ρ3, Iv (i + 1) acc ρ3 ∧ (∀ k ∈ vs, ρ3[k]? = some .no) ∧ Sta b G3 H3 (L2.wipe σ vs) ρ3 ∧ Le G1 G3 ∧ H3 D = some (.lst ws) ∧ G3 D = none ∧ ¬ Own ρ3 D ∧ RepL G3 acc ws, fun H3 c => ⟨xs.length - (i + 1), by omega, rfl, hlt, c⟩, fun v H3 hy => ?_⟩
    obtain ⟨G3, gr, rx⟩ := yl v H3 hy
    have hD3 : H3 D = some (.lst ws) := gr.h _ _ hD2
    have gD3 : G3 D = none := gr.fr D (by rw [hD2]; exact fun z => nomatch z) gD2
    have l3 : Le G1 G3 := l2.tr gr.g
    have S3 := S2.grow gr
    have ne3 : H3 D ≠ none := by rw [hD3]; exact fun z => nomatch z
    refine turn i x acc v ρ2 hx hI _ G3 H3 (L2.wipe σ vs) _ S3.inB rx fun σ4 ρ4 h4 S4 ag => ?_
    have ew : L2.wipe σ4 vs = L2.wipe σ vs := (wipe_agree ag).trans (wipe_agree (agree_wipe σ vs))
    have nD4 : ¬ Own ρ4 D := own_back S4 nD2 ne3
    have S4b := S3.outB S4
    have l4 : σ4.length = σ.length := by
      have := congrArg List.length ew
      rw [wipe_length, wipe_length] at this
      exact this
    have close : ∀ {G5 H5 : Hp} {ρ5 : Env}, noOwn vs ρ5 = true → Sta b G5 H5 σ4 ρ5 → Sta b G5 H5 (L2.wipe σ vs) (wipeE ρ5 vs) ∧ (∀ k ∈ vs, (wipeE ρ5 vs)[k]? = some .no) := fun {G5 H5 ρ5} n5 S5 => by
      have z := S5.wipe vs
      rw [ew] at z
      exact ⟨z, fun k hk => wipeE_at hk (by rw [← S5.len, l4]; exact vl k hk)⟩
    have ownW : ∀ {ρ5 : Env}, ¬ Own ρ5 D → ¬ Own (wipeE ρ5 vs) D := fun {ρ5} n ⟨j, Pd, e⟩ => n ⟨j, Pd, (wipeE_o (s := .o D Pd) (fun z => nomatch z) e).1⟩
    refine ⟨ew, h4 _ G3 H3 σ4 _ S4b.inB (fun c ρ5 G5 H5 h5 S5 l5 => ?_) kerr00⟩
    have k5 : Kept G3 H3 G5 H5 ρ4 := kept_of S5
    have nD5 : ¬ Own ρ5 D := own_back S5 nD4 ne3
    have hD5 : H5 D = some (.lst ws) := k5.h D _ nD4 hD3
    have gD5 : G5 D = none := k5.g D nD4 ne3 gD3
    have S5b := S4b.outB S5
    cases c with
    | false =>
      obtain ⟨n5, h5⟩ := (show noOwn vs ρ5 = true ∧ Iv (i + 1) acc (wipeE ρ5 vs) from h5)
      obtain ⟨S6, n6⟩ := close n5 S5b
      exact ⟨G5, acc, ws, _, h5, n6, S6, l3.tr l5, hD5, gD5, ownW nD5, (ra.up gr.g).up l5⟩
    | true =>
      have h5 : wE E00 X00 te ρ5 _ := h5
      have ne5 : H5 D ≠ none := by rw [hD5]; exact fun z => nomatch z
      refine h5 _ G5 H5 σ4 _ S5b.inB (fun w y ρ6 G6 H6 ⟨n6, hz, h6⟩ r6 S6 l6 => ?_) kerr00
      have k6 : Kept G5 H5 G6 H6 ρ5 := kept_of S6
      have nD6 : ¬ Own ρ6 D := own_back S6 nD5 ne5
      have hD6 : H6 D = some (.lst ws) := k6.h D _ nD5 hD5
      have gD6 : G6 D = none := k6.g D nD5 ne5 gD5
      have S6b := S5b.outB S6
      have r7 : RepL G6 acc ws := ((ra.up gr.g).up l5).up l6
      obtain ⟨S7, n7⟩ := close n6 (S6b.wrNew gD6 bD nD6)
      exact ⟨ws, hD6, by rw [r7.len]; exact hz, G6, acc ++ [y], ws ++ [w], _, h6, n7, S7, (l3.tr l5).tr l6, upd_same, gD6, ownW nD6, r7.app (RepL.one r6)⟩
  · have e : i = xs.length := by omega
    subst e
    exact .inl ⟨y2, q D ws acc ρ2 G2 H' (fin acc ρ2 hI) hD2 gD2 bD ra (fun j Qd e => nD2 ⟨j, Qd, e⟩) (S2.unwipeO no2) (l1.tr l2)⟩
end
end TL
set_option maxHeartbeats 4000000
namespace TL
open PySem PySem.Spec PyProof.Rows L2
end TL
set_option maxHeartbeats 4000000
namespace TL
open PySem PySem.Spec PyProof.Rows L2
end TL
set_option maxHeartbeats 4000000
namespace TL
open PySem PySem.Spec PyProof.Rows L2
def perm {α : Type} (π : List Nat) (zs : List α) : List α := π.filterMap fun i => zs[i]?
def tPerm (π : List Nat) (n : Nat) (t : TA) : TA := fun σ H Q => t σ H fun zs H1 => zs.length = n ∧ Q (perm π zs) H1
def KP (fd : FuncData) (ps ks : List Str) (π : List Nat) : Prop := ∀ ws : List Value, ws.length = ks.length → bindArgs fd ⟨[], ks.zip ws⟩ = pure (ps.zip (perm π ws))
theorem perm_vals {zs : List V} {ws : List Value} (r : Vals zs ws) : ∀ π : List Nat, Vals (perm π zs) (perm π ws)
  | [] => .nil
  | i :: π => by
    have ih := perm_vals r π
    have e : ws.length = zs.length := r.length.symm
    unfold perm at ih ⊢
    rw [List.filterMap_cons, List.filterMap_cons]
    by_cases h : i < zs.length
    · have h2 : i < ws.length := by omega
      obtain ⟨w, hw, rw'⟩ := r.get (List.getElem?_eq_getElem h)
      rw [List.getElem?_eq_getElem h, hw]
      exact .cons rw' ih
    · rw [List.getElem?_eq_none (by omega), List.getElem?_eq_none (by omega)]
      exact ih
theorem perm_rep {G : Hp} {ts : List T} {vs : List V} (r : RepL G ts vs) : ∀ π : List Nat, RepL G (perm π ts) (perm π vs)
  | [] => rfl
  | i :: π => by
    have ih := perm_rep r π
    have e := r.len
    unfold perm at ih ⊢
    rw [List.filterMap_cons, List.filterMap_cons]
    by_cases h : i < ts.length
    · obtain ⟨v, hv, rv⟩ := r.getT (List.getElem?_eq_getElem h)
      rw [List.getElem?_eq_getElem h, hv]
      exact ⟨v, _, rfl, rv, ih⟩
    · rw [List.getElem?_eq_none (by omega), List.getElem?_eq_none (by omega)]
      exact ih
structure OkE (P : Program) (w : World) (K : PySem.W.Frag) (mg : Str → Option Value) (base : Heap) (j : Nat) (x : Str) (ps : List Str) (kk : List (List Str × List Nat)) (sp : Sp) : Prop where
  ex : ∃ (f : Addr) (fd : FuncData), mg x = some (.ref f) ∧ PySem.W.keepIn K (.ref f) = true ∧ FnOk P w K mg base (L2.CX P w) j f fd ps sp ∧ Binds K fd ps [] ∧ ∀ q ∈ kk, KP fd ps q.1 q.2
section
variable {X : Cx} {j : Nat} {x : Str} {p pos : Pos} {e : Expr} {es : List Expr} {kws : List Keyword} {t tk : TA} {ps ks : List Str} {kk : List (List Str × List Nat)} {π : List Nat} {sp : Sp} {W : WX}
theorem OkE.plain (D : OkE X.prog X.w X.K X.mg X.base j x ps kk sp) : ∃ (f : Addr) (fd : FuncData), X.mg x = some (.ref f) ∧ PySem.W.keepIn X.K (.ref f) = true ∧ FnOk X.prog X.w X.K X.mg X.base (L2.CX X.prog X.w) j f fd ps sp ∧ Binds X.K fd ps [] := let ⟨f, fd, a, b, c, d, _⟩ := D.ex; ⟨f, fd, a, b, c, d⟩
theorem pe_callE (D : OkE X.prog X.w X.K X.mg X.base j x ps kk sp) (hr : Room j X.A) (tk : Takes X W) (hg : Gl X x) (ha : PA X (e :: es) t)
    (hdb : (x == ("__debug__" : Str)) = false := by decide) (he : starEach (e :: es) X.env = (false, eval e X.env) :: starEach es X.env := by rfl) (hpl : (backTo pos (starEach es X.env)).any (·.1) = false := by rfl) :
    PE X (.Call (.Name x p) (e :: es) [] pos) (tCallS sp (WE W) t) := by
  obtain ⟨f, fd, hm, hk, F, hb⟩ := D.plain
  exact pe_callS F hr hg hm hk hb (fun σ => passAt tk σ) ha hdb he hpl
/-- f(k = v, ..): ks as they are written, π: where each parameter's value stands among them -/
theorem pe_callEK (ks : List Str) (π : List Nat) (D : OkE X.prog X.w X.K X.mg X.base j x ps kk sp) (hkk : (ks, π) ∈ kk) (hr : Room j X.A) (tk' : Takes X W) (hg : Gl X x) (hkw : PK X kws tk)
    (hall : (backToKw pos (keywordEach kws X.env)).all (·.1.isSome) = true := by rfl) (hks : (backToKw pos (keywordEach kws X.env)).filterMap (·.1) = ks := by rfl) (hdb : (x == ("__debug__" : Str)) = false := by decide)
    (hpl : ((backTo pos (starEach [] X.env)).any (·.1) || (backToKw pos (keywordEach kws X.env)).any (·.1.isNone)) = false := by rfl) :
    PE X (.Call (.Name x p) [] kws pos) (tCallS sp (WE W) (tPerm π ks.length tk)) := by
  obtain ⟨f, fd, hm, hk, F, _, hb⟩ := D.ex
  have hb := hb _ hkk
  refine ⟨fun pins s σ H Q I h => wpAny_Call_Name_kw (ld_glob I hg hm ?_ hdb)⟩
  refine PySem.W.callWith_KW0 (h₀ := X.base) I.ok.mod.kin hk hall (thn (hkw.run pos pins s σ H _ I h) fun ws s2 ⟨zs, H2, I2, rz, q0, q2⟩ => ⟨I2.kIn, ?_⟩) hpl
  rw [hks]
  have r2 := perm_vals rz π
  refine wpAny_call (codeAny_mono (F.run X.A X.stack s2 H2 ⟨[], ks.zip ws⟩ (perm π ws) (perm π zs) Q (WE W σ) hr I2.env0 (.of_eq (hb ws (by rw [← rz.length]; exact q0))) r2 q2) fun o s' hq => ?_)
  cases o with
  | error er => exact passAt tk' σ pins H2 s2 er s' I2 hq
  | ok fl =>
    cases fl with
    | ret u => exact I2.after hq
    | next => exact hq.elim
    | brk => exact hq.elim
    | cont => exact hq.elim
end
theorem okE {P : Program} {w : World} {K : PySem.W.Frag} {mg : Str → Option Value} {base : Heap} {k : Nat} {x qual : Str} {params : Arguments} {body : List Stmt} {scope : Scope} {kws : List (Str × V)} {f : Addr} {fd : FuncData} {N ps : List Str} {sp : Sp} (kk : List (List Str × List Nat)) (F : FunD K x qual params body scope [] kws f fd) (hm : mg x = some (.ref f)) (S : FnScope N ps scope)
    (len : ∀ vs H Q E, sp vs H Q E → vs.length = ps.length) (t : XK → TS)
    (walk : ∀ (cdv : Value) (A : Around) (outer : List PySem.Env) (s : Shared) (H : Hp) (E : XK), Room k (A.deeper (envOfC qual scope s.heap.objs.size f cdv)) → PSs (cxOf (L2.CX P w) P w K mg base N qual scope f cdv A outer s H E) body (t E))
    (run : ∀ (vs : List V) (H : Hp) (Q : VK) (E : XK), sp vs H Q E → t E { nx := fun _ H' => Q .non H', rt := Q } (L2.start N vs) H)
    (hb : ∀ (kV doc pm : Value) (an : Option Addr) (cdv ct : Value) (us : List Value), us.length = ps.length → bindArgs (PySem.W.fnOf x qual params body scope .none kV doc pm an cdv ct) ⟨us, []⟩ = pure (ps.zip us))
    (hk : ∀ q ∈ kk, ∀ (kV doc pm : Value) (an : Option Addr) (cdv ct : Value) (ws : List Value), ws.length = q.1.length → bindArgs (PySem.W.fnOf x qual params body scope .none kV doc pm an cdv ct) ⟨[], q.1.zip ws⟩ = pure (ps.zip (perm q.2 ws))) : OkE P w K mg base (k + 1) x ps kk sp := by
  refine ⟨f, fd, hm, F.kp, F.ok S len (fun cdv A outer s H vs Q E hr h => ⟨t E, walk cdv A outer s H E hr, run vs H Q E h⟩), F.bindsN hb, fun q hq => ?_⟩
  obtain ⟨oc, od, dV, kV, doc, pm, an, cdv, ct, osl, rfl, lk, hcd, hD, hK⟩ := F.ex
  rcases hD with ⟨_, rfl⟩ | ⟨e, _⟩
  · exact hk q hq kV doc pm an cdv ct
  · exact absurd rfl e
section
variable {E : WX} {X : XP} {ρ : Env} {te ta tb : TE} {i : Nat} {K : PySem.W.Frag}
theorem wA_perm {π : List Nat} {n : Nat} {t : TA} {Φ : List V → List T → Env → Prop} (h : wA E X t ρ fun vs ts ρ1 => vs.length = n ∧ Φ (perm π vs) (perm π ts) ρ1) : wA E X (tPerm π n t) ρ Φ := fun b G H σ Q S q ke =>
  h b G H σ _ S (fun vs ts ρ1 G1 H1 ⟨h0, h1⟩ r1 S1 l1 => ⟨h0, q _ _ ρ1 G1 H1 h1 (perm_rep r1 π) S1 l1⟩) ke
end
end TL
set_option maxHeartbeats 4000000
namespace TL
open PySem PySem.Spec PyProof.Rows L2
def toV : T → Option V
  | .non => some .non
  | .bl c => some (.bl c)
  | .int i => some (.int i)
  | .str s => some (.str s)
  | _ => none
def toVs : List T → Option (List V)
  | [] => some []
  | t :: ts => match toV t, toVs ts with
    | some u, some us => some (u :: us)
    | _, _ => none
theorem toV_eq {G : Hp} {t : T} {v u : V} (r : Rep G t v) (e : toV t = some u) : v = u ∧ flatV u = true := by
  cases t with
  | non => cases r; cases e; exact ⟨rfl, rfl⟩
  | bl c => cases r; cases e; exact ⟨rfl, rfl⟩
  | int i => cases r; cases e; exact ⟨rfl, rfl⟩
  | str s => cases r; cases e; exact ⟨rfl, rfl⟩
  | _ => cases e
theorem toVs_eq {G : Hp} : ∀ {ts : List T} {vs us : List V}, RepL G ts vs → toVs ts = some us → vs = us ∧ us.all flatV = true
  | [], _, _, r, e => by rw [show _ = _ from r]; cases e; exact ⟨rfl, rfl⟩
  | t :: ts, _, us, ⟨v, w, e1, r1, r2⟩, e => by
    subst e1
    unfold toVs at e
    cases z : toV t with
    | none => rw [z] at e; cases e
    | some u =>
      cases y : toVs ts with
      | none => rw [z, y] at e; cases e
      | some ws =>
        rw [z, y] at e
        cases e
        obtain ⟨e2, f2⟩ := toV_eq r1 z
        obtain ⟨e3, f3⟩ := toVs_eq r2 y
        exact ⟨by rw [e2, e3], by rw [List.all_cons, f2, f3]; rfl⟩
def fIn (neg : Bool) : T → T → (T → Prop) → Prop
  | x, .tup ts, k => ∃ u us, toV x = some u ∧ toVs ts = some us ∧ k (.bl (if neg then !inV u us else inV u us))
  | x, .lst ts, k => ∃ u us, toV x = some u ∧ toVs ts = some us ∧ k (.bl (if neg then !inV u us else inV u us))
  | _, _, _ => False
theorem inOk {K : PySem.W.Frag} {neg : Bool} : OpOk (rIn K neg) (fIn neg) := fun b G H σ ρ v1 v2 t1 t2 K' Q S r1 r2 h q => by
  unfold fIn at h
  split at h
  · obtain ⟨u, us, e1, e2, hk⟩ := h
    obtain ⟨a, ws, rfl, ha, ra⟩ := r2
    obtain ⟨rfl, f1⟩ := toV_eq r1 e1
    obtain ⟨rfl, f2⟩ := toVs_eq ra e2
    exact ⟨a, _, rfl, .inr (sqR (S.gh.rd ha)), f1, f2, q _ _ G H hk rfl S Le.rfl⟩
  · obtain ⟨u, us, e1, e2, hk⟩ := h
    obtain ⟨a, ws, rfl, ha, ra⟩ := r2
    obtain ⟨rfl, f1⟩ := toV_eq r1 e1
    obtain ⟨rfl, f2⟩ := toVs_eq ra e2
    exact ⟨a, _, rfl, .inl (SqL.of (S.gh _ _ ha)), f1, f2, q _ _ G H hk rfl S Le.rfl⟩
  · cases h
end TL
set_option maxHeartbeats 4000000
namespace TL
open PySem PySem.Spec PyProof.Rows L2
def exPlB (x : Str) (K : PySem.W.Frag) : Bool := PySem.W.excIn K (He.ga K x) PySem.HandSPX.veTail "ValueError.__new__" && PySem.W.keepIn K (.ref (He.ga K x)) && decide (PySem.W.subIn K (.ref (He.ga K x)) (.type "BaseException") = some true) && decide (PySem.W.typeIn K (.ref (He.ga K x)) = some (.type "type"))
structure ExPl (K : PySem.W.Frag) (x : Str) : Prop where
  q : PySem.W.excIn K (He.ga K x) PySem.HandSPX.veTail "ValueError.__new__" = true
  kp : PySem.W.keepIn K (.ref (He.ga K x)) = true
  sb : PySem.W.subIn K (.ref (He.ga K x)) (.type "BaseException") = some true
  ty : PySem.W.typeIn K (.ref (He.ga K x)) = some (.type "type")
theorem exPl_of {K : PySem.W.Frag} {x : Str} (h : exPlB x K = true) : ExPl K x := by
  unfold exPlB at h
  simp only [Bool.and_eq_true, decide_eq_true_eq] at h
  exact ⟨h.1.1.1, h.1.1.2, h.1.2, h.2⟩
theorem pmk_own0 {X : Cx} {x : Str} {p pos : Pos} (D : ExPl X.K x) (gC : X.mg x = some (.ref (He.ga X.K x))) (hg : Gl X x) (hdb : (x == ("__debug__" : Str)) = false := by decide) :
    PMk X (.Call (.Name x p) [] [] pos) (fun _ H Q => Q (.ref (He.ga X.K x)) none H) := by
  intro pins s σ H Q I h
  refine wpAny_Call_Name_kw (ld_glob I hg gC (PySem.W.callWith_K0 I.kIn D.kp ?_) hdb)
  show wpAny _ _ (call (.ref (He.ga X.K x)) []) _ _ _
  obtain ⟨bm, N, nm, qn, bs, hdct, sn, sub, ab, col, dd, k0, k1, k2, k3, k5, mN, hC, hN, hni, T⟩ := exc_obj I.kIn D.q
  exact wpAny_call_exc_subT PySem.F.excBase_ValueError T hC hN hni (fun h' e hm => mk_of I hm (raises_own D.sb D.ty) h (I.hok.gone hm.new)) (Nat.zero_le _)
def tRaise0 (C : Addr) (W : WX) : TS := fun _ σ H => W (.ref C) none σ H
theorem ps_raise0 {X : Cx} {x : Str} {p pos posr : Pos} {W : WX} (hc : X.calm = true) (D : ExPl X.K x) (gC : X.mg x = some (.ref (He.ga X.K x))) (tk : Takes X W) (hg : Gl X x) (hdb : (x == ("__debug__" : Str)) = false := by decide) :
    PS X (.Raise (some (.Call (.Name x p) [] [] pos)) none posr) (tRaise0 (He.ga X.K x) W) := ps_raise hc tk (pmk_own0 D gC hg hdb)
theorem wS_raise0 {E : WX} {X : XP} {ρ : Env} {P : Post} {C : Addr} (h : X ⟨C, none⟩ ρ) : wS E X (tRaise0 C E) ρ P := fun b G H σ D S k ke => ke σ ⟨C, none⟩ ρ none G H h rfl S Le.rfl
end TL
set_option maxHeartbeats 4000000
namespace TL
open PySem PySem.Spec PyProof.Rows L2
def iSeqV (K : PySem.W.Frag) (tl : TE) : TI := fun σ H R => tl σ H fun x H1 => ∃ a, x = .ref a ∧ (((∃ xs, SqL K H1 a xs) ∧ R (Itl K a) H1) ∨ ((∃ xs, SqT K H1 a xs) ∧ R (Itt K a) H1))
theorem pi_seqV {X : Cx} {tg l : Expr} {tl : TE} (hl : PE X l tl) : PI X tg l (iSeqV X.K tl) := by
  refine ⟨fun pins s σ H R I h => thn (hl.run pins s σ H _ I h) fun v s1 ⟨x, H1, I1, r1, a, e, q1⟩ => ?_⟩
  subst e
  cases r1
  have fp : ∀ b ∈ [s1.heap.objs.size], FpOk X pins H1 b := fun b hb => by
    have e : b = s1.heap.objs.size := by simpa using hb
    rw [e]
    exact I1.fpOk (Nat.le_refl _) (I1.hok.fresh (Nat.le_refl _))
  rcases q1 with ⟨⟨xs, hq⟩, q⟩ | ⟨⟨xs, hq⟩, q⟩
  · obtain ⟨its, rv, p, hz⟩ := I1.list hq
    exact wpAny_pyIter_list p.isList ⟨_, _, _, _, H1, rfl, I1.kept (t' := s1.toks) fun b o e => Heap.get?_push_of_some _ e, turn_list a _, ⟨_, Heap.get?_push_size _ rfl, rfl, rfl⟩, fp, q⟩
  · obtain ⟨its, rv, p, hz⟩ := I1.tuple hq
    exact wpAny_pyIter_tuple (show s1.heap.IsTuple a its.toArray from p) ⟨_, _, _, _, H1, rfl, I1.kept (t' := s1.toks) fun b o e => Heap.get?_push_of_some _ e, turn_tuple a _, ⟨_, Heap.get?_push_size _ rfl, rfl, rfl⟩, fp, q⟩
theorem wI_seq {E : WX} {X : XP} {ρ : Env} {te : TE} {K : PySem.W.Frag} {Φ : List T → Env → Prop} (h : wE E X te ρ fun _ x ρ1 => ∃ xs, (x = .lst xs ∨ x = .tup xs) ∧ Φ xs ρ1) : wI E X (iSeqV K te) ρ Φ := fun b G H σ R S q ke =>
  h b G H σ _ S (fun v x ρ1 G1 H1 ⟨xs, e, h1⟩ r S1 l1 => by
    rcases e with rfl | rfl
    · obtain ⟨a, vs, rfl, ha, ra⟩ := r
      have at_ : ∀ {G2 H2 : Hp}, Le G1 G2 → Le G2 H2 → SqL K H2 a vs := fun l m => SqL.of (m _ _ (l _ _ ha))
      refine ⟨a, rfl, .inl ⟨⟨vs, at_ Le.rfl S1.gh⟩, q _ xs ρ1 G1 H1 h1 (fun G2 H2 l m => ⟨fun i t ht => ?_, ⟨vs, at_ l m, by rw [ra.len]; exact Nat.le_refl _⟩⟩) S1 l1⟩⟩
      obtain ⟨w, hw, rw'⟩ := ra.getT ht
      exact ⟨⟨vs, w, at_ l m, hw⟩, fun y H' ⟨e1, e2⟩ => by
        have e3 := e2 vs (at_ l m)
        rw [hw] at e3
        cases e3
        rw [e1]
        exact ⟨G2, Grow.rfl m, rw'.up l⟩⟩
    · obtain ⟨a, vs, rfl, ha, ra⟩ := r
      have at_ : ∀ {G2 H2 : Hp}, Le G1 G2 → Le G2 H2 → SqT K H2 a vs := fun l m => sqR (m.rd (l.rd ha))
      refine ⟨a, rfl, .inr ⟨⟨vs, at_ Le.rfl S1.gh⟩, q _ xs ρ1 G1 H1 h1 (fun G2 H2 l m => ⟨fun i t ht => ?_, ⟨vs, at_ l m, by rw [ra.len]; exact Nat.le_refl _⟩⟩) S1 l1⟩⟩
      obtain ⟨w, hw, rw'⟩ := ra.getT ht
      exact ⟨⟨vs, w, at_ l m, hw⟩, fun y H' ⟨e1, e2⟩ => by
        have e3 := e2 vs (at_ l m)
        rw [hw] at e3
        cases e3
        rw [e1]
        exact ⟨G2, Grow.rfl m, rw'.up l⟩⟩) ke
end TL
set_option maxHeartbeats 4000000
namespace TL
open PySem PySem.Spec PyProof.Rows L2
section
variable {E : WX} {X : XP} {ρ : Env} {ta tb : TE} {i j : Nat} {P : Post}
/-- a, b = [..], z: a gets a list of its own -/
theorem wS_parF (h : wF E X ta ρ fun us ρ1 => wE E X tb ρ1 fun _ z ρ2 => ρ2 = ρ1 ∧ ∀ p, P.nx ((ρ1.set i (.o p (· = us))).set j (.v z))) : wS E X (tPar i j (tCons ta (tCons tb tNil))) ρ P := fun b G H σ D S k ke =>
  h b G H σ _ S (fun p vs us ρ1 G1 H1 h1 hp gp bp ru no S1 l1 => by
    have nO : ¬ Own ρ1 p := fun ⟨j, Pd, e⟩ => no j Pd e
    refine wE_fr h1 S1 (fun v z ρ2 G2 H2 ⟨e2, h2⟩ r2 S2 l2 kp => ?_) ((ke σ).up l1)
    subst e2
    refine ⟨.ref p, v, rfl, k.nx _ _ G2 H2 (h2 p) ?_ (l1.tr l2)⟩
    exact Sta.setv (Sta.seto (Pd := (· = us)) S2 i (kp.h p _ nO hp) (kp.g p nO (by rw [hp]; exact fun z => nomatch z) gp) bp (ru.up l2) rfl fun j' Qd _ => no j' Qd) j r2) (ke σ)
end
end TL
set_option maxHeartbeats 4000000
namespace TL
open PySem PySem.Spec PyProof.Rows L2
section
variable {E : WX} {X : XP} {ρ : Env} {te ta tb : TE} {tt : TT} {Φ : V → T → Env → Prop} {Ψ : List T → Env → Prop} {i : Nat} {K : PySem.W.Frag} {P : Post}
theorem RepL.erase {G : Hp} : ∀ {ts : List T} {vs : List V} (j : Nat), RepL G ts vs → RepL G (ts.eraseIdx j) (vs.eraseIdx j)
  | [], _, _, h => by rw [show _ = _ from h]; exact (rfl : ([] : List V) = [])
  | t :: ts, _, 0, ⟨w, r, h1, h2, h3⟩ => by rw [h1]; exact h3
  | t :: ts, _, j + 1, ⟨w, r, h1, h2, h3⟩ => by rw [h1]; exact ⟨w, _, rfl, h2, RepL.erase j h3⟩
end
end TL
set_option maxHeartbeats 4000000
namespace TL
open PySem PySem.Spec PyProof.Rows L2
section
variable {E : WX} {X : XP} {ρ : Env} {te ta tb : TE} {i j : Nat} {P : Post} {Ψ : List T → Env → Prop} {K : PySem.W.Frag}
theorem wF_fr {Ψ : List T → Env → Prop} (h : wF E X te ρ Ψ) {b : Bs} {G H : Hp} {σ : L2.St} {Q : VK} (S : Sta b G H σ ρ)
    (k : ∀ p vs ts ρ' G' H', Ψ ts ρ' → H' p = some (.lst vs) → G' p = none → b.B p = none → cutB H ρ p = none → RepL G' ts vs → (∀ (j : Nat) (Qd : List T → Prop), ρ'[j]? ≠ some (.o p Qd)) → Sta b G' H' σ ρ' → Le G G' → Kept G H G' H' ρ → Q (.ref p) H') (ke : KErr E X b G σ) : te σ H Q :=
  h _ G H σ Q S.inB (fun p vs ts ρ' G' H' q h1 h2 h3 h4 h5 S' l => k p vs ts ρ' G' H' q h1 h2 (by
    cases z : b.B p with
    | none => rfl
    | some o =>
      have e1 := S.bh p o z
      have no : ¬ Own ρ p := fun ⟨j, Pd, e⟩ => by
        obtain ⟨_, _, _, _, _, nb, _⟩ := S.own j p Pd e
        rw [nb] at z; cases z
      have e2 : cutB H ρ p = none := h3
      rw [cutB_not no, e1] at e2
      cases e2) h3 h4 h5 (S.outB S') l (kept_of S')) fun er ρ' od G' H' x a S' l => ke er ρ' od G' H' x a (S.outB S') l
/-- a name's own list is data from now on -/
theorem wS_fz {ts : TS} {p : Addr} {Pd : List T → Prop} (e : ρ[i]? = some (.o p Pd)) (h : ∀ us, Pd us → wS E X ts (ρ.set i (.v (.lst us))) P) : wS E X ts ρ P := fun b G H σ D S k ke => by
  obtain ⟨us, vs, a0, h0, r0, q0, lg, S2⟩ := S.freeze e
  exact h us q0 b _ H σ D S2 (k.up lg) fun σ => (ke σ).up lg
/-- data == [] -/
theorem wE_eqNilD {Φ : V → T → Env → Prop} (h : wE E X te ρ fun _ x ρ1 => ∃ ts, x = .lst ts ∧ ∀ v, Φ v (.bl ts.isEmpty) ρ1) : wE E X (tOp (rEqQ K) te (tLst tNil)) ρ Φ := fun b G H σ Q S q ke =>
  h b G H σ _ S (fun v x ρ1 G1 H1 ⟨ts, e, h1⟩ r1 S1 l1 => by
    subst e
    obtain ⟨a, vs, rfl, ha, ra⟩ := r1
    refine ⟨by show 0 ≤ sizeLine; exact Nat.zero_le _, fun c hc => .inr (.inr (.inl ⟨a, c, vs, rfl, rfl, SqL.of (Le.new hc _ _ (S1.gh _ _ ha)), SqL.of upd_same, ?_⟩))⟩
    rw [isEmpty_rep ra]
    exact q (.bl _) (.bl _) ρ1 G1 _ (h1 _) rfl (S1.le (Le.new hc)) l1) ke
end
end TL
set_option maxHeartbeats 4000000
namespace TL
open PySem PySem.Spec PyProof.Rows L2
def tTM (r : V → List V → Hp → VK → Prop) (to : TE) (t : TA) : TE := fun σ H Q => to σ H fun x H1 => (∃ p o xs, x = .ref p ∧ H1 p = some (.frz o (.tup xs)) ∧ o.dict = none) ∧ t σ H1 fun zs H2 => r x zs H2 Q
section
variable {X : Cx} {o e : Expr} {es : List Expr} {to : TE} {t : TA} {name : Str} {apos cpos : Pos} {id : String} {r : V → List V → Hp → VK → Prop}
theorem pe_tm (slot : Slot "tuple" name id) (hty : typeOf (.builtin id) = pure (.type "method_descriptor")) (hm : MtR X id r) (ho : PE X o to) (ha : PA X (e :: es) t)
    (hbase : attributeBase o name X.env (eval o X.env) = eval o X.env := by rfl)
    (hfew : ((backTo cpos (starEach (e :: es) X.env)).all (fun x => !x.1) && (backToKw cpos (keywordEach [] X.env)).all (fun x => x.1.isSome)
      && decide ((e :: es).length + ([] : List Keyword).length + (if ([] : List Keyword).isEmpty then 0 else 1) < 30)) = true := by rfl)
    (hline : (apos.endLine == cpos.line) = true := by rfl) (hs : starEach (e :: es) X.env = (false, eval e X.env) :: starEach es X.env := by rfl) (hplain : (backTo cpos (starEach es X.env)).any (·.1) = false := by rfl) :
    PE X (.Call (.Attribute o name apos) (e :: es) [] cpos) (tTM r to t) := by
  refine ⟨fun pins s σ H Q I h => ?_⟩
  refine wpAny_Call_method_late hbase hfew hline rfl (thn (ho.run pins s σ H _ I h) fun v s1 ⟨x, H1, I1, r1, ty, q1⟩ => ?_)
  obtain ⟨p, ob, xs, rfl, hp, hd⟩ := ty
  cases r1
  obtain ⟨e1, _, its, rv, o', h1, h2, _⟩ := (show ObjOk X.prog X.w H1 s1.heap p (.frz ob (.tup xs)) from I1.hok p _ hp)
  rw [e1] at h1
  cases h1
  refine ⟨"tuple", id, PySem.F.plainAttrs_tuple, slot, hty, ⟨ob, e1, h2⟩, fun a e => by cases e; exact ⟨ob, e1, hd⟩, ?_⟩
  have hA := ha.run cpos pins s1 σ H1 _ I1 q1
  rw [hs] at hA ⊢
  refine Calls.callWith_builtin (by show (false || (backTo cpos (starEach es X.env)).any (·.1)) = false; rw [hplain] <;> rfl) (Calls.evalArgs_plain ?_)
  exact thn hA fun us s2 ⟨vs, H2, I2, r2, q2⟩ => hm pins s2 σ H2 (.ref p) vs (.ref p) us Q I2 rfl r2 q2
end
def rTupN (K : PySem.W.Frag) : List V → Hp → VK → Prop := fun xs H Q => ∃ p ys, xs = [.ref p] ∧ ((SqL K H p ys ∧ ∀ (l : Addr) (o : Obj), H l = none → o.dict = none → Q (.ref l) (upd H l (.frz o (.tup ys)))) ∨ (SqT K H p ys ∧ Q (.ref p) H))
theorem uTupN {Y : Cx} : CallR Y (.type "tuple") (rTupN Y.K) := by
  intro pins s σ H xs us Q I r h
  obtain ⟨p, ys, rfl, h⟩ := h
  obtain ⟨u, rfl, rx⟩ := vals1 r
  cases rx
  rcases h with ⟨hq, q⟩ | ⟨hq, q⟩
  · obtain ⟨its, r', pl, hz⟩ := I.list hq
    have hlen := r'.length
    refine call_tuple_list pl.isList (fun h' kp => ?_) (by simp only [List.size_toArray] <;> omega)
    have I1 : Inv Y pins σ H { s with heap := h' } := I.kept (t' := s.toks) kp
    have I2 : Inv Y pins σ (upd H h'.objs.size (.frz { cls := .type "tuple", data := .seq its.toArray } (.tup ys))) { s with heap := h'.push { cls := .type "tuple", data := .seq its.toArray } } :=
      I1.laid (t' := s.toks) (fun b o e => Heap.get?_push_of_some _ e) (Nat.le_refl _) (show ObjOk Y.prog Y.w _ _ _ (.frz _ (.tup ys)) from ⟨Heap.get?_push_size _ rfl, hz, its, r', IsTup.new _ _⟩)
    exact ⟨.ref h'.objs.size, _, I2, rfl, q _ _ (I1.hok.fresh (Nat.le_refl _)) rfl⟩
  · obtain ⟨its, r', pl, hz⟩ := I.tuple hq
    exact call_tuple_same pl ⟨.ref p, H, I, rfl, q⟩
def fTupN : List T → (T → Prop) → Prop
  | [.lst xs], k => k (tpn xs)
  | [.tup xs], k => k (.tup xs)
  | _, _ => False
theorem tupNOk {K : PySem.W.Frag} : CbOk (rTupN K) fTupN := fun b G H σ ρ vs ts K' Q S r h q => by
  unfold fTupN at h
  split at h
  · obtain ⟨v, r0, rfl, ⟨a, ws, rfl, ha, ra⟩, rfl⟩ := r
    refine ⟨a, ws, rfl, .inl ⟨SqL.of (S.gh _ _ ha), fun l o hl hd => ?_⟩⟩
    have g := Grow.new (o := .frz o (.tup ws)) S.gh hl
    exact q _ _ _ _ h (Rep.tpnI upd_same hd (ra.up g.g)) (S.grow g) g.g
  · obtain ⟨v, r0, rfl, ⟨a, ws, rfl, ha, ra⟩, rfl⟩ := r
    exact ⟨a, ws, rfl, .inr ⟨sqR (S.gh.rd ha), q _ _ G H h ⟨a, ws, rfl, ha, ra⟩ S Le.rfl⟩⟩
  · cases h
end TL
set_option maxHeartbeats 4000000
namespace TL
open PySem PySem.Spec PyProof.Rows L2
def rDvmU : List V → Hp → VK → Prop := fun xs H Q => ∃ i j, xs = [.int i, .int j] ∧ CDiv i j ∧ ∀ p, H p = none → Q (.ref p) (upd H p (.tup [.int (i / j), .int (i % j)]))
def fDvm : List T → (T → Prop) → Prop
  | [.int i, .int j], k => CDiv i j ∧ k (.tup [.int (i / j), .int (i % j)])
  | _, _ => False
theorem dvmOk : CbOk rDvmU fDvm := fun b G H σ ρ vs ts K' Q S r h q => by
  unfold fDvm at h
  split at h
  · rename_i i j
    obtain ⟨v, r0, rfl, e1, w, r1, rfl, e2, rfl⟩ := r
    have e1 : v = _ := e1
    have e2 : w = _ := e2
    subst e1 e2
    refine ⟨_, _, rfl, h.1, fun l hl => ?_⟩
    have g := Grow.new (o := .tup [V.int (i / j), V.int (i % j)]) S.gh hl
    exact q _ _ _ _ h.2 ⟨l, _, rfl, .inl upd_same, _, _, rfl, rfl, _, _, rfl, rfl, rfl⟩ (S.grow g) g.g
  · cases h
section
variable {K : PySem.W.Frag} {E : WX} {X : XP} {ρ : Env} {te : TE} {Φ : V → T → Env → Prop} {Ψ : List T → Env → Prop}
/-- a field of an instance -/
theorem wE_fld {C : Addr} {f : Str} (c : Cls K C) (n : NoAttr K C f) (h : wE E X te ρ fun _ x ρ1 => ∃ (fs : List Str) (ts : List T) (i : Nat) (t : T), x = .ins C fs ts ∧ ts[i]? = some t ∧ (∀ vs : List V, vs.length = ts.length → (fs.zip vs).lookup f = vs[i]?) ∧ ∀ v, Φ v t ρ1) : wE E X (tFld K te f) ρ Φ := fun b G H σ Q S q ke =>
  h b G H σ _ S (fun v x ρ1 G1 H1 ⟨fs, ts, i, t, e, ht, hl, h1⟩ r S1 l1 => by
    subst e
    obtain ⟨a, dx, vs, rfl, le, ha, rv⟩ := r
    obtain ⟨w, hw, rw'⟩ := rv.getT ht
    exact ⟨a, C, dx, _, w, rfl, S1.gh _ _ ha, c, n, (hl vs rv.len).trans hw, q w t ρ1 G1 H1 (h1 w) rw' S1 l1⟩) ke
end
end TL
set_option maxHeartbeats 4000000
namespace TL
open PySem PySem.Spec PyProof.Rows L2
end TL
set_option maxHeartbeats 4000000
namespace TL
open PySem PySem.Spec PyProof.Rows L2
/-- all but what stands at x stays -/
structure GrowX (x : Addr) (G H G' H' : Hp) : Prop where
  g : Le G G'
  h : ∀ a o, a ≠ x → H a = some o → H' a = some o
  gh : Le G' H'
  fr : ∀ a, a ≠ x → H a ≠ none → G a = none → G' a = none
/-- an __init__: the fields fs of the new instance get the data zs -/
def spMk (C : Addr) (fs : List Str) (pre : List T → Prop) (post : List T → List T → Prop) (xc : List V → List T → Er → Prop) : Sp := fun vs H Q E => ∃ (x dx : Addr) (us : List V) (ts : List T) (G : Hp), vs = .ref x :: us ∧ H x = some (.ins C dx []) ∧ G x = none ∧ RepL G ts us ∧ Le G H ∧ pre ts ∧
  (∀ zs ws G' H', post ts zs → zs.length = fs.length → RepL G' zs ws → H' x = some (.ins C dx (fs.zip ws)) → G' x = none → GrowX x G H G' H' → Q .non H') ∧
  ∀ er od G' H', xc us ts er → ErAt H' od er.fs → GrowX x G H G' H' → E (.ref er.C) od H'
theorem spMk_len {C : Addr} {fs : List Str} {pre : List T → Prop} {post : List T → List T → Prop} {xc : List V → List T → Er → Prop} {n : Nat} (h : ∀ ts, pre ts → ts.length = n) : ∀ vs H Q E, spMk C fs pre post xc vs H Q E → vs.length = n + 1 := fun vs H Q E ⟨_, _, us, ts, G, e, _, _, r, _, hp, _⟩ => by rw [e, List.length_cons, r.len, h ts hp]
def tMakeS (C : Addr) (sp : Sp) (W : L2.St → XK) (t : TA) : TE := fun σ H Q => t σ H fun vs H1 => ∀ x dx, H1 x = none → H1 dx = none → dx ≠ x → sp (.ref x :: vs) (upd (upd H1 dx (.own x)) x (.ins C dx [])) (fun v H2 => v = .non ∧ Q (.ref x) H2) (W σ)
/-- a class whose __init__ is proved -/
structure OkM (P : Program) (w : World) (K : PySem.W.Frag) (mg : Str → Option Value) (base : Heap) (j : Nat) (x : Str) (ps : List Str) (kk : List (List Str × List Nat)) (sp : Sp) : Prop where
  gl : mg x = some (.ref (He.ga K x))
  mkc : Mk K (He.ga K x) (He.fAd K (x, some "__init__"))
  ex : ∃ fd : FuncData, FnOk P w K mg base (L2.CX P w) j (He.fAd K (x, some "__init__")) fd ps sp ∧ Binds K fd ps [] ∧ ∀ q ∈ kk, ∀ (u : Value) (ws : List Value), ws.length = q.1.length → bindArgs fd ⟨[u], q.1.zip ws⟩ = pure (ps.zip (u :: perm q.2 ws))
section
variable {X : Cx} {j : Nat} {x : Str} {p pos : Pos} {e : Expr} {es : List Expr} {kws : List Keyword} {t tk : TA} {ps ks : List Str} {kk : List (List Str × List Nat)} {π : List Nat} {sp : Sp} {W : WX}
theorem run_makeS {CX : CXT} {k : Nat} {f C : Addr} {fd : FuncData} {Z : XK} {pins : List (Addr × Obj)} {σ : L2.St} {H : Hp} {s : Shared} {Q : VK} {us ws : List Value} {kw : List (Str × Value)} {vs : List V} (M : Mk X.K C f) (F : FnOk X.prog X.w X.K X.mg X.base CX k f fd ps sp) (hr : Room (k + 1) X.A)
    (hx : PassesAt CX X σ Z) (I : Inv X pins σ H s) (r : Vals vs ws)
    (hb : ∀ (s' : Shared) (u : Value), X.K.In s'.heap → (u :: ws).length = ps.length → BindsTo s' fd ⟨u :: us, kw⟩ (ps.zip (u :: ws)))
    (h : ∀ x dx, H x = none → H dx = none → dx ≠ x → sp (.ref x :: vs) (upd (upd H dx (.own x)) x (.ins C dx [])) (fun v H2 => v = .non ∧ Q (.ref x) H2) Z) :
    wpAny (model X.prog X.w) X.A (call (.ref C) us kw) (EP X pins σ Q) X.xe s := by
  have hq := h (s.heap.objs.size + 1) s.heap.objs.size (I.hok.fresh (Nat.le_succ _)) (I.hok.fresh (Nat.le_refl _)) (Nat.ne_of_lt (Nat.lt_succ_self _))
  have I2 := Inv.made (C := C) I
  have r2 : Vals (V.ref (s.heap.objs.size + 1) :: vs) (Value.ref (s.heap.objs.size + 1) :: ws) := .cons rfl r
  have hl : (Value.ref (s.heap.objs.size + 1) :: ws).length = ps.length := by rw [← r2.length]; exact F.len _ _ _ _ hq
  refine wpAny_call (make_map (f := f) I.kIn M.makes M.init (beq_iff_eq.mp M.fn) (codeAny_mono (F.run _ X.stack _ _ ⟨Value.ref (s.heap.objs.size + 1) :: us, kw⟩ (Value.ref (s.heap.objs.size + 1) :: ws) _ _ Z (hr.make C us kw)
    (I2.env0.make C us kw) (hb _ (Value.ref (s.heap.objs.size + 1)) I2.kIn hl) r2 hq) fun r s' hq' => ?_))
  cases r with
  | error e => exact hx pins _ _ e s' I2 hq'
  | ok fl =>
    cases fl with
    | ret u =>
      obtain ⟨v, H', I3, rv, ev, q3⟩ := I2.after hq'
      subst ev
      exact ⟨rv, ⟨V.ref (s.heap.objs.size + 1), H', I3, rfl, q3⟩⟩
    | next => exact False.elim hq'
    | brk => exact False.elim hq'
    | cont => exact False.elim hq'
theorem pe_makeE (D : OkM X.prog X.w X.K X.mg X.base j x ps kk sp) (hr : Room (j + 1) X.A) (tk : Takes X W) (hg : Gl X x) (ha : PA X (e :: es) t)
    (hdb : (x == ("__debug__" : Str)) = false := by decide) (he : starEach (e :: es) X.env = (false, eval e X.env) :: starEach es X.env := by rfl) (hpl : (backTo pos (starEach es X.env)).any (·.1) = false := by rfl) :
    PE X (.Call (.Name x p) (e :: es) [] pos) (tMakeS (He.ga X.K x) sp (WE W) t) := by
  obtain ⟨fd, F, hb, _⟩ := D.ex
  refine ⟨fun pins s σ H Q I h => wpAny_Call_Name_kw (ld_glob I hg D.gl ?_ hdb)⟩
  refine PySem.W.callWith_K (h₀ := X.base) I.ok.mod.kin D.mkc.kp (thn (ha.run pos pins s σ H _ I h) fun us s1 ⟨vs, H1, I1, r, q⟩ => ⟨I1.kIn, ?_⟩) he hpl
  exact run_makeS D.mkc F hr (passAt tk σ) I1 r (fun s' u hk hl => by
    have := hb s' (u :: us) hk (by simpa using hl)
    simpa using this) q
end
theorem okM {P : Program} {w : World} {K : PySem.W.Frag} {mg : Str → Option Value} {base : Heap} {k : Nat} {x qual : Str} {params : Arguments} {body : List Stmt} {scope : Scope} {kws : List (Str × V)} {fd : FuncData} {N : List Str} {s0 : Str} {ps : List Str} {sp : Sp} (kk : List (List Str × List Nat))
    (gl : mg x = some (.ref (He.ga K x))) (mk : Mk K (He.ga K x) (He.fAd K (x, some "__init__"))) (F : FunD K "__init__" qual params body scope [] kws (He.fAd K (x, some "__init__")) fd) (S : FnScope N (s0 :: ps) scope)
    (len : ∀ vs H Q E, sp vs H Q E → vs.length = (s0 :: ps).length) (t : XK → TS)
    (walk : ∀ (cdv : Value) (A : Around) (outer : List PySem.Env) (s : Shared) (H : Hp) (E : XK), Room k (A.deeper (envOfC qual scope s.heap.objs.size (He.fAd K (x, some "__init__")) cdv)) → PSs (cxOf (L2.CX P w) P w K mg base N qual scope (He.fAd K (x, some "__init__")) cdv A outer s H E) body (t E))
    (run : ∀ (vs : List V) (H : Hp) (Q : VK) (E : XK), sp vs H Q E → t E { nx := fun _ H' => Q .non H', rt := Q } (L2.start N vs) H)
    (hb : ∀ (kV doc pm : Value) (an : Option Addr) (cdv ct : Value) (us : List Value), us.length = (s0 :: ps).length → bindArgs (PySem.W.fnOf "__init__" qual params body scope .none kV doc pm an cdv ct) ⟨us, []⟩ = pure ((s0 :: ps).zip us))
    (hk : ∀ q ∈ kk, ∀ (kV doc pm : Value) (an : Option Addr) (cdv ct : Value) (u : Value) (ws : List Value), ws.length = q.1.length → bindArgs (PySem.W.fnOf "__init__" qual params body scope .none kV doc pm an cdv ct) ⟨[u], q.1.zip ws⟩ = pure ((s0 :: ps).zip (u :: perm q.2 ws))) : OkM P w K mg base (k + 1) x (s0 :: ps) kk sp := by
  refine ⟨gl, mk, fd, F.ok S len (fun cdv A outer s H vs Q E hr h => ⟨t E, walk cdv A outer s H E hr, run vs H Q E h⟩), F.bindsN hb, fun q hq => ?_⟩
  obtain ⟨oc, od, dV, kV, doc, pm, an, cdv, ct, osl, rfl, lk, hcd, hD, hK⟩ := F.ex
  rcases hD with ⟨_, rfl⟩ | ⟨e, _⟩
  · exact hk q hq kV doc pm an cdv ct
  · exact absurd rfl e
section
variable {E : WX} {X : XP} {ρ : Env} {te : TE} {t u : TS} {Φ : V → T → Env → Prop} {i : Nat} {K : PySem.W.Frag} {P : Post} {C x dx : Addr} {fs fsE : List Str} {zs : List T} {Po : List T → Prop}
theorem wE_make {pre : List T → Prop} {post : List T → List T → Prop} {xc : List V → List T → Er → Prop} {ta : TA} (h : wA E X ta ρ fun vs ts ρ1 => pre ts ∧ (∀ zs v, post ts zs → Φ v (.ins C fs zs) ρ1) ∧ ∀ er, xc vs ts er → X er ρ1) :
    wE E X (tMakeS C (spMk C fs pre post xc) (WE E) ta) ρ Φ := fun b G H σ Q S q ke =>
  h b G H σ _ S (fun vs ts ρ1 G1 H1 ⟨h1, h2, h3⟩ r1 S1 l1 => fun x dx hx hd ne => by
    have hx' : upd H1 dx (.own x) x = none := by rw [upd_ne (fun z => ne z.symm)]; exact hx
    have l2 : Le H1 (upd (upd H1 dx (.own x)) x (.ins C dx [])) := (Le.new hd).tr (Le.new hx')
    have gx := S1.gh.back hx
    have bx := S1.bh.back hx
    have st : ∀ {G' H' : Hp}, GrowX x G1 (upd (upd H1 dx (.own x)) x (.ins C dx [])) G' H' → Grow G1 H1 G' H' := fun g =>
      ⟨g.g, fun a o e => g.h a o (fun z => by rw [z, hx] at e; cases e) (l2 a o e), g.gh, fun a n e => g.fr a (fun z => n (by rw [z]; exact hx)) (l2.some n) e⟩
    refine ⟨x, dx, vs, ts, G1, rfl, upd_same, gx, r1, S1.gh.tr l2, h1, fun zs ws G' H' po lz r hx2 gx2 g => ⟨rfl, ?_⟩, fun er od G' H' p a g => ke er ρ1 od G' H' (h3 er p) a (S1.grow (st g)) (l1.tr g.g)⟩
    have lg : Le G' (upd G' x (.ins C dx (fs.zip ws))) := Le.new gx2
    have g0 := st g
    have g2 : Grow G1 H1 (upd G' x (.ins C dx (fs.zip ws))) H' := ⟨g.g.tr lg, g0.h, fun a o e => by
      by_cases z : a = x
      · subst z; rw [upd_same] at e; cases e; exact hx2
      · rw [upd_ne z] at e; exact g.gh a o e, fun a n e => by
      have z : a ≠ x := fun z => n (by rw [z]; exact hx)
      rw [upd_ne z]; exact g0.fr a n e⟩
    exact q _ _ ρ1 _ H' (h2 zs _ po) ⟨x, dx, ws, rfl, lz.symm, upd_same, r.up lg⟩ (S1.grow g2) (l1.tr g2.g)) ke
/-- the last part of an __init__: what is stored so far stands at x -/
def wN (E : WX) (X : XP) (ts : TS) (ρ : Env) (x C dx : Addr) (fs : List Str) (zs : List T) (Po : List T → Prop) (fsE : List Str) : Prop :=
  ∀ (b : Bs) (G H : Hp) (σ : L2.St) (D : Ends) (ws : List V), Sta b G H σ ρ → b.B x = none → H x = some (.ins C dx (fs.zip ws)) → ws.length = fs.length → G x = none → RepL G zs ws →
  (∀ ρ' σ' G' H' zs' ws', Po zs' → RepL G' zs' ws' → zs'.length = fsE.length → H' x = some (.ins C dx (fsE.zip ws')) → G' x = none → Sta b G' H' σ' ρ' → Le G G' → D.nx σ' H') → KErrS E X b G → ts D σ H
theorem notOwn {b : Bs} {G H : Hp} {σ : L2.St} {fl : List (Str × V)} (S : Sta b G H σ ρ) (hx : H x = some (.ins C dx fl)) : ¬ Own ρ x := fun ⟨j, Pd, e⟩ => by
  obtain ⟨_, _, _, h, _⟩ := S.own j x Pd e
  rw [hx] at h; cases h
/-- a check ahead of the stores -/
theorem wN_seq (h : wS E X t ρ { nx := fun ρ1 => wN E X u ρ1 x C dx fs zs Po fsE }) : wN E X (tSeq t u) ρ x C dx fs zs Po fsE := fun b G H σ D ws S bx hx lw gx r k ke => by
  have no := notOwn S hx
  have gn : H x ≠ none := by rw [hx]; exact fun z => nomatch z
  refine h ⟨cutB H ρ, G⟩ G H σ { D with nx := u D } S.inB ⟨fun ρ' σ' G' H' p S' l => ?_, fun _ _ _ _ _ _ p => p.elim, fun _ _ _ _ _ _ _ p => p.elim, fun _ _ _ _ p => p.elim, fun _ _ _ _ p => p.elim⟩ fun σ er ρ' od G' H' x a S' l => ke σ er ρ' od G' H' x a (S.outB S') l
  have kp := kept_of S'
  exact p b G' H' σ' D ws (S.outB S') bx (kp.h x _ no hx) lw (kp.g x no gn gx) (r.up l) (fun ρ2 σ2 G2 H2 zs' ws' po r' lz h2 g2 S2 l2 => k ρ2 σ2 G2 H2 zs' ws' po r' lz h2 g2 S2 (l.tr l2)) fun σ => (ke σ).up l
theorem putF_new {f : Str} {v : V} : ∀ {fs : List Str} {ws : List V}, f ∉ fs → ws.length = fs.length → putF f v (fs.zip ws) = (fs ++ [f]).zip (ws ++ [v])
  | [], [], _, _ => rfl
  | g :: fs, w :: ws, h, l => by
    show (if g = f then _ else _) = _
    rw [if_neg (fun z => h (by rw [z]; exact List.mem_cons_self ..))]
    have ih := putF_new (f := f) (v := v) (fs := fs) (ws := ws) (fun z => h (List.mem_cons_of_mem _ z)) (by simpa using l)
    show (g, w) :: putF f v (fs.zip ws) = _
    rw [ih]
    rfl
theorem wN_sto1 {f : Str} {b : Bs} {G H : Hp} {σ : L2.St} {D : Ends} {ws : List V} (c : Cls K C) (n : NoAttr K C f) (h : wE E X te ρ fun v z ρ1 => ρ1[i]? = some (.x (.ref x) (.raw (.ref x))) ∧ f ∉ fs ∧ fs.length < 1000 ∧ Φ v z ρ1)
    (S : Sta b G H σ ρ) (bx : b.B x = none) (hx : H x = some (.ins C dx (fs.zip ws))) (lw : ws.length = fs.length) (gx : G x = none) (r : RepL G zs ws)
    (k : ∀ ρ1 G1 H1 v z, Φ v z ρ1 → Sta b G1 H1 σ ρ1 → H1 x = some (.ins C dx ((fs ++ [f]).zip (ws ++ [v]))) → G1 x = none → RepL G1 (zs ++ [z]) (ws ++ [v]) → Le G G1 → D.nx σ H1) (ke : KErrS E X b G) : sFld K (tVar i) te f D σ H := by
  have no := notOwn S hx
  have gn : H x ≠ none := by rw [hx]; exact fun z => nomatch z
  refine wE_fr h S (fun v z ρ1 G1 H1 ⟨e, nf, lf, p⟩ rz S1 l1 kp => ?_) (ke σ)
  have h1 := kp.h x _ no hx
  have g1 := kp.g x no gn gx
  obtain ⟨a, _⟩ := S1.ex i _ _ e
  have no1 := notOwn S1 h1
  refine ⟨_, a, x, C, dx, _, rfl, h1, c, n, by rw [List.length_zip]; omega, ?_⟩
  rw [putF_new nf lw]
  exact k ρ1 G1 _ v z p (S1.wrNew g1 bx no1) upd_same g1 (RepL.app (r.up l1) (RepL.one rz)) l1
/-- self.f = e, then more -/
theorem wN_sto {f : Str} (c : Cls K C) (n : NoAttr K C f) (h : wE E X te ρ fun _ z ρ1 => ρ1[i]? = some (.x (.ref x) (.raw (.ref x))) ∧ f ∉ fs ∧ fs.length < 1000 ∧ wN E X u ρ1 x C dx (fs ++ [f]) (zs ++ [z]) Po fsE) : wN E X (tSeq (sFld K (tVar i) te f) u) ρ x C dx fs zs Po fsE := fun b G H σ D ws S bx hx lw gx r k ke =>
  wN_sto1 (D := { D with nx := u D }) c n h S bx hx lw gx r (fun ρ1 G1 H1 v z p S1 h1 g1 r1 l1 => p b G1 H1 σ D _ S1 bx h1 (by rw [List.length_append, List.length_append, lw]; rfl) g1 r1 (fun ρ2 σ2 G2 H2 zs' ws' po r' lz h2 g2 S2 l2 => k ρ2 σ2 G2 H2 zs' ws' po r' lz h2 g2 S2 (l1.tr l2)) fun σ => (ke σ).up l1) ke
/-- self.f = e, the last one -/
theorem wN_end {f : Str} (c : Cls K C) (n : NoAttr K C f) (h : wE E X te ρ fun _ z ρ1 => ρ1[i]? = some (.x (.ref x) (.raw (.ref x))) ∧ f ∉ fs ∧ fs.length < 1000 ∧ fs ++ [f] = fsE ∧ Po (zs ++ [z])) : wN E X (sFld K (tVar i) te f) ρ x C dx fs zs Po fsE := fun b G H σ D ws S bx hx lw gx r k ke =>
  wN_sto1 (Φ := fun _ z _ => fs ++ [f] = fsE ∧ Po (zs ++ [z])) c n h S bx hx lw gx r (fun ρ1 G1 H1 v z ⟨e, po⟩ S1 h1 g1 r1 l1 => k ρ1 σ G1 H1 _ _ po r1 (by rw [← e, ← r1.len, List.length_append, List.length_append, lw]; rfl) (by rw [← e]; exact h1) g1 S1 l1) ke
end
theorem run_sMk {C : Addr} {fs : List Str} {pre : List T → Prop} {post : List T → List T → Prop} {xc : List V → List T → Er → Prop} {N : List Str} {tb : XK → TS} {vs : List V} {H : Hp} {Q : VK} {E : XK} (h : spMk C fs pre post xc vs H Q E)
    (body : ∀ x dx us ts, us.length = ts.length → pre ts → wN (WD E) (fun er _ => xc us ts er) (tb E) (envOf N.length (.ref x :: us) (.raw (.ref x) :: ts)) x C dx [] [] (post ts) fs) :
    tb E { nx := fun _ H' => Q .non H', rt := Q } (L2.start N vs) H := by
  obtain ⟨x, dx, us, ts, G, rfl, hx, gx, r, gh, pr, k, kx⟩ := h
  have l0 : Le (lessP H x) H := fun a o h => by
    by_cases z : a = x
    · rw [z, lessP_at] at h; cases h
    · rw [lessP_ne z] at h; exact h
  have S : Sta ⟨lessP H x, G⟩ G H (L2.start N (.ref x :: us)) (envOf N.length (.ref x :: us) (.raw (.ref x) :: ts)) := sta_start l0 Le.rfl gh (fun _ _ h => h) ⟨_, _, rfl, rfl, r⟩
  have gr : ∀ {G' H' : Hp} {σ' : L2.St} {ρ' : Env}, Sta ⟨lessP H x, G⟩ G' H' σ' ρ' → GrowX x G H G' H' := fun S' => ⟨S'.g0, fun a o n e => S'.bh a o (by show lessP H x a = some o; rw [lessP_ne n]; exact e), S'.gh, fun a n e g => S'.fr a (by show lessP H x a ≠ none; rw [lessP_ne n]; exact e) g⟩
  exact body x dx us ts r.len pr ⟨lessP H x, G⟩ G H _ _ [] S lessP_at hx rfl gx rfl (fun ρ' σ' G' H' zs' ws' po r' lz h' g' S' _ => k zs' ws' G' H' po lz r' h' g' (gr S')) fun σ er ρ' od G' H' xx a S' _ => kx er od G' H' xx a (gr S')
end TL
set_option maxHeartbeats 4000000
namespace TL
open PySem PySem.Spec PyProof.Rows L2
section
variable {X : Cx}
def gUnp (n : Nat) (t : TGs) : TG := fun v σ H Q => ∃ a xs, v = .ref a ∧ H a = some (.lst xs) ∧ xs.length = n ∧ t xs σ H Q
theorem pg_unp {es : List Expr} {k : Nat} {pos : Pos} {t : TGs} {n : Nat} (hc : X.calm = true) (h : PGs X es t)
    (hn : (assignEach es X.env).length = n := by rfl) (hst : (assignEach es X.env).findIdx? (·.1) = none := by rfl) : PG X (.Tuple es k pos) (gUnp n t) := by
  refine ⟨fun pins s σ H v u Q I r hw => ?_⟩
  obtain ⟨a, xs, e1, hq, hl, hw⟩ := hw
  subst e1
  cases r
  obtain ⟨its, rv, pl, hz⟩ := I.list (SqL.of hq)
  rw [assign_Tuple]
  refine wpAny_bind (wpAny_standAt ?_)
  have ht : s.heap.IsList a its.toArray := pl.isList
  have e2 : its.toArray.size = n := by simp [← hl, rv.length]
  unfold unpack
  rw [hst, hn, ← e2]
  refine wpAny_bind (wpAny_holding (PySem.W.kun_itemsOf (I.ok.hd hc) ht fun h' hx => ?_))
  have I1 : Inv X pins σ H { s with heap := h' } := I.kept (t' := s.toks) fun b o e => hx b o (Nat.ne_of_lt (Heap.lt_size e)) e
  exact h.run pins _ σ H xs _ Q I1 (by simpa using rv) hw
end
section
variable {ρ : Env}
theorem wG_unp {Φ : Env → Prop} {xs : List T} {v : V} {n : Nat} {gs : TGs} (hn : xs.length = n) (h : ∀ vs, vs.length = n → wGs gs xs vs ρ Φ) : wG (gUnp n gs) (.lst xs) v ρ Φ := fun b G H σ Q S r q => by
  obtain ⟨a, vs, e, h1, h2⟩ := r
  subst e
  exact ⟨a, vs, rfl, S.gh _ _ h1, by rw [h2.len]; exact hn, h vs (by rw [h2.len]; exact hn) b G H σ Q S h2 q⟩
end
end TL
set_option maxHeartbeats 4000000
namespace TL
open PySem PySem.Spec PyProof.Rows L2
section
variable {X : Cx}
def isNone : Value → Bool
  | .none => true
  | _ => false
end
end TL
set_option maxHeartbeats 4000000
namespace TL
open PySem PySem.Spec PyProof.Rows L2
inductive It2 where
  | old (t : T) | new (us : List T)
def RepN (b : Bs) (G H : Hp) (ρ : Env) : List It2 → List V → Prop
  | [], vs => vs = []
  | .old t :: is, vs => ∃ v r, vs = v :: r ∧ Rep G t v ∧ RepN b G H ρ is r
  | .new us :: is, vs => ∃ p ws r, vs = .ref p :: r ∧ H p = some (.lst ws) ∧ G p = none ∧ b.B p = none ∧ RepL G us ws ∧ ¬ Own ρ p ∧ RepN b G H ρ is r
structure KeptO (G H G' H' : Hp) (ρ ρ' : Env) : Prop where
  k : Kept G H G' H' ρ
  o : ∀ a, ¬ Own ρ a → H a ≠ none → ¬ Own ρ' a
  l : Le G G'
theorem KeptO.some {G H G' H' : Hp} {ρ ρ' : Env} (k : KeptO G H G' H' ρ ρ') {a : Addr} (h : ¬ Own ρ a) (n : H a ≠ none) : H' a ≠ none := by
  cases z : H a with
  | none => exact absurd z n
  | some o => rw [k.k.h a o h z]; exact fun z => nomatch z
theorem KeptO.tr {G H G1 H1 G2 H2 : Hp} {ρ ρ1 ρ2 : Env} (x : KeptO G H G1 H1 ρ ρ1) (y : KeptO G1 H1 G2 H2 ρ1 ρ2) : KeptO G H G2 H2 ρ ρ2 :=
  ⟨⟨fun a o n h => y.k.h a o (x.o a n (by rw [h]; exact fun z => nomatch z)) (x.k.h a o n h), fun a n h g => y.k.g a (x.o a n h) (x.some n h) (x.k.g a n h g)⟩, fun a n h => y.o a (x.o a n h) (x.some n h), x.l.tr y.l⟩
theorem RepN.step {b : Bs} {G H G' H' : Hp} {ρ ρ' : Env} (k : KeptO G H G' H' ρ ρ') : ∀ {is : List It2} {vs : List V}, RepN b G H ρ is vs → RepN b G' H' ρ' is vs
  | [], _, h => h
  | .old t :: is, _, ⟨v, r, e, h1, h2⟩ => ⟨v, r, e, h1.up k.l, h2.step k⟩
  | .new us :: is, _, ⟨p, ws, r, e, h1, h2, h3, h4, h5, h6⟩ => ⟨p, ws, r, e, k.k.h p _ h5 h1, k.k.g p h5 (by rw [h1]; exact fun z => nomatch z) h2, h3, h4.up k.l, k.o p h5 (by rw [h1]; exact fun z => nomatch z), h6.step k⟩
theorem RepN.len {b : Bs} {G H : Hp} {ρ : Env} : ∀ {is : List It2} {vs : List V}, RepN b G H ρ is vs → vs.length = is.length
  | [], _, h => by rw [show _ = _ from h]; rfl
  | .old t :: is, _, ⟨v, r, e, _, h2⟩ => by rw [e, List.length_cons, List.length_cons, h2.len]
  | .new us :: is, _, ⟨p, ws, r, e, _, _, _, _, _, h6⟩ => by rw [e, List.length_cons, List.length_cons, h6.len]
theorem RepN.get {b : Bs} {G H : Hp} {ρ : Env} : ∀ {is : List It2} {vs : List V} {i : Nat} {x : It2}, RepN b G H ρ is vs → is[i]? = some x → ∃ v, vs[i]? = some v ∧ match x with
    | .old t => Rep G t v
    | .new us => ∃ p ws, v = .ref p ∧ H p = some (.lst ws) ∧ G p = none ∧ b.B p = none ∧ RepL G us ws ∧ ¬ Own ρ p
  | [], _, i, x, _, e => by simp at e
  | .old t :: is, _, 0, x, ⟨v, r, h0, h1, h2⟩, e => by simp at e; subst e; exact ⟨v, by rw [h0]; rfl, h1⟩
  | .old t :: is, _, i + 1, x, ⟨v, r, h0, h1, h2⟩, e => by
    obtain ⟨v, a, c⟩ := RepN.get (i := i) (x := x) h2 (by simpa using e)
    exact ⟨v, by rw [h0]; simpa using a, c⟩
  | .new us :: is, _, 0, x, ⟨p, ws, r, h0, h1, h2, h3, h4, h5, h6⟩, e => by simp at e; subst e; exact ⟨_, by rw [h0]; rfl, p, ws, rfl, h1, h2, h3, h4, h5⟩
  | .new us :: is, _, i + 1, x, ⟨p, ws, r, h0, h1, h2, h3, h4, h5, h6⟩, e => by
    obtain ⟨v, a, c⟩ := RepN.get (i := i) (x := x) h6 (by simpa using e)
    exact ⟨v, by rw [h0]; simpa using a, c⟩
end TL
set_option maxHeartbeats 4000000
namespace TL
open PySem PySem.Spec PyProof.Rows L2
end TL
namespace TL
open PySem PySem.Spec PyProof.Rows L2
def ownB (x : Str) (K : PySem.W.Frag) : Bool := clsB x K && decide (PySem.W.findIn K (.ref (He.ga K x)) "__class__" = some (some (.builtin "object.__class__"))) && decide (PySem.W.specialIn K (.builtin "object.__class__") "__get__" = some (some (.builtin "getset_descriptor.__get__"))) &&
  decide (PySem.W.takesIn K (.builtin "object.__class__") = some true) && decide (PySem.W.mroIn K (He.ga K x) (.type "object") = some true) && decide (PySem.W.findIn K (.ref (He.ga K x)) "__ne__" = some (some (.builtin "object.__ne__"))) &&
  decide (PySem.W.subIn K (.ref (He.ga K x)) (.type "object") = some true) && tys.all fun m => PySem.W.notFirst K (He.ga K x) (.type m)
structure OwnK (K : PySem.W.Frag) (x : Str) : Prop where
  is : ClsIs K x
  ha : PySem.W.findIn K (.ref (He.ga K x)) "__class__" = some (some (.builtin "object.__class__"))
  hn : PySem.W.specialIn K (.builtin "object.__class__") "__get__" = some (some (.builtin "getset_descriptor.__get__"))
  ht : PySem.W.takesIn K (.builtin "object.__class__") = some true
  hm : PySem.W.mroIn K (He.ga K x) (.type "object") = some true
  ne : PySem.W.findIn K (.ref (He.ga K x)) "__ne__" = some (some (.builtin "object.__ne__"))
  ob : PySem.W.subIn K (.ref (He.ga K x)) (.type "object") = some true
  nf : ∀ m ∈ tys, PySem.W.notFirst K (He.ga K x) (.type m) = true
theorem ownK_of {K : PySem.W.Frag} {x : Str} (h : ownB x K = true) : OwnK K x := by
  unfold ownB at h
  simp only [Bool.and_eq_true, decide_eq_true_eq, List.all_eq_true] at h
  exact ⟨clsIs_of h.1.1.1.1.1.1.1, h.1.1.1.1.1.1.2, h.1.1.1.1.1.2, h.1.1.1.1.2, h.1.1.1.2, h.1.1.2, h.1.2, h.2⟩
/-- an own class: its instances are made, read, asked for their class, compared -/
structure OwnC (K : PySem.W.Frag) (x : Str) (fs : List Str) : Prop where
  cl : Cls K (He.ga K x)
  na : ∀ f ∈ fs, NoAttr K (He.ga K x) f
  k : OwnK K x
theorem OwnC.ins {K : PySem.W.Frag} {x : Str} {fs : List Str} (c : OwnC K x fs) : InsOk K (He.ga K x) := ⟨c.cl, c.k.ha, c.k.hn, c.k.ht, c.k.hm⟩
end TL
namespace TL
open PySem PySem.Spec PyProof.Rows L2
end TL
set_option maxHeartbeats 0
namespace K10
open PySem PySem.Spec PyProof.Rows L2 TL
def top (i : Nat) : Stmt := PySem.Challenge.pw_stillaboard_k10_later_shortest_followed.main.body.getD i (.Pass ⟨0, 0, 0, 0⟩)
def dd (x : Str) (i : Nat) : He.DefD := ⟨(x, none), x, x, defArgs (top i), defBody (top i), defScope (top i), [], []⟩
def dm (c q m : Str) (i : Nat) : He.DefD := ⟨(c, some m), m, q, defArgs (inClass (top i) 0), defBody (inClass (top i) 0), defScope (inClass (top i) 0), [], []⟩
def dn (c q m : Str) (i k : Nat) : He.DefD := ⟨(c, some m), m, q, defArgs (inClass (top i) k), defBody (inClass (top i) k), defScope (inClass (top i) k), [], []⟩
def fn : List He.DefD := ([dm "InvalidBack" "InvalidBack.__init__" "__init__" 3, dm "InvalidHouses" "InvalidHouses.__init__" "__init__" 4, dm "InvalidMoments" "InvalidMoments.__init__" "__init__" 5, dm "InvalidReaders" "InvalidReaders.__init__" "__init__" 6, dm "InvalidTick" "InvalidTick.__init__" "__init__" 7, dm "Ended" "Ended.__init__" "__init__" 8, dm "TooMany" "TooMany.__init__" "__init__" 10, dn "Sky" "Sky.__init__" "__init__" 30 0, dn "Sky" "Sky.__eq__" "__eq__" 30 1, dd "_wall" 0, dd "is_whole" 12, dd "is_between" 13, dd "is_list" 14, dd "is_tuple_of" 15, dd "are_between" 16, dd "is_ascending" 17, dd "is_subset" 18, dd "are_receivers" 19, dd "is_frame" 27, dd "is_moment" 28, dd "are_moments" 29, dd "check_tick" 31, dd "moment_at" 32, dd "moment_of" 33] : List He.DefD) ++ ([dd "least_ring" 34, dd "shortest_of" 35, dd "shortest_sky" 36, dd "later_sky" 37, dd "followed_by" 38, dd "_law_cell" 40, dd "_law_box" 41, dd "_law_take" 42, dd "_law_same" 43, dd "_law_whole" 44, dd "_law_subset" 45, dd "_law_a_moment" 46, dd "_law_index" 47, dd "_law_shortest" 48, dd "_law_later" 49, dd "_law_plain" 50, dd "_law_made" 51, dd "_law_long" 52, dd "_law_ask" 53, dd "_law_later_due" 54, dd "_law_followed_due" 55, dd "_law_pair" 56, dd "_law_same_ticks" 57, dd "law" 58] : List He.DefD)
def glos : List Str := (["AboardError", "InvalidBack", "InvalidHouses", "InvalidMoments", "InvalidReaders", "InvalidTick", "Ended", "NeverEnds", "TooMany", "Sky", "_wall", "is_whole", "is_between", "is_list", "is_tuple_of", "are_between", "is_ascending", "is_subset", "are_receivers", "is_frame", "is_moment", "are_moments", "check_tick", "moment_at"] : List Str) ++ (["moment_of", "least_ring", "shortest_of", "shortest_sky", "later_sky", "followed_by", "_law_cell", "_law_box", "_law_take", "_law_same", "_law_whole", "_law_subset", "_law_a_moment", "_law_index", "_law_shortest", "_law_later", "_law_plain", "_law_made", "_law_long", "_law_ask", "_law_later_due", "_law_followed_due", "_law_pair", "_law_same_ticks"] : List Str) ++ (["law"] : List Str)
def frees : List Str := ["abs", "all", "bool", "int", "isinstance", "len", "list", "max", "min", "range", "str", "sum", "tuple"]
def fa : List He.Fa := glos.map He.Fa.glo ++ frees.map He.Fa.free ++ [.int "MOST_HOUSES" 3, .int "MOST_READERS" 3, .int "MOST_MOMENTS" 24, .int "MOST_TAKEN" 4, .int "MOST_AGE" 8, .int "MOST_TICK" 1000000000000000] ++ [.cls "Sky", .mkr "Sky", .noat "Sky" "houses", .noat "Sky" "readers", .noat "Sky" "moments", .noat "Sky" "back", .meth "Sky" "__eq__"]
def ex : List (PySem.W.Frag → Bool) := ([exMkB "InvalidBack" ["given"], exMkB "InvalidHouses" ["given"], exMkB "InvalidMoments" ["given"], exMkB "InvalidReaders" ["given"], exMkB "InvalidTick" ["given"], exMkB "Ended" ["ticks"], exMkB "TooMany" ["count"], exPlB "AboardError", exPlB "NeverEnds", ownB "Sky", exmB "InvalidBack" "AboardError" true, exmB "InvalidBack" "InvalidBack" true, exmB "InvalidBack" "InvalidHouses" false, exmB "InvalidBack" "InvalidMoments" false, exmB "InvalidBack" "InvalidReaders" false, exmB "InvalidBack" "InvalidTick" false, exmB "InvalidBack" "Ended" false, exmB "InvalidBack" "NeverEnds" false, exmB "InvalidBack" "TooMany" false, exmB "InvalidHouses" "AboardError" true, exmB "InvalidHouses" "InvalidBack" false, exmB "InvalidHouses" "InvalidHouses" true, exmB "InvalidHouses" "InvalidMoments" false, exmB "InvalidHouses" "InvalidReaders" false] : List (PySem.W.Frag → Bool)) ++ ([exmB "InvalidHouses" "InvalidTick" false, exmB "InvalidHouses" "Ended" false, exmB "InvalidHouses" "NeverEnds" false, exmB "InvalidHouses" "TooMany" false, exmB "InvalidMoments" "AboardError" true, exmB "InvalidMoments" "InvalidBack" false, exmB "InvalidMoments" "InvalidHouses" false, exmB "InvalidMoments" "InvalidMoments" true, exmB "InvalidMoments" "InvalidReaders" false, exmB "InvalidMoments" "InvalidTick" false, exmB "InvalidMoments" "Ended" false, exmB "InvalidMoments" "NeverEnds" false, exmB "InvalidMoments" "TooMany" false, exmB "InvalidReaders" "AboardError" true, exmB "InvalidReaders" "InvalidBack" false, exmB "InvalidReaders" "InvalidHouses" false, exmB "InvalidReaders" "InvalidMoments" false, exmB "InvalidReaders" "InvalidReaders" true, exmB "InvalidReaders" "InvalidTick" false, exmB "InvalidReaders" "Ended" false, exmB "InvalidReaders" "NeverEnds" false, exmB "InvalidReaders" "TooMany" false, exmB "InvalidTick" "AboardError" true, exmB "InvalidTick" "InvalidBack" false] : List (PySem.W.Frag → Bool)) ++ ([exmB "InvalidTick" "InvalidHouses" false, exmB "InvalidTick" "InvalidMoments" false, exmB "InvalidTick" "InvalidReaders" false, exmB "InvalidTick" "InvalidTick" true, exmB "InvalidTick" "Ended" false, exmB "InvalidTick" "NeverEnds" false, exmB "InvalidTick" "TooMany" false, exmB "Ended" "AboardError" true, exmB "Ended" "InvalidBack" false, exmB "Ended" "InvalidHouses" false, exmB "Ended" "InvalidMoments" false, exmB "Ended" "InvalidReaders" false, exmB "Ended" "InvalidTick" false, exmB "Ended" "Ended" true, exmB "Ended" "NeverEnds" false, exmB "Ended" "TooMany" false, exmB "NeverEnds" "AboardError" true, exmB "NeverEnds" "InvalidBack" false, exmB "NeverEnds" "InvalidHouses" false, exmB "NeverEnds" "InvalidMoments" false, exmB "NeverEnds" "InvalidReaders" false, exmB "NeverEnds" "InvalidTick" false, exmB "NeverEnds" "Ended" false, exmB "NeverEnds" "NeverEnds" true] : List (PySem.W.Frag → Bool)) ++ ([exmB "NeverEnds" "TooMany" false, exmB "TooMany" "AboardError" true, exmB "TooMany" "InvalidBack" false, exmB "TooMany" "InvalidHouses" false, exmB "TooMany" "InvalidMoments" false, exmB "TooMany" "InvalidReaders" false, exmB "TooMany" "InvalidTick" false, exmB "TooMany" "Ended" false, exmB "TooMany" "NeverEnds" false, exmB "TooMany" "TooMany" true] : List (PySem.W.Frag → Bool))
abbrev R : PySem.W.OpenRow := PySem.W.OpenLaw.row PySem.Challenge.rw_stillaboard_k10_later_shortest_followed
abbrev hk : PySem.W.Hook := hookL 5 fa fn ex
def ob (s : PySem.W.SharedT) : AlL := obsL 5 fa fn ex (HandSHeadRun.getT s)
theorem ob_eq (s : PySem.W.SharedT) : ob s = hk.obs s.abs := obsL_eq (HandSHeadRun.getT_eq s)
def loose : List Str := (["AboardError", "InvalidBack", "InvalidHouses", "InvalidMoments", "InvalidReaders", "InvalidTick", "Ended", "NeverEnds", "TooMany", "Sky", "_wall", "is_whole", "is_between", "is_list", "is_tuple_of", "are_between", "is_ascending", "is_subset", "are_receivers", "is_frame", "is_moment", "are_moments", "check_tick", "moment_at"] : List Str) ++ (["moment_of", "least_ring", "shortest_of", "shortest_sky", "later_sky", "followed_by", "_law_cell", "_law_box", "_law_take", "_law_same", "_law_whole", "_law_subset", "_law_a_moment", "_law_index", "_law_shortest", "_law_later", "_law_plain", "_law_made", "_law_long", "_law_ask", "_law_later_due", "_law_followed_due", "_law_pair", "_law_same_ticks"] : List Str) ++ (["MOST_HOUSES", "MOST_READERS", "MOST_MOMENTS", "MOST_TAKEN", "MOST_AGE", "MOST_TICK"] : List Str)
theorem run (w : World) : HandSHeadRun.RunEq R (PySem.W.view R.prog [58]) hk ob 4000 loose w := by
  intro os
  kernel_rfl
end K10
namespace K1
/-- n is a prime: no number from 2 on, whose square is at most n, divides it -/
def Pr (n : Nat) : Prop := 2 ≤ n ∧ ∀ f, 2 ≤ f → f * f ≤ n → ¬ f ∣ n
instance (n : Nat) : Decidable (∀ f, f ≤ n → 2 ≤ f → f * f ≤ n → ¬ f ∣ n) := Nat.decidableBallLE n _
theorem pr_iff {n : Nat} : Pr n ↔ 2 ≤ n ∧ ∀ f, f ≤ n → 2 ≤ f → f * f ≤ n → ¬ f ∣ n := by
  constructor
  · intro h
    exact ⟨h.1, fun f _ h1 h2 => h.2 f h1 h2⟩
  · intro h
    refine ⟨h.1, fun f h1 h2 => h.2 f (Nat.le_trans ?_ h2) h1 h2⟩
    exact Nat.le_mul_of_pos_left f (by omega)
instance (n : Nat) : Decidable (Pr n) := decidable_of_iff _ pr_iff.symm
/-- the search -/
def prB (n : Nat) : Bool := decide (Pr n) && Nat.ble n 1000003
def srch : Nat → Nat → Nat
  | 0, n => n
  | k + 1, n => if prB n = true then n else srch k (n + 1)
def after (n : Nat) : Nat := srch 199 (n + 1)
end K1
set_option maxHeartbeats 4000000
namespace TC
open PySem PySem.Spec PyProof.Rows L2 TL
structure Ok1 (K : PySem.W.Frag) (x : T) : Prop where
  ok : tyOk K x
  is : ∀ m ∈ tysC, PySem.W.kitOne K (tyT x) (.type m) = some (isTy x m)
def btw (x : T) (l m : Int) : Bool := match x with
  | .int i => decide (l ≤ i) && decide (i ≤ m)
  | _ => false
def isW (x : T) : Bool := match x with
  | .int _ => true
  | _ => false
def prT (x : T) : Bool := match x with
  | .int i => btw (.int i) 2 1000003 && K1.prB i.toNat
  | _ => false
def Bx (n : Nat) (us : List T) : Prop := ∃ (a m j : Int) (c : Bool), us = [.int a, .bl c, .int m, .int j] ∧ 0 ≤ a ∧ 0 ≤ m ∧ m < 2147483629 ∧ 0 ≤ j ∧ j + n ≤ 1000000
abbrev noX : List V → List T → Er → Prop := fun _ _ _ => False
def sp_is_whole (K : PySem.W.Frag) : Sp := sP (fun ts => ∃ x, ts = [x] ∧ Ok1 K x) (fun ts t => ∀ x, ts = [x] → t = .bl (isW x)) noX
def sp_is_between (K : PySem.W.Frag) : Sp := sP (fun ts => ∃ x l m, ts = [x, .int l, .int m] ∧ Ok1 K x) (fun ts t => ∀ x l m, ts = [x, .int l, .int m] → t = .bl (btw x l m)) noX
def sp_law_cell (K : PySem.W.Frag) : Sp := sP (fun ts => ∃ (ns : List Int) (t : T) (k : Nat), ts = [t, .int k] ∧ ScrT K t ns ∧ k ≤ 1000) (fun _ t => ∃ i : Int, t = .int i) noX
def sp_law_box (K : PySem.W.Frag) : Sp := sF (fun ts => ∃ i : Int, ts = [.int i]) (fun _ us => Bx 1000000 us) noX
def sp_law_take (K : PySem.W.Frag) : Sp := sO (fun n => Bx (n + 1)) Bx (fun ts => ∃ m : Int, ts = [.int m] ∧ 0 < m ∧ m ≤ 1000000000000000) (fun ts t => ∀ m : Int, ts = [.int m] → ∃ d : Int, t = .int d ∧ 0 ≤ d ∧ d < m) noX
def sp_law_whole (K : PySem.W.Frag) : Sp := sP (fun ts => ∃ x l m, ts = [x, .int l, .int m] ∧ Ok1 K x) (fun ts t => ∀ x l m, ts = [x, .int l, .int m] → t = .bl (btw x l m)) noX
abbrev N_is_whole : List Str := ["value"]
def t_is_whole (K : PySem.W.Frag) (E : XK) : TS := (tRet (tAndV (tCB (rIsiU K) (tCons (tVar 0) (tCons (tC (.ty "int")) tNil))) (tNotV (tCB (rIsiU K) (tCons (tVar 0) (tCons (tC (.ty "bool")) tNil))))))
abbrev N_is_between : List Str := ["value", "least", "most"]
def t_is_between (K : PySem.W.Frag) (E : XK) : TS := (tRet (tAndV (tCallS (sp_is_whole K) (WE (WD E)) (tCons (tVar 0) tNil)) (tChain rLeU rLeU (tVar 1) (tVar 0) (tVar 2))))
abbrev N_law_cell : List Str := ["script", "k"]
def t_law_cell (K : PySem.W.Frag) (E : XK) : TS := (tRet (tIf (tTest (tOp rLtU (tVar 1) (tCB (rLenU K) (tCons (tVar 0) tNil)))) (tOp (rIx K) (tVar 0) (tVar 1)) (tOp (rAddU K) (tOp (rMulU K) (tC (.int 6007)) (tVar 1)) (tOp rModU (tCB rIntU (tCons (tCB (rSum K) (tCons (tSl (rSlU K) (tVar 0) tNoPart (tPart (tC (.int 1)))) tNil)) tNil)) (tC (.int 1000033))))))
abbrev N_law_box : List Str := ["great"]
def t_law_box (K : PySem.W.Frag) (E : XK) : TS := (tRet (tLst (tCons (tCB rAbsU (tCons (tVar 0) tNil)) (tCons (tOp rGeU (tCB rAbsU (tCons (tVar 0) tNil)) (tOp rPowU (tC (.int 10)) (tC (.int 18)))) (tCons (tOp rModU (tCB rIntU (tCons (tCB rAbsU (tCons (tVar 0) tNil)) tNil)) (tC (.int 2147483629))) (tCons (tC (.int 0)) tNil))))))
abbrev N_law_take : List Str := ["box", "many", "digit", "mixed"]
def t_law_take (K : PySem.W.Frag) (E : XK) : TS := (tSeq (tIfS (tAnd (tTruU K (tOp (rIx K) (tVar 0) (tC (.int 1)))) (tTest (tOp rGtU (tOp (rIx K) (tVar 0) (tC (.int 0))) (tC (.int 0))))) (tSeq (tAsg (tOp rModU (tCB rIntU (tCons (tOp (rIx K) (tVar 0) (tC (.int 0))) tNil)) (tVar 1)) (gName 2))
  (tSeq (tAsg (tOp rDivU (tOp (rIx K) (tVar 0) (tC (.int 0))) (tVar 1)) (gSub (tVar 0) (tC (.int 0)) rSetL))
  (tRet (tVar 2)))) tNext)
  (tSeq (tAsg (tOp (rAddU K) (tOp (rIx K) (tVar 0) (tC (.int 3))) (tC (.int 1))) (gSub (tVar 0) (tC (.int 3)) rSetL))
  (tSeq (tAsg (tOp rModU (tCB rIntU (tCons (tOp rPowU (tOp (rAddU K) (tOp (rAddU K) (tOp (rIx K) (tVar 0) (tC (.int 2))) (tOp (rMulU K) (tC (.int 15485863)) (tOp (rIx K) (tVar 0) (tC (.int 3))))) (tC (.int 179424673))) (tC (.int 5))) tNil)) (tC (.int 2147483647))) (gName 3))
  (tRet (tOp rModU (tCB rIntU (tCons (tOp rDivU (tOp rModU (tCB rIntU (tCons (tOp rPowU (tOp (rAddU K) (tOp (rMulU K) (tVar 3) (tC (.int 48271))) (tOp (rMulU K) (tC (.int 104729)) (tOp (rIx K) (tVar 0) (tC (.int 3))))) (tC (.int 3))) tNil)) (tC (.int 2147483587))) (tC (.int 64))) tNil)) (tVar 1))))))
abbrev N_law_whole : List Str := ["value", "least", "most"]
def t_law_whole (K : PySem.W.Frag) (E : XK) : TS := (tRet (tAndV (tCB (rIsiU K) (tCons (tVar 0) (tCons (tC (.ty "int")) tNil))) (tAndV (tNotV (tCB (rIsiU K) (tCons (tVar 0) (tCons (tC (.ty "bool")) tNil)))) (tChain rLeU rLeU (tVar 1) (tVar 0) (tVar 2)))))
theorem len1 {α : Type} {vs : List α} (h : vs.length = 1) : ∃ a, vs = [a] := match vs, h with | [a], _ => ⟨a, rfl⟩
theorem len2 {α : Type} {vs : List α} (h : vs.length = 2) : ∃ a b, vs = [a, b] := match vs, h with | [a, b], _ => ⟨a, b, rfl⟩
theorem len3 {α : Type} {vs : List α} (h : vs.length = 3) : ∃ a b c, vs = [a, b, c] := match vs, h with | [a, b, c], _ => ⟨a, b, c, rfl⟩
section
variable {K : PySem.W.Frag} {E : WX} {X : XP} {ρ : TL.Env} {te ta tb : TE} {Φ : V → T → TL.Env → Prop} {i : Nat}
theorem wE_isi {n : String} (h : wE E X te ρ fun _ x ρ1 => Ok1 K x ∧ n ∈ tysC ∧ ∀ v, Φ v (.bl (isTy x n)) ρ1) : wE E X (tCB (rIsiU K) (tCons te (tCons (tC (.ty n)) tNil))) ρ Φ :=
  wE_cb isiOk (wA_cons (wE_imp h fun _ x ρ1 ⟨o, hn, hk⟩ => wA_cons (wE_raw (wA_nil ⟨x, _, _, rfl, o.ok, hk, .inl ⟨_, ClsV.ty n, o.is n hn⟩⟩))))
theorem wE_callV {pre : List T → Prop} {post : List T → T → Prop} {xc : List V → List T → Er → Prop} {ta : TA} (h : wA E X ta ρ fun vs ts ρ1 => pre ts ∧ (∃ t0, (∀ t, post ts t → t = t0) ∧ ∀ v, Φ v t0 ρ1) ∧ ∀ er, xc vs ts er → X er ρ1) : wE E X (tCallS (sP pre post xc) (WE E) ta) ρ Φ :=
  wE_call fun b G H σ Q S q ke => h b G H σ Q S (fun vs ts ρ' G' H' ⟨h1, ⟨t0, h2, h3⟩, h4⟩ r S' l => q vs ts ρ' G' H' ⟨h1, fun t v po => by rw [h2 t po]; exact h3 v, h4⟩ r S' l) ke
theorem isW_of (x : T) : (isTy x "int" && !isTy x "bool") = isW x := by
  cases x <;> rfl
theorem wE_isW {u : V} {x : T} (e : ρ[i]? = some (.x u x)) (o : Ok1 K x) (h : ∀ v, Φ v (.bl (isW x)) ρ) : wE E X (tAndV (tCB (rIsiU K) (tCons (tVar i) (tCons (tC (.ty "int")) tNil))) (tNotV (tCB (rIsiU K) (tCons (tVar i) (tCons (tC (.ty "bool")) tNil))))) ρ Φ := by
  refine wE_andV (wE_isi (wE_x e ⟨o, by decide, fun _ => ⟨_, rfl, ?_⟩⟩))
  have q := isW_of x
  cases z : isTy x "int" with
  | true =>
    rw [if_pos rfl]
    refine wE_notV (wE_isi (wE_x e ⟨o, by decide, fun _ => ⟨_, rfl, fun v => ?_⟩⟩))
    rw [z, Bool.true_and] at q
    rw [q]
    exact h v
  | false =>
    rw [if_neg (by simp)]
    intro v
    rw [z, Bool.false_and] at q
    rw [q]
    exact h v
end
theorem r_is_whole {K : PySem.W.Frag} (vs : List V) (H : Hp) (Q : VK) (E : XK) (h : sp_is_whole K vs H Q E) : t_is_whole K E { nx := fun _ H' => Q .non H', rt := Q } (L2.start N_is_whole vs) H := by
  refine run_sP h fun ts hl ⟨x, e, o⟩ => ?_
  subst e
  obtain ⟨u, rfl⟩ := len1 hl
  refine wS_ret (wE_isW rfl o fun v y ey => ?_)
  cases ey
  rfl
theorem btw_W {x : T} {l m : Int} (h : isW x = false) : btw x l m = false := by
  cases x <;> first | rfl | cases h
theorem r_is_between {K : PySem.W.Frag} (vs : List V) (H : Hp) (Q : VK) (E : XK) (h : sp_is_between K vs H Q E) : t_is_between K E { nx := fun _ H' => Q .non H', rt := Q } (L2.start N_is_between vs) H := by
  refine run_sP h fun ts hl ⟨x, l, m, e, o⟩ => ?_
  subst e
  obtain ⟨u, u1, u2, rfl⟩ := len3 hl
  show wS _ _ _ [Sl.x u x, .x u1 (.int l), .x u2 (.int m)] _
  refine wS_ret (wE_andV (wE_call (wA_cons (wE_x rfl (wA_nil ⟨⟨x, rfl, o⟩, fun t v ht => ⟨_, ht x rfl, ?_⟩, fun er z => z.elim⟩)))))
  cases z : isW x with
  | false =>
    rw [if_neg (by simp)]
    intro v y l' m' ey
    cases ey
    rw [btw_W z]
  | true =>
    rw [if_pos rfl]
    cases x with
    | int i =>
      refine wE_chain leOk leOk (wE_x rfl (wE_x rfl ⟨_, rfl, ?_⟩))
      cases z2 : decide (l ≤ i) with
      | true =>
        rw [if_pos rfl]
        refine wE_x rfl (show ∀ v, _ from fun v y l' m' ey => ?_)
        cases ey
        show _ = T.bl (decide (l ≤ i) && decide (i ≤ m))
        rw [z2, Bool.true_and]
      | false =>
        rw [if_neg (by simp)]
        intro v y l' m' ey
        cases ey
        show _ = T.bl (decide (l ≤ i) && decide (i ≤ m))
        rw [z2, Bool.false_and]
    | _ => cases z
theorem r_law_whole {K : PySem.W.Frag} (vs : List V) (H : Hp) (Q : VK) (E : XK) (h : sp_law_whole K vs H Q E) : t_law_whole K E { nx := fun _ H' => Q .non H', rt := Q } (L2.start N_law_whole vs) H := by
  refine run_sP h fun ts hl ⟨x, l, m, e, o⟩ => ?_
  subst e
  obtain ⟨u, u1, u2, rfl⟩ := len3 hl
  show wS _ _ _ [Sl.x u x, .x u1 (.int l), .x u2 (.int m)] _
  refine wS_ret (wE_andV (wE_isi (wE_x rfl ⟨o, by decide, fun _ => ⟨_, rfl, ?_⟩⟩)))
  have q := isW_of x
  cases z : isTy x "int" with
  | false =>
    rw [z, Bool.false_and] at q
    rw [if_neg (by simp)]
    intro v y l' m' ey
    cases ey
    rw [btw_W q.symm]
  | true =>
    rw [if_pos rfl]
    rw [z, Bool.true_and] at q
    refine wE_andV (wE_notV (wE_isi (wE_x rfl ⟨o, by decide, fun _ => ⟨_, rfl, fun _ => ⟨_, rfl, ?_⟩⟩⟩)))
    rw [q]
    cases w : isW x with
    | false =>
      rw [if_neg (by simp)]
      intro v y l' m' ey
      cases ey
      rw [btw_W w]
    | true =>
    rw [if_pos rfl]
    cases x with
    | int i =>
      refine wE_chain leOk leOk (wE_x rfl (wE_x rfl ⟨_, rfl, ?_⟩))
      cases z2 : decide (l ≤ i) with
      | true =>
        rw [if_pos rfl]
        refine wE_x rfl (show ∀ v, _ from fun v y l' m' ey => ?_)
        cases ey
        show _ = T.bl (decide (l ≤ i) && decide (i ≤ m))
        rw [z2, Bool.true_and]
      | false =>
        rw [if_neg (by simp)]
        intro v y l' m' ey
        cases ey
        show _ = T.bl (decide (l ≤ i) && decide (i ≤ m))
        rw [z2, Bool.false_and]
    | _ => cases w
theorem ok1_ty {K : PySem.W.Frag} {x : T} {n : String} (e : tyT x = .type n) (hn : n ∈ tys) (o : tyOk K x) : Ok1 K x := ⟨o, fun m hm => kit_isTy hm ⟨n, hn, e⟩⟩
local macro_rules | `(tactic| walk_at "tl") => `(tactic| repeat' (first
  | with_reducible refine wS_seq ?_
  | with_reducible refine wS_if ?_
  | with_reducible refine wS_next ?_
  | with_reducible refine wS_set ?_
  | with_reducible refine wS_par ?_
  | with_reducible refine wS_par3 ?_
  | with_reducible refine wS_aug rfl ipOk ?_
  | with_reducible refine wT_not ?_
  | with_reducible refine wT_and ?_
  | with_reducible refine wT_or ?_
  | with_reducible refine wT_test ?_
  | with_reducible refine wT_tru ?_
  | with_reducible refine wE_op addOk ?_
  | with_reducible refine wE_op subOk ?_
  | with_reducible refine wE_op mulOk ?_
  | with_reducible refine wE_op modOk ?_
  | with_reducible refine wE_op divOk ?_
  | with_reducible refine wE_op powOk ?_
  | with_reducible refine wE_op ltOk ?_
  | with_reducible refine wE_op leOk ?_
  | with_reducible refine wE_op gtOk ?_
  | with_reducible refine wE_op geOk ?_
  | with_reducible refine wE_op neOk ?_
  | with_reducible refine wE_eqNil ?_
  | with_reducible refine wE_op eqQOk ?_
  | refine wE_op ixOk (wE_x rfl ?_)
  | refine wE_op ixOk (wE_v rfl ?_)
  | with_reducible refine wE_un negOk ?_
  | with_reducible refine wE_cb intOk ?_
  | with_reducible refine wE_cb absOk ?_
  | with_reducible refine wE_cb maxOk ?_
  | with_reducible refine wE_cb minOk ?_
  | refine wE_cb lenOk (wA_cons (wE_x rfl ?_))
  | refine wE_cb lenOk (wA_cons (wE_v rfl ?_))
  | with_reducible refine wE_cb sumOk ?_
  | with_reducible refine wE_sl ?_
  | with_reducible refine wO_none ?_
  | with_reducible refine wO_some ?_
  | with_reducible refine wE_tup ?_
  | with_reducible refine wE_if ?_
  | with_reducible refine wE_int ?_
  | with_reducible refine wE_bl ?_
  | with_reducible refine wE_str ?_
  | with_reducible refine wE_non ?_
  | refine wE_x rfl ?_
  | refine wE_v rfl ?_
  | with_reducible refine wA_cons ?_
  | with_reducible refine wA_nil ?_
  | with_reducible refine gAdd ?_
  | with_reducible refine gSub ?_
  | with_reducible refine gMulL (by omega) (by omega) ?_
  | with_reducible refine gMulR (by omega) (by omega) ?_
  | with_reducible refine gMod (by omega) ?_
  | with_reducible refine gDiv (by omega) (by omega) ?_
  | with_reducible refine gPow (by omega) (by omega) (by omega) ?_
  | with_reducible refine gLt ?_
  | with_reducible refine gLe ?_
  | with_reducible refine gGt ?_
  | with_reducible refine gGe ?_
  | with_reducible refine gEqI ?_
  | with_reducible refine gEqB ?_
  | with_reducible refine gNeI ?_
  | with_reducible refine gNeg ?_
  | with_reducible refine gInt ?_
  | with_reducible refine gAbs ?_
  | with_reducible refine gMax ?_
  | with_reducible refine gMin ?_
  | with_reducible refine gLenL ?_
  | with_reducible refine gLenT ?_
  | with_reducible refine gSlL ?_
  | (with_reducible intro (_ : V))
  | with_reducible refine Exists.intro _ (And.intro (rfl : T.bl _ = T.bl _) ?_)
  | with_reducible refine Exists.intro _ (And.intro (rfl : T.int _ = T.int _) ?_)
  | with_reducible refine Exists.intro _ (And.intro (rfl : truT (T.bl _) = some _) ?_)))
theorem r_law_cell {K : PySem.W.Frag} (vs : List V) (H : Hp) (Q : VK) (E : XK) (h : sp_law_cell K vs H Q E) : t_law_cell K E { nx := fun _ H' => Q .non H', rt := Q } (L2.start N_law_cell vs) H := by
  refine run_sP h fun ts hl ⟨ns, t, k, e, hs, hk⟩ => ?_
  subst e
  obtain ⟨u, u1, rfl⟩ := len2 hl
  show wS _ _ _ [Sl.x u t, .x u1 (.int k)] _
  unfold t_law_cell
  refine wS_ret (wE_if (wT_test (wE_op ltOk (wE_x rfl (wE_lenS hs rfl fun _ => gLt fun _ => ⟨_, rfl, ?_⟩)))))
  refine ite_c (fun z => ?_) fun z => ?_
  · have kl : k < ns.length := by
      have := of_decide_eq_true z
      omega
    exact wE_ixS hs rfl (wE_x rfl ⟨k, _, rfl, List.getElem?_eq_getElem kl, fun _ => ⟨_, rfl⟩⟩)
  · refine wE_op addOk (wE_op mulOk (wE_int (wE_x rfl (gMulL (by omega) (by omega) fun _ => ?_))))
    refine wE_op modOk (wE_cb intOk (wA_cons (wE_cb sumOk (wA_cons (wE_slS hs rfl (wO_none (wO_some (wE_int ⟨_, rfl, fun _ => wA_nil ⟨cutT ns none (some 1), rfl, fun _ => ?_⟩⟩))))))))
    walk_at "tl"
    exact ⟨_, rfl⟩
theorem r_law_box {K : PySem.W.Frag} (vs : List V) (H : Hp) (Q : VK) (E : XK) (h : sp_law_box K vs H Q E) : t_law_box K E { nx := fun _ H' => Q .non H', rt := Q } (L2.start N_law_box vs) H := by
  refine run_sF h fun ts hl ⟨i, e⟩ => ?_
  subst e
  obtain ⟨u, rfl⟩ := len1 hl
  show wS _ _ _ [Sl.x u (.int i)] _
  unfold t_law_box
  refine wS_retF (wF_lst ?_)
  walk_at "tl"
  refine ⟨by show 4 ≤ sizeLine; decide, _, _, 0, _, rfl, ?_, Int.emod_nonneg _ (by decide), Int.emod_lt_of_pos _ (by decide), by decide, by decide⟩
  split <;> omega
theorem Bx.get1 {n : Nat} {us : List T} (h : Bx n us) : ∃ c : Bool, us[1]? = some (.bl c) := let ⟨a, m, j, c, e, _⟩ := h; ⟨c, by rw [e]; rfl⟩
theorem Bx.get0 {n : Nat} {us : List T} (h : Bx n us) : ∃ a : Int, us[0]? = some (.int a) ∧ 0 ≤ a := let ⟨a, m, j, c, e, h1, _⟩ := h; ⟨a, by rw [e]; rfl, h1⟩
theorem Bx.get2 {n : Nat} {us : List T} (h : Bx n us) : ∃ a : Int, us[2]? = some (.int a) ∧ 0 ≤ a ∧ a < 2147483629 := let ⟨a, m, j, c, e, h1, h2, h3, h4, h5⟩ := h; ⟨m, by rw [e]; rfl, h2, h3⟩
theorem Bx.get3 {n : Nat} {us : List T} (h : Bx n us) : ∃ a : Int, us[3]? = some (.int a) ∧ 0 ≤ a ∧ a + n ≤ 1000000 := let ⟨a, m, j, c, e, h1, h2, h3, h4, h5⟩ := h; ⟨j, by rw [e]; rfl, h4, h5⟩
theorem Bx.len {n : Nat} {us : List T} (h : Bx n us) : us.length = 4 := let ⟨a, m, j, c, e, _⟩ := h; by rw [e]; rfl
theorem Bx.mono {n m : Nat} {us : List T} (h : Bx n us) (l : m ≤ n) : Bx m us := let ⟨a, b, j, c, e, h1, h2, h3, h4, h5⟩ := h; ⟨a, b, j, c, e, h1, h2, h3, h4, by omega⟩
theorem Bx.set0 {n : Nat} {us : List T} (h : Bx n us) {a : Int} (ha : 0 ≤ a) : Bx n (us.set 0 (.int a)) := let ⟨_, b, j, c, e, h1, h2, h3, h4, h5⟩ := h; ⟨a, b, j, c, by rw [e]; rfl, ha, h2, h3, h4, h5⟩
theorem Bx.set3 {n m : Nat} {us : List T} (h : Bx n us) {a : Int} (ha : 0 ≤ a) (hm : a + m ≤ 1000000) : Bx m (us.set 3 (.int a)) := let ⟨x, b, j, c, e, h1, h2, h3, h4, h5⟩ := h; ⟨x, b, a, c, by rw [e]; rfl, h1, h2, h3, ha, hm⟩
section
variable {K : PySem.W.Frag} {E : WX} {X : XP} {ρ : TL.Env} {te ta tb : TE} {Φ : V → T → TL.Env → Prop} {i n : Nat} {p : Addr}
theorem wE_b0 (e : ρ[i]? = some (.o p (Bx n))) (h : ∀ a : Int, 0 ≤ a → ∀ v, Φ v (.int a) ρ) : wE E X (tOp (rIx K) (tVar i) (tC (.int 0))) ρ Φ := wE_ixO ⟨⟨_, e⟩, wE_int ⟨Bx n, 0, rfl, e, fun ts b => let ⟨a, e1, e2⟩ := b.get0; ⟨_, e1, h a e2⟩⟩⟩
theorem wE_b1 (e : ρ[i]? = some (.o p (Bx n))) (h : ∀ c : Bool, ∀ v, Φ v (.bl c) ρ) : wE E X (tOp (rIx K) (tVar i) (tC (.int 1))) ρ Φ := wE_ixO ⟨⟨_, e⟩, wE_int ⟨Bx n, 1, rfl, e, fun ts b => let ⟨a, e1⟩ := b.get1; ⟨_, e1, h a⟩⟩⟩
theorem wE_b2 (e : ρ[i]? = some (.o p (Bx n))) (h : ∀ a : Int, 0 ≤ a → a < 2147483629 → ∀ v, Φ v (.int a) ρ) : wE E X (tOp (rIx K) (tVar i) (tC (.int 2))) ρ Φ := wE_ixO ⟨⟨_, e⟩, wE_int ⟨Bx n, 2, rfl, e, fun ts b => let ⟨a, e1, e2, e3⟩ := b.get2; ⟨_, e1, h a e2 e3⟩⟩⟩
theorem wE_b3 (e : ρ[i]? = some (.o p (Bx n))) (h : ∀ a : Int, 0 ≤ a → a + n ≤ 1000000 → ∀ v, Φ v (.int a) ρ) : wE E X (tOp (rIx K) (tVar i) (tC (.int 3))) ρ Φ := wE_ixO ⟨⟨_, e⟩, wE_int ⟨Bx n, 3, rfl, e, fun ts b => let ⟨a, e1, e2, e3⟩ := b.get3; ⟨_, e1, h a e2 e3⟩⟩⟩
end
theorem r_law_take {K : PySem.W.Frag} (vs : List V) (H : Hp) (Q : VK) (E : XK) (h : sp_law_take K vs H Q E) : t_law_take K E { nx := fun _ H' => Q .non H', rt := Q } (L2.start N_law_take vs) H := by
  refine run_sO h (fun n p us ts _ hl ⟨m, e, hm, hm2⟩ => ?_) (by decide)
  subst e
  obtain ⟨u, rfl⟩ := len1 hl
  show wS _ _ _ [Sl.o p (Bx (n + 1)), .x u (.int m), .no, .no] _
  have ret : ∀ a : Int, ∀ m' : Int, [T.int m] = [T.int m'] → ∃ d : Int, T.int (a % m) = .int d ∧ 0 ≤ d ∧ d < m' := fun a m' e => by
    cases e
    exact ⟨_, rfl, Int.emod_nonneg _ (by omega), Int.emod_lt_of_pos _ hm⟩
  have second : wS (WD E) (fun er ρ' => noX [u] [.int m] er ∧ ρ'[0]? = some (Sl.o p (Bx n))) (tSeq (tAsg (tOp (rAddU K) (tOp (rIx K) (tVar 0) (tC (.int 3))) (tC (.int 1))) (gSub (tVar 0) (tC (.int 3)) rSetL))
      (tSeq (tAsg (tOp rModU (tCB rIntU (tCons (tOp rPowU (tOp (rAddU K) (tOp (rAddU K) (tOp (rIx K) (tVar 0) (tC (.int 2))) (tOp (rMulU K) (tC (.int 15485863)) (tOp (rIx K) (tVar 0) (tC (.int 3))))) (tC (.int 179424673))) (tC (.int 5))) tNil)) (tC (.int 2147483647))) (gName 3))
      (tRet (tOp rModU (tCB rIntU (tCons (tOp rDivU (tOp rModU (tCB rIntU (tCons (tOp rPowU (tOp (rAddU K) (tOp (rMulU K) (tVar 3) (tC (.int 48271))) (tOp (rMulU K) (tC (.int 104729)) (tOp (rIx K) (tVar 0) (tC (.int 3))))) (tC (.int 3))) tNil)) (tC (.int 2147483587))) (tC (.int 64))) tNil)) (tVar 1)))))
      [Sl.o p (Bx (n + 1)), .x u (.int m), .no, .no] { rt := fun t ρ' => (∀ m' : Int, [T.int m] = [T.int m'] → ∃ d : Int, t = .int d ∧ 0 ≤ d ∧ d < m') ∧ ρ'[0]? = some (Sl.o p (Bx n)), nx := fun ρ' => (∀ m' : Int, [T.int m] = [T.int m'] → ∃ d : Int, T.non = .int d ∧ 0 ≤ d ∧ d < m') ∧ ρ'[0]? = some (Sl.o p (Bx n)), rf := fun us ρ' => (∀ m' : Int, [T.int m] = [T.int m'] → ∃ d : Int, T.lst us = .int d ∧ 0 ≤ d ∧ d < m') ∧ ρ'[0]? = some (Sl.o p (Bx n)), z := 0 } := by
    refine wS_seq (wS_setitem (wE_op addOk (wE_b3 rfl fun j h1 h2 v => wE_int fun _ => ⟨⟨_, rfl⟩, wE_int ⟨Bx (n + 1), 3, rfl, rfl, fun ts b => by rw [b.len]; decide, ?_⟩⟩)))
    refine wS_ow (i := 0) (Bx n) rfl (fun ts ⟨us, b, e⟩ => by rw [e]; exact b.set3 (by omega) (by omega)) ?_
    walk_at "tl"
    refine wE_b2 rfl fun a a1 a2 _ => ?_
    walk_at "tl"
    refine wE_b3 rfl fun j h1 h2 _ => ?_
    walk_at "tl"
    have z1 := Int.emod_nonneg ((a + 15485863 * j + 179424673) ^ (5 : Int).toNat) (b := 2147483647) (by decide)
    have z2 := Int.emod_lt_of_pos ((a + 15485863 * j + 179424673) ^ (5 : Int).toNat) (b := 2147483647) (by decide)
    generalize (a + 15485863 * j + 179424673) ^ (5 : Int).toNat % 2147483647 = x at z1 z2 ⊢
    refine wS_ret ?_
    walk_at "tl"
    refine wE_b3 rfl fun j h1 h2 _ => ?_
    walk_at "tl"
    exact ⟨ret _, rfl⟩
  unfold t_law_take
  walk_at "tl"
  refine wE_b1 rfl fun c _ => ⟨c, rfl, ?_⟩
  refine ite_c (fun _ => ?_) fun _ => ite_f (wS_next second)
  walk_at "tl"
  refine wE_b0 rfl fun a ha _ => ?_
  walk_at "tl"
  refine ite_c (fun _ => ?_) fun _ => wS_next second
  walk_at "tl"
  refine wE_b0 rfl fun a ha _ => ?_
  walk_at "tl"
  refine wS_setitem (wE_op divOk (wE_b0 rfl fun a2 ha2 _ => wE_x rfl (gDivW hm (by omega) fun _ => ⟨⟨_, rfl⟩, wE_int ⟨Bx (n + 1), 0, rfl, rfl, fun ts b => by rw [b.len]; decide, ?_⟩⟩)))
  refine wS_ow (i := 0) (Bx n) rfl (fun ts ⟨us, b, e⟩ => by rw [e]; exact (b.mono (Nat.le_succ n)).set0 (Int.ediv_nonneg ha2 (by omega))) ?_
  exact wS_ret (wE_v rfl fun _ => ⟨ret a, rfl⟩)
theorem nat_of {d m : Int} (h : 0 ≤ d) (h2 : d < m) : ∃ k : Nat, d = (k : Int) ∧ (k : Int) < m := ⟨d.toNat, by omega, by omega⟩
def toI : T → Int
  | .int i => i
  | _ => 0
end TC
set_option maxHeartbeats 4000000
namespace TD
open PySem PySem.Spec PyProof.Rows L2 TL TC
def er1 (K : PySem.W.Frag) (c : Str) (u : V) : Er := ⟨He.ga K c, some (mkF ["given"] [u])⟩
def tupLen (x : T) (n : Int) : Bool := match x with
  | .tup ts => decide ((ts.length : Int) = n)
  | _ => false
def rowB (x : T) (n p : Int) : Bool := match x with
  | .tup ts => decide ((ts.length : Int) = n) && ts.all fun y => btw y 0 (p - 1)
  | _ => false
def sp_is_whole (K : PySem.W.Frag) : Sp := TC.sp_is_whole K
def sp_is_between (K : PySem.W.Frag) : Sp := TC.sp_is_between K
def sp_is_list (K : PySem.W.Frag) : Sp := sP (fun ts => ∃ x, ts = [x] ∧ Ok1 K x) (fun ts t => ∀ x, ts = [x] → t = .bl (isTy x "list" || isTy x "tuple")) noX
def sp_is_tuple_of (K : PySem.W.Frag) : Sp := sP (fun ts => ∃ x n, ts = [x, .int n] ∧ Ok1 K x) (fun ts t => ∀ x n, ts = [x, .int n] → t = .bl (tupLen x n)) noX
def sp_are_between (K : PySem.W.Frag) : Sp := sP (fun ts => ∃ x xs l m, ts = [x, .int l, .int m] ∧ (x = .tup xs ∨ x = .lst xs) ∧ (∀ y ∈ xs, Ok1 K y) ∧ xs.length ≤ 1000) (fun ts t => ∀ x xs l m, ts = [x, .int l, .int m] → (x = .tup xs ∨ x = .lst xs) → t = .bl (xs.all fun y => btw y l m)) noX
/-- the powers of a letter -/
def pw (a p : Nat) : Nat → Nat
  | 0 => 1
  | k + 1 => pw a p k * a % p
def natsT (xs : List Nat) : List T := xs.map fun k : Nat => T.int k
def powL (a p n : Nat) : List Nat := (List.range n).map (pw a p)
def dot (xs ys : List Nat) : Nat := (List.zipWith (· * ·) xs ys).sum
/-- a row of letters: a tuple, 120 at most -/
def isRowB (x : T) (p : Int) : Bool := match x with
  | .tup ts => Nat.ble ts.length 120 && ts.all fun y => btw y 0 (p - 1)
  | _ => false
def rowStep (p c : Nat) (f r : List Nat) : List Nat := List.zipWith (fun a b => (a + c * b) % p) f r
/-- the sum of the rows, each times its letter -/
def sumL (p : Nat) : List Nat → List (List Nat) → List Nat → List Nat
  | c :: cs, r :: rs, f => sumL p cs rs (if c = 0 then f else rowStep p c f r)
  | _, _, f => f
/-- rows of letters -/
def sizeOf1 (x : T) : Nat := match x with
  | .tup ts => ts.length
  | _ => 0
def rowsB (y : T) (p : Int) : Bool := match y with
  | .lst rs | .tup rs => match rs with
    | [] => false
    | r :: _ => Nat.ble rs.length 120 && (isTy r "tuple" && (Nat.ble (sizeOf1 r) 120 && rs.all fun q => rowB q (sizeOf1 r) p))
  | _ => false
def lenT (y : T) : Nat := match y with
  | .lst rs | .tup rs => rs.length
  | _ => 0
def sp_law_cell (K : PySem.W.Frag) : Sp := TC.sp_law_cell K
def sp_law_box (K : PySem.W.Frag) : Sp := TC.sp_law_box K
def sp_law_take (K : PySem.W.Frag) : Sp := TC.sp_law_take K
def sp_law_whole (K : PySem.W.Frag) : Sp := TC.sp_law_whole K
/-- a short text, its items by slices -/
def strOk (s : Str) : Bool := Nat.ble s.length 1000 && (List.range s.length).all fun k => match atI s.cps.toList (k : Int) with
  | some c => decide (cutS s (some (k : Int)) (some ((k : Int) + 1)) = ⟨#[c]⟩)
  | none => false
/-- the data that the law draws: no longer than m, no deeper than d -/
inductive Dat (m : Nat) : Nat → T → Prop where
  | non {d} : Dat m (d + 1) .non
  | bl {d} (c : Bool) : Dat m (d + 1) (.bl c)
  | int {d} (i : Int) : Dat m (d + 1) (.int i)
  | str {d} (s : Str) (h : strOk s = true) : Dat m (d + 1) (.str s)
  | dic {d} (k : Key) (i : Int) : Dat m (d + 1) (.dic [k] [.int i])
  | lst {d} {ts : List T} (hz : ts.length ≤ m) (h : ∀ t ∈ ts, Dat m d t) : Dat m (d + 1) (.lst ts)
  | tup {d} {ts : List T} (hz : ts.length ≤ m) (h : ∀ t ∈ ts, Dat m d t) : Dat m (d + 1) (.tup ts)
def sp_law_same (K : PySem.W.Frag) (n : Nat) : Sp := sP (fun ts => ∃ a b, ts = [a, b] ∧ Dat 130 n a ∧ Dat 130 n b) (fun ts t => ∃ c, t = .bl c ∧ ∀ a b, ts = [a, b] → a = b → c = true) noX
def invP (a p : Nat) : Nat := a ^ (p - 2) % p
inductive Wd where
  | prime | letter | size | row | rows
def Wd.str : Wd → Str
  | .prime => "prime"
  | .letter => "letter"
  | .size => "size"
  | .row => "row"
  | .rows => "rows"
def Wd.cls : Wd → Str
  | .prime => "InvalidPrime"
  | .letter => "InvalidLetter"
  | .size => "InvalidSize"
  | .row => "InvalidRow"
  | .rows => "InvalidRows"
inductive Ans where
  | told (t : T) | zero | giv (w : Wd) (j : Nat)
def natOf : T → Nat
  | .int i => i.toNat
  | _ => 0
def intOf : T → Int
  | .int i => i
  | _ => 0
def natsOf : T → List Nat
  | .tup ts | .lst ts => ts.map natOf
  | _ => []
def rowsOf : T → List (List Nat)
  | .tup ts | .lst ts => ts.map natsOf
  | _ => []
def ans0 (x y : T) : Ans := if prT y then (if btw x 0 (intOf y - 1) then (if intOf x = 0 then .zero else .told (.int (invP (natOf x) (natOf y)))) else .giv .letter 0) else .giv .prime 1
def ans1 (x s y : T) : Ans := if prT y then (if btw x 0 (intOf y - 1) then (if btw s 0 120 then .told (.tup (natsT (powL (natOf x) (natOf y) (natOf s)))) else .giv .size 1) else .giv .letter 0) else .giv .prime 2
def ans2 (x s y : T) : Ans := if prT y then (if btw s 0 120 then .told (.bl (rowB x (intOf s) (intOf y))) else .giv .size 1) else .giv .prime 2
def ans3 (x y z : T) : Ans := if prT z then (if isRowB x (intOf z) then (if rowB y (lenT x) (intOf z) then .told (.int ((dot (natsOf x) (natsOf y) % natOf z : Nat) : Int)) else .giv .row 1) else .giv .row 0) else .giv .prime 2
def ans4 (x y z : T) : Ans := if prT z then (if rowsB y (intOf z) then (if rowB x (lenT y) (intOf z) then .told (.tup (natsT (sumL (natOf z) (natsOf x) (rowsOf y) (List.replicate ((rowsOf y).headD []).length 0)))) else .giv .row 0) else .giv .rows 1) else .giv .prime 2
def ans (door : Int) : List T → Ans
  | [x, y] => ans0 x y
  | [x, y, z] => if door = 1 then ans1 x y z else if door = 2 then ans2 x y z else if door = 3 then ans3 x y z else ans4 x y z
  | _ => .zero
/-- a door and what is passed to it -/
structure ArgsOk (m : Nat) (door : Int) (ts : List T) : Prop where
  d : (door = 0 ∧ ∃ x y, ts = [x, y]) ∨ ((door = 1 ∨ door = 2 ∨ door = 3 ∨ door = 4) ∧ ∃ x y z, ts = [x, y, z])
  t : ∀ t ∈ ts, Dat m 4 t
def ansV (ws : List V) : Ans → List T
  | .told t => [.str "told", t]
  | .zero => [.str "zero", .non]
  | .giv w j => [.str w.str, .raw ((ws[j]?).getD .non)]
/-- a list, its items' values ws, their data xs -/
def dgL (ws : List V) (xs : List T) : T := .abs fun G0 v => ∃ A, v = .ref A ∧ G0 A = some (.lst ws) ∧ RepL G0 xs ws
def errA (K : PySem.W.Frag) (ws : List V) : Ans → Er → Prop
  | .told _, _ => False
  | .zero, er => er = ⟨He.ga K "NoInverse", none⟩
  | .giv w j, er => er = er1 K w.cls ((ws[j]?).getD .non)
def sp_law_call (K : PySem.W.Frag) : Sp := fun vs H Q E => ∃ (door : Int) (xs : List T) (ws : List V) (A : Addr) (c : Bool) (G : Hp), vs = [.int door, .ref A, .bl c] ∧ G A = some (.lst ws) ∧ RepL G xs ws ∧ Le G H ∧ ArgsOk 130 door xs ∧
  (∀ t v G' H', ans door xs = .told t → Rep G' t v → Grow G H G' H' → Q v H') ∧ ∀ er od G' H', errA K ws (ans door xs) er → ErAt H' od er.fs → Grow G H G' H' → E (.ref er.C) od H'
def sp_law_ask (K : PySem.W.Frag) : Sp := fun vs H Q E => ∃ (door : Int) (xs : List T) (ws : List V) (A : Addr) (c : Bool) (G : Hp), vs = [.int door, .ref A, .bl c] ∧ G A = some (.lst ws) ∧ RepL G xs ws ∧ Le G H ∧ ArgsOk 130 door xs ∧
  ∀ p us G' H', H' p = some (.lst us) → G' p = none → H p = none → RepL G' (ansV ws (ans door xs)) us → Grow G H G' H' → Q (.ref p) H'
def sp_law_args (K : PySem.W.Frag) : Sp := sO (fun n => Bx (n + 40000)) Bx (fun ts => ∃ (door : Int) (c : Bool), ts = [.int door, .bl c] ∧ 0 ≤ door ∧ door ≤ 4) (fun ts t => ∀ door c, ts = [.int door, .bl c] → ∃ xs, t = .lst xs ∧ ArgsOk 121 door xs) noX
def sp_law_spoilt (K : PySem.W.Frag) : Sp := sO (fun n => Bx (n + 10)) Bx (fun ts => ∃ (door spot : Int) (xs : List T), ts = [.int door, .lst xs, .int spot] ∧ ArgsOk 129 door xs ∧ 0 ≤ spot ∧ spot < xs.length)
  (fun ts t => ∀ door spot xs m, ts = [.int door, .lst xs, .int spot] → 121 ≤ m → ArgsOk m door xs → ∃ ys, t = .lst ys ∧ ArgsOk (m + 1) door ys) noX
open Classical in
/-- a part of the heap but for some places -/
noncomputable def less (F : Hp) (L : Addr → Prop) : Hp := fun a => if L a then none else F a
theorem less_not {F : Hp} {L : Addr → Prop} {a : Addr} (h : ¬ L a) : less F L a = F a := if_neg h
theorem less_on {F : Hp} {L : Addr → Prop} {a : Addr} (h : L a) : less F L a = none := if_pos h
theorem less_some {F : Hp} {L : Addr → Prop} {a : Addr} {o : HO} (h : less F L a = some o) : F a = some o ∧ ¬ L a := by
  by_cases q : L a
  · rw [less_on q] at h; cases h
  · rw [less_not q] at h; exact ⟨h, q⟩
theorem less_le (F : Hp) (L : Addr → Prop) : Le (less F L) F := fun a o h => (less_some h).1
/-- a list of data, the lists among its items at the places L, all else elsewhere -/
structure ArgsAt (F : Hp) (ts : List T) (A : Addr) (ws : List V) (L : Addr → Prop) : Prop where
  at_ : F A = some (.lst ws)
  nA : ¬ L A
  len : ws.length = ts.length
  lst : ∀ (k : Nat) (us : List T), ts[k]? = some (.lst us) → ∃ a xs, ws[k]? = some (.ref a) ∧ L a ∧ F a = some (.lst xs) ∧ RepL (less F fun b => L b ∨ b = A) us xs
  oth : ∀ (k : Nat) (t : T), ts[k]? = some t → (∀ us, t ≠ .lst us) → ∃ w, ws[k]? = some w ∧ Rep (less F fun b => L b ∨ b = A) t w
  inj : ∀ (i k : Nat) (us us' : List T) (a : Addr), ts[i]? = some (.lst us) → ts[k]? = some (.lst us') → ws[i]? = some (.ref a) → ws[k]? = some (.ref a) → i = k
  onL : ∀ a, L a → ∃ (k : Nat) (us : List T), ts[k]? = some (.lst us) ∧ ws[k]? = some (.ref a)
/-- v stands in F for t, all of it new but for dicts -/
structure TwR (G H F : Hp) (t : T) (v : V) : Prop where
  rep : Rep F t v
  fresh : ∀ a o, F a = some o → H a = none ∨ ((∃ kv, o = .dK kv) ∧ G a = some o)
  sep : ∀ ts, t = .lst ts → ∃ A ws L, v = .ref A ∧ ArgsAt F ts A ws L
def sp_law_twin (K : PySem.W.Frag) (n : Nat) : Sp := fun vs H Q _ => ∃ (t : T) (v : V) (G : Hp), vs = [v] ∧ Rep G t v ∧ Le G H ∧ Dat 130 n t ∧ ∀ (v' : V) (F H' : Hp), TwR G H F t v' → Le F H' → Le H H' → Q v' H'
def sp_law_right (K : PySem.W.Frag) : Sp := fun vs H Q _ => ∃ (n : Nat) (p A : Addr) (bs : List T) (bv : List V) (door : Int) (ts : List T) (ws : List V) (L : Addr → Prop) (F : Hp), vs = [.ref p, .int door, .ref A] ∧ H p = some (.lst bv) ∧ F p = none ∧ RepL F bs bv ∧ Bx (n + 1) bs ∧ Le F H ∧ ArgsAt F ts A ws L ∧ ArgsOk 129 door ts ∧
  ∀ bs' bv' G' H', H' p = some (.lst bv') → RepL G' bs' bv' → Bx n bs' → (∀ a o, a ≠ p → ¬ L a → H a = some o → H' a = some o) → Q (.bl true) H'
def sp_law (K : PySem.W.Frag) : Sp := sP (fun ts => ∃ (ns : List Int) (t : T), ts = [t] ∧ ScrT K t ns ∧ ns.length ≤ 63) (fun _ t => t = .bl true) noX
end TD
set_option maxHeartbeats 4000000
namespace K09
open PySem PySem.Spec PyProof.Rows L2 TL TC TD
/-- any value that the law draws or passes -/
def DD (x : T) : Prop := ∃ d, Dat 130 d x
def itemsOf : T → List T
  | .lst ts | .tup ts => ts
  | _ => []
/-- ascending -/
def ascT : List T → Bool
  | x :: y :: r => decide (intOf x < intOf y) && ascT (y :: r)
  | _ => true
def subB (x : T) (l m : Int) : Bool := match x with
  | .tup ts => (ts.all fun y => btw y l m) && ascT ts
  | _ => false
def memT (a c : T) : Bool := (itemsOf c).any fun y => decide (intOf y = intOf a)
def frB (x : T) (h r : Int) : Bool := match x with
  | .tup [a, c] => btw a 0 (h - 1) && (subB c (-r) (h - 1) && (!(itemsOf c).isEmpty && !memT a c))
  | _ => false
def moB (x : T) (h r : Int) : Bool := match x with
  | .tup [a, f, w] => rowB a h 5 && ((isNonT f || frB f h r) && (isNonT w || btw w 0 8))
  | _ => false
def mosB (x : T) (h r : Int) : Bool := match x with
  | .lst ts | .tup ts => decide (1 ≤ ts.length) && (decide (ts.length ≤ 24) && ts.all fun y => moB y h r)
  | _ => false
/-- what is refused of the arguments of Sky: the word, the class, which one -/
def badS (x s m k : T) : Option (Str × Str × Nat) := if btw x 1 3 then (if btw s 1 3 then (if mosB m (intOf x) (intOf s) then (if isNonT k || btw k 0 (((itemsOf m).length : Int) - 1) then none else some ("back", "InvalidBack", 3)) else some ("moments", "InvalidMoments", 2)) else some ("readers", "InvalidReaders", 1)) else some ("houses", "InvalidHouses", 0)
structure Mo where
  tk : List Nat
  fr : Option (Nat × List Int)
  wd : Option Nat
deriving DecidableEq
def optN : Option Nat → T
  | none => .non
  | some k => .int (k : Int)
def frT : Option (Nat × List Int) → T
  | none => .non
  | some (a, c) => .tup [.int (a : Int), .tup (c.map T.int)]
def moT (m : Mo) : T := .tup [.tup (natsT m.tk), frT m.fr, optN m.wd]
structure FrOk (h r : Nat) (a : Nat) (c : List Int) : Prop where
  al : a < h
  ne : c ≠ []
  bt : ∀ y ∈ c, -(r : Int) ≤ y ∧ y ≤ (h : Int) - 1
  as : c.Pairwise (· < ·)
  no : (a : Int) ∉ c
structure MoOk (h r : Nat) (m : Mo) : Prop where
  len : m.tk.length = h
  tk : ∀ k ∈ m.tk, k ≤ 4
  fr : ∀ a c, m.fr = some (a, c) → FrOk h r a c
  wd : ∀ w, m.wd = some w → w ≤ 8
structure Sk where
  h : Nat
  r : Nat
  ms : List Mo
  bk : Option Nat
deriving DecidableEq
structure SkOk (S : Sk) : Prop where
  h1 : 1 ≤ S.h
  h3 : S.h ≤ 3
  r1 : 1 ≤ S.r
  r3 : S.r ≤ 3
  m1 : 1 ≤ S.ms.length
  m24 : S.ms.length ≤ 24
  ms : ∀ m ∈ S.ms, MoOk S.h S.r m
  bk : ∀ b, S.bk = some b → b < S.ms.length
def skF : List Str := ["houses", "readers", "moments", "back"]
abbrev skC (K : PySem.W.Frag) : Addr := He.ga K "Sky"
def skZ (S : Sk) : List T := [.int (S.h : Int), .int (S.r : Int), .tup (S.ms.map moT), optN S.bk]
def skT (K : PySem.W.Frag) (S : Sk) : T := .ins (skC K) skF (skZ S)
/-- the arguments of a sky, its moments a list or a tuple -/
def argT (S : Sk) (l : Bool) : List T := [.int (S.h : Int), .int (S.r : Int), if l then .lst (S.ms.map moT) else .tup (S.ms.map moT), optN S.bk]
/-- the index of the moment at a tick -/
def momAt (S : Sk) (t : Nat) : Option Nat := if t < S.ms.length then some t else S.bk.map fun b => b + (t - b) % (S.ms.length - b)
abbrev most : Int := 1000000000000000
def sp_is_whole (K : PySem.W.Frag) : Sp := TD.sp_is_whole K
def sp_is_between (K : PySem.W.Frag) : Sp := TD.sp_is_between K
def sp_is_list (K : PySem.W.Frag) : Sp := TD.sp_is_list K
def sp_is_tuple_of (K : PySem.W.Frag) : Sp := TD.sp_is_tuple_of K
def sp_are_between (K : PySem.W.Frag) : Sp := TD.sp_are_between K
def sp_is_ascending (K : PySem.W.Frag) : Sp := sP (fun ts => ∃ ns : List Int, ts = [.tup (ns.map T.int)] ∧ ns.length ≤ 1000) (fun ts t => ∀ ns : List Int, ts = [.tup (ns.map T.int)] → t = .bl (ascT (ns.map T.int))) noX
def sp_is_subset (K : PySem.W.Frag) : Sp := sP (fun ts => ∃ x l m, ts = [x, .int l, .int m] ∧ DD x) (fun ts t => ∀ x l m, ts = [x, .int l, .int m] → t = .bl (subB x l m)) noX
def sp_are_receivers (K : PySem.W.Frag) : Sp := sP (fun ts => ∃ x h r, ts = [x, .int h, .int r] ∧ DD x) (fun ts t => ∀ x h r, ts = [x, .int h, .int r] → t = .bl (subB x (-r) (h - 1))) noX
def sp_is_frame (K : PySem.W.Frag) : Sp := sP (fun ts => ∃ x h r, ts = [x, .int h, .int r] ∧ DD x) (fun ts t => ∀ x h r, ts = [x, .int h, .int r] → t = .bl (frB x h r)) noX
def sp_is_moment (K : PySem.W.Frag) : Sp := sP (fun ts => ∃ x h r, ts = [x, .int h, .int r] ∧ DD x) (fun ts t => ∀ x h r, ts = [x, .int h, .int r] → t = .bl (moB x h r)) noX
def sp_are_moments (K : PySem.W.Frag) : Sp := sP (fun ts => ∃ x h r, ts = [x, .int h, .int r] ∧ DD x) (fun ts t => ∀ x h r, ts = [x, .int h, .int r] → t = .bl (mosB x h r)) noX
def sp_Sky_init (K : PySem.W.Frag) : Sp := spMk (skC K) skF (fun ts => ∃ x s m k, ts = [x, s, m, k] ∧ DD x ∧ DD s ∧ DD m ∧ DD k) (fun ts zs => ∀ x s m k, ts = [x, s, m, k] → badS x s m k = none ∧ zs = [x, s, .tup (itemsOf m), k])
  (fun vs ts er => ∀ x s m k, ts = [x, s, m, k] → ∃ w c j, badS x s m k = some (w, c, j) ∧ er = er1 K c ((vs[j]?).getD .non))
def sp_check_tick (K : PySem.W.Frag) : Sp := sP (fun ts => ∃ x, ts = [x] ∧ DD x) (fun ts t => t = .non ∧ ∀ x, ts = [x] → btw x 0 most = true) (fun vs ts er => ∃ x u, ts = [x] ∧ vs = [u] ∧ btw x 0 most = false ∧ er = er1 K "InvalidTick" u)
def sp_moment_at (K : PySem.W.Frag) : Sp := sP (fun ts => ∃ (S : Sk) (t : Nat), ts = [skT K S, .int t] ∧ SkOk S ∧ (t : Int) ≤ most) (fun ts z => ∀ (S : Sk) (t : Nat), ts = [skT K S, .int t] → z = optN (momAt S t)) noX
/-- a door of the law's: sky, tick -/
def sp_door (K : PySem.W.Frag) (f : Sk → Nat → T) : Sp := sP (fun ts => ∃ (S : Sk) (x : T), ts = [skT K S, x] ∧ SkOk S ∧ DD x) (fun ts z => ∀ (S : Sk) (x : T), ts = [skT K S, x] → btw x 0 most = true ∧ z = f S (natOf x)) (fun vs ts er => ∃ (S : Sk) (x : T) (u w : V), ts = [skT K S, x] ∧ vs = [u, w] ∧ btw x 0 most = false ∧ er = er1 K "InvalidTick" w)
def sp_moment_of (K : PySem.W.Frag) : Sp := sp_door K fun S t => optN (momAt S t)
def sp_law_cell (K : PySem.W.Frag) : Sp := TD.sp_law_cell K
def sp_law_box (K : PySem.W.Frag) : Sp := TD.sp_law_box K
def sp_law_take (K : PySem.W.Frag) : Sp := TD.sp_law_take K
def sp_law_same (K : PySem.W.Frag) (n : Nat) : Sp := TD.sp_law_same K n
def sp_law_whole (K : PySem.W.Frag) : Sp := TD.sp_law_whole K
def sp_law_twin (K : PySem.W.Frag) (n : Nat) : Sp := TD.sp_law_twin K n
def sp_law_subset (K : PySem.W.Frag) : Sp := sO (fun n => Bx (n + 20)) Bx (fun ts => ∃ ns : List Int, ts = [.lst (ns.map T.int)] ∧ ns.length ≤ 20) (fun ts t => ∀ ns : List Int, ts = [.lst (ns.map T.int)] → ∃ ms : List Int, t = .tup (ms.map T.int) ∧ ms.Sublist ns) noX
/-- small numbers of houses and readers -/
def HR (h r : Nat) : Prop := 1 ≤ h ∧ h ≤ 3 ∧ 1 ≤ r ∧ r ≤ 3
def sp_law_a_moment (K : PySem.W.Frag) : Sp := sO (fun n => Bx (n + 40)) Bx (fun ts => ∃ h r : Nat, ts = [.int h, .int r] ∧ HR h r) (fun ts t => ∀ h r : Nat, ts = [.int h, .int r] → ∃ m, t = moT m ∧ MoOk h r m) noX
def madV (K : PySem.W.Frag) (ws : List V) (x s m k : T) : List T := match badS x s m k with
  | none => [.str "told", .ins (skC K) skF [x, s, .tup (itemsOf m), k]]
  | some (w, _, j) => [.str w, .raw ((ws[j]?).getD .non)]
def sp_law_made (K : PySem.W.Frag) : Sp := fun vs H Q E => ∃ (x s m k : T) (ws : List V) (A : Addr) (c : Bool) (G : Hp), vs = [.ref A, .bl c] ∧ G A = some (.lst ws) ∧ RepL G [x, s, m, k] ws ∧ Le G H ∧ DD x ∧ DD s ∧ DD m ∧ DD k ∧
  ∀ p us G' H', H' p = some (.lst us) → G' p = none → H p = none → RepL G' (madV K ws x s m k) us → Grow G H G' H' → Q (.ref p) H'
def sp_law_args (K : PySem.W.Frag) : Sp := sO (fun n => Bx (n + 1100)) Bx (fun ts => ∃ c : Bool, ts = [.bl c]) (fun _ t => ∃ S l, SkOk S ∧ t = .lst (argT S l)) noX
/-- four arguments -/
structure ArgD (xs : List T) : Prop where
  len : xs.length = 4
  d : ∀ t ∈ xs, Dat 130 5 t
def sp_law_spoilt (K : PySem.W.Frag) : Sp := sO (fun n => Bx (n + 10)) Bx (fun ts => ∃ (xs : List T) (spot : Nat), ts = [.lst xs, .int spot] ∧ ArgD xs ∧ spot ≤ 3) (fun _ t => ∃ ys, t = .lst ys ∧ ArgD ys) noX
def sp_law_refused_right (K : PySem.W.Frag) : Sp := sO (fun n => Bx (n + 1)) Bx (fun ts => ∃ xs, ts = [.lst xs] ∧ ArgD xs) (fun _ t => t = .bl true) noX
def sp_law_plain_right (K : PySem.W.Frag) : Sp := sP (fun ts => ∃ S l, ts = [skT K S, .lst (argT S l)] ∧ SkOk S) (fun _ t => t = .bl true) noX
def sp_law_near_right (K : PySem.W.Frag) : Sp := sO (fun n => Bx (n + 20)) Bx (fun ts => ∃ S l, ts = [.lst (argT S l)] ∧ SkOk S) (fun _ t => t = .bl true) noX
def sp_law_ticks_right (K : PySem.W.Frag) : Sp := sO (fun n => Bx (n + 50)) Bx (fun ts => ∃ S l, ts = [skT K S, .lst (argT S l)] ∧ SkOk S) (fun _ t => t = .bl true) noX
def sp_law_equal_right (K : PySem.W.Frag) : Sp := sO (fun n => Bx (n + 3)) Bx (fun ts => ∃ S l, ts = [skT K S, .lst (argT S l)] ∧ SkOk S) (fun _ t => t = .bl true) noX
def sp_law (K : PySem.W.Frag) : Sp := TD.sp_law K
end K09
set_option maxHeartbeats 4000000
namespace K09
open PySem PySem.Spec PyProof.Rows L2 TL
abbrev N_Sky_init : List Str := ["self", "houses", "readers", "moments", "back"]
def t_Sky_init (K : PySem.W.Frag) (E : XK) : TS := (tSeq (tIfS (tNot (tTruU K (tCallS (sp_is_between K) (WE (WD E)) (tCons (tVar 1) (tCons (tC (.int 1)) (tCons (tC (.int 3)) tNil)))))) (tRaiseO (He.ga K "InvalidHouses") (spIni (He.ga K "InvalidHouses") ["given"]) (tCons (tVar 1) tNil) (WD E)) tNext)
  (tSeq (tIfS (tNot (tTruU K (tCallS (sp_is_between K) (WE (WD E)) (tCons (tVar 2) (tCons (tC (.int 1)) (tCons (tC (.int 3)) tNil)))))) (tRaiseO (He.ga K "InvalidReaders") (spIni (He.ga K "InvalidReaders") ["given"]) (tCons (tVar 2) tNil) (WD E)) tNext)
  (tSeq (tIfS (tNot (tTruU K (tCallS (sp_are_moments K) (WE (WD E)) (tCons (tVar 3) (tCons (tVar 1) (tCons (tVar 2) tNil)))))) (tRaiseO (He.ga K "InvalidMoments") (spIni (He.ga K "InvalidMoments") ["given"]) (tCons (tVar 3) tNil) (WD E)) tNext)
  (tSeq (tIfS (tAnd (tTest (tOp rIsNotU (tVar 4) (tC .non))) (tNot (tTruU K (tCallS (sp_is_between K) (WE (WD E)) (tCons (tVar 4) (tCons (tC (.int 0)) (tCons (tOp rSubU (tCB (rLenU K) (tCons (tVar 3) tNil)) (tC (.int 1))) tNil))))))) (tRaiseO (He.ga K "InvalidBack") (spIni (He.ga K "InvalidBack") ["given"]) (tCons (tVar 4) tNil) (WD E)) tNext)
  (tSeq (sFld K (tVar 0) (tVar 1) "houses")
  (tSeq (sFld K (tVar 0) (tVar 2) "readers")
  (tSeq (sFld K (tVar 0) (tCB (rTupU K) (tCons (tVar 3) tNil)) "moments")
  (sFld K (tVar 0) (tVar 4) "back"))))))))
abbrev N_is_whole : List Str := ["value"]
def t_is_whole (K : PySem.W.Frag) (E : XK) : TS := (tRet (tAndV (tCB (rIsiU K) (tCons (tVar 0) (tCons (tC (.ty "int")) tNil))) (tNotV (tCB (rIsiU K) (tCons (tVar 0) (tCons (tC (.ty "bool")) tNil))))))
abbrev N_is_between : List Str := ["value", "least", "most"]
def t_is_between (K : PySem.W.Frag) (E : XK) : TS := (tRet (tAndV (tCallS (sp_is_whole K) (WE (WD E)) (tCons (tVar 0) tNil)) (tChain rLeU rLeU (tVar 1) (tVar 0) (tVar 2))))
abbrev N_is_list : List Str := ["value"]
def t_is_list (K : PySem.W.Frag) (E : XK) : TS := (tRet (tCB (rIsiU K) (tCons (tVar 0) (tCons (tTup (tCons (tC (.ty "list")) (tCons (tC (.ty "tuple")) tNil))) tNil))))
abbrev N_is_tuple_of : List Str := ["value", "many"]
def t_is_tuple_of (K : PySem.W.Frag) (E : XK) : TS := (tRet (tAndV (tCB (rIsiU K) (tCons (tVar 0) (tCons (tC (.ty "tuple")) tNil))) (tOp (rEqQ K) (tCB (rLenU K) (tCons (tVar 0) tNil)) (tVar 1))))
abbrev N_are_between : List Str := ["values", "least", "most", "value"]
def t_are_between (K : PySem.W.Frag) (E : XK) : TS := (tRet (tCB (rAll K) (tCons (tLc (iSeqV K (tVar 0)) (gName 3) tYes (tCallS (sp_is_between K) (WE E00) (tCons (tVar 3) (tCons (tVar 1) (tCons (tVar 2) tNil)))) [3]) tNil)))
abbrev N_is_ascending : List Str := ["items", "at"]
def t_is_ascending (K : PySem.W.Frag) (E : XK) : TS := (tRet (tCB (rAll K) (tCons (tLc (iRng1 (tCons (tOp rSubU (tCB (rLenU K) (tCons (tVar 0) tNil)) (tC (.int 1))) tNil)) (gName 1) tYes (tOp rLtU (tOp (rIx K) (tVar 0) (tVar 1)) (tOp (rIx K) (tVar 0) (tOp (rAddU K) (tVar 1) (tC (.int 1))))) [1]) tNil)))
abbrev N_is_subset : List Str := ["value", "least", "most"]
def t_is_subset (K : PySem.W.Frag) (E : XK) : TS := (tRet (tAndV (tCB (rIsiU K) (tCons (tVar 0) (tCons (tC (.ty "tuple")) tNil))) (tAndV (tCallS (sp_are_between K) (WE (WD E)) (tCons (tVar 0) (tCons (tVar 1) (tCons (tVar 2) tNil)))) (tCallS (sp_is_ascending K) (WE (WD E)) (tCons (tVar 0) tNil)))))
abbrev N_are_receivers : List Str := ["value", "houses", "readers"]
def t_are_receivers (K : PySem.W.Frag) (E : XK) : TS := (tRet (tCallS (sp_is_subset K) (WE (WD E)) (tCons (tVar 0) (tCons (tUn rNegU (tVar 2)) (tCons (tOp rSubU (tVar 1) (tC (.int 1))) tNil)))))
abbrev N_is_frame : List Str := ["value", "houses", "readers"]
def t_is_frame (K : PySem.W.Frag) (E : XK) : TS := (tSeq (tIfS (tOr (tNot (tTruU K (tCallS (sp_is_tuple_of K) (WE (WD E)) (tCons (tVar 0) (tCons (tC (.int 2)) tNil))))) (tNot (tTruU K (tCallS (sp_is_between K) (WE (WD E)) (tCons (tOp (rIx K) (tVar 0) (tC (.int 0))) (tCons (tC (.int 0)) (tCons (tOp rSubU (tVar 1) (tC (.int 1))) tNil))))))) (tRet (tC (.bl false))) tNext)
  (tRet (tAndV (tCallS (sp_are_receivers K) (WE (WD E)) (tCons (tOp (rIx K) (tVar 0) (tC (.int 1))) (tCons (tVar 1) (tCons (tVar 2) tNil)))) (tAndV (tOp (rNeU K) (tOp (rIx K) (tVar 0) (tC (.int 1))) (tTup tNil)) (tOp (rIn K true) (tOp (rIx K) (tVar 0) (tC (.int 0))) (tOp (rIx K) (tVar 0) (tC (.int 1))))))))
abbrev N_is_moment : List Str := ["value", "houses", "readers"]
def t_is_moment (K : PySem.W.Frag) (E : XK) : TS := (tSeq (tIfS (tOr (tNot (tTruU K (tCallS (sp_is_tuple_of K) (WE (WD E)) (tCons (tVar 0) (tCons (tC (.int 3)) tNil))))) (tOr (tNot (tTruU K (tCallS (sp_is_tuple_of K) (WE (WD E)) (tCons (tOp (rIx K) (tVar 0) (tC (.int 0))) (tCons (tVar 1) tNil))))) (tNot (tTruU K (tCallS (sp_are_between K) (WE (WD E)) (tCons (tOp (rIx K) (tVar 0) (tC (.int 0))) (tCons (tC (.int 0)) (tCons (tC (.int 4)) tNil)))))))) (tRet (tC (.bl false))) tNext)
  (tSeq (tIfS (tAnd (tTest (tOp rIsNotU (tOp (rIx K) (tVar 0) (tC (.int 1))) (tC .non))) (tNot (tTruU K (tCallS (sp_is_frame K) (WE (WD E)) (tCons (tOp (rIx K) (tVar 0) (tC (.int 1))) (tCons (tVar 1) (tCons (tVar 2) tNil))))))) (tRet (tC (.bl false))) tNext)
  (tRet (tOrV (tOp rIsU (tOp (rIx K) (tVar 0) (tC (.int 2))) (tC .non)) (tCallS (sp_is_between K) (WE (WD E)) (tCons (tOp (rIx K) (tVar 0) (tC (.int 2))) (tCons (tC (.int 0)) (tCons (tC (.int 8)) tNil))))))))
abbrev N_are_moments : List Str := ["value", "houses", "readers", "moment"]
def t_are_moments (K : PySem.W.Frag) (E : XK) : TS := (tSeq (tIfS (tOr (tNot (tTruU K (tCallS (sp_is_list K) (WE (WD E)) (tCons (tVar 0) tNil)))) (tNot (tTest (tChain rLeU rLeU (tC (.int 1)) (tCB (rLenU K) (tCons (tVar 0) tNil)) (tC (.int 24)))))) (tRet (tC (.bl false))) tNext)
  (tRet (tCB (rAll K) (tCons (tLc (iSeqV K (tVar 0)) (gName 3) tYes (tCallS (sp_is_moment K) (WE E00) (tCons (tVar 3) (tCons (tVar 1) (tCons (tVar 2) tNil)))) [3]) tNil))))
abbrev N_check_tick : List Str := ["tick"]
def t_check_tick (K : PySem.W.Frag) (E : XK) : TS := (tIfS (tNot (tTruU K (tCallS (sp_is_between K) (WE (WD E)) (tCons (tVar 0) (tCons (tC (.int 0)) (tCons (tC (.int 1000000000000000)) tNil)))))) (tRaiseO (He.ga K "InvalidTick") (spIni (He.ga K "InvalidTick") ["given"]) (tCons (tVar 0) tNil) (WD E)) tNext)
abbrev N_moment_at : List Str := ["sky", "tick", "many"]
def t_moment_at (K : PySem.W.Frag) (E : XK) : TS := (tSeq (tAsg (tCB (rLenU K) (tCons (tFld K (tVar 0) "moments") tNil)) (gName 2))
  (tSeq (tIfS (tTest (tOp rLtU (tVar 1) (tVar 2))) (tRet (tVar 1)) tNext)
  (tRet (tIf (tTest (tOp rIsU (tFld K (tVar 0) "back") (tC .non))) (tC .non) (tOp (rAddU K) (tFld K (tVar 0) "back") (tOp rModU (tOp rSubU (tVar 1) (tFld K (tVar 0) "back")) (tOp rSubU (tVar 2) (tFld K (tVar 0) "back"))))))))
abbrev N_moment_of : List Str := ["sky", "tick"]
def t_moment_of (K : PySem.W.Frag) (E : XK) : TS := (tSeq (tDrop (tCallS (sp_check_tick K) (WE (WD E)) (tCons (tVar 1) tNil)))
  (tRet (tCallS (sp_moment_at K) (WE (WD E)) (tCons (tVar 0) (tCons (tVar 1) tNil)))))
abbrev N_law_cell : List Str := ["script", "k"]
def t_law_cell (K : PySem.W.Frag) (E : XK) : TS := (tRet (tIf (tTest (tOp rLtU (tVar 1) (tCB (rLenU K) (tCons (tVar 0) tNil)))) (tOp (rIx K) (tVar 0) (tVar 1)) (tOp (rAddU K) (tOp (rMulU K) (tC (.int 6007)) (tVar 1)) (tOp rModU (tCB rIntU (tCons (tCB (rSum K) (tCons (tSl (rSlU K) (tVar 0) tNoPart (tPart (tC (.int 1)))) tNil)) tNil)) (tC (.int 1000033))))))
abbrev N_law_box : List Str := ["great"]
def t_law_box (K : PySem.W.Frag) (E : XK) : TS := (tRet (tLst (tCons (tCB rAbsU (tCons (tVar 0) tNil)) (tCons (tOp rGeU (tCB rAbsU (tCons (tVar 0) tNil)) (tOp rPowU (tC (.int 10)) (tC (.int 18)))) (tCons (tOp rModU (tCB rIntU (tCons (tCB rAbsU (tCons (tVar 0) tNil)) tNil)) (tC (.int 2147483629))) (tCons (tC (.int 0)) tNil))))))
abbrev N_law_take : List Str := ["box", "many", "digit", "mixed"]
def t_law_take (K : PySem.W.Frag) (E : XK) : TS := (tSeq (tIfS (tAnd (tTruU K (tOp (rIx K) (tVar 0) (tC (.int 1)))) (tTest (tOp rGtU (tOp (rIx K) (tVar 0) (tC (.int 0))) (tC (.int 0))))) (tSeq (tAsg (tOp rModU (tCB rIntU (tCons (tOp (rIx K) (tVar 0) (tC (.int 0))) tNil)) (tVar 1)) (gName 2))
  (tSeq (tAsg (tOp rDivU (tOp (rIx K) (tVar 0) (tC (.int 0))) (tVar 1)) (gSub (tVar 0) (tC (.int 0)) rSetL))
  (tRet (tVar 2)))) tNext)
  (tSeq (tAsg (tOp (rAddU K) (tOp (rIx K) (tVar 0) (tC (.int 3))) (tC (.int 1))) (gSub (tVar 0) (tC (.int 3)) rSetL))
  (tSeq (tAsg (tOp rModU (tCB rIntU (tCons (tOp rPowU (tOp (rAddU K) (tOp (rAddU K) (tOp (rIx K) (tVar 0) (tC (.int 2))) (tOp (rMulU K) (tC (.int 15485863)) (tOp (rIx K) (tVar 0) (tC (.int 3))))) (tC (.int 179424673))) (tC (.int 5))) tNil)) (tC (.int 2147483647))) (gName 3))
  (tRet (tOp rModU (tCB rIntU (tCons (tOp rDivU (tOp rModU (tCB rIntU (tCons (tOp rPowU (tOp (rAddU K) (tOp (rMulU K) (tVar 3) (tC (.int 48271))) (tOp (rMulU K) (tC (.int 104729)) (tOp (rIx K) (tVar 0) (tC (.int 3))))) (tC (.int 3))) tNil)) (tC (.int 2147483587))) (tC (.int 64))) tNil)) (tVar 1))))))
abbrev N_law_same : List Str := ["told", "due", "k"]
def t_law_same (K : PySem.W.Frag) (n : Nat) (E : XK) : TS := (tSeq (tIfS (tOr (tTest (tOp rIsU (tVar 1) (tC .non))) (tTruU K (tCB (rIsiU K) (tCons (tVar 1) (tCons (tC (.ty "bool")) tNil))))) (tRet (tIf (tTest (tOp rIsU (tVar 1) (tC .non))) (tOp rIsU (tVar 0) (tC .non)) (tAndV (tCB (rIsiU K) (tCons (tVar 0) (tCons (tC (.ty "bool")) tNil))) (tOp (rEqQ K) (tOp rIsU (tVar 0) (tC (.bl true))) (tOp rIsU (tVar 1) (tC (.bl true))))))) tNext)
  (tSeq (tIfS (tTruU K (tCB (rIsiU K) (tCons (tVar 1) (tCons (tC (.ty "int")) tNil)))) (tRet (tAndV (tCB (rIsiU K) (tCons (tVar 0) (tCons (tC (.ty "int")) tNil))) (tAndV (tNotV (tCB (rIsiU K) (tCons (tVar 0) (tCons (tC (.ty "bool")) tNil)))) (tOp (rEqQ K) (tOp rSubU (tCB rIntU (tCons (tVar 0) tNil)) (tVar 1)) (tC (.int 0)))))) tNext)
  (tSeq (tIfS (tTruU K (tCB (rIsiU K) (tCons (tVar 1) (tCons (tC (.ty "str")) tNil)))) (tRet (tAndV (tCB (rIsiU K) (tCons (tVar 0) (tCons (tC (.ty "str")) tNil))) (tAndV (tOp (rEqQ K) (tCB (rLenU K) (tCons (tVar 0) tNil)) (tCB (rLenU K) (tCons (tVar 1) tNil))) (tOp (rEqQ K) (tLc (iRng1 (tCons (tCB (rLenU K) (tCons (tVar 1) tNil)) tNil)) (gName 2) (tTest (tOp (rNeU K) (tSl (rSlU K) (tVar 0) (tPart (tVar 2)) (tPart (tOp (rAddU K) (tVar 2) (tC (.int 1))))) (tOp (rIx K) (tVar 1) (tVar 2)))) (tVar 2) [2]) (tLst tNil))))) tNext)
  (tSeq (tIfS (tTruU K (tCB (rIsiU K) (tCons (tVar 1) (tCons (tC (.ty "dict")) tNil)))) (tRet (tAndV (tCB (rIsiU K) (tCons (tVar 0) (tCons (tC (.ty "dict")) tNil))) (tOp (rEqQ K) (tVar 0) (tVar 1)))) tNext)
  (tSeq (tIfS (tOr (tTest (tOp (rNeU K) (tCB (rIsiU K) (tCons (tVar 0) (tCons (tC (.ty "list")) tNil))) (tCB (rIsiU K) (tCons (tVar 1) (tCons (tC (.ty "list")) tNil))))) (tTest (tOp (rNeU K) (tCB (rIsiU K) (tCons (tVar 0) (tCons (tC (.ty "tuple")) tNil))) (tCB (rIsiU K) (tCons (tVar 1) (tCons (tC (.ty "tuple")) tNil)))))) (tRet (tC (.bl false))) tNext)
  (tRet (tAndV (tOp (rEqQ K) (tCB (rLenU K) (tCons (tVar 0) tNil)) (tCB (rLenU K) (tCons (tVar 1) tNil))) (tOp (rEqQ K) (tLc (iRng1 (tCons (tCB (rLenU K) (tCons (tVar 1) tNil)) tNil)) (gName 2) (tNot (tTruU K (tCallS (sp_law_same K n) (WE E00) (tCons (tOp (rIx K) (tVar 0) (tVar 2)) (tCons (tOp (rIx K) (tVar 1) (tVar 2)) tNil))))) (tVar 2) [2]) (tLst tNil)))))))))
abbrev N_law_whole : List Str := ["value", "least", "most"]
def t_law_whole (K : PySem.W.Frag) (E : XK) : TS := (tRet (tAndV (tCB (rIsiU K) (tCons (tVar 0) (tCons (tC (.ty "int")) tNil))) (tAndV (tNotV (tCB (rIsiU K) (tCons (tVar 0) (tCons (tC (.ty "bool")) tNil)))) (tChain rLeU rLeU (tVar 1) (tVar 0) (tVar 2)))))
abbrev N_law_subset : List Str := ["box", "items", "item"]
def t_law_subset (K : PySem.W.Frag) (E : XK) : TS := (tRet (tCB (rTupU K) (tCons (tLc (iSeqV K (tVar 1)) (gName 2) (tTest (tOp (rEqQ K) (tCallS (sp_law_take K) (WE E00) (tCons (tVar 0) (tCons (tC (.int 2)) tNil))) (tC (.int 0)))) (tVar 2) [2]) tNil)))
abbrev N_law_a_moment : List Str := ["box", "houses", "readers", "taken", "sender", "others", "some", "one", "way", "word", "frame", "house"]
def t_law_a_moment (K : PySem.W.Frag) (E : XK) : TS := (tSeq (tAsg (tTup (tCons (tCB (rTupU K) (tCons (tLc (iRng1 (tCons (tVar 1) tNil)) (gName 11) tYes (tCallS (sp_law_take K) (WE E00) (tCons (tVar 0) (tCons (tC (.int 5)) tNil))) [11]) tNil)) (tCons (tCallS (sp_law_take K) (WE (WD E)) (tCons (tVar 0) (tCons (tVar 1) tNil))) tNil))) (gTup K 2 (gCons (gName 3) (gCons (gName 4) gNil))))
  (tSeq (tAsg (tLc (iRng2 (tCons (tUn rNegU (tVar 2)) (tCons (tVar 1) tNil))) (gName 7) (tTest (tOp (rNeU K) (tVar 7) (tVar 4))) (tVar 7) [7]) (gName 5))
  (tSeq (tAsg (tTup (tCons (tCallS (sp_law_subset K) (WE (WD E)) (tCons (tVar 0) (tCons (tVar 5) tNil))) (tCons (tOp (rIx K) (tVar 5) (tCallS (sp_law_take K) (WE (WD E)) (tCons (tVar 0) (tCons (tCB (rLenU K) (tCons (tVar 5) tNil)) tNil)))) (tCons (tCallS (sp_law_take K) (WE (WD E)) (tCons (tVar 0) (tCons (tC (.int 4)) tNil))) (tCons (tCallS (sp_law_take K) (WE (WD E)) (tCons (tVar 0) (tCons (tC (.int 18)) tNil))) tNil))))) (gTup K 4 (gCons (gName 6) (gCons (gName 7) (gCons (gName 8) (gCons (gName 9) gNil))))))
  (tSeq (tAsg (tIf (tTest (tOp (rEqQ K) (tVar 8) (tC (.int 0)))) (tC .non) (tTup (tCons (tVar 4) (tCons (tIf (tTest (tOp (rNeU K) (tVar 6) (tTup tNil))) (tVar 6) (tTup (tCons (tVar 7) tNil))) tNil)))) (gName 10))
  (tRet (tTup (tCons (tVar 3) (tCons (tVar 10) (tCons (tIf (tTest (tOp rLtU (tVar 9) (tC (.int 9)))) (tVar 9) (tC .non)) tNil)))))))))
abbrev N_law_made : List Str := ["args", "named", "e"]
def t_law_made (K : PySem.W.Frag) (E : XK) : TS := (tTryA K (WD E) [(.ref (He.ga K "InvalidHouses"), some 2, fun a cls d => (tRet (tLst (tCons (tC (.str "houses")) (tCons (tXf a cls d (He.ga K "InvalidHouses") "given" (tVar 2)) tNil))))), (.ref (He.ga K "InvalidReaders"), some 2, fun a cls d => (tRet (tLst (tCons (tC (.str "readers")) (tCons (tXf a cls d (He.ga K "InvalidReaders") "given" (tVar 2)) tNil))))), (.ref (He.ga K "InvalidMoments"), some 2, fun a cls d => (tRet (tLst (tCons (tC (.str "moments")) (tCons (tXf a cls d (He.ga K "InvalidMoments") "given" (tVar 2)) tNil))))), (.ref (He.ga K "InvalidBack"), some 2, fun a cls d => (tRet (tLst (tCons (tC (.str "back")) (tCons (tXf a cls d (He.ga K "InvalidBack") "given" (tVar 2)) tNil))))), (.ref (He.ga K "AboardError"), none, fun _ _ _ => (tRet (tLst (tCons (tC (.str "other")) (tCons (tC .non) tNil)))))] fun W' => (tSeq (tIfS (tTruU K (tVar 1)) (tRet (tLst (tCons (tC (.str "told")) (tCons (tMakeS (He.ga K "Sky") (sp_Sky_init K) (WE W') (tPerm [3, 2, 1, 0] 4 (tCons (tOp (rIx K) (tVar 0) (tC (.int 3))) (tCons (tOp (rIx K) (tVar 0) (tC (.int 2))) (tCons (tOp (rIx K) (tVar 0) (tC (.int 1))) (tCons (tOp (rIx K) (tVar 0) (tC (.int 0))) tNil)))))) tNil)))) tNext)
  (tRet (tLst (tCons (tC (.str "told")) (tCons (tMakeS (He.ga K "Sky") (sp_Sky_init K) (WE W') (tCons (tOp (rIx K) (tVar 0) (tC (.int 0))) (tCons (tOp (rIx K) (tVar 0) (tC (.int 1))) (tCons (tOp (rIx K) (tVar 0) (tC (.int 2))) (tCons (tOp (rIx K) (tVar 0) (tC (.int 3))) tNil))))) tNil))))))
abbrev N_the_law : List Str := ["script", "made", "great", "k", "box", "spots", "args", "passed", "found", "sky", "once", "one"]
def t_the_law (K : PySem.W.Frag) (E : XK) : TS := (tSeq (tPar 1 2 (tCons (tLst tNil) (tCons (tOp (rEqQ K) (tCallS (sp_law_take K) (WE (WD E)) (tCons (tCallS (sp_law_box K) (WE (WD E)) (tCons (tCallS (sp_law_cell K) (WE (WD E)) (tCons (tVar 0) (tCons (tC (.int 0)) tNil))) tNil)) (tCons (tC (.int 8)) tNil))) (tC (.int 0))) tNil)))
  (tSeq (tFor (iRng1 (tCons (tCB rMaxU (tCons (tC (.int 3)) (tCons (tCB rMinU (tCons (tC (.int 5)) (tCons (tCB (rLenU K) (tCons (tVar 0) tNil)) tNil))) tNil))) tNil)) (gName 3) (tSeq (tAsg (tCallS (sp_law_box K) (WE (WD E)) (tCons (tCallS (sp_law_cell K) (WE (WD E)) (tCons (tVar 0) (tCons (tVar 3) tNil))) tNil)) (gName 4))
  (tSeq (tAsg (tLst (tCons (tCallS (sp_law_take K) (WE (WD E)) (tCons (tVar 4) (tCons (tC (.int 4)) tNil))) (tCons (tCallS (sp_law_take K) (WE (WD E)) (tCons (tVar 4) (tCons (tC (.int 4)) tNil))) (tCons (tCallS (sp_law_take K) (WE (WD E)) (tCons (tVar 4) (tCons (tC (.int 4)) tNil))) tNil)))) (gName 5))
  (tSeq (tAsg (tCallS (sp_law_args K) (WE (WD E)) (tCons (tVar 4) (tCons (tAndV (tVar 2) (tOp (rEqQ K) (tVar 3) (tC (.int 1)))) tNil))) (gName 6))
  (tSeq (tAsg (tCallS (sp_law_twin K 6) (WE (WD E)) (tCons (tVar 6) tNil)) (gName 7))
  (tSeq (tAsg (tCallS (sp_law_made K) (WE (WD E)) (tCons (tVar 7) (tCons (tOp (rEqQ K) (tCallS (sp_law_take K) (WE (WD E)) (tCons (tVar 4) (tCons (tC (.int 2)) tNil))) (tC (.int 0))) tNil))) (gName 8))
  (tSeq (tIfS (tOr (tTest (tOp (rNeU K) (tOp (rIx K) (tVar 8) (tC (.int 0))) (tC (.str "told")))) (tNot (tTruU K (tCallS (sp_law_same K 6) (WE (WD E)) (tCons (tVar 7) (tCons (tVar 6) tNil)))))) (tRet (tC (.bl false))) tNext)
  (tSeq (tIfS (tTruU K (tCB (rIsiU K) (tCons (tOp (rIx K) (tVar 7) (tC (.int 2))) (tCons (tC (.ty "list")) tNil)))) (tSeq (tDrop (tBM K "list" rAppend (tOp (rIx K) (tVar 7) (tC (.int 2))) (tCons (tTup (tCons (tTup (tCons (tC (.int 0)) tNil)) (tCons (tC .non) (tCons (tC .non) tNil)))) tNil)))
  (tDrop (tBM0 K "list" rReverse (tOp (rIx K) (tVar 7) (tC (.int 2)))))) tNext)
  (tSeq (tAsg (tOp (rIx K) (tVar 8) (tC (.int 1))) (gName 9))
  (tSeq (tIfS (tOr (tNot (tTruU K (tCallS (sp_law_plain_right K) (WE (WD E)) (tCons (tVar 9) (tCons (tVar 6) tNil))))) (tOr (tNot (tTruU K (tCallS (sp_law_equal_right K) (WE (WD E)) (tCons (tVar 4) (tCons (tVar 9) (tCons (tVar 6) tNil)))))) (tNot (tTruU K (tCallS (sp_law_ticks_right K) (WE (WD E)) (tCons (tVar 4) (tCons (tVar 9) (tCons (tVar 6) tNil)))))))) (tRet (tC (.bl false))) tNext)
  (tSeq (tAsg (tCallS (sp_law_spoilt K) (WE (WD E)) (tCons (tVar 4) (tCons (tVar 6) (tCons (tOp (rIx K) (tVar 5) (tC (.int 0))) tNil)))) (gName 10))
  (tSeq (tIfS (tOr (tNot (tTruU K (tCallS (sp_law_refused_right K) (WE (WD E)) (tCons (tVar 4) (tCons (tVar 10) tNil))))) (tNot (tTruU K (tCallS (sp_law_refused_right K) (WE (WD E)) (tCons (tVar 4) (tCons (tCallS (sp_law_spoilt K) (WE (WD E)) (tCons (tVar 4) (tCons (tVar 10) (tCons (tOp (rIx K) (tVar 5) (tC (.int 1))) tNil)))) tNil)))))) (tRet (tC (.bl false))) tNext)
  (tSeq (tIfS (tOr (tNot (tTruU K (tCallS (sp_law_refused_right K) (WE (WD E)) (tCons (tVar 4) (tCons (tCallS (sp_law_spoilt K) (WE (WD E)) (tCons (tVar 4) (tCons (tVar 6) (tCons (tC (.int 2)) tNil)))) tNil))))) (tNot (tTruU K (tCallS (sp_law_near_right K) (WE (WD E)) (tCons (tVar 4) (tCons (tVar 6) tNil)))))) (tRet (tC (.bl false))) tNext)
  (tDrop (tBM K "list" rAppend (tVar 1) (tCons (tLst (tCons (tVar 9) (tCons (tVar 6) tNil))) tNil))))))))))))))))
  (tRet (tOp (rEqQ K) (tLc (iSeqV K (tVar 1)) (gName 11) (tNot (tTruU K (tCallS (sp_law_plain_right K) (WE E00) (tCons (tOp (rIx K) (tVar 11) (tC (.int 0))) (tCons (tOp (rIx K) (tVar 11) (tC (.int 1))) tNil))))) (tVar 11) [11]) (tLst tNil)))))
end K09
set_option maxHeartbeats 4000000
namespace TD
open PySem PySem.Spec PyProof.Rows L2 TL TC
abbrev N_is_whole : List Str := ["value"]
def t_is_whole (K : PySem.W.Frag) (E : XK) : TS := (tRet (tAndV (tCB (rIsiU K) (tCons (tVar 0) (tCons (tC (.ty "int")) tNil))) (tNotV (tCB (rIsiU K) (tCons (tVar 0) (tCons (tC (.ty "bool")) tNil))))))
abbrev N_is_between : List Str := ["value", "least", "most"]
def t_is_between (K : PySem.W.Frag) (E : XK) : TS := (tRet (tAndV (tCallS (sp_is_whole K) (WE (WD E)) (tCons (tVar 0) tNil)) (tChain rLeU rLeU (tVar 1) (tVar 0) (tVar 2))))
abbrev N_is_list : List Str := ["value"]
def t_is_list (K : PySem.W.Frag) (E : XK) : TS := (tRet (tCB (rIsiU K) (tCons (tVar 0) (tCons (tTup (tCons (tC (.ty "list")) (tCons (tC (.ty "tuple")) tNil))) tNil))))
abbrev N_is_tuple_of : List Str := ["value", "many"]
def t_is_tuple_of (K : PySem.W.Frag) (E : XK) : TS := (tRet (tAndV (tCB (rIsiU K) (tCons (tVar 0) (tCons (tC (.ty "tuple")) tNil))) (tOp (rEqQ K) (tCB (rLenU K) (tCons (tVar 0) tNil)) (tVar 1))))
abbrev N_are_between : List Str := ["values", "least", "most", "value"]
def t_are_between (K : PySem.W.Frag) (E : XK) : TS := (tRet (tCB (rAll K) (tCons (tLc (iSeqV K (tVar 0)) (gName 3) tYes (tCallS (sp_is_between K) (WE E00) (tCons (tVar 3) (tCons (tVar 1) (tCons (tVar 2) tNil)))) [3]) tNil)))
abbrev N_law_cell : List Str := ["script", "k"]
def t_law_cell (K : PySem.W.Frag) (E : XK) : TS := (tRet (tIf (tTest (tOp rLtU (tVar 1) (tCB (rLenU K) (tCons (tVar 0) tNil)))) (tOp (rIx K) (tVar 0) (tVar 1)) (tOp (rAddU K) (tOp (rMulU K) (tC (.int 6007)) (tVar 1)) (tOp rModU (tCB rIntU (tCons (tCB (rSum K) (tCons (tSl (rSlU K) (tVar 0) tNoPart (tPart (tC (.int 1)))) tNil)) tNil)) (tC (.int 1000033))))))
abbrev N_law_box : List Str := ["great"]
def t_law_box (K : PySem.W.Frag) (E : XK) : TS := (tRet (tLst (tCons (tCB rAbsU (tCons (tVar 0) tNil)) (tCons (tOp rGeU (tCB rAbsU (tCons (tVar 0) tNil)) (tOp rPowU (tC (.int 10)) (tC (.int 18)))) (tCons (tOp rModU (tCB rIntU (tCons (tCB rAbsU (tCons (tVar 0) tNil)) tNil)) (tC (.int 2147483629))) (tCons (tC (.int 0)) tNil))))))
abbrev N_law_take : List Str := ["box", "many", "digit", "mixed"]
def t_law_take (K : PySem.W.Frag) (E : XK) : TS := (tSeq (tIfS (tAnd (tTruU K (tOp (rIx K) (tVar 0) (tC (.int 1)))) (tTest (tOp rGtU (tOp (rIx K) (tVar 0) (tC (.int 0))) (tC (.int 0))))) (tSeq (tAsg (tOp rModU (tCB rIntU (tCons (tOp (rIx K) (tVar 0) (tC (.int 0))) tNil)) (tVar 1)) (gName 2))
  (tSeq (tAsg (tOp rDivU (tOp (rIx K) (tVar 0) (tC (.int 0))) (tVar 1)) (gSub (tVar 0) (tC (.int 0)) rSetL))
  (tRet (tVar 2)))) tNext)
  (tSeq (tAsg (tOp (rAddU K) (tOp (rIx K) (tVar 0) (tC (.int 3))) (tC (.int 1))) (gSub (tVar 0) (tC (.int 3)) rSetL))
  (tSeq (tAsg (tOp rModU (tCB rIntU (tCons (tOp rPowU (tOp (rAddU K) (tOp (rAddU K) (tOp (rIx K) (tVar 0) (tC (.int 2))) (tOp (rMulU K) (tC (.int 15485863)) (tOp (rIx K) (tVar 0) (tC (.int 3))))) (tC (.int 179424673))) (tC (.int 5))) tNil)) (tC (.int 2147483647))) (gName 3))
  (tRet (tOp rModU (tCB rIntU (tCons (tOp rDivU (tOp rModU (tCB rIntU (tCons (tOp rPowU (tOp (rAddU K) (tOp (rMulU K) (tVar 3) (tC (.int 48271))) (tOp (rMulU K) (tC (.int 104729)) (tOp (rIx K) (tVar 0) (tC (.int 3))))) (tC (.int 3))) tNil)) (tC (.int 2147483587))) (tC (.int 64))) tNil)) (tVar 1))))))
abbrev N_law_same : List Str := ["told", "due", "k"]
def t_law_same (K : PySem.W.Frag) (n : Nat) (E : XK) : TS := (tSeq (tIfS (tOr (tTest (tOp rIsU (tVar 1) (tC .non))) (tTruU K (tCB (rIsiU K) (tCons (tVar 1) (tCons (tC (.ty "bool")) tNil))))) (tRet (tIf (tTest (tOp rIsU (tVar 1) (tC .non))) (tOp rIsU (tVar 0) (tC .non)) (tAndV (tCB (rIsiU K) (tCons (tVar 0) (tCons (tC (.ty "bool")) tNil))) (tOp (rEqQ K) (tOp rIsU (tVar 0) (tC (.bl true))) (tOp rIsU (tVar 1) (tC (.bl true))))))) tNext)
  (tSeq (tIfS (tTruU K (tCB (rIsiU K) (tCons (tVar 1) (tCons (tC (.ty "int")) tNil)))) (tRet (tAndV (tCB (rIsiU K) (tCons (tVar 0) (tCons (tC (.ty "int")) tNil))) (tAndV (tNotV (tCB (rIsiU K) (tCons (tVar 0) (tCons (tC (.ty "bool")) tNil)))) (tOp (rEqQ K) (tOp rSubU (tCB rIntU (tCons (tVar 0) tNil)) (tVar 1)) (tC (.int 0)))))) tNext)
  (tSeq (tIfS (tTruU K (tCB (rIsiU K) (tCons (tVar 1) (tCons (tC (.ty "str")) tNil)))) (tRet (tAndV (tCB (rIsiU K) (tCons (tVar 0) (tCons (tC (.ty "str")) tNil))) (tAndV (tOp (rEqQ K) (tCB (rLenU K) (tCons (tVar 0) tNil)) (tCB (rLenU K) (tCons (tVar 1) tNil))) (tOp (rEqQ K) (tLc (iRng1 (tCons (tCB (rLenU K) (tCons (tVar 1) tNil)) tNil)) (gName 2) (tTest (tOp (rNeU K) (tSl (rSlU K) (tVar 0) (tPart (tVar 2)) (tPart (tOp (rAddU K) (tVar 2) (tC (.int 1))))) (tOp (rIx K) (tVar 1) (tVar 2)))) (tVar 2) [2]) (tLst tNil))))) tNext)
  (tSeq (tIfS (tTruU K (tCB (rIsiU K) (tCons (tVar 1) (tCons (tC (.ty "dict")) tNil)))) (tRet (tAndV (tCB (rIsiU K) (tCons (tVar 0) (tCons (tC (.ty "dict")) tNil))) (tOp (rEqQ K) (tVar 0) (tVar 1)))) tNext)
  (tSeq (tIfS (tOr (tTest (tOp (rNeU K) (tCB (rIsiU K) (tCons (tVar 0) (tCons (tC (.ty "list")) tNil))) (tCB (rIsiU K) (tCons (tVar 1) (tCons (tC (.ty "list")) tNil))))) (tTest (tOp (rNeU K) (tCB (rIsiU K) (tCons (tVar 0) (tCons (tC (.ty "tuple")) tNil))) (tCB (rIsiU K) (tCons (tVar 1) (tCons (tC (.ty "tuple")) tNil)))))) (tRet (tC (.bl false))) tNext)
  (tRet (tAndV (tOp (rEqQ K) (tCB (rLenU K) (tCons (tVar 0) tNil)) (tCB (rLenU K) (tCons (tVar 1) tNil))) (tOp (rEqQ K) (tLc (iRng1 (tCons (tCB (rLenU K) (tCons (tVar 1) tNil)) tNil)) (gName 2) (tNot (tTruU K (tCallS (sp_law_same K n) (WE E00) (tCons (tOp (rIx K) (tVar 0) (tVar 2)) (tCons (tOp (rIx K) (tVar 1) (tVar 2)) tNil))))) (tVar 2) [2]) (tLst tNil)))))))))
abbrev N_law_whole : List Str := ["value", "least", "most"]
def t_law_whole (K : PySem.W.Frag) (E : XK) : TS := (tRet (tAndV (tCB (rIsiU K) (tCons (tVar 0) (tCons (tC (.ty "int")) tNil))) (tAndV (tNotV (tCB (rIsiU K) (tCons (tVar 0) (tCons (tC (.ty "bool")) tNil)))) (tChain rLeU rLeU (tVar 1) (tVar 0) (tVar 2)))))
abbrev N_law_ask : List Str := ["door", "args", "named", "e"]
def t_law_ask (K : PySem.W.Frag) (E : XK) : TS := (tTryA K (WD E) [(.ref (He.ga K "InvalidPrime"), some 3, fun a cls d => (tRet (tLst (tCons (tC (.str "prime")) (tCons (tXf a cls d (He.ga K "InvalidPrime") "given" (tVar 3)) tNil))))), (.ref (He.ga K "InvalidLetter"), some 3, fun a cls d => (tRet (tLst (tCons (tC (.str "letter")) (tCons (tXf a cls d (He.ga K "InvalidLetter") "given" (tVar 3)) tNil))))), (.ref (He.ga K "NoInverse"), none, fun _ _ _ => (tRet (tLst (tCons (tC (.str "zero")) (tCons (tC .non) tNil))))), (.ref (He.ga K "InvalidSize"), some 3, fun a cls d => (tRet (tLst (tCons (tC (.str "size")) (tCons (tXf a cls d (He.ga K "InvalidSize") "given" (tVar 3)) tNil))))), (.ref (He.ga K "InvalidRow"), some 3, fun a cls d => (tRet (tLst (tCons (tC (.str "row")) (tCons (tXf a cls d (He.ga K "InvalidRow") "given" (tVar 3)) tNil))))), (.ref (He.ga K "InvalidRows"), some 3, fun a cls d => (tRet (tLst (tCons (tC (.str "rows")) (tCons (tXf a cls d (He.ga K "InvalidRows") "given" (tVar 3)) tNil))))), (.ref (He.ga K "AboardError"), none, fun _ _ _ => (tRet (tLst (tCons (tC (.str "other")) (tCons (tC .non) tNil)))))] fun W' => (tRet (tLst (tCons (tC (.str "told")) (tCons (tCallS (sp_law_call K) (WE W') (tCons (tVar 0) (tCons (tVar 1) (tCons (tVar 2) tNil)))) tNil)))))
abbrev N_the_law : List Str := ["script", "many", "great", "k", "box", "door", "spots", "args", "once", "twice"]
def t_the_law (K : PySem.W.Frag) (E : XK) : TS := (tSeq (tAsg (tCB rMaxU (tCons (tC (.int 2)) (tCons (tCB rMinU (tCons (tC (.int 4)) (tCons (tCB (rLenU K) (tCons (tVar 0) tNil)) tNil))) tNil))) (gName 1))
  (tSeq (tAsg (tCallS (sp_law_take K) (WE (WD E)) (tCons (tCallS (sp_law_box K) (WE (WD E)) (tCons (tCallS (sp_law_cell K) (WE (WD E)) (tCons (tVar 0) (tCons (tC (.int 0)) tNil))) tNil)) (tCons (tC (.int 8)) tNil))) (gName 2))
  (tSeq (tFor (iRng1 (tCons (tVar 1) tNil)) (gName 3) (tSeq (tAsg (tCallS (sp_law_box K) (WE (WD E)) (tCons (tCallS (sp_law_cell K) (WE (WD E)) (tCons (tVar 0) (tCons (tVar 3) tNil))) tNil)) (gName 4))
  (tFor (iRng1 (tCons (tC (.int 5)) tNil)) (gName 5) (tSeq (tAsg (tLst (tCons (tCallS (sp_law_take K) (WE (WD E)) (tCons (tVar 4) (tCons (tC (.int 3)) tNil))) (tCons (tCallS (sp_law_take K) (WE (WD E)) (tCons (tVar 4) (tCons (tC (.int 3)) tNil))) (tCons (tCallS (sp_law_take K) (WE (WD E)) (tCons (tVar 4) (tCons (tC (.int 3)) tNil))) tNil)))) (gName 6))
  (tSeq (tAsg (tCallS (sp_law_args K) (WE (WD E)) (tCons (tVar 4) (tCons (tVar 5) (tCons (tAndV (tOp (rEqQ K) (tVar 2) (tC (.int 0))) (tOp (rEqQ K) (tVar 3) (tC (.int 0)))) tNil)))) (gName 7))
  (tSeq (tIfS (tNot (tTruU K (tCallS (sp_law_right K) (WE (WD E)) (tCons (tVar 4) (tCons (tVar 5) (tCons (tCallS (sp_law_twin K 5) (WE (WD E)) (tCons (tVar 7) tNil)) tNil)))))) (tRet (tC (.bl false))) tNext)
  (tSeq (tAsg (tCallS (sp_law_spoilt K) (WE (WD E)) (tCons (tVar 4) (tCons (tVar 5) (tCons (tVar 7) (tCons (tOp rModU (tCB rIntU (tCons (tOp (rIx K) (tVar 6) (tC (.int 0))) tNil)) (tCB (rLenU K) (tCons (tVar 7) tNil))) tNil))))) (gName 8))
  (tSeq (tIfS (tNot (tTruU K (tCallS (sp_law_right K) (WE (WD E)) (tCons (tVar 4) (tCons (tVar 5) (tCons (tCallS (sp_law_twin K 5) (WE (WD E)) (tCons (tVar 8) tNil)) tNil)))))) (tRet (tC (.bl false))) tNext)
  (tSeq (tAsg (tCallS (sp_law_spoilt K) (WE (WD E)) (tCons (tVar 4) (tCons (tVar 5) (tCons (tCallS (sp_law_spoilt K) (WE (WD E)) (tCons (tVar 4) (tCons (tVar 5) (tCons (tVar 7) (tCons (tOp rSubU (tOp rSubU (tCB (rLenU K) (tCons (tVar 7) tNil)) (tC (.int 1))) (tOp rModU (tCB rIntU (tCons (tOp (rIx K) (tVar 6) (tC (.int 1))) tNil)) (tCB (rLenU K) (tCons (tVar 7) tNil)))) tNil))))) (tCons (tOp rModU (tCB rIntU (tCons (tOp (rIx K) (tVar 6) (tC (.int 2))) tNil)) (tC (.int 2))) tNil))))) (gName 9))
  (tIfS (tNot (tTruU K (tCallS (sp_law_right K) (WE (WD E)) (tCons (tVar 4) (tCons (tVar 5) (tCons (tCallS (sp_law_twin K 5) (WE (WD E)) (tCons (tVar 9) tNil)) tNil)))))) (tRet (tC (.bl false))) tNext))))))))))
  (tRet (tAndV (tCallS (sp_law_same K 5) (WE (WD E)) (tCons (tCallS (sp_law_ask K) (WE (WD E)) (tCons (tC (.int 0)) (tCons (tLst (tCons (tC (.int 0)) (tCons (tC (.int 5)) tNil))) (tCons (tC (.bl false)) tNil)))) (tCons (tLst (tCons (tC (.str "zero")) (tCons (tC .non) tNil))) tNil))) (tCallS (sp_law_same K 5) (WE (WD E)) (tCons (tCallS (sp_law_ask K) (WE (WD E)) (tCons (tC (.int 0)) (tCons (tLst (tCons (tC (.int 2)) (tCons (tC (.int 5)) tNil))) (tCons (tC (.bl true)) tNil)))) (tCons (tLst (tCons (tC (.str "told")) (tCons (tC (.int 3)) tNil))) tNil))))))))
end TD
namespace K2
def C : Nat → Nat → Nat
  | _, 0 => 1
  | 0, _ + 1 => 0
  | n + 1, k + 1 => C n k + C n (k + 1)
/-- no number between 1 and p divides p -/
def Prm (p : Nat) : Prop := 2 ≤ p ∧ ∀ d, d ∣ p → d = 1 ∨ d = p
theorem cop {p k : Nat} (hp : Prm p) (h0 : 0 < k) (hk : k < p) : Nat.Coprime p k := by
  rcases hp.2 (Nat.gcd p k) (Nat.gcd_dvd_left p k) with h | h
  · exact h
  · have := Nat.le_of_dvd h0 (Nat.gcd_dvd_right p k)
    omega
end K2
namespace K2
/-- what holds at each turn of Euclid's walk -/
structure Eu (a p : Nat) (left right : Nat) (first second : Int) : Prop where
  f : (p : Int) ∣ first * a - left
  s : (p : Int) ∣ second * a - right
  g : Nat.gcd left right = 1
theorem Eu.start {a p : Nat} (hp : Prm p) (h0 : 0 < a) (ha : a < p) : Eu a p a p 1 0 :=
  ⟨by rw [Int.one_mul, Int.sub_self]; exact Int.dvd_zero _, by rw [Int.zero_mul]; exact ⟨-1, by omega⟩, by rw [Nat.gcd_comm]; exact cop hp h0 ha⟩
theorem Eu.step {a p l r : Nat} {f s : Int} (e : Eu a p l r f s) (hr : 0 < r) : Eu a p r (l % r) s (f - ((l / r : Nat) : Int) * s) := by
  refine ⟨e.s, ?_, by rw [Nat.gcd_comm, ← Nat.gcd_rec, Nat.gcd_comm]; exact e.g⟩
  obtain ⟨x, hx⟩ := e.f
  obtain ⟨y, hy⟩ := e.s
  refine ⟨x - ((l / r : Nat) : Int) * y, ?_⟩
  have d : (l : Int) = (r : Int) * ((l / r : Nat) : Int) + ((l % r : Nat) : Int) := by
    have := Nat.div_add_mod l r
    exact_mod_cast this.symm
  rw [Int.mul_sub, ← hx, Int.mul_left_comm, ← hy, Int.sub_mul, Int.mul_sub, Int.mul_assoc]
  rw [Int.mul_comm ((l / r : Nat) : Int) (r : Int)]
  omega
end K2
set_option maxHeartbeats 4000000
namespace TD
open PySem PySem.Spec PyProof.Rows L2 TL TC
local macro_rules | `(tactic| walk_at "tl") => `(tactic| repeat' (first
  | with_reducible refine wS_seq ?_
  | with_reducible refine wS_if ?_
  | with_reducible refine wS_next ?_
  | with_reducible refine wS_set ?_
  | with_reducible refine wS_par ?_
  | with_reducible refine wS_par3 ?_
  | with_reducible refine wS_aug rfl ipOk ?_
  | with_reducible refine wT_not ?_
  | with_reducible refine wT_and ?_
  | with_reducible refine wT_or ?_
  | with_reducible refine wT_test ?_
  | with_reducible refine wT_tru ?_
  | with_reducible refine wE_op addOk ?_
  | with_reducible refine wE_op subOk ?_
  | with_reducible refine wE_op mulOk ?_
  | with_reducible refine wE_op modOk ?_
  | with_reducible refine wE_op divOk ?_
  | with_reducible refine wE_op powOk ?_
  | with_reducible refine wE_op ltOk ?_
  | with_reducible refine wE_op leOk ?_
  | with_reducible refine wE_op gtOk ?_
  | with_reducible refine wE_op geOk ?_
  | with_reducible refine wE_op neOk ?_
  | with_reducible refine wE_eqNil ?_
  | with_reducible refine wE_op eqQOk ?_
  | refine wE_op ixOk (wE_x rfl ?_)
  | refine wE_op ixOk (wE_v rfl ?_)
  | with_reducible refine wE_un negOk ?_
  | with_reducible refine wE_cb intOk ?_
  | with_reducible refine wE_cb absOk ?_
  | with_reducible refine wE_cb maxOk ?_
  | with_reducible refine wE_cb minOk ?_
  | refine wE_cb lenOk (wA_cons (wE_x rfl ?_))
  | refine wE_cb lenOk (wA_cons (wE_v rfl ?_))
  | with_reducible refine wE_cb sumOk ?_
  | with_reducible refine wE_sl ?_
  | with_reducible refine wO_none ?_
  | with_reducible refine wO_some ?_
  | with_reducible refine wE_tup ?_
  | with_reducible refine wE_if ?_
  | with_reducible refine wE_int ?_
  | with_reducible refine wE_bl ?_
  | with_reducible refine wE_str ?_
  | with_reducible refine wE_non ?_
  | refine wE_x rfl ?_
  | refine wE_v rfl ?_
  | with_reducible refine wA_cons ?_
  | with_reducible refine wA_nil ?_
  | with_reducible refine gAdd ?_
  | with_reducible refine gSub ?_
  | with_reducible refine gMulL (by omega) (by omega) ?_
  | with_reducible refine gMulR (by omega) (by omega) ?_
  | with_reducible refine gMod (by omega) ?_
  | with_reducible refine gDiv (by omega) (by omega) ?_
  | with_reducible refine gPow (by omega) (by omega) (by omega) ?_
  | with_reducible refine gLt ?_
  | with_reducible refine gLe ?_
  | with_reducible refine gGt ?_
  | with_reducible refine gGe ?_
  | with_reducible refine gEqI ?_
  | with_reducible refine gEqB ?_
  | with_reducible refine gNeI ?_
  | with_reducible refine gNeg ?_
  | with_reducible refine gInt ?_
  | with_reducible refine gAbs ?_
  | with_reducible refine gMax ?_
  | with_reducible refine gMin ?_
  | with_reducible refine gLenL ?_
  | with_reducible refine gLenT ?_
  | with_reducible refine gSlL ?_
  | (with_reducible intro (_ : V))
  | with_reducible refine Exists.intro _ (And.intro (rfl : T.bl _ = T.bl _) ?_)
  | with_reducible refine Exists.intro _ (And.intro (rfl : T.int _ = T.int _) ?_)
  | with_reducible refine Exists.intro _ (And.intro (rfl : truT (T.bl _) = some _) ?_)))
theorem r_is_whole {K : PySem.W.Frag} (vs : List V) (H : Hp) (Q : VK) (E : XK) (h : sp_is_whole K vs H Q E) : t_is_whole K E { nx := fun _ H' => Q .non H', rt := Q } (L2.start N_is_whole vs) H := TC.r_is_whole vs H Q E h
theorem r_is_between {K : PySem.W.Frag} (vs : List V) (H : Hp) (Q : VK) (E : XK) (h : sp_is_between K vs H Q E) : t_is_between K E { nx := fun _ H' => Q .non H', rt := Q } (L2.start N_is_between vs) H := TC.r_is_between vs H Q E h
section
variable {K : PySem.W.Frag} {E : WX} {X : XP} {ρ : TL.Env} {Φ : V → T → TL.Env → Prop} {i : Nat}
/-- isinstance(x, (list, tuple)) -/
theorem wE_isLT {u : V} {x : T} (e : ρ[i]? = some (.x u x)) (o : Ok1 K x) (h : ∀ v, Φ v (.bl (isTy x "list" || isTy x "tuple")) ρ) : wE E X (tCB (rIsiU K) (tCons (tVar i) (tCons (tTup (tCons (tC (.ty "list")) (tCons (tC (.ty "tuple")) tNil))) tNil))) ρ Φ := by
  refine wE_cb isiOk (wA_cons (wE_x e (wA_cons (wE_tup (wA_cons (wE_raw (wA_cons (wE_raw (wA_nil ⟨by show 2 ≤ sizeLine; decide, fun _ => wA_nil ⟨x, _, _, rfl, o.ok, h, .inr ⟨_, [.type "list", .type "tuple"], rfl, .cons (ClsV.ty "list") (.cons (ClsV.ty "tuple") .nil), ?_⟩⟩⟩)))))))))
  unfold PySem.W.kitAny
  rw [o.is "list" (by decide)]
  cases z : isTy x "list" with
  | true => rfl
  | false =>
    show PySem.W.kitAny K (tyT x) [.type "tuple"] = _
    unfold PySem.W.kitAny
    rw [o.is "tuple" (by decide)]
    cases isTy x "tuple" <;> rfl
end
theorem r_is_list {K : PySem.W.Frag} (vs : List V) (H : Hp) (Q : VK) (E : XK) (h : sp_is_list K vs H Q E) : t_is_list K E { nx := fun _ H' => Q .non H', rt := Q } (L2.start N_is_list vs) H := by
  refine run_sP h fun ts hl ⟨x, e, o⟩ => ?_
  subst e
  obtain ⟨u, rfl⟩ := len1 hl
  show wS _ _ _ [Sl.x u x] _
  refine wS_ret (wE_isLT rfl o fun v y ey => ?_)
  cases ey
  rfl
theorem tup_ty {x : T} (h : isTy x "tuple" = true) : ∃ ts, x = .tup ts := by
  cases x with
  | tup ts => exact ⟨ts, rfl⟩
  | exc _ _ _ => cases h
  | ins _ _ _ => cases h
  | raw _ => cases h
  | frz _ _ => cases h
  | _ => exact absurd (show false = true from h) (by simp)
theorem tup_no {x : T} (h : isTy x "tuple" = false) (n : Int) : tupLen x n = false := by
  cases x with
  | tup ts => exact absurd (show true = false from h) (by simp)
  | _ => rfl
theorem r_is_tuple_of {K : PySem.W.Frag} (vs : List V) (H : Hp) (Q : VK) (E : XK) (h : sp_is_tuple_of K vs H Q E) : t_is_tuple_of K E { nx := fun _ H' => Q .non H', rt := Q } (L2.start N_is_tuple_of vs) H := by
  refine run_sP h fun ts hl ⟨x, n, e, o⟩ => ?_
  subst e
  obtain ⟨u, u1, rfl⟩ := len2 hl
  show wS _ _ _ [Sl.x u x, .x u1 (.int n)] _
  refine wS_ret (wE_andV (wE_isi (wE_x rfl ⟨o, by decide, fun _ => ⟨_, rfl, ite_c (fun z => ?_) fun z v y m ey => ?_⟩⟩)))
  · obtain ⟨ts, rfl⟩ := tup_ty z
    refine wE_op eqQOk (wE_cb lenOk (wA_cons (wE_x rfl (wA_nil (gLenT fun _ => wE_x rfl (gEqI fun _ y m ey => ?_))))))
    cases ey
    rfl
  · cases ey
    rw [tup_no z]
theorem r_are_between {K : PySem.W.Frag} (vs : List V) (H : Hp) (Q : VK) (E : XK) (h : sp_are_between K vs H Q E) : t_are_between K E { nx := fun _ H' => Q .non H', rt := Q } (L2.start N_are_between vs) H := by
  refine run_sP h fun ts hl ⟨x, xs, l, m, e, hx, o, hz⟩ => ?_
  subst e
  obtain ⟨u, u1, u2, rfl⟩ := len3 hl
  show wS _ _ _ [Sl.x u x, .x u1 (.int l), .x u2 (.int m), .no] _
  refine wS_ret (wE_cb allOk (wA_cons (wE_F (wF_lcT (wI_seq (wE_x rfl ⟨xs, hx.symm, rfl, Nat.le_trans hz (by decide), fun _ => true, fun y => .bl (btw y l m), fun y v hy => ?_, fun _ => wA_nil ⟨xs.map fun y => btw y l m, ?_, fun _ y ys l' m' ey hy' => ?_⟩⟩))))))
  · exact wGa_name (by decide) ⟨rfl, rfl, wT_yes ⟨rfl, rfl, fun _ => wE_callV (wA_cons (wE_v rfl fun _ => wA_cons (wE_x rfl (wA_cons (wE_x rfl (wA_nil ⟨⟨y, l, m, rfl, o y hy⟩, ⟨_, fun t ht => ht y l m rfl, fun _ => ⟨rfl, rfl⟩⟩, fun er z => z.elim⟩))))))⟩⟩
  · rw [List.filter_eq_self.mpr fun _ _ => rfl, List.map_map]
    rfl
  · cases ey
    have e : ys = xs := by
      rcases hx with rfl | rfl <;> rcases hy' with z | z <;> cases z <;> rfl
    rw [e, List.all_map]
    rfl
end TD
set_option maxHeartbeats 4000000
namespace TD
open PySem PySem.Spec PyProof.Rows L2 TL TC
theorem Dat.up {m m' : Nat} (hm : m ≤ m') : ∀ {d : Nat} {t : T}, Dat m d t → ∀ {d' : Nat}, d ≤ d' → Dat m' d' t := fun {d t} h => by
  induction h with
  | non => intro d' hd; cases d' with | zero => omega | succ d' => exact .non
  | bl c => intro d' hd; cases d' with | zero => omega | succ d' => exact .bl c
  | int c => intro d' hd; cases d' with | zero => omega | succ d' => exact .int c
  | str c k => intro d' hd; cases d' with | zero => omega | succ d' => exact .str c k
  | dic c k => intro d' hd; cases d' with | zero => omega | succ d' => exact .dic c k
  | lst hz h ih => intro d' hd; cases d' with | zero => omega | succ d' => exact .lst (by omega) fun t ht => ih t ht (by omega)
  | tup hz h ih => intro d' hd; cases d' with | zero => omega | succ d' => exact .tup (by omega) fun t ht => ih t ht (by omega)
section
variable {K : PySem.W.Frag}
theorem Dat.ok1 {m d : Nat} {t : T} (h : Dat m d t) : Ok1 K t := by
  cases h with
  | non => exact ok1_ty (n := "NoneType") rfl (by decide) trivial
  | bl c => exact ok1_ty (n := "bool") rfl (by decide) trivial
  | int c => exact ok1_ty (n := "int") rfl (by decide) trivial
  | str c => exact ok1_ty (n := "str") rfl (by decide) trivial
  | dic => exact ok1_ty (n := "dict") rfl (by decide) trivial
  | lst => exact ok1_ty (n := "list") rfl (by decide) trivial
  | tup => exact ok1_ty (n := "tuple") rfl (by decide) trivial
theorem Dat.items {m d : Nat} {ts : List T} {x : T} (h : Dat m d x) (e : x = .lst ts ∨ x = .tup ts) : ts.length ≤ m ∧ ∃ d', d = d' + 1 ∧ ∀ t ∈ ts, Dat m d' t := by
  rcases e with rfl | rfl
  · cases h with
    | lst hz h => exact ⟨hz, _, rfl, h⟩
  · cases h with
    | tup hz h => exact ⟨hz, _, rfl, h⟩
variable {E : WX} {X : XP} {ρ : TL.Env} {te ta tb : TE} {Φ : V → T → TL.Env → Prop} {Θ : Bool → TL.Env → Prop} {Ψ : List T → TL.Env → Prop} {i : Nat} {P : Post}
/-- if isinstance(x, ty) -/
theorem wT_isi {n : String} {u : V} {x : T} (e : ρ[i]? = some (.x u x)) (o : Ok1 K x) (hn : n ∈ tysC) (h : Θ (isTy x n) ρ) : wT E X (tTruU K (tCB (rIsiU K) (tCons (tVar i) (tCons (tC (.ty n)) tNil)))) ρ Θ :=
  wT_tru (wE_isi (wE_x e ⟨o, hn, fun _ => ⟨_, rfl, h⟩⟩))
theorem wE_isv {n : String} {u : V} {x : T} (e : ρ[i]? = some (.x u x)) (o : Ok1 K x) (hn : n ∈ tysC) (h : ∀ v, Φ v (.bl (isTy x n)) ρ) : wE E X (tCB (rIsiU K) (tCons (tVar i) (tCons (tC (.ty n)) tNil))) ρ Φ :=
  wE_isi (wE_x e ⟨o, hn, h⟩)
theorem wE_andC (h : wE E X ta ρ fun _ x ρ1 => ∃ c, x = .bl c ∧ (c = true → wE E X tb ρ1 Φ) ∧ (c = false → ∀ v, Φ v (.bl false) ρ1)) : wE E X (tAndV ta tb) ρ Φ := wE_andV (wE_imp h fun _ x ρ1 ⟨c, e, k1, k2⟩ => ⟨c, e, ite_c k1 k2⟩)
end
theorem lt62 {n : Nat} (h : n ≤ 1000) : (n : Int) < 2 ^ 62 := by omega
theorem isTy_dat {m d : Nat} {t : T} (h : Dat m d t) : (isTy t "list" = true ↔ ∃ us, t = .lst us) ∧ (isTy t "tuple" = true ↔ ∃ us, t = .tup us) := by
  cases h with
  | lst => exact ⟨⟨fun _ => ⟨_, rfl⟩, fun _ => rfl⟩, ⟨fun z => absurd (show false = true from z) (by simp), fun ⟨_, z⟩ => by cases z⟩⟩
  | tup => exact ⟨⟨fun z => absurd (show false = true from z) (by simp), fun ⟨_, z⟩ => by cases z⟩, ⟨fun _ => ⟨_, rfl⟩, fun _ => rfl⟩⟩
  | non => exact ⟨⟨fun z => absurd (show false = true from z) (by simp), fun ⟨_, z⟩ => by cases z⟩, ⟨fun z => absurd (show false = true from z) (by simp), fun ⟨_, z⟩ => by cases z⟩⟩
  | bl => exact ⟨⟨fun z => absurd (show false = true from z) (by simp), fun ⟨_, z⟩ => by cases z⟩, ⟨fun z => absurd (show false = true from z) (by simp), fun ⟨_, z⟩ => by cases z⟩⟩
  | int => exact ⟨⟨fun z => absurd (show false = true from z) (by simp), fun ⟨_, z⟩ => by cases z⟩, ⟨fun z => absurd (show false = true from z) (by simp), fun ⟨_, z⟩ => by cases z⟩⟩
  | str => exact ⟨⟨fun z => absurd (show false = true from z) (by simp), fun ⟨_, z⟩ => by cases z⟩, ⟨fun z => absurd (show false = true from z) (by simp), fun ⟨_, z⟩ => by cases z⟩⟩
  | dic => exact ⟨⟨fun z => absurd (show false = true from z) (by simp), fun ⟨_, z⟩ => by cases z⟩, ⟨fun z => absurd (show false = true from z) (by simp), fun ⟨_, z⟩ => by cases z⟩⟩
end TD
set_option maxHeartbeats 4000000
namespace K09
open PySem PySem.Spec PyProof.Rows L2 TL TC TD
local macro_rules | `(tactic| walk_at "wk") => `(tactic| repeat' (first
  | with_reducible refine wS_seq ?_
  | with_reducible refine wS_if ?_
  | with_reducible refine wS_next ?_
  | with_reducible refine wS_aug rfl ipOk ?_
  | with_reducible refine wT_not ?_
  | with_reducible refine wT_and ?_
  | with_reducible refine wT_or ?_
  | with_reducible refine wT_test ?_
  | with_reducible refine wT_tru ?_
  | with_reducible refine wT_yes ?_
  | with_reducible refine wE_op addOk ?_
  | with_reducible refine wE_op subOk ?_
  | with_reducible refine wE_op mulOk ?_
  | with_reducible refine wE_op modOk ?_
  | with_reducible refine wE_op divOk ?_
  | with_reducible refine wE_op powOk ?_
  | with_reducible refine wE_op ltOk ?_
  | with_reducible refine wE_op leOk ?_
  | with_reducible refine wE_op gtOk ?_
  | with_reducible refine wE_op geOk ?_
  | with_reducible refine wE_op isOk ?_
  | with_reducible refine wE_op isNotOk ?_
  | with_reducible refine wE_op ixOk ?_
  | with_reducible refine wE_un negOk ?_
  | with_reducible refine wE_cb intOk ?_
  | with_reducible refine wE_cb absOk ?_
  | with_reducible refine wE_cb maxOk ?_
  | with_reducible refine wE_cb minOk ?_
  | with_reducible refine wE_cb lenOk ?_
  | with_reducible refine wE_cb sumOk ?_
  | with_reducible refine wE_cb allOk ?_
  | with_reducible refine wE_cb dvmOk ?_
  | with_reducible refine wE_sl ?_
  | with_reducible refine wO_none ?_
  | with_reducible refine wO_some ?_
  | with_reducible refine wE_tup ?_
  | with_reducible refine wE_if ?_
  | with_reducible refine wE_int ?_
  | with_reducible refine wE_bl ?_
  | with_reducible refine wE_str ?_
  | with_reducible refine wE_non ?_
  | refine wE_x rfl ?_
  | refine wE_v rfl ?_
  | with_reducible refine wA_cons ?_
  | with_reducible refine wA_nil ?_
  | with_reducible refine gAdd ?_
  | with_reducible refine gSub ?_
  | with_reducible refine gMulL (by omega) (by omega) ?_
  | with_reducible refine gMulR (by omega) (by omega) ?_
  | with_reducible refine gMod (by omega) ?_
  | with_reducible refine gDiv (by omega) (by omega) ?_
  | with_reducible refine gPow (by omega) (by omega) (by omega) ?_
  | with_reducible refine gLt ?_
  | with_reducible refine gLe ?_
  | with_reducible refine gGt ?_
  | with_reducible refine gGe ?_
  | with_reducible refine gNeg ?_
  | with_reducible refine gInt ?_
  | with_reducible refine gAbs ?_
  | with_reducible refine gMax ?_
  | with_reducible refine gMin ?_
  | with_reducible refine gLenL ?_
  | with_reducible refine gLenT ?_
  | with_reducible refine gSlL ?_
  | (with_reducible intro (_ : V))
  | with_reducible refine Exists.intro _ (And.intro (rfl : T.bl _ = T.bl _) ?_)
  | with_reducible refine Exists.intro _ (And.intro (rfl : T.int _ = T.int _) ?_)
  | with_reducible refine Exists.intro _ (And.intro (rfl : truT (T.bl _) = some _) ?_)))
theorem DD.ok1 {K : PySem.W.Frag} {x : T} (h : DD x) : Ok1 K x := let ⟨_, h⟩ := h; h.ok1
theorem DD.items {x : T} {ts : List T} (h : DD x) (e : x = .lst ts ∨ x = .tup ts) : ts.length ≤ 130 ∧ ∀ t ∈ ts, DD t := by
  obtain ⟨d, h⟩ := h
  obtain ⟨hl, d', _, ht⟩ := h.items e
  exact ⟨hl, fun t m => ⟨d', ht t m⟩⟩
theorem getMap {α β : Type} {f : α → β} {l : List α} {k : Nat} (h : k < l.length) : (l.map f)[k]? = some (f l[k]) := by
  rw [List.getElem?_map, List.getElem?_eq_getElem h]; rfl
theorem mem_rng0 {hi : Int} {x : T} (h : x ∈ rngT 0 hi) : ∃ k : Nat, x = .int (k : Int) ∧ (k : Int) < hi := by
  obtain ⟨i, hi2, e⟩ := List.getElem_of_mem h
  have e3 : (rngT 0 hi)[i]? = some x := by rw [List.getElem?_eq_getElem hi2, e]
  obtain ⟨e1, e2⟩ := rngT_get e3
  exact ⟨i, by rw [e1]; simp, by omega⟩
theorem rng_all (hi : Int) (q : T → T) : ((rngT 0 hi).filter fun _ => true).map q = (List.range hi.toNat).map fun k : Nat => q (.int (k : Int)) := by
  rw [List.filter_eq_self.mpr fun _ _ => rfl]
  unfold rngT
  rw [List.map_map]
  simp only [Int.sub_zero]
  refine List.map_congr_left fun k _ => ?_
  show q (.int (0 + (k : Int))) = _
  rw [Int.zero_add]
theorem rng_len0 {hi : Int} (h : hi ≤ 1000) : (rngT 0 hi).length ≤ sizeLine := by
  rw [rngT_len]
  exact Nat.le_trans (show (hi - 0).toNat ≤ 1000 by omega) (by decide)
theorem asc_idx : ∀ ns : List Int, ((List.range (ns.length - 1)).map fun k => decide (ns.getD k 0 < ns.getD (k + 1) 0)).all id = ascT (ns.map T.int)
  | [] => rfl
  | [a] => rfl
  | a :: b :: r => by
    have ih := asc_idx (b :: r)
    show ((List.range (r.length + 1)).map _).all id = (decide (intOf (T.int a) < intOf (T.int b)) && ascT ((b :: r).map T.int))
    rw [← ih, List.range_succ_eq_map, List.map_cons, List.all_cons, List.map_map]
    rfl
theorem getI {ns : List Int} {k : Nat} (h : k < ns.length) : (ns.map T.int)[k]? = some (.int (ns.getD k 0)) := by
  rw [getMap h, List.getD_eq_getElem?_getD, List.getElem?_eq_getElem h]
  rfl
theorem ints_inj {a b : List Int} (h : a.map T.int = b.map T.int) : a = b := by
  have := congrArg (List.map toI) h
  rw [List.map_map, List.map_map] at this
  have e : ∀ l : List Int, l.map (toI ∘ T.int) = l := fun l => by
    induction l with
    | nil => rfl
    | cons a l ih => rw [List.map_cons, ih]; rfl
  rw [e, e] at this
  exact this
theorem r_is_ascending {K : PySem.W.Frag} (vs : List V) (H : Hp) (Q : VK) (E : XK) (h : sp_is_ascending K vs H Q E) : t_is_ascending K E { nx := fun _ H' => Q .non H', rt := Q } (L2.start N_is_ascending vs) H := by
  refine run_sP h fun ts hl ⟨ns, e, hn⟩ => ?_
  subst e
  obtain ⟨u, rfl⟩ := len1 hl
  show wS _ _ _ [Sl.x u (.tup (ns.map T.int)), .no] _
  unfold t_is_ascending
  refine wS_ret (wE_cb allOk (wA_cons (wE_F (wF_lcT (wI_range1 ?_)))))
  walk_at "wk"
  have hl2 : (ns.map T.int).length = ns.length := List.length_map ..
  refine ⟨_, rfl, by omega, by omega, rfl, rng_len0 (by omega), fun _ => true, fun x => .bl (decide (ns.getD (toI x).toNat 0 < ns.getD ((toI x).toNat + 1) 0)), fun x v hx => ?_, fun _ => wA_nil ⟨(List.range (ns.length - 1)).map fun k => decide (ns.getD k 0 < ns.getD (k + 1) 0), ?_, fun _ ms em => ?_⟩⟩
  · obtain ⟨k, rfl, hk⟩ := mem_rng0 hx
    have k1 : k < ns.length := by omega
    have k2 : k + 1 < ns.length := by omega
    refine wGa_name (by decide) ⟨rfl, rfl, wT_yes ⟨rfl, rfl, fun _ => ?_⟩⟩
    walk_at "wk"
    refine gIxT k rfl (getI k1) ?_
    walk_at "wk"
    exact gIxT (k + 1) rfl (getI k2) fun _ => gLt fun _ => ⟨rfl, rfl⟩
  · rw [rng_all, List.map_map, show (((ns.map T.int).length : Int) - 1).toNat = ns.length - 1 by omega]
    rfl
  · rw [asc_idx]
    have := ints_inj (by simpa using em)
    rw [this]
theorem ints_of {ts : List T} {l m : Int} (h : ts.all (fun y => btw y l m) = true) : ∃ ns : List Int, ts = ns.map T.int ∧ ∀ n ∈ ns, l ≤ n ∧ n ≤ m := by
  induction ts with
  | nil => exact ⟨[], rfl, fun _ h => nomatch h⟩
  | cons t ts ih =>
    rw [List.all_cons, Bool.and_eq_true] at h
    obtain ⟨ns, rfl, hn⟩ := ih h.2
    have h1 := h.1
    unfold btw at h1
    split at h1
    · rename_i i
      rw [Bool.and_eq_true, decide_eq_true_eq, decide_eq_true_eq] at h1
      exact ⟨i :: ns, rfl, fun n hm => by
        rcases List.mem_cons.mp hm with rfl | hm
        · exact h1
        · exact hn n hm⟩
    · cases h1
theorem sub_no {x : T} {l m : Int} (h : isTy x "tuple" = false) : subB x l m = false := by
  cases x with
  | tup ts => exact absurd (show true = false from h) (by simp)
  | _ => rfl
theorem r_is_subset {K : PySem.W.Frag} (vs : List V) (H : Hp) (Q : VK) (E : XK) (h : sp_is_subset K vs H Q E) : t_is_subset K E { nx := fun _ H' => Q .non H', rt := Q } (L2.start N_is_subset vs) H := by
  refine run_sP h fun ts hl ⟨x, l, m, e, o⟩ => ?_
  subst e
  obtain ⟨u, u1, u2, rfl⟩ := len3 hl
  show wS _ _ _ [Sl.x u x, .x u1 (.int l), .x u2 (.int m)] _
  unfold t_is_subset
  have fin : ∀ c, c = subB x l m → ∀ (y : T) (l' m' : Int), [x, T.int l, T.int m] = [y, T.int l', T.int m'] → T.bl c = T.bl (subB y l' m') := fun c hc y l' m' e => by
    cases e
    rw [hc]
  refine wS_ret (wE_andC (wE_isv rfl o.ok1 (by decide) fun _ => ⟨_, rfl, fun z => ?_, fun z _ => fin _ (sub_no z).symm⟩))
  obtain ⟨ts, rfl⟩ := tup_ty z
  obtain ⟨hl, ht⟩ := o.items (.inr rfl)
  refine wE_andC (wE_callV (wA_cons (wE_x rfl (wA_cons (wE_x rfl (wA_cons (wE_x rfl (wA_nil ⟨⟨_, ts, l, m, rfl, .inl rfl, fun y hy => (ht y hy).ok1, by omega⟩, ⟨_, fun t ht => ht _ ts l m rfl (.inl rfl), fun _ => ⟨_, rfl, fun z => ?_, fun z _ => fin _ ?_⟩⟩, fun er z => z.elim⟩))))))))
  · obtain ⟨ns, rfl, _⟩ := ints_of z
    refine wE_callV (wA_cons (wE_x rfl (wA_nil ⟨⟨ns, rfl, by rw [List.length_map] at hl; omega⟩, ⟨_, fun t ht => ht ns rfl, fun _ => fin _ ?_⟩, fun er z => z.elim⟩)))
    show _ = ((ns.map T.int).all (fun y => btw y l m) && _)
    rw [z, Bool.true_and]
  · show _ = (ts.all (fun y => btw y l m) && _)
    rw [z, Bool.false_and]
theorem r_are_receivers {K : PySem.W.Frag} (vs : List V) (H : Hp) (Q : VK) (E : XK) (h : sp_are_receivers K vs H Q E) : t_are_receivers K E { nx := fun _ H' => Q .non H', rt := Q } (L2.start N_are_receivers vs) H := by
  refine run_sP h fun ts hl ⟨x, hh, r, e, o⟩ => ?_
  subst e
  obtain ⟨u, u1, u2, rfl⟩ := len3 hl
  show wS _ _ _ [Sl.x u x, .x u1 (.int hh), .x u2 (.int r)] _
  unfold t_are_receivers
  refine wS_ret (wE_callV ?_)
  walk_at "wk"
  refine ⟨⟨x, _, _, rfl, o⟩, ⟨_, fun t ht => ht x _ _ rfl, fun _ y h' r' e => ?_⟩, fun er z => z.elim⟩
  cases e
  rfl
end K09
set_option maxHeartbeats 4000000
namespace TL
open PySem PySem.Spec PyProof.Rows L2
inductive Pl : Nat → T → Prop where
  | non {d} : Pl (d + 1) .non
  | int {d} (i : Int) : Pl (d + 1) (.int i)
  | tup {d} {ts : List T} (h : ∀ t ∈ ts, Pl d t) : Pl (d + 1) (.tup ts)
  | lst {d} {ts : List T} (h : ∀ t ∈ ts, Pl d t) : Pl (d + 1) (.lst ts)
theorem toPyL_ok {d : Nat} : ∀ {ts : List T}, (∀ t ∈ ts, ∃ p, toPy t = some p ∧ p.canLay0 = true ∧ p.depth ≤ d) → ∃ ps, toPyL ts = some ps ∧ PyData.canLayAll0 ps = true ∧ PyData.depthAll ps ≤ d
  | [], _ => ⟨[], rfl, rfl, Nat.zero_le _⟩
  | t :: ts, h => by
    obtain ⟨p, h1, h2, h3⟩ := h t (List.mem_cons_self ..)
    obtain ⟨ps, k1, k2, k3⟩ := toPyL_ok (ts := ts) fun u hu => h u (List.mem_cons_of_mem _ hu)
    refine ⟨p :: ps, ?_, ?_, ?_⟩
    · unfold toPyL
      rw [h1, k1]
    · rw [PyData.canLayAll0.eq_def]
      show (p.canLay0 && PyData.canLayAll0 ps) = true
      rw [h2, k2]
      rfl
    · rw [PyData.depthAll.eq_def]
      exact Nat.max_le.mpr ⟨h3, k3⟩
theorem Pl.py {d : Nat} {t : T} (h : Pl d t) : ∃ p, toPy t = some p ∧ p.canLay0 = true ∧ p.depth ≤ d := by
  induction h with
  | non => exact ⟨_, rfl, rfl, Nat.zero_le _⟩
  | int i => exact ⟨_, rfl, rfl, Nat.zero_le _⟩
  | tup h ih =>
    obtain ⟨ps, h1, h2, h3⟩ := toPyL_ok ih
    refine ⟨.tuple ps, ?_, ?_, ?_⟩
    · unfold toPy; rw [h1]; rfl
    · rw [PyData.canLay0.eq_def]; exact h2
    · rw [PyData.depth.eq_def]; exact Nat.succ_le_succ h3
  | lst h ih =>
    obtain ⟨ps, h1, h2, h3⟩ := toPyL_ok ih
    refine ⟨.list ps, ?_, ?_, ?_⟩
    · unfold toPy; rw [h1]; rfl
    · rw [PyData.canLay0.eq_def]; exact h2
    · rw [PyData.depth.eq_def]; exact Nat.succ_le_succ h3
theorem eqvAll_iff {e : Nat} : ∀ {ts us : List T} {ps qs : List PyData}, (∀ t ∈ ts, ∀ (y : T), Pl e y → ∀ p q, toPy t = some p → toPy y = some q → (PyData.eqv p q = true ↔ t = y)) → (∀ t ∈ us, Pl e t) → toPyL ts = some ps → toPyL us = some qs → (PyData.eqvAll ps qs = true ↔ ts = us)
  | [], [], ps, qs, _, _, h1, h2 => by
    cases h1; cases h2
    exact ⟨fun _ => rfl, fun _ => rfl⟩
  | [], u :: us, ps, qs, _, _, h1, h2 => by
    cases h1
    unfold toPyL at h2
    split at h2
    · cases h2
      exact ⟨fun z => by simp [PyData.eqvAll] at z, fun z => nomatch z⟩
    · cases h2
  | t :: ts, [], ps, qs, _, _, h1, h2 => by
    cases h2
    unfold toPyL at h1
    split at h1
    · cases h1
      exact ⟨fun z => by simp [PyData.eqvAll] at z, fun z => nomatch z⟩
    · cases h1
  | t :: ts, u :: us, ps, qs, h, hu, h1, h2 => by
    unfold toPyL at h1 h2
    split at h1
    · rename_i p ps' e1 e2
      cases h1
      split at h2
      · rename_i q qs' f1 f2
        cases h2
        have a := h t (List.mem_cons_self ..) u (hu u (List.mem_cons_self ..)) p q e1 f1
        have b := eqvAll_iff (ts := ts) (us := us) (fun x hx => h x (List.mem_cons_of_mem _ hx)) (fun x hx => hu x (List.mem_cons_of_mem _ hx)) e2 f2
        show (PyData.eqv p q && PyData.eqvAll ps' qs') = true ↔ _
        rw [Bool.and_eq_true, a, b]
        exact ⟨fun ⟨x, y⟩ => by rw [x, y], fun z => by cases z; exact ⟨rfl, rfl⟩⟩
      · cases h2
    · cases h1
theorem Pl.eqv {d : Nat} {x : T} (h : Pl d x) : ∀ (e : Nat) (y : T), Pl e y → ∀ p q, toPy x = some p → toPy y = some q → (PyData.eqv p q = true ↔ x = y) := by
  induction h with
  | non =>
    intro e y hy p q h1 h2
    cases h1
    cases hy with
    | non => cases h2; exact ⟨fun _ => rfl, fun _ => rfl⟩
    | int i => cases h2; exact ⟨fun z => by simp [PyData.eqv] at z, fun z => nomatch z⟩
    | tup h =>
      unfold toPy at h2
      obtain ⟨_, _, rfl⟩ := Option.map_eq_some_iff.mp h2
      exact ⟨fun z => by simp [PyData.eqv] at z, fun z => nomatch z⟩
    | lst h =>
      unfold toPy at h2
      obtain ⟨_, _, rfl⟩ := Option.map_eq_some_iff.mp h2
      exact ⟨fun z => by simp [PyData.eqv] at z, fun z => nomatch z⟩
  | int i =>
    intro e y hy p q h1 h2
    cases h1
    cases hy with
    | non => cases h2; exact ⟨fun z => by simp [PyData.eqv] at z, fun z => nomatch z⟩
    | int j =>
      cases h2
      exact ⟨fun z => by simp [PyData.eqv] at z; rw [z], fun z => by cases z; simp [PyData.eqv]⟩
    | tup h =>
      unfold toPy at h2
      obtain ⟨_, _, rfl⟩ := Option.map_eq_some_iff.mp h2
      exact ⟨fun z => by simp [PyData.eqv] at z, fun z => nomatch z⟩
    | lst h =>
      unfold toPy at h2
      obtain ⟨_, _, rfl⟩ := Option.map_eq_some_iff.mp h2
      exact ⟨fun z => by simp [PyData.eqv] at z, fun z => nomatch z⟩
  | tup h ih =>
    intro e y hy p q h1 h2
    unfold toPy at h1
    obtain ⟨ps, e1, rfl⟩ := Option.map_eq_some_iff.mp h1
    cases hy with
    | non => cases h2; exact ⟨fun z => by simp [PyData.eqv] at z, fun z => nomatch z⟩
    | int j => cases h2; exact ⟨fun z => by simp [PyData.eqv] at z, fun z => nomatch z⟩
    | tup hu =>
      unfold toPy at h2
      obtain ⟨qs, e2, rfl⟩ := Option.map_eq_some_iff.mp h2
      have := eqvAll_iff (fun t ht y hy p q => ih t ht _ y hy p q) hu e1 e2
      show PyData.eqvAll ps qs = true ↔ _
      rw [this]
      exact ⟨fun z => by rw [z], fun z => by cases z; rfl⟩
    | lst h =>
      unfold toPy at h2
      obtain ⟨_, _, rfl⟩ := Option.map_eq_some_iff.mp h2
      exact ⟨fun z => by simp [PyData.eqv] at z, fun z => nomatch z⟩
  | lst h ih =>
    intro e y hy p q h1 h2
    unfold toPy at h1
    obtain ⟨ps, e1, rfl⟩ := Option.map_eq_some_iff.mp h1
    cases hy with
    | non => cases h2; exact ⟨fun z => by simp [PyData.eqv] at z, fun z => nomatch z⟩
    | int j => cases h2; exact ⟨fun z => by simp [PyData.eqv] at z, fun z => nomatch z⟩
    | lst hu =>
      unfold toPy at h2
      obtain ⟨qs, e2, rfl⟩ := Option.map_eq_some_iff.mp h2
      have := eqvAll_iff (fun t ht y hy p q => ih t ht _ y hy p q) hu e1 e2
      show PyData.eqvAll ps qs = true ↔ _
      rw [this]
      exact ⟨fun z => by rw [z], fun z => by cases z; rfl⟩
    | tup h =>
      unfold toPy at h2
      obtain ⟨_, _, rfl⟩ := Option.map_eq_some_iff.mp h2
      exact ⟨fun z => by simp [PyData.eqv] at z, fun z => nomatch z⟩
theorem eqD_pl {d e : Nat} {x y : T} {c : Bool} (hx : Pl d x) (hy : Pl e y) (hd : d ≤ 64) (he : e ≤ 64) (hc : c = true ↔ x = y) : EqD x y c := by
  obtain ⟨p, h1, h2, h3⟩ := hx.py
  obtain ⟨q, k1, k2, k3⟩ := hy.py
  refine ⟨p, q, h1, k1, ?_, ?_, ?_⟩
  · show (p.canLay0 && decide (p.depth ≤ 64)) = true
    rw [h2, decide_eq_true (by omega)]
    rfl
  · show (q.canLay0 && decide (q.depth ≤ 64)) = true
    rw [k2, decide_eq_true (by omega)]
    rfl
  · have := hx.eqv _ y hy p q h1 k1
    cases c with
    | true => exact this.mpr (hc.mp rfl)
    | false =>
      cases z : PyData.eqv p q with
      | false => rfl
      | true => exact absurd (hc.mpr (this.mp z)) (by simp)
theorem gNeT {d e : Nat} {xs ys : List T} {c : Bool} {k : T → Prop} (hx : Pl d (.tup xs)) (hy : Pl e (.tup ys)) (hd : d ≤ 64) (he : e ≤ 64) (hc : c = true ↔ xs = ys) (h : k (.bl (!c))) : fNe (.tup xs) (.tup ys) k :=
  ⟨c, eqD_pl hx hy hd he (by rw [hc]; exact ⟨fun z => by rw [z], fun z => by cases z; rfl⟩), h⟩
theorem pl_ints {d : Nat} (ns : List Int) : Pl (d + 2) (.tup (ns.map T.int)) := .tup fun t ht => by
  obtain ⟨n, _, rfl⟩ := List.mem_map.mp ht
  exact .int n
end TL
set_option maxHeartbeats 4000000
namespace K09
open PySem PySem.Spec PyProof.Rows L2 TL TC TD
local macro_rules | `(tactic| walk_at "wk") => `(tactic| repeat' (first
  | with_reducible refine wS_seq ?_
  | with_reducible refine wS_if ?_
  | with_reducible refine wS_next ?_
  | with_reducible refine wS_aug rfl ipOk ?_
  | with_reducible refine wT_not ?_
  | with_reducible refine wT_and ?_
  | with_reducible refine wT_or ?_
  | with_reducible refine wT_test ?_
  | with_reducible refine wT_tru ?_
  | with_reducible refine wT_yes ?_
  | with_reducible refine wE_op addOk ?_
  | with_reducible refine wE_op subOk ?_
  | with_reducible refine wE_op mulOk ?_
  | with_reducible refine wE_op modOk ?_
  | with_reducible refine wE_op divOk ?_
  | with_reducible refine wE_op powOk ?_
  | with_reducible refine wE_op ltOk ?_
  | with_reducible refine wE_op leOk ?_
  | with_reducible refine wE_op gtOk ?_
  | with_reducible refine wE_op geOk ?_
  | with_reducible refine wE_op isOk ?_
  | with_reducible refine wE_op isNotOk ?_
  | with_reducible refine wE_op ixOk ?_
  | with_reducible refine wE_un negOk ?_
  | with_reducible refine wE_cb intOk ?_
  | with_reducible refine wE_cb absOk ?_
  | with_reducible refine wE_cb maxOk ?_
  | with_reducible refine wE_cb minOk ?_
  | with_reducible refine wE_cb lenOk ?_
  | with_reducible refine wE_cb sumOk ?_
  | with_reducible refine wE_cb allOk ?_
  | with_reducible refine wE_cb dvmOk ?_
  | with_reducible refine wE_sl ?_
  | with_reducible refine wO_none ?_
  | with_reducible refine wO_some ?_
  | with_reducible refine wE_tup ?_
  | with_reducible refine wE_if ?_
  | with_reducible refine wE_int ?_
  | with_reducible refine wE_bl ?_
  | with_reducible refine wE_str ?_
  | with_reducible refine wE_non ?_
  | refine wE_x rfl ?_
  | refine wE_v rfl ?_
  | with_reducible refine wA_cons ?_
  | with_reducible refine wA_nil ?_
  | with_reducible refine gAdd ?_
  | with_reducible refine gSub ?_
  | with_reducible refine gMulL (by omega) (by omega) ?_
  | with_reducible refine gMulR (by omega) (by omega) ?_
  | with_reducible refine gMod (by omega) ?_
  | with_reducible refine gDiv (by omega) (by omega) ?_
  | with_reducible refine gPow (by omega) (by omega) (by omega) ?_
  | with_reducible refine gLt ?_
  | with_reducible refine gLe ?_
  | with_reducible refine gGt ?_
  | with_reducible refine gGe ?_
  | with_reducible refine gNeg ?_
  | with_reducible refine gInt ?_
  | with_reducible refine gAbs ?_
  | with_reducible refine gMax ?_
  | with_reducible refine gMin ?_
  | with_reducible refine gLenL ?_
  | with_reducible refine gLenT ?_
  | with_reducible refine gSlL ?_
  | (with_reducible intro (_ : V))
  | with_reducible refine Exists.intro _ (And.intro (rfl : T.bl _ = T.bl _) ?_)
  | with_reducible refine Exists.intro _ (And.intro (rfl : T.int _ = T.int _) ?_)
  | with_reducible refine Exists.intro _ (And.intro (rfl : truT (T.bl _) = some _) ?_)))
section
variable {K : PySem.W.Frag} {E : WX} {X : XP} {ρ : TL.Env} {te tb : TE} {Φ : V → T → TL.Env → Prop} {Θ : Bool → TL.Env → Prop}
/-- a test by a def that tells a truth value -/
theorem wT_cl {pre : List T → Prop} {post : List T → T → Prop} {xc : List V → List T → Er → Prop} {t : TA} (h : wA E X t ρ fun vs ts ρ1 => pre ts ∧ (∃ c, (∀ t, post ts t → t = .bl c) ∧ Θ c ρ1) ∧ ∀ er, xc vs ts er → X er ρ1) : wT E X (tTruU K (tCallS (sP pre post xc) (WE E) t)) ρ Θ :=
  wT_tru (wE_call fun b G H σ Q S q ke => h b G H σ Q S (fun vs ts ρ1 G1 H1 ⟨h1, ⟨c, h2, h3⟩, h4⟩ r S1 l => q vs ts ρ1 G1 H1 ⟨h1, fun t v po => ⟨c, by rw [h2 t po]; rfl, h3⟩, h4⟩ r S1 l) ke)
theorem wE_clB {pre : List T → Prop} {post : List T → T → Prop} {xc : List V → List T → Er → Prop} {t : TA} (h : wA E X t ρ fun vs ts ρ1 => pre ts ∧ (∃ c, (∀ t, post ts t → t = .bl c) ∧ ∀ v, Φ v (.bl c) ρ1) ∧ ∀ er, xc vs ts er → X er ρ1) : wE E X (tCallS (sP pre post xc) (WE E) t) ρ Φ :=
  wE_call fun b G H σ Q S q ke => h b G H σ Q S (fun vs ts ρ1 G1 H1 ⟨h1, ⟨c, h2, h3⟩, h4⟩ r S1 l => q vs ts ρ1 G1 H1 ⟨h1, fun t v po => by rw [h2 t po]; exact h3 v, h4⟩ r S1 l) ke
end
theorem tupLen_of {x : T} {n : Int} (h : tupLen x n = true) : ∃ ts, x = .tup ts ∧ (ts.length : Int) = n := by
  unfold tupLen at h
  split at h
  · exact ⟨_, rfl, of_decide_eq_true h⟩
  · cases h
theorem fr_no {x : T} {h r : Int} (z : tupLen x 2 = false) : frB x h r = false := by
  unfold frB
  split
  · exact absurd (show true = false from z) (by simp)
  · rfl
theorem btw_int {x : T} {l m : Int} (h : btw x l m = true) : ∃ i, x = .int i ∧ l ≤ i ∧ i ≤ m := by
  unfold btw at h
  split at h
  · rename_i i
    rw [Bool.and_eq_true, decide_eq_true_eq, decide_eq_true_eq] at h
    exact ⟨i, rfl, h⟩
  · cases h
theorem sub_of {x : T} {l m : Int} (h : subB x l m = true) : ∃ ns : List Int, x = .tup (ns.map T.int) ∧ (∀ n ∈ ns, l ≤ n ∧ n ≤ m) ∧ ascT (ns.map T.int) = true := by
  unfold subB at h
  split at h
  · rw [Bool.and_eq_true] at h
    obtain ⟨ns, rfl, hn⟩ := ints_of h.1
    exact ⟨ns, rfl, hn, h.2⟩
  · cases h
theorem toVs_ints : ∀ ns : List Int, toVs (ns.map T.int) = some (ns.map V.int)
  | [] => rfl
  | n :: ns => by
    show (match toV (T.int n), toVs (ns.map T.int) with
      | some u, some us => some (u :: us)
      | _, _ => none) = _
    rw [toVs_ints ns]
    rfl
theorem inV_ints (a : Int) : ∀ ns : List Int, inV (V.int a) (ns.map V.int) = memT (.int a) (.tup (ns.map T.int))
  | [] => rfl
  | n :: ns => by
    have ih := inV_ints a ns
    show ((n == a) || inV (V.int a) (ns.map V.int)) = (decide (n = a) || memT (.int a) (.tup (ns.map T.int)))
    rw [ih]
    rfl
theorem r_is_frame {K : PySem.W.Frag} (vs : List V) (H : Hp) (Q : VK) (E : XK) (h : sp_is_frame K vs H Q E) : t_is_frame K E { nx := fun _ H' => Q .non H', rt := Q } (L2.start N_is_frame vs) H := by
  refine run_sP h fun ts hl ⟨x, hh, r, e, o⟩ => ?_
  subst e
  obtain ⟨u, u1, u2, rfl⟩ := len3 hl
  show wS _ _ _ [Sl.x u x, .x u1 (.int hh), .x u2 (.int r)] _
  have fin : ∀ c, c = frB x hh r → ∀ (y : T) (h' r' : Int), [x, T.int hh, T.int r] = [y, T.int h', T.int r'] → T.bl c = T.bl (frB y h' r') := fun c hc y h' r' e => by
    cases e
    rw [hc]
  unfold t_is_frame
  refine wS_seq (wS_if (wT_or (wT_not (wT_cl (wA_cons (wE_x rfl (wA_cons (wE_int (wA_nil ⟨⟨x, 2, rfl, o.ok1⟩, ⟨tupLen x 2, fun t ht => ht x 2 rfl, ?_⟩, fun er z => z.elim⟩)))))))))
  cases z : tupLen x 2 with
  | false => exact ite_t (ite_t (wS_ret (wE_bl (fin _ (fr_no z).symm))))
  | true =>
    obtain ⟨ts, rfl, hl2⟩ := tupLen_of z
    obtain ⟨a, c, rfl⟩ := len2 (vs := ts) (by omega)
    obtain ⟨_, oi⟩ := o.items (.inr rfl)
    have oa := oi a (by simp)
    have oc := oi c (by simp)
    refine ite_f (wT_not (wT_cl ?_))
    walk_at "wk"
    refine gIxT 0 rfl rfl ?_
    walk_at "wk"
    refine ⟨⟨a, 0, hh - 1, rfl, oa.ok1⟩, ⟨btw a 0 (hh - 1), fun t ht => ht a _ _ rfl, ?_⟩, fun er z => z.elim⟩
    cases z2 : btw a 0 (hh - 1) with
    | false =>
      refine ite_t (wS_ret (wE_bl (fin _ ?_)))
      show false = (btw a 0 (hh - 1) && _)
      rw [z2, Bool.false_and]
    | true =>
      obtain ⟨i, rfl, _⟩ := btw_int z2
      refine ite_f (wS_next (wS_ret (wE_andC (wE_clB ?_))))
      walk_at "wk"
      refine gIxT 1 rfl rfl ?_
      walk_at "wk"
      refine ⟨⟨c, hh, r, rfl, oc⟩, ⟨subB c (-r) (hh - 1), fun t ht => ht c _ _ rfl, fun _ => ⟨_, rfl, fun z3 => ?_, fun z3 _ => fin _ ?_⟩⟩, fun er z => z.elim⟩
      · obtain ⟨ns, rfl, _, _⟩ := sub_of z3
        refine wE_andC (wE_op neOk ?_)
        walk_at "wk"
        refine gIxT 1 rfl rfl ?_
        walk_at "wk"
        refine ⟨by show 0 ≤ sizeLine; exact Nat.zero_le _, fun _ => ?_⟩
        refine gNeT (d := 2) (e := 1) (c := ns.isEmpty) (pl_ints ns) (.tup fun _ h => nomatch h) (by decide) (by decide) (by cases ns <;> simp) fun _ => ⟨_, rfl, fun z4 => ?_, fun z4 _ => fin _ ?_⟩
        · refine wE_op inOk ?_
          walk_at "wk"
          refine gIxT 0 rfl rfl ?_
          walk_at "wk"
          refine gIxT 1 rfl rfl ?_
          refine fun _ => ⟨.int i, ns.map V.int, rfl, toVs_ints ns, fun _ => fin _ ?_⟩
          show (!inV (V.int i) (ns.map V.int)) = (btw (T.int i) 0 (hh - 1) && (subB (.tup (ns.map T.int)) (-r) (hh - 1) && (!(ns.map T.int).isEmpty && !memT (.int i) (.tup (ns.map T.int)))))
          rw [z2, z3, List.isEmpty_map, z4, inV_ints]
          rfl
        · show false = (btw (T.int i) 0 (hh - 1) && (subB (.tup (ns.map T.int)) (-r) (hh - 1) && (!(ns.map T.int).isEmpty && _)))
          rw [z2, z3, List.isEmpty_map, z4]
          rfl
      · show false = (btw (T.int i) 0 (hh - 1) && (subB c (-r) (hh - 1) && _))
        rw [z2, z3]
        rfl
theorem mo_no {x : T} {h r : Int} (z : tupLen x 3 = false) : moB x h r = false := by
  unfold moB
  split
  · exact absurd (show true = false from z) (by simp)
  · rfl
theorem notRaw_dd {x : T} (h : DD x) : notRaw x := by
  obtain ⟨d, h⟩ := h
  cases h <;> trivial
theorem rowB_5 {x : T} {h : Int} (o : DD x) : rowB x h 5 = (tupLen x h && (itemsOf x).all fun y => btw y 0 4) := by
  cases x <;> rfl
theorem r_is_moment {K : PySem.W.Frag} (vs : List V) (H : Hp) (Q : VK) (E : XK) (h : sp_is_moment K vs H Q E) : t_is_moment K E { nx := fun _ H' => Q .non H', rt := Q } (L2.start N_is_moment vs) H := by
  refine run_sP h fun ts hl ⟨x, hh, r, e, o⟩ => ?_
  subst e
  obtain ⟨u, u1, u2, rfl⟩ := len3 hl
  show wS _ _ _ [Sl.x u x, .x u1 (.int hh), .x u2 (.int r)] _
  have fin : ∀ c, c = moB x hh r → ∀ (y : T) (h' r' : Int), [x, T.int hh, T.int r] = [y, T.int h', T.int r'] → T.bl c = T.bl (moB y h' r') := fun c hc y h' r' e => by
    cases e
    rw [hc]
  unfold t_is_moment
  refine wS_seq (wS_if (wT_or (wT_not (wT_cl (wA_cons (wE_x rfl (wA_cons (wE_int (wA_nil ⟨⟨x, 3, rfl, o.ok1⟩, ⟨tupLen x 3, fun t ht => ht x 3 rfl, ?_⟩, fun er z => z.elim⟩)))))))))
  cases z : tupLen x 3 with
  | false => exact ite_t (ite_t (wS_ret (wE_bl (fin _ (mo_no z).symm))))
  | true =>
    obtain ⟨ts, rfl, hl2⟩ := tupLen_of z
    obtain ⟨a, f, w, rfl⟩ := len3 (vs := ts) (by omega)
    obtain ⟨_, oi⟩ := o.items (.inr rfl)
    have oa := oi a (by simp)
    have of := oi f (by simp)
    have ow := oi w (by simp)
    refine ite_f (wT_or (wT_not (wT_cl ?_)))
    walk_at "wk"
    refine gIxT 0 rfl rfl ?_
    walk_at "wk"
    refine ⟨⟨a, hh, rfl, oa.ok1⟩, ⟨tupLen a hh, fun t ht => ht a _ rfl, ?_⟩, fun er z => z.elim⟩
    have e5 := rowB_5 (h := hh) oa
    cases z2 : tupLen a hh with
    | false =>
      refine ite_t (ite_t (wS_ret (wE_bl (fin _ ?_))))
      show false = (rowB a hh 5 && _)
      rw [e5, z2, Bool.false_and, Bool.false_and]
    | true =>
      obtain ⟨as, rfl, la⟩ := tupLen_of z2
      obtain ⟨lz, oai⟩ := oa.items (.inr rfl)
      refine ite_f (wT_not (wT_cl ?_))
      walk_at "wk"
      refine gIxT 0 rfl rfl ?_
      walk_at "wk"
      refine ⟨⟨_, as, 0, 4, rfl, .inl rfl, fun y hy => (oai y hy).ok1, by omega⟩, ⟨_, fun t ht => ht _ as _ _ rfl (.inl rfl), ?_⟩, fun er z => z.elim⟩
      cases z3 : as.all fun y => btw y 0 4 with
      | false =>
        refine ite_t (wS_ret (wE_bl (fin _ ?_)))
        show false = (rowB (.tup as) hh 5 && _)
        rw [e5, z2]
        show false = ((true && as.all fun y => btw y 0 4) && _)
        rw [z3]
        rfl
      | true =>
        have e6 : rowB (.tup as) hh 5 = true := by
          rw [e5, z2]
          show (true && as.all fun y => btw y 0 4) = true
          rw [z3]
          rfl
        refine ite_f (wS_next ?_)
        refine wS_seq (wS_if (wT_and ?_))
        walk_at "wk"
        refine gIxT 1 rfl rfl ?_
        walk_at "wk"
        refine ⟨notRaw_dd of, fun _ => ⟨_, rfl, ?_⟩⟩
        have last : (isNonT f || frB f hh r) = true → wS (WD E) (fun er _ => noX [u, u1, u2] [T.tup [T.tup as, f, w], .int hh, .int r] er) (tRet (tOrV (tOp rIsU (tOp (rIx K) (tVar 0) (tC (.int 2))) (tC .non)) (tCallS (sp_is_between K) (WE (WD E)) (tCons (tOp (rIx K) (tVar 0) (tC (.int 2))) (tCons (tC (.int 0)) (tCons (tC (.int 8)) tNil)))))) [Sl.x u (.tup [T.tup as, f, w]), .x u1 (.int hh), .x u2 (.int r)]
            { rt := fun t _ => ∀ (y : T) (h' r' : Int), [T.tup [T.tup as, f, w], T.int hh, T.int r] = [y, T.int h', T.int r'] → t = T.bl (moB y h' r'), nx := fun _ => ∀ (y : T) (h' r' : Int), [T.tup [T.tup as, f, w], T.int hh, T.int r] = [y, T.int h', T.int r'] → T.non = T.bl (moB y h' r'), rf := fun us _ => ∀ (y : T) (h' r' : Int), [T.tup [T.tup as, f, w], T.int hh, T.int r] = [y, T.int h', T.int r'] → T.lst us = T.bl (moB y h' r') } := fun zf => by
          have em : moB (.tup [.tup as, f, w]) hh r = (isNonT w || btw w 0 8) := by
            show (rowB (.tup as) hh 5 && ((isNonT f || frB f hh r) && (isNonT w || btw w 0 8))) = _
            rw [e6, zf]
            rfl
          refine wS_ret (wE_orV ?_)
          walk_at "wk"
          refine gIxT 2 rfl rfl ?_
          walk_at "wk"
          refine ⟨notRaw_dd ow, fun _ => ⟨_, rfl, ite_c (fun z => fun _ => fin _ (by rw [em, z]; rfl)) fun z => ?_⟩⟩
          refine wE_clB ?_
          walk_at "wk"
          refine gIxT 2 rfl rfl ?_
          walk_at "wk"
          exact ⟨⟨w, 0, 8, rfl, ow.ok1⟩, ⟨_, fun t ht => ht w _ _ rfl, fun _ => fin _ (by rw [em, z]; rfl)⟩, fun er z => z.elim⟩
        cases z4 : isNonT f with
        | true => exact ite_f (ite_f (wS_next (last (by rw [z4]; rfl))))
        | false =>
          refine ite_t (wT_not (wT_cl ?_))
          walk_at "wk"
          refine gIxT 1 rfl rfl ?_
          walk_at "wk"
          refine ⟨⟨f, hh, r, rfl, of⟩, ⟨frB f hh r, fun t ht => ht f _ _ rfl, ?_⟩, fun er z => z.elim⟩
          cases z5 : frB f hh r with
          | true => exact ite_f (wS_next (last (by rw [z5, Bool.or_true])))
          | false =>
            refine ite_t (wS_ret (wE_bl (fin _ ?_)))
            show false = (rowB (.tup as) hh 5 && ((isNonT f || frB f hh r) && _))
            rw [e6, z4, z5]
            rfl
theorem mos_no {x : T} {h r : Int} (z : (isTy x "list" || isTy x "tuple") = false) : mosB x h r = false := by
  cases x with
  | lst ts => exact absurd (show true = false from z) (by simp)
  | tup ts => exact absurd (show true = false from z) (by simp)
  | _ => rfl
theorem seq_of {x : T} (o : DD x) (z : (isTy x "list" || isTy x "tuple") = true) : ∃ ts, (x = .lst ts ∨ x = .tup ts) ∧ itemsOf x = ts ∧ ∀ h r, mosB x h r = (decide (1 ≤ ts.length) && (decide (ts.length ≤ 24) && ts.all fun y => moB y h r)) := by
  obtain ⟨d, o⟩ := o
  rcases Bool.or_eq_true_iff.mp z with z | z
  · obtain ⟨ts, rfl⟩ := (isTy_dat o).1.mp z
    exact ⟨ts, .inl rfl, rfl, fun _ _ => rfl⟩
  · obtain ⟨ts, rfl⟩ := (isTy_dat o).2.mp z
    exact ⟨ts, .inr rfl, rfl, fun _ _ => rfl⟩
theorem gLenD {x : T} {ts : List T} {k : T → Prop} (h : x = .lst ts ∨ x = .tup ts) (q : k (.int ts.length)) : fLen [x] k := by
  rcases h with rfl | rfl
  · exact gLenL q
  · exact gLenT q
theorem r_are_moments {K : PySem.W.Frag} (vs : List V) (H : Hp) (Q : VK) (E : XK) (h : sp_are_moments K vs H Q E) : t_are_moments K E { nx := fun _ H' => Q .non H', rt := Q } (L2.start N_are_moments vs) H := by
  refine run_sP h fun ts hl ⟨x, hh, r, e, o⟩ => ?_
  subst e
  obtain ⟨u, u1, u2, rfl⟩ := len3 hl
  show wS _ _ _ [Sl.x u x, .x u1 (.int hh), .x u2 (.int r), .no] _
  have fin : ∀ c, c = mosB x hh r → ∀ (y : T) (h' r' : Int), [x, T.int hh, T.int r] = [y, T.int h', T.int r'] → T.bl c = T.bl (mosB y h' r') := fun c hc y h' r' e => by
    cases e
    rw [hc]
  unfold t_are_moments
  refine wS_seq (wS_if (wT_or (wT_not (wT_cl (wA_cons (wE_x rfl (wA_nil ⟨⟨x, rfl, o.ok1⟩, ⟨_, fun t ht => ht x rfl, ?_⟩, fun er z => z.elim⟩)))))))
  cases z : (isTy x "list" || isTy x "tuple") with
  | false => exact ite_t (ite_t (wS_ret (wE_bl (fin _ (mos_no z).symm))))
  | true =>
    obtain ⟨ts, hx, _, em⟩ := seq_of o z
    obtain ⟨lt, oi⟩ := o.items hx
    refine ite_f (wT_not (wT_test (wE_chain leOk leOk (wE_int (wE_cb lenOk ?_)))))
    walk_at "wk"
    refine gLenD hx ?_
    walk_at "wk"
    cases z1 : decide ((1 : Int) ≤ (ts.length : Int)) with
    | false =>
      refine ite_f fun _ => ⟨_, rfl, ite_t (wS_ret (wE_bl (fin _ ?_)))⟩
      rw [em, show decide (1 ≤ ts.length) = false from decide_eq_false (by have := of_decide_eq_false z1; omega)]
      rfl
    | true =>
      refine ite_t ?_
      walk_at "wk"
      cases z2 : decide ((ts.length : Int) ≤ 24) with
      | false =>
        refine ite_t (wS_ret (wE_bl (fin _ ?_)))
        rw [em, show decide (ts.length ≤ 24) = false from decide_eq_false (by have := of_decide_eq_false z2; omega), Bool.false_and, Bool.and_false]
      | true =>
        refine ite_f (wS_next (wS_ret (wE_cb allOk (wA_cons (wE_F (wF_lcT (wI_seq (wE_x rfl ⟨ts, hx, rfl, Nat.le_trans lt (by decide), fun _ => true, fun y => .bl (moB y hh r), fun y v hy => ?_, fun _ => wA_nil ⟨ts.map fun y => moB y hh r, ?_, fun _ => fin _ ?_⟩⟩))))))))
        · exact wGa_name (by decide) ⟨rfl, rfl, wT_yes ⟨rfl, rfl, fun _ => wE_clB (wA_cons (wE_v rfl fun _ => wA_cons (wE_x rfl (wA_cons (wE_x rfl (wA_nil ⟨⟨y, _, _, rfl, oi y hy⟩, ⟨_, fun t ht => ht y _ _ rfl, fun _ => ⟨rfl, rfl⟩⟩, fun er z => z.elim⟩))))))⟩⟩
        · rw [List.filter_eq_self.mpr fun _ _ => rfl, List.map_map]
          rfl
        · rw [em, List.all_map, show decide (1 ≤ ts.length) = true from decide_eq_true (by have := of_decide_eq_true z1; omega), show decide (ts.length ≤ 24) = true from decide_eq_true (by have := of_decide_eq_true z2; omega)]
          rfl
end K09
set_option maxHeartbeats 4000000
namespace K09
open PySem PySem.Spec PyProof.Rows L2 TL TC TD
local macro_rules | `(tactic| walk_at "wk") => `(tactic| repeat' (first
  | with_reducible refine wS_seq ?_
  | with_reducible refine wS_if ?_
  | with_reducible refine wS_next ?_
  | with_reducible refine wS_aug rfl ipOk ?_
  | with_reducible refine wT_not ?_
  | with_reducible refine wT_and ?_
  | with_reducible refine wT_or ?_
  | with_reducible refine wT_test ?_
  | with_reducible refine wT_tru ?_
  | with_reducible refine wT_yes ?_
  | with_reducible refine wE_op addOk ?_
  | with_reducible refine wE_op subOk ?_
  | with_reducible refine wE_op mulOk ?_
  | with_reducible refine wE_op modOk ?_
  | with_reducible refine wE_op divOk ?_
  | with_reducible refine wE_op powOk ?_
  | with_reducible refine wE_op ltOk ?_
  | with_reducible refine wE_op leOk ?_
  | with_reducible refine wE_op gtOk ?_
  | with_reducible refine wE_op geOk ?_
  | with_reducible refine wE_op isOk ?_
  | with_reducible refine wE_op isNotOk ?_
  | with_reducible refine wE_op ixOk ?_
  | with_reducible refine wE_un negOk ?_
  | with_reducible refine wE_cb intOk ?_
  | with_reducible refine wE_cb absOk ?_
  | with_reducible refine wE_cb maxOk ?_
  | with_reducible refine wE_cb minOk ?_
  | with_reducible refine wE_cb lenOk ?_
  | with_reducible refine wE_cb sumOk ?_
  | with_reducible refine wE_cb allOk ?_
  | with_reducible refine wE_cb dvmOk ?_
  | with_reducible refine wE_sl ?_
  | with_reducible refine wO_none ?_
  | with_reducible refine wO_some ?_
  | with_reducible refine wE_tup ?_
  | with_reducible refine wE_if ?_
  | with_reducible refine wE_int ?_
  | with_reducible refine wE_bl ?_
  | with_reducible refine wE_str ?_
  | with_reducible refine wE_non ?_
  | refine wE_x rfl ?_
  | refine wE_v rfl ?_
  | with_reducible refine wA_cons ?_
  | with_reducible refine wA_nil ?_
  | with_reducible refine gAdd ?_
  | with_reducible refine gSub ?_
  | with_reducible refine gMulL (by omega) (by omega) ?_
  | with_reducible refine gMulR (by omega) (by omega) ?_
  | with_reducible refine gMod (by omega) ?_
  | with_reducible refine gDiv (by omega) (by omega) ?_
  | with_reducible refine gPow (by omega) (by omega) (by omega) ?_
  | with_reducible refine gLt ?_
  | with_reducible refine gLe ?_
  | with_reducible refine gGt ?_
  | with_reducible refine gGe ?_
  | with_reducible refine gNeg ?_
  | with_reducible refine gInt ?_
  | with_reducible refine gAbs ?_
  | with_reducible refine gMax ?_
  | with_reducible refine gMin ?_
  | with_reducible refine gLenL ?_
  | with_reducible refine gLenT ?_
  | with_reducible refine gSlL ?_
  | (with_reducible intro (_ : V))
  | with_reducible refine Exists.intro _ (And.intro (rfl : T.bl _ = T.bl _) ?_)
  | with_reducible refine Exists.intro _ (And.intro (rfl : T.int _ = T.int _) ?_)
  | with_reducible refine Exists.intro _ (And.intro (rfl : truT (T.bl _) = some _) ?_)))
theorem len4 {α : Type} {vs : List α} (h : vs.length = 4) : ∃ a b c d, vs = [a, b, c, d] := match vs, h with | [a, b, c, d], _ => ⟨a, b, c, d, rfl⟩
abbrev SkyK (K : PySem.W.Frag) : Prop := OwnC K "Sky" skF
section
variable {K : PySem.W.Frag} {E : WX} {X : XP} {ρ : TL.Env} {te tb : TE} {Φ : V → T → TL.Env → Prop}
theorem lk_sk (j : Nat) {f : Str} (h : skF[j]? = some f) : ∀ vs : List V, vs.length = 4 → (skF.zip vs).lookup f = vs[j]? := fun vs hv => by
  match vs, hv with
  | [a, b, c, d], _ =>
    match j, h with
    | 0, h => cases h; rfl
    | 1, h => cases h; rfl
    | 2, h => cases h; rfl
    | 3, h => cases h; rfl
theorem wE_sf (Z : SkyK K) (j : Nat) {f : Str} (hf : skF[j]? = some f) (h : wE E X te ρ fun _ x ρ1 => ∃ (ts : List T) (t : T), x = .ins (skC K) skF ts ∧ ts.length = 4 ∧ ts[j]? = some t ∧ ∀ v, Φ v t ρ1) : wE E X (tFld K te f) ρ Φ :=
  wE_fld Z.cl (Z.na f (List.mem_of_getElem? hf)) (wE_imp h fun _ x ρ1 ⟨ts, t, e, hl, ht, hk⟩ => ⟨skF, ts, j, t, e, ht, fun vs hv => lk_sk j hf vs (by rw [hv, hl]), hk⟩)
theorem wE_sh (Z : SkyK K) (h : wE E X te ρ fun _ x ρ1 => ∃ S, x = skT K S ∧ ∀ v, Φ v (.int (S.h : Int)) ρ1) : wE E X (tFld K te "houses") ρ Φ := wE_sf Z 0 rfl (wE_imp h fun _ x ρ1 ⟨S, e, hk⟩ => ⟨skZ S, _, e, rfl, rfl, hk⟩)
theorem wE_sr (Z : SkyK K) (h : wE E X te ρ fun _ x ρ1 => ∃ S, x = skT K S ∧ ∀ v, Φ v (.int (S.r : Int)) ρ1) : wE E X (tFld K te "readers") ρ Φ := wE_sf Z 1 rfl (wE_imp h fun _ x ρ1 ⟨S, e, hk⟩ => ⟨skZ S, _, e, rfl, rfl, hk⟩)
theorem wE_sm (Z : SkyK K) (h : wE E X te ρ fun _ x ρ1 => ∃ S, x = skT K S ∧ ∀ v, Φ v (.tup (S.ms.map moT)) ρ1) : wE E X (tFld K te "moments") ρ Φ := wE_sf Z 2 rfl (wE_imp h fun _ x ρ1 ⟨S, e, hk⟩ => ⟨skZ S, _, e, rfl, rfl, hk⟩)
theorem wE_sb (Z : SkyK K) (h : wE E X te ρ fun _ x ρ1 => ∃ S, x = skT K S ∧ ∀ v, Φ v (optN S.bk) ρ1) : wE E X (tFld K te "back") ρ Φ := wE_sf Z 3 rfl (wE_imp h fun _ x ρ1 ⟨S, e, hk⟩ => ⟨skZ S, _, e, rfl, rfl, hk⟩)
end
theorem mos_items {m : T} {h r : Int} (z : mosB m h r = true) : m = .lst (itemsOf m) ∨ m = .tup (itemsOf m) := by
  unfold mosB at z
  split at z
  · exact .inl rfl
  · exact .inr rfl
  · cases z
theorem r_Sky_init {K : PySem.W.Frag} (Z : SkyK K) (vs : List V) (H : Hp) (Q : VK) (E : XK) (h : sp_Sky_init K vs H Q E) : t_Sky_init K E { nx := fun _ H' => Q .non H', rt := Q } (L2.start N_Sky_init vs) H := by
  refine run_sMk h fun x dx us ts hl ⟨a, s, m, k, e, oa, os, om, ok⟩ => ?_
  subst e
  obtain ⟨u1, u2, u3, u4, rfl⟩ := len4 hl
  show wN _ _ _ [Sl.x (.ref x) (.raw (.ref x)), .x u1 a, .x u2 s, .x u3 m, .x u4 k] _ _ _ _ _ _ _
  have bad : ∀ w c j, badS a s m k = some (w, c, j) → ∀ er, er = er1 K c (([u1, u2, u3, u4][j]?).getD .non) → ∀ a' s' m' k', [a, s, m, k] = [a', s', m', k'] → ∃ w c j, badS a' s' m' k' = some (w, c, j) ∧ er = er1 K c (([u1, u2, u3, u4][j]?).getD .non) := fun w c j hb er he a' s' m' k' e => by
    cases e
    exact ⟨w, c, j, hb, he⟩
  unfold t_Sky_init
  refine wN_seq (wS_if (wT_not (wT_cl (wA_cons (wE_x rfl (wA_cons (wE_int (wA_cons (wE_int (wA_nil ⟨⟨a, 1, 3, rfl, oa.ok1⟩, ⟨btw a 1 3, fun t ht => ht a _ _ rfl, ?_⟩, fun er z => z.elim⟩))))))))))
  cases z1 : btw a 1 3 with
  | false => exact ite_t (wS_raise (wA_cons (wE_x rfl (wA_nil ⟨rfl, by decide, bad "houses" "InvalidHouses" 0 (by unfold badS; rw [z1]; rfl) _ rfl⟩))))
  | true =>
    obtain ⟨ha, rfl, _⟩ := btw_int z1
    refine ite_f (wS_next (wN_seq (wS_if (wT_not (wT_cl (wA_cons (wE_x rfl (wA_cons (wE_int (wA_cons (wE_int (wA_nil ⟨⟨s, 1, 3, rfl, os.ok1⟩, ⟨btw s 1 3, fun t ht => ht s _ _ rfl, ?_⟩, fun er z => z.elim⟩))))))))))))
    cases z2 : btw s 1 3 with
    | false => exact ite_t (wS_raise (wA_cons (wE_x rfl (wA_nil ⟨rfl, by decide, bad "readers" "InvalidReaders" 1 (by unfold badS; rw [z1, z2]; rfl) _ rfl⟩))))
    | true =>
      obtain ⟨hs, rfl, _⟩ := btw_int z2
      refine ite_f (wS_next (wN_seq (wS_if (wT_not (wT_cl (wA_cons (wE_x rfl (wA_cons (wE_x rfl (wA_cons (wE_x rfl (wA_nil ⟨⟨m, ha, hs, rfl, om⟩, ⟨mosB m ha hs, fun t ht => ht m _ _ rfl, ?_⟩, fun er z => z.elim⟩))))))))))))
      cases z3 : mosB m ha hs with
      | false => exact ite_t (wS_raise (wA_cons (wE_x rfl (wA_nil ⟨rfl, by decide, bad "moments" "InvalidMoments" 2 (by unfold badS; rw [z1, z2]; show (if true then if true then (if mosB m ha hs = true then _ else _) else _ else _) = _; rw [z3]; rfl) _ rfl⟩))))
      | true =>
        have hm := mos_items z3
        have hb : badS (.int ha) (.int hs) m k = if isNonT k || btw k 0 (((itemsOf m).length : Int) - 1) then none else some (("back" : Str), ("InvalidBack" : Str), 3) := by
          unfold badS
          rw [z1, z2]
          show (if true then if true then (if mosB m ha hs = true then _ else _) else _ else _) = _
          rw [z3]
          rfl
        have stores : (isNonT k || btw k 0 (((itemsOf m).length : Int) - 1)) = true → wN (WD E) (fun er _ => ∀ a' s' m' k', [T.int ha, T.int hs, m, k] = [a', s', m', k'] → ∃ w c j, badS a' s' m' k' = some (w, c, j) ∧ er = er1 K c (([u1, u2, u3, u4][j]?).getD .non))
            (tSeq (sFld K (tVar 0) (tVar 1) "houses") (tSeq (sFld K (tVar 0) (tVar 2) "readers") (tSeq (sFld K (tVar 0) (tCB (rTupU K) (tCons (tVar 3) tNil)) "moments") (sFld K (tVar 0) (tVar 4) "back"))))
            [Sl.x (.ref x) (.raw (.ref x)), .x u1 (.int ha), .x u2 (.int hs), .x u3 m, .x u4 k] x (skC K) dx [] [] (fun zs => ∀ a' s' m' k', [T.int ha, T.int hs, m, k] = [a', s', m', k'] → badS a' s' m' k' = none ∧ zs = [a', s', .tup (itemsOf m'), k']) skF := fun zk => by
          refine wN_sto Z.cl (Z.na "houses" (by decide)) (wE_x rfl ⟨rfl, by decide, by decide, ?_⟩)
          refine wN_sto Z.cl (Z.na "readers" (by decide)) (wE_x rfl ⟨rfl, by decide, by decide, ?_⟩)
          refine wN_sto Z.cl (Z.na "moments" (by decide)) (wE_cb tupOk (wA_cons (wE_x rfl (wA_nil (?_ : fTup [m] _)))))
          have ft : ∀ k : T → Prop, k (.tup (itemsOf m)) → fTup [m] k := fun k hk => by
            rcases hm with e | e <;> rw [e] <;> exact hk
          refine ft _ fun _ => ⟨rfl, by decide, by decide, ?_⟩
          refine wN_end Z.cl (Z.na "back" (by decide)) (wE_x rfl ⟨rfl, by decide, by decide, rfl, fun a' s' m' k' e => ?_⟩)
          cases e
          rw [hb, zk]
          exact ⟨rfl, rfl⟩
        refine ite_f (wS_next (wN_seq (wS_if (wT_and (wT_test (wE_op isNotOk (wE_x rfl (wE_non ⟨notRaw_dd ok, fun _ => ⟨_, rfl, ?_⟩⟩))))))))
        cases z4 : isNonT k with
        | true => exact ite_f (ite_f (wS_next (stores (by rw [z4]; rfl))))
        | false =>
          refine ite_t (wT_not (wT_cl ?_))
          walk_at "wk"
          refine gLenD hm ?_
          walk_at "wk"
          refine ⟨⟨k, 0, _, rfl, ok.ok1⟩, ⟨_, fun t ht => ht k _ _ rfl, ?_⟩, fun er z => z.elim⟩
          cases z5 : btw k 0 (((itemsOf m).length : Int) - 1) with
          | true => exact ite_f (wS_next (stores (by rw [z5, Bool.or_true])))
          | false => exact ite_t (wS_raise (wA_cons (wE_x rfl (wA_nil ⟨rfl, by decide, bad "back" "InvalidBack" 3 (by rw [hb, z4, z5]; rfl) _ rfl⟩))))
end K09
set_option maxHeartbeats 4000000
namespace K09
open PySem PySem.Spec PyProof.Rows L2 TL TC TD
local macro_rules | `(tactic| walk_at "wk") => `(tactic| repeat' (first
  | with_reducible refine wS_seq ?_
  | with_reducible refine wS_if ?_
  | with_reducible refine wS_next ?_
  | with_reducible refine wS_aug rfl ipOk ?_
  | with_reducible refine wT_not ?_
  | with_reducible refine wT_and ?_
  | with_reducible refine wT_or ?_
  | with_reducible refine wT_test ?_
  | with_reducible refine wT_tru ?_
  | with_reducible refine wT_yes ?_
  | with_reducible refine wE_op addOk ?_
  | with_reducible refine wE_op subOk ?_
  | with_reducible refine wE_op mulOk ?_
  | with_reducible refine wE_op modOk ?_
  | with_reducible refine wE_op divOk ?_
  | with_reducible refine wE_op powOk ?_
  | with_reducible refine wE_op ltOk ?_
  | with_reducible refine wE_op leOk ?_
  | with_reducible refine wE_op gtOk ?_
  | with_reducible refine wE_op geOk ?_
  | with_reducible refine wE_op isOk ?_
  | with_reducible refine wE_op isNotOk ?_
  | with_reducible refine wE_op ixOk ?_
  | with_reducible refine wE_un negOk ?_
  | with_reducible refine wE_cb intOk ?_
  | with_reducible refine wE_cb absOk ?_
  | with_reducible refine wE_cb maxOk ?_
  | with_reducible refine wE_cb minOk ?_
  | with_reducible refine wE_cb lenOk ?_
  | with_reducible refine wE_cb sumOk ?_
  | with_reducible refine wE_cb allOk ?_
  | with_reducible refine wE_cb dvmOk ?_
  | with_reducible refine wE_sl ?_
  | with_reducible refine wO_none ?_
  | with_reducible refine wO_some ?_
  | with_reducible refine wE_tup ?_
  | with_reducible refine wE_if ?_
  | with_reducible refine wE_int ?_
  | with_reducible refine wE_bl ?_
  | with_reducible refine wE_str ?_
  | with_reducible refine wE_non ?_
  | refine wE_x rfl ?_
  | refine wE_v rfl ?_
  | with_reducible refine wA_cons ?_
  | with_reducible refine wA_nil ?_
  | with_reducible refine gAdd ?_
  | with_reducible refine gSub ?_
  | with_reducible refine gMulL (by omega) (by omega) ?_
  | with_reducible refine gMulR (by omega) (by omega) ?_
  | with_reducible refine gMod (by omega) ?_
  | with_reducible refine gDiv (by omega) (by omega) ?_
  | with_reducible refine gPow (by omega) (by omega) (by omega) ?_
  | with_reducible refine gLt ?_
  | with_reducible refine gLe ?_
  | with_reducible refine gGt ?_
  | with_reducible refine gGe ?_
  | with_reducible refine gNeg ?_
  | with_reducible refine gInt ?_
  | with_reducible refine gAbs ?_
  | with_reducible refine gMax ?_
  | with_reducible refine gMin ?_
  | with_reducible refine gLenL ?_
  | with_reducible refine gLenT ?_
  | with_reducible refine gSlL ?_
  | (with_reducible intro (_ : V))
  | with_reducible refine Exists.intro _ (And.intro (rfl : T.bl _ = T.bl _) ?_)
  | with_reducible refine Exists.intro _ (And.intro (rfl : T.int _ = T.int _) ?_)
  | with_reducible refine Exists.intro _ (And.intro (rfl : truT (T.bl _) = some _) ?_)))
theorem natsT_ints (l : List Nat) : natsT l = (l.map fun k : Nat => (k : Int)).map T.int := by
  unfold natsT; rw [List.map_map]; rfl
theorem natsT_inj {a b : List Nat} (h : natsT a = natsT b) : a = b := by
  rw [natsT_ints, natsT_ints] at h
  have := congrArg (List.map Int.toNat) (ints_inj h)
  rw [List.map_map, List.map_map] at this
  have e : ∀ l : List Nat, l.map (Int.toNat ∘ fun k : Nat => (k : Int)) = l := fun l => by
    induction l with
    | nil => rfl
    | cons a l ih => rw [List.map_cons, ih]; rfl
  rwa [e, e] at this
theorem optN_inj {a b : Option Nat} (h : optN a = optN b) : a = b := by
  cases a <;> cases b
  · rfl
  · cases h
  · cases h
  · rename_i x y
    have : (x : Int) = (y : Int) := T.int.inj h
    rw [show x = y by omega]
theorem frT_inj {a b : Option (Nat × List Int)} (h : frT a = frT b) : a = b := by
  cases a <;> cases b
  · rfl
  · cases h
  · cases h
  · rename_i x y
    obtain ⟨x1, x2⟩ := x
    obtain ⟨y1, y2⟩ := y
    have e : [T.int (x1 : Int), .tup (x2.map T.int)] = [T.int (y1 : Int), .tup (y2.map T.int)] := T.tup.inj h
    simp only [List.cons.injEq, T.int.injEq, T.tup.injEq, and_true] at e
    obtain ⟨e1, e2⟩ := e
    rw [show x1 = y1 by omega, ints_inj e2]
theorem moT_inj {a b : Mo} (h : moT a = moT b) : a = b := by
  have e : [T.tup (natsT a.tk), frT a.fr, optN a.wd] = [T.tup (natsT b.tk), frT b.fr, optN b.wd] := T.tup.inj h
  simp only [List.cons.injEq, T.tup.injEq, and_true] at e
  obtain ⟨e1, e2, e3⟩ := e
  cases a; cases b
  rw [Mo.mk.injEq]
  exact ⟨natsT_inj e1, frT_inj e2, optN_inj e3⟩
theorem mosT_inj : ∀ {a b : List Mo}, a.map moT = b.map moT → a = b
  | [], [], _ => rfl
  | [], _ :: _, h => nomatch h
  | _ :: _, [], h => nomatch h
  | a :: as, b :: bs, h => by
    rw [List.map_cons, List.map_cons, List.cons.injEq] at h
    rw [moT_inj h.1, mosT_inj h.2]
theorem skT_inj {K : PySem.W.Frag} {a b : Sk} (h : skT K a = skT K b) : a = b := by
  have e : skZ a = skZ b := by
    unfold skT at h
    injection h
  unfold skZ at e
  simp only [List.cons.injEq, T.int.injEq, T.tup.injEq, and_true] at e
  obtain ⟨e1, e2, e3, e4⟩ := e
  have e1 : a.h = b.h := by omega
  have e2 : a.r = b.r := by omega
  cases a; cases b
  rw [Sk.mk.injEq]
  exact ⟨e1, e2, mosT_inj e3, optN_inj e4⟩
theorem pl_opt {d : Nat} (a : Option Nat) : Pl (d + 1) (optN a) := by
  cases a
  · exact .non
  · exact .int _
theorem pl_nats {d : Nat} (l : List Nat) : Pl (d + 2) (.tup (natsT l)) := by rw [natsT_ints]; exact pl_ints _
theorem pl_fr {d : Nat} (a : Option (Nat × List Int)) : Pl (d + 3) (frT a) := by
  cases a with
  | none => exact .non
  | some x =>
    refine .tup fun t ht => ?_
    simp only [List.mem_cons, List.not_mem_nil, or_false] at ht
    rcases ht with rfl | rfl
    · exact .int _
    · exact pl_ints _
theorem pl_mo {d : Nat} (m : Mo) : Pl (d + 4) (moT m) := by
  refine .tup fun t ht => ?_
  simp only [List.mem_cons, List.not_mem_nil, or_false] at ht
  rcases ht with rfl | rfl | rfl
  · exact pl_nats (d := d + 1) _
  · exact pl_fr _
  · exact pl_opt (d := d + 2) _
end K09
set_option maxHeartbeats 4000000
namespace K09
open PySem PySem.Spec PyProof.Rows L2 TL TC TD
local macro_rules | `(tactic| walk_at "wk") => `(tactic| repeat' (first
  | with_reducible refine wS_seq ?_
  | with_reducible refine wS_if ?_
  | with_reducible refine wS_next ?_
  | with_reducible refine wS_aug rfl ipOk ?_
  | with_reducible refine wT_not ?_
  | with_reducible refine wT_and ?_
  | with_reducible refine wT_or ?_
  | with_reducible refine wT_test ?_
  | with_reducible refine wT_tru ?_
  | with_reducible refine wT_yes ?_
  | with_reducible refine wE_op addOk ?_
  | with_reducible refine wE_op subOk ?_
  | with_reducible refine wE_op mulOk ?_
  | with_reducible refine wE_op modOk ?_
  | with_reducible refine wE_op divOk ?_
  | with_reducible refine wE_op powOk ?_
  | with_reducible refine wE_op ltOk ?_
  | with_reducible refine wE_op leOk ?_
  | with_reducible refine wE_op gtOk ?_
  | with_reducible refine wE_op geOk ?_
  | with_reducible refine wE_op isOk ?_
  | with_reducible refine wE_op isNotOk ?_
  | with_reducible refine wE_op ixOk ?_
  | with_reducible refine wE_un negOk ?_
  | with_reducible refine wE_cb intOk ?_
  | with_reducible refine wE_cb absOk ?_
  | with_reducible refine wE_cb maxOk ?_
  | with_reducible refine wE_cb minOk ?_
  | with_reducible refine wE_cb lenOk ?_
  | with_reducible refine wE_cb sumOk ?_
  | with_reducible refine wE_cb allOk ?_
  | with_reducible refine wE_cb dvmOk ?_
  | with_reducible refine wE_sl ?_
  | with_reducible refine wO_none ?_
  | with_reducible refine wO_some ?_
  | with_reducible refine wE_tup ?_
  | with_reducible refine wE_if ?_
  | with_reducible refine wE_int ?_
  | with_reducible refine wE_bl ?_
  | with_reducible refine wE_str ?_
  | with_reducible refine wE_non ?_
  | refine wE_x rfl ?_
  | refine wE_v rfl ?_
  | with_reducible refine wA_cons ?_
  | with_reducible refine wA_nil ?_
  | with_reducible refine gAdd ?_
  | with_reducible refine gSub ?_
  | with_reducible refine gMulL (by omega) (by omega) ?_
  | with_reducible refine gMulR (by omega) (by omega) ?_
  | with_reducible refine gMod (by omega) ?_
  | with_reducible refine gDiv (by omega) (by omega) ?_
  | with_reducible refine gPow (by omega) (by omega) (by omega) ?_
  | with_reducible refine gLt ?_
  | with_reducible refine gLe ?_
  | with_reducible refine gGt ?_
  | with_reducible refine gGe ?_
  | with_reducible refine gNeg ?_
  | with_reducible refine gInt ?_
  | with_reducible refine gAbs ?_
  | with_reducible refine gMax ?_
  | with_reducible refine gMin ?_
  | with_reducible refine gLenL ?_
  | with_reducible refine gLenT ?_
  | with_reducible refine gSlL ?_
  | (with_reducible intro (_ : V))
  | with_reducible refine Exists.intro _ (And.intro (rfl : T.bl _ = T.bl _) ?_)
  | with_reducible refine Exists.intro _ (And.intro (rfl : T.int _ = T.int _) ?_)
  | with_reducible refine Exists.intro _ (And.intro (rfl : truT (T.bl _) = some _) ?_)))
theorem r_check_tick {K : PySem.W.Frag} (vs : List V) (H : Hp) (Q : VK) (E : XK) (h : sp_check_tick K vs H Q E) : t_check_tick K E { nx := fun _ H' => Q .non H', rt := Q } (L2.start N_check_tick vs) H := by
  refine run_sP h fun ts hl ⟨x, e, o⟩ => ?_
  subst e
  obtain ⟨u, rfl⟩ := len1 hl
  show wS _ _ _ [Sl.x u x] _
  unfold t_check_tick
  refine wS_if (wT_not (wT_cl (wA_cons (wE_x rfl (wA_cons (wE_int (wA_cons (wE_int (wA_nil ⟨⟨x, 0, most, rfl, o.ok1⟩, ⟨btw x 0 most, fun t ht => ht x _ _ rfl, ?_⟩, fun er z => z.elim⟩)))))))))
  cases z : btw x 0 most with
  | false => exact ite_t (wS_raise (wA_cons (wE_x rfl (wA_nil ⟨rfl, by decide, x, u, rfl, rfl, z, rfl⟩))))
  | true =>
    refine ite_f (wS_next ⟨rfl, fun y e => ?_⟩)
    cases e
    exact z
theorem r_moment_at {K : PySem.W.Frag} (Z : SkyK K) (vs : List V) (H : Hp) (Q : VK) (E : XK) (h : sp_moment_at K vs H Q E) : t_moment_at K E { nx := fun _ H' => Q .non H', rt := Q } (L2.start N_moment_at vs) H := by
  refine run_sP h fun ts hl ⟨S, t, e, oS, ht⟩ => ?_
  subst e
  obtain ⟨u, u1, rfl⟩ := len2 hl
  show wS _ _ _ [Sl.x u (skT K S), .x u1 (.int t), .no] _
  have fin : ∀ z, z = optN (momAt S t) → ∀ (S0 : Sk) (t0 : Nat), [skT K S, T.int t] = [skT K S0, .int t0] → z = optN (momAt S0 t0) := fun z hz S0 t0 e => by
    simp only [List.cons.injEq, T.int.injEq, and_true] at e
    obtain ⟨e1, e2⟩ := e
    cases skT_inj e1
    rw [hz, show t = t0 by omega]
  unfold t_moment_at
  refine wS_seq (wS_set (wE_cb lenOk (wA_cons (wE_sm Z (wE_x rfl ⟨S, rfl, fun _ => wA_nil (gLenT fun _ => ?_)⟩)))))
  show wS _ _ _ [Sl.x u (skT K S), .x u1 (.int t), .v (.int (S.ms.map moT).length)] _
  rw [List.length_map]
  refine wS_seq (wS_if (wT_test ?_))
  walk_at "wk"
  refine ite_c (fun z => wS_ret (wE_x rfl (fin _ ?_))) fun z => wS_next (wS_ret (wE_if (wT_test (wE_op isOk (wE_sb Z (wE_x rfl ⟨S, rfl, fun _ => wE_non ⟨by cases S.bk <;> trivial, fun _ => ⟨_, rfl, ?_⟩⟩⟩))))))
  · have z := of_decide_eq_true z
    unfold momAt
    rw [if_pos (by omega)]
    rfl
  · have z := of_decide_eq_false z
    have e0 : momAt S t = S.bk.map fun b => b + (t - b) % (S.ms.length - b) := by
      unfold momAt
      rw [if_neg (by omega)]
    cases zb : S.bk with
    | none => exact ite_t (wE_non (fin _ (by rw [e0, zb]; rfl)))
    | some b =>
      have hb := oS.bk b zb
      refine ite_f (wE_op addOk (wE_sb Z (wE_x rfl ⟨S, rfl, fun _ => wE_op modOk (wE_op subOk (wE_x rfl (wE_sb Z (wE_x rfl ⟨S, rfl, fun _ => ?_⟩))))⟩)))
      rw [zb]
      refine gSub fun _ => wE_op subOk (wE_v rfl fun _ => wE_sb Z (wE_x rfl ⟨S, rfl, fun _ => ?_⟩))
      rw [zb]
      refine gSub fun _ => gMod (by omega) fun _ => gAdd fun _ => fin _ ?_
      rw [e0, zb]
      show T.int _ = T.int _
      congr 1
      show (b : Int) + ((t : Int) - b) % ((S.ms.length : Int) - b) = ((b + (t - b) % (S.ms.length - b) : Nat) : Int)
      rw [show ((t : Int) - b) = ((t - b : Nat) : Int) by omega, show ((S.ms.length : Int) - b) = ((S.ms.length - b : Nat) : Int) by omega, ← Int.natCast_emod]
      omega
theorem r_moment_of {K : PySem.W.Frag} (vs : List V) (H : Hp) (Q : VK) (E : XK) (h : sp_moment_of K vs H Q E) : t_moment_of K E { nx := fun _ H' => Q .non H', rt := Q } (L2.start N_moment_of vs) H := by
  unfold sp_moment_of sp_door at h
  refine run_sP h fun ts hl ⟨S, x, e, oS, ox⟩ => ?_
  subst e
  obtain ⟨u, u1, rfl⟩ := len2 hl
  show wS _ _ _ [Sl.x u (skT K S), .x u1 x] _
  unfold t_moment_of
  refine wS_seq (wS_drop (wE_call (wA_cons (wE_x rfl (wA_nil ⟨⟨x, rfl, ox⟩, fun t v ⟨_, hx⟩ => ?_, fun er ⟨y, w, e, ew, hb, he⟩ => ?_⟩)))))
  · obtain ⟨i, rfl, h0, h1⟩ := btw_int (hx x rfl)
    obtain ⟨n, rfl⟩ : ∃ n : Nat, i = (n : Int) := ⟨i.toNat, by omega⟩
    refine wS_ret (wE_callV (wA_cons (wE_x rfl (wA_cons (wE_x rfl (wA_nil ⟨⟨S, n, rfl, oS, h1⟩, ⟨_, fun t ht => ht S n rfl, fun _ S0 y0 e => ?_⟩, fun er z => z.elim⟩))))))
    simp only [List.cons.injEq, and_true] at e
    obtain ⟨e1, rfl⟩ := e
    cases skT_inj e1
    exact ⟨hx _ rfl, rfl⟩
  · cases e
    cases ew
    exact ⟨S, x, u, u1, rfl, rfl, hb, he⟩
end K09
set_option maxHeartbeats 4000000
namespace K09
open PySem PySem.Spec PyProof.Rows L2 TL TC TD
local macro_rules | `(tactic| walk_at "wk") => `(tactic| repeat' (first
  | with_reducible refine wS_seq ?_
  | with_reducible refine wS_if ?_
  | with_reducible refine wS_next ?_
  | with_reducible refine wS_aug rfl ipOk ?_
  | with_reducible refine wT_not ?_
  | with_reducible refine wT_and ?_
  | with_reducible refine wT_or ?_
  | with_reducible refine wT_test ?_
  | with_reducible refine wT_tru ?_
  | with_reducible refine wT_yes ?_
  | with_reducible refine wE_op addOk ?_
  | with_reducible refine wE_op subOk ?_
  | with_reducible refine wE_op mulOk ?_
  | with_reducible refine wE_op modOk ?_
  | with_reducible refine wE_op divOk ?_
  | with_reducible refine wE_op powOk ?_
  | with_reducible refine wE_op ltOk ?_
  | with_reducible refine wE_op leOk ?_
  | with_reducible refine wE_op gtOk ?_
  | with_reducible refine wE_op geOk ?_
  | with_reducible refine wE_op isOk ?_
  | with_reducible refine wE_op isNotOk ?_
  | with_reducible refine wE_op ixOk ?_
  | with_reducible refine wE_un negOk ?_
  | with_reducible refine wE_cb intOk ?_
  | with_reducible refine wE_cb absOk ?_
  | with_reducible refine wE_cb maxOk ?_
  | with_reducible refine wE_cb minOk ?_
  | with_reducible refine wE_cb lenOk ?_
  | with_reducible refine wE_cb sumOk ?_
  | with_reducible refine wE_cb allOk ?_
  | with_reducible refine wE_cb dvmOk ?_
  | with_reducible refine wE_sl ?_
  | with_reducible refine wO_none ?_
  | with_reducible refine wO_some ?_
  | with_reducible refine wE_tup ?_
  | with_reducible refine wE_if ?_
  | with_reducible refine wE_int ?_
  | with_reducible refine wE_bl ?_
  | with_reducible refine wE_str ?_
  | with_reducible refine wE_non ?_
  | refine wE_x rfl ?_
  | refine wE_v rfl ?_
  | with_reducible refine wA_cons ?_
  | with_reducible refine wA_nil ?_
  | with_reducible refine gAdd ?_
  | with_reducible refine gSub ?_
  | with_reducible refine gMulL (by omega) (by omega) ?_
  | with_reducible refine gMulR (by omega) (by omega) ?_
  | with_reducible refine gMod (by omega) ?_
  | with_reducible refine gDiv (by omega) (by omega) ?_
  | with_reducible refine gPow (by omega) (by omega) (by omega) ?_
  | with_reducible refine gLt ?_
  | with_reducible refine gLe ?_
  | with_reducible refine gGt ?_
  | with_reducible refine gGe ?_
  | with_reducible refine gNeg ?_
  | with_reducible refine gInt ?_
  | with_reducible refine gAbs ?_
  | with_reducible refine gMax ?_
  | with_reducible refine gMin ?_
  | with_reducible refine gLenL ?_
  | with_reducible refine gLenT ?_
  | with_reducible refine gSlL ?_
  | (with_reducible intro (_ : V))
  | with_reducible refine Exists.intro _ (And.intro (rfl : T.bl _ = T.bl _) ?_)
  | with_reducible refine Exists.intro _ (And.intro (rfl : T.int _ = T.int _) ?_)
  | with_reducible refine Exists.intro _ (And.intro (rfl : truT (T.bl _) = some _) ?_)))
abbrev mo0 : Mo := ⟨[], none, none⟩
theorem sm1000 {n : Nat} (h : n ≤ 1000) : n ≤ sizeLine := Nat.le_trans h (by decide)
end K09
set_option maxHeartbeats 4000000
namespace K09
open PySem PySem.Spec PyProof.Rows L2 TL TC TD
local macro_rules | `(tactic| walk_at "wk") => `(tactic| repeat' (first
  | with_reducible refine wS_seq ?_
  | with_reducible refine wS_if ?_
  | with_reducible refine wS_next ?_
  | with_reducible refine wS_aug rfl ipOk ?_
  | with_reducible refine wT_not ?_
  | with_reducible refine wT_and ?_
  | with_reducible refine wT_or ?_
  | with_reducible refine wT_test ?_
  | with_reducible refine wT_tru ?_
  | with_reducible refine wT_yes ?_
  | with_reducible refine wE_op addOk ?_
  | with_reducible refine wE_op subOk ?_
  | with_reducible refine wE_op mulOk ?_
  | with_reducible refine wE_op modOk ?_
  | with_reducible refine wE_op divOk ?_
  | with_reducible refine wE_op powOk ?_
  | with_reducible refine wE_op ltOk ?_
  | with_reducible refine wE_op leOk ?_
  | with_reducible refine wE_op gtOk ?_
  | with_reducible refine wE_op geOk ?_
  | with_reducible refine wE_op isOk ?_
  | with_reducible refine wE_op isNotOk ?_
  | with_reducible refine wE_op ixOk ?_
  | with_reducible refine wE_un negOk ?_
  | with_reducible refine wE_cb intOk ?_
  | with_reducible refine wE_cb absOk ?_
  | with_reducible refine wE_cb maxOk ?_
  | with_reducible refine wE_cb minOk ?_
  | with_reducible refine wE_cb lenOk ?_
  | with_reducible refine wE_cb sumOk ?_
  | with_reducible refine wE_cb allOk ?_
  | with_reducible refine wE_cb dvmOk ?_
  | with_reducible refine wE_sl ?_
  | with_reducible refine wO_none ?_
  | with_reducible refine wO_some ?_
  | with_reducible refine wE_tup ?_
  | with_reducible refine wE_if ?_
  | with_reducible refine wE_int ?_
  | with_reducible refine wE_bl ?_
  | with_reducible refine wE_str ?_
  | with_reducible refine wE_non ?_
  | refine wE_x rfl ?_
  | refine wE_v rfl ?_
  | with_reducible refine wA_cons ?_
  | with_reducible refine wA_nil ?_
  | with_reducible refine gAdd ?_
  | with_reducible refine gSub ?_
  | with_reducible refine gMulL (by omega) (by omega) ?_
  | with_reducible refine gMulR (by omega) (by omega) ?_
  | with_reducible refine gMod (by omega) ?_
  | with_reducible refine gDiv (by omega) (by omega) ?_
  | with_reducible refine gPow (by omega) (by omega) (by omega) ?_
  | with_reducible refine gLt ?_
  | with_reducible refine gLe ?_
  | with_reducible refine gGt ?_
  | with_reducible refine gGe ?_
  | with_reducible refine gNeg ?_
  | with_reducible refine gInt ?_
  | with_reducible refine gAbs ?_
  | with_reducible refine gMax ?_
  | with_reducible refine gMin ?_
  | with_reducible refine gLenL ?_
  | with_reducible refine gLenT ?_
  | with_reducible refine gSlL ?_
  | (with_reducible intro (_ : V))
  | with_reducible refine Exists.intro _ (And.intro (rfl : T.bl _ = T.bl _) ?_)
  | with_reducible refine Exists.intro _ (And.intro (rfl : T.int _ = T.int _) ?_)
  | with_reducible refine Exists.intro _ (And.intro (rfl : truT (T.bl _) = some _) ?_)))
theorem frT_non (f : Option (Nat × List Int)) : isNonT (frT f) = !f.isSome := by cases f <;> rfl
theorem notRaw_fr (f : Option (Nat × List Int)) : notRaw (frT f) := by cases f <;> trivial
end K09
set_option maxHeartbeats 4000000
namespace TD
open PySem PySem.Spec PyProof.Rows L2 TL TC
local macro_rules | `(tactic| walk_at "tl") => `(tactic| repeat' (first
  | with_reducible refine wS_seq ?_
  | with_reducible refine wS_if ?_
  | with_reducible refine wS_next ?_
  | with_reducible refine wS_set ?_
  | with_reducible refine wS_par ?_
  | with_reducible refine wS_par3 ?_
  | with_reducible refine wS_aug rfl ipOk ?_
  | with_reducible refine wT_not ?_
  | with_reducible refine wT_and ?_
  | with_reducible refine wT_or ?_
  | with_reducible refine wT_test ?_
  | with_reducible refine wT_tru ?_
  | with_reducible refine wE_op addOk ?_
  | with_reducible refine wE_op subOk ?_
  | with_reducible refine wE_op mulOk ?_
  | with_reducible refine wE_op modOk ?_
  | with_reducible refine wE_op divOk ?_
  | with_reducible refine wE_op powOk ?_
  | with_reducible refine wE_op ltOk ?_
  | with_reducible refine wE_op leOk ?_
  | with_reducible refine wE_op gtOk ?_
  | with_reducible refine wE_op geOk ?_
  | with_reducible refine wE_op neOk ?_
  | with_reducible refine wE_eqNil ?_
  | with_reducible refine wE_op eqQOk ?_
  | refine wE_op ixOk (wE_x rfl ?_)
  | refine wE_op ixOk (wE_v rfl ?_)
  | with_reducible refine wE_un negOk ?_
  | with_reducible refine wE_cb intOk ?_
  | with_reducible refine wE_cb absOk ?_
  | with_reducible refine wE_cb maxOk ?_
  | with_reducible refine wE_cb minOk ?_
  | refine wE_cb lenOk (wA_cons (wE_x rfl ?_))
  | refine wE_cb lenOk (wA_cons (wE_v rfl ?_))
  | with_reducible refine wE_cb sumOk ?_
  | with_reducible refine wE_sl ?_
  | with_reducible refine wO_none ?_
  | with_reducible refine wO_some ?_
  | with_reducible refine wE_tup ?_
  | with_reducible refine wE_if ?_
  | with_reducible refine wE_int ?_
  | with_reducible refine wE_bl ?_
  | with_reducible refine wE_str ?_
  | with_reducible refine wE_non ?_
  | refine wE_x rfl ?_
  | refine wE_v rfl ?_
  | with_reducible refine wA_cons ?_
  | with_reducible refine wA_nil ?_
  | with_reducible refine gAdd ?_
  | with_reducible refine gSub ?_
  | with_reducible refine gMulL (by omega) (by omega) ?_
  | with_reducible refine gMulR (by omega) (by omega) ?_
  | with_reducible refine gMod (by omega) ?_
  | with_reducible refine gDiv (by omega) (by omega) ?_
  | with_reducible refine gPow (by omega) (by omega) (by omega) ?_
  | with_reducible refine gLt ?_
  | with_reducible refine gLe ?_
  | with_reducible refine gGt ?_
  | with_reducible refine gGe ?_
  | with_reducible refine gEqI ?_
  | with_reducible refine gEqB ?_
  | with_reducible refine gNeI ?_
  | with_reducible refine gNeg ?_
  | with_reducible refine gInt ?_
  | with_reducible refine gAbs ?_
  | with_reducible refine gMax ?_
  | with_reducible refine gMin ?_
  | with_reducible refine gLenL ?_
  | with_reducible refine gLenT ?_
  | with_reducible refine gSlL ?_
  | (with_reducible intro (_ : V))
  | with_reducible refine Exists.intro _ (And.intro (rfl : T.bl _ = T.bl _) ?_)
  | with_reducible refine Exists.intro _ (And.intro (rfl : T.int _ = T.int _) ?_)
  | with_reducible refine Exists.intro _ (And.intro (rfl : truT (T.bl _) = some _) ?_)))
theorem btw_int {x : T} {l m : Int} (h : btw x l m = true) : ∃ i : Int, x = .int i ∧ l ≤ i ∧ i ≤ m := by
  cases x with
  | int i =>
    have h3 : (decide (l ≤ i) && decide (i ≤ m)) = true := h
    simp only [Bool.and_eq_true, decide_eq_true_eq] at h3
    exact ⟨i, rfl, h3.1, h3.2⟩
  | _ => cases h
end TD
set_option maxHeartbeats 4000000
namespace TD
open PySem PySem.Spec PyProof.Rows L2 TL TC
local macro_rules | `(tactic| walk_at "tl") => `(tactic| repeat' (first
  | with_reducible refine wS_seq ?_
  | with_reducible refine wS_if ?_
  | with_reducible refine wS_next ?_
  | with_reducible refine wS_set ?_
  | with_reducible refine wS_par ?_
  | with_reducible refine wS_par3 ?_
  | with_reducible refine wS_aug rfl ipOk ?_
  | with_reducible refine wT_not ?_
  | with_reducible refine wT_and ?_
  | with_reducible refine wT_or ?_
  | with_reducible refine wT_test ?_
  | with_reducible refine wT_tru ?_
  | with_reducible refine wE_op addOk ?_
  | with_reducible refine wE_op subOk ?_
  | with_reducible refine wE_op mulOk ?_
  | with_reducible refine wE_op modOk ?_
  | with_reducible refine wE_op divOk ?_
  | with_reducible refine wE_op powOk ?_
  | with_reducible refine wE_op ltOk ?_
  | with_reducible refine wE_op leOk ?_
  | with_reducible refine wE_op gtOk ?_
  | with_reducible refine wE_op geOk ?_
  | with_reducible refine wE_op neOk ?_
  | with_reducible refine wE_eqNil ?_
  | with_reducible refine wE_op eqQOk ?_
  | refine wE_op ixOk (wE_x rfl ?_)
  | refine wE_op ixOk (wE_v rfl ?_)
  | with_reducible refine wE_un negOk ?_
  | with_reducible refine wE_cb intOk ?_
  | with_reducible refine wE_cb absOk ?_
  | with_reducible refine wE_cb maxOk ?_
  | with_reducible refine wE_cb minOk ?_
  | refine wE_cb lenOk (wA_cons (wE_x rfl ?_))
  | refine wE_cb lenOk (wA_cons (wE_v rfl ?_))
  | with_reducible refine wE_cb sumOk ?_
  | with_reducible refine wE_sl ?_
  | with_reducible refine wO_none ?_
  | with_reducible refine wO_some ?_
  | with_reducible refine wE_tup ?_
  | with_reducible refine wE_if ?_
  | with_reducible refine wE_int ?_
  | with_reducible refine wE_bl ?_
  | with_reducible refine wE_str ?_
  | with_reducible refine wE_non ?_
  | refine wE_x rfl ?_
  | refine wE_v rfl ?_
  | with_reducible refine wA_cons ?_
  | with_reducible refine wA_nil ?_
  | with_reducible refine gAdd ?_
  | with_reducible refine gSub ?_
  | with_reducible refine gMulL (by omega) (by omega) ?_
  | with_reducible refine gMulR (by omega) (by omega) ?_
  | with_reducible refine gMod (by omega) ?_
  | with_reducible refine gDiv (by omega) (by omega) ?_
  | with_reducible refine gPow (by omega) (by omega) (by omega) ?_
  | with_reducible refine gLt ?_
  | with_reducible refine gLe ?_
  | with_reducible refine gGt ?_
  | with_reducible refine gGe ?_
  | with_reducible refine gEqI ?_
  | with_reducible refine gEqB ?_
  | with_reducible refine gNeI ?_
  | with_reducible refine gNeg ?_
  | with_reducible refine gInt ?_
  | with_reducible refine gAbs ?_
  | with_reducible refine gMax ?_
  | with_reducible refine gMin ?_
  | with_reducible refine gLenL ?_
  | with_reducible refine gLenT ?_
  | with_reducible refine gSlL ?_
  | (with_reducible intro (_ : V))
  | with_reducible refine Exists.intro _ (And.intro (rfl : T.bl _ = T.bl _) ?_)
  | with_reducible refine Exists.intro _ (And.intro (rfl : T.int _ = T.int _) ?_)
  | with_reducible refine Exists.intro _ (And.intro (rfl : truT (T.bl _) = some _) ?_)))
end TD
set_option maxHeartbeats 4000000
namespace TD
open PySem PySem.Spec PyProof.Rows L2 TL TC
end TD
set_option maxHeartbeats 4000000
namespace TD
open PySem PySem.Spec PyProof.Rows L2 TL TC
theorem natsT_len (xs : List Nat) : (natsT xs).length = xs.length := List.length_map ..
end TD
set_option maxHeartbeats 4000000
namespace TD
open PySem PySem.Spec PyProof.Rows L2 TL TC
theorem natsT_inj : ∀ {a b : List Nat}, natsT a = natsT b → a = b := fun {a b} e => by
  unfold natsT at e
  refine (List.map_inj_right fun i j h => ?_).mp e
  exact Int.ofNat.inj (T.int.inj h)
end TD
set_option maxHeartbeats 4000000
namespace TD
open PySem PySem.Spec PyProof.Rows L2 TL TC
theorem len4 {α : Type} {vs : List α} (h : vs.length = 4) : ∃ a b c d, vs = [a, b, c, d] := match vs, h with | [a, b, c, d], _ => ⟨a, b, c, d, rfl⟩
end TD
set_option maxHeartbeats 4000000
namespace TD
open PySem PySem.Spec PyProof.Rows L2 TL TC
end TD
set_option maxHeartbeats 4000000
namespace TD
open PySem PySem.Spec PyProof.Rows L2 TL TC
local macro_rules | `(tactic| walk_at "tl") => `(tactic| repeat' (first
  | with_reducible refine wS_seq ?_
  | with_reducible refine wS_if ?_
  | with_reducible refine wS_next ?_
  | with_reducible refine wS_set ?_
  | with_reducible refine wS_par ?_
  | with_reducible refine wS_par3 ?_
  | with_reducible refine wS_aug rfl ipOk ?_
  | with_reducible refine wT_not ?_
  | with_reducible refine wT_and ?_
  | with_reducible refine wT_or ?_
  | with_reducible refine wT_test ?_
  | with_reducible refine wT_tru ?_
  | with_reducible refine wE_op addOk ?_
  | with_reducible refine wE_op subOk ?_
  | with_reducible refine wE_op mulOk ?_
  | with_reducible refine wE_op modOk ?_
  | with_reducible refine wE_op divOk ?_
  | with_reducible refine wE_op powOk ?_
  | with_reducible refine wE_op ltOk ?_
  | with_reducible refine wE_op leOk ?_
  | with_reducible refine wE_op gtOk ?_
  | with_reducible refine wE_op geOk ?_
  | with_reducible refine wE_op neOk ?_
  | with_reducible refine wE_eqNil ?_
  | with_reducible refine wE_op eqQOk ?_
  | refine wE_op ixOk (wE_x rfl ?_)
  | refine wE_op ixOk (wE_v rfl ?_)
  | with_reducible refine wE_un negOk ?_
  | with_reducible refine wE_cb intOk ?_
  | with_reducible refine wE_cb absOk ?_
  | with_reducible refine wE_cb maxOk ?_
  | with_reducible refine wE_cb minOk ?_
  | refine wE_cb lenOk (wA_cons (wE_x rfl ?_))
  | refine wE_cb lenOk (wA_cons (wE_v rfl ?_))
  | with_reducible refine wE_cb sumOk ?_
  | with_reducible refine wE_sl ?_
  | with_reducible refine wO_none ?_
  | with_reducible refine wO_some ?_
  | with_reducible refine wE_tup ?_
  | with_reducible refine wE_if ?_
  | with_reducible refine wE_int ?_
  | with_reducible refine wE_bl ?_
  | with_reducible refine wE_str ?_
  | with_reducible refine wE_non ?_
  | refine wE_x rfl ?_
  | refine wE_v rfl ?_
  | with_reducible refine wA_cons ?_
  | with_reducible refine wA_nil ?_
  | with_reducible refine gAdd ?_
  | with_reducible refine gSub ?_
  | with_reducible refine gMulL (by omega) (by omega) ?_
  | with_reducible refine gMulR (by omega) (by omega) ?_
  | with_reducible refine gMod (by omega) ?_
  | with_reducible refine gDiv (by omega) (by omega) ?_
  | with_reducible refine gPow (by omega) (by omega) (by omega) ?_
  | with_reducible refine gLt ?_
  | with_reducible refine gLe ?_
  | with_reducible refine gGt ?_
  | with_reducible refine gGe ?_
  | with_reducible refine gEqI ?_
  | with_reducible refine gEqB ?_
  | with_reducible refine gNeI ?_
  | with_reducible refine gNeg ?_
  | with_reducible refine gInt ?_
  | with_reducible refine gAbs ?_
  | with_reducible refine gMax ?_
  | with_reducible refine gMin ?_
  | with_reducible refine gLenL ?_
  | with_reducible refine gLenT ?_
  | with_reducible refine gSlL ?_
  | (with_reducible intro (_ : V))
  | with_reducible refine Exists.intro _ (And.intro (rfl : T.bl _ = T.bl _) ?_)
  | with_reducible refine Exists.intro _ (And.intro (rfl : T.int _ = T.int _) ?_)
  | with_reducible refine Exists.intro _ (And.intro (rfl : truT (T.bl _) = some _) ?_)))
section
variable {K : PySem.W.Frag}
theorem r_law_cell (vs : List V) (H : Hp) (Q : VK) (E : XK) (h : sp_law_cell K vs H Q E) : t_law_cell K E { nx := fun _ H' => Q .non H', rt := Q } (L2.start N_law_cell vs) H := TC.r_law_cell vs H Q E h
theorem r_law_box (vs : List V) (H : Hp) (Q : VK) (E : XK) (h : sp_law_box K vs H Q E) : t_law_box K E { nx := fun _ H' => Q .non H', rt := Q } (L2.start N_law_box vs) H := TC.r_law_box vs H Q E h
theorem r_law_take (vs : List V) (H : Hp) (Q : VK) (E : XK) (h : sp_law_take K vs H Q E) : t_law_take K E { nx := fun _ H' => Q .non H', rt := Q } (L2.start N_law_take vs) H := TC.r_law_take vs H Q E h
theorem r_law_whole (vs : List V) (H : Hp) (Q : VK) (E : XK) (h : sp_law_whole K vs H Q E) : t_law_whole K E { nx := fun _ H' => Q .non H', rt := Q } (L2.start N_law_whole vs) H := TC.r_law_whole vs H Q E h
end
end TD
set_option maxHeartbeats 4000000
namespace TD
open PySem PySem.Spec PyProof.Rows L2 TL TC
section
variable {K : PySem.W.Frag} {E : WX} {X : XP} {ρ : TL.Env} {te ta tb : TE} {Φ : V → T → TL.Env → Prop} {Θ : Bool → TL.Env → Prop} {i : Nat} {P : Post} {w : V} {xs : List T}
theorem gIxW {y : T} {rs : List T} {r : T} {k : T → Prop} (n : Nat) (hy : y = .lst rs ∨ y = .tup rs) (g : rs[n]? = some r) (h : k r) : fIx y (.int n) k := by
  rcases hy with rfl | rfl
  · exact gIxL n rfl g h
  · exact gIxT n rfl g h
end
end TD
set_option maxHeartbeats 4000000
namespace TD
open PySem PySem.Spec PyProof.Rows L2 TL TC
end TD
set_option maxHeartbeats 4000000
namespace TD
open PySem PySem.Spec PyProof.Rows L2 TL TC
end TD
set_option maxHeartbeats 4000000
namespace TD
open PySem PySem.Spec PyProof.Rows L2 TL TC
section
variable {K : PySem.W.Frag} {E : WX} {X : XP} {ρ : TL.Env} {te ta tb : TE} {Φ : V → T → TL.Env → Prop} {Θ : Bool → TL.Env → Prop} {Ψ : List T → TL.Env → Prop} {i : Nat} {P : Post}
/-- what is known of a list of one's own, weakened behind an expression -/
theorem wE_wk (i : Nat) (Qd : List T → Prop) (h : wE E X te ρ fun v t ρ' => ∃ p Pd, ρ'[i]? = some (.o p Pd) ∧ (∀ ts, Pd ts → Qd ts) ∧ Φ v t (ρ'.set i (.o p Qd))) : wE E X te ρ Φ := fun b G H σ Q S q ke =>
  h b G H σ Q S (fun v t ρ' G' H' ⟨p, Pd, e, k, hΦ⟩ r S' l => q v t _ G' H' hΦ r (S'.ow e k) l) ke
end
end TD
set_option maxHeartbeats 4000000
namespace K09
open PySem PySem.Spec PyProof.Rows L2 TL TC TD
local macro_rules | `(tactic| walk_at "wk") => `(tactic| repeat' (first
  | with_reducible refine wS_seq ?_
  | with_reducible refine wS_if ?_
  | with_reducible refine wS_next ?_
  | with_reducible refine wS_aug rfl ipOk ?_
  | with_reducible refine wT_not ?_
  | with_reducible refine wT_and ?_
  | with_reducible refine wT_or ?_
  | with_reducible refine wT_test ?_
  | with_reducible refine wT_tru ?_
  | with_reducible refine wT_yes ?_
  | with_reducible refine wE_op addOk ?_
  | with_reducible refine wE_op subOk ?_
  | with_reducible refine wE_op mulOk ?_
  | with_reducible refine wE_op modOk ?_
  | with_reducible refine wE_op divOk ?_
  | with_reducible refine wE_op powOk ?_
  | with_reducible refine wE_op ltOk ?_
  | with_reducible refine wE_op leOk ?_
  | with_reducible refine wE_op gtOk ?_
  | with_reducible refine wE_op geOk ?_
  | with_reducible refine wE_op isOk ?_
  | with_reducible refine wE_op isNotOk ?_
  | with_reducible refine wE_op ixOk ?_
  | with_reducible refine wE_un negOk ?_
  | with_reducible refine wE_cb intOk ?_
  | with_reducible refine wE_cb absOk ?_
  | with_reducible refine wE_cb maxOk ?_
  | with_reducible refine wE_cb minOk ?_
  | with_reducible refine wE_cb lenOk ?_
  | with_reducible refine wE_cb sumOk ?_
  | with_reducible refine wE_cb allOk ?_
  | with_reducible refine wE_cb dvmOk ?_
  | with_reducible refine wE_sl ?_
  | with_reducible refine wO_none ?_
  | with_reducible refine wO_some ?_
  | with_reducible refine wE_tup ?_
  | with_reducible refine wE_if ?_
  | with_reducible refine wE_int ?_
  | with_reducible refine wE_bl ?_
  | with_reducible refine wE_str ?_
  | with_reducible refine wE_non ?_
  | refine wE_x rfl ?_
  | refine wE_v rfl ?_
  | with_reducible refine wA_cons ?_
  | with_reducible refine wA_nil ?_
  | with_reducible refine gAdd ?_
  | with_reducible refine gSub ?_
  | with_reducible refine gMulL (by omega) (by omega) ?_
  | with_reducible refine gMulR (by omega) (by omega) ?_
  | with_reducible refine gMod (by omega) ?_
  | with_reducible refine gDiv (by omega) (by omega) ?_
  | with_reducible refine gPow (by omega) (by omega) (by omega) ?_
  | with_reducible refine gLt ?_
  | with_reducible refine gLe ?_
  | with_reducible refine gGt ?_
  | with_reducible refine gGe ?_
  | with_reducible refine gNeg ?_
  | with_reducible refine gInt ?_
  | with_reducible refine gAbs ?_
  | with_reducible refine gMax ?_
  | with_reducible refine gMin ?_
  | with_reducible refine gLenL ?_
  | with_reducible refine gLenT ?_
  | with_reducible refine gSlL ?_
  | (with_reducible intro (_ : V))
  | with_reducible refine Exists.intro _ (And.intro (rfl : T.bl _ = T.bl _) ?_)
  | with_reducible refine Exists.intro _ (And.intro (rfl : T.int _ = T.int _) ?_)
  | with_reducible refine Exists.intro _ (And.intro (rfl : truT (T.bl _) = some _) ?_)))
section
variable {K : PySem.W.Frag} {E : WX} {X : XP} {ρ : TL.Env} {te tb tm : TE} {Φ : V → T → TL.Env → Prop} {i : Nat} {p : Addr}
/-- _law_take(box, e) -/
theorem wE_tk (n : Nat) (e : ρ[i]? = some (.o p (Bx (n + 1)))) (h : wE E X tm ρ fun _ t ρ1 => ρ1 = ρ ∧ ∃ m : Nat, t = .int m ∧ 0 < m ∧ m ≤ 1000000000000000 ∧ ∀ d : Nat, d < m → ∀ v, Φ v (.int (d : Int)) (ρ.set i (.o p (Bx n)))) : wE E X (tCallS (sp_law_take K) (WE E) (tCons (tVar i) (tCons tm tNil))) ρ Φ :=
  wE_callO n e (wA_cons (wE_imp h fun v t ρ1 ⟨e1, m, e2, h0, h1, hk⟩ => by
    subst e1 e2
    refine wA_nil ⟨e, ⟨m, rfl, by omega, by omega⟩, fun t v po => ?_, fun er z => z.elim⟩
    obtain ⟨d, rfl, d0, d1⟩ := po m rfl
    obtain ⟨k, rfl, hk2⟩ := nat_of d0 d1
    exact hk k (by omega) v))
/-- _law_take(box, a number) -/
theorem wE_tki (n : Nat) (e : ρ[i]? = some (.o p (Bx (n + 1)))) {z : Int} (m : Nat) (hz : z = (m : Int)) (h0 : 0 < m) (h1 : m ≤ 1000000000000000) (h : ∀ d : Nat, d < m → ∀ v, Φ v (.int (d : Int)) (ρ.set i (.o p (Bx n)))) : wE E X (tCallS (sp_law_take K) (WE E) (tCons (tVar i) (tCons (tC (.int z)) tNil))) ρ Φ :=
  wE_tk n e (wE_int ⟨rfl, m, by rw [hz], h0, h1, h⟩)
end
theorem lstL {α : Type} {l : List α} {i : Nat} {x : α} (h : l[i]? = some x) : l.take (i + 1) = l.take i ++ [x] := by
  rw [List.take_add_one, h]; rfl
theorem getI2 {ns : List Int} {i : Nat} {x : T} (h : (ns.map T.int)[i]? = some x) : ∃ a, ns[i]? = some a ∧ x = .int a := by
  rw [List.getElem?_map] at h
  obtain ⟨a, h1, h2⟩ := Option.map_eq_some_iff.mp h
  exact ⟨a, h1, h2.symm⟩
theorem r_law_subset {K : PySem.W.Frag} (vs : List V) (H : Hp) (Q : VK) (E : XK) (h : sp_law_subset K vs H Q E) : t_law_subset K E { nx := fun _ H' => Q .non H', rt := Q } (L2.start N_law_subset vs) H := by
  refine run_sO h (fun n q us ts _ hv ⟨ns, e, hn⟩ => ?_) (by decide)
  subst e
  obtain ⟨u, rfl⟩ := len1 hv
  show wS _ _ _ [Sl.o q (Bx (n + 20)), .x u (.lst (ns.map T.int)), .no] _
  unfold t_law_subset
  refine wS_ret (wE_wk 0 (Bx n) (wE_cb tupOk (wA_cons (wE_F (wF_lcO (wI_seq (wE_x rfl ⟨_, .inl rfl, fun k hk => ?_, fun i acc ρ => (i ≤ ns.length ∧ ∃ ms : List Int, acc = ms.map T.int ∧ ms.Sublist (ns.take i)) ∧ ρ = [Sl.o q (Bx (n + 20 - i)), .x u (.lst (ns.map T.int)), .no], ⟨⟨Nat.zero_le _, [], rfl, List.Sublist.refl _⟩, rfl⟩, fun i x acc v ρ2 hx ⟨⟨hi, ms, e1, hs⟩, e2⟩ => ?_, fun acc ρ2 ⟨⟨hi, ms, e1, hs⟩, e2⟩ v => wA_nil ?_⟩)))))))
  · obtain rfl : k = 2 := by simpa using hk
    rfl
  · subst e2
    obtain ⟨a, ha, rfl⟩ := getI2 hx
    have hi : i < ns.length := (List.getElem?_eq_some_iff.mp ha).1
    have hl : acc.length < sizeLine := by
      rw [e1, List.length_map]
      exact Nat.lt_of_le_of_lt hs.length_le (Nat.lt_of_le_of_lt (List.length_take_le _ _) (Nat.lt_of_lt_of_le (by omega : i < 1000) (by decide)))
    refine wGa_name (by decide) (wT_test (wE_op eqQOk ?_))
    refine wE_ow (i := 0) (Bx ((n + 20 - (i + 1)) + 1)) rfl (fun ts b => b.mono (by omega)) ?_
    refine wE_tki (n + 20 - (i + 1)) rfl 2 rfl (by omega) (by omega) fun d hd v => wE_int (gEqI fun _ => ⟨_, rfl, ite_c (fun z => ?_) fun z => ?_⟩)
    · refine wE_v rfl fun _ => ⟨rfl, hl, ⟨hi, ms ++ [a], by rw [e1, List.map_append]; rfl, ?_⟩, rfl⟩
      rw [lstL ha]
      exact hs.append (List.Sublist.refl _)
    · refine ⟨rfl, ⟨hi, ms, e1, ?_⟩, rfl⟩
      rw [lstL ha]
      exact hs.trans (List.sublist_append_left _ _)
  · subst e2
    rw [List.length_map] at hi hs ⊢
    rw [List.take_length] at hs
    show ∀ v, _
    intro v
    refine ⟨q, _, rfl, fun ts b => b.mono (by omega), ⟨fun ns' e => ⟨ms, by rw [e1], ?_⟩, rfl⟩⟩
    have := ints_inj (by simpa using e)
    rw [← this]
    exact hs
end K09
set_option maxHeartbeats 4000000
namespace K09
open PySem PySem.Spec PyProof.Rows L2 TL TC TD
local macro_rules | `(tactic| walk_at "wk") => `(tactic| repeat' (first
  | with_reducible refine wS_seq ?_
  | with_reducible refine wS_if ?_
  | with_reducible refine wS_next ?_
  | with_reducible refine wS_aug rfl ipOk ?_
  | with_reducible refine wT_not ?_
  | with_reducible refine wT_and ?_
  | with_reducible refine wT_or ?_
  | with_reducible refine wT_test ?_
  | with_reducible refine wT_tru ?_
  | with_reducible refine wT_yes ?_
  | with_reducible refine wE_op addOk ?_
  | with_reducible refine wE_op subOk ?_
  | with_reducible refine wE_op mulOk ?_
  | with_reducible refine wE_op modOk ?_
  | with_reducible refine wE_op divOk ?_
  | with_reducible refine wE_op powOk ?_
  | with_reducible refine wE_op ltOk ?_
  | with_reducible refine wE_op leOk ?_
  | with_reducible refine wE_op gtOk ?_
  | with_reducible refine wE_op geOk ?_
  | with_reducible refine wE_op isOk ?_
  | with_reducible refine wE_op isNotOk ?_
  | with_reducible refine wE_op ixOk ?_
  | with_reducible refine wE_un negOk ?_
  | with_reducible refine wE_cb intOk ?_
  | with_reducible refine wE_cb absOk ?_
  | with_reducible refine wE_cb maxOk ?_
  | with_reducible refine wE_cb minOk ?_
  | with_reducible refine wE_cb lenOk ?_
  | with_reducible refine wE_cb sumOk ?_
  | with_reducible refine wE_cb allOk ?_
  | with_reducible refine wE_cb dvmOk ?_
  | with_reducible refine wE_sl ?_
  | with_reducible refine wO_none ?_
  | with_reducible refine wO_some ?_
  | with_reducible refine wE_tup ?_
  | with_reducible refine wE_if ?_
  | with_reducible refine wE_int ?_
  | with_reducible refine wE_bl ?_
  | with_reducible refine wE_str ?_
  | with_reducible refine wE_non ?_
  | refine wE_x rfl ?_
  | refine wE_v rfl ?_
  | with_reducible refine wA_cons ?_
  | with_reducible refine wA_nil ?_
  | with_reducible refine gAdd ?_
  | with_reducible refine gSub ?_
  | with_reducible refine gMulL (by omega) (by omega) ?_
  | with_reducible refine gMulR (by omega) (by omega) ?_
  | with_reducible refine gMod (by omega) ?_
  | with_reducible refine gDiv (by omega) (by omega) ?_
  | with_reducible refine gPow (by omega) (by omega) (by omega) ?_
  | with_reducible refine gLt ?_
  | with_reducible refine gLe ?_
  | with_reducible refine gGt ?_
  | with_reducible refine gGe ?_
  | with_reducible refine gNeg ?_
  | with_reducible refine gInt ?_
  | with_reducible refine gAbs ?_
  | with_reducible refine gMax ?_
  | with_reducible refine gMin ?_
  | with_reducible refine gLenL ?_
  | with_reducible refine gLenT ?_
  | with_reducible refine gSlL ?_
  | (with_reducible intro (_ : V))
  | with_reducible refine Exists.intro _ (And.intro (rfl : T.bl _ = T.bl _) ?_)
  | with_reducible refine Exists.intro _ (And.intro (rfl : T.int _ = T.int _) ?_)
  | with_reducible refine Exists.intro _ (And.intro (rfl : truT (T.bl _) = some _) ?_)))
/-- the receivers but one -/
def oth (h r a : Nat) : List Int := ((List.range (r + h)).map fun k : Nat => (k : Int) - (r : Int)).filter fun y => !decide (y = (a : Int))
theorem oth_len (h r a : Nat) : (oth h r a).length ≤ r + h := by
  unfold oth
  refine Nat.le_trans (List.length_filter_le _ _) ?_
  rw [List.length_map, List.length_range]
  exact Nat.le_refl _
theorem oth_mem {h r a : Nat} {y : Int} (m : y ∈ oth h r a) : -(r : Int) ≤ y ∧ y ≤ (h : Int) - 1 ∧ y ≠ a := by
  unfold oth at m
  obtain ⟨m1, m2⟩ := List.mem_filter.mp m
  obtain ⟨k, hk, rfl⟩ := List.mem_map.mp m1
  have := List.mem_range.mp hk
  exact ⟨by omega, by omega, by simpa using m2⟩
theorem asc_rng (r : Int) : ∀ n : Nat, ((List.range n).map fun k : Nat => (k : Int) - r).Pairwise (· < ·) := fun n => by
  rw [List.pairwise_map]
  exact List.Pairwise.imp (fun {a b} h => by omega) List.pairwise_lt_range
theorem oth_asc (h r a : Nat) : (oth h r a).Pairwise (· < ·) := (asc_rng _ _).sublist List.filter_sublist
theorem oth_ne {h r a : Nat} (hr : 1 ≤ r) : 0 < (oth h r a).length := by
  have : (-1 : Int) ∈ oth h r a := by
    unfold oth
    refine List.mem_filter.mpr ⟨List.mem_map.mpr ⟨r - 1, List.mem_range.mpr (by omega), by omega⟩, ?_⟩
    rw [decide_eq_false (by omega)]
    rfl
  exact List.length_pos_of_mem this
theorem frOk_sub {h r a : Nat} {c : List Int} (ha : a < h) (hc : c ≠ []) (s : c.Sublist (oth h r a)) : FrOk h r a c :=
  ⟨ha, hc, fun y m => ⟨(oth_mem (s.subset m)).1, (oth_mem (s.subset m)).2.1⟩, (oth_asc h r a).sublist s, fun m => (oth_mem (s.subset m)).2.2 rfl⟩
def notI (a : Nat) : T → Bool
  | .int i => !decide (i = (a : Int))
  | _ => false
theorem oth_T (h r a : Nat) : ((rngT (-(r : Int)) (h : Int)).filter (notI a)).map (fun t => t) = (oth h r a).map T.int := by
  have e : rngT (-(r : Int)) (h : Int) = ((List.range (r + h)).map fun k : Nat => (k : Int) - (r : Int)).map T.int := by
    unfold rngT
    rw [List.map_map, show ((h : Int) - -(r : Int)).toNat = r + h by omega]
    refine List.map_congr_left fun k _ => ?_
    show T.int (-(r : Int) + (k : Int)) = T.int ((k : Int) - (r : Int))
    congr 1
    omega
  rw [e, List.filter_map, List.map_map]
  rfl
theorem r_law_a_moment {K : PySem.W.Frag} (vs : List V) (H : Hp) (Q : VK) (E : XK) (h : sp_law_a_moment K vs H Q E) : t_law_a_moment K E { nx := fun _ H' => Q .non H', rt := Q } (L2.start N_law_a_moment vs) H := by
  refine run_sO h (fun n q us ts _ hv ⟨hh, r, e, h1, h3, r1, r3⟩ => ?_) (by decide)
  subst e
  obtain ⟨u, w, rfl⟩ := len2 hv
  show wS _ _ _ [Sl.o q (Bx (n + 40)), .x u (.int hh), .x w (.int r), .no, .no, .no, .no, .no, .no, .no, .no, .no] _
  unfold t_law_a_moment
  refine wS_seq (wS_asg (wE_tup (wA_cons (wE_wk 0 (Bx (n + 30)) (wE_cb tupOk (wA_cons (wE_F (wF_lcO (wI_range1 (wA_cons (wE_x rfl (wA_nil ⟨(hh : Int), rfl, by omega, by omega, fun k hk => ?_, fun i acc ρ => (i ≤ hh ∧ ∃ l : List Nat, acc = natsT l ∧ l.length = i ∧ ∀ k ∈ l, k ≤ 4) ∧ ρ = [Sl.o q (Bx (n + 40 - i)), .x u (.int hh), .x w (.int r), .no, .no, .no, .no, .no, .no, .no, .no, .no], ⟨⟨Nat.zero_le _, [], rfl, rfl, fun _ h => nomatch h⟩, rfl⟩, fun i x acc v ρ2 hx ⟨⟨hi, l, e1, hl, h4⟩, e2⟩ => ?_, fun acc ρ2 ⟨⟨hi, l, e1, hl, h4⟩, e2⟩ v => wA_nil ?_⟩))))))))))))
  · obtain rfl : k = 11 := by simpa using hk
    rfl
  · subst e2
    obtain ⟨_, hi2⟩ := rngT_get hx
    refine wGa_name (by decide) (wT_yes (ite_t ?_))
    refine wE_ow (i := 0) (Bx ((n + 40 - (i + 1)) + 1)) rfl (fun ts b => b.mono (by omega)) ?_
    refine wE_tki (n + 40 - (i + 1)) rfl 5 rfl (by omega) (by omega) fun d hd v => ⟨rfl, ?_, ⟨by omega, l ++ [d], ?_, ?_, ?_⟩, rfl⟩
    · rw [e1]
      unfold natsT
      rw [List.length_map, hl]
      exact Nat.lt_of_lt_of_le (by omega : i < 1000) (by decide)
    · rw [e1]
      unfold natsT
      rw [List.map_append]
      rfl
    · rw [List.length_append, hl]; rfl
    · intro k hk
      rcases List.mem_append.mp hk with hk | hk
      · exact h4 k hk
      · rw [List.mem_singleton.mp hk]; omega
  · subst e2 e1
    rw [rngT_len] at hl hi ⊢
    have hl2 : l.length = hh := by omega
    show ∀ v, _
    intro v
    refine ⟨q, _, rfl, fun ts b => b.mono (by omega), ?_⟩
    show wA _ _ _ [Sl.o q (Bx (n + 30)), .x u (.int hh), .x w (.int r), .no, .no, .no, .no, .no, .no, .no, .no, .no] _
    refine wA_cons (wE_tk (n + 29) rfl (wE_x rfl ⟨rfl, hh, rfl, by omega, by omega, fun a ha _ => wA_nil ⟨by show 2 ≤ sizeLine; decide, fun _ => wG_tup rfl fun us hu => ?_⟩⟩))
    match us, hu with
    | [w1, w2], _ =>
      refine wGs_cons (wG_name (wGs_cons (wG_name (wGs_nil ?_))))
      show wS _ _ _ [Sl.o q (Bx (n + 29)), .x u (.int hh), .x w (.int r), .v (.tup (natsT l)), .v (.int (a : Nat)), .no, .no, .no, .no, .no, .no, .no] _
      refine wS_seq (wS_set (wE_F (wF_lcT (wI_range2 (wA_cons (wE_un negOk (wE_x rfl (gNeg fun _ => wA_cons (wE_x rfl (wA_nil ⟨_, _, rfl, ⟨by omega, by omega, by omega, by omega⟩, rfl, ?_, notI a, fun t => t, fun x v hx => ?_, fun _ => ?_⟩))))))))))
      · rw [rngT_len]
        exact sm1000 (by omega)
      · obtain ⟨i, hi2, e⟩ := List.getElem_of_mem hx
        obtain ⟨e1, _⟩ := rngT_get (by rw [List.getElem?_eq_getElem hi2, e])
        subst e1
        exact wGa_name (by decide) ⟨rfl, rfl, wT_test (wE_op neOk (wE_v rfl fun _ => wE_v rfl fun _ => gNeI fun _ => ⟨_, rfl, rfl, rfl, fun _ => wE_v rfl fun _ => ⟨rfl, rfl⟩⟩))⟩
      · rw [oth_T]
        show wS _ _ _ [Sl.o q (Bx (n + 29)), .x u (.int hh), .x w (.int r), .v (.tup (natsT l)), .v (.int (a : Nat)), .v (.lst ((oth hh r a).map T.int)), .no, .no, .no, .no, .no, .no] _
        have ol := oth_len hh r a
        have op := oth_ne (h := hh) (a := a) r1
        refine wS_seq (wS_asg (wE_tup (wA_cons (wE_callO (n + 9) rfl (wA_cons (wE_v rfl fun _ => wA_nil ⟨rfl, ⟨_, rfl, by omega⟩, fun t v po => ?_, fun er z => z.elim⟩))))))
        obtain ⟨sm, rfl, hsm⟩ := po _ rfl
        refine wA_cons (wE_op ixOk (wE_v rfl fun _ => wE_tk (n + 8) rfl (wE_cb lenOk (wA_cons (wE_v rfl fun _ => wA_nil (gLenL fun _ => ⟨rfl, (oth hh r a).length, by rw [List.length_map], op, by omega, fun d hd _ => ?_⟩))))))
        have ho := getI hd
        refine gIxL d rfl ho fun _ => wA_cons (wE_tki (n + 7) rfl 4 rfl (by omega) (by omega) fun wy hwy _ => wA_cons (wE_tki (n + 6) rfl 18 rfl (by omega) (by omega) fun wd hwd _ => wA_nil ⟨by show 4 ≤ sizeLine; decide, fun _ => wG_tup rfl fun us hu => ?_⟩))
        match us, hu with
        | [y1, y2, y3, y4], _ =>
          refine wGs_cons (wG_name (wGs_cons (wG_name (wGs_cons (wG_name (wGs_cons (wG_name (wGs_nil ?_))))))))
          generalize ea : (oth hh r a).getD d 0 = o1
          have o1m : o1 ∈ oth hh r a := by
            rw [← ea, List.getD_eq_getElem?_getD, List.getElem?_eq_getElem hd]
            exact List.getElem_mem _
          show wS _ _ _ [Sl.o q (Bx (n + 6)), .x u (.int hh), .x w (.int r), .v (.tup (natsT l)), .v (.int (a : Nat)), .v (.lst ((oth hh r a).map T.int)), .v (.tup (sm.map T.int)), .v (.int o1), .v (.int wy), .v (.int wd), .no, .no] _
          have last : ∀ f : Option (Nat × List Int), (∀ b c, f = some (b, c) → FrOk hh r b c) → wS (WD E) (fun er ρ' => noX [u, w] [T.int hh, .int r] er ∧ ρ'[0]? = some (Sl.o q (Bx n))) (tRet (tTup (tCons (tVar 3) (tCons (tVar 10) (tCons (tIf (tTest (tOp rLtU (tVar 9) (tC (.int 9)))) (tVar 9) (tC .non)) tNil)))))
              [Sl.o q (Bx (n + 6)), .x u (.int hh), .x w (.int r), .v (.tup (natsT l)), .v (.int (a : Nat)), .v (.lst ((oth hh r a).map T.int)), .v (.tup (sm.map T.int)), .v (.int o1), .v (.int wy), .v (.int wd), .v (frT f), .no]
              { rt := fun t ρ' => (∀ h' r' : Nat, [T.int hh, T.int r] = [T.int h', .int r'] → ∃ m, t = moT m ∧ MoOk h' r' m) ∧ ρ'[0]? = some (Sl.o q (Bx n)), nx := fun ρ' => (∀ h' r' : Nat, [T.int hh, T.int r] = [T.int h', .int r'] → ∃ m, T.non = moT m ∧ MoOk h' r' m) ∧ ρ'[0]? = some (Sl.o q (Bx n)), rf := fun us ρ' => (∀ h' r' : Nat, [T.int hh, T.int r] = [T.int h', .int r'] → ∃ m, T.lst us = moT m ∧ MoOk h' r' m) ∧ ρ'[0]? = some (Sl.o q (Bx n)), z := 0 } := fun f hf => by
            refine wS_ow (i := 0) (Bx n) rfl (fun ts b => b.mono (by omega)) ?_
            have fin : ∀ wd' : Option Nat, (∀ x, wd' = some x → x ≤ 8) → ∀ h' r' : Nat, [T.int hh, T.int r] = [T.int h', .int r'] → ∃ m, T.tup [.tup (natsT l), frT f, optN wd'] = moT m ∧ MoOk h' r' m := fun wd' hw h' r' e => by
              simp only [List.cons.injEq, T.int.injEq, and_true] at e
              obtain ⟨e1, e2⟩ := e
              obtain rfl : hh = h' := by omega
              obtain rfl : r = r' := by omega
              exact ⟨⟨l, f, wd'⟩, rfl, hl2, h4, hf, hw⟩
            refine wS_ret (wE_tup (wA_cons (wE_v rfl fun _ => wA_cons (wE_v rfl fun _ => wA_cons (wE_if (wT_test (wE_op ltOk (wE_v rfl fun _ => wE_int (gLt fun _ => ⟨_, rfl, ite_c (fun z => ?_) fun z => ?_⟩)))))))))
            · have z := of_decide_eq_true z
              exact wE_v rfl fun _ => wA_nil ⟨by show 3 ≤ sizeLine; decide, fun _ => ⟨fin (some wd) (fun x e => by cases e; omega), rfl⟩⟩
            · exact wE_non (wA_nil ⟨by show 3 ≤ sizeLine; decide, fun _ => ⟨fin none (fun x e => nomatch e), rfl⟩⟩)
          refine wS_seq (wS_set (wE_if (wT_test (wE_op eqQOk (wE_v rfl fun _ => wE_int (gEqI fun _ => ⟨_, rfl, ite_c (fun z => wE_non (last none fun b c e => nomatch e)) fun z => ?_⟩))))))
          refine wE_tup (wA_cons (wE_v rfl fun _ => wA_cons (wE_if (wT_test (wE_op neOk (wE_v rfl fun _ => wE_tup (wA_nil ⟨by show 0 ≤ sizeLine; exact Nat.zero_le _, fun _ => gNeT (d := 2) (e := 1) (c := sm.isEmpty) (pl_ints sm) (.tup fun _ h => nomatch h) (by decide) (by decide) (by cases sm <;> simp) fun _ => ⟨_, rfl, ite_c (fun z => ?_) fun z => ?_⟩⟩)))))))
          · refine wE_v rfl fun _ => wA_nil ⟨by show 2 ≤ sizeLine; decide, fun _ => last (some (a, sm)) fun b c e => ?_⟩
            cases e
            exact frOk_sub ha (by intro e; rw [e] at z; simp at z) hsm
          · refine wE_tup (wA_cons (wE_v rfl fun _ => wA_nil ⟨by show 1 ≤ sizeLine; decide, fun _ => wA_nil ⟨by show 2 ≤ sizeLine; decide, fun _ => last (some (a, [o1])) fun b c e => ?_⟩⟩))
            cases e
            exact frOk_sub ha (by simp) (List.singleton_sublist.mpr o1m)
end K09
set_option maxHeartbeats 4000000
namespace K09
open PySem PySem.Spec PyProof.Rows L2 TL TC TD
local macro_rules | `(tactic| walk_at "wk") => `(tactic| repeat' (first
  | with_reducible refine wS_seq ?_
  | with_reducible refine wS_if ?_
  | with_reducible refine wS_next ?_
  | with_reducible refine wS_aug rfl ipOk ?_
  | with_reducible refine wT_not ?_
  | with_reducible refine wT_and ?_
  | with_reducible refine wT_or ?_
  | with_reducible refine wT_test ?_
  | with_reducible refine wT_tru ?_
  | with_reducible refine wT_yes ?_
  | with_reducible refine wE_op addOk ?_
  | with_reducible refine wE_op subOk ?_
  | with_reducible refine wE_op mulOk ?_
  | with_reducible refine wE_op modOk ?_
  | with_reducible refine wE_op divOk ?_
  | with_reducible refine wE_op powOk ?_
  | with_reducible refine wE_op ltOk ?_
  | with_reducible refine wE_op leOk ?_
  | with_reducible refine wE_op gtOk ?_
  | with_reducible refine wE_op geOk ?_
  | with_reducible refine wE_op isOk ?_
  | with_reducible refine wE_op isNotOk ?_
  | with_reducible refine wE_op ixOk ?_
  | with_reducible refine wE_un negOk ?_
  | with_reducible refine wE_cb intOk ?_
  | with_reducible refine wE_cb absOk ?_
  | with_reducible refine wE_cb maxOk ?_
  | with_reducible refine wE_cb minOk ?_
  | with_reducible refine wE_cb lenOk ?_
  | with_reducible refine wE_cb sumOk ?_
  | with_reducible refine wE_cb allOk ?_
  | with_reducible refine wE_cb dvmOk ?_
  | with_reducible refine wE_sl ?_
  | with_reducible refine wO_none ?_
  | with_reducible refine wO_some ?_
  | with_reducible refine wE_tup ?_
  | with_reducible refine wE_if ?_
  | with_reducible refine wE_int ?_
  | with_reducible refine wE_bl ?_
  | with_reducible refine wE_str ?_
  | with_reducible refine wE_non ?_
  | refine wE_x rfl ?_
  | refine wE_v rfl ?_
  | with_reducible refine wA_cons ?_
  | with_reducible refine wA_nil ?_
  | with_reducible refine gAdd ?_
  | with_reducible refine gSub ?_
  | with_reducible refine gMulL (by omega) (by omega) ?_
  | with_reducible refine gMulR (by omega) (by omega) ?_
  | with_reducible refine gMod (by omega) ?_
  | with_reducible refine gDiv (by omega) (by omega) ?_
  | with_reducible refine gPow (by omega) (by omega) (by omega) ?_
  | with_reducible refine gLt ?_
  | with_reducible refine gLe ?_
  | with_reducible refine gGt ?_
  | with_reducible refine gGe ?_
  | with_reducible refine gNeg ?_
  | with_reducible refine gInt ?_
  | with_reducible refine gAbs ?_
  | with_reducible refine gMax ?_
  | with_reducible refine gMin ?_
  | with_reducible refine gLenL ?_
  | with_reducible refine gLenT ?_
  | with_reducible refine gSlL ?_
  | (with_reducible intro (_ : V))
  | with_reducible refine Exists.intro _ (And.intro (rfl : T.bl _ = T.bl _) ?_)
  | with_reducible refine Exists.intro _ (And.intro (rfl : T.int _ = T.int _) ?_)
  | with_reducible refine Exists.intro _ (And.intro (rfl : truT (T.bl _) = some _) ?_)))
end K09
set_option maxHeartbeats 4000000
namespace K09
open PySem PySem.Spec PyProof.Rows L2 TL TC TD
local macro_rules | `(tactic| walk_at "wk") => `(tactic| repeat' (first
  | with_reducible refine wS_seq ?_
  | with_reducible refine wS_if ?_
  | with_reducible refine wS_next ?_
  | with_reducible refine wS_aug rfl ipOk ?_
  | with_reducible refine wT_not ?_
  | with_reducible refine wT_and ?_
  | with_reducible refine wT_or ?_
  | with_reducible refine wT_test ?_
  | with_reducible refine wT_tru ?_
  | with_reducible refine wT_yes ?_
  | with_reducible refine wE_op addOk ?_
  | with_reducible refine wE_op subOk ?_
  | with_reducible refine wE_op mulOk ?_
  | with_reducible refine wE_op modOk ?_
  | with_reducible refine wE_op divOk ?_
  | with_reducible refine wE_op powOk ?_
  | with_reducible refine wE_op ltOk ?_
  | with_reducible refine wE_op leOk ?_
  | with_reducible refine wE_op gtOk ?_
  | with_reducible refine wE_op geOk ?_
  | with_reducible refine wE_op isOk ?_
  | with_reducible refine wE_op isNotOk ?_
  | with_reducible refine wE_op ixOk ?_
  | with_reducible refine wE_un negOk ?_
  | with_reducible refine wE_cb intOk ?_
  | with_reducible refine wE_cb absOk ?_
  | with_reducible refine wE_cb maxOk ?_
  | with_reducible refine wE_cb minOk ?_
  | with_reducible refine wE_cb lenOk ?_
  | with_reducible refine wE_cb sumOk ?_
  | with_reducible refine wE_cb allOk ?_
  | with_reducible refine wE_cb dvmOk ?_
  | with_reducible refine wE_sl ?_
  | with_reducible refine wO_none ?_
  | with_reducible refine wO_some ?_
  | with_reducible refine wE_tup ?_
  | with_reducible refine wE_if ?_
  | with_reducible refine wE_int ?_
  | with_reducible refine wE_bl ?_
  | with_reducible refine wE_str ?_
  | with_reducible refine wE_non ?_
  | refine wE_x rfl ?_
  | refine wE_v rfl ?_
  | with_reducible refine wA_cons ?_
  | with_reducible refine wA_nil ?_
  | with_reducible refine gAdd ?_
  | with_reducible refine gSub ?_
  | with_reducible refine gMulL (by omega) (by omega) ?_
  | with_reducible refine gMulR (by omega) (by omega) ?_
  | with_reducible refine gMod (by omega) ?_
  | with_reducible refine gDiv (by omega) (by omega) ?_
  | with_reducible refine gPow (by omega) (by omega) (by omega) ?_
  | with_reducible refine gLt ?_
  | with_reducible refine gLe ?_
  | with_reducible refine gGt ?_
  | with_reducible refine gGe ?_
  | with_reducible refine gNeg ?_
  | with_reducible refine gInt ?_
  | with_reducible refine gAbs ?_
  | with_reducible refine gMax ?_
  | with_reducible refine gMin ?_
  | with_reducible refine gLenL ?_
  | with_reducible refine gLenT ?_
  | with_reducible refine gSlL ?_
  | (with_reducible intro (_ : V))
  | with_reducible refine Exists.intro _ (And.intro (rfl : T.bl _ = T.bl _) ?_)
  | with_reducible refine Exists.intro _ (And.intro (rfl : T.int _ = T.int _) ?_)
  | with_reducible refine Exists.intro _ (And.intro (rfl : truT (T.bl _) = some _) ?_)))
end K09
set_option maxHeartbeats 4000000
namespace K09
open PySem PySem.Spec PyProof.Rows L2 TL TC TD
local macro_rules | `(tactic| walk_at "wk") => `(tactic| repeat' (first
  | with_reducible refine wS_seq ?_
  | with_reducible refine wS_if ?_
  | with_reducible refine wS_next ?_
  | with_reducible refine wS_aug rfl ipOk ?_
  | with_reducible refine wT_not ?_
  | with_reducible refine wT_and ?_
  | with_reducible refine wT_or ?_
  | with_reducible refine wT_test ?_
  | with_reducible refine wT_tru ?_
  | with_reducible refine wT_yes ?_
  | with_reducible refine wE_op addOk ?_
  | with_reducible refine wE_op subOk ?_
  | with_reducible refine wE_op mulOk ?_
  | with_reducible refine wE_op modOk ?_
  | with_reducible refine wE_op divOk ?_
  | with_reducible refine wE_op powOk ?_
  | with_reducible refine wE_op ltOk ?_
  | with_reducible refine wE_op leOk ?_
  | with_reducible refine wE_op gtOk ?_
  | with_reducible refine wE_op geOk ?_
  | with_reducible refine wE_op isOk ?_
  | with_reducible refine wE_op isNotOk ?_
  | with_reducible refine wE_op ixOk ?_
  | with_reducible refine wE_un negOk ?_
  | with_reducible refine wE_cb intOk ?_
  | with_reducible refine wE_cb absOk ?_
  | with_reducible refine wE_cb maxOk ?_
  | with_reducible refine wE_cb minOk ?_
  | with_reducible refine wE_cb lenOk ?_
  | with_reducible refine wE_cb sumOk ?_
  | with_reducible refine wE_cb allOk ?_
  | with_reducible refine wE_cb dvmOk ?_
  | with_reducible refine wE_sl ?_
  | with_reducible refine wO_none ?_
  | with_reducible refine wO_some ?_
  | with_reducible refine wE_tup ?_
  | with_reducible refine wE_if ?_
  | with_reducible refine wE_int ?_
  | with_reducible refine wE_bl ?_
  | with_reducible refine wE_str ?_
  | with_reducible refine wE_non ?_
  | refine wE_x rfl ?_
  | refine wE_v rfl ?_
  | with_reducible refine wA_cons ?_
  | with_reducible refine wA_nil ?_
  | with_reducible refine gAdd ?_
  | with_reducible refine gSub ?_
  | with_reducible refine gMulL (by omega) (by omega) ?_
  | with_reducible refine gMulR (by omega) (by omega) ?_
  | with_reducible refine gMod (by omega) ?_
  | with_reducible refine gDiv (by omega) (by omega) ?_
  | with_reducible refine gPow (by omega) (by omega) (by omega) ?_
  | with_reducible refine gLt ?_
  | with_reducible refine gLe ?_
  | with_reducible refine gGt ?_
  | with_reducible refine gGe ?_
  | with_reducible refine gNeg ?_
  | with_reducible refine gInt ?_
  | with_reducible refine gAbs ?_
  | with_reducible refine gMax ?_
  | with_reducible refine gMin ?_
  | with_reducible refine gLenL ?_
  | with_reducible refine gLenT ?_
  | with_reducible refine gSlL ?_
  | (with_reducible intro (_ : V))
  | with_reducible refine Exists.intro _ (And.intro (rfl : T.bl _ = T.bl _) ?_)
  | with_reducible refine Exists.intro _ (And.intro (rfl : T.int _ = T.int _) ?_)
  | with_reducible refine Exists.intro _ (And.intro (rfl : truT (T.bl _) = some _) ?_)))
end K09
set_option maxHeartbeats 4000000
namespace TL
open PySem PySem.Spec PyProof.Rows L2
end TL
set_option maxHeartbeats 4000000
namespace K09
open PySem PySem.Spec PyProof.Rows L2 TL TC TD
section
variable {K : PySem.W.Frag} {E : WX} {X : XP} {ρ : TL.Env} {te tb : TE} {ta : TA} {Φ : V → T → TL.Env → Prop} {P : Post} {i : Nat}
theorem gSlT {ts : List T} {lo hi : Option Int} {k : T → Prop} (h : k (.tup (cutT ts lo hi))) : fSl (.tup ts) lo hi k := h
theorem gAddT {xs ys : List T} {k : T → Prop} (hl : xs.length + ys.length ≤ 1000) (h : k (.tup (xs ++ ys))) : fAdd (.tup xs) (.tup ys) k := ⟨sm1000 hl, h⟩
theorem wE_lstD (h : wA E X ta ρ fun _ ts ρ1 => ts.length ≤ sizeLine ∧ ∀ v, Φ v (.lst ts) ρ1) : wE E X (tLst ta) ρ Φ := wE_F (wF_lst h)
theorem wE_listD {t : TA} (h : wA E X t ρ fun _ xs ρ1 => ∃ ts, (xs = [.lst ts] ∨ xs = [.tup ts]) ∧ ∀ v, Φ v (.lst ts) ρ1) : wE E X (tCB (rListU K) t) ρ Φ := wE_F (wF_list h)
end
local macro_rules | `(tactic| walk_at "wk") => `(tactic| repeat' (first
  | with_reducible refine wS_seq ?_
  | with_reducible refine wS_if ?_
  | with_reducible refine wS_next ?_
  | with_reducible refine wS_aug rfl ipOk ?_
  | with_reducible refine wT_not ?_
  | with_reducible refine wT_and ?_
  | with_reducible refine wT_or ?_
  | with_reducible refine wT_test ?_
  | with_reducible refine wT_tru ?_
  | with_reducible refine wT_yes ?_
  | with_reducible refine wE_op addOk ?_
  | with_reducible refine wE_op subOk ?_
  | with_reducible refine wE_op mulOk ?_
  | with_reducible refine wE_op modOk ?_
  | with_reducible refine wE_op divOk ?_
  | with_reducible refine wE_op powOk ?_
  | with_reducible refine wE_op ltOk ?_
  | with_reducible refine wE_op leOk ?_
  | with_reducible refine wE_op gtOk ?_
  | with_reducible refine wE_op geOk ?_
  | with_reducible refine wE_op isOk ?_
  | with_reducible refine wE_op isNotOk ?_
  | with_reducible refine wE_op ixOk ?_
  | with_reducible refine wE_un negOk ?_
  | with_reducible refine wE_cb intOk ?_
  | with_reducible refine wE_cb absOk ?_
  | with_reducible refine wE_cb maxOk ?_
  | with_reducible refine wE_cb minOk ?_
  | with_reducible refine wE_cb lenOk ?_
  | with_reducible refine wE_cb sumOk ?_
  | with_reducible refine wE_cb allOk ?_
  | with_reducible refine wE_cb dvmOk ?_
  | with_reducible refine wE_sl ?_
  | with_reducible refine wO_none ?_
  | with_reducible refine wO_some ?_
  | with_reducible refine wE_tup ?_
  | with_reducible refine wE_lstD ?_
  | with_reducible refine wE_listD ?_
  | refine gIxT 0 rfl rfl ?_
  | refine gIxT 1 rfl rfl ?_
  | refine And.intro (sm1000 (Nat.le_of_ble_eq_true rfl)) ?_
  | with_reducible refine wE_if ?_
  | with_reducible refine wE_int ?_
  | with_reducible refine wE_bl ?_
  | with_reducible refine wE_str ?_
  | with_reducible refine wE_non ?_
  | refine wE_x rfl ?_
  | refine wE_v rfl ?_
  | with_reducible refine wA_cons ?_
  | with_reducible refine wA_nil ?_
  | with_reducible refine gAdd ?_
  | with_reducible refine gSub ?_
  | with_reducible refine gMulL (by omega) (by omega) ?_
  | with_reducible refine gMulR (by omega) (by omega) ?_
  | with_reducible refine gMod (by omega) ?_
  | with_reducible refine gDiv (by omega) (by omega) ?_
  | with_reducible refine gPow (by omega) (by omega) (by omega) ?_
  | with_reducible refine gLt ?_
  | with_reducible refine gLe ?_
  | with_reducible refine gGt ?_
  | with_reducible refine gGe ?_
  | with_reducible refine gNeg ?_
  | with_reducible refine gInt ?_
  | with_reducible refine gAbs ?_
  | with_reducible refine gMax ?_
  | with_reducible refine gMin ?_
  | with_reducible refine gLenL ?_
  | with_reducible refine gLenT ?_
  | with_reducible refine gSlL ?_
  | with_reducible refine gSlT ?_
  | (with_reducible intro (_ : V))
  | with_reducible refine Exists.intro _ (And.intro (rfl : T.bl _ = T.bl _) ?_)
  | with_reducible refine Exists.intro _ (And.intro (rfl : T.int _ = T.int _) ?_)
  | with_reducible refine Exists.intro _ (And.intro (rfl : truT (T.bl _) = some _) ?_)))
section
variable {d : Nat} {a b c e : T}
theorem dT2 (h1 : Dat 130 d a) (h2 : Dat 130 d b) : Dat 130 (d + 1) (.tup [a, b]) := .tup (by show 2 ≤ 130; decide) fun t h => by
  simp only [List.mem_cons, List.not_mem_nil, or_false] at h
  rcases h with rfl | rfl <;> assumption
theorem dT3 (h1 : Dat 130 d a) (h2 : Dat 130 d b) (h3 : Dat 130 d c) : Dat 130 (d + 1) (.tup [a, b, c]) := .tup (by show 3 ≤ 130; decide) fun t h => by
  simp only [List.mem_cons, List.not_mem_nil, or_false] at h
  rcases h with rfl | rfl | rfl <;> assumption
theorem dTn {ts : List T} (hl : ts.length ≤ 130) (h : ∀ t ∈ ts, Dat 130 d t) : Dat 130 (d + 1) (.tup ts) := .tup hl h
theorem dLn {ts : List T} (hl : ts.length ≤ 130) (h : ∀ t ∈ ts, Dat 130 d t) : Dat 130 (d + 1) (.lst ts) := .lst hl h
theorem dI {ns : List Int} : ∀ t ∈ ns.map T.int, Dat 130 (d + 1) t := fun t h => by
  obtain ⟨n, _, rfl⟩ := List.mem_map.mp h
  exact .int n
theorem dO (o : Option Nat) : Dat 130 (d + 1) (optN o) := by cases o; exact .non; exact .int _
end
theorem asc_lenL : ∀ (c : List Int) (l m : Int), c.Pairwise (· < ·) → (∀ y ∈ c, l ≤ y ∧ y ≤ m) → (c.length : Int) ≤ max 0 (m - l + 1)
  | [], l, m, _, _ => by simp only [List.length_nil]; omega
  | a :: c, l, m, hp, hb => by
    rw [List.pairwise_cons] at hp
    have := asc_lenL c (a + 1) m hp.2 fun y hy => ⟨by have := hp.1 y hy; omega, (hb y (List.mem_cons_of_mem _ hy)).2⟩
    have h1 := hb a (List.mem_cons_self ..)
    rw [List.length_cons]
    omega
theorem FrOk.len {h r a : Nat} {c : List Int} (f : FrOk h r a c) (hh : h ≤ 3) (hr : r ≤ 3) : c.length ≤ 6 := by
  have := asc_lenL c (-(r : Int)) ((h : Int) - 1) f.as f.bt
  omega
end K09
set_option maxHeartbeats 4000000
namespace K09
open PySem PySem.Spec PyProof.Rows L2 TL TC TD
local macro_rules | `(tactic| walk_at "wk") => `(tactic| repeat' (first
  | with_reducible refine wS_seq ?_
  | with_reducible refine wS_if ?_
  | with_reducible refine wS_next ?_
  | with_reducible refine wS_aug rfl ipOk ?_
  | with_reducible refine wT_not ?_
  | with_reducible refine wT_and ?_
  | with_reducible refine wT_or ?_
  | with_reducible refine wT_test ?_
  | with_reducible refine wT_tru ?_
  | with_reducible refine wT_yes ?_
  | with_reducible refine wE_op addOk ?_
  | with_reducible refine wE_op subOk ?_
  | with_reducible refine wE_op mulOk ?_
  | with_reducible refine wE_op modOk ?_
  | with_reducible refine wE_op divOk ?_
  | with_reducible refine wE_op powOk ?_
  | with_reducible refine wE_op ltOk ?_
  | with_reducible refine wE_op leOk ?_
  | with_reducible refine wE_op gtOk ?_
  | with_reducible refine wE_op geOk ?_
  | with_reducible refine wE_op isOk ?_
  | with_reducible refine wE_op isNotOk ?_
  | with_reducible refine wE_op ixOk ?_
  | with_reducible refine wE_un negOk ?_
  | with_reducible refine wE_cb intOk ?_
  | with_reducible refine wE_cb absOk ?_
  | with_reducible refine wE_cb maxOk ?_
  | with_reducible refine wE_cb minOk ?_
  | with_reducible refine wE_cb lenOk ?_
  | with_reducible refine wE_cb sumOk ?_
  | with_reducible refine wE_cb allOk ?_
  | with_reducible refine wE_cb dvmOk ?_
  | with_reducible refine wE_sl ?_
  | with_reducible refine wO_none ?_
  | with_reducible refine wO_some ?_
  | with_reducible refine wE_tup ?_
  | with_reducible refine wE_lstD ?_
  | with_reducible refine wE_listD ?_
  | refine gIxT 0 rfl rfl ?_
  | refine gIxT 1 rfl rfl ?_
  | refine And.intro (sm1000 (Nat.le_of_ble_eq_true rfl)) ?_
  | with_reducible refine wE_if ?_
  | with_reducible refine wE_int ?_
  | with_reducible refine wE_bl ?_
  | with_reducible refine wE_str ?_
  | with_reducible refine wE_non ?_
  | refine wE_x rfl ?_
  | refine wE_v rfl ?_
  | with_reducible refine wA_cons ?_
  | with_reducible refine wA_nil ?_
  | with_reducible refine gAdd ?_
  | with_reducible refine gSub ?_
  | with_reducible refine gMulL (by omega) (by omega) ?_
  | with_reducible refine gMulR (by omega) (by omega) ?_
  | with_reducible refine gMod (by omega) ?_
  | with_reducible refine gDiv (by omega) (by omega) ?_
  | with_reducible refine gPow (by omega) (by omega) (by omega) ?_
  | with_reducible refine gLt ?_
  | with_reducible refine gLe ?_
  | with_reducible refine gGt ?_
  | with_reducible refine gGe ?_
  | with_reducible refine gNeg ?_
  | with_reducible refine gInt ?_
  | with_reducible refine gAbs ?_
  | with_reducible refine gMax ?_
  | with_reducible refine gMin ?_
  | with_reducible refine gLenL ?_
  | with_reducible refine gLenT ?_
  | with_reducible refine gSlL ?_
  | with_reducible refine gSlT ?_
  | (with_reducible intro (_ : V))
  | with_reducible refine Exists.intro _ (And.intro (rfl : T.bl _ = T.bl _) ?_)
  | with_reducible refine Exists.intro _ (And.intro (rfl : T.int _ = T.int _) ?_)
  | with_reducible refine Exists.intro _ (And.intro (rfl : truT (T.bl _) = some _) ?_)))
section
variable {E : WX} {X : XP} {ρ : TL.Env} {t u : TS} {P : Post}
/-- a statement by what holds behind it -/
theorem wS_seqI (Iv : TL.Env → Prop) (h : wS E X t ρ { P with nx := Iv }) (k : ∀ ρ1, Iv ρ1 → wS E X u ρ1 P) : wS E X (tSeq t u) ρ P :=
  wS_seq fun b G H σ D S kd ke => h b G H σ D S ⟨fun ρ' σ' G' H' p S' l => kd.nx ρ' σ' G' H' (k ρ' p) S' l, kd.rt, kd.rf, kd.bk, kd.ct⟩ ke
end
end K09
set_option maxHeartbeats 4000000
namespace TD
open PySem PySem.Spec PyProof.Rows L2 TL TC
theorem btw_of {i l m : Int} (h1 : l ≤ i) (h2 : i ≤ m) : btw (.int i) l m = true := by
  show (decide (l ≤ i) && decide (i ≤ m)) = true
  rw [decide_eq_true h1, decide_eq_true h2]; rfl
theorem nats_btw {p : Nat} {cs : List Nat} (h : ∀ k ∈ cs, k < p) : ((natsT cs).all fun y => btw y 0 ((p : Int) - 1)) = true := by
  refine List.all_eq_true.mpr fun y my => ?_
  obtain ⟨k, mk, rfl⟩ := List.mem_map.mp my
  have := h k mk
  exact btw_of (by omega) (by omega)
theorem row_of {p n : Nat} {cs : List Nat} (h : ∀ k ∈ cs, k < p) (l : cs.length = n) : rowB (.tup (natsT cs)) n p = true := by
  show (decide (((natsT cs).length : Int) = n) && _) = true
  rw [nats_btw h, natsT_len, l, decide_eq_true rfl]; rfl
section
variable {K : PySem.W.Frag} {E : WX} {X : XP} {ρ : TL.Env} {te ta tb : TE} {Φ : V → T → TL.Env → Prop} {i : Nat} {P : Post} {u : V} {ws : List V} {xs : List T}
/-- args[j], the very value -/
theorem wE_ixA {x : T} {w : V} (j : Nat) (n : Int) (hn : n = (j : Int)) (e : ρ[i]? = some (.x u (dgL ws xs))) (hw : ws[j]? = some w) (hx : xs[j]? = some x) (h : Φ w x ρ) : wE E X (tOp (rIx K) (tVar i) (tC (.int n))) ρ Φ := fun b G H σ Q S q ke => by
  subst hn
  obtain ⟨a, G0, l0, A, rfl, hA, rL⟩ := S.ex i _ _ e
  obtain ⟨w', hw', rw'⟩ := rL.getT hx
  rw [hw] at hw'
  cases hw'
  exact ⟨_, a, .inl ⟨A, ws, _, w, rfl, rfl, SqL.of (S.gh _ _ (l0 _ _ hA)), atI_nat hw, q w x ρ G H h (rw'.up l0) S Le.rfl⟩⟩
end
theorem perm2 {α : Type} (a b : α) : perm [1, 0] [a, b] = [b, a] := rfl
end TD
set_option maxHeartbeats 4000000
namespace K09
open PySem PySem.Spec PyProof.Rows L2 TL TC TD
theorem asc_pw : ∀ ns : List Int, ascT (ns.map T.int) = true ↔ ns.Pairwise (· < ·)
  | [] => ⟨fun _ => .nil, fun _ => rfl⟩
  | [a] => ⟨fun _ => List.pairwise_singleton .., fun _ => rfl⟩
  | a :: b :: r => by
    have ih := asc_pw (b :: r)
    show (decide (a < b) && ascT ((b :: r).map T.int)) = true ↔ _
    rw [Bool.and_eq_true, ih, decide_eq_true_eq]
    constructor
    · rintro ⟨h1, h2⟩
      rw [List.pairwise_cons] at h2 ⊢
      refine ⟨fun y hy => ?_, by rw [List.pairwise_cons]; exact h2⟩
      rcases List.mem_cons.mp hy with rfl | hy
      · exact h1
      · have := h2.1 y hy; omega
    · intro h
      rw [List.pairwise_cons] at h
      exact ⟨h.1 b (List.mem_cons_self ..), h.2⟩
theorem moB_to {m : Mo} {h r : Nat} (o : MoOk h r m) : moB (moT m) h r = true := by
  have e1 : rowB (.tup (natsT m.tk)) h 5 = true := row_of (p := 5) (fun k hk => by have := o.tk k hk; omega) o.len
  have e2 : (isNonT (frT m.fr) || frB (frT m.fr) h r) = true := by
    cases e : m.fr with
    | none => rfl
    | some f =>
      obtain ⟨a, c⟩ := f
      have k := o.fr a c e
      have e3 : btw (.int (a : Int)) 0 ((h : Int) - 1) = true := btw_of (by omega) (by have := k.al; omega)
      have e4 : subB (.tup (c.map T.int)) (-(r : Int)) ((h : Int) - 1) = true := by
        show ((c.map T.int).all (fun y => btw y (-(r : Int)) ((h : Int) - 1)) && ascT (c.map T.int)) = true
        rw [(asc_pw c).mpr k.as, Bool.and_true, List.all_map, List.all_eq_true]
        exact fun y hy => btw_of (k.bt y hy).1 (k.bt y hy).2
      have e5 : (itemsOf (.tup (c.map T.int))).isEmpty = false := by
        show (c.map T.int).isEmpty = false
        rw [List.isEmpty_map]
        cases c with
        | nil => exact absurd rfl k.ne
        | cons => rfl
      have e6 : memT (.int (a : Int)) (.tup (c.map T.int)) = false := by
        cases z : memT (.int (a : Int)) (.tup (c.map T.int)) with
        | false => rfl
        | true =>
          unfold memT at z
          obtain ⟨y, hy, q⟩ := List.any_eq_true.mp z
          obtain ⟨n, hn, rfl⟩ := List.mem_map.mp (show y ∈ c.map T.int from hy)
          have : n = (a : Int) := of_decide_eq_true q
          exact absurd (this ▸ hn) k.no
      show (false || (btw (.int (a : Int)) 0 ((h : Int) - 1) && (subB (.tup (c.map T.int)) (-(r : Int)) ((h : Int) - 1) && (!(itemsOf (.tup (c.map T.int))).isEmpty && !memT (.int (a : Int)) (.tup (c.map T.int)))))) = true
      rw [e3, e4, e5, e6]
      rfl
  have e3 : (isNonT (optN m.wd) || btw (optN m.wd) 0 8) = true := by
    cases e : m.wd with
    | none => rfl
    | some w =>
      have h8 := o.wd w e
      exact (btw_of (i := (w : Int)) (by omega) (by omega) : btw (.int (w : Int)) 0 8 = true)
  show (rowB (.tup (natsT m.tk)) h 5 && ((isNonT (frT m.fr) || frB (frT m.fr) h r) && (isNonT (optN m.wd) || btw (optN m.wd) 0 8))) = true
  rw [e1, e2, e3]
  rfl
end K09
set_option maxHeartbeats 4000000
namespace TD
open PySem PySem.Spec PyProof.Rows L2 TL TC
theorem cut_to {α : Type} (xs : List α) (a : Nat) : cutT xs none (some (a : Int)) = xs.take a := by
  unfold cutT
  rw [HT.sIx_none, HT.sIx_nat, List.drop_zero, Nat.sub_zero]
  by_cases h : a ≤ xs.length
  · rw [Nat.min_eq_left h]
  · rw [Nat.min_eq_right (by omega), List.take_length, List.take_of_length_le (by omega)]
theorem cut_from {α : Type} (xs : List α) (a : Nat) : cutT xs (some (a : Int)) none = xs.drop a := by
  unfold cutT
  rw [HT.sIx_none, HT.sIx_nat]
  by_cases h : a ≤ xs.length
  · rw [Nat.min_eq_left h, List.take_of_length_le (by rw [List.length_drop]; omega)]
  · rw [Nat.min_eq_right (by omega), List.drop_length, List.drop_of_length_le (by omega), List.take_nil]
end TD
set_option maxHeartbeats 4000000
namespace K09
open PySem PySem.Spec PyProof.Rows L2 TL TC TD
local macro_rules | `(tactic| walk_at "wk") => `(tactic| repeat' (first
  | with_reducible refine wS_seq ?_
  | with_reducible refine wS_if ?_
  | with_reducible refine wS_next ?_
  | with_reducible refine wS_aug rfl ipOk ?_
  | with_reducible refine wT_not ?_
  | with_reducible refine wT_and ?_
  | with_reducible refine wT_or ?_
  | with_reducible refine wT_test ?_
  | with_reducible refine wT_tru ?_
  | with_reducible refine wT_yes ?_
  | with_reducible refine wE_op addOk ?_
  | with_reducible refine wE_op subOk ?_
  | with_reducible refine wE_op mulOk ?_
  | with_reducible refine wE_op modOk ?_
  | with_reducible refine wE_op divOk ?_
  | with_reducible refine wE_op powOk ?_
  | with_reducible refine wE_op ltOk ?_
  | with_reducible refine wE_op leOk ?_
  | with_reducible refine wE_op gtOk ?_
  | with_reducible refine wE_op geOk ?_
  | with_reducible refine wE_op isOk ?_
  | with_reducible refine wE_op isNotOk ?_
  | with_reducible refine wE_op ixOk ?_
  | with_reducible refine wE_un negOk ?_
  | with_reducible refine wE_cb intOk ?_
  | with_reducible refine wE_cb absOk ?_
  | with_reducible refine wE_cb maxOk ?_
  | with_reducible refine wE_cb minOk ?_
  | with_reducible refine wE_cb lenOk ?_
  | with_reducible refine wE_cb sumOk ?_
  | with_reducible refine wE_cb allOk ?_
  | with_reducible refine wE_cb dvmOk ?_
  | with_reducible refine wE_sl ?_
  | with_reducible refine wO_none ?_
  | with_reducible refine wO_some ?_
  | with_reducible refine wE_tup ?_
  | with_reducible refine wE_lstD ?_
  | with_reducible refine wE_listD ?_
  | refine gIxT 0 rfl rfl ?_
  | refine gIxT 1 rfl rfl ?_
  | refine And.intro (sm1000 (Nat.le_of_ble_eq_true rfl)) ?_
  | with_reducible refine wE_if ?_
  | with_reducible refine wE_int ?_
  | with_reducible refine wE_bl ?_
  | with_reducible refine wE_str ?_
  | with_reducible refine wE_non ?_
  | refine wE_x rfl ?_
  | refine wE_v rfl ?_
  | with_reducible refine wA_cons ?_
  | with_reducible refine wA_nil ?_
  | with_reducible refine gAdd ?_
  | with_reducible refine gSub ?_
  | with_reducible refine gMulL (by omega) (by omega) ?_
  | with_reducible refine gMulR (by omega) (by omega) ?_
  | with_reducible refine gMod (by omega) ?_
  | with_reducible refine gDiv (by omega) (by omega) ?_
  | with_reducible refine gPow (by omega) (by omega) (by omega) ?_
  | with_reducible refine gLt ?_
  | with_reducible refine gLe ?_
  | with_reducible refine gGt ?_
  | with_reducible refine gGe ?_
  | with_reducible refine gNeg ?_
  | with_reducible refine gInt ?_
  | with_reducible refine gAbs ?_
  | with_reducible refine gMax ?_
  | with_reducible refine gMin ?_
  | with_reducible refine gLenL ?_
  | with_reducible refine gLenT ?_
  | with_reducible refine gSlL ?_
  | with_reducible refine gSlT ?_
  | (with_reducible intro (_ : V))
  | with_reducible refine Exists.intro _ (And.intro (rfl : T.bl _ = T.bl _) ?_)
  | with_reducible refine Exists.intro _ (And.intro (rfl : T.int _ = T.int _) ?_)
  | with_reducible refine Exists.intro _ (And.intro (rfl : truT (T.bl _) = some _) ?_)))
theorem gAddL {xs ys : List T} {k : T → Prop} (hl : xs.length + ys.length ≤ 1000) (h : k (.lst (xs ++ ys))) : fAdd (.lst xs) (.lst ys) k := ⟨sm1000 hl, h⟩
end K09
set_option maxHeartbeats 4000000
namespace TD
open PySem PySem.Spec PyProof.Rows L2 TL TC
def exCls : List Str := ["InvalidPrime", "InvalidLetter", "NoInverse", "InvalidSize", "InvalidRow", "InvalidRows"]
section
variable {K : PySem.W.Frag} {E : WX} {X : XP} {ρ : TL.Env} {te ta tb : TE} {Φ : V → T → TL.Env → Prop} {Ψ : List T → TL.Env → Prop} {i : Nat} {P : Post} {ws : List V} {xs : List T}
theorem wE_callA {door : Int} {c : Bool} {t : TA} (h : wA E X t ρ fun vs ts ρ1 => ts = [.int door, dgL ws xs, .bl c] ∧ ArgsOk 130 door xs ∧ (∀ t, ans door xs = .told t → ∀ v, Φ v t ρ1) ∧ ∀ er, errA K ws (ans door xs) er → X er ρ1) :
    wE E X (tCallS (sp_law_call K) (WE E) t) ρ Φ := fun b G H σ Q S q ke =>
  h b G H σ _ S (fun vs ts ρ1 G1 H1 ⟨e, h1, h2, h3⟩ r1 S1 l1 => by
    subst e
    obtain ⟨v, r1, rfl, a1, w, r2, rfl, a2, x, r3, rfl, a3, rfl⟩ := r1
    cases a1; cases a3
    obtain ⟨G0, l0, A, rfl, hA, rL⟩ := a2
    exact ⟨door, xs, ws, A, c, G1, rfl, l0 _ _ hA, rL.up l0, S1.gh, h1, fun t v G' H' e r g => q v t ρ1 G' H' (h2 t e v) r (S1.grow g) (l1.tr g.g), fun er od G' H' p a g => ke er ρ1 od G' H' (h3 er p) a (S1.grow g) (l1.tr g.g)⟩) ke
theorem wSuite_wordR {c : Value} {er : Er} {w f : Str} {fs : List (Str × V)} {u : V} {C : Addr} (hC : er.C = C) (hf : er.fs = some fs) (hl : fs.lookup f = some u) (hi : i < ρ.length) (hP : P.rf [.str w, .raw u] ρ) :
    wSuite (c, some i, fun a cls d => tRet (tLst (tCons (tC (.str w)) (tCons (tXf a cls d C f (tVar i)) tNil)))) er ρ P := fun a od b G H σ D S ha hn k => by
  subst hC
  rw [hf] at ha
  obtain ⟨d, rfl, hd⟩ := ha
  show tRet (tLst (tCons (tC (.str w)) (tCons (tXf a (.ref er.C) (some d) er.C f (tVar i)) tNil))) (endsBut i D) (σ.set i (some (.ref a))) H
  refine ⟨_, set_get (by rw [S.len]; exact hi), rfl, rfl, d, fs, u, rfl, hd, hl, by show 2 ≤ sizeLine; decide, fun p hp => ?_⟩
  have gp := S.gh.back hp
  have lh : Le H (upd H p (.lst [V.str w, u])) := Le.new hp
  exact k.rf p [V.str w, u] [.str w, .raw u] ρ σ G _ hP (fun Qd e => by
    obtain ⟨_, _, _, h2, _⟩ := S.own _ p Qd e
    rw [hp] at h2; cases h2) upd_same gp (S.bh.back hp) ⟨_, _, rfl, rfl, _, _, rfl, rfl, rfl⟩ (S.le lh) Le.rfl
theorem r_law_ask (XM : ∀ x ∈ exCls, ∀ y ∈ exCls, PySem.W.exmOne K (.ref (He.ga K x)) (.ref (He.ga K y)) = some (x == y)) (vs : List V) (H : Hp) (Q : VK) (E : XK) (h : sp_law_ask K vs H Q E) : t_law_ask K E { nx := fun _ H' => Q .non H', rt := Q } (L2.start N_law_ask vs) H := by
  obtain ⟨d, xs, ws, A, c, G, rfl, hA, rL, gh, ok, k⟩ := h
  have S : Sta ⟨H, G⟩ G H (L2.start N_law_ask [.int d, .ref A, .bl c]) (envOf N_law_ask.length [.int d, .ref A, .bl c] [.int d, dgL ws xs, .bl c]) :=
    sta_start Le.rfl Le.rfl gh (fun _ _ h => h) ⟨_, _, rfl, rfl, _, _, rfl, ⟨G, fun _ _ h => h, A, rfl, hA, rL⟩, _, _, rfl, rfl, rfl⟩
  have gr : ∀ {G' H' : Hp} {σ' : L2.St} {ρ' : TL.Env}, Sta ⟨H, G⟩ G' H' σ' ρ' → Grow G H G' H' := fun S' => ⟨S'.g0, S'.bh, S'.gh, S'.fr⟩
  have xm : ∀ x y c, x ∈ exCls → y ∈ exCls → (x == y) = c → PySem.W.exmOne K (.ref (He.ga K x)) (.ref (He.ga K y)) = some c := fun x y c h1 h2 e => by rw [← e]; exact XM x h1 y h2
  have body : wS (WD E) (fun _ _ => False) (t_law_ask K E) [.x (.int d) (.int d), .x (.ref A) (dgL ws xs), .x (.bl c) (.bl c), .no] { rf := fun us _ => us = ansV ws (ans d xs) } := by
    unfold t_law_ask
    refine wS_try (fun er ρ' => errA K ws (ans d xs) er ∧ ρ' = [.x (.int d) (.int d), .x (.ref A) (dgL ws xs), .x (.bl c) (.bl c), .no]) (fun W => ?_) fun er ρ' ⟨h1, h2⟩ => ?_
    · refine wS_retF (wF_lst (wA_cons (wE_str (wA_cons (wE_callA (wA_cons (wE_x rfl (wA_cons (wE_x rfl (wA_cons (wE_x rfl (wA_nil ⟨rfl, ok, fun t e v => wA_nil ⟨by show 2 ≤ sizeLine; decide, ?_⟩, fun er e => ⟨e, rfl⟩⟩))))))))))))
      rw [e]; rfl
    · subst h2
      cases z : ans d xs with
      | told t => rw [z] at h1; exact h1.elim
      | zero =>
        rw [z] at h1
        have h1 : er = ⟨He.ga K "NoInverse", none⟩ := h1
        subst h1
        refine ⟨false, xm "NoInverse" "InvalidPrime" _ (by decide) (by decide) (by decide), (fun e => nomatch e), fun _ => ⟨false, xm "NoInverse" "InvalidLetter" _ (by decide) (by decide) (by decide), (fun e => nomatch e), fun _ => ⟨true, xm "NoInverse" "NoInverse" _ (by decide) (by decide) (by decide), fun _ => wSuite_plain ?_, (fun e => nomatch e)⟩⟩⟩
        exact wS_retF (wF_lst (wA_cons (wE_str (wA_cons (wE_non (wA_nil ⟨by show 2 ≤ sizeLine; decide, rfl⟩))))))
      | giv w j =>
        rw [z] at h1
        have h1 : er = er1 K w.cls ((ws[j]?).getD .non) := h1
        subst h1
        cases w with
        | prime => exact ⟨true, xm "InvalidPrime" "InvalidPrime" _ (by decide) (by decide) (by decide), fun _ => wSuite_wordR (u := (ws[j]?).getD .non) rfl rfl rfl (by show 3 < 4; decide) rfl, (fun e => nomatch e)⟩
        | letter => exact ⟨false, xm "InvalidLetter" "InvalidPrime" _ (by decide) (by decide) (by decide), (fun e => nomatch e), fun _ => ⟨true, xm "InvalidLetter" "InvalidLetter" _ (by decide) (by decide) (by decide), fun _ => wSuite_wordR (u := (ws[j]?).getD .non) rfl rfl rfl (by show 3 < 4; decide) rfl, (fun e => nomatch e)⟩⟩
        | size => exact ⟨false, xm "InvalidSize" "InvalidPrime" _ (by decide) (by decide) (by decide), (fun e => nomatch e), fun _ => ⟨false, xm "InvalidSize" "InvalidLetter" _ (by decide) (by decide) (by decide), (fun e => nomatch e), fun _ => ⟨false, xm "InvalidSize" "NoInverse" _ (by decide) (by decide) (by decide), (fun e => nomatch e), fun _ => ⟨true, xm "InvalidSize" "InvalidSize" _ (by decide) (by decide) (by decide), fun _ => wSuite_wordR (u := (ws[j]?).getD .non) rfl rfl rfl (by show 3 < 4; decide) rfl, (fun e => nomatch e)⟩⟩⟩⟩
        | row => exact ⟨false, xm "InvalidRow" "InvalidPrime" _ (by decide) (by decide) (by decide), (fun e => nomatch e), fun _ => ⟨false, xm "InvalidRow" "InvalidLetter" _ (by decide) (by decide) (by decide), (fun e => nomatch e), fun _ => ⟨false, xm "InvalidRow" "NoInverse" _ (by decide) (by decide) (by decide), (fun e => nomatch e), fun _ => ⟨false, xm "InvalidRow" "InvalidSize" _ (by decide) (by decide) (by decide), (fun e => nomatch e), fun _ => ⟨true, xm "InvalidRow" "InvalidRow" _ (by decide) (by decide) (by decide), fun _ => wSuite_wordR (u := (ws[j]?).getD .non) rfl rfl rfl (by show 3 < 4; decide) rfl, (fun e => nomatch e)⟩⟩⟩⟩⟩
        | rows => exact ⟨false, xm "InvalidRows" "InvalidPrime" _ (by decide) (by decide) (by decide), (fun e => nomatch e), fun _ => ⟨false, xm "InvalidRows" "InvalidLetter" _ (by decide) (by decide) (by decide), (fun e => nomatch e), fun _ => ⟨false, xm "InvalidRows" "NoInverse" _ (by decide) (by decide) (by decide), (fun e => nomatch e), fun _ => ⟨false, xm "InvalidRows" "InvalidSize" _ (by decide) (by decide) (by decide), (fun e => nomatch e), fun _ => ⟨false, xm "InvalidRows" "InvalidRow" _ (by decide) (by decide) (by decide), (fun e => nomatch e), fun _ => ⟨true, xm "InvalidRows" "InvalidRows" _ (by decide) (by decide) (by decide), fun _ => wSuite_wordR (u := (ws[j]?).getD .non) rfl rfl rfl (by show 3 < 4; decide) rfl, (fun e => nomatch e)⟩⟩⟩⟩⟩⟩
  exact body ⟨H, G⟩ G H _ _ S ⟨fun _ _ _ _ p => p.elim, fun _ _ _ _ _ _ p => p.elim, fun p vs ts ρ' σ' G' H' po _ hp gp bp rr S' _ => k p vs G' H' hp gp bp (by rw [← show ts = _ from po]; exact rr) (gr S'), fun _ _ _ _ p => p.elim, fun _ _ _ _ p => p.elim⟩ fun σ er ρ' od G' H' x a S' _ => x.elim
end
end TD
set_option maxHeartbeats 4000000
namespace K09
open PySem PySem.Spec PyProof.Rows L2 TL TC TD
def exCls : List Str := ["InvalidHouses", "InvalidReaders", "InvalidMoments", "InvalidBack"]
theorem perm4 {α : Type} (a b c d : α) : perm [3, 2, 1, 0] [a, b, c, d] = [d, c, b, a] := rfl
/-- what is refused is one of four -/
theorem bad_four {x s m k : T} {q : Str × Str × Nat} (h : badS x s m k = some q) : q = ((("houses" : Str)), (("InvalidHouses" : Str)), 0) ∨ q = (("readers" : Str), ("InvalidReaders" : Str), 1) ∨ q = (("moments" : Str), ("InvalidMoments" : Str), 2) ∨ q = (("back" : Str), ("InvalidBack" : Str), 3) := by
  unfold badS at h
  split at h
  · split at h
    · split at h
      · split at h
        · cases h
        · cases h; exact .inr (.inr (.inr rfl))
      · cases h; exact .inr (.inr (.inl rfl))
    · cases h; exact .inr (.inl rfl)
  · cases h; exact .inl rfl
theorem r_law_made {K : PySem.W.Frag} (XM : ∀ x ∈ exCls, ∀ y ∈ exCls, PySem.W.exmOne K (.ref (He.ga K x)) (.ref (He.ga K y)) = some (x == y)) (vs : List V) (H : Hp) (Q : VK) (E : XK) (h : sp_law_made K vs H Q E) : t_law_made K E { nx := fun _ H' => Q .non H', rt := Q } (L2.start N_law_made vs) H := by
  obtain ⟨x, s, m, k, ws, A, c, G, rfl, hA, rL, gh, dx, ds, dm, dk, kk⟩ := h
  have lw := rL.len
  match ws, lw with
  | [w0, w1, w2, w3], _ =>
  have S : Sta ⟨H, G⟩ G H (L2.start N_law_made [.ref A, .bl c]) (envOf N_law_made.length [.ref A, .bl c] [dgL [w0, w1, w2, w3] [x, s, m, k], .bl c]) :=
    sta_start Le.rfl Le.rfl gh (fun _ _ h => h) ⟨_, _, rfl, ⟨G, fun _ _ h => h, A, rfl, hA, rL⟩, _, _, rfl, rfl, rfl⟩
  have gr : ∀ {G' H' : Hp} {σ' : L2.St} {ρ' : TL.Env}, Sta ⟨H, G⟩ G' H' σ' ρ' → Grow G H G' H' := fun S' => ⟨S'.g0, S'.bh, S'.gh, S'.fr⟩
  have xm : ∀ x y c, x ∈ exCls → y ∈ exCls → (x == y) = c → PySem.W.exmOne K (.ref (He.ga K x)) (.ref (He.ga K y)) = some c := fun x y c h1 h2 e => by rw [← e]; exact XM x h1 y h2
  have told : ∀ zs, (∀ x' s' m' k', [x, s, m, k] = [x', s', m', k'] → badS x' s' m' k' = none ∧ zs = [x', s', .tup (itemsOf m'), k']) → [T.str "told", .ins (skC K) skF zs] = madV K [w0, w1, w2, w3] x s m k := fun zs h => by
    obtain ⟨h1, h2⟩ := h x s m k rfl
    unfold madV
    rw [h1, h2]
  have body : wS (WD E) (fun _ _ => False) (t_law_made K E) [.x (.ref A) (dgL [w0, w1, w2, w3] [x, s, m, k]), .x (.bl c) (.bl c), .no] { rf := fun us _ => us = madV K [w0, w1, w2, w3] x s m k } := by
    unfold t_law_made
    refine wS_try (fun er ρ' => (∃ w cc j, badS x s m k = some (w, cc, j) ∧ er = er1 K cc (([w0, w1, w2, w3][j]?).getD .non)) ∧ ρ' = [.x (.ref A) (dgL [w0, w1, w2, w3] [x, s, m, k]), .x (.bl c) (.bl c), .no]) (fun W => ?_) fun er ρ' ⟨⟨w, cc, j, h1, h2⟩, h3⟩ => ?_
    · have a0 : ([.x (.ref A) (dgL [w0, w1, w2, w3] [x, s, m, k]), .x (.bl c) (.bl c), .no] : TL.Env)[0]? = some (.x (.ref A) (dgL [w0, w1, w2, w3] [x, s, m, k])) := rfl
      refine wS_seq (wS_if (wT_tru (wE_x rfl ⟨_, rfl, ite_c (fun _ => ?_) fun _ => wS_next ?_⟩)))
      · refine wS_retF (wF_lst (wA_cons (wE_str (wA_cons (wE_make (wA_perm (wA_cons (wE_ixA 3 3 rfl a0 rfl rfl (wA_cons (wE_ixA 2 2 rfl a0 rfl rfl (wA_cons (wE_ixA 1 1 rfl a0 rfl rfl (wA_cons (wE_ixA 0 0 rfl a0 rfl rfl (wA_nil ⟨rfl, ?_⟩)))))))))))))))
        rw [perm4, perm4]
        exact ⟨⟨x, s, m, k, rfl, dx, ds, dm, dk⟩, fun zs v po => wA_nil ⟨by show 2 ≤ sizeLine; decide, told zs po⟩, fun er xc => ⟨xc x s m k rfl, rfl⟩⟩
      · exact wS_retF (wF_lst (wA_cons (wE_str (wA_cons (wE_make (wA_cons (wE_ixA 0 0 rfl a0 rfl rfl (wA_cons (wE_ixA 1 1 rfl a0 rfl rfl (wA_cons (wE_ixA 2 2 rfl a0 rfl rfl (wA_cons (wE_ixA 3 3 rfl a0 rfl rfl (wA_nil ⟨⟨x, s, m, k, rfl, dx, ds, dm, dk⟩, fun zs v po => wA_nil ⟨by show 2 ≤ sizeLine; decide, told zs po⟩, fun er xc => ⟨xc x s m k rfl, rfl⟩⟩))))))))))))))
    · subst h3 h2
      have mv : [T.str w, .raw (([w0, w1, w2, w3][j]?).getD .non)] = madV K [w0, w1, w2, w3] x s m k := by unfold madV; rw [h1]
      rcases bad_four h1 with q | q | q | q <;> cases q
      · exact ⟨true, xm "InvalidHouses" "InvalidHouses" _ (by decide) (by decide) (by decide), fun _ => wSuite_wordR (u := w0) rfl rfl rfl (by show 2 < 3; decide) mv, (fun e => nomatch e)⟩
      · exact ⟨false, xm "InvalidReaders" "InvalidHouses" _ (by decide) (by decide) (by decide), (fun e => nomatch e), fun _ => ⟨true, xm "InvalidReaders" "InvalidReaders" _ (by decide) (by decide) (by decide), fun _ => wSuite_wordR (u := w1) rfl rfl rfl (by show 2 < 3; decide) mv, (fun e => nomatch e)⟩⟩
      · exact ⟨false, xm "InvalidMoments" "InvalidHouses" _ (by decide) (by decide) (by decide), (fun e => nomatch e), fun _ => ⟨false, xm "InvalidMoments" "InvalidReaders" _ (by decide) (by decide) (by decide), (fun e => nomatch e), fun _ => ⟨true, xm "InvalidMoments" "InvalidMoments" _ (by decide) (by decide) (by decide), fun _ => wSuite_wordR (u := w2) rfl rfl rfl (by show 2 < 3; decide) mv, (fun e => nomatch e)⟩⟩⟩
      · exact ⟨false, xm "InvalidBack" "InvalidHouses" _ (by decide) (by decide) (by decide), (fun e => nomatch e), fun _ => ⟨false, xm "InvalidBack" "InvalidReaders" _ (by decide) (by decide) (by decide), (fun e => nomatch e), fun _ => ⟨false, xm "InvalidBack" "InvalidMoments" _ (by decide) (by decide) (by decide), (fun e => nomatch e), fun _ => ⟨true, xm "InvalidBack" "InvalidBack" _ (by decide) (by decide) (by decide), fun _ => wSuite_wordR (u := w3) rfl rfl rfl (by show 2 < 3; decide) mv, (fun e => nomatch e)⟩⟩⟩⟩
  exact body ⟨H, G⟩ G H _ _ S ⟨fun _ _ _ _ p => p.elim, fun _ _ _ _ _ _ p => p.elim, fun p vs ts ρ' σ' G' H' po _ hp gp bp rr S' _ => kk p vs G' H' hp gp bp (by rw [← show ts = _ from po]; exact rr) (gr S'), fun _ _ _ _ p => p.elim, fun _ _ _ _ p => p.elim⟩ fun σ er ρ' od G' H' x a S' _ => x.elim
end K09
set_option maxHeartbeats 4000000
namespace TD
open PySem PySem.Spec PyProof.Rows L2 TL TC
/-- what a walk has made so far: each item in a part of its own -/
structure Its (G H1 : Hp) (D : Addr) (ts : List T) (ws : List V) (Fs : List Hp) : Prop where
  lw : ws.length = ts.length
  lf : Fs.length = ts.length
  it : ∀ (k : Nat) (t : T) (w : V) (F : Hp), ts[k]? = some t → ws[k]? = some w → Fs[k]? = some F → Rep F t w ∧ (∀ a o, F a = some o → (H1 a = none ∧ a ≠ D) ∨ ((∃ kv, o = .dK kv) ∧ G a = some o)) ∧ ∀ us, t = .lst us → ∃ A xs L, w = .ref A ∧ ArgsAt F us A xs L
  dis : ∀ (i k : Nat) (F F' : Hp) (a : Addr) (o : HO), i < k → Fs[i]? = some F → Fs[k]? = some F' → F a ≠ none → F' a = some o → ∃ kv, o = .dK kv
theorem Its.nil {G H1 : Hp} {D : Addr} : Its G H1 D [] [] [] := ⟨rfl, rfl, fun k t w F h => by simp at h, fun i k F F' a o _ h => by simp at h⟩
end TD
set_option maxHeartbeats 4000000
namespace TD
open PySem PySem.Spec PyProof.Rows L2 TL TC
def dgF (F : Hp) (A : Addr) : T := .abs fun G0 v => v = .ref A ∧ ∀ a o, F a = some o → G0 a = some o
theorem rep_dgF {G F : Hp} {A : Addr} {v : V} (h : Rep G (dgF F A) v) : v = .ref A ∧ Le F G := by
  obtain ⟨G0, l, e, h⟩ := h
  exact ⟨e, fun a o z => l _ _ (h a o z)⟩
theorem repL_of {G : Hp} : ∀ {us : List T} {xs : List V}, xs.length = us.length → (∀ (k : Nat) (t : T), us[k]? = some t → ∃ w, xs[k]? = some w ∧ Rep G t w) → RepL G us xs
  | [], xs, hl, _ => List.eq_nil_of_length_eq_zero hl
  | t :: us, xs, hl, hk => by
    match xs, hl with
    | x :: xs, hl =>
      obtain ⟨w, e, hw⟩ := hk 0 t rfl
      cases e
      exact ⟨x, xs, rfl, hw, repL_of (by simpa using hl) fun k t' e => hk (k + 1) t' e⟩
theorem ArgsAt.repL {F : Hp} {ts : List T} {A : Addr} {ws : List V} {L : Addr → Prop} (h : ArgsAt F ts A ws L) : RepL F ts ws := by
  refine repL_of h.len fun k t e => ?_
  by_cases z : ∃ us, t = .lst us
  · obtain ⟨us, rfl⟩ := z
    obtain ⟨a, xs, e1, e2, e3, e4⟩ := h.lst k us e
    exact ⟨_, e1, a, xs, rfl, e3, e4.up (less_le F _)⟩
  · obtain ⟨w, e1, e2⟩ := h.oth k t e fun us z2 => z ⟨us, z2⟩
    exact ⟨w, e1, e2.up (less_le F _)⟩
theorem ArgsAt.onF {F : Hp} {ts : List T} {A : Addr} {ws : List V} {L : Addr → Prop} (h : ArgsAt F ts A ws L) (a : Addr) (ha : L a) : ∃ xs, F a = some (.lst xs) := by
  obtain ⟨k, us, e1, e2⟩ := h.onL a ha
  obtain ⟨a', xs, e3, _, e4, _⟩ := h.lst k us e1
  rw [e2] at e3
  cases e3
  exact ⟨xs, e4⟩
def joinG (G F : Hp) : Hp := fun a => match G a with
  | some o => some o
  | none => F a
theorem joinG_l (G F : Hp) : Le G (joinG G F) := fun a o h => by unfold joinG; rw [h]
theorem joinG_n {G F : Hp} {a : Addr} (h : G a = none) : joinG G F a = F a := by unfold joinG; rw [h]
theorem joinG_r {G F H : Hp} (hG : Le G H) (hF : Le F H) : Le F (joinG G F) := fun a o h => by
  cases z : G a with
  | none => rw [joinG_n z]; exact h
  | some o' =>
    have e1 := hG _ _ z
    rw [hF _ _ h] at e1
    cases e1
    exact joinG_l G F a o z
theorem joinG_le {G F H : Hp} (hG : Le G H) (hF : Le F H) : Le (joinG G F) H := fun a o h => by
  cases z : G a with
  | none => rw [joinG_n z] at h; exact hF a o h
  | some o' => rw [joinG_l G F a o' z] at h; cases h; exact hG _ _ z
section
variable {K : PySem.W.Frag} {E : WX} {X : XP} {ρ : TL.Env} {te ta tb : TE} {tt : TT} {t u : TS} {Φ : V → T → TL.Env → Prop} {Ψ : List T → TL.Env → Prop} {i : Nat} {P : Post} {L : Addr → Prop} {F : Hp} {A : Addr}
theorem wE_xc {t t' : T} {u : V} (e : ρ[i]? = some (.x u t)) (c : ∀ G, Rep G t u → Rep G t' u) (h : Φ u t' ρ) : wE E X (tVar i) ρ Φ := fun b G H σ Q S q _ => by
  obtain ⟨a, r⟩ := S.ex i u t e
  exact ⟨u, a, q u t' ρ G H h (c G r) S Le.rfl⟩
theorem wE_vc {t t' : T} (e : ρ[i]? = some (.v t)) (c : ∀ G v, Rep G t v → Rep G t' v) (h : ∀ v, Φ v t' ρ) : wE E X (tVar i) ρ Φ := fun b G H σ Q S q _ => by
  obtain ⟨v, a, r⟩ := S.val i t e
  exact ⟨v, a, q v t' ρ G H (h v) (c G v r) S Le.rfl⟩
theorem twin_grow {G H F H' : Hp} {x : T} {v' : V} (gh : Le G H) (tw : TwR G H F x v') (lF : Le F H') (lH : Le H H') : Grow G H (joinG G F) H' :=
  ⟨joinG_l G F, lH, joinG_le (gh.tr lH) lF, fun a h1 h2 => by
    rw [joinG_n h2]
    cases z : F a with
    | none => rfl
    | some o =>
      rcases tw.fresh a o z with h | ⟨_, h⟩
      · exact absurd h h1
      · rw [h2] at h; cases h⟩
theorem wF_ask {door : Int} {c : Bool} {xs : List T} {ws : List V} {t : TA} (h : wA E X t ρ fun vs ts ρ1 => ts = [.int door, dgL ws xs, .bl c] ∧ ArgsOk 130 door xs ∧ Ψ (ansV ws (ans door xs)) ρ1) :
    wF E X (tCallS (sp_law_ask K) (WE E) t) ρ Ψ := fun b G H σ Q S q ke =>
  h b G H σ _ S (fun vs ts ρ1 G1 H1 ⟨e, h1, h2⟩ r1 S1 l1 => by
    subst e
    obtain ⟨v, r1, rfl, a1, w, r2, rfl, a2, x, r3, rfl, a3, rfl⟩ := r1
    cases a1; cases a3
    obtain ⟨G0, l0, A, rfl, hA, rL⟩ := a2
    exact ⟨door, xs, ws, A, c, G1, rfl, l0 _ _ hA, rL.up l0, S1.gh, h1, fun p us G' H' hp gp hn r g => q p us _ ρ1 G' H' h2 hp gp (S1.bh.back hn) r (fun j Qd e => by
      obtain ⟨ts2, vs2, a2, e2, _⟩ := S1.own j p Qd e
      rw [hn] at e2; cases e2) (S1.grow g) (l1.tr g.g)⟩) ke
end
theorem bx_flat {n : Nat} {G G0 : Hp} : ∀ ts vs, Bx n ts → RepL G ts vs → RepL G0 ts vs := fun ts vs ⟨a, m, j, c, e, _⟩ r => by
  subst e
  obtain ⟨v1, r1, rfl, e1, v2, r2, rfl, e2, v3, r3, rfl, e3, v4, r4, rfl, e4, e5⟩ := r
  exact ⟨v1, _, rfl, e1, v2, _, rfl, e2, v3, _, rfl, e3, v4, _, rfl, e4, e5⟩
end TD
set_option maxHeartbeats 4000000
namespace K09
open PySem PySem.Spec PyProof.Rows L2 TL TC TD
end K09
set_option maxHeartbeats 4000000
namespace K09
open PySem PySem.Spec PyProof.Rows L2 TL TC TD
end K09
set_option maxHeartbeats 4000000
namespace K09
open PySem PySem.Spec PyProof.Rows L2 TL TC TD
end K09
set_option maxHeartbeats 4000000
namespace K09
open PySem PySem.Spec PyProof.Rows L2 TL TC TD
theorem d_mo {m : Mo} {h r : Nat} (o : MoOk h r m) (hh : h ≤ 3) (hr : r ≤ 3) : Dat 130 4 (moT m) := by
  have d1 : Dat 130 3 (.tup (natsT m.tk)) := by
    rw [natsT_ints]
    exact dTn (by rw [List.length_map, List.length_map, o.len]; omega) dI
  have d2 : Dat 130 3 (frT m.fr) := by
    cases e : m.fr with
    | none => exact .non
    | some f =>
      obtain ⟨a, c⟩ := f
      have := (o.fr a c e).len hh hr
      exact dT2 (.int _) (dTn (by rw [List.length_map]; omega) dI)
  exact dT3 d1 d2 (dO _)
theorem d_ms {S : Sk} (o : SkOk S) : ∀ t ∈ S.ms.map moT, Dat 130 4 t := fun t ht => by
  obtain ⟨m, hm, rfl⟩ := List.mem_map.mp ht
  exact d_mo (o.ms m hm) o.h3 o.r3
theorem d_args {S : Sk} (o : SkOk S) (l : Bool) : ArgD (argT S l) := ⟨rfl, fun t ht => by
  have ht : t ∈ [T.int (S.h : Int), .int (S.r : Int), if l then .lst (S.ms.map moT) else .tup (S.ms.map moT), optN S.bk] := ht
  simp only [List.mem_cons, List.not_mem_nil, or_false] at ht
  rcases ht with rfl | rfl | rfl | rfl
  · exact .int _
  · exact .int _
  · cases l
    · exact dTn (by rw [List.length_map]; have := o.m24; omega) (d_ms o)
    · exact dLn (by rw [List.length_map]; have := o.m24; omega) (d_ms o)
  · exact dO _⟩
end K09
set_option maxHeartbeats 4000000
namespace K09
open PySem PySem.Spec PyProof.Rows L2 TL TC TD
local macro_rules | `(tactic| walk_at "wk") => `(tactic| repeat' (first
  | with_reducible refine wS_seq ?_
  | with_reducible refine wS_if ?_
  | with_reducible refine wS_next ?_
  | with_reducible refine wS_aug rfl ipOk ?_
  | with_reducible refine wT_not ?_
  | with_reducible refine wT_and ?_
  | with_reducible refine wT_or ?_
  | with_reducible refine wT_test ?_
  | with_reducible refine wT_tru ?_
  | with_reducible refine wT_yes ?_
  | with_reducible refine wE_op addOk ?_
  | with_reducible refine wE_op subOk ?_
  | with_reducible refine wE_op mulOk ?_
  | with_reducible refine wE_op modOk ?_
  | with_reducible refine wE_op divOk ?_
  | with_reducible refine wE_op powOk ?_
  | with_reducible refine wE_op ltOk ?_
  | with_reducible refine wE_op leOk ?_
  | with_reducible refine wE_op gtOk ?_
  | with_reducible refine wE_op geOk ?_
  | with_reducible refine wE_op isOk ?_
  | with_reducible refine wE_op isNotOk ?_
  | with_reducible refine wE_op ixOk ?_
  | with_reducible refine wE_un negOk ?_
  | with_reducible refine wE_cb intOk ?_
  | with_reducible refine wE_cb absOk ?_
  | with_reducible refine wE_cb maxOk ?_
  | with_reducible refine wE_cb minOk ?_
  | with_reducible refine wE_cb lenOk ?_
  | with_reducible refine wE_cb sumOk ?_
  | with_reducible refine wE_cb allOk ?_
  | with_reducible refine wE_cb dvmOk ?_
  | with_reducible refine wE_sl ?_
  | with_reducible refine wO_none ?_
  | with_reducible refine wO_some ?_
  | with_reducible refine wE_tup ?_
  | with_reducible refine wE_lstD ?_
  | with_reducible refine wE_listD ?_
  | refine gIxT 0 rfl rfl ?_
  | refine gIxT 1 rfl rfl ?_
  | refine And.intro (sm1000 (Nat.le_of_ble_eq_true rfl)) ?_
  | with_reducible refine wE_if ?_
  | with_reducible refine wE_int ?_
  | with_reducible refine wE_bl ?_
  | with_reducible refine wE_str ?_
  | with_reducible refine wE_non ?_
  | refine wE_x rfl ?_
  | refine wE_v rfl ?_
  | with_reducible refine wA_cons ?_
  | with_reducible refine wA_nil ?_
  | with_reducible refine gAdd ?_
  | with_reducible refine gSub ?_
  | with_reducible refine gMulL (by omega) (by omega) ?_
  | with_reducible refine gMulR (by omega) (by omega) ?_
  | with_reducible refine gMod (by omega) ?_
  | with_reducible refine gDiv (by omega) (by omega) ?_
  | with_reducible refine gPow (by omega) (by omega) (by omega) ?_
  | with_reducible refine gLt ?_
  | with_reducible refine gLe ?_
  | with_reducible refine gGt ?_
  | with_reducible refine gGe ?_
  | with_reducible refine gNeg ?_
  | with_reducible refine gInt ?_
  | with_reducible refine gAbs ?_
  | with_reducible refine gMax ?_
  | with_reducible refine gMin ?_
  | with_reducible refine gLenL ?_
  | with_reducible refine gLenT ?_
  | with_reducible refine gSlL ?_
  | with_reducible refine gSlT ?_
  | (with_reducible intro (_ : V))
  | with_reducible refine Exists.intro _ (And.intro (rfl : T.bl _ = T.bl _) ?_)
  | with_reducible refine Exists.intro _ (And.intro (rfl : T.int _ = T.int _) ?_)
  | with_reducible refine Exists.intro _ (And.intro (rfl : truT (T.bl _) = some _) ?_)))
end K09
set_option maxHeartbeats 4000000
namespace K09
open PySem PySem.Spec PyProof.Rows L2 TL TC TD
local macro_rules | `(tactic| walk_at "wk") => `(tactic| repeat' (first
  | with_reducible refine wS_seq ?_
  | with_reducible refine wS_if ?_
  | with_reducible refine wS_next ?_
  | with_reducible refine wS_aug rfl ipOk ?_
  | with_reducible refine wT_not ?_
  | with_reducible refine wT_and ?_
  | with_reducible refine wT_or ?_
  | with_reducible refine wT_test ?_
  | with_reducible refine wT_tru ?_
  | with_reducible refine wT_yes ?_
  | with_reducible refine wE_op addOk ?_
  | with_reducible refine wE_op subOk ?_
  | with_reducible refine wE_op mulOk ?_
  | with_reducible refine wE_op modOk ?_
  | with_reducible refine wE_op divOk ?_
  | with_reducible refine wE_op powOk ?_
  | with_reducible refine wE_op ltOk ?_
  | with_reducible refine wE_op leOk ?_
  | with_reducible refine wE_op gtOk ?_
  | with_reducible refine wE_op geOk ?_
  | with_reducible refine wE_op isOk ?_
  | with_reducible refine wE_op isNotOk ?_
  | with_reducible refine wE_op ixOk ?_
  | with_reducible refine wE_un negOk ?_
  | with_reducible refine wE_cb intOk ?_
  | with_reducible refine wE_cb absOk ?_
  | with_reducible refine wE_cb maxOk ?_
  | with_reducible refine wE_cb minOk ?_
  | with_reducible refine wE_cb lenOk ?_
  | with_reducible refine wE_cb sumOk ?_
  | with_reducible refine wE_cb allOk ?_
  | with_reducible refine wE_cb dvmOk ?_
  | with_reducible refine wE_sl ?_
  | with_reducible refine wO_none ?_
  | with_reducible refine wO_some ?_
  | with_reducible refine wE_tup ?_
  | with_reducible refine wE_lstD ?_
  | with_reducible refine wE_listD ?_
  | refine gIxT 0 rfl rfl ?_
  | refine gIxT 1 rfl rfl ?_
  | refine And.intro (sm1000 (Nat.le_of_ble_eq_true rfl)) ?_
  | with_reducible refine wE_if ?_
  | with_reducible refine wE_int ?_
  | with_reducible refine wE_bl ?_
  | with_reducible refine wE_str ?_
  | with_reducible refine wE_non ?_
  | refine wE_x rfl ?_
  | refine wE_v rfl ?_
  | with_reducible refine wA_cons ?_
  | with_reducible refine wA_nil ?_
  | with_reducible refine gAdd ?_
  | with_reducible refine gSub ?_
  | with_reducible refine gMulL (by omega) (by omega) ?_
  | with_reducible refine gMulR (by omega) (by omega) ?_
  | with_reducible refine gMod (by omega) ?_
  | with_reducible refine gDiv (by omega) (by omega) ?_
  | with_reducible refine gPow (by omega) (by omega) (by omega) ?_
  | with_reducible refine gLt ?_
  | with_reducible refine gLe ?_
  | with_reducible refine gGt ?_
  | with_reducible refine gGe ?_
  | with_reducible refine gNeg ?_
  | with_reducible refine gInt ?_
  | with_reducible refine gAbs ?_
  | with_reducible refine gMax ?_
  | with_reducible refine gMin ?_
  | with_reducible refine gLenL ?_
  | with_reducible refine gLenT ?_
  | with_reducible refine gSlL ?_
  | with_reducible refine gSlT ?_
  | (with_reducible intro (_ : V))
  | with_reducible refine Exists.intro _ (And.intro (rfl : T.bl _ = T.bl _) ?_)
  | with_reducible refine Exists.intro _ (And.intro (rfl : T.int _ = T.int _) ?_)
  | with_reducible refine Exists.intro _ (And.intro (rfl : truT (T.bl _) = some _) ?_)))
theorem FrOk.up {h r r' a : Nat} {c : List Int} (f : FrOk h r a c) (l : r ≤ r') : FrOk h r' a c := ⟨f.al, f.ne, fun y hy => ⟨by have := (f.bt y hy).1; omega, (f.bt y hy).2⟩, f.as, f.no⟩
theorem MoOk.up {h r r' : Nat} {m : Mo} (o : MoOk h r m) (l : r ≤ r') : MoOk h r' m := ⟨o.len, o.tk, fun a c e => (o.fr a c e).up l, o.wd⟩
theorem args_inj {a b : Sk} {l l' : Bool} (h : argT a l = argT b l') : a = b := by
  unfold argT at h
  simp only [List.cons.injEq, T.int.injEq, and_true] at h
  obtain ⟨e1, e2, e3, e4⟩ := h
  have e1 : a.h = b.h := by omega
  have e2 : a.r = b.r := by omega
  have e5 : a.ms = b.ms := by
    cases l <;> cases l'
    · exact mosT_inj (T.tup.inj e3)
    · exact absurd e3 (fun z => nomatch z)
    · exact absurd e3 (fun z => nomatch z)
    · exact mosT_inj (T.lst.inj e3)
  cases a; cases b
  rw [Sk.mk.injEq]
  exact ⟨e1, e2, e5, optN_inj e4⟩
end K09
set_option maxHeartbeats 4000000
namespace K09
open PySem PySem.Spec PyProof.Rows L2 TL TC TD
local macro_rules | `(tactic| walk_at "wk") => `(tactic| repeat' (first
  | with_reducible refine wS_seq ?_
  | with_reducible refine wS_if ?_
  | with_reducible refine wS_next ?_
  | with_reducible refine wS_aug rfl ipOk ?_
  | with_reducible refine wT_not ?_
  | with_reducible refine wT_and ?_
  | with_reducible refine wT_or ?_
  | with_reducible refine wT_test ?_
  | with_reducible refine wT_tru ?_
  | with_reducible refine wT_yes ?_
  | with_reducible refine wE_op addOk ?_
  | with_reducible refine wE_op subOk ?_
  | with_reducible refine wE_op mulOk ?_
  | with_reducible refine wE_op modOk ?_
  | with_reducible refine wE_op divOk ?_
  | with_reducible refine wE_op powOk ?_
  | with_reducible refine wE_op ltOk ?_
  | with_reducible refine wE_op leOk ?_
  | with_reducible refine wE_op gtOk ?_
  | with_reducible refine wE_op geOk ?_
  | with_reducible refine wE_op isOk ?_
  | with_reducible refine wE_op isNotOk ?_
  | with_reducible refine wE_op ixOk ?_
  | with_reducible refine wE_un negOk ?_
  | with_reducible refine wE_cb intOk ?_
  | with_reducible refine wE_cb absOk ?_
  | with_reducible refine wE_cb maxOk ?_
  | with_reducible refine wE_cb minOk ?_
  | with_reducible refine wE_cb lenOk ?_
  | with_reducible refine wE_cb sumOk ?_
  | with_reducible refine wE_cb allOk ?_
  | with_reducible refine wE_cb dvmOk ?_
  | with_reducible refine wE_sl ?_
  | with_reducible refine wO_none ?_
  | with_reducible refine wO_some ?_
  | with_reducible refine wE_tup ?_
  | with_reducible refine wE_lstD ?_
  | with_reducible refine wE_listD ?_
  | refine gIxT 0 rfl rfl ?_
  | refine gIxT 1 rfl rfl ?_
  | refine And.intro (sm1000 (Nat.le_of_ble_eq_true rfl)) ?_
  | with_reducible refine wE_if ?_
  | with_reducible refine wE_int ?_
  | with_reducible refine wE_bl ?_
  | with_reducible refine wE_str ?_
  | with_reducible refine wE_non ?_
  | refine wE_x rfl ?_
  | refine wE_v rfl ?_
  | with_reducible refine wA_cons ?_
  | with_reducible refine wA_nil ?_
  | with_reducible refine gAdd ?_
  | with_reducible refine gSub ?_
  | with_reducible refine gMulL (by omega) (by omega) ?_
  | with_reducible refine gMulR (by omega) (by omega) ?_
  | with_reducible refine gMod (by omega) ?_
  | with_reducible refine gDiv (by omega) (by omega) ?_
  | with_reducible refine gPow (by omega) (by omega) (by omega) ?_
  | with_reducible refine gLt ?_
  | with_reducible refine gLe ?_
  | with_reducible refine gGt ?_
  | with_reducible refine gGe ?_
  | with_reducible refine gNeg ?_
  | with_reducible refine gInt ?_
  | with_reducible refine gAbs ?_
  | with_reducible refine gMax ?_
  | with_reducible refine gMin ?_
  | with_reducible refine gLenL ?_
  | with_reducible refine gLenT ?_
  | with_reducible refine gSlL ?_
  | with_reducible refine gSlT ?_
  | (with_reducible intro (_ : V))
  | with_reducible refine Exists.intro _ (And.intro (rfl : T.bl _ = T.bl _) ?_)
  | with_reducible refine Exists.intro _ (And.intro (rfl : T.int _ = T.int _) ?_)
  | with_reducible refine Exists.intro _ (And.intro (rfl : truT (T.bl _) = some _) ?_)))
theorem btw3 {a : Nat} (h1 : 1 ≤ a) (h3 : a ≤ 3) : btw (.int (a : Int)) 1 3 = true := btw_of (by omega) (by omega)
theorem bad_args {S : Sk} (ok : SkOk S) {m : T} (hm : m = .lst (S.ms.map moT) ∨ m = .tup (S.ms.map moT)) : badS (.int (S.h : Int)) (.int (S.r : Int)) m (optN S.bk) = none ∧ itemsOf m = S.ms.map moT := by
  have e2 : itemsOf m = S.ms.map moT := by rcases hm with rfl | rfl <;> rfl
  refine ⟨?_, e2⟩
  have e3 : mosB m (intOf (.int (S.h : Int))) (intOf (.int (S.r : Int))) = true := by
    have all : ((S.ms.map moT).all fun y => moB y S.h S.r) = true := by
      rw [List.all_map, List.all_eq_true]
      exact fun m hm => moB_to (ok.ms m hm)
    have l1 : decide (1 ≤ (S.ms.map moT).length) = true := decide_eq_true (by rw [List.length_map]; exact ok.m1)
    have l2 : decide ((S.ms.map moT).length ≤ 24) = true := decide_eq_true (by rw [List.length_map]; exact ok.m24)
    rcases hm with rfl | rfl
    · show (decide (1 ≤ (S.ms.map moT).length) && (decide ((S.ms.map moT).length ≤ 24) && (S.ms.map moT).all fun y => moB y S.h S.r)) = true
      rw [l1, l2, all]; rfl
    · show (decide (1 ≤ (S.ms.map moT).length) && (decide ((S.ms.map moT).length ≤ 24) && (S.ms.map moT).all fun y => moB y S.h S.r)) = true
      rw [l1, l2, all]; rfl
  have e4 : (isNonT (optN S.bk) || btw (optN S.bk) 0 (((itemsOf m).length : Int) - 1)) = true := by
    rw [e2, List.length_map]
    cases eb : S.bk with
    | none => rfl
    | some b =>
      have := ok.bk b eb
      exact (btw_of (i := (b : Int)) (by omega) (by omega) : btw (.int (b : Int)) 0 ((S.ms.length : Int) - 1) = true)
  unfold badS
  rw [btw3 ok.h1 ok.h3, btw3 ok.r1 ok.r3, e3, e4]
  rfl
section
variable {K : PySem.W.Frag} {E : WX} {X : XP} {ρ : TL.Env} {te tb : TE} {ta : TA} {Φ : V → T → TL.Env → Prop}
/-- Sky(..) of right arguments -/
theorem wE_mkS (h : wA E X ta ρ fun _ ts ρ1 => ∃ S m, ts = [.int (S.h : Int), .int (S.r : Int), m, optN S.bk] ∧ (m = .lst (S.ms.map moT) ∨ m = .tup (S.ms.map moT)) ∧ SkOk S ∧ ∀ v, Φ v (skT K S) ρ1) : wE E X (tMakeS (He.ga K "Sky") (sp_Sky_init K) (WE E) ta) ρ Φ := by
  refine wE_make (fun b G H σ Q S0 q ke => h b G H σ Q S0 (fun vs ts ρ1 G1 H1 ⟨S, m, e, hm, ok, hk⟩ r S1 l => q vs ts ρ1 G1 H1 ?_ r S1 l) ke)
  subst e
  obtain ⟨b1, b2⟩ := bad_args ok hm
  have dm : DD m := by
    have := (d_args ok (isTy m "list")).d
    rcases hm with rfl | rfl
    · exact ⟨_, this _ (List.mem_cons_of_mem _ (List.mem_cons_of_mem _ (List.mem_cons_self ..)))⟩
    · exact ⟨_, this _ (List.mem_cons_of_mem _ (List.mem_cons_of_mem _ (List.mem_cons_self ..)))⟩
  refine ⟨⟨_, _, _, _, rfl, ⟨1, .int _⟩, ⟨1, .int _⟩, dm, ⟨1, dO _⟩⟩, fun zs v po => ?_, fun er xc => ?_⟩
  · obtain ⟨_, rfl⟩ := po _ _ _ _ rfl
    rw [b2]
    exact hk v
  · obtain ⟨w, c, j, e, _⟩ := xc _ _ _ _ rfl
    rw [b1] at e
    cases e
end
end K09
set_option maxHeartbeats 4000000
namespace K09
open PySem PySem.Spec PyProof.Rows L2 TL TC TD
theorem mom_none {S : Sk} (h : S.bk = none) (t : Nat) : momAt S t = if t < S.ms.length then some t else none := by unfold momAt; rw [h]; rfl
theorem mom_lo {S : Sk} {t : Nat} (h : t < S.ms.length) : momAt S t = some t := if_pos h
theorem mom_hi {S : Sk} {b t : Nat} (hb : S.bk = some b) (h : S.ms.length ≤ t) : momAt S t = some (b + (t - b) % (S.ms.length - b)) := by
  unfold momAt
  rw [if_neg (by omega), hb]
  rfl
theorem mom_lt {S : Sk} (ok : SkOk S) {t j : Nat} (h : momAt S t = some j) : j < S.ms.length := by
  by_cases z : t < S.ms.length
  · rw [mom_lo z] at h
    cases h
    exact z
  · cases hb : S.bk with
    | none => rw [mom_none hb, if_neg z] at h; cases h
    | some b =>
      have bl := ok.bk b hb
      rw [mom_hi hb (by omega)] at h
      have := Nat.mod_lt (t - b) (show 0 < S.ms.length - b by omega)
      have := Option.some.inj h
      omega
end K09
set_option maxHeartbeats 4000000
namespace K09
open PySem PySem.Spec PyProof.Rows L2 TL TC TD
local macro_rules | `(tactic| walk_at "wk") => `(tactic| repeat' (first
  | with_reducible refine wS_seq ?_
  | with_reducible refine wS_if ?_
  | with_reducible refine wS_next ?_
  | with_reducible refine wS_aug rfl ipOk ?_
  | with_reducible refine wT_not ?_
  | with_reducible refine wT_and ?_
  | with_reducible refine wT_or ?_
  | with_reducible refine wT_test ?_
  | with_reducible refine wT_tru ?_
  | with_reducible refine wT_yes ?_
  | with_reducible refine wE_op addOk ?_
  | with_reducible refine wE_op subOk ?_
  | with_reducible refine wE_op mulOk ?_
  | with_reducible refine wE_op modOk ?_
  | with_reducible refine wE_op divOk ?_
  | with_reducible refine wE_op powOk ?_
  | with_reducible refine wE_op ltOk ?_
  | with_reducible refine wE_op leOk ?_
  | with_reducible refine wE_op gtOk ?_
  | with_reducible refine wE_op geOk ?_
  | with_reducible refine wE_op isOk ?_
  | with_reducible refine wE_op isNotOk ?_
  | with_reducible refine wE_op ixOk ?_
  | with_reducible refine wE_un negOk ?_
  | with_reducible refine wE_cb intOk ?_
  | with_reducible refine wE_cb absOk ?_
  | with_reducible refine wE_cb maxOk ?_
  | with_reducible refine wE_cb minOk ?_
  | with_reducible refine wE_cb lenOk ?_
  | with_reducible refine wE_cb sumOk ?_
  | with_reducible refine wE_cb allOk ?_
  | with_reducible refine wE_cb dvmOk ?_
  | with_reducible refine wE_sl ?_
  | with_reducible refine wO_none ?_
  | with_reducible refine wO_some ?_
  | with_reducible refine wE_tup ?_
  | with_reducible refine wE_lstD ?_
  | with_reducible refine wE_listD ?_
  | refine gIxT 0 rfl rfl ?_
  | refine gIxT 1 rfl rfl ?_
  | refine And.intro (sm1000 (Nat.le_of_ble_eq_true rfl)) ?_
  | with_reducible refine wE_if ?_
  | with_reducible refine wE_int ?_
  | with_reducible refine wE_bl ?_
  | with_reducible refine wE_str ?_
  | with_reducible refine wE_non ?_
  | refine wE_x rfl ?_
  | refine wE_v rfl ?_
  | with_reducible refine wA_cons ?_
  | with_reducible refine wA_nil ?_
  | with_reducible refine gAdd ?_
  | with_reducible refine gSub ?_
  | with_reducible refine gMulL (by omega) (by omega) ?_
  | with_reducible refine gMulR (by omega) (by omega) ?_
  | with_reducible refine gMod (by omega) ?_
  | with_reducible refine gDiv (by omega) (by omega) ?_
  | with_reducible refine gPow (by omega) (by omega) (by omega) ?_
  | with_reducible refine gLt ?_
  | with_reducible refine gLe ?_
  | with_reducible refine gGt ?_
  | with_reducible refine gGe ?_
  | with_reducible refine gNeg ?_
  | with_reducible refine gInt ?_
  | with_reducible refine gAbs ?_
  | with_reducible refine gMax ?_
  | with_reducible refine gMin ?_
  | with_reducible refine gLenL ?_
  | with_reducible refine gLenT ?_
  | with_reducible refine gSlL ?_
  | with_reducible refine gSlT ?_
  | (with_reducible intro (_ : V))
  | with_reducible refine Exists.intro _ (And.intro (rfl : T.bl _ = T.bl _) ?_)
  | with_reducible refine Exists.intro _ (And.intro (rfl : T.int _ = T.int _) ?_)
  | with_reducible refine Exists.intro _ (And.intro (rfl : truT (T.bl _) = some _) ?_)))
theorem notRaw_opt (o : Option Nat) : notRaw (optN o) := by cases o <;> trivial
end K09
set_option maxHeartbeats 4000000
namespace K09
open PySem PySem.Spec PyProof.Rows L2 TL TC TD
end K09
set_option maxHeartbeats 4000000
namespace K09
open PySem PySem.Spec PyProof.Rows L2 TL TC TD
local macro_rules | `(tactic| walk_at "wk") => `(tactic| repeat' (first
  | with_reducible refine wS_seq ?_
  | with_reducible refine wS_if ?_
  | with_reducible refine wS_next ?_
  | with_reducible refine wS_aug rfl ipOk ?_
  | with_reducible refine wT_not ?_
  | with_reducible refine wT_and ?_
  | with_reducible refine wT_or ?_
  | with_reducible refine wT_test ?_
  | with_reducible refine wT_tru ?_
  | with_reducible refine wT_yes ?_
  | with_reducible refine wE_op addOk ?_
  | with_reducible refine wE_op subOk ?_
  | with_reducible refine wE_op mulOk ?_
  | with_reducible refine wE_op modOk ?_
  | with_reducible refine wE_op divOk ?_
  | with_reducible refine wE_op powOk ?_
  | with_reducible refine wE_op ltOk ?_
  | with_reducible refine wE_op leOk ?_
  | with_reducible refine wE_op gtOk ?_
  | with_reducible refine wE_op geOk ?_
  | with_reducible refine wE_op isOk ?_
  | with_reducible refine wE_op isNotOk ?_
  | with_reducible refine wE_op ixOk ?_
  | with_reducible refine wE_un negOk ?_
  | with_reducible refine wE_cb intOk ?_
  | with_reducible refine wE_cb absOk ?_
  | with_reducible refine wE_cb maxOk ?_
  | with_reducible refine wE_cb minOk ?_
  | with_reducible refine wE_cb lenOk ?_
  | with_reducible refine wE_cb sumOk ?_
  | with_reducible refine wE_cb allOk ?_
  | with_reducible refine wE_cb dvmOk ?_
  | with_reducible refine wE_sl ?_
  | with_reducible refine wO_none ?_
  | with_reducible refine wO_some ?_
  | with_reducible refine wE_tup ?_
  | with_reducible refine wE_lstD ?_
  | with_reducible refine wE_listD ?_
  | refine gIxT 0 rfl rfl ?_
  | refine gIxT 1 rfl rfl ?_
  | refine And.intro (sm1000 (Nat.le_of_ble_eq_true rfl)) ?_
  | with_reducible refine wE_if ?_
  | with_reducible refine wE_int ?_
  | with_reducible refine wE_bl ?_
  | with_reducible refine wE_str ?_
  | with_reducible refine wE_non ?_
  | refine wE_x rfl ?_
  | refine wE_v rfl ?_
  | with_reducible refine wA_cons ?_
  | with_reducible refine wA_nil ?_
  | with_reducible refine gAdd ?_
  | with_reducible refine gSub ?_
  | with_reducible refine gMulL (by omega) (by omega) ?_
  | with_reducible refine gMulR (by omega) (by omega) ?_
  | with_reducible refine gMod (by omega) ?_
  | with_reducible refine gDiv (by omega) (by omega) ?_
  | with_reducible refine gPow (by omega) (by omega) (by omega) ?_
  | with_reducible refine gLt ?_
  | with_reducible refine gLe ?_
  | with_reducible refine gGt ?_
  | with_reducible refine gGe ?_
  | with_reducible refine gNeg ?_
  | with_reducible refine gInt ?_
  | with_reducible refine gAbs ?_
  | with_reducible refine gMax ?_
  | with_reducible refine gMin ?_
  | with_reducible refine gLenL ?_
  | with_reducible refine gLenT ?_
  | with_reducible refine gSlL ?_
  | with_reducible refine gSlT ?_
  | (with_reducible intro (_ : V))
  | with_reducible refine Exists.intro _ (And.intro (rfl : T.bl _ = T.bl _) ?_)
  | with_reducible refine Exists.intro _ (And.intro (rfl : T.int _ = T.int _) ?_)
  | with_reducible refine Exists.intro _ (And.intro (rfl : truT (T.bl _) = some _) ?_)))
def frAt : T → Bool
  | .tup [_, f, _] => !isNonT f
  | _ => false
theorem frAt_len : ∀ ps : List Mo, (((ps.map moT).filter frAt).map fun t => t).length = (ps.map fun m => if m.fr.isSome then 1 else 0).sum
  | [] => rfl
  | m :: ps => by
    have ih := frAt_len ps
    rw [List.length_map] at ih ⊢
    have e : frAt (moT m) = m.fr.isSome := by show (!isNonT (frT m.fr)) = _; rw [frT_non, Bool.not_not]
    rw [List.map_cons, List.map_cons, List.sum_cons]
    cases q : m.fr.isSome with
    | true => rw [List.filter_cons_of_pos (by rw [e, q]), List.length_cons, ih, if_pos rfl]; omega
    | false => rw [List.filter_cons_of_neg (by rw [e, q]; exact fun z => nomatch z), ih, if_neg (fun z => nomatch z), Nat.zero_add]
abbrev rhoG (a0 a1 a2 a3 a4 a5 a6 a7 a8 a9 a10 a11 a12 a13 : Sl) : TL.Env := [a0, a1, a2, a3, a4, a5, a6, a7, a8, a9, a10, a11, a12, a13, .no]
section
variable {K : PySem.W.Frag} {E : WX} {X : XP} {Φ : V → T → TL.Env → Prop} {a0 a1 a2 a3 a4 a5 a6 a7 a8 a9 a10 a11 a12 a13 : Sl} {j : Nat}
/-- len([moment for moment in ps if moment[1] is not None]) -/
theorem wE_fr {ps : List Mo} (e : (rhoG a0 a1 a2 a3 a4 a5 a6 a7 a8 a9 a10 a11 a12 a13)[j]? = some (.v (.lst (ps.map moT)))) (hn : ps.length ≤ 1000) (h : ∀ v, Φ v (.int ((ps.map fun m => if m.fr.isSome then 1 else 0).sum : Nat)) (rhoG a0 a1 a2 a3 a4 a5 a6 a7 a8 a9 a10 a11 a12 a13)) :
    wE E X (tCB (rLenU K) (tCons (tLc (iSeqV K (tVar j)) (gName 14) (tTest (tOp rIsNotU (tOp (rIx K) (tVar 14) (tC (.int 1))) (tC .non))) (tVar 14) [14]) tNil)) (rhoG a0 a1 a2 a3 a4 a5 a6 a7 a8 a9 a10 a11 a12 a13) Φ := by
  refine wE_cb lenOk (wA_cons (wE_F (wF_lcT (wI_seq (wE_v e fun _ => ⟨ps.map moT, .inl rfl, rfl, by rw [List.length_map]; exact sm1000 hn, frAt, fun t => t, fun x v hx => ?_, fun _ => wA_nil (gLenL fun v => ?_)⟩)))))
  · obtain ⟨m, hm, rfl⟩ := List.mem_map.mp hx
    exact wGa_name (by decide) ⟨rfl, rfl, wT_test (wE_op isNotOk (wE_op ixOk (wE_v rfl fun _ => wE_int (gIxT 1 rfl rfl fun _ => wE_non ⟨notRaw_fr _, fun _ => ⟨_, rfl, rfl, rfl, fun _ => wE_v rfl fun _ => ⟨rfl, rfl⟩⟩⟩))))⟩
  · rw [frAt_len]
    exact h v
end
end K09
set_option maxHeartbeats 4000000
namespace K09
open PySem PySem.Spec PyProof.Rows L2 TL TC TD
local macro_rules | `(tactic| walk_at "wk") => `(tactic| repeat' (first
  | with_reducible refine wS_seq ?_
  | with_reducible refine wS_if ?_
  | with_reducible refine wS_next ?_
  | with_reducible refine wS_aug rfl ipOk ?_
  | with_reducible refine wT_not ?_
  | with_reducible refine wT_and ?_
  | with_reducible refine wT_or ?_
  | with_reducible refine wT_test ?_
  | with_reducible refine wT_tru ?_
  | with_reducible refine wT_yes ?_
  | with_reducible refine wE_op addOk ?_
  | with_reducible refine wE_op subOk ?_
  | with_reducible refine wE_op mulOk ?_
  | with_reducible refine wE_op modOk ?_
  | with_reducible refine wE_op divOk ?_
  | with_reducible refine wE_op powOk ?_
  | with_reducible refine wE_op ltOk ?_
  | with_reducible refine wE_op leOk ?_
  | with_reducible refine wE_op gtOk ?_
  | with_reducible refine wE_op geOk ?_
  | with_reducible refine wE_op isOk ?_
  | with_reducible refine wE_op isNotOk ?_
  | with_reducible refine wE_op ixOk ?_
  | with_reducible refine wE_un negOk ?_
  | with_reducible refine wE_cb intOk ?_
  | with_reducible refine wE_cb absOk ?_
  | with_reducible refine wE_cb maxOk ?_
  | with_reducible refine wE_cb minOk ?_
  | with_reducible refine wE_cb lenOk ?_
  | with_reducible refine wE_cb sumOk ?_
  | with_reducible refine wE_cb allOk ?_
  | with_reducible refine wE_cb dvmOk ?_
  | with_reducible refine wE_sl ?_
  | with_reducible refine wO_none ?_
  | with_reducible refine wO_some ?_
  | with_reducible refine wE_tup ?_
  | with_reducible refine wE_lstD ?_
  | with_reducible refine wE_listD ?_
  | refine gIxT 0 rfl rfl ?_
  | refine gIxT 1 rfl rfl ?_
  | refine And.intro (sm1000 (Nat.le_of_ble_eq_true rfl)) ?_
  | with_reducible refine wE_if ?_
  | with_reducible refine wE_int ?_
  | with_reducible refine wE_bl ?_
  | with_reducible refine wE_str ?_
  | with_reducible refine wE_non ?_
  | refine wE_x rfl ?_
  | refine wE_v rfl ?_
  | with_reducible refine wA_cons ?_
  | with_reducible refine wA_nil ?_
  | with_reducible refine gAdd ?_
  | with_reducible refine gSub ?_
  | with_reducible refine gMulL (by omega) (by omega) ?_
  | with_reducible refine gMulR (by omega) (by omega) ?_
  | with_reducible refine gMod (by omega) ?_
  | with_reducible refine gDiv (by omega) (by omega) ?_
  | with_reducible refine gPow (by omega) (by omega) (by omega) ?_
  | with_reducible refine gLt ?_
  | with_reducible refine gLe ?_
  | with_reducible refine gGt ?_
  | with_reducible refine gGe ?_
  | with_reducible refine gNeg ?_
  | with_reducible refine gInt ?_
  | with_reducible refine gAbs ?_
  | with_reducible refine gMax ?_
  | with_reducible refine gMin ?_
  | with_reducible refine gLenL ?_
  | with_reducible refine gLenT ?_
  | with_reducible refine gSlL ?_
  | with_reducible refine gSlT ?_
  | (with_reducible intro (_ : V))
  | with_reducible refine Exists.intro _ (And.intro (rfl : T.bl _ = T.bl _) ?_)
  | with_reducible refine Exists.intro _ (And.intro (rfl : T.int _ = T.int _) ?_)
  | with_reducible refine Exists.intro _ (And.intro (rfl : truT (T.bl _) = some _) ?_)))
end K09
set_option maxHeartbeats 4000000
namespace K09
open PySem PySem.Spec PyProof.Rows L2 TL TC TD
end K09
set_option maxHeartbeats 4000000
namespace K09
open PySem PySem.Spec PyProof.Rows L2 TL TC TD
local macro_rules | `(tactic| walk_at "wk") => `(tactic| repeat' (first
  | with_reducible refine wS_seq ?_
  | with_reducible refine wS_if ?_
  | with_reducible refine wS_next ?_
  | with_reducible refine wS_aug rfl ipOk ?_
  | with_reducible refine wT_not ?_
  | with_reducible refine wT_and ?_
  | with_reducible refine wT_or ?_
  | with_reducible refine wT_test ?_
  | with_reducible refine wT_tru ?_
  | with_reducible refine wT_yes ?_
  | with_reducible refine wE_op addOk ?_
  | with_reducible refine wE_op subOk ?_
  | with_reducible refine wE_op mulOk ?_
  | with_reducible refine wE_op modOk ?_
  | with_reducible refine wE_op divOk ?_
  | with_reducible refine wE_op powOk ?_
  | with_reducible refine wE_op ltOk ?_
  | with_reducible refine wE_op leOk ?_
  | with_reducible refine wE_op gtOk ?_
  | with_reducible refine wE_op geOk ?_
  | with_reducible refine wE_op isOk ?_
  | with_reducible refine wE_op isNotOk ?_
  | with_reducible refine wE_op ixOk ?_
  | with_reducible refine wE_un negOk ?_
  | with_reducible refine wE_cb intOk ?_
  | with_reducible refine wE_cb absOk ?_
  | with_reducible refine wE_cb maxOk ?_
  | with_reducible refine wE_cb minOk ?_
  | with_reducible refine wE_cb lenOk ?_
  | with_reducible refine wE_cb sumOk ?_
  | with_reducible refine wE_cb allOk ?_
  | with_reducible refine wE_cb dvmOk ?_
  | with_reducible refine wE_sl ?_
  | with_reducible refine wO_none ?_
  | with_reducible refine wO_some ?_
  | with_reducible refine wE_tup ?_
  | with_reducible refine wE_lstD ?_
  | with_reducible refine wE_listD ?_
  | refine gIxT 0 rfl rfl ?_
  | refine gIxT 1 rfl rfl ?_
  | refine And.intro (sm1000 (Nat.le_of_ble_eq_true rfl)) ?_
  | with_reducible refine wE_if ?_
  | with_reducible refine wE_int ?_
  | with_reducible refine wE_bl ?_
  | with_reducible refine wE_str ?_
  | with_reducible refine wE_non ?_
  | refine wE_x rfl ?_
  | refine wE_v rfl ?_
  | with_reducible refine wA_cons ?_
  | with_reducible refine wA_nil ?_
  | with_reducible refine gAdd ?_
  | with_reducible refine gSub ?_
  | with_reducible refine gMulL (by omega) (by omega) ?_
  | with_reducible refine gMulR (by omega) (by omega) ?_
  | with_reducible refine gMod (by omega) ?_
  | with_reducible refine gDiv (by omega) (by omega) ?_
  | with_reducible refine gPow (by omega) (by omega) (by omega) ?_
  | with_reducible refine gLt ?_
  | with_reducible refine gLe ?_
  | with_reducible refine gGt ?_
  | with_reducible refine gGe ?_
  | with_reducible refine gNeg ?_
  | with_reducible refine gInt ?_
  | with_reducible refine gAbs ?_
  | with_reducible refine gMax ?_
  | with_reducible refine gMin ?_
  | with_reducible refine gLenL ?_
  | with_reducible refine gLenT ?_
  | with_reducible refine gSlL ?_
  | with_reducible refine gSlT ?_
  | (with_reducible intro (_ : V))
  | with_reducible refine Exists.intro _ (And.intro (rfl : T.bl _ = T.bl _) ?_)
  | with_reducible refine Exists.intro _ (And.intro (rfl : T.int _ = T.int _) ?_)
  | with_reducible refine Exists.intro _ (And.intro (rfl : truT (T.bl _) = some _) ?_)))
section
variable {K : PySem.W.Frag} {E : WX} {X : XP} {ρ : TL.Env} {ta : TA} {te tb : TE} {Φ : V → T → TL.Env → Prop}
/-- _law_same of one thing twice -/
theorem wE_same1 {x : T} (d : Dat 130 6 x) (h : wE E X te ρ fun _ a ρ1 => a = x ∧ wE E X tb ρ1 fun _ b ρ2 => b = x ∧ ∀ v, Φ v (.bl true) ρ2) : wE E X (tCallS (sp_law_same K 6) (WE E) (tCons te (tCons tb tNil))) ρ Φ := by
  refine wE_call (wA_cons (wE_imp h fun _ a ρ1 ⟨e, h⟩ => wA_cons (wE_imp h fun _ b ρ2 ⟨e2, hk⟩ => ?_)))
  subst e e2
  refine wA_nil ⟨⟨_, _, rfl, d, d⟩, fun t v ⟨c, e, hc⟩ => ?_, fun er z => z.elim⟩
  rw [e, hc _ _ rfl rfl]
  exact hk v
end
end K09
set_option maxHeartbeats 4000000
namespace K09
open PySem PySem.Spec PyProof.Rows L2 TL TC TD
local macro_rules | `(tactic| walk_at "wk") => `(tactic| repeat' (first
  | with_reducible refine wS_seq ?_
  | with_reducible refine wS_if ?_
  | with_reducible refine wS_next ?_
  | with_reducible refine wS_aug rfl ipOk ?_
  | with_reducible refine wT_not ?_
  | with_reducible refine wT_and ?_
  | with_reducible refine wT_or ?_
  | with_reducible refine wT_test ?_
  | with_reducible refine wT_tru ?_
  | with_reducible refine wT_yes ?_
  | with_reducible refine wE_op addOk ?_
  | with_reducible refine wE_op subOk ?_
  | with_reducible refine wE_op mulOk ?_
  | with_reducible refine wE_op modOk ?_
  | with_reducible refine wE_op divOk ?_
  | with_reducible refine wE_op powOk ?_
  | with_reducible refine wE_op ltOk ?_
  | with_reducible refine wE_op leOk ?_
  | with_reducible refine wE_op gtOk ?_
  | with_reducible refine wE_op geOk ?_
  | with_reducible refine wE_op isOk ?_
  | with_reducible refine wE_op isNotOk ?_
  | with_reducible refine wE_op ixOk ?_
  | with_reducible refine wE_un negOk ?_
  | with_reducible refine wE_cb intOk ?_
  | with_reducible refine wE_cb absOk ?_
  | with_reducible refine wE_cb maxOk ?_
  | with_reducible refine wE_cb minOk ?_
  | with_reducible refine wE_cb lenOk ?_
  | with_reducible refine wE_cb sumOk ?_
  | with_reducible refine wE_cb allOk ?_
  | with_reducible refine wE_cb dvmOk ?_
  | with_reducible refine wE_sl ?_
  | with_reducible refine wO_none ?_
  | with_reducible refine wO_some ?_
  | with_reducible refine wE_tup ?_
  | with_reducible refine wE_lstD ?_
  | with_reducible refine wE_listD ?_
  | refine gIxT 0 rfl rfl ?_
  | refine gIxT 1 rfl rfl ?_
  | refine And.intro (sm1000 (Nat.le_of_ble_eq_true rfl)) ?_
  | with_reducible refine wE_if ?_
  | with_reducible refine wE_int ?_
  | with_reducible refine wE_bl ?_
  | with_reducible refine wE_str ?_
  | with_reducible refine wE_non ?_
  | refine wE_x rfl ?_
  | refine wE_v rfl ?_
  | with_reducible refine wA_cons ?_
  | with_reducible refine wA_nil ?_
  | with_reducible refine gAdd ?_
  | with_reducible refine gSub ?_
  | with_reducible refine gMulL (by omega) (by omega) ?_
  | with_reducible refine gMulR (by omega) (by omega) ?_
  | with_reducible refine gMod (by omega) ?_
  | with_reducible refine gDiv (by omega) (by omega) ?_
  | with_reducible refine gPow (by omega) (by omega) (by omega) ?_
  | with_reducible refine gLt ?_
  | with_reducible refine gLe ?_
  | with_reducible refine gGt ?_
  | with_reducible refine gGe ?_
  | with_reducible refine gNeg ?_
  | with_reducible refine gInt ?_
  | with_reducible refine gAbs ?_
  | with_reducible refine gMax ?_
  | with_reducible refine gMin ?_
  | with_reducible refine gLenL ?_
  | with_reducible refine gLenT ?_
  | with_reducible refine gSlL ?_
  | with_reducible refine gSlT ?_
  | (with_reducible intro (_ : V))
  | with_reducible refine Exists.intro _ (And.intro (rfl : T.bl _ = T.bl _) ?_)
  | with_reducible refine Exists.intro _ (And.intro (rfl : T.int _ = T.int _) ?_)
  | with_reducible refine Exists.intro _ (And.intro (rfl : truT (T.bl _) = some _) ?_)))
/-- no lists within -/
inductive Nl : T → Prop where
  | int (i : Int) : Nl (.int i)
  | bl (c : Bool) : Nl (.bl c)
  | str (s : Str) : Nl (.str s)
  | non : Nl .non
  | tup {ts : List T} (h : ∀ t ∈ ts, Nl t) : Nl (.tup ts)
  | ins {C : Addr} {fs : List Str} {ts : List T} (h : ∀ t ∈ ts, Nl t) : Nl (.ins C fs ts)
theorem repL_map {G G' : Hp} : ∀ {ts : List T} {vs : List V}, (∀ t ∈ ts, ∀ v, Rep G t v → Rep G' t v) → RepL G ts vs → RepL G' ts vs
  | [], _, _, h => h
  | t :: ts, _, hm, ⟨v, r, e, h1, h2⟩ => ⟨v, r, e, hm t (List.mem_cons_self ..) v h1, repL_map (fun t' m => hm t' (List.mem_cons_of_mem _ m)) h2⟩
theorem Nl.away {G : Hp} {L : Addr → Prop} (hL : ∀ a, L a → ∃ xs, G a = some (.lst xs)) {t : T} (h : Nl t) : ∀ v, Rep G t v → Rep (less G L) t v := by
  induction h with
  | int i => exact fun v r => r
  | bl c => exact fun v r => r
  | str s => exact fun v r => r
  | non => exact fun v r => r
  | tup h ih =>
    rintro v ⟨a, vs, rfl, ha, r⟩
    have na : ¬ L a := fun z => by
      obtain ⟨xs, hx⟩ := hL a z
      rcases ha with ha | ⟨o, ha⟩ <;> (rw [hx] at ha; cases ha)
    refine ⟨a, vs, rfl, ?_, repL_map ih r⟩
    rcases ha with ha | ⟨o, ha⟩
    · exact .inl (by rw [less_not na]; exact ha)
    · exact .inr ⟨o, by rw [less_not na]; exact ha⟩
  | ins h ih =>
    rintro v ⟨a, dx, vs, rfl, le, ha, r⟩
    have na : ¬ L a := fun z => by
      obtain ⟨xs, hx⟩ := hL a z
      rw [hx] at ha; cases ha
    exact ⟨a, dx, vs, rfl, le, by rw [less_not na]; exact ha, repL_map ih r⟩
theorem nl_opt (o : Option Nat) : Nl (optN o) := by cases o; exact .non; exact .int _
theorem nl_ints {ns : List Int} : ∀ t ∈ ns.map T.int, Nl t := fun t h => by
  obtain ⟨n, _, rfl⟩ := List.mem_map.mp h
  exact .int n
theorem nl_mo (m : Mo) : Nl (moT m) := by
  refine .tup fun t ht => ?_
  simp only [List.mem_cons, List.not_mem_nil, or_false] at ht
  rcases ht with rfl | rfl | rfl
  · rw [natsT_ints]; exact .tup nl_ints
  · cases m.fr with
    | none => exact .non
    | some f =>
      refine .tup fun t ht => ?_
      simp only [List.mem_cons, List.not_mem_nil, or_false] at ht
      rcases ht with rfl | rfl
      · exact .int _
      · exact .tup nl_ints
  · exact nl_opt _
theorem nl_sk (K : PySem.W.Frag) (S : Sk) : Nl (skT K S) := by
  refine .ins fun t ht => ?_
  have ht : t ∈ [T.int (S.h : Int), .int (S.r : Int), .tup (S.ms.map moT), optN S.bk] := ht
  simp only [List.mem_cons, List.not_mem_nil, or_false] at ht
  rcases ht with rfl | rfl | rfl | rfl
  · exact .int _
  · exact .int _
  · refine .tup fun t ht => ?_
    obtain ⟨m, _, rfl⟩ := List.mem_map.mp ht
    exact nl_mo m
  · exact nl_opt _
section
variable {b : Bs} {G H : Hp} {σ : L2.St} {ρ : TL.Env} {i : Nat}
theorem sta_no (S : Sta b G H σ ρ) (i : Nat) : Sta b G H σ (ρ.set i .no) := by
  refine ⟨S.bh, S.g0, S.gh, S.fr, by rw [List.length_set]; exact S.len, fun j t e => ?_, fun j u t e => ?_, fun j p Pd e => ?_, fun j k p Pd Qd e e' => ?_⟩
  · rcases get_set e with ⟨_, e2, _⟩ | ⟨_, e2⟩
    · cases e2
    · exact S.val j t e2
  · rcases get_set e with ⟨_, e2, _⟩ | ⟨_, e2⟩
    · cases e2
    · exact S.ex j u t e2
  · rcases get_set e with ⟨_, e2, _⟩ | ⟨_, e2⟩
    · cases e2
    · exact S.own j p Pd e2
  · rcases get_set e with ⟨_, e2, _⟩ | ⟨_, e2⟩
    · cases e2
    · rcases get_set e' with ⟨_, e3, _⟩ | ⟨_, e3⟩
      · cases e3
      · exact S.inj j k p Pd Qd e2 e3
theorem wS_no {E : WX} {X : XP} {ts : TS} {P : Post} (i : Nat) (h : wS E X ts (ρ.set i .no) P) : wS E X ts ρ P := fun b G H σ D S k ke => h b G H σ D (sta_no S i) k ke
/-- a list of one's own left alone for a while -/
theorem sta_base (S : Sta b G H σ ρ) {p : Addr} {Pd : List T → Prop} {vs : List V} (e : ρ[i]? = some (.o p Pd)) (hp : H p = some (.lst vs)) : Sta ⟨upd b.B p (.lst vs), b.G⟩ G H σ (ρ.set i .no) := by
  have S1 := sta_no S i
  obtain ⟨_, _, _, _, gp, _⟩ := S.own i p Pd e
  refine ⟨fun a o h => ?_, S1.g0, S1.gh, fun a h n => ?_, S1.len, S1.val, S1.ex, fun j q Qd f => ?_, S1.inj⟩
  · by_cases z : a = p
    · subst z
      have h : upd b.B a (.lst vs) a = some o := h
      rw [upd_same] at h
      rw [← h]; exact hp
    · have h : upd b.B p (.lst vs) a = some o := h
      rw [upd_ne z] at h
      exact S1.bh a o h
  · by_cases z : a = p
    · rw [z]; exact gp
    · have h : upd b.B p (.lst vs) a ≠ none := h
      rw [upd_ne z] at h
      exact S1.fr a h n
  · obtain ⟨ts, ws, a, h, n1, nb, r, q1⟩ := S1.own j q Qd f
    refine ⟨ts, ws, a, h, n1, ?_, r, q1⟩
    rcases get_set f with ⟨_, e2, _⟩ | ⟨ij, e2⟩
    · cases e2
    · have z : q ≠ p := fun z => ij (S.inj i j p Pd Qd e (by rw [← z]; exact e2))
      show upd b.B p (.lst vs) q = none
      rw [upd_ne z]
      exact nb
end
/-- the names of the law -/
abbrev rhoL (u : V) (sc : T) (s1 : Sl) (gr : Bool) (k : Nat) (pb : Addr) (n : Nat) (sp ar : T) (s7 s8 s9 s10 s11 : Sl) : TL.Env := [.x u sc, s1, .v (.bl gr), .v (.int k), .o pb (Bx n), .v sp, .v ar, s7, s8, s9, s10, s11]
theorem thaw {b : Bs} {G H G5 H5 G6 : Hp} {σ : L2.St} {u : V} {sc sp ar f5 : T} {pm pb : Addr} {Pm : List T → Prop} {gr : Bool} {k n n' : Nat} {vsm : List V} {us : List T} {v7 v8 : V} {s7 : Sl}
    (S : Sta b G H σ (rhoL u sc (.o pm Pm) gr k pb n sp ar .no .no .no .no .no)) (rm : RepL G us vsm) (qm : Pm us) (gm : G pm = none) (bm : b.B pm = none) (l65 : Le G6 G5) (l06 : Le G G6)
    (S5 : Sta ⟨upd b.B pm (.lst vsm), b.G⟩ G5 H5 ((σ.set 7 (some v7)).set 8 (some v8)) (rhoL u sc .no gr k pb n' sp ar s7 (.v f5) .no .no .no)) (r8 : Rep G6 f5 v8) (s7' : Sl) (h7 : s7' = .no ∨ ∃ t, s7' = .x v7 t ∧ Rep G6 t v7) :
    Sta b G6 H5 ((σ.set 7 (some v7)).set 8 (some v8)) (rhoL u sc (.o pm Pm) gr k pb n' sp ar s7' (.v f5) .no .no .no) := by
  have sl : σ.length = 12 := S.len
  have bp : upd b.B pm (.lst vsm) pm ≠ none := by rw [upd_same]; exact fun z => nomatch z
  have g5m : G5 pm = none := S5.fr pm bp (S.g0.back gm)
  obtain ⟨bs, bv, ab, hb, gb, bb, rb, qb⟩ := S5.own 4 pb (Bx n') rfl
  have nbm : pb ≠ pm := fun z => by rw [z] at bb; exact bp bb
  have bb : b.B pb = none := by rw [← upd_ne (o := .lst vsm) (H := b.B) nbm]; exact bb
  have old : ∀ j, j ≠ 7 → j ≠ 8 → ((σ.set 7 (some v7)).set 8 (some v8))[j]? = σ[j]? := fun j h1 h2 => by rw [List.getElem?_set_ne (Ne.symm h2), List.getElem?_set_ne (Ne.symm h1)]
  have e8 : ((σ.set 7 (some v7)).set 8 (some v8))[8]? = some (some v8) := set_get (by rw [List.length_set, sl]; decide)
  have e7 : ((σ.set 7 (some v7)).set 8 (some v8))[7]? = some (some v7) := by rw [List.getElem?_set_ne (by decide)]; exact set_get (by rw [sl]; decide)
  refine ⟨fun a o h => S5.bh a o (Le.new bm a o h), S.g0.tr l06, l65.tr S5.gh, fun a h1 h2 => l65.back (S5.fr a ((Le.new bm).some h1) h2), S5.len, fun j t e => ?_, fun j w t e => ?_, fun j q Qd e => ?_, fun j j' q Pd Qd e e' => ?_⟩
  · have o1 : ∀ (j : Nat) (t : T), j ≠ 7 → j ≠ 8 → (rhoL u sc (.o pm Pm) gr k pb n sp ar .no .no .no .no .no)[j]? = some (.v t) → ∃ v, ((σ.set 7 (some v7)).set 8 (some v8))[j]? = some (some v) ∧ Rep G6 t v := fun j t h1 h2 h3 => by
      obtain ⟨v, a, r⟩ := S.val j t h3
      exact ⟨v, by rw [old j h1 h2]; exact a, r.up l06⟩
    match j, e with
    | 2, e => exact o1 _ t (by decide) (by decide) e
    | 3, e => exact o1 _ t (by decide) (by decide) e
    | 5, e => exact o1 _ t (by decide) (by decide) e
    | 6, e => exact o1 _ t (by decide) (by decide) e
    | 7, e =>
      rcases h7 with rfl | ⟨t', rfl, _⟩ <;> cases e
    | 8, e => cases e; exact ⟨v8, e8, r8⟩
    | j + 12, e => cases e
  · match j, e with
    | 0, e =>
      obtain ⟨a, r⟩ := S.ex 0 w t e
      exact ⟨by rw [old 0 (by decide) (by decide)]; exact a, r.up l06⟩
    | 7, e =>
      rcases h7 with rfl | ⟨t', rfl, r7⟩
      · cases e
      · cases e; exact ⟨e7, r7⟩
    | j + 12, e => cases e
  · match j, e with
    | 1, e =>
      cases e
      obtain ⟨_, _, am, _⟩ := S.own 1 pm Pm rfl
      exact ⟨us, vsm, by rw [old 1 (by decide) (by decide)]; exact am, S5.bh pm _ upd_same, l65.back g5m, bm, rm.up l06, qm⟩
    | 4, e => cases e; exact ⟨bs, bv, ab, hb, l65.back gb, bb, bx_flat _ _ qb rb, qb⟩
    | 7, e => rcases h7 with rfl | ⟨t', rfl, _⟩ <;> cases e
    | j + 12, e => cases e
  · have n7 : ∀ q Pd, s7' ≠ Sl.o q Pd := fun q Pd z => by rcases h7 with rfl | ⟨t', rfl, _⟩ <;> cases z
    match j, j', e, e' with
    | 1, 1, _, _ => rfl
    | 4, 4, _, _ => rfl
    | 1, 4, e, e' => cases e; cases e'; exact absurd rfl nbm
    | 4, 1, e, e' => cases e; cases e'; exact absurd rfl nbm
    | 7, _, e, _ => exact absurd (Option.some.inj e) (n7 _ _)
    | 1, 7, _, e => exact absurd (Option.some.inj e) (n7 _ _)
    | 4, 7, _, e => exact absurd (Option.some.inj e) (n7 _ _)
    | j + 12, _, e, _ => cases e
    | 1, j + 12, _, e => cases e
    | 4, j + 12, _, e => cases e
end K09
set_option maxHeartbeats 4000000
namespace K09
open PySem PySem.Spec PyProof.Rows L2 TL TC TD
local macro_rules | `(tactic| walk_at "wk") => `(tactic| repeat' (first
  | with_reducible refine wS_seq ?_
  | with_reducible refine wS_if ?_
  | with_reducible refine wS_next ?_
  | with_reducible refine wS_aug rfl ipOk ?_
  | with_reducible refine wT_not ?_
  | with_reducible refine wT_and ?_
  | with_reducible refine wT_or ?_
  | with_reducible refine wT_test ?_
  | with_reducible refine wT_tru ?_
  | with_reducible refine wT_yes ?_
  | with_reducible refine wE_op addOk ?_
  | with_reducible refine wE_op subOk ?_
  | with_reducible refine wE_op mulOk ?_
  | with_reducible refine wE_op modOk ?_
  | with_reducible refine wE_op divOk ?_
  | with_reducible refine wE_op powOk ?_
  | with_reducible refine wE_op ltOk ?_
  | with_reducible refine wE_op leOk ?_
  | with_reducible refine wE_op gtOk ?_
  | with_reducible refine wE_op geOk ?_
  | with_reducible refine wE_op isOk ?_
  | with_reducible refine wE_op isNotOk ?_
  | with_reducible refine wE_op ixOk ?_
  | with_reducible refine wE_un negOk ?_
  | with_reducible refine wE_cb intOk ?_
  | with_reducible refine wE_cb absOk ?_
  | with_reducible refine wE_cb maxOk ?_
  | with_reducible refine wE_cb minOk ?_
  | with_reducible refine wE_cb lenOk ?_
  | with_reducible refine wE_cb sumOk ?_
  | with_reducible refine wE_cb allOk ?_
  | with_reducible refine wE_cb dvmOk ?_
  | with_reducible refine wE_sl ?_
  | with_reducible refine wO_none ?_
  | with_reducible refine wO_some ?_
  | with_reducible refine wE_tup ?_
  | with_reducible refine wE_lstD ?_
  | with_reducible refine wE_listD ?_
  | refine gIxT 0 rfl rfl ?_
  | refine gIxT 1 rfl rfl ?_
  | refine And.intro (sm1000 (Nat.le_of_ble_eq_true rfl)) ?_
  | with_reducible refine wE_if ?_
  | with_reducible refine wE_int ?_
  | with_reducible refine wE_bl ?_
  | with_reducible refine wE_str ?_
  | with_reducible refine wE_non ?_
  | refine wE_x rfl ?_
  | refine wE_v rfl ?_
  | with_reducible refine wA_cons ?_
  | with_reducible refine wA_nil ?_
  | with_reducible refine gAdd ?_
  | with_reducible refine gSub ?_
  | with_reducible refine gMulL (by omega) (by omega) ?_
  | with_reducible refine gMulR (by omega) (by omega) ?_
  | with_reducible refine gMod (by omega) ?_
  | with_reducible refine gDiv (by omega) (by omega) ?_
  | with_reducible refine gPow (by omega) (by omega) (by omega) ?_
  | with_reducible refine gLt ?_
  | with_reducible refine gLe ?_
  | with_reducible refine gGt ?_
  | with_reducible refine gGe ?_
  | with_reducible refine gNeg ?_
  | with_reducible refine gInt ?_
  | with_reducible refine gAbs ?_
  | with_reducible refine gMax ?_
  | with_reducible refine gMin ?_
  | with_reducible refine gLenL ?_
  | with_reducible refine gLenT ?_
  | with_reducible refine gSlL ?_
  | with_reducible refine gSlT ?_
  | (with_reducible intro (_ : V))
  | with_reducible refine Exists.intro _ (And.intro (rfl : T.bl _ = T.bl _) ?_)
  | with_reducible refine Exists.intro _ (And.intro (rfl : T.int _ = T.int _) ?_)
  | with_reducible refine Exists.intro _ (And.intro (rfl : truT (T.bl _) = some _) ?_)))
theorem raws2 {G : Hp} : ∀ ws : List V, RepL G (ws.map T.raw) ws
  | [] => rfl
  | w :: ws => ⟨w, ws, rfl, rfl, raws2 ws⟩
theorem wF_madeE {K : PySem.W.Frag} {E : WX} {X : XP} {ρ : TL.Env} {Ψ : List T → TL.Env → Prop} {x s m k : T} {ws : List V} {t : TA} (h : wA E X t ρ fun _ ts ρ1 => (∃ c, ts = [dgL ws [x, s, m, k], .bl c]) ∧ (DD x ∧ DD s ∧ DD m ∧ DD k) ∧ Ψ (madV K ws x s m k) ρ1) : wF E X (tCallS (sp_law_made K) (WE E) t) ρ Ψ := fun b G H σ Q S q ke =>
  h b G H σ _ S (fun vs ts ρ1 G1 H1 ⟨⟨c, e⟩, ⟨d1, d2, d3, d4⟩, h2⟩ r1 S1 l1 => by
    subst e
    obtain ⟨v, r1, rfl, a2, w, r2, rfl, a3, rfl⟩ := r1
    cases a3
    obtain ⟨G0, l0, A, rfl, hA, rL⟩ := a2
    exact ⟨x, s, m, k, ws, A, c, G1, rfl, l0 _ _ hA, rL.up l0, S1.gh, d1, d2, d3, d4, fun p us G' H' hp gp hn r g => q p us _ ρ1 G' H' h2 hp gp (S1.bh.back hn) r (fun j Qd e => by
      obtain ⟨ts2, vs2, a2, e2, _⟩ := S1.own j p Qd e
      rw [hn] at e2; cases e2) (S1.grow g) (l1.tr g.g)⟩) ke
/-- passed = _law_twin(args); found = _law_made(passed, ..); both looked at, passed[2] changed -/
theorem passed_ok {K : PySem.W.Frag} {E : XK} {X : XP} {P : Post} {rest : TS} {u : V} {sc sp : T} {pm pb : Addr} {Pm : List T → Prop} {gr : Bool} {k n : Nat} {S : Sk} {l : Bool} (ok : SkOk S)
    (h : ∀ s7, (∀ q Pd, s7 ≠ Sl.o q Pd) → wS (WD E) X rest (rhoL u sc (.o pm Pm) gr k pb n sp (.lst (argT S l)) s7 (.v (.lst [.str "told", skT K S])) .no .no .no) P) :
    wS (WD E) X (tSeq (tAsg (tCallS (sp_law_twin K 6) (WE (WD E)) (tCons (tVar 6) tNil)) (gName 7))
      (tSeq (tAsg (tCallS (sp_law_made K) (WE (WD E)) (tCons (tVar 7) (tCons (tOp (rEqQ K) (tCallS (sp_law_take K) (WE (WD E)) (tCons (tVar 4) (tCons (tC (.int 2)) tNil))) (tC (.int 0))) tNil))) (gName 8))
      (tSeq (tIfS (tOr (tTest (tOp (rNeU K) (tOp (rIx K) (tVar 8) (tC (.int 0))) (tC (.str "told")))) (tNot (tTruU K (tCallS (sp_law_same K 6) (WE (WD E)) (tCons (tVar 7) (tCons (tVar 6) tNil)))))) (tRet (tC (.bl false))) tNext)
      (tSeq (tIfS (tTruU K (tCB (rIsiU K) (tCons (tOp (rIx K) (tVar 7) (tC (.int 2))) (tCons (tC (.ty "list")) tNil)))) (tSeq (tDrop (tBM K "list" rAppend (tOp (rIx K) (tVar 7) (tC (.int 2))) (tCons (tTup (tCons (tTup (tCons (tC (.int 0)) tNil)) (tCons (tC .non) (tCons (tC .non) tNil)))) tNil)))
      (tDrop (tBM0 K "list" rReverse (tOp (rIx K) (tVar 7) (tC (.int 2)))))) tNext) rest))))
      (rhoL u sc (.o pm Pm) gr k pb (n + 1) sp (.lst (argT S l)) .no .no .no .no .no) P := fun b G H σ D Sx kd ke => by
  have m24 := ok.m24
  have m1 := ok.m1
  have da : Dat 130 6 (.lst (argT S l)) := .lst (by show 4 ≤ 130; decide) (d_args ok l).d
  have d2 : Dat 130 5 (if l then T.lst (S.ms.map moT) else .tup (S.ms.map moT)) := (d_args ok l).d _ (List.mem_cons_of_mem _ (List.mem_cons_of_mem _ (List.mem_cons_self ..)))
  have lsq : (if l then T.lst (S.ms.map moT) else .tup (S.ms.map moT)) = .lst (S.ms.map moT) ∨ (if l then T.lst (S.ms.map moT) else .tup (S.ms.map moT)) = .tup (S.ms.map moT) := by
    cases l
    · exact .inr rfl
    · exact .inl rfl
  obtain ⟨us, vsm, am, hm, gm, bm, rm, qm⟩ := Sx.own 1 pm Pm rfl
  obtain ⟨_, bvx, abx, hbx, gbx, _⟩ := Sx.own 4 pb (Bx (n + 1)) rfl
  have S0 := sta_base Sx (i := 1) rfl hm
  obtain ⟨v6, a6, r6⟩ := Sx.val 6 _ rfl
  refine ⟨v6, a6, .lst (argT S l), v6, G, rfl, r6, S0.gh, da, fun v' F H1 tw lF lH => ?_⟩
  obtain ⟨A, ws, L, rfl, AA⟩ := tw.sep _ rfl
  have Lf : ∀ a, L a → H a = none := fun a ha => by
    obtain ⟨xs, hx⟩ := AA.onF a ha
    rcases tw.fresh a _ hx with h | ⟨⟨kv, h⟩, _⟩
    · exact h
    · cases h
  have lj : Le G (joinG G F) := joinG_l G F
  have lFj : Le F (joinG G F) := joinG_r (S0.gh.tr lH) lF
  have S1 := (S0.grow (twin_grow S0.gh tw lF lH)).setx 7 (show Rep (joinG G F) (dgF F A) (.ref A) from ⟨joinG G F, fun _ _ h => h, rfl, fun a o h => lFj a o h⟩)
  generalize joinG G F = G1 at lj lFj S1
  have c2 : ∀ G, Rep G (dgF F A) (.ref A) → Rep G (.lst (argT S l)) (.ref A) := fun G r => ⟨A, ws, rfl, (rep_dgF r).2 _ _ AA.at_, AA.repL.up (rep_dgF r).2⟩
  have c3 : ∀ G, Rep G (dgF F A) (.ref A) → Rep G (dgL ws (argT S l)) (.ref A) := fun G r => ⟨G, fun _ _ h => h, A, rfl, (rep_dgF r).2 _ _ AA.at_, AA.repL.up (rep_dgF r).2⟩
  obtain ⟨bd1, bd2⟩ := bad_args ok lsq
  have mv : madV K ws (.int (S.h : Int)) (.int (S.r : Int)) (if l then T.lst (S.ms.map moT) else .tup (S.ms.map moT)) (optN S.bk) = [.str "told", skT K S] := by
    unfold madV
    rw [bd1, bd2]
    rfl
  have hmade : TL.wF (WD E) (fun _ _ => False) (tCallS (sp_law_made K) (WE (WD E)) (tCons (tVar 7) (tCons (tOp (rEqQ K) (tCallS (sp_law_take K) (WE (WD E)) (tCons (tVar 4) (tCons (tC (.int 2)) tNil))) (tC (.int 0))) tNil))) (rhoL u sc .no gr k pb (n + 1) sp (.lst (argT S l)) (.x (.ref A) (dgF F A)) .no .no .no .no) fun ts ρ' => ts = [.str "told", skT K S] ∧ ρ' = rhoL u sc .no gr k pb n sp (.lst (argT S l)) (.x (.ref A) (dgF F A)) .no .no .no .no := by
    refine wF_madeE (x := .int (S.h : Int)) (s := .int (S.r : Int)) (m := if l then T.lst (S.ms.map moT) else .tup (S.ms.map moT)) (k := optN S.bk) (ws := ws) (wA_cons (wE_xc rfl c3 (wA_cons (wE_op eqQOk (wE_tki n rfl 2 rfl (by omega) (by omega) fun d hd _ => wE_int (gEqI fun _ => wA_nil ⟨⟨_, rfl⟩, ⟨⟨1, .int _⟩, ⟨1, .int _⟩, ⟨_, d2⟩, ⟨1, dO _⟩⟩, ?_⟩))))))
    exact ⟨mv, rfl⟩
  refine wF_fr hmade S1 (fun p vs ts ρ' G2 H2 ⟨hts, hρ⟩ hp gp bp cp rp no S2 l2 kp => ?_) (fun _ _ _ _ _ x => x.elim)
  subst hts hρ
  have pL : ¬ L p := fun z => by
    obtain ⟨xs, hx⟩ := AA.onF p z
    rw [l2 _ _ (lFj _ _ hx)] at gp
    cases gp
  obtain ⟨l3, S3⟩ := S2.freezeNew hp gp bp no
  have hp3 : upd G2 p (.lst vs) p = some (.lst vs) := upd_same
  have rp3 := rp.up l3
  generalize upd G2 p (.lst vs) = G3 at l3 S3 hp3 rp3
  have S4 := S3.setv 8 (t := .lst [.str "told", skT K S]) (v := .ref p) ⟨p, vs, rfl, hp3, rp3⟩
  have hT : wT (WD E) (fun _ _ => False) (tOr (tTest (tOp (rNeU K) (tOp (rIx K) (tVar 8) (tC (.int 0))) (tC (.str "told")))) (tNot (tTruU K (tCallS (sp_law_same K 6) (WE (WD E)) (tCons (tVar 7) (tCons (tVar 6) tNil)))))) (rhoL u sc .no gr k pb n sp (.lst (argT S l)) (.x (.ref A) (dgF F A)) (.v (.lst [.str "told", skT K S])) .no .no .no) fun c ρ' => c = false ∧ ρ' = rhoL u sc .no gr k pb n sp (.lst (argT S l)) (.x (.ref A) (dgF F A)) (.v (.lst [.str "told", skT K S])) .no .no .no := by
    refine wT_or (wT_test (wE_op neOk (wE_op ixOk (wE_v rfl fun _ => wE_int (gIxL 0 rfl rfl fun _ => wE_str (gNeS fun _ => ⟨_, rfl, ?_⟩))))))
    rw [decide_eq_true (rfl : ("told" : Str) = "told")]
    exact ite_f (wT_not (wT_tru (wE_same1 da (wE_xc rfl c2 ⟨rfl, wE_v rfl fun _ => ⟨rfl, fun _ => ⟨true, rfl, rfl, rfl⟩⟩⟩))))
  refine hT _ G3 H2 _ _ S4 (fun c ρ' G4 H4 ⟨hc, e⟩ S5 l4 => ?_) (fun _ _ _ _ _ x => x.elim)
  subst hc e
  refine ite_f ?_
  have hT2 : wT (WD E) (fun _ _ => False) (tTruU K (tCB (rIsiU K) (tCons (tOp (rIx K) (tVar 7) (tC (.int 2))) (tCons (tC (.ty "list")) tNil)))) (rhoL u sc .no gr k pb n sp (.lst (argT S l)) (.x (.ref A) (dgF F A)) (.v (.lst [.str "told", skT K S])) .no .no .no) fun c ρ' => c = l ∧ ρ' = rhoL u sc .no gr k pb n sp (.lst (argT S l)) (.x (.ref A) (dgF F A)) (.v (.lst [.str "told", skT K S])) .no .no .no := by
    refine wT_tru (wE_isi (wE_op ixOk (wE_xc rfl c2 (wE_int (gIxL 2 rfl rfl fun _ => ⟨d2.ok1, by decide, fun _ => ⟨_, rfl, ?_, rfl⟩⟩)))))
    cases l <;> rfl
  refine hT2 _ G4 H4 _ _ S5 (fun c ρ' G5 H5 ⟨hc, e⟩ S6 l5 => ?_) (fun _ _ _ _ _ x => x.elim)
  subst hc e
  have l35 : Le G3 G5 := l4.tr l5
  have l15 : Le G1 G5 := (l2.tr l3).tr l35
  have l05 : Le G G5 := lj.tr l15
  cases c with
  | false =>
    refine ite_f ?_
    have S7 := thaw Sx rm qm gm bm Le.rfl l05 S6 ⟨p, vs, rfl, l35 _ _ hp3, rp3.up l35⟩ .no (.inl rfl)
    exact h .no (fun _ _ e => nomatch e) b G5 H5 _ D S7 (kd.up l05) fun σ => (ke σ).up l05
  | true =>
    refine ite_t ?_
    have hLa : ∀ a, L a → ∃ xs, G5 a = some (.lst xs) := fun a ha => by
      obtain ⟨xs, hx⟩ := AA.onF a ha
      exact ⟨xs, l15 _ _ (lFj _ _ hx)⟩
    have l06 : Le G (less G5 L) := fun a o e => by
      rw [less_not fun z => by rw [Sx.gh.back (Lf a z)] at e; cases e]
      exact l05 a o e
    have gA : less G5 L A = some (.lst ws) := by rw [less_not AA.nA]; exact l15 _ _ (lFj _ _ AA.at_)
    have r8 : Rep (less G5 L) (.lst [.str "told", skT K S]) (.ref p) := ⟨p, vs, rfl, by rw [less_not pL]; exact l35 _ _ hp3, repL_map (fun t ht v r => by
      simp only [List.mem_cons, List.not_mem_nil, or_false] at ht
      rcases ht with rfl | rfl
      · exact (Nl.str _).away hLa v r
      · exact (nl_sk K S).away hLa v r) (rp3.up l35)⟩
    have S7 := thaw Sx rm qm gm bm (less_le G5 L) l06 S6 r8 (.x (.ref A) (.lst (ws.map T.raw))) (.inr ⟨_, rfl, A, ws, rfl, gA, raws2 ws⟩)
    obtain ⟨a2, xs2, hw2, La2, Fa2, rx2⟩ := AA.lst 2 (S.ms.map moT) rfl
    have h5 : H5 a2 = some (.lst xs2) := S6.gh _ _ (l15 _ _ (lFj _ _ Fa2))
    have g2 : less G5 L a2 = none := less_on La2
    have b2 : b.B a2 = none := Sx.bh.back (Lf a2 La2)
    have pm2 : pm ≠ a2 := fun z => by rw [z, Lf a2 La2] at hm; cases hm
    have pb2 : pb ≠ a2 := fun z => by rw [z, Lf a2 La2] at hbx; cases hbx
    have no2 : ¬ Own (rhoL u sc (.o pm Pm) gr k pb n sp (.lst (argT S true)) (.x (.ref A) (.lst (ws.map T.raw))) (.v (.lst [.str "told", skT K S])) .no .no .no) a2 := fun ⟨j, Pd, e⟩ => by
      match j, e with
      | 1, e => cases e; exact pm2 rfl
      | 4, e => cases e; exact pb2 rfl
      | j + 12, e => cases e
    have lx2 : xs2.length ≤ 24 := by rw [rx2.len, List.length_map]; omega
    obtain ⟨s7, _⟩ := S7.ex 7 _ _ rfl
    generalize less G5 L = G6 at l06 gA r8 S7 g2
    refine ⟨_, s7, .inl ⟨A, ws, 2, .ref a2, rfl, rfl, SqL.of (S7.gh _ _ gA), atI_nat (j := 2) hw2, .inl ⟨rfl, xs2, SqL.of h5⟩, ?_⟩⟩
    have he : wE (WD E) (fun _ _ => False) (tTup (tCons (tTup (tCons (tC (.int 0)) tNil)) (tCons (tC .non) (tCons (tC .non) tNil)))) (rhoL u sc (.o pm Pm) gr k pb n sp (.lst (argT S true)) (.x (.ref A) (.lst (ws.map T.raw))) (.v (.lst [.str "told", skT K S])) .no .no .no) fun _ _ ρ' => ρ' = rhoL u sc (.o pm Pm) gr k pb n sp (.lst (argT S true)) (.x (.ref A) (.lst (ws.map T.raw))) (.v (.lst [.str "told", skT K S])) .no .no .no := by
      walk_at "wk"
      rfl
    refine TL.wE_fr he S7 (fun v t ρ' G7 H7 e rt S8 l7 kp7 => ?_) (fun _ _ _ _ _ x => x.elim)
    subst e
    have h7 : H7 a2 = some (.lst xs2) := kp7.h a2 _ no2 h5
    have g7 : G7 a2 = none := kp7.g a2 no2 (by rw [h5]; exact fun z => nomatch z) g2
    refine ⟨a2, xs2, v, rfl, rfl, h7, Nat.lt_of_lt_of_le (by omega : xs2.length < 1000) (by decide), ?_⟩
    have S9 := S8.wrNew (o := .lst (xs2 ++ [v])) g7 b2 no2
    refine ⟨_, s7, .inl ⟨A, ws, 2, .ref a2, rfl, rfl, SqL.of (S9.gh _ _ (l7 _ _ gA)), atI_nat (j := 2) hw2, .inl ⟨rfl, _, SqL.of upd_same⟩, a2, _, rfl, rfl, upd_same, ?_⟩⟩
    exact h (.x (.ref A) (.lst (ws.map T.raw))) (fun _ _ e => nomatch e) b G7 _ _ D (S9.wrNew g7 b2 no2) (kd.up (l06.tr l7)) fun σ => (ke σ).up (l06.tr l7)
end K09
set_option maxHeartbeats 4000000
namespace K09
open PySem PySem.Spec PyProof.Rows L2 TL TC TD
local macro_rules | `(tactic| walk_at "wk") => `(tactic| repeat' (first
  | with_reducible refine wS_seq ?_
  | with_reducible refine wS_if ?_
  | with_reducible refine wS_next ?_
  | with_reducible refine wS_aug rfl ipOk ?_
  | with_reducible refine wT_not ?_
  | with_reducible refine wT_and ?_
  | with_reducible refine wT_or ?_
  | with_reducible refine wT_test ?_
  | with_reducible refine wT_tru ?_
  | with_reducible refine wT_yes ?_
  | with_reducible refine wE_op addOk ?_
  | with_reducible refine wE_op subOk ?_
  | with_reducible refine wE_op mulOk ?_
  | with_reducible refine wE_op modOk ?_
  | with_reducible refine wE_op divOk ?_
  | with_reducible refine wE_op powOk ?_
  | with_reducible refine wE_op ltOk ?_
  | with_reducible refine wE_op leOk ?_
  | with_reducible refine wE_op gtOk ?_
  | with_reducible refine wE_op geOk ?_
  | with_reducible refine wE_op isOk ?_
  | with_reducible refine wE_op isNotOk ?_
  | with_reducible refine wE_op ixOk ?_
  | with_reducible refine wE_un negOk ?_
  | with_reducible refine wE_cb intOk ?_
  | with_reducible refine wE_cb absOk ?_
  | with_reducible refine wE_cb maxOk ?_
  | with_reducible refine wE_cb minOk ?_
  | with_reducible refine wE_cb lenOk ?_
  | with_reducible refine wE_cb sumOk ?_
  | with_reducible refine wE_cb allOk ?_
  | with_reducible refine wE_cb dvmOk ?_
  | with_reducible refine wE_sl ?_
  | with_reducible refine wO_none ?_
  | with_reducible refine wO_some ?_
  | with_reducible refine wE_tup ?_
  | with_reducible refine wE_lstD ?_
  | with_reducible refine wE_listD ?_
  | refine gIxT 0 rfl rfl ?_
  | refine gIxT 1 rfl rfl ?_
  | refine And.intro (sm1000 (Nat.le_of_ble_eq_true rfl)) ?_
  | with_reducible refine wE_if ?_
  | with_reducible refine wE_int ?_
  | with_reducible refine wE_bl ?_
  | with_reducible refine wE_str ?_
  | with_reducible refine wE_non ?_
  | refine wE_x rfl ?_
  | refine wE_v rfl ?_
  | with_reducible refine wA_cons ?_
  | with_reducible refine wA_nil ?_
  | with_reducible refine gAdd ?_
  | with_reducible refine gSub ?_
  | with_reducible refine gMulL (by omega) (by omega) ?_
  | with_reducible refine gMulR (by omega) (by omega) ?_
  | with_reducible refine gMod (by omega) ?_
  | with_reducible refine gDiv (by omega) (by omega) ?_
  | with_reducible refine gPow (by omega) (by omega) (by omega) ?_
  | with_reducible refine gLt ?_
  | with_reducible refine gLe ?_
  | with_reducible refine gGt ?_
  | with_reducible refine gGe ?_
  | with_reducible refine gNeg ?_
  | with_reducible refine gInt ?_
  | with_reducible refine gAbs ?_
  | with_reducible refine gMax ?_
  | with_reducible refine gMin ?_
  | with_reducible refine gLenL ?_
  | with_reducible refine gLenT ?_
  | with_reducible refine gSlL ?_
  | with_reducible refine gSlT ?_
  | (with_reducible intro (_ : V))
  | with_reducible refine Exists.intro _ (And.intro (rfl : T.bl _ = T.bl _) ?_)
  | with_reducible refine Exists.intro _ (And.intro (rfl : T.int _ = T.int _) ?_)
  | with_reducible refine Exists.intro _ (And.intro (rfl : truT (T.bl _) = some _) ?_)))
section
variable {K : PySem.W.Frag} {E : WX} {X : XP} {ρ : TL.Env} {te ta tb : TE} {Φ : V → T → TL.Env → Prop} {i j m : Nat} {P : Post} {p : Addr}
theorem wE_callO2 {ι : Type} {Pa Pb : ι → List T → Prop} {Pd0 : List T → Prop} {pre : List T → Prop} {post : List T → T → Prop} {xc : List V → List T → Er → Prop} {ta : TA} (n : ι) (e : ρ[i]? = some (.o p Pd0)) (h : wA E X ta ρ fun vs ts ρ1 => ρ1[i]? = some (.o p (Pa n)) ∧ pre ts ∧ (∀ t v, post ts t → Φ v t (ρ1.set i (.o p (Pb n)))) ∧ ∀ er, xc vs ts er → X er (ρ1.set i (.o p (Pb n)))) :
    wE E X (tCallS (sO Pa Pb pre post xc) (WE E) (tCons (tVar i) ta)) ρ Φ := fun b G H σ Q S q ke => by
  obtain ⟨bs, bv, hs, _⟩ := S.own i p _ e
  refine ⟨_, hs, h b G H σ _ S (fun vs ts ρ1 G1 H1 ⟨h0, h1, h2, h3⟩ r1 S1 l1 => ?_) ke⟩
  obtain ⟨bs1, bv1, hs1, hp1, gp1, nb1, rb1, q1⟩ := S1.own i p _ h0
  exact ⟨n, p, bs1, bv1, vs, ts, G1, rfl, hp1, gp1, rb1, q1, r1, S1.gh, h1, fun t v bs' bv' G' H' po r hp' rb' q' g => q v t _ G' H' (h2 t v po) r (S1.growP h0 g hp' rb' q') (l1.tr g.g),
    fun er od bs' bv' G' H' po a hp' rb' q' g => ke er _ od G' H' (h3 er po) a (S1.growP h0 g hp' rb' q') (l1.tr g.g)⟩
theorem wE_andB (ha : ∀ Φ' : V → T → TL.Env → Prop, (∀ (c : Bool) v, Φ' v (.bl c) ρ) → wE E X ta ρ Φ') (hb : ∀ Φ' : V → T → TL.Env → Prop, (∀ (c : Bool) v, Φ' v (.bl c) ρ) → wE E X tb ρ Φ') (h : ∀ (c : Bool) v, Φ v (.bl c) ρ) : wE E X (tAndV ta tb) ρ Φ :=
  wE_andV (ha _ fun c v => ⟨c, rfl, ite_c (fun _ => hb _ h) fun _ => h false⟩)
/-- a cell of the script -/
theorem wE_cell {u : V} {ts : T} {ns : List Int} {tk : TE} (hs : ScrT K ts ns) (e : ρ[i]? = some (.x u ts)) (h : wE E X tk ρ fun _ t ρ1 => ρ1 = ρ ∧ ∃ k : Nat, t = .int k ∧ k ≤ 1000 ∧ ∀ z : Int, ∀ v, Φ v (.int z) ρ) : wE E X (tCallS (sp_law_cell K) (WE E) (tCons (tVar i) (tCons tk tNil))) ρ Φ := by
  refine wE_call (wA_cons (wE_x e (wA_cons (wE_imp h fun _ t ρ1 ⟨e1, k, e2, hk, hh⟩ => ?_))))
  subst e1 e2
  refine wA_nil ⟨⟨ns, ts, k, rfl, hs, hk⟩, fun t v ⟨z, ez⟩ => ?_, fun er z => z.elim⟩
  rw [ez]
  exact hh z v
end
/-- what is kept of each turn -/
def Kept (K : PySem.W.Frag) (i : Nat) : List T → Prop := fun ts => ∃ rows : List (Sk × Bool), ts = rows.map (fun r => .lst [skT K r.1, .lst (argT r.1 r.2)]) ∧ (∀ r ∈ rows, SkOk r.1) ∧ rows.length ≤ i
theorem r_the_law {K : PySem.W.Frag} (vs : List V) (H : Hp) (Q : VK) (E : XK) (h : sp_law K vs H Q E) : t_the_law K E { nx := fun _ H' => Q .non H', rt := Q } (L2.start N_the_law vs) H := by
  unfold sp_law TD.sp_law at h
  refine run_sP h fun ts hv ⟨ns, sc, e, hs, hn⟩ => ?_
  subst e
  obtain ⟨u, rfl⟩ := len1 hv
  show wS _ _ _ [Sl.x u sc, .no, .no, .no, .no, .no, .no, .no, .no, .no, .no, .no] _
  unfold t_the_law
  refine wS_seq (wS_parF (wF_lst (wA_nil ⟨by show 0 ≤ sizeLine; decide, wE_op eqQOk (wE_callF 999999 (wF_call (wA_cons (wE_cell hs rfl (wE_int ⟨rfl, 0, rfl, by decide, fun z _ => wA_nil ⟨⟨z, rfl⟩, fun us hb => ⟨hb, wA_cons (wE_int (wA_nil ⟨rfl, ⟨8, rfl, by decide, by decide⟩, fun t v po => ?_, fun er z => z.elim⟩))⟩, fun er z => z.elim⟩⟩)))))⟩)))
  obtain ⟨g, rfl, g0, g8⟩ := po 8 rfl
  refine wE_int (gEqI fun _ => ⟨rfl, fun pm => ?_⟩)
  generalize decide (g = 0) = gr
  refine wS_ow (i := 1) (p := pm) (Kept K 0) rfl (fun ts e => ⟨[], e, (fun r h => nomatch h), Nat.le_refl 0⟩) ?_
  show wS _ _ _ [Sl.x u sc, .o pm (Kept K 0), .v (.bl gr), .no, .no, .no, .no, .no, .no, .no, .no, .no] _
  refine wS_seq (wS_for (wI_range1 (wA_cons (wE_cb maxOk (wA_cons (wE_int (wA_cons (wE_cb minOk (wA_cons (wE_int (wA_cons (wE_lenS hs rfl fun _ => wA_nil (gMin fun _ => wA_nil (gMax fun _ => wA_nil ?_))))))))))))))
  obtain ⟨m, em, m3, m5⟩ : ∃ m : Nat, (if (if (ns.length : Int) < 5 then (ns.length : Int) else 5) > 3 then (if (ns.length : Int) < 5 then (ns.length : Int) else 5) else 3) = (m : Int) ∧ 3 ≤ m ∧ m ≤ 5 := by
    refine ⟨(if (if (ns.length : Int) < 5 then (ns.length : Int) else 5) > 3 then (if (ns.length : Int) < 5 then (ns.length : Int) else 5) else 3).toNat, ?_, ?_, ?_⟩ <;> split <;> split <;> omega
  rw [em]
  refine ⟨(m : Int), rfl, by omega, by omega, fun i ρ => ∃ (Pd : List T → Prop) (s3 s4 s5 s6 s7 s8 s9 s10 : Sl), (∀ ts, Pd ts → Kept K i ts) ∧ ρ = [Sl.x u sc, .o pm Pd, .v (.bl gr), s3, s4, s5, s6, s7, s8, s9, s10, .no], ?_, fun i x ρ2 v hx ⟨Pd, s3, s4, s5, s6, s7, s8, s9, s10, hPd, e⟩ => ?_, fun ρ2 ⟨Pd, s3, s4, s5, s6, s7, s8, s9, s10, hPd, e⟩ => ?_⟩
  · exact ⟨Kept K 0, .no, .no, .no, .no, .no, .no, .no, .no, fun _ h => h, rfl⟩
  · subst e
    obtain ⟨e, il⟩ := rngT_get hx
    subst e
    rw [show ((0 : Int) + (i : Nat)) = (i : Int) from Int.zero_add _]
    have il : i < 5 := by omega
    refine wG_name ?_
    refine wS_ow (i := 1) (p := pm) (Kept K i) rfl hPd ?_
    refine wS_no 4 (wS_no 5 (wS_no 6 (wS_no 7 (wS_no 8 (wS_no 9 (wS_no 10 ?_))))))
    show wS _ _ _ [Sl.x u sc, .o pm (Kept K i), .v (.bl gr), .v (.int i), .no, .no, .no, .no, .no, .no, .no, .no] _
    refine wS_seq (wS_setF (wF_call (wA_cons (wE_cell hs rfl (wE_v rfl fun _ => ⟨rfl, i, rfl, by omega, fun z _ => wA_nil ⟨⟨z, rfl⟩, fun us hb p => ?_, fun er z => z.elim⟩⟩)))))
    refine wS_ow (i := 4) (p := p) (Bx 1210) rfl (fun ts e => by rw [e]; exact Bx.mono hb (by omega)) ?_
    show wS _ _ _ [Sl.x u sc, .o pm (Kept K i), .v (.bl gr), .v (.int i), .o p (Bx 1210), .no, .no, .no, .no, .no, .no, .no] _
    have mono : ∀ {a b : Nat}, b ≤ a → ∀ ts, Bx a ts → Bx b ts := fun l ts b => b.mono l
    refine wS_seq (wS_set (wE_lstD (wA_cons (wE_tki 1209 rfl 4 rfl (by omega) (by omega) fun a ha _ => wA_cons (wE_tki 1208 rfl 4 rfl (by omega) (by omega) fun b hb _ => wA_cons (wE_tki 1207 rfl 4 rfl (by omega) (by omega) fun c hc _ => wA_nil ⟨by show 3 ≤ sizeLine; decide, fun _ => ?_⟩))))))
    refine wS_seq (wS_set (wE_callO 107 rfl (wA_cons (wE_andB (fun Φ' hk => wE_v rfl fun v => hk _ v) (fun Φ' hk => wE_op eqQOk (wE_v rfl fun _ => wE_int (gEqI fun v => hk _ v))) fun cc _ => wA_nil ⟨rfl, ⟨cc, rfl⟩, fun t v po => ?_, fun er z => z.elim⟩))))
    obtain ⟨S, l, ok, rfl⟩ := po
    show wS _ _ _ (rhoL u sc (.o pm (Kept K i)) gr i p (106 + 1) (.lst [.int a, .int b, .int c]) (.lst (argT S l)) .no .no .no .no .no) _
    refine passed_ok ok fun s7 n7 => ?_
    refine wS_seq (wS_set (wE_op ixOk (wE_v rfl fun _ => wE_int (gIxL 1 rfl rfl fun _ => ?_))))
    show wS _ _ _ (rhoL u sc (.o pm (Kept K i)) gr i p (103 + 3) (.lst [.int a, .int b, .int c]) (.lst (argT S l)) s7 (.v (.lst [.str "told", skT K S])) (.v (skT K S)) .no .no) _
    have tt : ∀ {t : T}, t = .bl true → truT t = some true := fun e => by rw [e]; rfl
    refine wS_seq (wS_if (wT_or (wT_not (wT_tru (wE_call (wA_cons (wE_v rfl fun _ => wA_cons (wE_v rfl fun _ => wA_nil ⟨⟨S, l, rfl, ok⟩, fun t v e => ⟨true, tt e, ite_f ?_⟩, fun er z => z.elim⟩))))))))
    refine wT_or (wT_not (wT_tru (wE_callO 103 rfl (wA_cons (wE_v rfl fun _ => wA_cons (wE_v rfl fun _ => wA_nil ⟨rfl, ⟨S, l, rfl, ok⟩, fun t v e => ⟨true, tt e, ite_f ?_⟩, fun er z => z.elim⟩))))))
    refine wT_not (wT_tru (wE_callO 53 rfl (wA_cons (wE_v rfl fun _ => wA_cons (wE_v rfl fun _ => wA_nil ⟨rfl, ⟨S, l, rfl, ok⟩, fun t v e => ⟨true, tt e, ite_f (wS_next ?_)⟩, fun er z => z.elim⟩)))))
    show wS _ _ _ (rhoL u sc (.o pm (Kept K i)) gr i p 53 (.lst [.int a, .int b, .int c]) (.lst (argT S l)) s7 (.v (.lst [.str "told", skT K S])) (.v (skT K S)) .no .no) _
    have da := d_args ok l
    refine wS_seq (wS_set (wE_callO 43 rfl (wA_cons (wE_v rfl fun _ => wA_cons (wE_op ixOk (wE_v rfl fun _ => wE_int (gIxL 0 rfl rfl fun _ => wA_nil ⟨rfl, ⟨_, a, rfl, da, by omega⟩, fun t v po => ?_, fun er z => z.elim⟩)))))))
    obtain ⟨ys, rfl, dy⟩ := po
    show wS _ _ _ (rhoL u sc (.o pm (Kept K i)) gr i p (42 + 1) (.lst [.int a, .int b, .int c]) (.lst (argT S l)) s7 (.v (.lst [.str "told", skT K S])) (.v (skT K S)) (.v (.lst ys)) .no) _
    refine wS_seq (wS_if (wT_or (wT_not (wT_tru (wE_callO 42 rfl (wA_cons (wE_v rfl fun _ => wA_nil ⟨rfl, ⟨ys, rfl, dy⟩, fun t v e => ⟨true, tt e, ite_f ?_⟩, fun er z => z.elim⟩)))))))
    refine wT_not (wT_tru (wE_callO2 31 rfl (wA_cons (wE_callO 32 rfl (wA_cons (wE_v rfl fun _ => wA_cons (wE_op ixOk (wE_v rfl fun _ => wE_int (gIxL 1 rfl rfl fun _ => wA_nil ⟨rfl, ⟨_, b, rfl, dy, by omega⟩, fun t v po => ?_, fun er z => z.elim⟩)))))))))
    obtain ⟨zs, rfl, dz⟩ := po
    refine wA_nil ⟨rfl, ⟨zs, rfl, dz⟩, fun t v e => ⟨true, tt e, ite_f (wS_next ?_)⟩, fun er z => z.elim⟩
    refine wS_seq (wS_if (wT_or (wT_not (wT_tru (wE_callO2 20 rfl (wA_cons (wE_callO 21 rfl (wA_cons (wE_v rfl fun _ => wA_cons (wE_int (wA_nil ⟨rfl, ⟨_, 2, rfl, da, by omega⟩, fun t v po => ?_, fun er z => z.elim⟩)))))))))))
    obtain ⟨zs, rfl, dz⟩ := po
    refine wA_nil ⟨rfl, ⟨zs, rfl, dz⟩, fun t v e => ⟨true, tt e, ite_f ?_⟩, fun er z => z.elim⟩
    refine wT_not (wT_tru (wE_callO 0 rfl (wA_cons (wE_v rfl fun _ => wA_nil ⟨rfl, ⟨S, l, rfl, ok⟩, fun t v e => ⟨true, tt e, ite_f (wS_next ?_)⟩, fun er z => z.elim⟩))))
    refine wS_app rfl (wE_lstD (wA_cons (wE_v rfl fun _ => wA_cons (wE_v rfl fun _ => wA_nil ⟨by show 2 ≤ sizeLine; decide, fun _ => ⟨Kept K i, rfl, fun ts ⟨rows, e, _, hl⟩ => ?_, ?_⟩⟩))))
    · rw [e, List.length_map]
      exact Nat.lt_of_le_of_lt (Nat.le_trans hl (by omega : i ≤ 100)) (by decide)
    · refine ⟨_, .v (.int i), .o p (Bx 0), .v (.lst [.int a, .int b, .int c]), .v (.lst (argT S l)), s7, .v (.lst [.str "told", skT K S]), .v (skT K S), .v (.lst ys), fun ts ⟨us, ⟨rows, e1, e2, e3⟩, e4⟩ => ?_, rfl⟩
      refine ⟨rows ++ [(S, l)], by rw [e4, e1, List.map_append]; rfl, fun r hr => ?_, by rw [List.length_append]; show _ + 1 ≤ _; omega⟩
      rcases List.mem_append.mp hr with h | h
      · exact e2 r h
      · rw [List.mem_singleton.mp h]; exact ok
  · subst e
    refine wS_fz (i := 1) (p := pm) rfl fun us hu => ?_
    obtain ⟨rows, e, hr, hl⟩ := hPd us hu
    refine wS_no 3 (wS_no 4 (wS_no 5 (wS_no 6 (wS_no 7 (wS_no 8 (wS_no 9 (wS_no 10 ?_)))))))
    show wS _ _ _ [Sl.x u sc, .v (.lst us), .v (.bl gr), .no, .no, .no, .no, .no, .no, .no, .no, .no] _
    have lu : us.length ≤ 1000 := by rw [e, List.length_map]; rw [rngT_len] at hl; omega
    refine wS_ret (wE_op eqQOk (wE_F (wF_lcT (wI_seq (wE_v rfl fun _ => ⟨us, .inl rfl, rfl, sm1000 lu, fun _ => false, fun t => t, fun x v hx => ?_, fun _ => wE_lstD (wA_nil ⟨by show 0 ≤ sizeLine; decide, fun _ => ?_⟩)⟩)))))
    · rw [e] at hx
      obtain ⟨r, hr2, rfl⟩ := List.mem_map.mp hx
      refine wGa_name (by decide) ⟨rfl, rfl, wT_not (wT_tru (wE_call (wA_cons (wE_op ixOk (wE_v rfl fun _ => wE_int (gIxL 0 rfl rfl fun _ => wA_cons (wE_op ixOk (wE_v rfl fun _ => wE_int (gIxL 1 rfl rfl fun _ => wA_nil ⟨⟨r.1, r.2, rfl, hr r hr2⟩, fun t v et => ⟨true, by rw [et]; rfl, rfl, rfl, fun z => nomatch z⟩, fun er z => z.elim⟩)))))))))⟩
    · rw [List.filter_eq_nil_iff.mpr fun _ _ => by simp]
      exact ⟨true, eqD_pl (d := 1) (e := 1) (.lst fun t h => nomatch h) (.lst fun t h => nomatch h) (by decide) (by decide) (by simp), fun _ => rfl⟩
end K09
set_option maxHeartbeats 4000000
namespace K10
open PySem PySem.Spec PyProof.Rows L2 TL TC TD K09
/-- the least number of which a ring is a repetition -/
def lper (l : List Mo) : Nat := ((List.range l.length).find? fun m => decide (1 ≤ m) && (decide (l.length % m = 0) && decide (l = (List.replicate (l.length / m) (l.take m)).flatten))).getD l.length
def lring (l : List Mo) : List Mo := l.take (lper l)
/-- the head, its last one first, rolled into the ring -/
def roll : List Mo → List Mo → List Mo × List Mo
  | [], ring => ([], ring)
  | m :: hd, ring => if ring.getLast? = some m then roll hd (m :: ring.dropLast) else (m :: hd, ring)
/-- the shortest sky -/
def shS (S : Sk) : Sk := match S.bk with
  | none => S
  | some b => { S with ms := (roll (S.ms.take b).reverse (lring (S.ms.drop b))).1.reverse ++ (roll (S.ms.take b).reverse (lring (S.ms.drop b))).2, bk := some (roll (S.ms.take b).reverse (lring (S.ms.drop b))).1.length }
/-- the sky from the moment j on, not yet short -/
def froS (S : Sk) (j : Nat) : Sk := match S.bk with
  | none => { S with ms := S.ms.drop j, bk := none }
  | some b => if j < b then { S with ms := S.ms.drop j, bk := some (b - j) } else { S with ms := S.ms.drop j ++ (S.ms.drop b).take (j - b), bk := some 0 }
inductive Out where
  | told (S : Sk) | tick (x : T) | ended (n : Nat) | never | houses (n : Nat) | readers (n : Nat) | many (n : Nat)
def plT (S : Sk) : T := .lst (argT S false)
/-- .. its moments a tuple of the law's own -/
def plN (S : Sk) : T := .lst [.int (S.h : Int), .int (S.r : Int), tpn (S.ms.map moT), optN S.bk]
theorem plN_T {G : Hp} {S : Sk} {v : V} (h : Rep G (plN S) v) : Rep G (plT S) v := by
  obtain ⟨a, vs, rfl, ha, v1, r1, rfl, e1, v2, r2, rfl, e2, v3, r3, rfl, e3, e4⟩ := h
  exact ⟨a, _, rfl, ha, v1, _, rfl, e1, v2, _, rfl, e2, v3, _, rfl, tpn_tup e3, e4⟩
def outU : Out → List T
  | .told S => [.str "told", plT S]
  | .tick x => [.str "tick", x]
  | .ended n => [.str "ended", .int (n : Nat)]
  | .never => [.str "never", .non]
  | .houses n => [.str "houses", .int (n : Nat)]
  | .readers n => [.str "readers", .int (n : Nat)]
  | .many n => [.str "many", .int (n : Nat)]
def errU (K : PySem.W.Frag) (w : V) : Out → Er → Prop
  | .told _, _ => False
  | .tick _, er => er = er1 K "InvalidTick" w
  | .ended n, er => er = ⟨He.ga K "Ended", some (mkF ["ticks"] [.int (n : Nat)])⟩
  | .never, er => er = ⟨He.ga K "NeverEnds", none⟩
  | .houses n, er => er = er1 K "InvalidHouses" (.int (n : Nat))
  | .readers n, er => er = er1 K "InvalidReaders" (.int (n : Nat))
  | .many n, er => er = ⟨He.ga K "TooMany", some (mkF ["count"] [.int (n : Nat)])⟩
def laO (S : Sk) (x : T) : Out := if btw x 0 most then (match momAt S (natOf x) with | none => .ended S.ms.length | some j => .told (shS (froS S j))) else .tick x
def foO (A B : Sk) : Out := if A.bk.isSome then .never else if A.h ≠ B.h then .houses B.h else if A.r ≠ B.r then .readers B.r else if 24 < A.ms.length + B.ms.length then .many (A.ms.length + B.ms.length) else .told { A with ms := A.ms ++ B.ms, bk := B.bk.map (A.ms.length + ·) }
def sp_is_whole (K : PySem.W.Frag) : Sp := K09.sp_is_whole K
def sp_is_between (K : PySem.W.Frag) : Sp := K09.sp_is_between K
def sp_is_list (K : PySem.W.Frag) : Sp := K09.sp_is_list K
def sp_is_tuple_of (K : PySem.W.Frag) : Sp := K09.sp_is_tuple_of K
def sp_are_between (K : PySem.W.Frag) : Sp := K09.sp_are_between K
def sp_is_ascending (K : PySem.W.Frag) : Sp := K09.sp_is_ascending K
def sp_is_subset (K : PySem.W.Frag) : Sp := K09.sp_is_subset K
def sp_are_receivers (K : PySem.W.Frag) : Sp := K09.sp_are_receivers K
def sp_is_frame (K : PySem.W.Frag) : Sp := K09.sp_is_frame K
def sp_is_moment (K : PySem.W.Frag) : Sp := K09.sp_is_moment K
def sp_are_moments (K : PySem.W.Frag) : Sp := K09.sp_are_moments K
def sp_Sky_init (K : PySem.W.Frag) : Sp := K09.sp_Sky_init K
def sp_check_tick (K : PySem.W.Frag) : Sp := K09.sp_check_tick K
def sp_moment_at (K : PySem.W.Frag) : Sp := K09.sp_moment_at K
def sp_moment_of (K : PySem.W.Frag) : Sp := K09.sp_moment_of K
def sp_least_ring (K : PySem.W.Frag) : Sp := sP (fun ts => ∃ l : List Mo, ts = [.lst (l.map moT)] ∧ 1 ≤ l.length ∧ l.length ≤ 24) (fun ts t => ∀ l : List Mo, ts = [.lst (l.map moT)] → t = .lst ((lring l).map moT)) noX
def sp_shortest_of (K : PySem.W.Frag) : Sp := sP (fun ts => ∃ S, ts = skZ S ∧ SkOk S) (fun ts t => ∀ S, ts = skZ S → t = skT K (shS S)) noX
def sp_shortest_sky (K : PySem.W.Frag) : Sp := sP (fun ts => ∃ S, ts = [skT K S] ∧ SkOk S) (fun ts t => ∀ S, ts = [skT K S] → t = skT K (shS S)) noX
def sp_later_sky (K : PySem.W.Frag) : Sp := sP (fun ts => ∃ S x, ts = [skT K S, x] ∧ SkOk S ∧ DD x) (fun ts t => ∀ S x, ts = [skT K S, x] → ∃ S', laO S x = .told S' ∧ t = skT K S') (fun vs ts er => ∃ S x u w, ts = [skT K S, x] ∧ vs = [u, w] ∧ errU K w (laO S x) er)
def sp_followed_by (K : PySem.W.Frag) : Sp := sP (fun ts => ∃ A B, ts = [skT K A, skT K B] ∧ SkOk A ∧ SkOk B) (fun ts t => ∀ A B, ts = [skT K A, skT K B] → ∃ S', foO A B = .told S' ∧ t = skT K S') (fun _ ts er => ∃ A B, ts = [skT K A, skT K B] ∧ errU K .non (foO A B) er)
def sp_law_cell (K : PySem.W.Frag) : Sp := TD.sp_law_cell K
def sp_law_box (K : PySem.W.Frag) : Sp := TD.sp_law_box K
def sp_law_take (K : PySem.W.Frag) : Sp := TD.sp_law_take K
/-- data with no dict in it: this law's _law_same knows no dict -/
inductive Dn (m : Nat) : Nat → T → Prop where
  | non {d} : Dn m (d + 1) .non
  | bl {d} (c : Bool) : Dn m (d + 1) (.bl c)
  | int {d} (i : Int) : Dn m (d + 1) (.int i)
  | str {d} (s : Str) (h : strOk s = true) : Dn m (d + 1) (.str s)
  | lst {d} {ts : List T} (hz : ts.length ≤ m) (h : ∀ t ∈ ts, Dn m d t) : Dn m (d + 1) (.lst ts)
  | tup {d} {ts : List T} (hz : ts.length ≤ m) (h : ∀ t ∈ ts, Dn m d t) : Dn m (d + 1) (.tup ts)
theorem Dn.to {m : Nat} : ∀ {d : Nat} {t : T}, Dn m d t → TD.Dat m d t := fun h => by
  induction h with
  | non => exact .non
  | bl c => exact .bl c
  | int c => exact .int c
  | str c k => exact .str c k
  | lst hz h ih => exact .lst hz ih
  | tup hz h ih => exact .tup hz ih
theorem Dn.up {m : Nat} : ∀ {d : Nat} {t : T}, Dn m d t → ∀ {d' : Nat}, d ≤ d' → Dn m d' t := fun {d t} h => by
  induction h with
  | non => intro d' hd; cases d' with | zero => omega | succ d' => exact .non
  | bl c => intro d' hd; cases d' with | zero => omega | succ d' => exact .bl c
  | int c => intro d' hd; cases d' with | zero => omega | succ d' => exact .int c
  | str c k => intro d' hd; cases d' with | zero => omega | succ d' => exact .str c k
  | lst hz h ih => intro d' hd; cases d' with | zero => omega | succ d' => exact .lst (by omega) fun t ht => ih t ht (by omega)
  | tup hz h ih => intro d' hd; cases d' with | zero => omega | succ d' => exact .tup (by omega) fun t ht => ih t ht (by omega)
def sp_law_same (K : PySem.W.Frag) (n : Nat) : Sp := sP (fun ts => ∃ a b, ts = [a, b] ∧ Dn 130 n a ∧ Dn 130 n b) (fun ts t => ∃ c, t = .bl c ∧ ∀ a b, ts = [a, b] → a = b → c = true) noX
def sp_law_whole (K : PySem.W.Frag) : Sp := TD.sp_law_whole K
def sp_law_subset (K : PySem.W.Frag) : Sp := K09.sp_law_subset K
def sp_law_a_moment (K : PySem.W.Frag) : Sp := K09.sp_law_a_moment K
def sp_law_index (K : PySem.W.Frag) : Sp := sP (fun ts => ∃ (S : Sk) (t : Nat), ts = [plT S, .int t] ∧ SkOk S) (fun ts z => ∀ (S : Sk) (t : Nat), ts = [plT S, .int t] → z = optN (momAt S t)) noX
def sp_law_shortest (K : PySem.W.Frag) : Sp := fun vs H Q E => ∃ S, SkOk S ∧ sP (fun ts => ts = [plN S]) (fun _ t => t = plT (shS S)) noX vs H Q E
def sp_law_later (K : PySem.W.Frag) : Sp := sP (fun ts => ∃ (S : Sk) (t j : Nat), ts = [plT S, .int t] ∧ SkOk S ∧ momAt S t = some j) (fun ts z => ∀ (S : Sk) (t j : Nat), ts = [plT S, .int t] → momAt S t = some j → z = plT (shS (froS S j))) noX
def sp_law_plain (K : PySem.W.Frag) : Sp := sP (fun ts => ∃ S, ts = [skT K S]) (fun ts t => ∀ S, ts = [skT K S] → t = plT S) noX
def sp_law_made (K : PySem.W.Frag) : Sp := sP (fun ts => ∃ S, ts = [plT S] ∧ SkOk S) (fun ts t => ∀ S, ts = [plT S] → t = skT K S) noX
def sp_law_long (K : PySem.W.Frag) : Sp := sO (fun n => Bx (n + 1500)) Bx (fun ts => ∃ c : Bool, ts = [.bl c]) (fun _ t => ∃ S, SkOk S ∧ t = plN S) noX
/-- what is asked at a door -/
inductive AskOk (K : PySem.W.Frag) : Int → List T → Out → Prop where
  | shortest {S : Sk} (ok : SkOk S) : AskOk K 0 [skT K S] (.told (shS S))
  | later {S : Sk} {x : T} (ok : SkOk S) (dx : DD x) : AskOk K 1 [skT K S, x] (laO S x)
  | followed {A B : Sk} (oa : SkOk A) (ob : SkOk B) : AskOk K 2 [skT K A, skT K B] (foO A B)
def sp_law_ask (K : PySem.W.Frag) : Sp := fun vs H Q _ => ∃ (d : Int) (xs : List T) (o : Out) (ws : List V) (A : Addr) (c : Bool) (G : Hp), vs = [.int d, .ref A, .bl c] ∧ G A = some (.lst ws) ∧ RepL G xs ws ∧ Le G H ∧ AskOk K d xs o ∧
  ∀ p us G' H', H' p = some (.lst us) → G' p = none → H p = none → RepL G' (outU o) us → Grow G H G' H' → Q (.ref p) H'
def sp_law_later_due (K : PySem.W.Frag) : Sp := sP (fun ts => ∃ S x, ts = [plT S, x] ∧ SkOk S ∧ DD x) (fun ts t => ∀ S x, ts = [plT S, x] → t = .lst (outU (laO S x))) noX
def sp_law_followed_due (K : PySem.W.Frag) : Sp := sP (fun ts => ∃ A B, ts = [plT A, plT B] ∧ SkOk A ∧ SkOk B) (fun ts t => ∀ A B, ts = [plT A, plT B] → t = .lst (outU (foO A B))) noX
def sp_law_pair (K : PySem.W.Frag) : Sp := sO (fun n => Bx (n + 4000)) Bx (fun ts => ∃ S, ts = [plT S] ∧ SkOk S) (fun _ t => ∃ A B, SkOk A ∧ SkOk B ∧ t = .lst [plT A, plT B]) noX
def sp_law_same_ticks (K : PySem.W.Frag) : Sp := sO (fun n => Bx (n + 2)) Bx (fun ts => ∃ S, ts = [skT K S, skT K (shS S), plT S] ∧ SkOk S) (fun _ t => t = .bl true) noX
def sp_law (K : PySem.W.Frag) : Sp := TD.sp_law K
end K10
set_option maxHeartbeats 4000000
namespace TL
open PySem PySem.Spec PyProof.Rows L2
section
variable {X : Cx}
def rIdxD (K : PySem.W.Frag) : V → List V → Hp → VK → Prop := fun x xs H Q => ∃ (p : Addr) (ys : List V) (ds : List PyData) (u : V) (d : PyData) (j : Nat), x = .ref p ∧ xs = [u] ∧ SqT K H p ys ∧ DpAll K H ys ds ∧ Dp K H u d ∧ d.canLay0 = true ∧ PyData.canLayAll0 ds = true ∧ d.depth ≤ 60 ∧
  (∃ e, ds[j]? = some e ∧ PyData.eqv e d = true) ∧ (∀ m e, m < j → ds[m]? = some e → PyData.eqv e d = false) ∧ Q (.int (j : Nat)) H
theorem readsAll_get {h : Heap} : ∀ {us : List Value} {ds : List PyData} {as : List Addr}, ReadsAll h us ds as → us.length = ds.length ∧ ∀ (i : Nat) (u : Value) (d : PyData), us[i]? = some u → ds[i]? = some d → ∃ as, Reads h u d as
  | _, _, _, .nil => ⟨rfl, fun i u d e => by cases e⟩
  | _, _, _, .cons r rs => by
    obtain ⟨h1, h2⟩ := readsAll_get rs
    refine ⟨by rw [List.length_cons, List.length_cons, h1], fun i u d e1 e2 => ?_⟩
    match i, e1, e2 with
    | 0, e1, e2 => cases e1; cases e2; exact ⟨_, r⟩
    | i + 1, e1, e2 => exact h2 i u d e1 e2
theorem canAll_get : ∀ {ds : List PyData} {i : Nat} {d : PyData}, PyData.canLayAll0 ds = true → ds[i]? = some d → d.canLay0 = true
  | [], _, _, _, e => by cases e
  | d :: ds, 0, _, h, e => by
    cases e
    exact (Bool.and_eq_true_iff.mp h).1
  | d :: ds, i + 1, _, h, e => canAll_get (Bool.and_eq_true_iff.mp h).2 e
theorem mt_tindexD (hu : X.A.units + 64 < cLine) : MtR X "tuple.index" (rIdxD X.K) := by
  intro pins s σ H x xs v us Q I rx rxs h
  obtain ⟨p, ys, ds, u, d, j, rfl, rfl, hs, hds, hd, cd, cds, d60, ⟨ej, hj, hej⟩, hno, q⟩ := h
  cases rx
  obtain ⟨w, rfl, ru⟩ := rxs.one
  obtain ⟨its, rv, pl, hz⟩ := I.tuple hs
  obtain ⟨⟨cls, dd, dt, sl⟩, ho, hc, n, hd'⟩ := pl
  simp only at hc hd'
  subst hc
  subst hd'
  obtain ⟨as, ra⟩ := Dp.readsAll I ds ys its hds rv
  obtain ⟨bs, rb⟩ := Dp.reads I d u w hd ru
  obtain ⟨hl, hg⟩ := readsAll_get ra
  have hjn : j < ds.length := (List.getElem?_eq_some_iff.mp hj).1
  have hjl : j < its.toArray.size := by rw [List.size_toArray]; omega
  have hn : Nonempty Bool := ⟨true⟩
  obtain ⟨e, he⟩ : ∃ e : Value → Bool, ∀ y, (e y = true ↔ ∃ dy as, Reads s.heap y dy as ∧ dy.canLay0 = true ∧ PyData.eqv dy d = true) := by
    have := Classical.propDecidable
    exact ⟨fun y => decide (∃ dy as, Reads s.heap y dy as ∧ dy.canLay0 = true ∧ PyData.eqv dy d = true), fun y => decide_eq_true_iff⟩
  have ee : ∀ y dy as, Reads s.heap y dy as → dy.canLay0 = true → e y = PyData.eqv dy d := fun y dy as r c => by
    cases z : PyData.eqv dy d with
    | true => exact (he y).mpr ⟨dy, as, r, c, z⟩
    | false =>
      refine Bool.eq_false_iff.mpr fun t => ?_
      obtain ⟨dy', as', r', c', z'⟩ := (he y).mp t
      rw [SeqAt.Reads.unique _ _ _ _ _ c r r', z'] at z
      cases z
  refine call_meets PySem.F.slot_tuple_index ⟨_, ho, rfl⟩ PySem.F.entry_tuple_index (PySem.F.args_tuple_index_2 _ _) (TI.tuple_indexAt p its.toArray n dd sl w e j hjl ?_ ?_)
    ⟨ho, fun y hy => ?_, ⟨.int (j : Nat), H, I.tok _, ⟨_, rfl⟩, q⟩⟩
  · have h1 : its[j]? = some its.toArray[j] := by simp
    obtain ⟨as', r⟩ := hg j _ ej h1 hj
    rw [ee _ _ _ r (canAll_get cds hj), hej]
  · intro m hm hmj
    have h1 : its[m]? = some its.toArray[m] := by simp
    have h2 : ds[m]? = some ds[m] := List.getElem?_eq_getElem (by omega)
    obtain ⟨as', r⟩ := hg m _ _ h1 h2
    rw [ee _ _ _ r (canAll_get cds h2), hno m _ hmj h2]
  · have hy' : y ∈ its := by simpa using hy
    obtain ⟨i, hi, rfl⟩ := List.getElem_of_mem hy'
    have h2 : ds[i]? = some ds[i] := List.getElem?_eq_getElem (by omega)
    obtain ⟨as', r⟩ := hg i _ _ (List.getElem?_eq_getElem hi) h2
    rw [ee _ _ _ r (canAll_get cds h2)]
    refine SeqAt.eqAt_reads _ _ _ _ _ _ _ _ r rb (canAll_get cds h2) cd ?_
    have h3 : min ds[i].depth d.depth ≤ d.depth := Nat.min_le_right _ _
    have h4 : X.A.in1.units = X.A.units + 1 := rfl
    omega
end
theorem toPyL_get : ∀ {ts : List T} {ds : List PyData}, toPyL ts = some ds → ∀ i : Nat, ds[i]? = (ts[i]?).bind toPy
  | [], ds, h, i => by cases h; rfl
  | t :: ts, ds, h, i => by
    unfold toPyL at h
    split at h
    · rename_i d ds' e1 e2
      cases h
      cases i with
      | zero => exact e1.symm
      | succ i => exact toPyL_get e2 i
    · cases h
section
variable {K : PySem.W.Frag} {E : WX} {X : XP} {ρ : Env} {te tb : TE} {Φ : V → T → Env → Prop}
/-- t.index(x), t a tuple without a dict of its own, all plain: the first place -/
theorem wE_tindexD {d : Nat} (hd : d ≤ 60) (h : wE E X te ρ fun _ x ρ1 => ∃ ts : List T, x = tpn ts ∧ (∀ t ∈ ts, Pl d t) ∧ wE E X tb ρ1 fun _ k ρ2 => ∃ j : Nat, Pl d k ∧ ts[j]? = some k ∧ (∀ m, m < j → ts[m]? ≠ some k) ∧ ∀ v, Φ v (.int (j : Nat)) ρ2) : wE E X (tTM (rIdxD K) te (tCons tb tNil)) ρ Φ := fun b G H σ Q S q ke =>
  h b G H σ _ S (fun v x ρ1 G1 H1 ⟨ts, e, hp, h1⟩ r1 S1 l1 => by
    subst e
    obtain ⟨a, o, vs, rfl, ha, hdict, ra⟩ := r1.tpnE
    refine ⟨⟨a, o, _, rfl, S1.gh _ _ ha, hdict⟩, h1 b G1 H1 σ _ S1 (fun w k ρ2 G2 H2 ⟨j, pk, hj, hno, h2⟩ r2 S2 l2 => ?_) (ke.up l1)⟩
    obtain ⟨ds, p1, p2, _⟩ := toPyL_ok (d := d) fun t ht => (hp t ht).py
    obtain ⟨dk, k1, k2, k3⟩ := pk.py
    have sh := S2.gh
    refine ⟨a, vs, ds, w, dk, j, rfl, rfl, sqR (.inr ⟨o, sh _ _ (l2 _ _ ha)⟩), dpL_of sh _ _ _ (ra.up l2) p1, dp_of sh _ _ _ r2 k1, k2, p2, by omega, ⟨dk, ?_, ?_⟩, fun m e hm he => ?_, q _ _ ρ2 G2 H2 (h2 _) rfl S2 (l1.tr l2)⟩
    · rw [toPyL_get p1 j, hj]
      exact k1
    · exact (pk.eqv _ k pk dk dk k1 k1).mpr rfl
    · rw [toPyL_get p1 m] at he
      cases ht : ts[m]? with
      | none => rw [ht] at he; cases he
      | some t =>
        rw [ht] at he
        refine Bool.eq_false_iff.mpr fun z => hno m hm ?_
        rw [ht, ((hp t (List.mem_of_getElem? ht)).eqv _ k pk e dk he k1).mp z]) ke
end
end TL
set_option maxHeartbeats 4000000
namespace K10
open PySem PySem.Spec PyProof.Rows L2 TL
theorem bt_abs : bootBuiltins "abs" = some (.builtin "abs") := by decide +kernel
theorem bt_all : bootBuiltins "all" = some (.builtin "all") := by decide +kernel
theorem bt_bool : bootBuiltins "bool" = some (.type "bool") := by decide +kernel
theorem bt_int : bootBuiltins "int" = some (.type "int") := by decide +kernel
theorem bt_isinstance : bootBuiltins "isinstance" = some (.builtin "isinstance") := by decide +kernel
theorem bt_len : bootBuiltins "len" = some (.builtin "len") := by decide +kernel
theorem bt_list : bootBuiltins "list" = some (.type "list") := by decide +kernel
theorem bt_max : bootBuiltins "max" = some (.builtin "max") := by decide +kernel
theorem bt_min : bootBuiltins "min" = some (.builtin "min") := by decide +kernel
theorem bt_str : bootBuiltins "str" = some (.type "str") := by decide +kernel
theorem bt_sum : bootBuiltins "sum" = some (.builtin "sum") := by decide +kernel
theorem bt_tuple : bootBuiltins "tuple" = some (.type "tuple") := by decide +kernel
abbrev kk_is_whole : List (List Str × List Nat) := []
abbrev kk_is_between : List (List Str × List Nat) := []
abbrev kk_is_list : List (List Str × List Nat) := []
abbrev kk_is_tuple_of : List (List Str × List Nat) := []
abbrev kk_are_between : List (List Str × List Nat) := []
abbrev kk_is_ascending : List (List Str × List Nat) := []
abbrev kk_is_subset : List (List Str × List Nat) := []
abbrev kk_are_receivers : List (List Str × List Nat) := []
abbrev kk_is_frame : List (List Str × List Nat) := []
abbrev kk_is_moment : List (List Str × List Nat) := []
abbrev kk_are_moments : List (List Str × List Nat) := []
abbrev kk_check_tick : List (List Str × List Nat) := []
abbrev kk_moment_at : List (List Str × List Nat) := []
abbrev kk_moment_of : List (List Str × List Nat) := []
abbrev kk_least_ring : List (List Str × List Nat) := []
abbrev kk_shortest_of : List (List Str × List Nat) := []
abbrev kk_shortest_sky : List (List Str × List Nat) := [(["sky"], [0])]
abbrev kk_later_sky : List (List Str × List Nat) := [(["tick", "sky"], [1, 0])]
abbrev kk_followed_by : List (List Str × List Nat) := [(["second", "first"], [1, 0])]
abbrev kk_law_cell : List (List Str × List Nat) := []
abbrev kk_law_box : List (List Str × List Nat) := []
abbrev kk_law_take : List (List Str × List Nat) := []
abbrev kk_law_same : List (List Str × List Nat) := []
abbrev kk_law_whole : List (List Str × List Nat) := []
abbrev kk_law_subset : List (List Str × List Nat) := []
abbrev kk_law_a_moment : List (List Str × List Nat) := []
abbrev kk_law_index : List (List Str × List Nat) := []
abbrev kk_law_shortest : List (List Str × List Nat) := []
abbrev kk_law_later : List (List Str × List Nat) := []
abbrev kk_law_plain : List (List Str × List Nat) := []
abbrev kk_law_made : List (List Str × List Nat) := []
abbrev kk_law_long : List (List Str × List Nat) := []
abbrev kk_law_ask : List (List Str × List Nat) := []
abbrev kk_law_later_due : List (List Str × List Nat) := []
abbrev kk_law_followed_due : List (List Str × List Nat) := []
abbrev kk_law_pair : List (List Str × List Nat) := []
abbrev kk_law_same_ticks : List (List Str × List Nat) := []
abbrev kk_Sky_init : List (List Str × List Nat) := []
abbrev N_Sky_init : List Str := ["self", "houses", "readers", "moments", "back"]
theorem sc_Sky_init : FnScope N_Sky_init ["self", "houses", "readers", "moments", "back"] (defScope (inClass (top 30) 0)) := ⟨rfl, rfl, rfl, by decide +kernel, rfl, by decide +kernel, by decide +kernel⟩
def t_Sky_init (K : PySem.W.Frag) (E : XK) : TS := (tSeq (tIfS (tNot (tTruU K (tCallS (sp_is_between K) (WE (WD E)) (tCons (tVar 1) (tCons (tC (.int 1)) (tCons (tC (.int 3)) tNil)))))) (tRaiseO (He.ga K "InvalidHouses") (spIni (He.ga K "InvalidHouses") ["given"]) (tCons (tVar 1) tNil) (WD E)) tNext)
  (tSeq (tIfS (tNot (tTruU K (tCallS (sp_is_between K) (WE (WD E)) (tCons (tVar 2) (tCons (tC (.int 1)) (tCons (tC (.int 3)) tNil)))))) (tRaiseO (He.ga K "InvalidReaders") (spIni (He.ga K "InvalidReaders") ["given"]) (tCons (tVar 2) tNil) (WD E)) tNext)
  (tSeq (tIfS (tNot (tTruU K (tCallS (sp_are_moments K) (WE (WD E)) (tCons (tVar 3) (tCons (tVar 1) (tCons (tVar 2) tNil)))))) (tRaiseO (He.ga K "InvalidMoments") (spIni (He.ga K "InvalidMoments") ["given"]) (tCons (tVar 3) tNil) (WD E)) tNext)
  (tSeq (tIfS (tAnd (tTest (tOp rIsNotU (tVar 4) (tC .non))) (tNot (tTruU K (tCallS (sp_is_between K) (WE (WD E)) (tCons (tVar 4) (tCons (tC (.int 0)) (tCons (tOp rSubU (tCB (rLenU K) (tCons (tVar 3) tNil)) (tC (.int 1))) tNil))))))) (tRaiseO (He.ga K "InvalidBack") (spIni (He.ga K "InvalidBack") ["given"]) (tCons (tVar 4) tNil) (WD E)) tNext)
  (tSeq (sFld K (tVar 0) (tVar 1) "houses")
  (tSeq (sFld K (tVar 0) (tVar 2) "readers")
  (tSeq (sFld K (tVar 0) (tCB (rTupU K) (tCons (tVar 3) tNil)) "moments")
  (sFld K (tVar 0) (tVar 4) "back"))))))))
theorem w_Sky_init {P : Program} {w : World} {K : PySem.W.Frag} {mg : Str → Option Value} {base : Heap} (W : ByNs K mg) (c : He.SaysD fa fn K) {k : Nat} {j_are_moments : Nat} (D_are_moments : OkE P w K mg base j_are_moments "are_moments" ["value", "houses", "readers"] kk_are_moments (sp_are_moments K)) (l_are_moments : j_are_moments ≤ k) {j_is_between : Nat} (D_is_between : OkE P w K mg base j_is_between "is_between" ["value", "least", "most"] kk_is_between (sp_is_between K)) (l_is_between : j_is_between ≤ k) {ji_InvalidBack : Nat} (I_InvalidBack : OkI P w K mg base ji_InvalidBack "InvalidBack" ["self", "given"] ["given"]) (li_InvalidBack : ji_InvalidBack + 1 ≤ k) {ji_InvalidHouses : Nat} (I_InvalidHouses : OkI P w K mg base ji_InvalidHouses "InvalidHouses" ["self", "given"] ["given"]) (li_InvalidHouses : ji_InvalidHouses + 1 ≤ k) {ji_InvalidMoments : Nat} (I_InvalidMoments : OkI P w K mg base ji_InvalidMoments "InvalidMoments" ["self", "given"] ["given"]) (li_InvalidMoments : ji_InvalidMoments + 1 ≤ k) {ji_InvalidReaders : Nat} (I_InvalidReaders : OkI P w K mg base ji_InvalidReaders "InvalidReaders" ["self", "given"] ["given"]) (li_InvalidReaders : ji_InvalidReaders + 1 ≤ k) {f : Addr} (cdv : Value) (A : Around) (outer : List PySem.Env) (s : Shared) (H : Hp) (E : XK) (hr : Room k (A.deeper (envOfC "Sky.__init__" (defScope (inClass (top 30) 0)) s.heap.objs.size f cdv))) :
    PSs (cxOf (L2.CX P w) P w K mg base N_Sky_init "Sky.__init__" (defScope (inClass (top 30) 0)) f cdv A outer s H E) (defBody (inClass (top 30) 0)) (t_Sky_init K E) := by
  have tk : Takes (cxOf (L2.CX P w) P w K mg base N_Sky_init "Sky.__init__" (defScope (inClass (top 30) 0)) f cdv A outer s H E) (WD E) := takes_of rfl rfl rfl rfl
  have nd := sc_Sky_init.nd
  exact (pss_cons (ps_if (pt_not (pt_truth (pe_callE D_is_between (hr.mono l_is_between) tk rfl (pa_cons (pv 1) (pa_cons pe_int (pa_cons (pe_glob rfl (W.int c 62 rfl).choose_spec ⟨_, rfl⟩) pa_nil)))) (fun _ => rfl))) (pss_one (ps_raiseI rfl I_InvalidHouses (hr.mono li_InvalidHouses) tk rfl (pa_cons (pv 1) pa_nil))) pss_nil)
  (pss_cons (ps_if (pt_not (pt_truth (pe_callE D_is_between (hr.mono l_is_between) tk rfl (pa_cons (pv 2) (pa_cons pe_int (pa_cons (pe_glob rfl (W.int c 63 rfl).choose_spec ⟨_, rfl⟩) pa_nil)))) (fun _ => rfl))) (pss_one (ps_raiseI rfl I_InvalidReaders (hr.mono li_InvalidReaders) tk rfl (pa_cons (pv 2) pa_nil))) pss_nil)
  (pss_cons (ps_if (pt_not (pt_truth (pe_callE D_are_moments (hr.mono l_are_moments) tk rfl (pa_cons (pv 3) (pa_cons (pv 1) (pa_cons (pv 2) pa_nil)))) (fun _ => rfl))) (pss_one (ps_raiseI rfl I_InvalidMoments (hr.mono li_InvalidMoments) tk rfl (pa_cons (pv 3) pa_nil))) pss_nil)
  (pss_cons (ps_if (PW.pt (pw_and (pt_cmpR uIsNot (pv 4) pe_non (nomark _)) (pw_and1 (pt_not (pt_truth (pe_callE D_is_between (hr.mono l_is_between) tk rfl (pa_cons (pv 4) (pa_cons pe_int (pa_cons (pe_op uSub (pe_callB uLen rfl (W.fr c 54 rfl) bt_len (pa_cons (pv 3) pa_nil)) pe_int) pa_nil)))) (fun _ => rfl)))))) (pss_one (ps_raiseI rfl I_InvalidBack (hr.mono li_InvalidBack) tk rfl (pa_cons (pv 4) pa_nil))) pss_nil)
  (pss_cons (ps_fld (pv 0) (pv 1) rfl)
  (pss_cons (ps_fld (pv 0) (pv 2) rfl)
  (pss_cons (ps_fld (pv 0) (pe_callTy uTup rfl (W.fr c 61 rfl) bt_tuple (pa_cons (pv 3) pa_nil)) rfl)
  (pss_one (ps_fld (pv 0) (pv 4) rfl)))))))))
abbrev N_is_whole : List Str := ["value"]
theorem sc_is_whole : FnScope N_is_whole ["value"] (defScope (top 12)) := ⟨rfl, rfl, rfl, by decide +kernel, rfl, by decide +kernel, by decide +kernel⟩
def t_is_whole (K : PySem.W.Frag) (E : XK) : TS := (tRet (tAndV (tCB (rIsiU K) (tCons (tVar 0) (tCons (tC (.ty "int")) tNil))) (tNotV (tCB (rIsiU K) (tCons (tVar 0) (tCons (tC (.ty "bool")) tNil))))))
theorem w_is_whole {P : Program} {w : World} {K : PySem.W.Frag} {mg : Str → Option Value} {base : Heap} (W : ByNs K mg) (c : He.SaysD fa fn K) {k : Nat} {f : Addr} (cdv : Value) (A : Around) (outer : List PySem.Env) (s : Shared) (H : Hp) (E : XK) (hr : Room k (A.deeper (envOfC "is_whole" (defScope (top 12)) s.heap.objs.size f cdv))) :
    PSs (cxOf (L2.CX P w) P w K mg base N_is_whole "is_whole" (defScope (top 12)) f cdv A outer s H E) (defBody (top 12)) (t_is_whole K E) := by
  have tk : Takes (cxOf (L2.CX P w) P w K mg base N_is_whole "is_whole" (defScope (top 12)) f cdv A outer s H E) (WD E) := takes_of rfl rfl rfl rfl
  have nd := sc_is_whole.nd
  exact (pss_one (ps_ret (pe_and (pe_callB uIsi rfl (W.fr c 53 rfl) bt_isinstance (pa_cons (pv 0) (pa_cons (pe_bltn rfl (W.fr c 52 rfl) bt_int rfl) pa_nil))) (pe_one (pe_not (pe_callB uIsi rfl (W.fr c 53 rfl) bt_isinstance (pa_cons (pv 0) (pa_cons (pe_bltn rfl (W.fr c 51 rfl) bt_bool rfl) pa_nil))))))))
abbrev N_is_between : List Str := ["value", "least", "most"]
theorem sc_is_between : FnScope N_is_between ["value", "least", "most"] (defScope (top 13)) := ⟨rfl, rfl, rfl, by decide +kernel, rfl, by decide +kernel, by decide +kernel⟩
def t_is_between (K : PySem.W.Frag) (E : XK) : TS := (tRet (tAndV (tCallS (sp_is_whole K) (WE (WD E)) (tCons (tVar 0) tNil)) (tChain rLeU rLeU (tVar 1) (tVar 0) (tVar 2))))
theorem w_is_between {P : Program} {w : World} {K : PySem.W.Frag} {mg : Str → Option Value} {base : Heap} (W : ByNs K mg) (c : He.SaysD fa fn K) {k : Nat} {j_is_whole : Nat} (D_is_whole : OkE P w K mg base j_is_whole "is_whole" ["value"] kk_is_whole (sp_is_whole K)) (l_is_whole : j_is_whole ≤ k) {f : Addr} (cdv : Value) (A : Around) (outer : List PySem.Env) (s : Shared) (H : Hp) (E : XK) (hr : Room k (A.deeper (envOfC "is_between" (defScope (top 13)) s.heap.objs.size f cdv))) :
    PSs (cxOf (L2.CX P w) P w K mg base N_is_between "is_between" (defScope (top 13)) f cdv A outer s H E) (defBody (top 13)) (t_is_between K E) := by
  have tk : Takes (cxOf (L2.CX P w) P w K mg base N_is_between "is_between" (defScope (top 13)) f cdv A outer s H E) (WD E) := takes_of rfl rfl rfl rfl
  have nd := sc_is_between.nd
  exact (pss_one (ps_ret (pe_and (pe_callE D_is_whole (hr.mono l_is_whole) tk rfl (pa_cons (pv 0) pa_nil)) (pe_one (pe_chain op_le op_le (pv 1) (pv 0) (pv 2))))))
abbrev N_is_list : List Str := ["value"]
theorem sc_is_list : FnScope N_is_list ["value"] (defScope (top 14)) := ⟨rfl, rfl, rfl, by decide +kernel, rfl, by decide +kernel, by decide +kernel⟩
def t_is_list (K : PySem.W.Frag) (E : XK) : TS := (tRet (tCB (rIsiU K) (tCons (tVar 0) (tCons (tTup (tCons (tC (.ty "list")) (tCons (tC (.ty "tuple")) tNil))) tNil))))
theorem w_is_list {P : Program} {w : World} {K : PySem.W.Frag} {mg : Str → Option Value} {base : Heap} (W : ByNs K mg) (c : He.SaysD fa fn K) {k : Nat} {f : Addr} (cdv : Value) (A : Around) (outer : List PySem.Env) (s : Shared) (H : Hp) (E : XK) (hr : Room k (A.deeper (envOfC "is_list" (defScope (top 14)) s.heap.objs.size f cdv))) :
    PSs (cxOf (L2.CX P w) P w K mg base N_is_list "is_list" (defScope (top 14)) f cdv A outer s H E) (defBody (top 14)) (t_is_list K E) := by
  have tk : Takes (cxOf (L2.CX P w) P w K mg base N_is_list "is_list" (defScope (top 14)) f cdv A outer s H E) (WD E) := takes_of rfl rfl rfl rfl
  have nd := sc_is_list.nd
  exact (pss_one (ps_ret (pe_callB uIsi rfl (W.fr c 53 rfl) bt_isinstance (pa_cons (pv 0) (pa_cons (pe_tup (pa_cons (pe_bltn rfl (W.fr c 55 rfl) bt_list rfl) (pa_cons (pe_bltn rfl (W.fr c 61 rfl) bt_tuple rfl) pa_nil))) pa_nil)))))
abbrev N_is_tuple_of : List Str := ["value", "many"]
theorem sc_is_tuple_of : FnScope N_is_tuple_of ["value", "many"] (defScope (top 15)) := ⟨rfl, rfl, rfl, by decide +kernel, rfl, by decide +kernel, by decide +kernel⟩
def t_is_tuple_of (K : PySem.W.Frag) (E : XK) : TS := (tRet (tAndV (tCB (rIsiU K) (tCons (tVar 0) (tCons (tC (.ty "tuple")) tNil))) (tOp (rEqQ K) (tCB (rLenU K) (tCons (tVar 0) tNil)) (tVar 1))))
theorem w_is_tuple_of {P : Program} {w : World} {K : PySem.W.Frag} {mg : Str → Option Value} {base : Heap} (W : ByNs K mg) (c : He.SaysD fa fn K) {k : Nat} {f : Addr} (cdv : Value) (A : Around) (outer : List PySem.Env) (s : Shared) (H : Hp) (E : XK) (hr : Room k (A.deeper (envOfC "is_tuple_of" (defScope (top 15)) s.heap.objs.size f cdv))) :
    PSs (cxOf (L2.CX P w) P w K mg base N_is_tuple_of "is_tuple_of" (defScope (top 15)) f cdv A outer s H E) (defBody (top 15)) (t_is_tuple_of K E) := by
  have tk : Takes (cxOf (L2.CX P w) P w K mg base N_is_tuple_of "is_tuple_of" (defScope (top 15)) f cdv A outer s H E) (WD E) := takes_of rfl rfl rfl rfl
  have nd := sc_is_tuple_of.nd
  exact (pss_one (ps_ret (pe_and (pe_callB uIsi rfl (W.fr c 53 rfl) bt_isinstance (pa_cons (pv 0) (pa_cons (pe_bltn rfl (W.fr c 61 rfl) bt_tuple rfl) pa_nil))) (pe_one (pe_cmpR (uEqQ hr.units) (pe_callB uLen rfl (W.fr c 54 rfl) bt_len (pa_cons (pv 0) pa_nil)) (pv 1) (nomark _))))))
abbrev N_are_between : List Str := ["values", "least", "most", "value"]
theorem sc_are_between : FnScope N_are_between ["values", "least", "most"] (defScope (top 16)) := ⟨rfl, rfl, rfl, by decide +kernel, rfl, by decide +kernel, by decide +kernel⟩
def t_are_between (K : PySem.W.Frag) (E : XK) : TS := (tRet (tCB (rAll K) (tCons (tLc (iSeqV K (tVar 0)) (gName 3) tYes (tCallS (sp_is_between K) (WE E00) (tCons (tVar 3) (tCons (tVar 1) (tCons (tVar 2) tNil)))) [3]) tNil)))
theorem w_are_between {P : Program} {w : World} {K : PySem.W.Frag} {mg : Str → Option Value} {base : Heap} (W : ByNs K mg) (c : He.SaysD fa fn K) {k : Nat} {j_is_between : Nat} (D_is_between : OkE P w K mg base j_is_between "is_between" ["value", "least", "most"] kk_is_between (sp_is_between K)) (l_is_between : j_is_between ≤ k) {f : Addr} (cdv : Value) (A : Around) (outer : List PySem.Env) (s : Shared) (H : Hp) (E : XK) (hr : Room k (A.deeper (envOfC "are_between" (defScope (top 16)) s.heap.objs.size f cdv))) :
    PSs (cxOf (L2.CX P w) P w K mg base N_are_between "are_between" (defScope (top 16)) f cdv A outer s H E) (defBody (top 16)) (t_are_between K E) := by
  have tk : Takes (cxOf (L2.CX P w) P w K mg base N_are_between "are_between" (defScope (top 16)) f cdv A outer s H E) (WD E) := takes_of rfl rfl rfl rfl
  have nd := sc_are_between.nd
  exact (pss_one (ps_ret (pe_callB (uAll rfl) rfl (W.fr c 50 rfl) bt_all (pa_cons (pe_lc (own := [("value", 3)]) (g := (gName 3)) (tt := tYes) rfl nd (pi_seqV (pv 0)) (blkOk_by (own := [("value", 3)]) (N := N_are_between) (sc := (defScope (top 16))) (by decide +kernel)) (fun _ _ _ _ _ => (pg_name (i := 3) nd rfl (Or.inl rfl))) (fun _ _ _ _ _ => pts_nil) (fun _ _ _ _ _ => (pe_callE D_is_between (hr.mono l_is_between) takes0 rfl (pa_cons (pv 3) (pa_cons (pv 1) (pa_cons (pv 2) pa_nil)))))) pa_nil))))
abbrev N_is_ascending : List Str := ["items", "at"]
theorem sc_is_ascending : FnScope N_is_ascending ["items"] (defScope (top 17)) := ⟨rfl, rfl, rfl, by decide +kernel, rfl, by decide +kernel, by decide +kernel⟩
def t_is_ascending (K : PySem.W.Frag) (E : XK) : TS := (tRet (tCB (rAll K) (tCons (tLc (iRng1 (tCons (tOp rSubU (tCB (rLenU K) (tCons (tVar 0) tNil)) (tC (.int 1))) tNil)) (gName 1) tYes (tOp rLtU (tOp (rIx K) (tVar 0) (tVar 1)) (tOp (rIx K) (tVar 0) (tOp (rAddU K) (tVar 1) (tC (.int 1))))) [1]) tNil)))
theorem w_is_ascending {P : Program} {w : World} {K : PySem.W.Frag} {mg : Str → Option Value} {base : Heap} (W : ByNs K mg) (c : He.SaysD fa fn K) {k : Nat} {f : Addr} (cdv : Value) (A : Around) (outer : List PySem.Env) (s : Shared) (H : Hp) (E : XK) (hr : Room k (A.deeper (envOfC "is_ascending" (defScope (top 17)) s.heap.objs.size f cdv))) :
    PSs (cxOf (L2.CX P w) P w K mg base N_is_ascending "is_ascending" (defScope (top 17)) f cdv A outer s H E) (defBody (top 17)) (t_is_ascending K E) := by
  have tk : Takes (cxOf (L2.CX P w) P w K mg base N_is_ascending "is_ascending" (defScope (top 17)) f cdv A outer s H E) (WD E) := takes_of rfl rfl rfl rfl
  have nd := sc_is_ascending.nd
  exact (pss_one (ps_ret (pe_callB (uAll rfl) rfl (W.fr c 50 rfl) bt_all (pa_cons (pe_lc (own := [("at", 1)]) (g := (gName 1)) (tt := tYes) rfl nd (pi_range1 rfl (W.fr c 58 rfl) (pa_cons (pe_op uSub (pe_callB uLen rfl (W.fr c 54 rfl) bt_len (pa_cons (pv 0) pa_nil)) pe_int) pa_nil)) (blkOk_by (own := [("at", 1)]) (N := N_is_ascending) (sc := (defScope (top 17))) (by decide +kernel)) (fun _ _ _ _ _ => (pg_name (i := 1) nd rfl (Or.inl rfl))) (fun _ _ _ _ _ => pts_nil) (fun _ _ _ _ _ => (pe_cmpR op_lt (pe_ix ix_seq (pv 0) (pv 1) (fun _ _ => rfl)) (pe_ix ix_seq (pv 0) (pe_op uAdd (pv 1) pe_int) (fun _ _ => rfl)) (nomark _)))) pa_nil))))
abbrev N_is_subset : List Str := ["value", "least", "most"]
theorem sc_is_subset : FnScope N_is_subset ["value", "least", "most"] (defScope (top 18)) := ⟨rfl, rfl, rfl, by decide +kernel, rfl, by decide +kernel, by decide +kernel⟩
def t_is_subset (K : PySem.W.Frag) (E : XK) : TS := (tRet (tAndV (tCB (rIsiU K) (tCons (tVar 0) (tCons (tC (.ty "tuple")) tNil))) (tAndV (tCallS (sp_are_between K) (WE (WD E)) (tCons (tVar 0) (tCons (tVar 1) (tCons (tVar 2) tNil)))) (tCallS (sp_is_ascending K) (WE (WD E)) (tCons (tVar 0) tNil)))))
theorem w_is_subset {P : Program} {w : World} {K : PySem.W.Frag} {mg : Str → Option Value} {base : Heap} (W : ByNs K mg) (c : He.SaysD fa fn K) {k : Nat} {j_are_between : Nat} (D_are_between : OkE P w K mg base j_are_between "are_between" ["values", "least", "most"] kk_are_between (sp_are_between K)) (l_are_between : j_are_between ≤ k) {j_is_ascending : Nat} (D_is_ascending : OkE P w K mg base j_is_ascending "is_ascending" ["items"] kk_is_ascending (sp_is_ascending K)) (l_is_ascending : j_is_ascending ≤ k) {f : Addr} (cdv : Value) (A : Around) (outer : List PySem.Env) (s : Shared) (H : Hp) (E : XK) (hr : Room k (A.deeper (envOfC "is_subset" (defScope (top 18)) s.heap.objs.size f cdv))) :
    PSs (cxOf (L2.CX P w) P w K mg base N_is_subset "is_subset" (defScope (top 18)) f cdv A outer s H E) (defBody (top 18)) (t_is_subset K E) := by
  have tk : Takes (cxOf (L2.CX P w) P w K mg base N_is_subset "is_subset" (defScope (top 18)) f cdv A outer s H E) (WD E) := takes_of rfl rfl rfl rfl
  have nd := sc_is_subset.nd
  exact (pss_one (ps_ret (pe_and (pe_callB uIsi rfl (W.fr c 53 rfl) bt_isinstance (pa_cons (pv 0) (pa_cons (pe_bltn rfl (W.fr c 61 rfl) bt_tuple rfl) pa_nil))) (pe_and (pe_callE D_are_between (hr.mono l_are_between) tk rfl (pa_cons (pv 0) (pa_cons (pv 1) (pa_cons (pv 2) pa_nil)))) (pe_one (pe_callE D_is_ascending (hr.mono l_is_ascending) tk rfl (pa_cons (pv 0) pa_nil)))))))
abbrev N_are_receivers : List Str := ["value", "houses", "readers"]
theorem sc_are_receivers : FnScope N_are_receivers ["value", "houses", "readers"] (defScope (top 19)) := ⟨rfl, rfl, rfl, by decide +kernel, rfl, by decide +kernel, by decide +kernel⟩
def t_are_receivers (K : PySem.W.Frag) (E : XK) : TS := (tRet (tCallS (sp_is_subset K) (WE (WD E)) (tCons (tVar 0) (tCons (tUn rNegU (tVar 2)) (tCons (tOp rSubU (tVar 1) (tC (.int 1))) tNil)))))
theorem w_are_receivers {P : Program} {w : World} {K : PySem.W.Frag} {mg : Str → Option Value} {base : Heap} (W : ByNs K mg) (c : He.SaysD fa fn K) {k : Nat} {j_is_subset : Nat} (D_is_subset : OkE P w K mg base j_is_subset "is_subset" ["value", "least", "most"] kk_is_subset (sp_is_subset K)) (l_is_subset : j_is_subset ≤ k) {f : Addr} (cdv : Value) (A : Around) (outer : List PySem.Env) (s : Shared) (H : Hp) (E : XK) (hr : Room k (A.deeper (envOfC "are_receivers" (defScope (top 19)) s.heap.objs.size f cdv))) :
    PSs (cxOf (L2.CX P w) P w K mg base N_are_receivers "are_receivers" (defScope (top 19)) f cdv A outer s H E) (defBody (top 19)) (t_are_receivers K E) := by
  have tk : Takes (cxOf (L2.CX P w) P w K mg base N_are_receivers "are_receivers" (defScope (top 19)) f cdv A outer s H E) (WD E) := takes_of rfl rfl rfl rfl
  have nd := sc_are_receivers.nd
  exact (pss_one (ps_ret (pe_callE D_is_subset (hr.mono l_is_subset) tk rfl (pa_cons (pv 0) (pa_cons (pe_un uNeg (pv 2)) (pa_cons (pe_op uSub (pv 1) pe_int) pa_nil))))))
abbrev N_is_frame : List Str := ["value", "houses", "readers"]
theorem sc_is_frame : FnScope N_is_frame ["value", "houses", "readers"] (defScope (top 27)) := ⟨rfl, rfl, rfl, by decide +kernel, rfl, by decide +kernel, by decide +kernel⟩
def t_is_frame (K : PySem.W.Frag) (E : XK) : TS := (tSeq (tIfS (tOr (tNot (tTruU K (tCallS (sp_is_tuple_of K) (WE (WD E)) (tCons (tVar 0) (tCons (tC (.int 2)) tNil))))) (tNot (tTruU K (tCallS (sp_is_between K) (WE (WD E)) (tCons (tOp (rIx K) (tVar 0) (tC (.int 0))) (tCons (tC (.int 0)) (tCons (tOp rSubU (tVar 1) (tC (.int 1))) tNil))))))) (tRet (tC (.bl false))) tNext)
  (tRet (tAndV (tCallS (sp_are_receivers K) (WE (WD E)) (tCons (tOp (rIx K) (tVar 0) (tC (.int 1))) (tCons (tVar 1) (tCons (tVar 2) tNil)))) (tAndV (tOp (rNeU K) (tOp (rIx K) (tVar 0) (tC (.int 1))) (tTup tNil)) (tOp (rIn K true) (tOp (rIx K) (tVar 0) (tC (.int 0))) (tOp (rIx K) (tVar 0) (tC (.int 1))))))))
theorem w_is_frame {P : Program} {w : World} {K : PySem.W.Frag} {mg : Str → Option Value} {base : Heap} (W : ByNs K mg) (c : He.SaysD fa fn K) {k : Nat} {j_are_receivers : Nat} (D_are_receivers : OkE P w K mg base j_are_receivers "are_receivers" ["value", "houses", "readers"] kk_are_receivers (sp_are_receivers K)) (l_are_receivers : j_are_receivers ≤ k) {j_is_between : Nat} (D_is_between : OkE P w K mg base j_is_between "is_between" ["value", "least", "most"] kk_is_between (sp_is_between K)) (l_is_between : j_is_between ≤ k) {j_is_tuple_of : Nat} (D_is_tuple_of : OkE P w K mg base j_is_tuple_of "is_tuple_of" ["value", "many"] kk_is_tuple_of (sp_is_tuple_of K)) (l_is_tuple_of : j_is_tuple_of ≤ k) {f : Addr} (cdv : Value) (A : Around) (outer : List PySem.Env) (s : Shared) (H : Hp) (E : XK) (hr : Room k (A.deeper (envOfC "is_frame" (defScope (top 27)) s.heap.objs.size f cdv))) :
    PSs (cxOf (L2.CX P w) P w K mg base N_is_frame "is_frame" (defScope (top 27)) f cdv A outer s H E) (defBody (top 27)) (t_is_frame K E) := by
  have tk : Takes (cxOf (L2.CX P w) P w K mg base N_is_frame "is_frame" (defScope (top 27)) f cdv A outer s H E) (WD E) := takes_of rfl rfl rfl rfl
  have nd := sc_is_frame.nd
  exact (pss_cons (ps_if (PW.pt (pw_or (pt_not (pt_truth (pe_callE D_is_tuple_of (hr.mono l_is_tuple_of) tk rfl (pa_cons (pv 0) (pa_cons pe_int pa_nil))) (fun _ => rfl))) (pw_or1 (pt_not (pt_truth (pe_callE D_is_between (hr.mono l_is_between) tk rfl (pa_cons (pe_ix ix_seq (pv 0) pe_int (fun _ _ => rfl)) (pa_cons pe_int (pa_cons (pe_op uSub (pv 1) pe_int) pa_nil)))) (fun _ => rfl)))))) (pss_one (ps_ret pe_bl)) pss_nil)
  (pss_one (ps_ret (pe_and (pe_callE D_are_receivers (hr.mono l_are_receivers) tk rfl (pa_cons (pe_ix ix_seq (pv 0) pe_int (fun _ _ => rfl)) (pa_cons (pv 1) (pa_cons (pv 2) pa_nil)))) (pe_and (pe_cmpR (uNe hr.units) (pe_ix ix_seq (pv 0) pe_int (fun _ _ => rfl)) (pe_tup pa_nil) (nomark _)) (pe_one (pe_cmpR op_notIn_seq (pe_ix ix_seq (pv 0) pe_int (fun _ _ => rfl)) (pe_ix ix_seq (pv 0) pe_int (fun _ _ => rfl)) rfl)))))))
abbrev N_is_moment : List Str := ["value", "houses", "readers"]
theorem sc_is_moment : FnScope N_is_moment ["value", "houses", "readers"] (defScope (top 28)) := ⟨rfl, rfl, rfl, by decide +kernel, rfl, by decide +kernel, by decide +kernel⟩
def t_is_moment (K : PySem.W.Frag) (E : XK) : TS := (tSeq (tIfS (tOr (tNot (tTruU K (tCallS (sp_is_tuple_of K) (WE (WD E)) (tCons (tVar 0) (tCons (tC (.int 3)) tNil))))) (tOr (tNot (tTruU K (tCallS (sp_is_tuple_of K) (WE (WD E)) (tCons (tOp (rIx K) (tVar 0) (tC (.int 0))) (tCons (tVar 1) tNil))))) (tNot (tTruU K (tCallS (sp_are_between K) (WE (WD E)) (tCons (tOp (rIx K) (tVar 0) (tC (.int 0))) (tCons (tC (.int 0)) (tCons (tC (.int 4)) tNil)))))))) (tRet (tC (.bl false))) tNext)
  (tSeq (tIfS (tAnd (tTest (tOp rIsNotU (tOp (rIx K) (tVar 0) (tC (.int 1))) (tC .non))) (tNot (tTruU K (tCallS (sp_is_frame K) (WE (WD E)) (tCons (tOp (rIx K) (tVar 0) (tC (.int 1))) (tCons (tVar 1) (tCons (tVar 2) tNil))))))) (tRet (tC (.bl false))) tNext)
  (tRet (tOrV (tOp rIsU (tOp (rIx K) (tVar 0) (tC (.int 2))) (tC .non)) (tCallS (sp_is_between K) (WE (WD E)) (tCons (tOp (rIx K) (tVar 0) (tC (.int 2))) (tCons (tC (.int 0)) (tCons (tC (.int 8)) tNil))))))))
theorem w_is_moment {P : Program} {w : World} {K : PySem.W.Frag} {mg : Str → Option Value} {base : Heap} (W : ByNs K mg) (c : He.SaysD fa fn K) {k : Nat} {j_are_between : Nat} (D_are_between : OkE P w K mg base j_are_between "are_between" ["values", "least", "most"] kk_are_between (sp_are_between K)) (l_are_between : j_are_between ≤ k) {j_is_between : Nat} (D_is_between : OkE P w K mg base j_is_between "is_between" ["value", "least", "most"] kk_is_between (sp_is_between K)) (l_is_between : j_is_between ≤ k) {j_is_frame : Nat} (D_is_frame : OkE P w K mg base j_is_frame "is_frame" ["value", "houses", "readers"] kk_is_frame (sp_is_frame K)) (l_is_frame : j_is_frame ≤ k) {j_is_tuple_of : Nat} (D_is_tuple_of : OkE P w K mg base j_is_tuple_of "is_tuple_of" ["value", "many"] kk_is_tuple_of (sp_is_tuple_of K)) (l_is_tuple_of : j_is_tuple_of ≤ k) {f : Addr} (cdv : Value) (A : Around) (outer : List PySem.Env) (s : Shared) (H : Hp) (E : XK) (hr : Room k (A.deeper (envOfC "is_moment" (defScope (top 28)) s.heap.objs.size f cdv))) :
    PSs (cxOf (L2.CX P w) P w K mg base N_is_moment "is_moment" (defScope (top 28)) f cdv A outer s H E) (defBody (top 28)) (t_is_moment K E) := by
  have tk : Takes (cxOf (L2.CX P w) P w K mg base N_is_moment "is_moment" (defScope (top 28)) f cdv A outer s H E) (WD E) := takes_of rfl rfl rfl rfl
  have nd := sc_is_moment.nd
  exact (pss_cons (ps_if (PW.pt (pw_or (pt_not (pt_truth (pe_callE D_is_tuple_of (hr.mono l_is_tuple_of) tk rfl (pa_cons (pv 0) (pa_cons pe_int pa_nil))) (fun _ => rfl))) (pw_or (pt_not (pt_truth (pe_callE D_is_tuple_of (hr.mono l_is_tuple_of) tk rfl (pa_cons (pe_ix ix_seq (pv 0) pe_int (fun _ _ => rfl)) (pa_cons (pv 1) pa_nil))) (fun _ => rfl))) (pw_or1 (pt_not (pt_truth (pe_callE D_are_between (hr.mono l_are_between) tk rfl (pa_cons (pe_ix ix_seq (pv 0) pe_int (fun _ _ => rfl)) (pa_cons pe_int (pa_cons (pe_glob rfl (W.int c 65 rfl).choose_spec ⟨_, rfl⟩) pa_nil)))) (fun _ => rfl))))))) (pss_one (ps_ret pe_bl)) pss_nil)
  (pss_cons (ps_if (PW.pt (pw_and (pt_cmpR uIsNot (pe_ix ix_seq (pv 0) pe_int (fun _ _ => rfl)) pe_non (nomark _)) (pw_and1 (pt_not (pt_truth (pe_callE D_is_frame (hr.mono l_is_frame) tk rfl (pa_cons (pe_ix ix_seq (pv 0) pe_int (fun _ _ => rfl)) (pa_cons (pv 1) (pa_cons (pv 2) pa_nil)))) (fun _ => rfl)))))) (pss_one (ps_ret pe_bl)) pss_nil)
  (pss_one (ps_ret (pe_or (pe_cmpR uIs (pe_ix ix_seq (pv 0) pe_int (fun _ _ => rfl)) pe_non (nomark _)) (pe_one (pe_callE D_is_between (hr.mono l_is_between) tk rfl (pa_cons (pe_ix ix_seq (pv 0) pe_int (fun _ _ => rfl)) (pa_cons pe_int (pa_cons (pe_glob rfl (W.int c 66 rfl).choose_spec ⟨_, rfl⟩) pa_nil))))))))))
abbrev N_are_moments : List Str := ["value", "houses", "readers", "moment"]
theorem sc_are_moments : FnScope N_are_moments ["value", "houses", "readers"] (defScope (top 29)) := ⟨rfl, rfl, rfl, by decide +kernel, rfl, by decide +kernel, by decide +kernel⟩
def t_are_moments (K : PySem.W.Frag) (E : XK) : TS := (tSeq (tIfS (tOr (tNot (tTruU K (tCallS (sp_is_list K) (WE (WD E)) (tCons (tVar 0) tNil)))) (tNot (tTest (tChain rLeU rLeU (tC (.int 1)) (tCB (rLenU K) (tCons (tVar 0) tNil)) (tC (.int 24)))))) (tRet (tC (.bl false))) tNext)
  (tRet (tCB (rAll K) (tCons (tLc (iSeqV K (tVar 0)) (gName 3) tYes (tCallS (sp_is_moment K) (WE E00) (tCons (tVar 3) (tCons (tVar 1) (tCons (tVar 2) tNil)))) [3]) tNil))))
theorem w_are_moments {P : Program} {w : World} {K : PySem.W.Frag} {mg : Str → Option Value} {base : Heap} (W : ByNs K mg) (c : He.SaysD fa fn K) {k : Nat} {j_is_list : Nat} (D_is_list : OkE P w K mg base j_is_list "is_list" ["value"] kk_is_list (sp_is_list K)) (l_is_list : j_is_list ≤ k) {j_is_moment : Nat} (D_is_moment : OkE P w K mg base j_is_moment "is_moment" ["value", "houses", "readers"] kk_is_moment (sp_is_moment K)) (l_is_moment : j_is_moment ≤ k) {f : Addr} (cdv : Value) (A : Around) (outer : List PySem.Env) (s : Shared) (H : Hp) (E : XK) (hr : Room k (A.deeper (envOfC "are_moments" (defScope (top 29)) s.heap.objs.size f cdv))) :
    PSs (cxOf (L2.CX P w) P w K mg base N_are_moments "are_moments" (defScope (top 29)) f cdv A outer s H E) (defBody (top 29)) (t_are_moments K E) := by
  have tk : Takes (cxOf (L2.CX P w) P w K mg base N_are_moments "are_moments" (defScope (top 29)) f cdv A outer s H E) (WD E) := takes_of rfl rfl rfl rfl
  have nd := sc_are_moments.nd
  exact (pss_cons (ps_if (PW.pt (pw_or (pt_not (pt_truth (pe_callE D_is_list (hr.mono l_is_list) tk rfl (pa_cons (pv 0) pa_nil)) (fun _ => rfl))) (pw_or1 (pt_not (pt_chain op_le op_le pe_int (pe_callB uLen rfl (W.fr c 54 rfl) bt_len (pa_cons (pv 0) pa_nil)) (pe_glob rfl (W.int c 64 rfl).choose_spec ⟨_, rfl⟩)))))) (pss_one (ps_ret pe_bl)) pss_nil)
  (pss_one (ps_ret (pe_callB (uAll rfl) rfl (W.fr c 50 rfl) bt_all (pa_cons (pe_lc (own := [("moment", 3)]) (g := (gName 3)) (tt := tYes) rfl nd (pi_seqV (pv 0)) (blkOk_by (own := [("moment", 3)]) (N := N_are_moments) (sc := (defScope (top 29))) (by decide +kernel)) (fun _ _ _ _ _ => (pg_name (i := 3) nd rfl (Or.inl rfl))) (fun _ _ _ _ _ => pts_nil) (fun _ _ _ _ _ => (pe_callE D_is_moment (hr.mono l_is_moment) takes0 rfl (pa_cons (pv 3) (pa_cons (pv 1) (pa_cons (pv 2) pa_nil)))))) pa_nil)))))
abbrev N_check_tick : List Str := ["tick"]
theorem sc_check_tick : FnScope N_check_tick ["tick"] (defScope (top 31)) := ⟨rfl, rfl, rfl, by decide +kernel, rfl, by decide +kernel, by decide +kernel⟩
def t_check_tick (K : PySem.W.Frag) (E : XK) : TS := (tIfS (tNot (tTruU K (tCallS (sp_is_between K) (WE (WD E)) (tCons (tVar 0) (tCons (tC (.int 0)) (tCons (tC (.int 1000000000000000)) tNil)))))) (tRaiseO (He.ga K "InvalidTick") (spIni (He.ga K "InvalidTick") ["given"]) (tCons (tVar 0) tNil) (WD E)) tNext)
theorem w_check_tick {P : Program} {w : World} {K : PySem.W.Frag} {mg : Str → Option Value} {base : Heap} (W : ByNs K mg) (c : He.SaysD fa fn K) {k : Nat} {j_is_between : Nat} (D_is_between : OkE P w K mg base j_is_between "is_between" ["value", "least", "most"] kk_is_between (sp_is_between K)) (l_is_between : j_is_between ≤ k) {ji_InvalidTick : Nat} (I_InvalidTick : OkI P w K mg base ji_InvalidTick "InvalidTick" ["self", "given"] ["given"]) (li_InvalidTick : ji_InvalidTick + 1 ≤ k) {f : Addr} (cdv : Value) (A : Around) (outer : List PySem.Env) (s : Shared) (H : Hp) (E : XK) (hr : Room k (A.deeper (envOfC "check_tick" (defScope (top 31)) s.heap.objs.size f cdv))) :
    PSs (cxOf (L2.CX P w) P w K mg base N_check_tick "check_tick" (defScope (top 31)) f cdv A outer s H E) (defBody (top 31)) (t_check_tick K E) := by
  have tk : Takes (cxOf (L2.CX P w) P w K mg base N_check_tick "check_tick" (defScope (top 31)) f cdv A outer s H E) (WD E) := takes_of rfl rfl rfl rfl
  have nd := sc_check_tick.nd
  exact (pss_one (ps_if (pt_not (pt_truth (pe_callE D_is_between (hr.mono l_is_between) tk rfl (pa_cons (pv 0) (pa_cons pe_int (pa_cons (pe_glob rfl (W.int c 67 rfl).choose_spec ⟨_, rfl⟩) pa_nil)))) (fun _ => rfl))) (pss_one (ps_raiseI rfl I_InvalidTick (hr.mono li_InvalidTick) tk rfl (pa_cons (pv 0) pa_nil))) pss_nil))
abbrev N_moment_at : List Str := ["sky", "tick", "many"]
theorem sc_moment_at : FnScope N_moment_at ["sky", "tick"] (defScope (top 32)) := ⟨rfl, rfl, rfl, by decide +kernel, rfl, by decide +kernel, by decide +kernel⟩
def t_moment_at (K : PySem.W.Frag) (E : XK) : TS := (tSeq (tAsg (tCB (rLenU K) (tCons (tFld K (tVar 0) "moments") tNil)) (gName 2))
  (tSeq (tIfS (tTest (tOp rLtU (tVar 1) (tVar 2))) (tRet (tVar 1)) tNext)
  (tRet (tIf (tTest (tOp rIsU (tFld K (tVar 0) "back") (tC .non))) (tC .non) (tOp (rAddU K) (tFld K (tVar 0) "back") (tOp rModU (tOp rSubU (tVar 1) (tFld K (tVar 0) "back")) (tOp rSubU (tVar 2) (tFld K (tVar 0) "back"))))))))
theorem w_moment_at {P : Program} {w : World} {K : PySem.W.Frag} {mg : Str → Option Value} {base : Heap} (W : ByNs K mg) (c : He.SaysD fa fn K) {k : Nat} {f : Addr} (cdv : Value) (A : Around) (outer : List PySem.Env) (s : Shared) (H : Hp) (E : XK) (hr : Room k (A.deeper (envOfC "moment_at" (defScope (top 32)) s.heap.objs.size f cdv))) :
    PSs (cxOf (L2.CX P w) P w K mg base N_moment_at "moment_at" (defScope (top 32)) f cdv A outer s H E) (defBody (top 32)) (t_moment_at K E) := by
  have tk : Takes (cxOf (L2.CX P w) P w K mg base N_moment_at "moment_at" (defScope (top 32)) f cdv A outer s H E) (WD E) := takes_of rfl rfl rfl rfl
  have nd := sc_moment_at.nd
  exact (pss_cons (ps_set (i := 2) nd rfl (Or.inl rfl) (pe_callB uLen rfl (W.fr c 54 rfl) bt_len (pa_cons (pe_fld (pv 0) rfl) pa_nil)))
  (pss_cons (ps_if (pt_cmpR op_lt (pv 1) (pv 2) (nomark _)) (pss_one (ps_ret (pv 1))) pss_nil)
  (pss_one (ps_ret (pe_ifExp (pt_cmpR uIs (pe_fld (pv 0) rfl) pe_non (nomark _)) pe_non (pe_op uAdd (pe_fld (pv 0) rfl) (pe_op uMod (pe_op uSub (pv 1) (pe_fld (pv 0) rfl)) (pe_op uSub (pv 2) (pe_fld (pv 0) rfl)))))))))
abbrev N_moment_of : List Str := ["sky", "tick"]
theorem sc_moment_of : FnScope N_moment_of ["sky", "tick"] (defScope (top 33)) := ⟨rfl, rfl, rfl, by decide +kernel, rfl, by decide +kernel, by decide +kernel⟩
def t_moment_of (K : PySem.W.Frag) (E : XK) : TS := (tSeq (tDrop (tCallS (sp_check_tick K) (WE (WD E)) (tCons (tVar 1) tNil)))
  (tRet (tCallS (sp_moment_at K) (WE (WD E)) (tCons (tVar 0) (tCons (tVar 1) tNil)))))
theorem w_moment_of {P : Program} {w : World} {K : PySem.W.Frag} {mg : Str → Option Value} {base : Heap} (W : ByNs K mg) (c : He.SaysD fa fn K) {k : Nat} {j_check_tick : Nat} (D_check_tick : OkE P w K mg base j_check_tick "check_tick" ["tick"] kk_check_tick (sp_check_tick K)) (l_check_tick : j_check_tick ≤ k) {j_moment_at : Nat} (D_moment_at : OkE P w K mg base j_moment_at "moment_at" ["sky", "tick"] kk_moment_at (sp_moment_at K)) (l_moment_at : j_moment_at ≤ k) {f : Addr} (cdv : Value) (A : Around) (outer : List PySem.Env) (s : Shared) (H : Hp) (E : XK) (hr : Room k (A.deeper (envOfC "moment_of" (defScope (top 33)) s.heap.objs.size f cdv))) :
    PSs (cxOf (L2.CX P w) P w K mg base N_moment_of "moment_of" (defScope (top 33)) f cdv A outer s H E) (defBody (top 33)) (t_moment_of K E) := by
  have tk : Takes (cxOf (L2.CX P w) P w K mg base N_moment_of "moment_of" (defScope (top 33)) f cdv A outer s H E) (WD E) := takes_of rfl rfl rfl rfl
  have nd := sc_moment_of.nd
  exact (pss_cons (ps_expr (pe_callE D_check_tick (hr.mono l_check_tick) tk rfl (pa_cons (pv 1) pa_nil)))
  (pss_one (ps_ret (pe_callE D_moment_at (hr.mono l_moment_at) tk rfl (pa_cons (pv 0) (pa_cons (pv 1) pa_nil))))))
abbrev N_least_ring : List Str := ["ring", "many"]
theorem sc_least_ring : FnScope N_least_ring ["ring"] (defScope (top 34)) := ⟨rfl, rfl, rfl, by decide +kernel, rfl, by decide +kernel, by decide +kernel⟩
def t_least_ring (K : PySem.W.Frag) (E : XK) : TS := (tSeq (tFor (iRng2 (tCons (tC (.int 1)) (tCons (tCB (rLenU K) (tCons (tVar 0) tNil)) tNil))) (gName 1) (tIfS (tAnd (tTest (tOp (rEqQ K) (tOp rModU (tCB (rLenU K) (tCons (tVar 0) tNil)) (tVar 1)) (tC (.int 0)))) (tTest (tOp (rEqQ K) (tVar 0) (tOp (rMulU K) (tSl (rSlU K) (tVar 0) tNoPart (tPart (tVar 1))) (tOp rDivU (tCB (rLenU K) (tCons (tVar 0) tNil)) (tVar 1)))))) (tRet (tSl (rSlU K) (tVar 0) tNoPart (tPart (tVar 1)))) tNext))
  (tRet (tVar 0)))
theorem w_least_ring {P : Program} {w : World} {K : PySem.W.Frag} {mg : Str → Option Value} {base : Heap} (W : ByNs K mg) (c : He.SaysD fa fn K) {k : Nat} {f : Addr} (cdv : Value) (A : Around) (outer : List PySem.Env) (s : Shared) (H : Hp) (E : XK) (hr : Room k (A.deeper (envOfC "least_ring" (defScope (top 34)) s.heap.objs.size f cdv))) :
    PSs (cxOf (L2.CX P w) P w K mg base N_least_ring "least_ring" (defScope (top 34)) f cdv A outer s H E) (defBody (top 34)) (t_least_ring K E) := by
  have tk : Takes (cxOf (L2.CX P w) P w K mg base N_least_ring "least_ring" (defScope (top 34)) f cdv A outer s H E) (WD E) := takes_of rfl rfl rfl rfl
  have nd := sc_least_ring.nd
  exact (pss_cons (ps_for (passes_of rfl) rfl (pi_range2 rfl (W.fr c 58 rfl) (pa_cons pe_int (pa_cons (pe_callB uLen rfl (W.fr c 54 rfl) bt_len (pa_cons (pv 0) pa_nil)) pa_nil))) (pg_name (i := 1) nd rfl (Or.inl rfl)) (pss_one (ps_if (PW.pt (pw_and (pt_cmpR (uEqQ hr.units) (pe_op uMod (pe_callB uLen rfl (W.fr c 54 rfl) bt_len (pa_cons (pv 0) pa_nil)) (pv 1)) pe_int (nomark _)) (pw_and1 (pt_cmpR (uEqQ hr.units) (pv 0) (pe_op uMul (pe_slice uSl (pv 0) po_none (po_some (pv 1))) (pe_op uDiv (pe_callB uLen rfl (W.fr c 54 rfl) bt_len (pa_cons (pv 0) pa_nil)) (pv 1))) (nomark _))))) (pss_one (ps_ret (pe_slice uSl (pv 0) po_none (po_some (pv 1))))) pss_nil)))
  (pss_one (ps_ret (pv 0))))
abbrev N_shortest_of : List Str := ["houses", "readers", "moments", "back", "head", "ring"]
theorem sc_shortest_of : FnScope N_shortest_of ["houses", "readers", "moments", "back"] (defScope (top 35)) := ⟨rfl, rfl, rfl, by decide +kernel, rfl, by decide +kernel, by decide +kernel⟩
def t_shortest_of (K : PySem.W.Frag) (E : XK) : TS := (tSeq (tIfS (tTest (tOp rIsU (tVar 3) (tC .non))) (tRet (tMakeS (He.ga K "Sky") (sp_Sky_init K) (WE (WD E)) (tCons (tVar 0) (tCons (tVar 1) (tCons (tVar 2) (tCons (tC .non) tNil)))))) tNext)
  (tSeq (tPar 4 5 (tCons (tCB (rListU K) (tCons (tSl (rSlU K) (tVar 2) tNoPart (tPart (tVar 3))) tNil)) (tCons (tCallS (sp_least_ring K) (WE (WD E)) (tCons (tCB (rListU K) (tCons (tSl (rSlU K) (tVar 2) (tPart (tVar 3)) tNoPart) tNil)) tNil)) tNil)))
  (tSeq (tWhile (tAnd (tTest (tOp (rNeU K) (tVar 4) (tLst tNil))) (tTest (tOp (rEqQ K) (tOp (rIx K) (tVar 4) (tUn rNegU (tC (.int 1)))) (tOp (rIx K) (tVar 5) (tUn rNegU (tC (.int 1))))))) (tAsg (tOp (rAddU K) (tLst (tCons (tBM0 K "list" rPop (tVar 4)) tNil)) (tSl (rSlU K) (tVar 5) tNoPart (tPart (tUn rNegU (tC (.int 1)))))) (gName 5)))
  (tRet (tMakeS (He.ga K "Sky") (sp_Sky_init K) (WE (WD E)) (tCons (tVar 0) (tCons (tVar 1) (tCons (tOp (rAddU K) (tVar 4) (tVar 5)) (tCons (tCB (rLenU K) (tCons (tVar 4) tNil)) tNil)))))))))
theorem w_shortest_of {P : Program} {w : World} {K : PySem.W.Frag} {mg : Str → Option Value} {base : Heap} (W : ByNs K mg) (c : He.SaysD fa fn K) {k : Nat} {j_least_ring : Nat} (D_least_ring : OkE P w K mg base j_least_ring "least_ring" ["ring"] kk_least_ring (sp_least_ring K)) (l_least_ring : j_least_ring ≤ k) {jm_Sky : Nat} (M_Sky : OkM P w K mg base jm_Sky "Sky" ["self", "houses", "readers", "moments", "back"] kk_Sky_init (sp_Sky_init K)) (lm_Sky : jm_Sky + 1 ≤ k) {f : Addr} (cdv : Value) (A : Around) (outer : List PySem.Env) (s : Shared) (H : Hp) (E : XK) (hr : Room k (A.deeper (envOfC "shortest_of" (defScope (top 35)) s.heap.objs.size f cdv))) :
    PSs (cxOf (L2.CX P w) P w K mg base N_shortest_of "shortest_of" (defScope (top 35)) f cdv A outer s H E) (defBody (top 35)) (t_shortest_of K E) := by
  have tk : Takes (cxOf (L2.CX P w) P w K mg base N_shortest_of "shortest_of" (defScope (top 35)) f cdv A outer s H E) (WD E) := takes_of rfl rfl rfl rfl
  have nd := sc_shortest_of.nd
  exact (pss_cons (ps_if (pt_cmpR uIs (pv 3) pe_non (nomark _)) (pss_one (ps_ret (pe_makeE M_Sky (hr.mono lm_Sky) tk rfl (pa_cons (pv 0) (pa_cons (pv 1) (pa_cons (pv 2) (pa_cons pe_non pa_nil))))))) pss_nil)
  (pss_cons (ps_par (i := 4) (j := 5) rfl nd rfl rfl (by decide) rfl rfl (pa_cons (pe_callTy uList rfl (W.fr c 55 rfl) bt_list (pa_cons (pe_slice uSl (pv 2) po_none (po_some (pv 3))) pa_nil)) (pa_cons (pe_callE D_least_ring (hr.mono l_least_ring) tk rfl (pa_cons (pe_callTy uList rfl (W.fr c 55 rfl) bt_list (pa_cons (pe_slice uSl (pv 2) (po_some (pv 3)) po_none) pa_nil)) pa_nil)) pa_nil)) rfl)
  (pss_cons (ps_while (passes_of rfl) (PW.pt (pw_and (pt_cmpR (uNe hr.units) (pv 4) (pe_lst pa_nil) (nomark _)) (pw_and1 (pt_cmpR (uEqQ hr.units) (pe_ix ix_seq (pv 4) (pe_un uNeg pe_int) (fun _ _ => rfl)) (pe_ix ix_seq (pv 5) (pe_un uNeg pe_int) (fun _ _ => rfl)) (nomark _))))) (pss_one (ps_set (i := 5) nd rfl (Or.inl rfl) (pe_op uAdd (pe_lst (pa_cons (pe_bm0 PySem.F.plainAttrs_list PySem.F.slot_list_pop PySem.F.type_list_pop mt_pop (pv 4)) pa_nil)) (pe_slice uSl (pv 5) po_none (po_some (pe_un uNeg pe_int)))))))
  (pss_one (ps_ret (pe_makeE M_Sky (hr.mono lm_Sky) tk rfl (pa_cons (pv 0) (pa_cons (pv 1) (pa_cons (pe_op uAdd (pv 4) (pv 5)) (pa_cons (pe_callB uLen rfl (W.fr c 54 rfl) bt_len (pa_cons (pv 4) pa_nil)) pa_nil))))))))))
abbrev N_shortest_sky : List Str := ["sky"]
theorem sc_shortest_sky : FnScope N_shortest_sky ["sky"] (defScope (top 36)) := ⟨rfl, rfl, rfl, by decide +kernel, rfl, by decide +kernel, by decide +kernel⟩
def t_shortest_sky (K : PySem.W.Frag) (E : XK) : TS := (tRet (tCallS (sp_shortest_of K) (WE (WD E)) (tCons (tFld K (tVar 0) "houses") (tCons (tFld K (tVar 0) "readers") (tCons (tFld K (tVar 0) "moments") (tCons (tFld K (tVar 0) "back") tNil))))))
theorem w_shortest_sky {P : Program} {w : World} {K : PySem.W.Frag} {mg : Str → Option Value} {base : Heap} (W : ByNs K mg) (c : He.SaysD fa fn K) {k : Nat} {j_shortest_of : Nat} (D_shortest_of : OkE P w K mg base j_shortest_of "shortest_of" ["houses", "readers", "moments", "back"] kk_shortest_of (sp_shortest_of K)) (l_shortest_of : j_shortest_of ≤ k) {f : Addr} (cdv : Value) (A : Around) (outer : List PySem.Env) (s : Shared) (H : Hp) (E : XK) (hr : Room k (A.deeper (envOfC "shortest_sky" (defScope (top 36)) s.heap.objs.size f cdv))) :
    PSs (cxOf (L2.CX P w) P w K mg base N_shortest_sky "shortest_sky" (defScope (top 36)) f cdv A outer s H E) (defBody (top 36)) (t_shortest_sky K E) := by
  have tk : Takes (cxOf (L2.CX P w) P w K mg base N_shortest_sky "shortest_sky" (defScope (top 36)) f cdv A outer s H E) (WD E) := takes_of rfl rfl rfl rfl
  have nd := sc_shortest_sky.nd
  exact (pss_one (ps_ret (pe_callE D_shortest_of (hr.mono l_shortest_of) tk rfl (pa_cons (pe_fld (pv 0) rfl) (pa_cons (pe_fld (pv 0) rfl) (pa_cons (pe_fld (pv 0) rfl) (pa_cons (pe_fld (pv 0) rfl) pa_nil)))))))
abbrev N_later_sky : List Str := ["sky", "tick", "at", "back"]
theorem sc_later_sky : FnScope N_later_sky ["sky", "tick"] (defScope (top 37)) := ⟨rfl, rfl, rfl, by decide +kernel, rfl, by decide +kernel, by decide +kernel⟩
def t_later_sky (K : PySem.W.Frag) (E : XK) : TS := (tSeq (tDrop (tCallS (sp_check_tick K) (WE (WD E)) (tCons (tVar 1) tNil)))
  (tSeq (tPar 2 3 (tCons (tCallS (sp_moment_at K) (WE (WD E)) (tCons (tVar 0) (tCons (tVar 1) tNil))) (tCons (tFld K (tVar 0) "back") tNil)))
  (tSeq (tIfS (tTest (tOp rIsU (tVar 2) (tC .non))) (tRaiseO (He.ga K "Ended") (spIni (He.ga K "Ended") ["ticks"]) (tCons (tCB (rLenU K) (tCons (tFld K (tVar 0) "moments") tNil)) tNil) (WD E)) tNext)
  (tSeq (tIfS (tOr (tTest (tOp rIsU (tVar 3) (tC .non))) (tTest (tOp rLtU (tVar 2) (tVar 3)))) (tRet (tCallS (sp_shortest_of K) (WE (WD E)) (tCons (tFld K (tVar 0) "houses") (tCons (tFld K (tVar 0) "readers") (tCons (tSl (rSlU K) (tFld K (tVar 0) "moments") (tPart (tVar 2)) tNoPart) (tCons (tIf (tTest (tOp rIsU (tVar 3) (tC .non))) (tC .non) (tOp rSubU (tVar 3) (tVar 2))) tNil)))))) tNext)
  (tRet (tCallS (sp_shortest_of K) (WE (WD E)) (tCons (tFld K (tVar 0) "houses") (tCons (tFld K (tVar 0) "readers") (tCons (tOp (rAddU K) (tSl (rSlU K) (tFld K (tVar 0) "moments") (tPart (tVar 2)) tNoPart) (tSl (rSlU K) (tFld K (tVar 0) "moments") (tPart (tVar 3)) (tPart (tVar 2)))) (tCons (tC (.int 0)) tNil))))))))))
theorem w_later_sky {P : Program} {w : World} {K : PySem.W.Frag} {mg : Str → Option Value} {base : Heap} (W : ByNs K mg) (c : He.SaysD fa fn K) {k : Nat} {j_check_tick : Nat} (D_check_tick : OkE P w K mg base j_check_tick "check_tick" ["tick"] kk_check_tick (sp_check_tick K)) (l_check_tick : j_check_tick ≤ k) {j_moment_at : Nat} (D_moment_at : OkE P w K mg base j_moment_at "moment_at" ["sky", "tick"] kk_moment_at (sp_moment_at K)) (l_moment_at : j_moment_at ≤ k) {j_shortest_of : Nat} (D_shortest_of : OkE P w K mg base j_shortest_of "shortest_of" ["houses", "readers", "moments", "back"] kk_shortest_of (sp_shortest_of K)) (l_shortest_of : j_shortest_of ≤ k) {ji_Ended : Nat} (I_Ended : OkI P w K mg base ji_Ended "Ended" ["self", "ticks"] ["ticks"]) (li_Ended : ji_Ended + 1 ≤ k) {f : Addr} (cdv : Value) (A : Around) (outer : List PySem.Env) (s : Shared) (H : Hp) (E : XK) (hr : Room k (A.deeper (envOfC "later_sky" (defScope (top 37)) s.heap.objs.size f cdv))) :
    PSs (cxOf (L2.CX P w) P w K mg base N_later_sky "later_sky" (defScope (top 37)) f cdv A outer s H E) (defBody (top 37)) (t_later_sky K E) := by
  have tk : Takes (cxOf (L2.CX P w) P w K mg base N_later_sky "later_sky" (defScope (top 37)) f cdv A outer s H E) (WD E) := takes_of rfl rfl rfl rfl
  have nd := sc_later_sky.nd
  exact (pss_cons (ps_expr (pe_callE D_check_tick (hr.mono l_check_tick) tk rfl (pa_cons (pv 1) pa_nil)))
  (pss_cons (ps_par (i := 2) (j := 3) rfl nd rfl rfl (by decide) rfl rfl (pa_cons (pe_callE D_moment_at (hr.mono l_moment_at) tk rfl (pa_cons (pv 0) (pa_cons (pv 1) pa_nil))) (pa_cons (pe_fld (pv 0) rfl) pa_nil)) rfl)
  (pss_cons (ps_if (pt_cmpR uIs (pv 2) pe_non (nomark _)) (pss_one (ps_raiseI rfl I_Ended (hr.mono li_Ended) tk rfl (pa_cons (pe_callB uLen rfl (W.fr c 54 rfl) bt_len (pa_cons (pe_fld (pv 0) rfl) pa_nil)) pa_nil))) pss_nil)
  (pss_cons (ps_if (PW.pt (pw_or (pt_cmpR uIs (pv 3) pe_non (nomark _)) (pw_or1 (pt_cmpR op_lt (pv 2) (pv 3) (nomark _))))) (pss_one (ps_ret (pe_callE D_shortest_of (hr.mono l_shortest_of) tk rfl (pa_cons (pe_fld (pv 0) rfl) (pa_cons (pe_fld (pv 0) rfl) (pa_cons (pe_slice uSl (pe_fld (pv 0) rfl) (po_some (pv 2)) po_none) (pa_cons (pe_ifExp (pt_cmpR uIs (pv 3) pe_non (nomark _)) pe_non (pe_op uSub (pv 3) (pv 2))) pa_nil))))))) pss_nil)
  (pss_one (ps_ret (pe_callE D_shortest_of (hr.mono l_shortest_of) tk rfl (pa_cons (pe_fld (pv 0) rfl) (pa_cons (pe_fld (pv 0) rfl) (pa_cons (pe_op uAdd (pe_slice uSl (pe_fld (pv 0) rfl) (po_some (pv 2)) po_none) (pe_slice uSl (pe_fld (pv 0) rfl) (po_some (pv 3)) (po_some (pv 2)))) (pa_cons pe_int pa_nil)))))))))))
abbrev N_followed_by : List Str := ["first", "second", "many", "back"]
theorem sc_followed_by : FnScope N_followed_by ["first", "second"] (defScope (top 38)) := ⟨rfl, rfl, rfl, by decide +kernel, rfl, by decide +kernel, by decide +kernel⟩
def t_followed_by (K : PySem.W.Frag) (E : XK) : TS := (tSeq (tIfS (tTest (tOp rIsNotU (tFld K (tVar 0) "back") (tC .non))) (tRaise0 (He.ga K "NeverEnds") (WD E)) tNext)
  (tSeq (tIfS (tTest (tOp (rNeU K) (tFld K (tVar 0) "houses") (tFld K (tVar 1) "houses"))) (tRaiseO (He.ga K "InvalidHouses") (spIni (He.ga K "InvalidHouses") ["given"]) (tCons (tFld K (tVar 1) "houses") tNil) (WD E)) tNext)
  (tSeq (tIfS (tTest (tOp (rNeU K) (tFld K (tVar 0) "readers") (tFld K (tVar 1) "readers"))) (tRaiseO (He.ga K "InvalidReaders") (spIni (He.ga K "InvalidReaders") ["given"]) (tCons (tFld K (tVar 1) "readers") tNil) (WD E)) tNext)
  (tSeq (tAsg (tCB (rLenU K) (tCons (tFld K (tVar 0) "moments") tNil)) (gName 2))
  (tSeq (tIfS (tTest (tOp rGtU (tOp (rAddU K) (tVar 2) (tCB (rLenU K) (tCons (tFld K (tVar 1) "moments") tNil))) (tC (.int 24)))) (tRaiseO (He.ga K "TooMany") (spIni (He.ga K "TooMany") ["count"]) (tCons (tOp (rAddU K) (tVar 2) (tCB (rLenU K) (tCons (tFld K (tVar 1) "moments") tNil))) tNil) (WD E)) tNext)
  (tSeq (tAsg (tIf (tTest (tOp rIsU (tFld K (tVar 1) "back") (tC .non))) (tC .non) (tOp (rAddU K) (tVar 2) (tFld K (tVar 1) "back"))) (gName 3))
  (tRet (tMakeS (He.ga K "Sky") (sp_Sky_init K) (WE (WD E)) (tCons (tFld K (tVar 0) "houses") (tCons (tFld K (tVar 0) "readers") (tCons (tOp (rAddU K) (tFld K (tVar 0) "moments") (tFld K (tVar 1) "moments")) (tCons (tVar 3) tNil))))))))))))
theorem w_followed_by {P : Program} {w : World} {K : PySem.W.Frag} {mg : Str → Option Value} {base : Heap} (W : ByNs K mg) (c : He.SaysD fa fn K) {k : Nat} {jm_Sky : Nat} (M_Sky : OkM P w K mg base jm_Sky "Sky" ["self", "houses", "readers", "moments", "back"] kk_Sky_init (sp_Sky_init K)) (lm_Sky : jm_Sky + 1 ≤ k) {ji_InvalidHouses : Nat} (I_InvalidHouses : OkI P w K mg base ji_InvalidHouses "InvalidHouses" ["self", "given"] ["given"]) (li_InvalidHouses : ji_InvalidHouses + 1 ≤ k) {ji_InvalidReaders : Nat} (I_InvalidReaders : OkI P w K mg base ji_InvalidReaders "InvalidReaders" ["self", "given"] ["given"]) (li_InvalidReaders : ji_InvalidReaders + 1 ≤ k) {ji_TooMany : Nat} (I_TooMany : OkI P w K mg base ji_TooMany "TooMany" ["self", "count"] ["count"]) (li_TooMany : ji_TooMany + 1 ≤ k) (L_NeverEnds : ExPl K "NeverEnds") {f : Addr} (cdv : Value) (A : Around) (outer : List PySem.Env) (s : Shared) (H : Hp) (E : XK) (hr : Room k (A.deeper (envOfC "followed_by" (defScope (top 38)) s.heap.objs.size f cdv))) :
    PSs (cxOf (L2.CX P w) P w K mg base N_followed_by "followed_by" (defScope (top 38)) f cdv A outer s H E) (defBody (top 38)) (t_followed_by K E) := by
  have tk : Takes (cxOf (L2.CX P w) P w K mg base N_followed_by "followed_by" (defScope (top 38)) f cdv A outer s H E) (WD E) := takes_of rfl rfl rfl rfl
  have nd := sc_followed_by.nd
  exact (pss_cons (ps_if (pt_cmpR uIsNot (pe_fld (pv 0) rfl) pe_non (nomark _)) (pss_one (ps_raise0 rfl L_NeverEnds (W.gl c 7 rfl) tk rfl)) pss_nil)
  (pss_cons (ps_if (pt_cmpR (uNe hr.units) (pe_fld (pv 0) rfl) (pe_fld (pv 1) rfl) (nomark _)) (pss_one (ps_raiseI rfl I_InvalidHouses (hr.mono li_InvalidHouses) tk rfl (pa_cons (pe_fld (pv 1) rfl) pa_nil))) pss_nil)
  (pss_cons (ps_if (pt_cmpR (uNe hr.units) (pe_fld (pv 0) rfl) (pe_fld (pv 1) rfl) (nomark _)) (pss_one (ps_raiseI rfl I_InvalidReaders (hr.mono li_InvalidReaders) tk rfl (pa_cons (pe_fld (pv 1) rfl) pa_nil))) pss_nil)
  (pss_cons (ps_set (i := 2) nd rfl (Or.inl rfl) (pe_callB uLen rfl (W.fr c 54 rfl) bt_len (pa_cons (pe_fld (pv 0) rfl) pa_nil)))
  (pss_cons (ps_if (pt_cmpR op_gt (pe_op uAdd (pv 2) (pe_callB uLen rfl (W.fr c 54 rfl) bt_len (pa_cons (pe_fld (pv 1) rfl) pa_nil))) (pe_glob rfl (W.int c 64 rfl).choose_spec ⟨_, rfl⟩) (nomark _)) (pss_one (ps_raiseI rfl I_TooMany (hr.mono li_TooMany) tk rfl (pa_cons (pe_op uAdd (pv 2) (pe_callB uLen rfl (W.fr c 54 rfl) bt_len (pa_cons (pe_fld (pv 1) rfl) pa_nil))) pa_nil))) pss_nil)
  (pss_cons (ps_set (i := 3) nd rfl (Or.inl rfl) (pe_ifExp (pt_cmpR uIs (pe_fld (pv 1) rfl) pe_non (nomark _)) pe_non (pe_op uAdd (pv 2) (pe_fld (pv 1) rfl))))
  (pss_one (ps_ret (pe_makeE M_Sky (hr.mono lm_Sky) tk rfl (pa_cons (pe_fld (pv 0) rfl) (pa_cons (pe_fld (pv 0) rfl) (pa_cons (pe_op uAdd (pe_fld (pv 0) rfl) (pe_fld (pv 1) rfl)) (pa_cons (pv 3) pa_nil)))))))))))))
abbrev N_law_cell : List Str := ["script", "k"]
theorem sc_law_cell : FnScope N_law_cell ["script", "k"] (defScope (top 40)) := ⟨rfl, rfl, rfl, by decide +kernel, rfl, by decide +kernel, by decide +kernel⟩
def t_law_cell (K : PySem.W.Frag) (E : XK) : TS := (tRet (tIf (tTest (tOp rLtU (tVar 1) (tCB (rLenU K) (tCons (tVar 0) tNil)))) (tOp (rIx K) (tVar 0) (tVar 1)) (tOp (rAddU K) (tOp (rMulU K) (tC (.int 6007)) (tVar 1)) (tOp rModU (tCB rIntU (tCons (tCB (rSum K) (tCons (tSl (rSlU K) (tVar 0) tNoPart (tPart (tC (.int 1)))) tNil)) tNil)) (tC (.int 1000033))))))
theorem w_law_cell {P : Program} {w : World} {K : PySem.W.Frag} {mg : Str → Option Value} {base : Heap} (W : ByNs K mg) (c : He.SaysD fa fn K) {k : Nat} {f : Addr} (cdv : Value) (A : Around) (outer : List PySem.Env) (s : Shared) (H : Hp) (E : XK) (hr : Room k (A.deeper (envOfC "_law_cell" (defScope (top 40)) s.heap.objs.size f cdv))) :
    PSs (cxOf (L2.CX P w) P w K mg base N_law_cell "_law_cell" (defScope (top 40)) f cdv A outer s H E) (defBody (top 40)) (t_law_cell K E) := by
  have tk : Takes (cxOf (L2.CX P w) P w K mg base N_law_cell "_law_cell" (defScope (top 40)) f cdv A outer s H E) (WD E) := takes_of rfl rfl rfl rfl
  have nd := sc_law_cell.nd
  exact (pss_one (ps_ret (pe_ifExp (pt_cmpR op_lt (pv 1) (pe_callB uLen rfl (W.fr c 54 rfl) bt_len (pa_cons (pv 0) pa_nil)) (nomark _)) (pe_ix ix_seq (pv 0) (pv 1) (fun _ _ => rfl)) (pe_op uAdd (pe_op uMul pe_int (pv 1)) (pe_op uMod (pe_callTy uInt rfl (W.fr c 52 rfl) bt_int (pa_cons (pe_callB (uSum rfl) rfl (W.fr c 60 rfl) bt_sum (pa_cons (pe_slice uSl (pv 0) po_none (po_some pe_int)) pa_nil)) pa_nil)) pe_int)))))
abbrev N_law_box : List Str := ["great"]
theorem sc_law_box : FnScope N_law_box ["great"] (defScope (top 41)) := ⟨rfl, rfl, rfl, by decide +kernel, rfl, by decide +kernel, by decide +kernel⟩
def t_law_box (K : PySem.W.Frag) (E : XK) : TS := (tRet (tLst (tCons (tCB rAbsU (tCons (tVar 0) tNil)) (tCons (tOp rGeU (tCB rAbsU (tCons (tVar 0) tNil)) (tOp rPowU (tC (.int 10)) (tC (.int 18)))) (tCons (tOp rModU (tCB rIntU (tCons (tCB rAbsU (tCons (tVar 0) tNil)) tNil)) (tC (.int 2147483629))) (tCons (tC (.int 0)) tNil))))))
theorem w_law_box {P : Program} {w : World} {K : PySem.W.Frag} {mg : Str → Option Value} {base : Heap} (W : ByNs K mg) (c : He.SaysD fa fn K) {k : Nat} {f : Addr} (cdv : Value) (A : Around) (outer : List PySem.Env) (s : Shared) (H : Hp) (E : XK) (hr : Room k (A.deeper (envOfC "_law_box" (defScope (top 41)) s.heap.objs.size f cdv))) :
    PSs (cxOf (L2.CX P w) P w K mg base N_law_box "_law_box" (defScope (top 41)) f cdv A outer s H E) (defBody (top 41)) (t_law_box K E) := by
  have tk : Takes (cxOf (L2.CX P w) P w K mg base N_law_box "_law_box" (defScope (top 41)) f cdv A outer s H E) (WD E) := takes_of rfl rfl rfl rfl
  have nd := sc_law_box.nd
  exact (pss_one (ps_ret (pe_lst (pa_cons (pe_callB uAbs rfl (W.fr c 49 rfl) bt_abs (pa_cons (pv 0) pa_nil)) (pa_cons (pe_cmpR op_ge (pe_callB uAbs rfl (W.fr c 49 rfl) bt_abs (pa_cons (pv 0) pa_nil)) (pe_op uPow pe_int pe_int) (nomark _)) (pa_cons (pe_op uMod (pe_callTy uInt rfl (W.fr c 52 rfl) bt_int (pa_cons (pe_callB uAbs rfl (W.fr c 49 rfl) bt_abs (pa_cons (pv 0) pa_nil)) pa_nil)) pe_int) (pa_cons pe_int pa_nil)))))))
abbrev N_law_take : List Str := ["box", "many", "digit", "mixed"]
theorem sc_law_take : FnScope N_law_take ["box", "many"] (defScope (top 42)) := ⟨rfl, rfl, rfl, by decide +kernel, rfl, by decide +kernel, by decide +kernel⟩
def t_law_take (K : PySem.W.Frag) (E : XK) : TS := (tSeq (tIfS (tAnd (tTruU K (tOp (rIx K) (tVar 0) (tC (.int 1)))) (tTest (tOp rGtU (tOp (rIx K) (tVar 0) (tC (.int 0))) (tC (.int 0))))) (tSeq (tAsg (tOp rModU (tCB rIntU (tCons (tOp (rIx K) (tVar 0) (tC (.int 0))) tNil)) (tVar 1)) (gName 2))
  (tSeq (tAsg (tOp rDivU (tOp (rIx K) (tVar 0) (tC (.int 0))) (tVar 1)) (gSub (tVar 0) (tC (.int 0)) rSetL))
  (tRet (tVar 2)))) tNext)
  (tSeq (tAsg (tOp (rAddU K) (tOp (rIx K) (tVar 0) (tC (.int 3))) (tC (.int 1))) (gSub (tVar 0) (tC (.int 3)) rSetL))
  (tSeq (tAsg (tOp rModU (tCB rIntU (tCons (tOp rPowU (tOp (rAddU K) (tOp (rAddU K) (tOp (rIx K) (tVar 0) (tC (.int 2))) (tOp (rMulU K) (tC (.int 15485863)) (tOp (rIx K) (tVar 0) (tC (.int 3))))) (tC (.int 179424673))) (tC (.int 5))) tNil)) (tC (.int 2147483647))) (gName 3))
  (tRet (tOp rModU (tCB rIntU (tCons (tOp rDivU (tOp rModU (tCB rIntU (tCons (tOp rPowU (tOp (rAddU K) (tOp (rMulU K) (tVar 3) (tC (.int 48271))) (tOp (rMulU K) (tC (.int 104729)) (tOp (rIx K) (tVar 0) (tC (.int 3))))) (tC (.int 3))) tNil)) (tC (.int 2147483587))) (tC (.int 64))) tNil)) (tVar 1))))))
theorem w_law_take {P : Program} {w : World} {K : PySem.W.Frag} {mg : Str → Option Value} {base : Heap} (W : ByNs K mg) (c : He.SaysD fa fn K) {k : Nat} {f : Addr} (cdv : Value) (A : Around) (outer : List PySem.Env) (s : Shared) (H : Hp) (E : XK) (hr : Room k (A.deeper (envOfC "_law_take" (defScope (top 42)) s.heap.objs.size f cdv))) :
    PSs (cxOf (L2.CX P w) P w K mg base N_law_take "_law_take" (defScope (top 42)) f cdv A outer s H E) (defBody (top 42)) (t_law_take K E) := by
  have tk : Takes (cxOf (L2.CX P w) P w K mg base N_law_take "_law_take" (defScope (top 42)) f cdv A outer s H E) (WD E) := takes_of rfl rfl rfl rfl
  have nd := sc_law_take.nd
  exact (pss_cons (ps_if (PW.pt (pw_and (pt_truth (pe_ix ix_seq (pv 0) pe_int (fun _ _ => rfl)) (fun _ => rfl)) (pw_and1 (pt_cmpR op_gt (pe_ix ix_seq (pv 0) pe_int (fun _ _ => rfl)) pe_int (nomark _))))) (pss_cons (ps_set (i := 2) nd rfl (Or.inl rfl) (pe_op uMod (pe_callTy uInt rfl (W.fr c 52 rfl) bt_int (pa_cons (pe_ix ix_seq (pv 0) pe_int (fun _ _ => rfl)) pa_nil)) (pv 1)))
  (pss_cons (ps_asg (pe_op uDiv (pe_ix ix_seq (pv 0) pe_int (fun _ _ => rfl)) (pv 1)) (pg_sub (pv 0) pe_int set_list))
  (pss_one (ps_ret (pv 2))))) pss_nil)
  (pss_cons (ps_asg (pe_op uAdd (pe_ix ix_seq (pv 0) pe_int (fun _ _ => rfl)) pe_int) (pg_sub (pv 0) pe_int set_list))
  (pss_cons (ps_set (i := 3) nd rfl (Or.inl rfl) (pe_op uMod (pe_callTy uInt rfl (W.fr c 52 rfl) bt_int (pa_cons (pe_op uPow (pe_op uAdd (pe_op uAdd (pe_ix ix_seq (pv 0) pe_int (fun _ _ => rfl)) (pe_op uMul pe_int (pe_ix ix_seq (pv 0) pe_int (fun _ _ => rfl)))) pe_int) pe_int) pa_nil)) pe_int))
  (pss_one (ps_ret (pe_op uMod (pe_callTy uInt rfl (W.fr c 52 rfl) bt_int (pa_cons (pe_op uDiv (pe_op uMod (pe_callTy uInt rfl (W.fr c 52 rfl) bt_int (pa_cons (pe_op uPow (pe_op uAdd (pe_op uMul (pv 3) pe_int) (pe_op uMul pe_int (pe_ix ix_seq (pv 0) pe_int (fun _ _ => rfl)))) pe_int) pa_nil)) pe_int) pe_int) pa_nil)) (pv 1)))))))
abbrev N_law_same : List Str := ["told", "due", "k"]
theorem sc_law_same : FnScope N_law_same ["told", "due"] (defScope (top 43)) := ⟨rfl, rfl, rfl, by decide +kernel, rfl, by decide +kernel, by decide +kernel⟩
def t_law_same (K : PySem.W.Frag) (n : Nat) (E : XK) : TS := (tSeq (tIfS (tOr (tTest (tOp rIsU (tVar 1) (tC .non))) (tTruU K (tCB (rIsiU K) (tCons (tVar 1) (tCons (tC (.ty "bool")) tNil))))) (tRet (tIf (tTest (tOp rIsU (tVar 1) (tC .non))) (tOp rIsU (tVar 0) (tC .non)) (tAndV (tCB (rIsiU K) (tCons (tVar 0) (tCons (tC (.ty "bool")) tNil))) (tOp (rEqQ K) (tOp rIsU (tVar 0) (tC (.bl true))) (tOp rIsU (tVar 1) (tC (.bl true))))))) tNext)
  (tSeq (tIfS (tTruU K (tCB (rIsiU K) (tCons (tVar 1) (tCons (tC (.ty "int")) tNil)))) (tRet (tAndV (tCB (rIsiU K) (tCons (tVar 0) (tCons (tC (.ty "int")) tNil))) (tAndV (tNotV (tCB (rIsiU K) (tCons (tVar 0) (tCons (tC (.ty "bool")) tNil)))) (tOp (rEqQ K) (tOp rSubU (tCB rIntU (tCons (tVar 0) tNil)) (tVar 1)) (tC (.int 0)))))) tNext)
  (tSeq (tIfS (tTruU K (tCB (rIsiU K) (tCons (tVar 1) (tCons (tC (.ty "str")) tNil)))) (tRet (tAndV (tCB (rIsiU K) (tCons (tVar 0) (tCons (tC (.ty "str")) tNil))) (tAndV (tOp (rEqQ K) (tCB (rLenU K) (tCons (tVar 0) tNil)) (tCB (rLenU K) (tCons (tVar 1) tNil))) (tOp (rEqQ K) (tLc (iRng1 (tCons (tCB (rLenU K) (tCons (tVar 1) tNil)) tNil)) (gName 2) (tTest (tOp (rNeU K) (tSl (rSlU K) (tVar 0) (tPart (tVar 2)) (tPart (tOp (rAddU K) (tVar 2) (tC (.int 1))))) (tOp (rIx K) (tVar 1) (tVar 2)))) (tVar 2) [2]) (tLst tNil))))) tNext)
  (tSeq (tIfS (tOr (tTest (tOp (rNeU K) (tCB (rIsiU K) (tCons (tVar 0) (tCons (tC (.ty "list")) tNil))) (tCB (rIsiU K) (tCons (tVar 1) (tCons (tC (.ty "list")) tNil))))) (tTest (tOp (rNeU K) (tCB (rIsiU K) (tCons (tVar 0) (tCons (tC (.ty "tuple")) tNil))) (tCB (rIsiU K) (tCons (tVar 1) (tCons (tC (.ty "tuple")) tNil)))))) (tRet (tC (.bl false))) tNext)
  (tRet (tAndV (tOp (rEqQ K) (tCB (rLenU K) (tCons (tVar 0) tNil)) (tCB (rLenU K) (tCons (tVar 1) tNil))) (tOp (rEqQ K) (tLc (iRng1 (tCons (tCB (rLenU K) (tCons (tVar 1) tNil)) tNil)) (gName 2) (tNot (tTruU K (tCallS (sp_law_same K n) (WE E00) (tCons (tOp (rIx K) (tVar 0) (tVar 2)) (tCons (tOp (rIx K) (tVar 1) (tVar 2)) tNil))))) (tVar 2) [2]) (tLst tNil))))))))
theorem w_law_same {P : Program} {w : World} {K : PySem.W.Frag} {mg : Str → Option Value} {base : Heap} (W : ByNs K mg) (c : He.SaysD fa fn K) (n : Nat) {k : Nat} {j_law_same : Nat} (D_law_same : OkE P w K mg base j_law_same "_law_same" ["told", "due"] kk_law_same (sp_law_same K n)) (l_law_same : j_law_same ≤ k) {f : Addr} (cdv : Value) (A : Around) (outer : List PySem.Env) (s : Shared) (H : Hp) (E : XK) (hr : Room k (A.deeper (envOfC "_law_same" (defScope (top 43)) s.heap.objs.size f cdv))) :
    PSs (cxOf (L2.CX P w) P w K mg base N_law_same "_law_same" (defScope (top 43)) f cdv A outer s H E) (defBody (top 43)) (t_law_same K n E) := by
  have tk : Takes (cxOf (L2.CX P w) P w K mg base N_law_same "_law_same" (defScope (top 43)) f cdv A outer s H E) (WD E) := takes_of rfl rfl rfl rfl
  have nd := sc_law_same.nd
  exact (pss_cons (ps_if (PW.pt (pw_or (pt_cmpR uIs (pv 1) pe_non (nomark _)) (pw_or1 (pt_truth (pe_callB uIsi rfl (W.fr c 53 rfl) bt_isinstance (pa_cons (pv 1) (pa_cons (pe_bltn rfl (W.fr c 51 rfl) bt_bool rfl) pa_nil))) (fun _ => rfl))))) (pss_one (ps_ret (pe_ifExp (pt_cmpR uIs (pv 1) pe_non (nomark _)) (pe_cmpR uIs (pv 0) pe_non (nomark _)) (pe_and (pe_callB uIsi rfl (W.fr c 53 rfl) bt_isinstance (pa_cons (pv 0) (pa_cons (pe_bltn rfl (W.fr c 51 rfl) bt_bool rfl) pa_nil))) (pe_one (pe_cmpR (uEqQ hr.units) (pe_cmpR uIs (pv 0) pe_bl (nomark _)) (pe_cmpR uIs (pv 1) pe_bl (nomark _)) (nomark _))))))) pss_nil)
  (pss_cons (ps_if (pt_truth (pe_callB uIsi rfl (W.fr c 53 rfl) bt_isinstance (pa_cons (pv 1) (pa_cons (pe_bltn rfl (W.fr c 52 rfl) bt_int rfl) pa_nil))) (fun _ => rfl)) (pss_one (ps_ret (pe_and (pe_callB uIsi rfl (W.fr c 53 rfl) bt_isinstance (pa_cons (pv 0) (pa_cons (pe_bltn rfl (W.fr c 52 rfl) bt_int rfl) pa_nil))) (pe_and (pe_not (pe_callB uIsi rfl (W.fr c 53 rfl) bt_isinstance (pa_cons (pv 0) (pa_cons (pe_bltn rfl (W.fr c 51 rfl) bt_bool rfl) pa_nil)))) (pe_one (pe_cmpR (uEqQ hr.units) (pe_op uSub (pe_callTy uInt rfl (W.fr c 52 rfl) bt_int (pa_cons (pv 0) pa_nil)) (pv 1)) pe_int (nomark _))))))) pss_nil)
  (pss_cons (ps_if (pt_truth (pe_callB uIsi rfl (W.fr c 53 rfl) bt_isinstance (pa_cons (pv 1) (pa_cons (pe_bltn rfl (W.fr c 59 rfl) bt_str rfl) pa_nil))) (fun _ => rfl)) (pss_one (ps_ret (pe_and (pe_callB uIsi rfl (W.fr c 53 rfl) bt_isinstance (pa_cons (pv 0) (pa_cons (pe_bltn rfl (W.fr c 59 rfl) bt_str rfl) pa_nil))) (pe_and (pe_cmpR (uEqQ hr.units) (pe_callB uLen rfl (W.fr c 54 rfl) bt_len (pa_cons (pv 0) pa_nil)) (pe_callB uLen rfl (W.fr c 54 rfl) bt_len (pa_cons (pv 1) pa_nil)) (nomark _)) (pe_one (pe_cmpR (uEqQ hr.units) (pe_lc (own := [("k", 2)]) (g := (gName 2)) (tt := (tTest (tOp (rNeU K) (tSl (rSlU K) (tVar 0) (tPart (tVar 2)) (tPart (tOp (rAddU K) (tVar 2) (tC (.int 1))))) (tOp (rIx K) (tVar 1) (tVar 2))))) rfl nd (pi_range1 rfl (W.fr c 58 rfl) (pa_cons (pe_callB uLen rfl (W.fr c 54 rfl) bt_len (pa_cons (pv 1) pa_nil)) pa_nil)) (blkOk_by (own := [("k", 2)]) (N := N_law_same) (sc := (defScope (top 43))) (by decide +kernel)) (fun _ _ _ _ _ => (pg_name (i := 2) nd rfl (Or.inl rfl))) (fun _ _ _ _ _ => (pts_one (pt_cmpR (uNe hr.units) (pe_slice uSl (pv 0) (po_some (pv 2)) (po_some (pe_op uAdd (pv 2) pe_int))) (pe_ix ix_seq (pv 1) (pv 2) (fun _ _ => rfl)) (nomark _)))) (fun _ _ _ _ _ => (pv 2))) (pe_lst pa_nil) (nomark _))))))) pss_nil)
  (pss_cons (ps_if (PW.pt (pw_or (pt_cmpR (uNe hr.units) (pe_callB uIsi rfl (W.fr c 53 rfl) bt_isinstance (pa_cons (pv 0) (pa_cons (pe_bltn rfl (W.fr c 55 rfl) bt_list rfl) pa_nil))) (pe_callB uIsi rfl (W.fr c 53 rfl) bt_isinstance (pa_cons (pv 1) (pa_cons (pe_bltn rfl (W.fr c 55 rfl) bt_list rfl) pa_nil))) (nomark _)) (pw_or1 (pt_cmpR (uNe hr.units) (pe_callB uIsi rfl (W.fr c 53 rfl) bt_isinstance (pa_cons (pv 0) (pa_cons (pe_bltn rfl (W.fr c 61 rfl) bt_tuple rfl) pa_nil))) (pe_callB uIsi rfl (W.fr c 53 rfl) bt_isinstance (pa_cons (pv 1) (pa_cons (pe_bltn rfl (W.fr c 61 rfl) bt_tuple rfl) pa_nil))) (nomark _))))) (pss_one (ps_ret pe_bl)) pss_nil)
  (pss_one (ps_ret (pe_and (pe_cmpR (uEqQ hr.units) (pe_callB uLen rfl (W.fr c 54 rfl) bt_len (pa_cons (pv 0) pa_nil)) (pe_callB uLen rfl (W.fr c 54 rfl) bt_len (pa_cons (pv 1) pa_nil)) (nomark _)) (pe_one (pe_cmpR (uEqQ hr.units) (pe_lc (own := [("k", 2)]) (g := (gName 2)) (tt := (tNot (tTruU K (tCallS (sp_law_same K n) (WE E00) (tCons (tOp (rIx K) (tVar 0) (tVar 2)) (tCons (tOp (rIx K) (tVar 1) (tVar 2)) tNil)))))) rfl nd (pi_range1 rfl (W.fr c 58 rfl) (pa_cons (pe_callB uLen rfl (W.fr c 54 rfl) bt_len (pa_cons (pv 1) pa_nil)) pa_nil)) (blkOk_by (own := [("k", 2)]) (N := N_law_same) (sc := (defScope (top 43))) (by decide +kernel)) (fun _ _ _ _ _ => (pg_name (i := 2) nd rfl (Or.inl rfl))) (fun _ _ _ _ _ => (pts_one (pt_not (pt_truth (pe_callE D_law_same (hr.mono l_law_same) takes0 rfl (pa_cons (pe_ix ix_seq (pv 0) (pv 2) (fun _ _ => rfl)) (pa_cons (pe_ix ix_seq (pv 1) (pv 2) (fun _ _ => rfl)) pa_nil))) (fun _ => rfl))))) (fun _ _ _ _ _ => (pv 2))) (pe_lst pa_nil) (nomark _))))))))))
abbrev N_law_whole : List Str := ["value", "least", "most"]
theorem sc_law_whole : FnScope N_law_whole ["value", "least", "most"] (defScope (top 44)) := ⟨rfl, rfl, rfl, by decide +kernel, rfl, by decide +kernel, by decide +kernel⟩
def t_law_whole (K : PySem.W.Frag) (E : XK) : TS := (tRet (tAndV (tCB (rIsiU K) (tCons (tVar 0) (tCons (tC (.ty "int")) tNil))) (tAndV (tNotV (tCB (rIsiU K) (tCons (tVar 0) (tCons (tC (.ty "bool")) tNil)))) (tChain rLeU rLeU (tVar 1) (tVar 0) (tVar 2)))))
theorem w_law_whole {P : Program} {w : World} {K : PySem.W.Frag} {mg : Str → Option Value} {base : Heap} (W : ByNs K mg) (c : He.SaysD fa fn K) {k : Nat} {f : Addr} (cdv : Value) (A : Around) (outer : List PySem.Env) (s : Shared) (H : Hp) (E : XK) (hr : Room k (A.deeper (envOfC "_law_whole" (defScope (top 44)) s.heap.objs.size f cdv))) :
    PSs (cxOf (L2.CX P w) P w K mg base N_law_whole "_law_whole" (defScope (top 44)) f cdv A outer s H E) (defBody (top 44)) (t_law_whole K E) := by
  have tk : Takes (cxOf (L2.CX P w) P w K mg base N_law_whole "_law_whole" (defScope (top 44)) f cdv A outer s H E) (WD E) := takes_of rfl rfl rfl rfl
  have nd := sc_law_whole.nd
  exact (pss_one (ps_ret (pe_and (pe_callB uIsi rfl (W.fr c 53 rfl) bt_isinstance (pa_cons (pv 0) (pa_cons (pe_bltn rfl (W.fr c 52 rfl) bt_int rfl) pa_nil))) (pe_and (pe_not (pe_callB uIsi rfl (W.fr c 53 rfl) bt_isinstance (pa_cons (pv 0) (pa_cons (pe_bltn rfl (W.fr c 51 rfl) bt_bool rfl) pa_nil)))) (pe_one (pe_chain op_le op_le (pv 1) (pv 0) (pv 2)))))))
abbrev N_law_subset : List Str := ["box", "items", "item"]
theorem sc_law_subset : FnScope N_law_subset ["box", "items"] (defScope (top 45)) := ⟨rfl, rfl, rfl, by decide +kernel, rfl, by decide +kernel, by decide +kernel⟩
def t_law_subset (K : PySem.W.Frag) (E : XK) : TS := (tRet (tCB (rTupU K) (tCons (tLc (iSeqV K (tVar 1)) (gName 2) (tTest (tOp (rEqQ K) (tCallS (sp_law_take K) (WE E00) (tCons (tVar 0) (tCons (tC (.int 2)) tNil))) (tC (.int 0)))) (tVar 2) [2]) tNil)))
theorem w_law_subset {P : Program} {w : World} {K : PySem.W.Frag} {mg : Str → Option Value} {base : Heap} (W : ByNs K mg) (c : He.SaysD fa fn K) {k : Nat} {j_law_take : Nat} (D_law_take : OkE P w K mg base j_law_take "_law_take" ["box", "many"] kk_law_take (sp_law_take K)) (l_law_take : j_law_take ≤ k) {f : Addr} (cdv : Value) (A : Around) (outer : List PySem.Env) (s : Shared) (H : Hp) (E : XK) (hr : Room k (A.deeper (envOfC "_law_subset" (defScope (top 45)) s.heap.objs.size f cdv))) :
    PSs (cxOf (L2.CX P w) P w K mg base N_law_subset "_law_subset" (defScope (top 45)) f cdv A outer s H E) (defBody (top 45)) (t_law_subset K E) := by
  have tk : Takes (cxOf (L2.CX P w) P w K mg base N_law_subset "_law_subset" (defScope (top 45)) f cdv A outer s H E) (WD E) := takes_of rfl rfl rfl rfl
  have nd := sc_law_subset.nd
  exact (pss_one (ps_ret (pe_callTy uTup rfl (W.fr c 61 rfl) bt_tuple (pa_cons (pe_lc (own := [("item", 2)]) (g := (gName 2)) (tt := (tTest (tOp (rEqQ K) (tCallS (sp_law_take K) (WE E00) (tCons (tVar 0) (tCons (tC (.int 2)) tNil))) (tC (.int 0))))) rfl nd (pi_seqV (pv 1)) (blkOk_by (own := [("item", 2)]) (N := N_law_subset) (sc := (defScope (top 45))) (by decide +kernel)) (fun _ _ _ _ _ => (pg_name (i := 2) nd rfl (Or.inl rfl))) (fun _ _ _ _ _ => (pts_one (pt_cmpR (uEqQ hr.units) (pe_callE D_law_take (hr.mono l_law_take) takes0 rfl (pa_cons (pv 0) (pa_cons pe_int pa_nil))) pe_int (nomark _)))) (fun _ _ _ _ _ => (pv 2))) pa_nil))))
abbrev N_law_a_moment : List Str := ["box", "houses", "readers", "taken", "sender", "others", "some", "one", "way", "word", "frame", "house"]
theorem sc_law_a_moment : FnScope N_law_a_moment ["box", "houses", "readers"] (defScope (top 46)) := ⟨rfl, rfl, rfl, by decide +kernel, rfl, by decide +kernel, by decide +kernel⟩
def t_law_a_moment (K : PySem.W.Frag) (E : XK) : TS := (tSeq (tAsg (tTup (tCons (tCB (rTupU K) (tCons (tLc (iRng1 (tCons (tVar 1) tNil)) (gName 11) tYes (tCallS (sp_law_take K) (WE E00) (tCons (tVar 0) (tCons (tC (.int 5)) tNil))) [11]) tNil)) (tCons (tCallS (sp_law_take K) (WE (WD E)) (tCons (tVar 0) (tCons (tVar 1) tNil))) tNil))) (gTup K 2 (gCons (gName 3) (gCons (gName 4) gNil))))
  (tSeq (tAsg (tLc (iRng2 (tCons (tUn rNegU (tVar 2)) (tCons (tVar 1) tNil))) (gName 7) (tTest (tOp (rNeU K) (tVar 7) (tVar 4))) (tVar 7) [7]) (gName 5))
  (tSeq (tAsg (tTup (tCons (tCallS (sp_law_subset K) (WE (WD E)) (tCons (tVar 0) (tCons (tVar 5) tNil))) (tCons (tOp (rIx K) (tVar 5) (tCallS (sp_law_take K) (WE (WD E)) (tCons (tVar 0) (tCons (tCB (rLenU K) (tCons (tVar 5) tNil)) tNil)))) (tCons (tCallS (sp_law_take K) (WE (WD E)) (tCons (tVar 0) (tCons (tC (.int 4)) tNil))) (tCons (tCallS (sp_law_take K) (WE (WD E)) (tCons (tVar 0) (tCons (tC (.int 18)) tNil))) tNil))))) (gTup K 4 (gCons (gName 6) (gCons (gName 7) (gCons (gName 8) (gCons (gName 9) gNil))))))
  (tSeq (tAsg (tIf (tTest (tOp (rEqQ K) (tVar 8) (tC (.int 0)))) (tC .non) (tTup (tCons (tVar 4) (tCons (tIf (tTest (tOp (rNeU K) (tVar 6) (tTup tNil))) (tVar 6) (tTup (tCons (tVar 7) tNil))) tNil)))) (gName 10))
  (tRet (tTup (tCons (tVar 3) (tCons (tVar 10) (tCons (tIf (tTest (tOp rLtU (tVar 9) (tC (.int 9)))) (tVar 9) (tC .non)) tNil)))))))))
theorem w_law_a_moment {P : Program} {w : World} {K : PySem.W.Frag} {mg : Str → Option Value} {base : Heap} (W : ByNs K mg) (c : He.SaysD fa fn K) {k : Nat} {j_law_subset : Nat} (D_law_subset : OkE P w K mg base j_law_subset "_law_subset" ["box", "items"] kk_law_subset (sp_law_subset K)) (l_law_subset : j_law_subset ≤ k) {j_law_take : Nat} (D_law_take : OkE P w K mg base j_law_take "_law_take" ["box", "many"] kk_law_take (sp_law_take K)) (l_law_take : j_law_take ≤ k) {f : Addr} (cdv : Value) (A : Around) (outer : List PySem.Env) (s : Shared) (H : Hp) (E : XK) (hr : Room k (A.deeper (envOfC "_law_a_moment" (defScope (top 46)) s.heap.objs.size f cdv))) :
    PSs (cxOf (L2.CX P w) P w K mg base N_law_a_moment "_law_a_moment" (defScope (top 46)) f cdv A outer s H E) (defBody (top 46)) (t_law_a_moment K E) := by
  have tk : Takes (cxOf (L2.CX P w) P w K mg base N_law_a_moment "_law_a_moment" (defScope (top 46)) f cdv A outer s H E) (WD E) := takes_of rfl rfl rfl rfl
  have nd := sc_law_a_moment.nd
  exact (pss_cons (ps_asg (pe_tup (pa_cons (pe_callTy uTup rfl (W.fr c 61 rfl) bt_tuple (pa_cons (pe_lc (own := [("house", 11)]) (g := (gName 11)) (tt := tYes) rfl nd (pi_range1 rfl (W.fr c 58 rfl) (pa_cons (pv 1) pa_nil)) (blkOk_by (own := [("house", 11)]) (N := N_law_a_moment) (sc := (defScope (top 46))) (by decide +kernel)) (fun _ _ _ _ _ => (pg_name (i := 11) nd rfl (Or.inl rfl))) (fun _ _ _ _ _ => pts_nil) (fun _ _ _ _ _ => (pe_callE D_law_take (hr.mono l_law_take) takes0 rfl (pa_cons (pv 0) (pa_cons pe_int pa_nil))))) pa_nil)) (pa_cons (pe_callE D_law_take (hr.mono l_law_take) tk rfl (pa_cons (pv 0) (pa_cons (pv 1) pa_nil))) pa_nil))) (pg_tup rfl (pgs_cons (pg_name (i := 3) nd rfl (Or.inl rfl)) (pgs_cons (pg_name (i := 4) nd rfl (Or.inr rfl)) pgs_nil))))
  (pss_cons (ps_setLc (i := 5) (own := [("one", 7)]) (g := (gName 7)) (tt := (tTest (tOp (rNeU K) (tVar 7) (tVar 4)))) rfl nd rfl rfl (sw_true rfl rfl rfl (by decide +kernel)) (pi_range2 rfl (W.fr c 58 rfl) (pa_cons (pe_un uNeg (pv 2)) (pa_cons (pv 1) pa_nil))) (blkOk_by (own := [("one", 7)]) (N := N_law_a_moment) (sc := (defScope (top 46))) (by decide +kernel)) (fun _ _ _ _ _ => (pg_name (i := 7) nd rfl (Or.inl rfl))) (fun _ _ _ _ _ => (pts_one (pt_cmpR (uNe hr.units) (pv 7) (pv 4) (nomark _)))) (fun _ _ _ _ _ => (pv 7)))
  (pss_cons (ps_asg (pe_tup (pa_cons (pe_callE D_law_subset (hr.mono l_law_subset) tk rfl (pa_cons (pv 0) (pa_cons (pv 5) pa_nil))) (pa_cons (pe_ix ix_seq (pv 5) (pe_callE D_law_take (hr.mono l_law_take) tk rfl (pa_cons (pv 0) (pa_cons (pe_callB uLen rfl (W.fr c 54 rfl) bt_len (pa_cons (pv 5) pa_nil)) pa_nil))) (fun _ _ => rfl)) (pa_cons (pe_callE D_law_take (hr.mono l_law_take) tk rfl (pa_cons (pv 0) (pa_cons pe_int pa_nil))) (pa_cons (pe_callE D_law_take (hr.mono l_law_take) tk rfl (pa_cons (pv 0) (pa_cons pe_int pa_nil))) pa_nil))))) (pg_tup rfl (pgs_cons (pg_name (i := 6) nd rfl (Or.inl rfl)) (pgs_cons (pg_name (i := 7) nd rfl (Or.inl rfl)) (pgs_cons (pg_name (i := 8) nd rfl (Or.inl rfl)) (pgs_cons (pg_name (i := 9) nd rfl (Or.inl rfl)) pgs_nil))))))
  (pss_cons (ps_set (i := 10) nd rfl (Or.inl rfl) (pe_ifExp (pt_cmpR (uEqQ hr.units) (pv 8) pe_int (nomark _)) pe_non (pe_tup (pa_cons (pv 4) (pa_cons (pe_ifExp (pt_cmpR (uNe hr.units) (pv 6) (pe_tup pa_nil) (nomark _)) (pv 6) (pe_tup (pa_cons (pv 7) pa_nil))) pa_nil)))))
  (pss_one (ps_ret (pe_tup (pa_cons (pv 3) (pa_cons (pv 10) (pa_cons (pe_ifExp (pt_cmpR op_lt (pv 9) pe_int (nomark _)) (pv 9) pe_non) pa_nil))))))))))
abbrev N_law_index : List Str := ["plain", "tick", "many"]
theorem sc_law_index : FnScope N_law_index ["plain", "tick"] (defScope (top 47)) := ⟨rfl, rfl, rfl, by decide +kernel, rfl, by decide +kernel, by decide +kernel⟩
def t_law_index (K : PySem.W.Frag) (E : XK) : TS := (tSeq (tAsg (tCB (rLenU K) (tCons (tOp (rIx K) (tVar 0) (tC (.int 2))) tNil)) (gName 2))
  (tSeq (tIfS (tTest (tOp rLtU (tVar 1) (tVar 2))) (tRet (tVar 1)) tNext)
  (tRet (tIf (tTest (tOp rIsU (tOp (rIx K) (tVar 0) (tC (.int 3))) (tC .non))) (tC .non) (tOp (rAddU K) (tOp (rIx K) (tVar 0) (tC (.int 3))) (tOp rModU (tCB rIntU (tCons (tOp rSubU (tVar 1) (tOp (rIx K) (tVar 0) (tC (.int 3)))) tNil)) (tOp rSubU (tVar 2) (tOp (rIx K) (tVar 0) (tC (.int 3))))))))))
theorem w_law_index {P : Program} {w : World} {K : PySem.W.Frag} {mg : Str → Option Value} {base : Heap} (W : ByNs K mg) (c : He.SaysD fa fn K) {k : Nat} {f : Addr} (cdv : Value) (A : Around) (outer : List PySem.Env) (s : Shared) (H : Hp) (E : XK) (hr : Room k (A.deeper (envOfC "_law_index" (defScope (top 47)) s.heap.objs.size f cdv))) :
    PSs (cxOf (L2.CX P w) P w K mg base N_law_index "_law_index" (defScope (top 47)) f cdv A outer s H E) (defBody (top 47)) (t_law_index K E) := by
  have tk : Takes (cxOf (L2.CX P w) P w K mg base N_law_index "_law_index" (defScope (top 47)) f cdv A outer s H E) (WD E) := takes_of rfl rfl rfl rfl
  have nd := sc_law_index.nd
  exact (pss_cons (ps_set (i := 2) nd rfl (Or.inl rfl) (pe_callB uLen rfl (W.fr c 54 rfl) bt_len (pa_cons (pe_ix ix_seq (pv 0) pe_int (fun _ _ => rfl)) pa_nil)))
  (pss_cons (ps_if (pt_cmpR op_lt (pv 1) (pv 2) (nomark _)) (pss_one (ps_ret (pv 1))) pss_nil)
  (pss_one (ps_ret (pe_ifExp (pt_cmpR uIs (pe_ix ix_seq (pv 0) pe_int (fun _ _ => rfl)) pe_non (nomark _)) pe_non (pe_op uAdd (pe_ix ix_seq (pv 0) pe_int (fun _ _ => rfl)) (pe_op uMod (pe_callTy uInt rfl (W.fr c 52 rfl) bt_int (pa_cons (pe_op uSub (pv 1) (pe_ix ix_seq (pv 0) pe_int (fun _ _ => rfl))) pa_nil)) (pe_op uSub (pv 2) (pe_ix ix_seq (pv 0) pe_int (fun _ _ => rfl))))))))))
abbrev N_law_shortest : List Str := ["plain", "houses", "readers", "moments", "back", "names", "many", "ring", "ticks", "size", "head", "period", "wrong", "one", "tick"]
theorem sc_law_shortest : FnScope N_law_shortest ["plain"] (defScope (top 48)) := ⟨rfl, rfl, rfl, by decide +kernel, rfl, by decide +kernel, by decide +kernel⟩
def t_law_shortest (K : PySem.W.Frag) (E : XK) : TS := (tSeq (tAsg (tVar 0) (gUnp 4 (gCons (gName 1) (gCons (gName 2) (gCons (gName 3) (gCons (gName 4) gNil))))))
  (tSeq (tIfS (tTest (tOp rIsU (tVar 4) (tC .non))) (tRet (tVar 0)) tNext)
  (tSeq (tAsg (tLc (iSeqV K (tVar 3)) (gName 13) tYes (tTM (rIdxD K) (tVar 3) (tCons (tVar 13) tNil)) [13]) (gName 5))
  (tSeq (tPar 6 7 (tCons (tCB (rLenU K) (tCons (tVar 5) tNil)) (tCons (tOp rSubU (tCB (rLenU K) (tCons (tVar 5) tNil)) (tVar 4)) tNil)))
  (tSeq (tAsg (tLc (iRng1 (tCons (tC (.int 80)) tNil)) (gName 14) tYes (tOp (rIx K) (tVar 5) (tCallS (sp_law_index K) (WE E00) (tCons (tVar 0) (tCons (tVar 14) tNil)))) [14]) (gName 8))
  (tSeq (tFor (iRng2 (tCons (tC (.int 1)) (tCons (tOp (rAddU K) (tVar 6) (tC (.int 1))) tNil))) (gName 9) (tFor (iRng1 (tCons (tVar 9) tNil)) (gName 10) (tSeq (tAsg (tOp rSubU (tVar 9) (tVar 10)) (gName 11))
  (tSeq (tAsg (tLc (iRng2 (tCons (tVar 10) (tCons (tOp (rAddU K) (tCB rMaxU (tCons (tVar 10) (tCons (tVar 4) tNil))) (tVar 7)) tNil))) (gName 14) (tTest (tOp (rNeU K) (tOp (rIx K) (tVar 8) (tVar 14)) (tOp (rIx K) (tVar 8) (tOp (rAddU K) (tVar 14) (tVar 11))))) (tVar 14) [14]) (gName 12))
  (tIfS (tTest (tOp (rEqQ K) (tVar 12) (tLst tNil))) (tRet (tLst (tCons (tVar 1) (tCons (tVar 2) (tCons (tSl (rSlU K) (tVar 3) tNoPart (tPart (tVar 9))) (tCons (tVar 10) tNil)))))) tNext)))))
  (tRet (tVar 0))))))))
theorem w_law_shortest {P : Program} {w : World} {K : PySem.W.Frag} {mg : Str → Option Value} {base : Heap} (W : ByNs K mg) (c : He.SaysD fa fn K) {k : Nat} {j_law_index : Nat} (D_law_index : OkE P w K mg base j_law_index "_law_index" ["plain", "tick"] kk_law_index (sp_law_index K)) (l_law_index : j_law_index ≤ k) {f : Addr} (cdv : Value) (A : Around) (outer : List PySem.Env) (s : Shared) (H : Hp) (E : XK) (hr : Room k (A.deeper (envOfC "_law_shortest" (defScope (top 48)) s.heap.objs.size f cdv))) :
    PSs (cxOf (L2.CX P w) P w K mg base N_law_shortest "_law_shortest" (defScope (top 48)) f cdv A outer s H E) (defBody (top 48)) (t_law_shortest K E) := by
  have tk : Takes (cxOf (L2.CX P w) P w K mg base N_law_shortest "_law_shortest" (defScope (top 48)) f cdv A outer s H E) (WD E) := takes_of rfl rfl rfl rfl
  have nd := sc_law_shortest.nd
  exact (pss_cons (ps_asg (pv 0) (pg_unp rfl (pgs_cons (pg_name (i := 1) nd rfl (Or.inl rfl)) (pgs_cons (pg_name (i := 2) nd rfl (Or.inl rfl)) (pgs_cons (pg_name (i := 3) nd rfl (Or.inr rfl)) (pgs_cons (pg_name (i := 4) nd rfl (Or.inl rfl)) pgs_nil))))))
  (pss_cons (ps_if (pt_cmpR uIs (pv 4) pe_non (nomark _)) (pss_one (ps_ret (pv 0))) pss_nil)
  (pss_cons (ps_set (i := 5) nd rfl (Or.inr rfl) (pe_lc (own := [("one", 13)]) (g := (gName 13)) (tt := tYes) rfl nd (pi_seqV (pv 3)) (blkOk_by (own := [("one", 13)]) (N := N_law_shortest) (sc := (defScope (top 48))) (by decide +kernel)) (fun _ _ _ _ _ => (pg_name (i := 13) nd rfl (Or.inl rfl))) (fun _ _ _ _ _ => pts_nil) (fun _ _ _ _ _ => (pe_tm PySem.F.slot_tuple_index PySem.F.type_tuple_index (mt_tindexD hr.units) (pv 3) (pa_cons (pv 13) pa_nil)))))
  (pss_cons (ps_par (i := 6) (j := 7) rfl nd rfl rfl (by decide) rfl rfl (pa_cons (pe_callB uLen rfl (W.fr c 54 rfl) bt_len (pa_cons (pv 5) pa_nil)) (pa_cons (pe_op uSub (pe_callB uLen rfl (W.fr c 54 rfl) bt_len (pa_cons (pv 5) pa_nil)) (pv 4)) pa_nil)) rfl)
  (pss_cons (ps_set (i := 8) nd rfl (Or.inr rfl) (pe_lc (own := [("tick", 14)]) (g := (gName 14)) (tt := tYes) rfl nd (pi_range1 rfl (W.fr c 58 rfl) (pa_cons pe_int pa_nil)) (blkOk_by (own := [("tick", 14)]) (N := N_law_shortest) (sc := (defScope (top 48))) (by decide +kernel)) (fun _ _ _ _ _ => (pg_name (i := 14) nd rfl (Or.inl rfl))) (fun _ _ _ _ _ => pts_nil) (fun _ _ _ _ _ => (pe_ix ix_seq (pv 5) (pe_callE D_law_index (hr.mono l_law_index) takes0 rfl (pa_cons (pv 0) (pa_cons (pv 14) pa_nil))) (fun _ _ => rfl)))))
  (pss_cons (ps_for (passes_of rfl) rfl (pi_range2 rfl (W.fr c 58 rfl) (pa_cons pe_int (pa_cons (pe_op uAdd (pv 6) pe_int) pa_nil))) (pg_name (i := 9) nd rfl (Or.inl rfl)) (pss_one (ps_for (passes_of rfl) rfl (pi_range1 rfl (W.fr c 58 rfl) (pa_cons (pv 9) pa_nil)) (pg_name (i := 10) nd rfl (Or.inl rfl)) (pss_cons (ps_set (i := 11) nd rfl (Or.inr rfl) (pe_op uSub (pv 9) (pv 10)))
  (pss_cons (ps_setLc (i := 12) (own := [("tick", 14)]) (g := (gName 14)) (tt := (tTest (tOp (rNeU K) (tOp (rIx K) (tVar 8) (tVar 14)) (tOp (rIx K) (tVar 8) (tOp (rAddU K) (tVar 14) (tVar 11)))))) rfl nd rfl rfl (sw_true rfl rfl rfl (by decide +kernel)) (pi_range2 rfl (W.fr c 58 rfl) (pa_cons (pv 10) (pa_cons (pe_op uAdd (pe_callB (uMax rfl) rfl (W.fr c 56 rfl) bt_max (pa_cons (pv 10) (pa_cons (pv 4) pa_nil))) (pv 7)) pa_nil))) (blkOk_by (own := [("tick", 14)]) (N := N_law_shortest) (sc := (defScope (top 48))) (by decide +kernel)) (fun _ _ _ _ _ => (pg_name (i := 14) nd rfl (Or.inl rfl))) (fun _ _ _ _ _ => (pts_one (pt_cmpR (uNe hr.units) (pe_ix ix_seq (pv 8) (pv 14) (fun _ _ => rfl)) (pe_ix ix_seq (pv 8) (pe_op uAdd (pv 14) (pv 11)) (fun _ _ => rfl)) (nomark _)))) (fun _ _ _ _ _ => (pv 14)))
  (pss_one (ps_if (pt_cmpR (uEqQ hr.units) (pv 12) (pe_lst pa_nil) (nomark _)) (pss_one (ps_ret (pe_lst (pa_cons (pv 1) (pa_cons (pv 2) (pa_cons (pe_slice uSl (pv 3) po_none (po_some (pv 9))) (pa_cons (pv 10) pa_nil))))))) pss_nil)))))))
  (pss_one (ps_ret (pv 0)))))))))
abbrev N_law_later : List Str := ["plain", "tick", "houses", "readers", "moments", "back", "head", "size", "k"]
theorem sc_law_later : FnScope N_law_later ["plain", "tick"] (defScope (top 49)) := ⟨rfl, rfl, rfl, by decide +kernel, rfl, by decide +kernel, by decide +kernel⟩
def t_law_later (K : PySem.W.Frag) (E : XK) : TS := (tSeq (tAsg (tVar 0) (gUnp 4 (gCons (gName 2) (gCons (gName 3) (gCons (gName 4) (gCons (gName 5) gNil))))))
  (tSeq (tIfS (tTest (tOp rIsU (tVar 5) (tC .non))) (tRet (tLst (tCons (tVar 2) (tCons (tVar 3) (tCons (tSl (rSlU K) (tVar 4) (tPart (tVar 1)) tNoPart) (tCons (tC .non) tNil)))))) tNext)
  (tSeq (tAsg (tCB rMaxU (tCons (tC (.int 0)) (tCons (tOp rSubU (tVar 5) (tVar 1)) tNil))) (gName 6))
  (tSeq (tAsg (tOp rSubU (tOp (rAddU K) (tVar 6) (tCB (rLenU K) (tCons (tVar 4) tNil))) (tVar 5)) (gName 7))
  (tRet (tCallS (sp_law_shortest K) (WE (WD E)) (tCons (tLst (tCons (tVar 2) (tCons (tVar 3) (tCons (tCB (rTupN K) (tCons (tLc (iRng1 (tCons (tVar 7) tNil)) (gName 8) tYes (tOp (rIx K) (tVar 4) (tCallS (sp_law_index K) (WE E00) (tCons (tVar 0) (tCons (tOp (rAddU K) (tVar 1) (tVar 8)) tNil)))) [8]) tNil)) (tCons (tVar 6) tNil))))) tNil)))))))
theorem w_law_later {P : Program} {w : World} {K : PySem.W.Frag} {mg : Str → Option Value} {base : Heap} (W : ByNs K mg) (c : He.SaysD fa fn K) {k : Nat} {j_law_index : Nat} (D_law_index : OkE P w K mg base j_law_index "_law_index" ["plain", "tick"] kk_law_index (sp_law_index K)) (l_law_index : j_law_index ≤ k) {j_law_shortest : Nat} (D_law_shortest : OkE P w K mg base j_law_shortest "_law_shortest" ["plain"] kk_law_shortest (sp_law_shortest K)) (l_law_shortest : j_law_shortest ≤ k) {f : Addr} (cdv : Value) (A : Around) (outer : List PySem.Env) (s : Shared) (H : Hp) (E : XK) (hr : Room k (A.deeper (envOfC "_law_later" (defScope (top 49)) s.heap.objs.size f cdv))) :
    PSs (cxOf (L2.CX P w) P w K mg base N_law_later "_law_later" (defScope (top 49)) f cdv A outer s H E) (defBody (top 49)) (t_law_later K E) := by
  have tk : Takes (cxOf (L2.CX P w) P w K mg base N_law_later "_law_later" (defScope (top 49)) f cdv A outer s H E) (WD E) := takes_of rfl rfl rfl rfl
  have nd := sc_law_later.nd
  exact (pss_cons (ps_asg (pv 0) (pg_unp rfl (pgs_cons (pg_name (i := 2) nd rfl (Or.inl rfl)) (pgs_cons (pg_name (i := 3) nd rfl (Or.inl rfl)) (pgs_cons (pg_name (i := 4) nd rfl (Or.inr rfl)) (pgs_cons (pg_name (i := 5) nd rfl (Or.inl rfl)) pgs_nil))))))
  (pss_cons (ps_if (pt_cmpR uIs (pv 5) pe_non (nomark _)) (pss_one (ps_ret (pe_lst (pa_cons (pv 2) (pa_cons (pv 3) (pa_cons (pe_slice uSl (pv 4) (po_some (pv 1)) po_none) (pa_cons pe_non pa_nil))))))) pss_nil)
  (pss_cons (ps_set (i := 6) nd rfl (Or.inl rfl) (pe_callB (uMax rfl) rfl (W.fr c 56 rfl) bt_max (pa_cons pe_int (pa_cons (pe_op uSub (pv 5) (pv 1)) pa_nil))))
  (pss_cons (ps_set (i := 7) nd rfl (Or.inl rfl) (pe_op uSub (pe_op uAdd (pv 6) (pe_callB uLen rfl (W.fr c 54 rfl) bt_len (pa_cons (pv 4) pa_nil))) (pv 5)))
  (pss_one (ps_ret (pe_callE D_law_shortest (hr.mono l_law_shortest) tk rfl (pa_cons (pe_lst (pa_cons (pv 2) (pa_cons (pv 3) (pa_cons (pe_callTy uTupN rfl (W.fr c 61 rfl) bt_tuple (pa_cons (pe_lc (own := [("k", 8)]) (g := (gName 8)) (tt := tYes) rfl nd (pi_range1 rfl (W.fr c 58 rfl) (pa_cons (pv 7) pa_nil)) (blkOk_by (own := [("k", 8)]) (N := N_law_later) (sc := (defScope (top 49))) (by decide +kernel)) (fun _ _ _ _ _ => (pg_name (i := 8) nd rfl (Or.inl rfl))) (fun _ _ _ _ _ => pts_nil) (fun _ _ _ _ _ => (pe_ix ix_seq (pv 4) (pe_callE D_law_index (hr.mono l_law_index) takes0 rfl (pa_cons (pv 0) (pa_cons (pe_op uAdd (pv 1) (pv 8)) pa_nil))) (fun _ _ => rfl)))) pa_nil)) (pa_cons (pv 6) pa_nil))))) pa_nil))))))))
abbrev N_law_plain : List Str := ["sky"]
theorem sc_law_plain : FnScope N_law_plain ["sky"] (defScope (top 50)) := ⟨rfl, rfl, rfl, by decide +kernel, rfl, by decide +kernel, by decide +kernel⟩
def t_law_plain (K : PySem.W.Frag) (E : XK) : TS := (tRet (tLst (tCons (tFld K (tVar 0) "houses") (tCons (tFld K (tVar 0) "readers") (tCons (tFld K (tVar 0) "moments") (tCons (tFld K (tVar 0) "back") tNil))))))
theorem w_law_plain {P : Program} {w : World} {K : PySem.W.Frag} {mg : Str → Option Value} {base : Heap} (W : ByNs K mg) (c : He.SaysD fa fn K) {k : Nat} {f : Addr} (cdv : Value) (A : Around) (outer : List PySem.Env) (s : Shared) (H : Hp) (E : XK) (hr : Room k (A.deeper (envOfC "_law_plain" (defScope (top 50)) s.heap.objs.size f cdv))) :
    PSs (cxOf (L2.CX P w) P w K mg base N_law_plain "_law_plain" (defScope (top 50)) f cdv A outer s H E) (defBody (top 50)) (t_law_plain K E) := by
  have tk : Takes (cxOf (L2.CX P w) P w K mg base N_law_plain "_law_plain" (defScope (top 50)) f cdv A outer s H E) (WD E) := takes_of rfl rfl rfl rfl
  have nd := sc_law_plain.nd
  exact (pss_one (ps_ret (pe_lst (pa_cons (pe_fld (pv 0) rfl) (pa_cons (pe_fld (pv 0) rfl) (pa_cons (pe_fld (pv 0) rfl) (pa_cons (pe_fld (pv 0) rfl) pa_nil)))))))
abbrev N_law_made : List Str := ["plain"]
theorem sc_law_made : FnScope N_law_made ["plain"] (defScope (top 51)) := ⟨rfl, rfl, rfl, by decide +kernel, rfl, by decide +kernel, by decide +kernel⟩
def t_law_made (K : PySem.W.Frag) (E : XK) : TS := (tRet (tMakeS (He.ga K "Sky") (sp_Sky_init K) (WE (WD E)) (tCons (tOp (rIx K) (tVar 0) (tC (.int 0))) (tCons (tOp (rIx K) (tVar 0) (tC (.int 1))) (tCons (tCB (rListU K) (tCons (tOp (rIx K) (tVar 0) (tC (.int 2))) tNil)) (tCons (tOp (rIx K) (tVar 0) (tC (.int 3))) tNil))))))
theorem w_law_made {P : Program} {w : World} {K : PySem.W.Frag} {mg : Str → Option Value} {base : Heap} (W : ByNs K mg) (c : He.SaysD fa fn K) {k : Nat} {jm_Sky : Nat} (M_Sky : OkM P w K mg base jm_Sky "Sky" ["self", "houses", "readers", "moments", "back"] kk_Sky_init (sp_Sky_init K)) (lm_Sky : jm_Sky + 1 ≤ k) {f : Addr} (cdv : Value) (A : Around) (outer : List PySem.Env) (s : Shared) (H : Hp) (E : XK) (hr : Room k (A.deeper (envOfC "_law_made" (defScope (top 51)) s.heap.objs.size f cdv))) :
    PSs (cxOf (L2.CX P w) P w K mg base N_law_made "_law_made" (defScope (top 51)) f cdv A outer s H E) (defBody (top 51)) (t_law_made K E) := by
  have tk : Takes (cxOf (L2.CX P w) P w K mg base N_law_made "_law_made" (defScope (top 51)) f cdv A outer s H E) (WD E) := takes_of rfl rfl rfl rfl
  have nd := sc_law_made.nd
  exact (pss_one (ps_ret (pe_makeE M_Sky (hr.mono lm_Sky) tk rfl (pa_cons (pe_ix ix_seq (pv 0) pe_int (fun _ _ => rfl)) (pa_cons (pe_ix ix_seq (pv 0) pe_int (fun _ _ => rfl)) (pa_cons (pe_callTy uList rfl (W.fr c 55 rfl) bt_list (pa_cons (pe_ix ix_seq (pv 0) pe_int (fun _ _ => rfl)) pa_nil)) (pa_cons (pe_ix ix_seq (pv 0) pe_int (fun _ _ => rfl)) pa_nil)))))))
abbrev N_law_long : List Str := ["box", "far", "houses", "readers", "ends", "few", "ring", "some", "head", "late", "times", "size", "moments", "k"]
theorem sc_law_long : FnScope N_law_long ["box", "far"] (defScope (top 52)) := ⟨rfl, rfl, rfl, by decide +kernel, rfl, by decide +kernel, by decide +kernel⟩
def t_law_long (K : PySem.W.Frag) (E : XK) : TS := (tSeq (tAsg (tTup (tCons (tOp (rAddU K) (tC (.int 1)) (tCallS (sp_law_take K) (WE (WD E)) (tCons (tVar 0) (tCons (tC (.int 3)) tNil)))) (tCons (tOp (rAddU K) (tC (.int 1)) (tCallS (sp_law_take K) (WE (WD E)) (tCons (tVar 0) (tCons (tC (.int 2)) tNil)))) (tCons (tOp (rEqQ K) (tCallS (sp_law_take K) (WE (WD E)) (tCons (tVar 0) (tCons (tC (.int 6)) tNil))) (tC (.int 0))) (tCons (tOp rGtU (tCallS (sp_law_take K) (WE (WD E)) (tCons (tVar 0) (tCons (tC (.int 3)) tNil))) (tC (.int 0))) tNil))))) (gTup K 4 (gCons (gName 2) (gCons (gName 3) (gCons (gName 4) (gCons (gName 5) gNil))))))
  (tSeq (tAsg (tLc (iRng1 (tCons (tOp (rAddU K) (tC (.int 1)) (tCallS (sp_law_take K) (WE (WD E)) (tCons (tVar 0) (tCons (tIf (tTruU K (tVar 1)) (tC (.int 8)) (tC (.int 4))) tNil)))) tNil)) (gName 13) tYes (tCallS (sp_law_a_moment K) (WE E00) (tCons (tVar 0) (tCons (tVar 2) (tCons (tVar 3) tNil)))) [13]) (gName 6))
  (tSeq (tIfS (tTruU K (tVar 5)) (tSeq (tAsg (tLc (iRng1 (tCons (tC (.int 2)) tNil)) (gName 13) tYes (tOp (rIx K) (tVar 6) (tCallS (sp_law_take K) (WE E00) (tCons (tVar 0) (tCons (tCB (rLenU K) (tCons (tVar 6) tNil)) tNil)))) [13]) (gName 7))
  (tAsg (tLc (iRng1 (tCons (tCB (rLenU K) (tCons (tVar 6) tNil)) tNil)) (gName 13) tYes (tOp (rIx K) (tVar 7) (tCallS (sp_law_take K) (WE E00) (tCons (tVar 0) (tCons (tC (.int 2)) tNil)))) [13]) (gName 6))) tNext)
  (tSeq (tAsg (tLc (iRng1 (tCons (tCallS (sp_law_take K) (WE (WD E)) (tCons (tVar 0) (tCons (tC (.int 3)) tNil))) tNil)) (gName 13) tYes (tCallS (sp_law_a_moment K) (WE E00) (tCons (tVar 0) (tCons (tVar 2) (tCons (tVar 3) tNil)))) [13]) (gName 8))
  (tSeq (tPar 9 10 (tCons (tCallS (sp_law_take K) (WE (WD E)) (tCons (tVar 0) (tCons (tC (.int 4)) tNil))) (tCons (tOp (rAddU K) (tC (.int 1)) (tCallS (sp_law_take K) (WE (WD E)) (tCons (tVar 0) (tCons (tC (.int 3)) tNil)))) tNil)))
  (tSeq (tIfS (tTruU K (tVar 1)) (tPar 9 10 (tCons (tOp (rAddU K) (tVar 9) (tC (.int 2))) (tCons (tC (.int 2)) tNil))) tNext)
  (tSeq (tAsg (tCB rMinU (tCons (tOp rSubU (tC (.int 24)) (tCB (rLenU K) (tCons (tVar 8) tNil))) (tCons (tOp (rAddU K) (tVar 9) (tOp (rMulU K) (tVar 10) (tCB (rLenU K) (tCons (tVar 6) tNil)))) tNil))) (gName 11))
  (tSeq (tIfS (tTest (tOp rGtU (tOp (rAddU K) (tOp (rMulU K) (tVar 10) (tCB (rLenU K) (tCons (tVar 6) tNil))) (tVar 9)) (tVar 11))) (tSeq (tPar 9 11 (tCons (tC (.int 0)) (tCons (tCB rMinU (tCons (tOp rSubU (tC (.int 24)) (tCB (rLenU K) (tCons (tVar 8) tNil))) (tCons (tOp (rMulU K) (tOp rDivU (tC (.int 24)) (tCB (rLenU K) (tCons (tVar 6) tNil))) (tCB (rLenU K) (tCons (tVar 6) tNil))) tNil))) tNil)))
  (tAsg (tOp rSubU (tVar 11) (tOp rModU (tCB rIntU (tCons (tVar 11) tNil)) (tCB (rLenU K) (tCons (tVar 6) tNil)))) (gName 11))) tNext)
  (tSeq (tAsg (tOp (rAddU K) (tVar 8) (tLc (iRng1 (tCons (tVar 11) tNil)) (gName 13) tYes (tOp (rIx K) (tVar 6) (tOp rModU (tCB rIntU (tCons (tVar 13) tNil)) (tCB (rLenU K) (tCons (tVar 6) tNil)))) [13])) (gName 12))
  (tRet (tLst (tCons (tVar 2) (tCons (tVar 3) (tCons (tCB (rTupN K) (tCons (tVar 12) tNil)) (tCons (tIf (tTruU K (tVar 4)) (tC .non) (tOp (rAddU K) (tCB (rLenU K) (tCons (tVar 8) tNil)) (tVar 9))) tNil)))))))))))))))
theorem w_law_long {P : Program} {w : World} {K : PySem.W.Frag} {mg : Str → Option Value} {base : Heap} (W : ByNs K mg) (c : He.SaysD fa fn K) {k : Nat} {j_law_a_moment : Nat} (D_law_a_moment : OkE P w K mg base j_law_a_moment "_law_a_moment" ["box", "houses", "readers"] kk_law_a_moment (sp_law_a_moment K)) (l_law_a_moment : j_law_a_moment ≤ k) {j_law_take : Nat} (D_law_take : OkE P w K mg base j_law_take "_law_take" ["box", "many"] kk_law_take (sp_law_take K)) (l_law_take : j_law_take ≤ k) {f : Addr} (cdv : Value) (A : Around) (outer : List PySem.Env) (s : Shared) (H : Hp) (E : XK) (hr : Room k (A.deeper (envOfC "_law_long" (defScope (top 52)) s.heap.objs.size f cdv))) :
    PSs (cxOf (L2.CX P w) P w K mg base N_law_long "_law_long" (defScope (top 52)) f cdv A outer s H E) (defBody (top 52)) (t_law_long K E) := by
  have tk : Takes (cxOf (L2.CX P w) P w K mg base N_law_long "_law_long" (defScope (top 52)) f cdv A outer s H E) (WD E) := takes_of rfl rfl rfl rfl
  have nd := sc_law_long.nd
  exact (pss_cons (ps_asg (pe_tup (pa_cons (pe_op uAdd pe_int (pe_callE D_law_take (hr.mono l_law_take) tk rfl (pa_cons (pv 0) (pa_cons pe_int pa_nil)))) (pa_cons (pe_op uAdd pe_int (pe_callE D_law_take (hr.mono l_law_take) tk rfl (pa_cons (pv 0) (pa_cons pe_int pa_nil)))) (pa_cons (pe_cmpR (uEqQ hr.units) (pe_callE D_law_take (hr.mono l_law_take) tk rfl (pa_cons (pv 0) (pa_cons pe_int pa_nil))) pe_int (nomark _)) (pa_cons (pe_cmpR op_gt (pe_callE D_law_take (hr.mono l_law_take) tk rfl (pa_cons (pv 0) (pa_cons pe_int pa_nil))) pe_int (nomark _)) pa_nil))))) (pg_tup rfl (pgs_cons (pg_name (i := 2) nd rfl (Or.inr rfl)) (pgs_cons (pg_name (i := 3) nd rfl (Or.inr rfl)) (pgs_cons (pg_name (i := 4) nd rfl (Or.inl rfl)) (pgs_cons (pg_name (i := 5) nd rfl (Or.inl rfl)) pgs_nil))))))
  (pss_cons (ps_set (i := 6) nd rfl (Or.inr rfl) (pe_lc (own := [("k", 13)]) (g := (gName 13)) (tt := tYes) rfl nd (pi_range1 rfl (W.fr c 58 rfl) (pa_cons (pe_op uAdd pe_int (pe_callE D_law_take (hr.mono l_law_take) tk rfl (pa_cons (pv 0) (pa_cons (pe_ifExp (pt_truth (pv 1) (fun _ => rfl)) pe_int pe_int) pa_nil)))) pa_nil)) (blkOk_by (own := [("k", 13)]) (N := N_law_long) (sc := (defScope (top 52))) (by decide +kernel)) (fun _ _ _ _ _ => (pg_name (i := 13) nd rfl (Or.inl rfl))) (fun _ _ _ _ _ => pts_nil) (fun _ _ _ _ _ => (pe_callE D_law_a_moment (hr.mono l_law_a_moment) takes0 rfl (pa_cons (pv 0) (pa_cons (pv 2) (pa_cons (pv 3) pa_nil)))))))
  (pss_cons (ps_if (pt_truth (pv 5) (fun _ => rfl)) (pss_cons (ps_set (i := 7) nd rfl (Or.inr rfl) (pe_lc (own := [("k", 13)]) (g := (gName 13)) (tt := tYes) rfl nd (pi_range1 rfl (W.fr c 58 rfl) (pa_cons pe_int pa_nil)) (blkOk_by (own := [("k", 13)]) (N := N_law_long) (sc := (defScope (top 52))) (by decide +kernel)) (fun _ _ _ _ _ => (pg_name (i := 13) nd rfl (Or.inl rfl))) (fun _ _ _ _ _ => pts_nil) (fun _ _ _ _ _ => (pe_ix ix_seq (pv 6) (pe_callE D_law_take (hr.mono l_law_take) takes0 rfl (pa_cons (pv 0) (pa_cons (pe_callB uLen rfl (W.fr c 54 rfl) bt_len (pa_cons (pv 6) pa_nil)) pa_nil))) (fun _ _ => rfl)))))
  (pss_one (ps_set (i := 6) nd rfl (Or.inr rfl) (pe_lc (own := [("k", 13)]) (g := (gName 13)) (tt := tYes) rfl nd (pi_range1 rfl (W.fr c 58 rfl) (pa_cons (pe_callB uLen rfl (W.fr c 54 rfl) bt_len (pa_cons (pv 6) pa_nil)) pa_nil)) (blkOk_by (own := [("k", 13)]) (N := N_law_long) (sc := (defScope (top 52))) (by decide +kernel)) (fun _ _ _ _ _ => (pg_name (i := 13) nd rfl (Or.inl rfl))) (fun _ _ _ _ _ => pts_nil) (fun _ _ _ _ _ => (pe_ix ix_seq (pv 7) (pe_callE D_law_take (hr.mono l_law_take) takes0 rfl (pa_cons (pv 0) (pa_cons pe_int pa_nil))) (fun _ _ => rfl))))))) pss_nil)
  (pss_cons (ps_setLc (i := 8) (own := [("k", 13)]) (g := (gName 13)) (tt := tYes) rfl nd rfl rfl (sw_true rfl rfl rfl (by decide +kernel)) (pi_range1 rfl (W.fr c 58 rfl) (pa_cons (pe_callE D_law_take (hr.mono l_law_take) tk rfl (pa_cons (pv 0) (pa_cons pe_int pa_nil))) pa_nil)) (blkOk_by (own := [("k", 13)]) (N := N_law_long) (sc := (defScope (top 52))) (by decide +kernel)) (fun _ _ _ _ _ => (pg_name (i := 13) nd rfl (Or.inl rfl))) (fun _ _ _ _ _ => pts_nil) (fun _ _ _ _ _ => (pe_callE D_law_a_moment (hr.mono l_law_a_moment) takes0 rfl (pa_cons (pv 0) (pa_cons (pv 2) (pa_cons (pv 3) pa_nil))))))
  (pss_cons (ps_par (i := 9) (j := 10) rfl nd rfl rfl (by decide) rfl rfl (pa_cons (pe_callE D_law_take (hr.mono l_law_take) tk rfl (pa_cons (pv 0) (pa_cons pe_int pa_nil))) (pa_cons (pe_op uAdd pe_int (pe_callE D_law_take (hr.mono l_law_take) tk rfl (pa_cons (pv 0) (pa_cons pe_int pa_nil)))) pa_nil)) rfl)
  (pss_cons (ps_if (pt_truth (pv 1) (fun _ => rfl)) (pss_one (ps_par (i := 9) (j := 10) rfl nd rfl rfl (by decide) rfl rfl (pa_cons (pe_op uAdd (pv 9) pe_int) (pa_cons pe_int pa_nil)) rfl)) pss_nil)
  (pss_cons (ps_set (i := 11) nd rfl (Or.inl rfl) (pe_callB (uMin rfl) rfl (W.fr c 57 rfl) bt_min (pa_cons (pe_op uSub pe_int (pe_callB uLen rfl (W.fr c 54 rfl) bt_len (pa_cons (pv 8) pa_nil))) (pa_cons (pe_op uAdd (pv 9) (pe_op uMul (pv 10) (pe_callB uLen rfl (W.fr c 54 rfl) bt_len (pa_cons (pv 6) pa_nil)))) pa_nil))))
  (pss_cons (ps_if (pt_cmpR op_gt (pe_op uAdd (pe_op uMul (pv 10) (pe_callB uLen rfl (W.fr c 54 rfl) bt_len (pa_cons (pv 6) pa_nil))) (pv 9)) (pv 11) (nomark _)) (pss_cons (ps_par (i := 9) (j := 11) rfl nd rfl rfl (by decide) rfl rfl (pa_cons pe_int (pa_cons (pe_callB (uMin rfl) rfl (W.fr c 57 rfl) bt_min (pa_cons (pe_op uSub pe_int (pe_callB uLen rfl (W.fr c 54 rfl) bt_len (pa_cons (pv 8) pa_nil))) (pa_cons (pe_op uMul (pe_op uDiv pe_int (pe_callB uLen rfl (W.fr c 54 rfl) bt_len (pa_cons (pv 6) pa_nil))) (pe_callB uLen rfl (W.fr c 54 rfl) bt_len (pa_cons (pv 6) pa_nil))) pa_nil))) pa_nil)) rfl)
  (pss_one (ps_set (i := 11) nd rfl (Or.inl rfl) (pe_op uSub (pv 11) (pe_op uMod (pe_callTy uInt rfl (W.fr c 52 rfl) bt_int (pa_cons (pv 11) pa_nil)) (pe_callB uLen rfl (W.fr c 54 rfl) bt_len (pa_cons (pv 6) pa_nil))))))) pss_nil)
  (pss_cons (ps_set (i := 12) nd rfl (Or.inl rfl) (pe_op uAdd (pv 8) (pe_lc (own := [("k", 13)]) (g := (gName 13)) (tt := tYes) rfl nd (pi_range1 rfl (W.fr c 58 rfl) (pa_cons (pv 11) pa_nil)) (blkOk_by (own := [("k", 13)]) (N := N_law_long) (sc := (defScope (top 52))) (by decide +kernel)) (fun _ _ _ _ _ => (pg_name (i := 13) nd rfl (Or.inl rfl))) (fun _ _ _ _ _ => pts_nil) (fun _ _ _ _ _ => (pe_ix ix_seq (pv 6) (pe_op uMod (pe_callTy uInt rfl (W.fr c 52 rfl) bt_int (pa_cons (pv 13) pa_nil)) (pe_callB uLen rfl (W.fr c 54 rfl) bt_len (pa_cons (pv 6) pa_nil))) (fun _ _ => rfl))))))
  (pss_one (ps_ret (pe_lst (pa_cons (pv 2) (pa_cons (pv 3) (pa_cons (pe_callTy uTupN rfl (W.fr c 61 rfl) bt_tuple (pa_cons (pv 12) pa_nil)) (pa_cons (pe_ifExp (pt_truth (pv 4) (fun _ => rfl)) pe_non (pe_op uAdd (pe_callB uLen rfl (W.fr c 54 rfl) bt_len (pa_cons (pv 8) pa_nil)) (pv 9))) pa_nil))))))))))))))))
abbrev N_law_ask : List Str := ["door", "args", "named", "e"]
theorem sc_law_ask : FnScope N_law_ask ["door", "args", "named"] (defScope (top 53)) := ⟨rfl, rfl, rfl, by decide +kernel, rfl, by decide +kernel, by decide +kernel⟩
def t_law_ask (K : PySem.W.Frag) (E : XK) : TS := (tTryA K (WD E) [(.ref (He.ga K "InvalidTick"), some 3, fun a cls d => (tRet (tLst (tCons (tC (.str "tick")) (tCons (tXf a cls d (He.ga K "InvalidTick") "given" (tVar 3)) tNil))))), (.ref (He.ga K "Ended"), some 3, fun a cls d => (tRet (tLst (tCons (tC (.str "ended")) (tCons (tXf a cls d (He.ga K "Ended") "ticks" (tVar 3)) tNil))))), (.ref (He.ga K "NeverEnds"), none, fun _ _ _ => (tRet (tLst (tCons (tC (.str "never")) (tCons (tC .non) tNil))))), (.ref (He.ga K "InvalidHouses"), some 3, fun a cls d => (tRet (tLst (tCons (tC (.str "houses")) (tCons (tXf a cls d (He.ga K "InvalidHouses") "given" (tVar 3)) tNil))))), (.ref (He.ga K "InvalidReaders"), some 3, fun a cls d => (tRet (tLst (tCons (tC (.str "readers")) (tCons (tXf a cls d (He.ga K "InvalidReaders") "given" (tVar 3)) tNil))))), (.ref (He.ga K "TooMany"), some 3, fun a cls d => (tRet (tLst (tCons (tC (.str "many")) (tCons (tXf a cls d (He.ga K "TooMany") "count" (tVar 3)) tNil))))), (.ref (He.ga K "AboardError"), none, fun _ _ _ => (tRet (tLst (tCons (tC (.str "other")) (tCons (tC .non) tNil)))))] fun W' => (tSeq (tIfS (tTest (tOp (rEqQ K) (tVar 0) (tC (.int 0)))) (tRet (tLst (tCons (tC (.str "told")) (tCons (tCallS (sp_law_plain K) (WE W') (tCons (tIf (tTruU K (tVar 2)) (tCallS (sp_shortest_sky K) (WE W') (tPerm [0] 1 (tCons (tOp (rIx K) (tVar 1) (tC (.int 0))) tNil))) (tCallS (sp_shortest_sky K) (WE W') (tCons (tOp (rIx K) (tVar 1) (tC (.int 0))) tNil))) tNil)) tNil)))) tNext)
  (tSeq (tIfS (tTest (tOp (rEqQ K) (tVar 0) (tC (.int 1)))) (tRet (tLst (tCons (tC (.str "told")) (tCons (tCallS (sp_law_plain K) (WE W') (tCons (tIf (tTruU K (tVar 2)) (tCallS (sp_later_sky K) (WE W') (tPerm [1, 0] 2 (tCons (tOp (rIx K) (tVar 1) (tC (.int 1))) (tCons (tOp (rIx K) (tVar 1) (tC (.int 0))) tNil)))) (tCallS (sp_later_sky K) (WE W') (tCons (tOp (rIx K) (tVar 1) (tC (.int 0))) (tCons (tOp (rIx K) (tVar 1) (tC (.int 1))) tNil)))) tNil)) tNil)))) tNext)
  (tRet (tLst (tCons (tC (.str "told")) (tCons (tCallS (sp_law_plain K) (WE W') (tCons (tIf (tTruU K (tVar 2)) (tCallS (sp_followed_by K) (WE W') (tPerm [1, 0] 2 (tCons (tOp (rIx K) (tVar 1) (tC (.int 1))) (tCons (tOp (rIx K) (tVar 1) (tC (.int 0))) tNil)))) (tCallS (sp_followed_by K) (WE W') (tCons (tOp (rIx K) (tVar 1) (tC (.int 0))) (tCons (tOp (rIx K) (tVar 1) (tC (.int 1))) tNil)))) tNil)) tNil)))))))
theorem w_law_ask {P : Program} {w : World} {K : PySem.W.Frag} {mg : Str → Option Value} {base : Heap} (W : ByNs K mg) (c : He.SaysD fa fn K) {k : Nat} {j_law_plain : Nat} (D_law_plain : OkE P w K mg base j_law_plain "_law_plain" ["sky"] kk_law_plain (sp_law_plain K)) (l_law_plain : j_law_plain ≤ k) {j_followed_by : Nat} (D_followed_by : OkE P w K mg base j_followed_by "followed_by" ["first", "second"] kk_followed_by (sp_followed_by K)) (l_followed_by : j_followed_by ≤ k) {j_later_sky : Nat} (D_later_sky : OkE P w K mg base j_later_sky "later_sky" ["sky", "tick"] kk_later_sky (sp_later_sky K)) (l_later_sky : j_later_sky ≤ k) {j_shortest_sky : Nat} (D_shortest_sky : OkE P w K mg base j_shortest_sky "shortest_sky" ["sky"] kk_shortest_sky (sp_shortest_sky K)) (l_shortest_sky : j_shortest_sky ≤ k) (X_Ended : ExMk K "Ended" ["ticks"]) (X_InvalidHouses : ExMk K "InvalidHouses" ["given"]) (X_InvalidReaders : ExMk K "InvalidReaders" ["given"]) (X_InvalidTick : ExMk K "InvalidTick" ["given"]) (X_TooMany : ExMk K "TooMany" ["count"]) {f : Addr} (cdv : Value) (A : Around) (outer : List PySem.Env) (s : Shared) (H : Hp) (E : XK) (hr : Room k (A.deeper (envOfC "_law_ask" (defScope (top 53)) s.heap.objs.size f cdv))) :
    PSs (cxOf (L2.CX P w) P w K mg base N_law_ask "_law_ask" (defScope (top 53)) f cdv A outer s H E) (defBody (top 53)) (t_law_ask K E) := by
  have tk : Takes (cxOf (L2.CX P w) P w K mg base N_law_ask "_law_ask" (defScope (top 53)) f cdv A outer s H E) (WD E) := takes_of rfl rfl rfl rfl
  have nd := sc_law_ask.nd
  exact (pss_one (ps_tryA rfl rfl nd tk (fun W' pn xe tk' po' => (pss_cons (ps_if (pt_cmpR (uEqQ hr.units) (pv 0) pe_int (nomark _)) (pss_one (ps_ret (pe_lst (pa_cons pe_str (pa_cons (pe_callE D_law_plain (hr.mono l_law_plain) tk' rfl (pa_cons (pe_ifExp (pt_truth (pv 2) (fun _ => rfl)) (pe_callEK ["sky"] [0] D_shortest_sky (List.mem_cons_self ..) (hr.mono l_shortest_sky) tk' rfl (pk_cons (pe_ix ix_seq (pv 1) pe_int (fun _ _ => rfl)) pk_nil)) (pe_callE D_shortest_sky (hr.mono l_shortest_sky) tk' rfl (pa_cons (pe_ix ix_seq (pv 1) pe_int (fun _ _ => rfl)) pa_nil))) pa_nil)) pa_nil))))) pss_nil)
  (pss_cons (ps_if (pt_cmpR (uEqQ hr.units) (pv 0) pe_int (nomark _)) (pss_one (ps_ret (pe_lst (pa_cons pe_str (pa_cons (pe_callE D_law_plain (hr.mono l_law_plain) tk' rfl (pa_cons (pe_ifExp (pt_truth (pv 2) (fun _ => rfl)) (pe_callEK ["tick", "sky"] [1, 0] D_later_sky (List.mem_cons_self ..) (hr.mono l_later_sky) tk' rfl (pk_cons (pe_ix ix_seq (pv 1) pe_int (fun _ _ => rfl)) (pk_cons (pe_ix ix_seq (pv 1) pe_int (fun _ _ => rfl)) pk_nil))) (pe_callE D_later_sky (hr.mono l_later_sky) tk' rfl (pa_cons (pe_ix ix_seq (pv 1) pe_int (fun _ _ => rfl)) (pa_cons (pe_ix ix_seq (pv 1) pe_int (fun _ _ => rfl)) pa_nil)))) pa_nil)) pa_nil))))) pss_nil)
  (pss_one (ps_ret (pe_lst (pa_cons pe_str (pa_cons (pe_callE D_law_plain (hr.mono l_law_plain) tk' rfl (pa_cons (pe_ifExp (pt_truth (pv 2) (fun _ => rfl)) (pe_callEK ["second", "first"] [1, 0] D_followed_by (List.mem_cons_self ..) (hr.mono l_followed_by) tk' rfl (pk_cons (pe_ix ix_seq (pv 1) pe_int (fun _ _ => rfl)) (pk_cons (pe_ix ix_seq (pv 1) pe_int (fun _ _ => rfl)) pk_nil))) (pe_callE D_followed_by (hr.mono l_followed_by) tk' rfl (pa_cons (pe_ix ix_seq (pv 1) pe_int (fun _ _ => rfl)) (pa_cons (pe_ix ix_seq (pv 1) pe_int (fun _ _ => rfl)) pa_nil)))) pa_nil)) pa_nil)))))))) (ClsOk.named (ts := fun a cls d => (tRet (tLst (tCons (tC (.str "tick")) (tCons (tXf a cls d (He.ga K "InvalidTick") "given" (tVar 3)) tNil))))) (⟨rfl, by decide, .inl (W.gl c 5 rfl)⟩) (i := 3) rfl rfl (fun a oe cls d pn hz hf => (pss_one (ps_ret (pe_lst (pa_cons pe_str (pa_cons (pe_xf (xfOf X_InvalidTick) ((X_InvalidTick).nof "given" (by decide)) hz hf (pv 3)) pa_nil)))))) (ClsOk.named (ts := fun a cls d => (tRet (tLst (tCons (tC (.str "ended")) (tCons (tXf a cls d (He.ga K "Ended") "ticks" (tVar 3)) tNil))))) (⟨rfl, by decide, .inl (W.gl c 6 rfl)⟩) (i := 3) rfl rfl (fun a oe cls d pn hz hf => (pss_one (ps_ret (pe_lst (pa_cons pe_str (pa_cons (pe_xf (xfOf X_Ended) ((X_Ended).nof "ticks" (by decide)) hz hf (pv 3)) pa_nil)))))) (ClsOk.plain (ts := fun _ _ _ => (tRet (tLst (tCons (tC (.str "never")) (tCons (tC .non) tNil))))) (⟨rfl, by decide, .inl (W.gl c 7 rfl)⟩) (fun a oe cls d pn hz hf => (pss_one (ps_ret (pe_lst (pa_cons pe_str (pa_cons pe_non pa_nil)))))) (ClsOk.named (ts := fun a cls d => (tRet (tLst (tCons (tC (.str "houses")) (tCons (tXf a cls d (He.ga K "InvalidHouses") "given" (tVar 3)) tNil))))) (⟨rfl, by decide, .inl (W.gl c 2 rfl)⟩) (i := 3) rfl rfl (fun a oe cls d pn hz hf => (pss_one (ps_ret (pe_lst (pa_cons pe_str (pa_cons (pe_xf (xfOf X_InvalidHouses) ((X_InvalidHouses).nof "given" (by decide)) hz hf (pv 3)) pa_nil)))))) (ClsOk.named (ts := fun a cls d => (tRet (tLst (tCons (tC (.str "readers")) (tCons (tXf a cls d (He.ga K "InvalidReaders") "given" (tVar 3)) tNil))))) (⟨rfl, by decide, .inl (W.gl c 4 rfl)⟩) (i := 3) rfl rfl (fun a oe cls d pn hz hf => (pss_one (ps_ret (pe_lst (pa_cons pe_str (pa_cons (pe_xf (xfOf X_InvalidReaders) ((X_InvalidReaders).nof "given" (by decide)) hz hf (pv 3)) pa_nil)))))) (ClsOk.named (ts := fun a cls d => (tRet (tLst (tCons (tC (.str "many")) (tCons (tXf a cls d (He.ga K "TooMany") "count" (tVar 3)) tNil))))) (⟨rfl, by decide, .inl (W.gl c 8 rfl)⟩) (i := 3) rfl rfl (fun a oe cls d pn hz hf => (pss_one (ps_ret (pe_lst (pa_cons pe_str (pa_cons (pe_xf (xfOf X_TooMany) ((X_TooMany).nof "count" (by decide)) hz hf (pv 3)) pa_nil)))))) (ClsOk.plain (ts := fun _ _ _ => (tRet (tLst (tCons (tC (.str "other")) (tCons (tC .non) tNil))))) (⟨rfl, by decide, .inl (W.gl c 0 rfl)⟩) (fun a oe cls d pn hz hf => (pss_one (ps_ret (pe_lst (pa_cons pe_str (pa_cons pe_non pa_nil)))))) ClsOk.nil)))))))))
abbrev N_law_later_due : List Str := ["plain", "tick"]
theorem sc_law_later_due : FnScope N_law_later_due ["plain", "tick"] (defScope (top 54)) := ⟨rfl, rfl, rfl, by decide +kernel, rfl, by decide +kernel, by decide +kernel⟩
def t_law_later_due (K : PySem.W.Frag) (E : XK) : TS := (tSeq (tIfS (tNot (tTruU K (tCallS (sp_law_whole K) (WE (WD E)) (tCons (tVar 1) (tCons (tC (.int 0)) (tCons (tOp rPowU (tC (.int 10)) (tC (.int 15))) tNil)))))) (tRet (tLst (tCons (tC (.str "tick")) (tCons (tVar 1) tNil)))) tNext)
  (tSeq (tIfS (tAnd (tTest (tOp rIsU (tOp (rIx K) (tVar 0) (tC (.int 3))) (tC .non))) (tTest (tOp rGeU (tVar 1) (tCB (rLenU K) (tCons (tOp (rIx K) (tVar 0) (tC (.int 2))) tNil))))) (tRet (tLst (tCons (tC (.str "ended")) (tCons (tCB (rLenU K) (tCons (tOp (rIx K) (tVar 0) (tC (.int 2))) tNil)) tNil)))) tNext)
  (tRet (tLst (tCons (tC (.str "told")) (tCons (tCallS (sp_law_later K) (WE (WD E)) (tCons (tVar 0) (tCons (tVar 1) tNil))) tNil))))))
theorem w_law_later_due {P : Program} {w : World} {K : PySem.W.Frag} {mg : Str → Option Value} {base : Heap} (W : ByNs K mg) (c : He.SaysD fa fn K) {k : Nat} {j_law_later : Nat} (D_law_later : OkE P w K mg base j_law_later "_law_later" ["plain", "tick"] kk_law_later (sp_law_later K)) (l_law_later : j_law_later ≤ k) {j_law_whole : Nat} (D_law_whole : OkE P w K mg base j_law_whole "_law_whole" ["value", "least", "most"] kk_law_whole (sp_law_whole K)) (l_law_whole : j_law_whole ≤ k) {f : Addr} (cdv : Value) (A : Around) (outer : List PySem.Env) (s : Shared) (H : Hp) (E : XK) (hr : Room k (A.deeper (envOfC "_law_later_due" (defScope (top 54)) s.heap.objs.size f cdv))) :
    PSs (cxOf (L2.CX P w) P w K mg base N_law_later_due "_law_later_due" (defScope (top 54)) f cdv A outer s H E) (defBody (top 54)) (t_law_later_due K E) := by
  have tk : Takes (cxOf (L2.CX P w) P w K mg base N_law_later_due "_law_later_due" (defScope (top 54)) f cdv A outer s H E) (WD E) := takes_of rfl rfl rfl rfl
  have nd := sc_law_later_due.nd
  exact (pss_cons (ps_if (pt_not (pt_truth (pe_callE D_law_whole (hr.mono l_law_whole) tk rfl (pa_cons (pv 1) (pa_cons pe_int (pa_cons (pe_op uPow pe_int pe_int) pa_nil)))) (fun _ => rfl))) (pss_one (ps_ret (pe_lst (pa_cons pe_str (pa_cons (pv 1) pa_nil))))) pss_nil)
  (pss_cons (ps_if (PW.pt (pw_and (pt_cmpR uIs (pe_ix ix_seq (pv 0) pe_int (fun _ _ => rfl)) pe_non (nomark _)) (pw_and1 (pt_cmpR op_ge (pv 1) (pe_callB uLen rfl (W.fr c 54 rfl) bt_len (pa_cons (pe_ix ix_seq (pv 0) pe_int (fun _ _ => rfl)) pa_nil)) (nomark _))))) (pss_one (ps_ret (pe_lst (pa_cons pe_str (pa_cons (pe_callB uLen rfl (W.fr c 54 rfl) bt_len (pa_cons (pe_ix ix_seq (pv 0) pe_int (fun _ _ => rfl)) pa_nil)) pa_nil))))) pss_nil)
  (pss_one (ps_ret (pe_lst (pa_cons pe_str (pa_cons (pe_callE D_law_later (hr.mono l_law_later) tk rfl (pa_cons (pv 0) (pa_cons (pv 1) pa_nil))) pa_nil)))))))
abbrev N_law_followed_due : List Str := ["first", "second", "many"]
theorem sc_law_followed_due : FnScope N_law_followed_due ["first", "second"] (defScope (top 55)) := ⟨rfl, rfl, rfl, by decide +kernel, rfl, by decide +kernel, by decide +kernel⟩
def t_law_followed_due (K : PySem.W.Frag) (E : XK) : TS := (tSeq (tIfS (tTest (tOp rIsNotU (tOp (rIx K) (tVar 0) (tC (.int 3))) (tC .non))) (tRet (tLst (tCons (tC (.str "never")) (tCons (tC .non) tNil)))) tNext)
  (tSeq (tIfS (tTest (tOp (rNeU K) (tOp (rIx K) (tVar 0) (tC (.int 0))) (tOp (rIx K) (tVar 1) (tC (.int 0))))) (tRet (tLst (tCons (tC (.str "houses")) (tCons (tOp (rIx K) (tVar 1) (tC (.int 0))) tNil)))) tNext)
  (tSeq (tIfS (tTest (tOp (rNeU K) (tOp (rIx K) (tVar 0) (tC (.int 1))) (tOp (rIx K) (tVar 1) (tC (.int 1))))) (tRet (tLst (tCons (tC (.str "readers")) (tCons (tOp (rIx K) (tVar 1) (tC (.int 1))) tNil)))) tNext)
  (tSeq (tAsg (tCB (rLenU K) (tCons (tOp (rIx K) (tVar 0) (tC (.int 2))) tNil)) (gName 2))
  (tSeq (tIfS (tTest (tOp rGtU (tOp (rAddU K) (tVar 2) (tCB (rLenU K) (tCons (tOp (rIx K) (tVar 1) (tC (.int 2))) tNil))) (tC (.int 24)))) (tRet (tLst (tCons (tC (.str "many")) (tCons (tOp (rAddU K) (tVar 2) (tCB (rLenU K) (tCons (tOp (rIx K) (tVar 1) (tC (.int 2))) tNil))) tNil)))) tNext)
  (tRet (tLst (tCons (tC (.str "told")) (tCons (tLst (tCons (tOp (rIx K) (tVar 0) (tC (.int 0))) (tCons (tOp (rIx K) (tVar 0) (tC (.int 1))) (tCons (tOp (rAddU K) (tOp (rIx K) (tVar 0) (tC (.int 2))) (tOp (rIx K) (tVar 1) (tC (.int 2)))) (tCons (tIf (tTest (tOp rIsU (tOp (rIx K) (tVar 1) (tC (.int 3))) (tC .non))) (tC .non) (tOp (rAddU K) (tVar 2) (tOp (rIx K) (tVar 1) (tC (.int 3))))) tNil))))) tNil)))))))))
theorem w_law_followed_due {P : Program} {w : World} {K : PySem.W.Frag} {mg : Str → Option Value} {base : Heap} (W : ByNs K mg) (c : He.SaysD fa fn K) {k : Nat} {f : Addr} (cdv : Value) (A : Around) (outer : List PySem.Env) (s : Shared) (H : Hp) (E : XK) (hr : Room k (A.deeper (envOfC "_law_followed_due" (defScope (top 55)) s.heap.objs.size f cdv))) :
    PSs (cxOf (L2.CX P w) P w K mg base N_law_followed_due "_law_followed_due" (defScope (top 55)) f cdv A outer s H E) (defBody (top 55)) (t_law_followed_due K E) := by
  have tk : Takes (cxOf (L2.CX P w) P w K mg base N_law_followed_due "_law_followed_due" (defScope (top 55)) f cdv A outer s H E) (WD E) := takes_of rfl rfl rfl rfl
  have nd := sc_law_followed_due.nd
  exact (pss_cons (ps_if (pt_cmpR uIsNot (pe_ix ix_seq (pv 0) pe_int (fun _ _ => rfl)) pe_non (nomark _)) (pss_one (ps_ret (pe_lst (pa_cons pe_str (pa_cons pe_non pa_nil))))) pss_nil)
  (pss_cons (ps_if (pt_cmpR (uNe hr.units) (pe_ix ix_seq (pv 0) pe_int (fun _ _ => rfl)) (pe_ix ix_seq (pv 1) pe_int (fun _ _ => rfl)) (nomark _)) (pss_one (ps_ret (pe_lst (pa_cons pe_str (pa_cons (pe_ix ix_seq (pv 1) pe_int (fun _ _ => rfl)) pa_nil))))) pss_nil)
  (pss_cons (ps_if (pt_cmpR (uNe hr.units) (pe_ix ix_seq (pv 0) pe_int (fun _ _ => rfl)) (pe_ix ix_seq (pv 1) pe_int (fun _ _ => rfl)) (nomark _)) (pss_one (ps_ret (pe_lst (pa_cons pe_str (pa_cons (pe_ix ix_seq (pv 1) pe_int (fun _ _ => rfl)) pa_nil))))) pss_nil)
  (pss_cons (ps_set (i := 2) nd rfl (Or.inl rfl) (pe_callB uLen rfl (W.fr c 54 rfl) bt_len (pa_cons (pe_ix ix_seq (pv 0) pe_int (fun _ _ => rfl)) pa_nil)))
  (pss_cons (ps_if (pt_cmpR op_gt (pe_op uAdd (pv 2) (pe_callB uLen rfl (W.fr c 54 rfl) bt_len (pa_cons (pe_ix ix_seq (pv 1) pe_int (fun _ _ => rfl)) pa_nil))) pe_int (nomark _)) (pss_one (ps_ret (pe_lst (pa_cons pe_str (pa_cons (pe_op uAdd (pv 2) (pe_callB uLen rfl (W.fr c 54 rfl) bt_len (pa_cons (pe_ix ix_seq (pv 1) pe_int (fun _ _ => rfl)) pa_nil))) pa_nil))))) pss_nil)
  (pss_one (ps_ret (pe_lst (pa_cons pe_str (pa_cons (pe_lst (pa_cons (pe_ix ix_seq (pv 0) pe_int (fun _ _ => rfl)) (pa_cons (pe_ix ix_seq (pv 0) pe_int (fun _ _ => rfl)) (pa_cons (pe_op uAdd (pe_ix ix_seq (pv 0) pe_int (fun _ _ => rfl)) (pe_ix ix_seq (pv 1) pe_int (fun _ _ => rfl))) (pa_cons (pe_ifExp (pt_cmpR uIs (pe_ix ix_seq (pv 1) pe_int (fun _ _ => rfl)) pe_non (nomark _)) pe_non (pe_op uAdd (pv 2) (pe_ix ix_seq (pv 1) pe_int (fun _ _ => rfl)))) pa_nil))))) pa_nil))))))))))
abbrev N_law_pair : List Str := ["box", "plain", "way", "ends", "many", "houses", "readers", "first", "more", "second", "k"]
theorem sc_law_pair : FnScope N_law_pair ["box", "plain"] (defScope (top 56)) := ⟨rfl, rfl, rfl, by decide +kernel, rfl, by decide +kernel, by decide +kernel⟩
def t_law_pair (K : PySem.W.Frag) (E : XK) : TS := (tSeq (tPar3 2 3 4 (tCons (tCallS (sp_law_take K) (WE (WD E)) (tCons (tVar 0) (tCons (tC (.int 8)) tNil))) (tCons (tOp (rEqQ K) (tCallS (sp_law_take K) (WE (WD E)) (tCons (tVar 0) (tCons (tC (.int 3)) tNil))) (tC (.int 0))) (tCons (tOp (rAddU K) (tC (.int 1)) (tCallS (sp_law_take K) (WE (WD E)) (tCons (tVar 0) (tCons (tC (.int 5)) tNil)))) tNil))))
  (tSeq (tAsg (tTup (tCons (tOp (rIx K) (tVar 1) (tC (.int 0))) (tCons (tOp (rIx K) (tVar 1) (tC (.int 1))) tNil))) (gTup K 2 (gCons (gName 5) (gCons (gName 6) gNil))))
  (tSeq (tIfS (tTest (tOp rLtU (tVar 2) (tC (.int 2)))) (tRet (tLst (tCons (tVar 1) (tCons (tCallS (sp_law_long K) (WE (WD E)) (tCons (tVar 0) (tCons (tC (.bl false)) tNil))) tNil)))) tNext)
  (tSeq (tAsg (tLst (tCons (tVar 5) (tCons (tVar 6) (tCons (tCB (rTupU K) (tCons (tLc (iRng1 (tCons (tVar 4) tNil)) (gName 10) tYes (tCallS (sp_law_a_moment K) (WE E00) (tCons (tVar 0) (tCons (tVar 5) (tCons (tVar 6) tNil)))) [10]) tNil)) (tCons (tC .non) tNil))))) (gName 7))
  (tSeq (tIfS (tTest (tOp (rEqQ K) (tVar 2) (tC (.int 2)))) (tAsg (tOp (rAddU K) (tC (.int 1)) (tOp rModU (tCB rIntU (tCons (tVar 5) tNil)) (tC (.int 3)))) (gName 5)) tNext)
  (tSeq (tIfS (tTest (tOp (rEqQ K) (tVar 2) (tC (.int 3)))) (tAsg (tOp (rAddU K) (tC (.int 1)) (tOp rModU (tCB rIntU (tCons (tVar 6) tNil)) (tC (.int 3)))) (gName 6)) tNext)
  (tSeq (tIfS (tTest (tOp (rEqQ K) (tVar 2) (tC (.int 4)))) (tRet (tLst (tCons (tVar 7) (tCons (tCallS (sp_law_long K) (WE (WD E)) (tCons (tVar 0) (tCons (tC (.bl false)) tNil))) tNil)))) tNext)
  (tSeq (tAsg (tIf (tAnd (tTest (tOp rLtU (tVar 2) (tC (.int 7)))) (tTest (tOp (rEqQ K) (tCallS (sp_law_take K) (WE (WD E)) (tCons (tVar 0) (tCons (tC (.int 2)) tNil))) (tC (.int 0))))) (tOp (rAddU K) (tOp rSubU (tC (.int 24)) (tVar 4)) (tCallS (sp_law_take K) (WE (WD E)) (tCons (tVar 0) (tCons (tC (.int 2)) tNil)))) (tOp (rAddU K) (tC (.int 1)) (tCallS (sp_law_take K) (WE (WD E)) (tCons (tVar 0) (tCons (tC (.int 4)) tNil))))) (gName 8))
  (tSeq (tAsg (tCB (rTupU K) (tCons (tLc (iRng1 (tCons (tVar 8) tNil)) (gName 10) tYes (tCallS (sp_law_a_moment K) (WE E00) (tCons (tVar 0) (tCons (tVar 5) (tCons (tVar 6) tNil)))) [10]) tNil)) (gName 9))
  (tRet (tLst (tCons (tVar 7) (tCons (tLst (tCons (tVar 5) (tCons (tVar 6) (tCons (tVar 9) (tCons (tIf (tTruU K (tVar 3)) (tC .non) (tCallS (sp_law_take K) (WE (WD E)) (tCons (tVar 0) (tCons (tVar 8) tNil)))) tNil))))) tNil)))))))))))))
theorem w_law_pair {P : Program} {w : World} {K : PySem.W.Frag} {mg : Str → Option Value} {base : Heap} (W : ByNs K mg) (c : He.SaysD fa fn K) {k : Nat} {j_law_a_moment : Nat} (D_law_a_moment : OkE P w K mg base j_law_a_moment "_law_a_moment" ["box", "houses", "readers"] kk_law_a_moment (sp_law_a_moment K)) (l_law_a_moment : j_law_a_moment ≤ k) {j_law_long : Nat} (D_law_long : OkE P w K mg base j_law_long "_law_long" ["box", "far"] kk_law_long (sp_law_long K)) (l_law_long : j_law_long ≤ k) {j_law_take : Nat} (D_law_take : OkE P w K mg base j_law_take "_law_take" ["box", "many"] kk_law_take (sp_law_take K)) (l_law_take : j_law_take ≤ k) {f : Addr} (cdv : Value) (A : Around) (outer : List PySem.Env) (s : Shared) (H : Hp) (E : XK) (hr : Room k (A.deeper (envOfC "_law_pair" (defScope (top 56)) s.heap.objs.size f cdv))) :
    PSs (cxOf (L2.CX P w) P w K mg base N_law_pair "_law_pair" (defScope (top 56)) f cdv A outer s H E) (defBody (top 56)) (t_law_pair K E) := by
  have tk : Takes (cxOf (L2.CX P w) P w K mg base N_law_pair "_law_pair" (defScope (top 56)) f cdv A outer s H E) (WD E) := takes_of rfl rfl rfl rfl
  have nd := sc_law_pair.nd
  exact (pss_cons (ps_par3 (i := 2) (j := 3) (l := 4) rfl nd rfl rfl rfl (by decide) (by decide) (by decide) rfl rfl rfl (pa_cons (pe_callE D_law_take (hr.mono l_law_take) tk rfl (pa_cons (pv 0) (pa_cons pe_int pa_nil))) (pa_cons (pe_cmpR (uEqQ hr.units) (pe_callE D_law_take (hr.mono l_law_take) tk rfl (pa_cons (pv 0) (pa_cons pe_int pa_nil))) pe_int (nomark _)) (pa_cons (pe_op uAdd pe_int (pe_callE D_law_take (hr.mono l_law_take) tk rfl (pa_cons (pv 0) (pa_cons pe_int pa_nil)))) pa_nil))) rfl)
  (pss_cons (ps_asg (pe_tup (pa_cons (pe_ix ix_seq (pv 1) pe_int (fun _ _ => rfl)) (pa_cons (pe_ix ix_seq (pv 1) pe_int (fun _ _ => rfl)) pa_nil))) (pg_tup rfl (pgs_cons (pg_name (i := 5) nd rfl (Or.inr rfl)) (pgs_cons (pg_name (i := 6) nd rfl (Or.inr rfl)) pgs_nil))))
  (pss_cons (ps_if (pt_cmpR op_lt (pv 2) pe_int (nomark _)) (pss_one (ps_ret (pe_lst (pa_cons (pv 1) (pa_cons (pe_callE D_law_long (hr.mono l_law_long) tk rfl (pa_cons (pv 0) (pa_cons pe_bl pa_nil))) pa_nil))))) pss_nil)
  (pss_cons (ps_set (i := 7) nd rfl (Or.inl rfl) (pe_lst (pa_cons (pv 5) (pa_cons (pv 6) (pa_cons (pe_callTy uTup rfl (W.fr c 61 rfl) bt_tuple (pa_cons (pe_lc (own := [("k", 10)]) (g := (gName 10)) (tt := tYes) rfl nd (pi_range1 rfl (W.fr c 58 rfl) (pa_cons (pv 4) pa_nil)) (blkOk_by (own := [("k", 10)]) (N := N_law_pair) (sc := (defScope (top 56))) (by decide +kernel)) (fun _ _ _ _ _ => (pg_name (i := 10) nd rfl (Or.inl rfl))) (fun _ _ _ _ _ => pts_nil) (fun _ _ _ _ _ => (pe_callE D_law_a_moment (hr.mono l_law_a_moment) takes0 rfl (pa_cons (pv 0) (pa_cons (pv 5) (pa_cons (pv 6) pa_nil)))))) pa_nil)) (pa_cons pe_non pa_nil))))))
  (pss_cons (ps_if (pt_cmpR (uEqQ hr.units) (pv 2) pe_int (nomark _)) (pss_one (ps_set (i := 5) nd rfl (Or.inr rfl) (pe_op uAdd pe_int (pe_op uMod (pe_callTy uInt rfl (W.fr c 52 rfl) bt_int (pa_cons (pv 5) pa_nil)) pe_int)))) pss_nil)
  (pss_cons (ps_if (pt_cmpR (uEqQ hr.units) (pv 2) pe_int (nomark _)) (pss_one (ps_set (i := 6) nd rfl (Or.inr rfl) (pe_op uAdd pe_int (pe_op uMod (pe_callTy uInt rfl (W.fr c 52 rfl) bt_int (pa_cons (pv 6) pa_nil)) pe_int)))) pss_nil)
  (pss_cons (ps_if (pt_cmpR (uEqQ hr.units) (pv 2) pe_int (nomark _)) (pss_one (ps_ret (pe_lst (pa_cons (pv 7) (pa_cons (pe_callE D_law_long (hr.mono l_law_long) tk rfl (pa_cons (pv 0) (pa_cons pe_bl pa_nil))) pa_nil))))) pss_nil)
  (pss_cons (ps_set (i := 8) nd rfl (Or.inl rfl) (pe_ifExp (PW.pt (pw_and (pt_cmpR op_lt (pv 2) pe_int (nomark _)) (pw_and1 (pt_cmpR (uEqQ hr.units) (pe_callE D_law_take (hr.mono l_law_take) tk rfl (pa_cons (pv 0) (pa_cons pe_int pa_nil))) pe_int (nomark _))))) (pe_op uAdd (pe_op uSub pe_int (pv 4)) (pe_callE D_law_take (hr.mono l_law_take) tk rfl (pa_cons (pv 0) (pa_cons pe_int pa_nil)))) (pe_op uAdd pe_int (pe_callE D_law_take (hr.mono l_law_take) tk rfl (pa_cons (pv 0) (pa_cons pe_int pa_nil))))))
  (pss_cons (ps_set (i := 9) nd rfl (Or.inl rfl) (pe_callTy uTup rfl (W.fr c 61 rfl) bt_tuple (pa_cons (pe_lc (own := [("k", 10)]) (g := (gName 10)) (tt := tYes) rfl nd (pi_range1 rfl (W.fr c 58 rfl) (pa_cons (pv 8) pa_nil)) (blkOk_by (own := [("k", 10)]) (N := N_law_pair) (sc := (defScope (top 56))) (by decide +kernel)) (fun _ _ _ _ _ => (pg_name (i := 10) nd rfl (Or.inl rfl))) (fun _ _ _ _ _ => pts_nil) (fun _ _ _ _ _ => (pe_callE D_law_a_moment (hr.mono l_law_a_moment) takes0 rfl (pa_cons (pv 0) (pa_cons (pv 5) (pa_cons (pv 6) pa_nil)))))) pa_nil)))
  (pss_one (ps_ret (pe_lst (pa_cons (pv 7) (pa_cons (pe_lst (pa_cons (pv 5) (pa_cons (pv 6) (pa_cons (pv 9) (pa_cons (pe_ifExp (pt_truth (pv 3) (fun _ => rfl)) pe_non (pe_callE D_law_take (hr.mono l_law_take) tk rfl (pa_cons (pv 0) (pa_cons (pv 8) pa_nil)))) pa_nil))))) pa_nil))))))))))))))
abbrev N_law_same_ticks : List Str := ["box", "sky", "made", "plain", "many", "tick", "one", "other"]
theorem sc_law_same_ticks : FnScope N_law_same_ticks ["box", "sky", "made", "plain"] (defScope (top 57)) := ⟨rfl, rfl, rfl, by decide +kernel, rfl, by decide +kernel, by decide +kernel⟩
def t_law_same_ticks (K : PySem.W.Frag) (E : XK) : TS := (tSeq (tAsg (tCB (rLenU K) (tCons (tOp (rIx K) (tVar 3) (tC (.int 2))) tNil)) (gName 4))
  (tSeq (tFor (iSeqV K (tLst (tCons (tC (.int 0)) (tCons (tOp rSubU (tVar 4) (tC (.int 1))) (tCons (tVar 4) (tCons (tOp (rAddU K) (tVar 4) (tC (.int 1))) (tCons (tCallS (sp_law_take K) (WE (WD E)) (tCons (tVar 0) (tCons (tC (.int 60)) tNil))) (tCons (tOp rSubU (tOp rPowU (tC (.int 10)) (tC (.int 15))) (tCallS (sp_law_take K) (WE (WD E)) (tCons (tVar 0) (tCons (tC (.int 60)) tNil)))) tNil)))))))) (gName 5) (tSeq (tPar 6 7 (tCons (tCallS (sp_moment_of K) (WE (WD E)) (tCons (tVar 1) (tCons (tVar 5) tNil))) (tCons (tCallS (sp_moment_of K) (WE (WD E)) (tCons (tVar 2) (tCons (tVar 5) tNil))) tNil)))
  (tSeq (tIfS (tTest (tOp (rNeU K) (tOp rIsU (tVar 6) (tC .non)) (tOp rIsU (tVar 7) (tC .non)))) (tRet (tC (.bl false))) tNext)
  (tIfS (tAnd (tTest (tOp rIsNotU (tVar 6) (tC .non))) (tNot (tTruU K (tCallS (sp_law_same K 7) (WE (WD E)) (tCons (tOp (rIx K) (tFld K (tVar 1) "moments") (tVar 6)) (tCons (tOp (rIx K) (tFld K (tVar 2) "moments") (tVar 7)) tNil)))))) (tRet (tC (.bl false))) tNext))))
  (tRet (tC (.bl true)))))
theorem w_law_same_ticks {P : Program} {w : World} {K : PySem.W.Frag} {mg : Str → Option Value} {base : Heap} (W : ByNs K mg) (c : He.SaysD fa fn K) {k : Nat} {j_law_same : Nat} (D_law_same : OkE P w K mg base j_law_same "_law_same" ["told", "due"] kk_law_same (sp_law_same K 7)) (l_law_same : j_law_same ≤ k) {j_law_take : Nat} (D_law_take : OkE P w K mg base j_law_take "_law_take" ["box", "many"] kk_law_take (sp_law_take K)) (l_law_take : j_law_take ≤ k) {j_moment_of : Nat} (D_moment_of : OkE P w K mg base j_moment_of "moment_of" ["sky", "tick"] kk_moment_of (sp_moment_of K)) (l_moment_of : j_moment_of ≤ k) {f : Addr} (cdv : Value) (A : Around) (outer : List PySem.Env) (s : Shared) (H : Hp) (E : XK) (hr : Room k (A.deeper (envOfC "_law_same_ticks" (defScope (top 57)) s.heap.objs.size f cdv))) :
    PSs (cxOf (L2.CX P w) P w K mg base N_law_same_ticks "_law_same_ticks" (defScope (top 57)) f cdv A outer s H E) (defBody (top 57)) (t_law_same_ticks K E) := by
  have tk : Takes (cxOf (L2.CX P w) P w K mg base N_law_same_ticks "_law_same_ticks" (defScope (top 57)) f cdv A outer s H E) (WD E) := takes_of rfl rfl rfl rfl
  have nd := sc_law_same_ticks.nd
  exact (pss_cons (ps_set (i := 4) nd rfl (Or.inl rfl) (pe_callB uLen rfl (W.fr c 54 rfl) bt_len (pa_cons (pe_ix ix_seq (pv 3) pe_int (fun _ _ => rfl)) pa_nil)))
  (pss_cons (ps_for (passes_of rfl) rfl (pi_seqV (pe_lst (pa_cons pe_int (pa_cons (pe_op uSub (pv 4) pe_int) (pa_cons (pv 4) (pa_cons (pe_op uAdd (pv 4) pe_int) (pa_cons (pe_callE D_law_take (hr.mono l_law_take) tk rfl (pa_cons (pv 0) (pa_cons pe_int pa_nil))) (pa_cons (pe_op uSub (pe_op uPow pe_int pe_int) (pe_callE D_law_take (hr.mono l_law_take) tk rfl (pa_cons (pv 0) (pa_cons pe_int pa_nil)))) pa_nil)))))))) (pg_name (i := 5) nd rfl (Or.inl rfl)) (pss_cons (ps_par (i := 6) (j := 7) rfl nd rfl rfl (by decide) rfl rfl (pa_cons (pe_callE D_moment_of (hr.mono l_moment_of) tk rfl (pa_cons (pv 1) (pa_cons (pv 5) pa_nil))) (pa_cons (pe_callE D_moment_of (hr.mono l_moment_of) tk rfl (pa_cons (pv 2) (pa_cons (pv 5) pa_nil))) pa_nil)) rfl)
  (pss_cons (ps_if (pt_cmpR (uNe hr.units) (pe_cmpR uIs (pv 6) pe_non (nomark _)) (pe_cmpR uIs (pv 7) pe_non (nomark _)) (nomark _)) (pss_one (ps_ret pe_bl)) pss_nil)
  (pss_one (ps_if (PW.pt (pw_and (pt_cmpR uIsNot (pv 6) pe_non (nomark _)) (pw_and1 (pt_not (pt_truth (pe_callE D_law_same (hr.mono l_law_same) tk rfl (pa_cons (pe_ix ix_seq (pe_fld (pv 1) rfl) (pv 6) (fun _ _ => rfl)) (pa_cons (pe_ix ix_seq (pe_fld (pv 2) rfl) (pv 7) (fun _ _ => rfl)) pa_nil))) (fun _ => rfl)))))) (pss_one (ps_ret pe_bl)) pss_nil)))))
  (pss_one (ps_ret pe_bl))))
abbrev N_the_law : List Str := ["script", "great", "k", "box", "named", "odd", "plain", "sky", "due", "many", "wrong", "tick", "turn", "first", "second", "skies"]
theorem sc_the_law : FnScope N_the_law ["script"] (defScope (top 58)) := ⟨rfl, rfl, rfl, by decide +kernel, rfl, by decide +kernel, by decide +kernel⟩
def t_the_law (K : PySem.W.Frag) (E : XK) : TS := (tSeq (tAsg (tOp (rEqQ K) (tCallS (sp_law_take K) (WE (WD E)) (tCons (tCallS (sp_law_box K) (WE (WD E)) (tCons (tCallS (sp_law_cell K) (WE (WD E)) (tCons (tVar 0) (tCons (tC (.int 0)) tNil))) tNil)) (tCons (tC (.int 8)) tNil))) (tC (.int 0))) (gName 1))
  (tSeq (tFor (iRng1 (tCons (tCB rMaxU (tCons (tC (.int 3)) (tCons (tCB rMinU (tCons (tC (.int 6)) (tCons (tCB (rLenU K) (tCons (tVar 0) tNil)) tNil))) tNil))) tNil)) (gName 2) (tSeq (tAsg (tCallS (sp_law_box K) (WE (WD E)) (tCons (tCallS (sp_law_cell K) (WE (WD E)) (tCons (tVar 0) (tCons (tVar 2) tNil))) tNil)) (gName 3))
  (tSeq (tPar 4 5 (tCons (tOp (rEqQ K) (tCallS (sp_law_take K) (WE (WD E)) (tCons (tVar 3) (tCons (tC (.int 2)) tNil))) (tC (.int 0))) (tCons (tCallS (sp_law_take K) (WE (WD E)) (tCons (tVar 3) (tCons (tC (.int 6)) tNil))) tNil)))
  (tSeq (tAsg (tCallS (sp_law_long K) (WE (WD E)) (tCons (tVar 3) (tCons (tAndV (tVar 1) (tOp (rEqQ K) (tVar 2) (tC (.int 1)))) tNil))) (gName 6))
  (tSeq (tPar 7 8 (tCons (tCallS (sp_law_made K) (WE (WD E)) (tCons (tVar 6) tNil)) (tCons (tLst (tCons (tC (.str "told")) (tCons (tCallS (sp_law_shortest K) (WE (WD E)) (tCons (tVar 6) tNil)) tNil))) tNil)))
  (tSeq (tIfS (tOr (tNot (tTruU K (tCallS (sp_law_same K 7) (WE (WD E)) (tCons (tCallS (sp_law_ask K) (WE (WD E)) (tCons (tC (.int 0)) (tCons (tLst (tCons (tVar 7) tNil)) (tCons (tVar 4) tNil)))) (tCons (tVar 8) tNil))))) (tNot (tTruU K (tCallS (sp_law_same_ticks K) (WE (WD E)) (tCons (tVar 3) (tCons (tVar 7) (tCons (tCallS (sp_shortest_sky K) (WE (WD E)) (tCons (tVar 7) tNil)) (tCons (tVar 6) tNil)))))))) (tRet (tC (.bl false))) tNext)
  (tSeq (tAsg (tCB (rLenU K) (tCons (tOp (rIx K) (tVar 6) (tC (.int 2))) tNil)) (gName 9))
  (tSeq (tAsg (tOp (rIx K) (tLst (tCons (tUn rNegU (tC (.int 1))) (tCons (tOp (rAddU K) (tOp rPowU (tC (.int 10)) (tC (.int 15))) (tC (.int 1))) (tCons (tC (.bl true)) (tCons (tC .non) (tCons (tC (.str "2")) (tCons (tTup (tCons (tC (.int 1)) tNil)) tNil))))))) (tVar 5)) (gName 10))
  (tSeq (tFor (iSeqV K (tLst (tCons (tC (.int 0)) (tCons (tOp rSubU (tVar 9) (tC (.int 1))) (tCons (tVar 9) (tCons (tCallS (sp_law_take K) (WE (WD E)) (tCons (tVar 3) (tCons (tC (.int 41)) tNil))) (tCons (tOp rSubU (tOp rPowU (tC (.int 10)) (tC (.int 15))) (tCallS (sp_law_take K) (WE (WD E)) (tCons (tVar 3) (tCons (tC (.int 100)) tNil)))) (tCons (tCallS (sp_law_take K) (WE (WD E)) (tCons (tVar 3) (tCons (tVar 9) tNil))) (tCons (tVar 10) tNil))))))))) (gName 11) (tIfS (tNot (tTruU K (tCallS (sp_law_same K 7) (WE (WD E)) (tCons (tCallS (sp_law_ask K) (WE (WD E)) (tCons (tC (.int 1)) (tCons (tLst (tCons (tVar 7) (tCons (tVar 11) tNil))) (tCons (tVar 4) tNil)))) (tCons (tCallS (sp_law_later_due K) (WE (WD E)) (tCons (tVar 6) (tCons (tVar 11) tNil))) tNil))))) (tRet (tC (.bl false))) tNext))
  (tSeq (tFor (iRng1 (tCons (tC (.int 2)) tNil)) (gName 12) (tSeq (tAsg (tCallS (sp_law_pair K) (WE (WD E)) (tCons (tVar 3) (tCons (tVar 6) tNil))) (gUnp 2 (gCons (gName 13) (gCons (gName 14) gNil))))
  (tSeq (tAsg (tLst (tCons (tCallS (sp_law_made K) (WE (WD E)) (tCons (tVar 13) tNil)) (tCons (tCallS (sp_law_made K) (WE (WD E)) (tCons (tVar 14) tNil)) tNil))) (gName 15))
  (tSeq (tIfS (tNot (tTruU K (tCallS (sp_law_same K 7) (WE (WD E)) (tCons (tCallS (sp_law_ask K) (WE (WD E)) (tCons (tC (.int 2)) (tCons (tVar 15) (tCons (tNotV (tVar 4)) tNil)))) (tCons (tCallS (sp_law_followed_due K) (WE (WD E)) (tCons (tVar 13) (tCons (tVar 14) tNil))) tNil))))) (tRet (tC (.bl false))) tNext)
  (tIfS (tNot (tTruU K (tCallS (sp_law_same K 7) (WE (WD E)) (tCons (tLst (tCons (tCallS (sp_law_plain K) (WE (WD E)) (tCons (tOp (rIx K) (tVar 15) (tC (.int 0))) tNil)) (tCons (tCallS (sp_law_plain K) (WE (WD E)) (tCons (tOp (rIx K) (tVar 15) (tC (.int 1))) tNil)) tNil))) (tCons (tLst (tCons (tVar 13) (tCons (tVar 14) tNil))) tNil))))) (tRet (tC (.bl false))) tNext)))))
  (tIfS (tOr (tNot (tTruU K (tCallS (sp_law_same K 7) (WE (WD E)) (tCons (tCallS (sp_law_plain K) (WE (WD E)) (tCons (tVar 7) tNil)) (tCons (tVar 6) tNil))))) (tNot (tTruU K (tCallS (sp_law_same K 7) (WE (WD E)) (tCons (tCallS (sp_law_ask K) (WE (WD E)) (tCons (tC (.int 0)) (tCons (tLst (tCons (tVar 7) tNil)) (tCons (tNotV (tVar 4)) tNil)))) (tCons (tVar 8) tNil)))))) (tRet (tC (.bl false))) tNext)))))))))))
  (tRet (tC (.bl true)))))
theorem w_the_law {P : Program} {w : World} {K : PySem.W.Frag} {mg : Str → Option Value} {base : Heap} (W : ByNs K mg) (c : He.SaysD fa fn K) {k : Nat} {j_law_ask : Nat} (D_law_ask : OkE P w K mg base j_law_ask "_law_ask" ["door", "args", "named"] kk_law_ask (sp_law_ask K)) (l_law_ask : j_law_ask ≤ k) {j_law_box : Nat} (D_law_box : OkE P w K mg base j_law_box "_law_box" ["great"] kk_law_box (sp_law_box K)) (l_law_box : j_law_box ≤ k) {j_law_cell : Nat} (D_law_cell : OkE P w K mg base j_law_cell "_law_cell" ["script", "k"] kk_law_cell (sp_law_cell K)) (l_law_cell : j_law_cell ≤ k) {j_law_followed_due : Nat} (D_law_followed_due : OkE P w K mg base j_law_followed_due "_law_followed_due" ["first", "second"] kk_law_followed_due (sp_law_followed_due K)) (l_law_followed_due : j_law_followed_due ≤ k) {j_law_later_due : Nat} (D_law_later_due : OkE P w K mg base j_law_later_due "_law_later_due" ["plain", "tick"] kk_law_later_due (sp_law_later_due K)) (l_law_later_due : j_law_later_due ≤ k) {j_law_long : Nat} (D_law_long : OkE P w K mg base j_law_long "_law_long" ["box", "far"] kk_law_long (sp_law_long K)) (l_law_long : j_law_long ≤ k) {j_law_made : Nat} (D_law_made : OkE P w K mg base j_law_made "_law_made" ["plain"] kk_law_made (sp_law_made K)) (l_law_made : j_law_made ≤ k) {j_law_pair : Nat} (D_law_pair : OkE P w K mg base j_law_pair "_law_pair" ["box", "plain"] kk_law_pair (sp_law_pair K)) (l_law_pair : j_law_pair ≤ k) {j_law_plain : Nat} (D_law_plain : OkE P w K mg base j_law_plain "_law_plain" ["sky"] kk_law_plain (sp_law_plain K)) (l_law_plain : j_law_plain ≤ k) {j_law_same : Nat} (D_law_same : OkE P w K mg base j_law_same "_law_same" ["told", "due"] kk_law_same (sp_law_same K 7)) (l_law_same : j_law_same ≤ k) {j_law_same_ticks : Nat} (D_law_same_ticks : OkE P w K mg base j_law_same_ticks "_law_same_ticks" ["box", "sky", "made", "plain"] kk_law_same_ticks (sp_law_same_ticks K)) (l_law_same_ticks : j_law_same_ticks ≤ k) {j_law_shortest : Nat} (D_law_shortest : OkE P w K mg base j_law_shortest "_law_shortest" ["plain"] kk_law_shortest (sp_law_shortest K)) (l_law_shortest : j_law_shortest ≤ k) {j_law_take : Nat} (D_law_take : OkE P w K mg base j_law_take "_law_take" ["box", "many"] kk_law_take (sp_law_take K)) (l_law_take : j_law_take ≤ k) {j_shortest_sky : Nat} (D_shortest_sky : OkE P w K mg base j_shortest_sky "shortest_sky" ["sky"] kk_shortest_sky (sp_shortest_sky K)) (l_shortest_sky : j_shortest_sky ≤ k) {f : Addr} (cdv : Value) (A : Around) (outer : List PySem.Env) (s : Shared) (H : Hp) (E : XK) (hr : Room k (A.deeper (envOfC "law" (defScope (top 58)) s.heap.objs.size f cdv))) :
    PSs (cxOf (L2.CX P w) P w K mg base N_the_law "law" (defScope (top 58)) f cdv A outer s H E) (defBody (top 58)) (t_the_law K E) := by
  have tk : Takes (cxOf (L2.CX P w) P w K mg base N_the_law "law" (defScope (top 58)) f cdv A outer s H E) (WD E) := takes_of rfl rfl rfl rfl
  have nd := sc_the_law.nd
  exact (pss_cons (ps_set (i := 1) nd rfl (Or.inl rfl) (pe_cmpR (uEqQ hr.units) (pe_callE D_law_take (hr.mono l_law_take) tk rfl (pa_cons (pe_callE D_law_box (hr.mono l_law_box) tk rfl (pa_cons (pe_callE D_law_cell (hr.mono l_law_cell) tk rfl (pa_cons (pv 0) (pa_cons pe_int pa_nil))) pa_nil)) (pa_cons pe_int pa_nil))) pe_int (nomark _)))
  (pss_cons (ps_for (passes_of rfl) rfl (pi_range1 rfl (W.fr c 58 rfl) (pa_cons (pe_callB (uMax rfl) rfl (W.fr c 56 rfl) bt_max (pa_cons pe_int (pa_cons (pe_callB (uMin rfl) rfl (W.fr c 57 rfl) bt_min (pa_cons pe_int (pa_cons (pe_callB uLen rfl (W.fr c 54 rfl) bt_len (pa_cons (pv 0) pa_nil)) pa_nil))) pa_nil))) pa_nil)) (pg_name (i := 2) nd rfl (Or.inl rfl)) (pss_cons (ps_set (i := 3) nd rfl (Or.inl rfl) (pe_callE D_law_box (hr.mono l_law_box) tk rfl (pa_cons (pe_callE D_law_cell (hr.mono l_law_cell) tk rfl (pa_cons (pv 0) (pa_cons (pv 2) pa_nil))) pa_nil)))
  (pss_cons (ps_par (i := 4) (j := 5) rfl nd rfl rfl (by decide) rfl rfl (pa_cons (pe_cmpR (uEqQ hr.units) (pe_callE D_law_take (hr.mono l_law_take) tk rfl (pa_cons (pv 3) (pa_cons pe_int pa_nil))) pe_int (nomark _)) (pa_cons (pe_callE D_law_take (hr.mono l_law_take) tk rfl (pa_cons (pv 3) (pa_cons pe_int pa_nil))) pa_nil)) rfl)
  (pss_cons (ps_set (i := 6) nd rfl (Or.inl rfl) (pe_callE D_law_long (hr.mono l_law_long) tk rfl (pa_cons (pv 3) (pa_cons (pe_and (pv 1) (pe_one (pe_cmpR (uEqQ hr.units) (pv 2) pe_int (nomark _)))) pa_nil))))
  (pss_cons (ps_par (i := 7) (j := 8) rfl nd rfl rfl (by decide) rfl rfl (pa_cons (pe_callE D_law_made (hr.mono l_law_made) tk rfl (pa_cons (pv 6) pa_nil)) (pa_cons (pe_lst (pa_cons pe_str (pa_cons (pe_callE D_law_shortest (hr.mono l_law_shortest) tk rfl (pa_cons (pv 6) pa_nil)) pa_nil))) pa_nil)) rfl)
  (pss_cons (ps_if (PW.pt (pw_or (pt_not (pt_truth (pe_callE D_law_same (hr.mono l_law_same) tk rfl (pa_cons (pe_callE D_law_ask (hr.mono l_law_ask) tk rfl (pa_cons pe_int (pa_cons (pe_lst (pa_cons (pv 7) pa_nil)) (pa_cons (pv 4) pa_nil)))) (pa_cons (pv 8) pa_nil))) (fun _ => rfl))) (pw_or1 (pt_not (pt_truth (pe_callE D_law_same_ticks (hr.mono l_law_same_ticks) tk rfl (pa_cons (pv 3) (pa_cons (pv 7) (pa_cons (pe_callE D_shortest_sky (hr.mono l_shortest_sky) tk rfl (pa_cons (pv 7) pa_nil)) (pa_cons (pv 6) pa_nil))))) (fun _ => rfl)))))) (pss_one (ps_ret pe_bl)) pss_nil)
  (pss_cons (ps_set (i := 9) nd rfl (Or.inl rfl) (pe_callB uLen rfl (W.fr c 54 rfl) bt_len (pa_cons (pe_ix ix_seq (pv 6) pe_int (fun _ _ => rfl)) pa_nil)))
  (pss_cons (ps_set (i := 10) nd rfl (Or.inl rfl) (pe_ix ix_seq (pe_lst (pa_cons (pe_un uNeg pe_int) (pa_cons (pe_op uAdd (pe_op uPow pe_int pe_int) pe_int) (pa_cons pe_bl (pa_cons pe_non (pa_cons pe_str (pa_cons (pe_tup (pa_cons pe_int pa_nil)) pa_nil))))))) (pv 5) (fun _ _ => rfl)))
  (pss_cons (ps_for (passes_of rfl) rfl (pi_seqV (pe_lst (pa_cons pe_int (pa_cons (pe_op uSub (pv 9) pe_int) (pa_cons (pv 9) (pa_cons (pe_callE D_law_take (hr.mono l_law_take) tk rfl (pa_cons (pv 3) (pa_cons pe_int pa_nil))) (pa_cons (pe_op uSub (pe_op uPow pe_int pe_int) (pe_callE D_law_take (hr.mono l_law_take) tk rfl (pa_cons (pv 3) (pa_cons pe_int pa_nil)))) (pa_cons (pe_callE D_law_take (hr.mono l_law_take) tk rfl (pa_cons (pv 3) (pa_cons (pv 9) pa_nil))) (pa_cons (pv 10) pa_nil))))))))) (pg_name (i := 11) nd rfl (Or.inl rfl)) (pss_one (ps_if (pt_not (pt_truth (pe_callE D_law_same (hr.mono l_law_same) tk rfl (pa_cons (pe_callE D_law_ask (hr.mono l_law_ask) tk rfl (pa_cons pe_int (pa_cons (pe_lst (pa_cons (pv 7) (pa_cons (pv 11) pa_nil))) (pa_cons (pv 4) pa_nil)))) (pa_cons (pe_callE D_law_later_due (hr.mono l_law_later_due) tk rfl (pa_cons (pv 6) (pa_cons (pv 11) pa_nil))) pa_nil))) (fun _ => rfl))) (pss_one (ps_ret pe_bl)) pss_nil)))
  (pss_cons (ps_for (passes_of rfl) rfl (pi_range1 rfl (W.fr c 58 rfl) (pa_cons pe_int pa_nil)) (pg_name (i := 12) nd rfl (Or.inl rfl)) (pss_cons (ps_asg (pe_callE D_law_pair (hr.mono l_law_pair) tk rfl (pa_cons (pv 3) (pa_cons (pv 6) pa_nil))) (pg_unp rfl (pgs_cons (pg_name (i := 13) nd rfl (Or.inl rfl)) (pgs_cons (pg_name (i := 14) nd rfl (Or.inl rfl)) pgs_nil))))
  (pss_cons (ps_set (i := 15) nd rfl (Or.inl rfl) (pe_lst (pa_cons (pe_callE D_law_made (hr.mono l_law_made) tk rfl (pa_cons (pv 13) pa_nil)) (pa_cons (pe_callE D_law_made (hr.mono l_law_made) tk rfl (pa_cons (pv 14) pa_nil)) pa_nil))))
  (pss_cons (ps_if (pt_not (pt_truth (pe_callE D_law_same (hr.mono l_law_same) tk rfl (pa_cons (pe_callE D_law_ask (hr.mono l_law_ask) tk rfl (pa_cons pe_int (pa_cons (pv 15) (pa_cons (pe_not (pv 4)) pa_nil)))) (pa_cons (pe_callE D_law_followed_due (hr.mono l_law_followed_due) tk rfl (pa_cons (pv 13) (pa_cons (pv 14) pa_nil))) pa_nil))) (fun _ => rfl))) (pss_one (ps_ret pe_bl)) pss_nil)
  (pss_one (ps_if (pt_not (pt_truth (pe_callE D_law_same (hr.mono l_law_same) tk rfl (pa_cons (pe_lst (pa_cons (pe_callE D_law_plain (hr.mono l_law_plain) tk rfl (pa_cons (pe_ix ix_seq (pv 15) pe_int (fun _ _ => rfl)) pa_nil)) (pa_cons (pe_callE D_law_plain (hr.mono l_law_plain) tk rfl (pa_cons (pe_ix ix_seq (pv 15) pe_int (fun _ _ => rfl)) pa_nil)) pa_nil))) (pa_cons (pe_lst (pa_cons (pv 13) (pa_cons (pv 14) pa_nil))) pa_nil))) (fun _ => rfl))) (pss_one (ps_ret pe_bl)) pss_nil))))))
  (pss_one (ps_if (PW.pt (pw_or (pt_not (pt_truth (pe_callE D_law_same (hr.mono l_law_same) tk rfl (pa_cons (pe_callE D_law_plain (hr.mono l_law_plain) tk rfl (pa_cons (pv 7) pa_nil)) (pa_cons (pv 6) pa_nil))) (fun _ => rfl))) (pw_or1 (pt_not (pt_truth (pe_callE D_law_same (hr.mono l_law_same) tk rfl (pa_cons (pe_callE D_law_ask (hr.mono l_law_ask) tk rfl (pa_cons pe_int (pa_cons (pe_lst (pa_cons (pv 7) pa_nil)) (pa_cons (pe_not (pv 4)) pa_nil)))) (pa_cons (pv 8) pa_nil))) (fun _ => rfl)))))) (pss_one (ps_ret pe_bl)) pss_nil))))))))))))
  (pss_one (ps_ret pe_bl))))
end K10
set_option maxHeartbeats 4000000
namespace K10
open PySem PySem.Spec PyProof.Rows L2 TL TC TD K09
/-- from h on the moments come again after p -/
def Per (f : Nat → Mo) (h p : Nat) : Prop := ∀ t, h ≤ t → f (t + p) = f t
theorem Per.mul {f : Nat → Mo} {h p : Nat} (c : Per f h p) : ∀ (k t : Nat), h ≤ t → f (t + k * p) = f t
  | 0, t, _ => by rw [Nat.zero_mul, Nat.add_zero]
  | k + 1, t, ht => by
    rw [Nat.succ_mul, ← Nat.add_assoc, c _ (by omega), Per.mul c k t ht]
theorem Per.gcd {f : Nat → Mo} {h : Nat} (p q : Nat) : Per f h p → Per f h q → Per f h (Nat.gcd p q) := by
  induction p, q using Nat.gcd.induction with
  | H0 q => intro _ d; rw [Nat.gcd_zero_left]; exact d
  | H1 p q hp ih =>
    intro c d
    rw [Nat.gcd_rec]
    refine ih (fun t ht => ?_) c
    have e := Nat.mod_add_div q p
    rw [← c.mul (q / p) (t + q % p) (by omega), Nat.mul_comm (q / p) p, Nat.add_assoc, e, d t ht]
theorem flat_get {a : List Mo} : ∀ (k i : Nat), i < k * a.length → ((List.replicate k a).flatten)[i]? = a[i % a.length]?
  | 0, i, h => by rw [Nat.zero_mul] at h; omega
  | k + 1, i, h => by
    rw [List.replicate_succ, List.flatten_cons]
    by_cases z : i < a.length
    · rw [List.getElem?_append_left z, Nat.mod_eq_of_lt z]
    · rw [List.getElem?_append_right (by omega), flat_get k (i - a.length) (by rw [Nat.succ_mul] at h; omega)]
      rw [Nat.mod_eq_sub_mod (show i ≥ a.length by omega)]
theorem flat_len {a : List Mo} (k : Nat) : ((List.replicate k a).flatten).length = k * a.length := by
  rw [List.length_flatten, List.map_replicate, List.sum_replicate_nat]
/-- the test of a candidate -/
def cand (l : List Mo) (m : Nat) : Bool := decide (1 ≤ m) && (decide (l.length % m = 0) && decide (l = (List.replicate (l.length / m) (l.take m)).flatten))
theorem cand_iff {l : List Mo} {m : Nat} (hm : 1 ≤ m) (hl : m ≤ l.length) : cand l m = true ↔ l.length % m = 0 ∧ ∀ i, i < l.length → l[i]? = l[i % m]? := by
  unfold cand
  rw [Bool.and_eq_true, Bool.and_eq_true, decide_eq_true_eq, decide_eq_true_eq, decide_eq_true_eq]
  have lt : (l.take m).length = m := by rw [List.length_take]; omega
  constructor
  · rintro ⟨_, h1, h2⟩
    refine ⟨h1, fun i hi => ?_⟩
    have hk : l.length / m * m = l.length := Nat.div_mul_cancel (Nat.dvd_of_mod_eq_zero h1)
    have e : l[i]? = ((List.replicate (l.length / m) (l.take m)).flatten)[i]? := by rw [← h2]
    rw [e, flat_get _ _ (by rw [lt, hk]; exact hi), lt, List.getElem?_take_of_lt (Nat.mod_lt _ (by omega))]
  · rintro ⟨h1, h2⟩
    have hk : l.length / m * m = l.length := Nat.div_mul_cancel (Nat.dvd_of_mod_eq_zero h1)
    refine ⟨hm, h1, List.ext_getElem? fun i => ?_⟩
    by_cases z : i < l.length
    · rw [flat_get _ _ (by rw [lt, hk]; exact z), lt, List.getElem?_take_of_lt (Nat.mod_lt _ (by omega)), h2 i z]
    · rw [List.getElem?_eq_none (by omega), List.getElem?_eq_none (by rw [flat_len, lt, hk]; omega)]
theorem lper_eq (l : List Mo) : lper l = ((List.range l.length).find? (cand l)).getD l.length := rfl
theorem lper_hit {l : List Mo} {m : Nat} (hm : m < l.length) (c : cand l m = true) (no : ∀ j, j < m → cand l j = false) : lper l = m := by
  rw [lper_eq, List.find?_range_eq_some.mpr ⟨c, List.mem_range.mpr hm, fun j hj => by rw [no j hj]; rfl⟩]
  rfl
theorem lper_end {l : List Mo} (no : ∀ j, j < l.length → cand l j = false) : lper l = l.length := by
  rw [lper_eq, List.find?_range_eq_none.mpr fun j hj => by rw [no j hj]; rfl]
  rfl
theorem lper_cases {l : List Mo} (h1 : 1 ≤ l.length) : 1 ≤ lper l ∧ lper l ≤ l.length ∧ (l.length % lper l = 0 ∧ ∀ i, i < l.length → l[i]? = l[i % lper l]?) ∧ ∀ m, m < l.length → cand l m = true → lper l ≤ m := by
  cases e : (List.range l.length).find? (cand l) with
  | none =>
    have e2 : lper l = l.length := by rw [lper_eq, e]; rfl
    rw [e2]
    refine ⟨h1, Nat.le_refl _, ⟨Nat.mod_self _, fun i hi => by rw [Nat.mod_eq_of_lt hi]⟩, fun m hm c => ?_⟩
    have := List.find?_range_eq_none.mp e m hm
    rw [c] at this
    cases this
  | some m =>
    have e2 : lper l = m := by rw [lper_eq, e]; rfl
    obtain ⟨c, hr, no⟩ := List.find?_range_eq_some.mp e
    have hr := List.mem_range.mp hr
    have m1 : 1 ≤ m := by
      unfold cand at c
      rw [Bool.and_eq_true, decide_eq_true_eq] at c
      exact c.1
    rw [e2]
    refine ⟨m1, by omega, (cand_iff m1 (by omega)).mp c, fun j hj cj => ?_⟩
    by_cases z : j < m
    · have := no j z
      rw [cj] at this
      cases this
    · omega
/-- the moments of a sky of this head and this ring -/
structure Frm (f : Nat → Mo) (hd ring : List Mo) : Prop where
  h : ∀ t, t < hd.length → some (f t) = hd[t]?
  one : 1 ≤ ring.length
  r : ∀ i, some (f (hd.length + i)) = ring[i % ring.length]?
theorem Frm.unique {f g : Nat → Mo} {hd ring : List Mo} (a : Frm f hd ring) (b : Frm g hd ring) (t : Nat) : f t = g t := by
  by_cases z : t < hd.length
  · have := (a.h t z).trans (b.h t z).symm
    exact Option.some.inj this
  · have := (a.r (t - hd.length)).trans (b.r (t - hd.length)).symm
    rw [show hd.length + (t - hd.length) = t by omega] at this
    exact Option.some.inj this
theorem Frm.per {f : Nat → Mo} {hd ring : List Mo} (a : Frm f hd ring) : Per f hd.length ring.length := fun t ht => by
  have e1 := a.r (t - hd.length)
  have e2 := a.r (t - hd.length + ring.length)
  rw [Nat.add_mod_right, ← e1, show hd.length + (t - hd.length + ring.length) = t + ring.length by omega, show hd.length + (t - hd.length) = t by omega] at e2
  exact Option.some.inj e2
theorem Frm.take {f : Nat → Mo} {hd ring : List Mo} (a : Frm f hd ring) {n : Nat} (hn : n ≤ hd.length + ring.length) : (List.range n).map f = (hd ++ ring).take n := by
  refine List.ext_getElem? fun i => ?_
  by_cases z : i < n
  · rw [List.getElem?_map, List.getElem?_range z, List.getElem?_take_of_lt z]
    show some (f i) = _
    by_cases y : i < hd.length
    · rw [List.getElem?_append_left y, a.h i y]
    · rw [List.getElem?_append_right (by omega)]
      have := a.r (i - hd.length)
      rw [show hd.length + (i - hd.length) = i by omega, Nat.mod_eq_of_lt (by omega)] at this
      exact this
  · rw [List.getElem?_eq_none (by rw [List.length_map, List.length_range]; omega), List.getElem?_eq_none (by rw [List.length_take]; omega)]
theorem lring_len {l : List Mo} (h1 : 1 ≤ l.length) : (lring l).length = lper l := by
  unfold lring
  rw [List.length_take]
  have := (lper_cases h1).2.1
  omega
theorem Frm.short {f : Nat → Mo} {hd ring : List Mo} (a : Frm f hd ring) : Frm f hd (lring ring) := by
  obtain ⟨c1, c2, ⟨c3, c4⟩, _⟩ := lper_cases a.one
  refine ⟨a.h, by rw [lring_len a.one]; exact c1, fun i => ?_⟩
  rw [a.r i, c4 _ (Nat.mod_lt _ a.one), lring_len a.one, Nat.mod_mod_of_dvd _ (Nat.dvd_of_mod_eq_zero c3)]
  unfold lring
  rw [List.getElem?_take_of_lt (Nat.mod_lt _ c1)]
/-- no shorter ring -/
theorem Frm.minP {f : Nat → Mo} {hd ring : List Mo} (a : Frm f hd ring) {h p : Nat} (hp : 1 ≤ p) (c : Per f h p) : lper ring ≤ p := by
  obtain ⟨c1, c2, _, c5⟩ := lper_cases a.one
  have pg : Per f hd.length p := fun t ht => by
    have e1 := a.per.mul h t ht
    have e2 := a.per.mul h (t + p) (by omega)
    have h1 : h ≤ h * ring.length := Nat.le_mul_of_pos_right _ a.one
    rw [← e1, ← e2, show t + p + h * ring.length = t + h * ring.length + p by omega, c _ (by omega)]
  have g := Per.gcd p ring.length pg a.per
  have gp : Nat.gcd p ring.length ≤ p := Nat.le_of_dvd (by omega) (Nat.gcd_dvd_left ..)
  have g1 : 1 ≤ Nat.gcd p ring.length := Nat.gcd_pos_of_pos_left _ (by omega)
  have gd : Nat.gcd p ring.length ∣ ring.length := Nat.gcd_dvd_right ..
  generalize Nat.gcd p ring.length = d at g gp g1 gd
  have gl : d ≤ ring.length := Nat.le_of_dvd a.one gd
  by_cases z : d < ring.length
  · refine Nat.le_trans (c5 d z ((cand_iff g1 gl).mpr ⟨Nat.mod_eq_zero_of_dvd gd, fun i hi => ?_⟩)) gp
    have e1 := a.r i
    have e2 := a.r (i % d)
    have l2 : i % d < ring.length := Nat.lt_of_lt_of_le (Nat.mod_lt _ g1) gl
    rw [Nat.mod_eq_of_lt hi] at e1
    rw [Nat.mod_eq_of_lt l2] at e2
    rw [← e1, ← e2]
    have := g.mul (i / d) (hd.length + i % d) (by omega)
    rw [Nat.mul_comm, show hd.length + i % d + d * (i / d) = hd.length + (i % d + d * (i / d)) by omega, Nat.mod_add_div] at this
    rw [this]
  · omega
/-- no shorter head -/
theorem Frm.minH {f : Nat → Mo} {hd ring : List Mo} (a : Frm f hd ring) (no : hd = [] ∨ hd.getLast? ≠ ring.getLast?) {h p : Nat} (hp : 1 ≤ p) (c : Per f h p) : hd.length ≤ h := by
  rcases no with rfl | no
  · exact Nat.zero_le _
  refine Nat.le_of_not_lt fun z => no ?_
  have r1 := a.one
  have e1 : f (hd.length - 1 + ring.length) = f (hd.length - 1) := by
    have m1 := c.mul hd.length (hd.length - 1) (by omega)
    have m2 := c.mul hd.length (hd.length - 1 + ring.length) (by omega)
    have h1 : hd.length ≤ hd.length * p := Nat.le_mul_of_pos_right _ (by omega)
    rw [← m1, ← m2, show hd.length - 1 + ring.length + hd.length * p = hd.length - 1 + hd.length * p + ring.length by omega]
    exact a.per _ (by omega)
  have e2 := a.h (hd.length - 1) (by omega)
  have e3 := a.r (ring.length - 1)
  rw [Nat.mod_eq_of_lt (by omega), show hd.length + (ring.length - 1) = hd.length - 1 + ring.length by omega, e1, e2] at e3
  rw [List.getLast?_eq_getElem?, List.getLast?_eq_getElem?]
  exact e3
theorem Frm.step {f : Nat → Mo} {hd ring : List Mo} {m : Mo} (a : Frm f (hd ++ [m]) ring) (e : ring.getLast? = some m) : Frm f hd (m :: ring.dropLast) := by
  have r1 := a.one
  have ll : (m :: ring.dropLast).length = ring.length := by rw [List.length_cons, List.length_dropLast]; omega
  have hl : (hd ++ [m]).length = hd.length + 1 := by rw [List.length_append]; rfl
  refine ⟨fun t ht => ?_, by rw [ll]; exact r1, fun i => ?_⟩
  · rw [a.h t (by omega), List.getElem?_append_left ht]
  · rw [ll]
    have key : ∀ j, j < ring.length → some (f (hd.length + j)) = (m :: ring.dropLast)[j]? := fun j hj => by
      cases j with
      | zero =>
        have := a.h hd.length (by omega)
        rw [List.getElem?_append_right (Nat.le_refl _), Nat.sub_self] at this
        exact this
      | succ j =>
        have := a.r j
        rw [hl, Nat.mod_eq_of_lt (by omega), show hd.length + 1 + j = hd.length + (j + 1) by omega] at this
        rw [this, List.getElem?_cons_succ, List.getElem?_dropLast, if_pos (by omega)]
    have all : ∀ n, f (hd.length + (i % ring.length + n * ring.length)) = f (hd.length + i % ring.length) := fun n => by
      by_cases z : n = 0
      · rw [z, Nat.zero_mul, Nat.add_zero]
      · by_cases y : i % ring.length = 0
        · rw [y, Nat.zero_add, Nat.add_zero]
          have e1 := a.r (n * ring.length - 1)
          have h1 : ring.length ≤ n * ring.length := Nat.le_mul_of_pos_left _ (by omega)
          have e4 : (n * ring.length - 1) % ring.length = ring.length - 1 := by
            obtain ⟨k, rfl⟩ : ∃ k, n = k + 1 := ⟨n - 1, by omega⟩
            rw [show (k + 1) * ring.length - 1 = ring.length - 1 + k * ring.length by rw [Nat.succ_mul]; omega, Nat.add_mul_mod_self_right, Nat.mod_eq_of_lt (by omega)]
          rw [hl, e4, show hd.length + 1 + (n * ring.length - 1) = hd.length + n * ring.length by omega, ← List.getLast?_eq_getElem?, e] at e1
          have e2 := key 0 r1
          rw [Nat.add_zero] at e2
          have := Option.some.inj (e1.trans (show some m = some (f hd.length) from e2.symm))
          exact this
        · have e1 := a.r (i % ring.length - 1 + n * ring.length)
          have e2 := a.r (i % ring.length - 1)
          rw [Nat.add_mul_mod_self_right, ← e2, hl, show hd.length + 1 + (i % ring.length - 1 + n * ring.length) = hd.length + (i % ring.length + n * ring.length) by omega, show hd.length + 1 + (i % ring.length - 1) = hd.length + i % ring.length by omega] at e1
          exact Option.some.inj e1
    have := all (i / ring.length)
    rw [Nat.mul_comm, Nat.mod_add_div] at this
    rw [this]
    exact key _ (Nat.mod_lt _ r1)
theorem roll_frm {f : Nat → Mo} : ∀ (hd ring : List Mo), Frm f hd.reverse ring → Frm f (roll hd ring).1.reverse (roll hd ring).2 ∧ (roll hd ring).2.length = ring.length ∧ (roll hd ring).1.length ≤ hd.length ∧ ((roll hd ring).1.reverse = [] ∨ (roll hd ring).1.reverse.getLast? ≠ (roll hd ring).2.getLast?)
  | [], ring, a => ⟨a, rfl, Nat.le_refl _, .inl rfl⟩
  | m :: hd, ring, a => by
    unfold roll
    by_cases z : ring.getLast? = some m
    · rw [if_pos z]
      rw [List.reverse_cons] at a
      obtain ⟨h1, h2, h3, h4⟩ := roll_frm hd (m :: ring.dropLast) (a.step z)
      refine ⟨h1, ?_, by rw [List.length_cons]; omega, h4⟩
      rw [h2, List.length_cons, List.length_dropLast]
      have := a.one
      omega
    · rw [if_neg z]
      refine ⟨a, rfl, Nat.le_refl _, .inr fun e => z ?_⟩
      rw [← e]
      show ((m :: hd).reverse).getLast? = some m
      rw [List.getLast?_reverse]
      rfl
end K10
set_option maxHeartbeats 4000000
namespace K10
open PySem PySem.Spec PyProof.Rows L2 TL TC TD K09
/-- the moment at a tick of a sky that goes on -/
def seqS (S : Sk) (t : Nat) : Mo := S.ms.getD ((momAt S t).getD 0) mo0
theorem seq_get {S : Sk} (ok : SkOk S) {t j : Nat} (h : momAt S t = some j) : S.ms[j]? = some (seqS S t) := by
  have := mom_lt ok h
  unfold seqS
  rw [h, List.getD_eq_getElem?_getD]
  show _ = some ((S.ms[j]?).getD mo0)
  rw [List.getElem?_eq_getElem this]
  rfl
theorem mom_all {S : Sk} {b : Nat} (hb : S.bk = some b) (bl : b < S.ms.length) (i : Nat) : momAt S (b + i) = some (b + i % (S.ms.length - b)) := by
  by_cases z : b + i < S.ms.length
  · rw [mom_lo z, Nat.mod_eq_of_lt (by omega)]
  · rw [mom_hi hb (by omega), show b + i - b = i by omega]
theorem frm_sky {S : Sk} (ok : SkOk S) {b : Nat} (hb : S.bk = some b) : Frm (seqS S) (S.ms.take b) (S.ms.drop b) := by
  have bl := ok.bk b hb
  have lt : (S.ms.take b).length = b := by rw [List.length_take]; omega
  have ld : (S.ms.drop b).length = S.ms.length - b := List.length_drop ..
  refine ⟨fun t ht => ?_, by rw [ld]; omega, fun i => ?_⟩
  · rw [lt] at ht
    rw [List.getElem?_take_of_lt ht]
    exact (seq_get ok (mom_lo (by omega))).symm
  · rw [lt, ld, List.getElem?_drop]
    exact (seq_get ok (mom_all hb bl i)).symm
structure ShF (S : Sk) (b : Nat) (hd ring : List Mo) : Prop where
  eq : shS S = { S with ms := hd ++ ring, bk := some hd.length }
  frm : Frm (seqS S) hd ring
  lh : hd.length ≤ b
  lr : ring.length ≤ S.ms.length - b
  min : ∀ h p, 1 ≤ p → Per (seqS S) h p → hd.length ≤ h ∧ ring.length ≤ p
  tk : hd ++ ring = S.ms.take (hd.length + ring.length)
theorem sh_form {S : Sk} (ok : SkOk S) {b : Nat} (hb : S.bk = some b) : ∃ hd ring, ShF S b hd ring := by
  have bl := ok.bk b hb
  have a := frm_sky ok hb
  have r := roll_frm (S.ms.take b).reverse (lring (S.ms.drop b)) (by rw [List.reverse_reverse]; exact a.short)
  obtain ⟨r1, r2, r3, r4⟩ := r
  have ld : (S.ms.drop b).length = S.ms.length - b := List.length_drop ..
  rw [lring_len a.one] at r2
  have lp := (lper_cases a.one).2.1
  have lh : (roll (S.ms.take b).reverse (lring (S.ms.drop b))).1.reverse.length ≤ b := by
    rw [List.length_reverse]
    refine Nat.le_trans r3 ?_
    rw [List.length_reverse, List.length_take]
    omega
  refine ⟨_, _, ?_, r1, lh, by rw [r2, ← ld]; exact lp, fun h p hp c => ⟨r1.minH r4 hp c, by rw [r2]; exact a.minP hp c⟩, ?_⟩
  · unfold shS
    rw [hb]
    show _ = _
    rw [List.length_reverse]
  · have e1 := r1.take (Nat.le_refl _)
    have e2 := a.take (n := (roll (S.ms.take b).reverse (lring (S.ms.drop b))).1.reverse.length + (roll (S.ms.take b).reverse (lring (S.ms.drop b))).2.length) (by
      rw [r2, ld, List.length_take]
      omega)
    rw [List.take_append_drop] at e2
    rw [e1] at e2
    exact (List.take_of_length_le (by rw [List.length_append]; exact Nat.le_refl _)).symm.trans e2
theorem mem_take {α : Type} {l : List α} {n : Nat} {x : α} (h : x ∈ l.take n) : x ∈ l := List.mem_of_mem_take h
theorem sh_ok {S : Sk} (ok : SkOk S) : SkOk (shS S) := by
  cases hb : S.bk with
  | none =>
    have : shS S = S := by unfold shS; rw [hb]
    rw [this]; exact ok
  | some b =>
    obtain ⟨hd, ring, f⟩ := sh_form ok hb
    have bl := ok.bk b hb
    have one := f.frm.one
    have lh := f.lh
    have lr := f.lr
    have m24 := ok.m24
    rw [f.eq]
    refine ⟨ok.h1, ok.h3, ok.r1, ok.r3, ?_, ?_, fun m hm => ?_, fun c hc => ?_⟩
    · show 1 ≤ (hd ++ ring).length
      rw [List.length_append]; omega
    · show (hd ++ ring).length ≤ 24
      rw [List.length_append]; omega
    · have hm : m ∈ hd ++ ring := hm
      rw [f.tk] at hm
      exact ok.ms m (mem_take hm)
    · have hc : some hd.length = some c := hc
      cases hc
      show hd.length < (hd ++ ring).length
      rw [List.length_append]; omega
/-- the same moments at all ticks -/
theorem sh_seq {S : Sk} (ok : SkOk S) {b : Nat} (hb : S.bk = some b) : ∃ b', (shS S).bk = some b' ∧ ∀ t, seqS (shS S) t = seqS S t := by
  obtain ⟨hd, ring, f⟩ := sh_form ok hb
  have hb' : (shS S).bk = some hd.length := by rw [f.eq]
  refine ⟨_, hb', fun t => ?_⟩
  have a := frm_sky (sh_ok ok) hb'
  have e1 : (shS S).ms.take hd.length = hd := by rw [f.eq]; exact List.take_left' rfl
  have e2 : (shS S).ms.drop hd.length = ring := by rw [f.eq]; exact List.drop_left' rfl
  rw [e1, e2] at a
  exact a.unique f.frm t
/-- a period is one if it is one for a while -/
theorem per_of {S : Sk} (ok : SkOk S) {b : Nat} (hb : S.bk = some b) {h p : Nat} (c : ∀ t, h ≤ t → t < max h b + (S.ms.length - b) → seqS S t = seqS S (t + p)) : Per (seqS S) h p := fun t ht => by
  have bl := ok.bk b hb
  have a := frm_sky ok hb
  have ld : (S.ms.drop b).length = S.ms.length - b := List.length_drop ..
  have lt : (S.ms.take b).length = b := by rw [List.length_take]; omega
  have per := a.per
  rw [ld, lt] at per
  by_cases z : t < max h b + (S.ms.length - b)
  · exact (c t ht z).symm
  · obtain ⟨n, en⟩ : ∃ n, n = t - max h b := ⟨_, rfl⟩
    have hL : 0 < S.ms.length - b := by omega
    have e := Nat.mod_add_div n (S.ms.length - b)
    have ml := Nat.mod_lt n hL
    have m1 := per.mul (n / (S.ms.length - b)) (max h b + n % (S.ms.length - b)) (by omega)
    have m2 := per.mul (n / (S.ms.length - b)) (max h b + n % (S.ms.length - b) + p) (by omega)
    rw [Nat.mul_comm] at m1 m2
    rw [show max h b + n % (S.ms.length - b) + (S.ms.length - b) * (n / (S.ms.length - b)) = t by omega] at m1
    rw [show max h b + n % (S.ms.length - b) + p + (S.ms.length - b) * (n / (S.ms.length - b)) = t + p by omega] at m2
    rw [m1, m2]
    exact (c _ (by omega) (by omega)).symm
theorem fro_ok {S : Sk} (ok : SkOk S) {t j : Nat} (h : momAt S t = some j) : SkOk (froS S j) := by
  have jl := mom_lt ok h
  have m24 := ok.m24
  unfold froS
  cases hb : S.bk with
  | none =>
    refine ⟨ok.h1, ok.h3, ok.r1, ok.r3, ?_, ?_, fun m hm => ok.ms m (List.mem_of_mem_drop hm), fun c hc => nomatch hc⟩
    · show 1 ≤ (S.ms.drop j).length
      rw [List.length_drop]; omega
    · show (S.ms.drop j).length ≤ 24
      rw [List.length_drop]; omega
  | some b =>
    have bl := ok.bk b hb
    show SkOk (if j < b then _ else _)
    by_cases z : j < b
    · rw [if_pos z]
      refine ⟨ok.h1, ok.h3, ok.r1, ok.r3, ?_, ?_, fun m hm => ok.ms m (List.mem_of_mem_drop hm), fun c hc => ?_⟩
      · show 1 ≤ (S.ms.drop j).length
        rw [List.length_drop]; omega
      · show (S.ms.drop j).length ≤ 24
        rw [List.length_drop]; omega
      · have hc : some (b - j) = some c := hc
        cases hc
        show b - j < (S.ms.drop j).length
        rw [List.length_drop]; omega
    · rw [if_neg z]
      have le : (S.ms.drop j ++ (S.ms.drop b).take (j - b)).length = S.ms.length - b := by
        rw [List.length_append, List.length_drop, List.length_take, List.length_drop]; omega
      refine ⟨ok.h1, ok.h3, ok.r1, ok.r3, ?_, ?_, fun m hm => ?_, fun c hc => ?_⟩
      · show 1 ≤ (S.ms.drop j ++ (S.ms.drop b).take (j - b)).length
        rw [le]; omega
      · show (S.ms.drop j ++ (S.ms.drop b).take (j - b)).length ≤ 24
        rw [le]; omega
      · have hm : m ∈ S.ms.drop j ++ (S.ms.drop b).take (j - b) := hm
        rcases List.mem_append.mp hm with h | h
        · exact ok.ms m (List.mem_of_mem_drop h)
        · exact ok.ms m (List.mem_of_mem_drop (List.mem_of_mem_take h))
      · have hc : some 0 = some c := hc
        cases hc
        show 0 < (S.ms.drop j ++ (S.ms.drop b).take (j - b)).length
        rw [le]; omega
/-- the law's own unrolled ticks are the same -/
theorem fro_eq {S : Sk} (ok : SkOk S) {b t j : Nat} (hb : S.bk = some b) (h : momAt S t = some j) : { S with ms := (List.range (b - t + S.ms.length - b)).map fun k => seqS S (t + k), bk := some (b - t) } = froS S j := by
  have bl := ok.bk b hb
  have jl := mom_lt ok h
  unfold froS
  rw [hb]
  show _ = if j < b then _ else _
  by_cases z : j < b
  · have tj : t = j := by
      by_cases y : t < S.ms.length
      · rw [mom_lo y] at h
        exact Option.some.inj h
      · rw [mom_hi hb (by omega)] at h
        have := Option.some.inj h
        omega
    subst tj
    rw [if_pos z]
    have e : ((List.range (b - t + S.ms.length - b)).map fun k => seqS S (t + k)) = S.ms.drop t := by
      refine List.ext_getElem? fun i => ?_
      rw [List.getElem?_drop]
      by_cases y : i < b - t + S.ms.length - b
      · rw [List.getElem?_map, List.getElem?_range y]
        exact (seq_get ok (mom_lo (by omega))).symm
      · rw [List.getElem?_eq_none (by rw [List.length_map, List.length_range]; omega), List.getElem?_eq_none (by omega)]
    rw [e]
  · rw [if_neg z]
    have bt : b ≤ t := by
      by_cases y : t < S.ms.length
      · rw [mom_lo y] at h
        have := Option.some.inj h
        omega
      · omega
    have hj : j = b + (t - b) % (S.ms.length - b) := by
      have := mom_all hb bl (t - b)
      rw [show b + (t - b) = t by omega, h] at this
      exact Option.some.inj this
    have e : ((List.range (b - t + S.ms.length - b)).map fun k => seqS S (t + k)) = S.ms.drop j ++ (S.ms.drop b).take (j - b) := by
      refine List.ext_getElem? fun i => ?_
      have hL : 0 < S.ms.length - b := by omega
      by_cases y : i < S.ms.length - b
      · rw [List.getElem?_map, List.getElem?_range (by omega)]
        have e1 := seq_get ok (mom_all hb bl (t - b + i))
        rw [show b + (t - b + i) = t + i by omega] at e1
        show some (seqS S (t + i)) = _
        rw [← e1, Nat.add_mod, show (t - b) % (S.ms.length - b) = j - b by omega, Nat.mod_eq_of_lt y]
        by_cases w : j - b + i < S.ms.length - b
        · rw [Nat.mod_eq_of_lt w, List.getElem?_append_left (by rw [List.length_drop]; omega), List.getElem?_drop, show b + (j - b + i) = j + i by omega]
        · rw [Nat.mod_eq_sub_mod (by omega), Nat.mod_eq_of_lt (by omega), List.getElem?_append_right (by rw [List.length_drop]; omega), List.length_drop, List.getElem?_take_of_lt (by omega), List.getElem?_drop]
          congr 1
          omega
      · rw [List.getElem?_eq_none (by rw [List.length_map, List.length_range]; omega), List.getElem?_eq_none (by rw [List.length_append, List.length_drop, List.length_take, List.length_drop]; omega)]
    rw [e, show b - t = 0 by omega]
end K10
set_option maxHeartbeats 4000000
namespace K10
open PySem PySem.Spec PyProof.Rows L2 TL TC TD K09
local macro_rules | `(tactic| walk_at "wk") => `(tactic| repeat' (first
  | with_reducible refine wS_seq ?_
  | with_reducible refine wS_if ?_
  | with_reducible refine wS_next ?_
  | with_reducible refine wS_aug rfl ipOk ?_
  | with_reducible refine wT_not ?_
  | with_reducible refine wT_and ?_
  | with_reducible refine wT_or ?_
  | with_reducible refine wT_test ?_
  | with_reducible refine wT_tru ?_
  | with_reducible refine wT_yes ?_
  | with_reducible refine wE_op addOk ?_
  | with_reducible refine wE_op subOk ?_
  | with_reducible refine wE_op mulOk ?_
  | with_reducible refine wE_op modOk ?_
  | with_reducible refine wE_op divOk ?_
  | with_reducible refine wE_op powOk ?_
  | with_reducible refine wE_op ltOk ?_
  | with_reducible refine wE_op leOk ?_
  | with_reducible refine wE_op gtOk ?_
  | with_reducible refine wE_op geOk ?_
  | with_reducible refine wE_op isOk ?_
  | with_reducible refine wE_op isNotOk ?_
  | with_reducible refine wE_op ixOk ?_
  | with_reducible refine wE_un negOk ?_
  | with_reducible refine wE_cb intOk ?_
  | with_reducible refine wE_cb absOk ?_
  | with_reducible refine wE_cb maxOk ?_
  | with_reducible refine wE_cb minOk ?_
  | with_reducible refine wE_cb lenOk ?_
  | with_reducible refine wE_cb sumOk ?_
  | with_reducible refine wE_cb allOk ?_
  | with_reducible refine wE_cb dvmOk ?_
  | with_reducible refine wE_sl ?_
  | with_reducible refine wO_none ?_
  | with_reducible refine wO_some ?_
  | with_reducible refine wE_tup ?_
  | with_reducible refine wE_lstD ?_
  | with_reducible refine wE_listD ?_
  | refine gIxT 0 rfl rfl ?_
  | refine gIxT 1 rfl rfl ?_
  | refine And.intro (sm1000 (Nat.le_of_ble_eq_true rfl)) ?_
  | with_reducible refine wE_if ?_
  | with_reducible refine wE_int ?_
  | with_reducible refine wE_bl ?_
  | with_reducible refine wE_str ?_
  | with_reducible refine wE_non ?_
  | refine wE_x rfl ?_
  | refine wE_v rfl ?_
  | with_reducible refine wA_cons ?_
  | with_reducible refine wA_nil ?_
  | with_reducible refine gAdd ?_
  | with_reducible refine gSub ?_
  | with_reducible refine gMulL (by omega) (by omega) ?_
  | with_reducible refine gMulR (by omega) (by omega) ?_
  | with_reducible refine gMod (by omega) ?_
  | with_reducible refine gDiv (by omega) (by omega) ?_
  | with_reducible refine gPow (by omega) (by omega) (by omega) ?_
  | with_reducible refine gLt ?_
  | with_reducible refine gLe ?_
  | with_reducible refine gGt ?_
  | with_reducible refine gGe ?_
  | with_reducible refine gNeg ?_
  | with_reducible refine gInt ?_
  | with_reducible refine gAbs ?_
  | with_reducible refine gMax ?_
  | with_reducible refine gMin ?_
  | with_reducible refine gLenL ?_
  | with_reducible refine gLenT ?_
  | with_reducible refine gSlL ?_
  | with_reducible refine gSlT ?_
  | (with_reducible intro (_ : V))
  | with_reducible refine Exists.intro _ (And.intro (rfl : T.bl _ = T.bl _) ?_)
  | with_reducible refine Exists.intro _ (And.intro (rfl : T.int _ = T.int _) ?_)
  | with_reducible refine Exists.intro _ (And.intro (rfl : truT (T.bl _) = some _) ?_)))
theorem last_rep {G : Hp} {ts : List T} {vs : List V} {x : T} (r : RepL G ts vs) (hx : ts.getLast? = some x) : ∃ v, vs.getLast? = some v ∧ Rep G x v ∧ atI vs (-1) = some v := by
  rw [List.getLast?_eq_getElem?] at hx
  obtain ⟨v, hv, rv⟩ := r.getT hx
  rw [← r.len, ← List.getLast?_eq_getElem?] at hv
  obtain ⟨ys, rfl⟩ : ∃ ys, vs = ys ++ [v] := List.getLast?_eq_some_iff.mp hv
  exact ⟨v, hv, rv, atI_last ys v⟩
section
variable {K : PySem.W.Frag} {E : WX} {X : XP} {ρ : TL.Env} {te tb : TE} {ta : TA} {Φ : V → T → TL.Env → Prop} {i : Nat} {p : Addr} {us : List T} {P : Post}
/-- the last one of a list of one's own -/
theorem wE_ixOL {x : T} (e : ρ[i]? = some (.o p (· = us))) (hx : us.getLast? = some x) (h : ∀ v, Φ v x ρ) : wE E X (tOp (rIx K) (tVar i) (tUn rNegU (tC (.int 1)))) ρ Φ := fun b G H σ Q S q ke => by
  obtain ⟨_, _, a, _⟩ := S.own i p _ e
  have hu : wE E X (tUn rNegU (tC (.int 1))) ρ fun _ n ρ1 => n = .int (-1) ∧ ρ1 = ρ := wE_un negOk (wE_int (gNeg fun _ => ⟨rfl, rfl⟩))
  refine ⟨_, a, hu b G H σ _ S (fun w n ρ1 G1 H1 ⟨en, eρ⟩ r1 S1 l1 => ?_) ke⟩
  subst en eρ
  obtain ⟨ts, vs, _, hl, ng, nb, r, e1⟩ := S1.own i p _ e
  subst e1
  obtain ⟨v, _, rv, at_⟩ := last_rep r hx
  exact .inl ⟨p, vs, _, v, rfl, r1, SqL.of hl, at_, q _ _ ρ1 G1 H1 (h v) rv S1 l1⟩
/-- x[-1] of data -/
theorem gIxLast {ts : List T} {x : T} {k : T → Prop} (hx : ts.getLast? = some x) (h : k x) : fIx (.lst ts) (.int (-1)) k := by
  obtain ⟨ys, rfl⟩ : ∃ ys, ts = ys ++ [x] := List.getLast?_eq_some_iff.mp hx
  exact ⟨x, atI_last ys x, h⟩
/-- xs != [], xs a list of one's own -/
theorem wE_neNilO (e : ρ[i]? = some (.o p (· = us))) (h : ∀ v, Φ v (.bl (!us.isEmpty)) ρ) : wE E X (tOp (rNeU K) (tVar i) (tLst tNil)) ρ Φ := fun b G H σ Q S q ke => by
  obtain ⟨ts, vs, a, hl, ng, nb, r, e1⟩ := S.own i p _ e
  subst e1
  refine ⟨_, a, by show 0 ≤ sizeLine; exact Nat.zero_le _, fun c hc => .inr (.inr ⟨p, c, vs, rfl, rfl, SqL.of (Le.new hc _ _ hl), SqL.of upd_same, ?_⟩)⟩
  rw [isEmpty_rep r]
  exact q (.bl _) (.bl _) ρ G _ (h _) rfl (S.le (Le.new hc)) Le.rfl
theorem RepL.dropLast {G : Hp} {ts : List T} {vs : List V} (h : RepL G ts vs) : RepL G ts.dropLast vs.dropLast := by
  rw [← List.eraseIdx_length_sub_one, ← List.eraseIdx_length_sub_one, h.len]
  exact h.erase _
/-- xs.pop() -/
theorem wE_popL {x : T} (e : ρ[i]? = some (.o p (· = us))) (hx : us.getLast? = some x) (h : ∀ v, Φ v x (ρ.set i (.o p (· = us.dropLast)))) : wE E X (tBM0 K "list" rPop (tVar i)) ρ Φ := fun b G H σ Q S q ke => by
  obtain ⟨ts, vs, a, hl, ng, nb, r, e1⟩ := S.own i p _ e
  subst e1
  obtain ⟨v, hv, rv, _⟩ := last_rep r hx
  rw [List.getLast?_eq_getElem?] at hv
  refine ⟨_, a, .inl ⟨rfl, _, SqL.of hl⟩, p, vs, v, rfl, rfl, hl, hv, ?_⟩
  exact q v x _ G _ (h v) rv (S.wr (Qd := (· = ts.dropLast)) e (RepL.dropLast r) rfl) Le.rfl
end
theorem pl_mosL {d : Nat} (l : List Mo) : Pl (d + 5) (.lst (l.map moT)) := .lst fun t ht => by
  obtain ⟨m, _, rfl⟩ := List.mem_map.mp ht
  exact pl_mo m
/-- two lists of moments by == -/
theorem gEqM {a b : List Mo} {k : T → Prop} (h : k (.bl (decide (a = b)))) : fEqQ (.lst (a.map moT)) (.lst (b.map moT)) k :=
  ⟨_, eqD_pl (d := 5) (e := 5) (pl_mosL a) (pl_mosL b) (by decide) (by decide) (c := decide (a = b)) (by
    rw [decide_eq_true_eq]
    exact ⟨fun e => by rw [e], fun e => mosT_inj (T.lst.inj e)⟩), h⟩
theorem gEqM1 {a b : Mo} {k : T → Prop} (h : k (.bl (decide (a = b)))) : fEqQ (moT a) (moT b) k :=
  ⟨_, eqD_pl (d := 4) (e := 4) (pl_mo a) (pl_mo b) (by decide) (by decide) (c := decide (a = b)) (by
    rw [decide_eq_true_eq]
    exact ⟨fun e => by rw [e], fun e => moT_inj e⟩), h⟩
theorem r_least_ring {K : PySem.W.Frag} (vs : List V) (H : Hp) (Q : VK) (E : XK) (h : sp_least_ring K vs H Q E) : t_least_ring K E { nx := fun _ H' => Q .non H', rt := Q } (L2.start N_least_ring vs) H := by
  refine run_sP h fun ts hv ⟨l, e, l1, l24⟩ => ?_
  subst e
  obtain ⟨u, rfl⟩ := len1 hv
  show wS _ _ _ [Sl.x u (.lst (l.map moT)), .no] _
  unfold t_least_ring
  have ll : (l.map moT).length = l.length := List.length_map ..
  have fin : ∀ ts, ts = (lring l).map moT → ∀ l0 : List Mo, [T.lst (l.map moT)] = [.lst (l0.map moT)] → T.lst ts = .lst ((lring l0).map moT) := fun ts e l0 e0 => by
    rw [e, mosT_inj (T.lst.inj (List.cons.inj e0).1)]
  have c0 : cand l 0 = false := rfl
  refine wS_seq (wS_for (wI_range2 (wA_cons (wE_int (wA_cons (wE_cb lenOk (wA_cons (wE_x rfl (wA_nil (gLenL fun _ => wA_nil ⟨_, _, rfl, ⟨by omega, by omega, by omega, by omega⟩, fun i ρ => (∀ j, j < i + 1 → cand l j = false) ∧ ∃ s1, ρ = [Sl.x u (.lst (l.map moT)), s1], ⟨fun j hj => by rw [show j = 0 by omega]; exact c0, _, rfl⟩, fun i x ρ2 v hx ⟨hno, s1, e⟩ => ?_, fun ρ2 ⟨hno, s1, e⟩ => ?_⟩))))))))))
  · subst e
    obtain ⟨e, il⟩ := rngT_get hx
    subst e
    rw [show ((1 : Int) + (i : Nat)) = ((i + 1 : Nat) : Int) by omega]
    obtain ⟨m, em⟩ : ∃ m, m = i + 1 := ⟨_, rfl⟩
    rw [← em]
    rw [ll] at il
    have m1 : 1 ≤ m := by omega
    have ml : m < l.length := by omega
    refine wG_name ?_
    show wS _ _ _ [Sl.x u (.lst (l.map moT)), .v (.int m)] _
    have next : cand l m = false → (∀ j, j < m + 1 → cand l j = false) ∧ ∃ s1, [Sl.x u (.lst (l.map moT)), .v (.int m)] = [Sl.x u (.lst (l.map moT)), s1] := fun c => ⟨fun j hj => by
      by_cases z : j < i + 1
      · exact hno j z
      · rw [show j = m by omega]; exact c, _, rfl⟩
    refine wS_if (wT_and (wT_test (wE_op eqQOk (wE_op modOk (wE_cb lenOk (wA_cons (wE_x rfl (wA_nil (gLenL fun _ => wE_v rfl fun _ => gMod (by omega) fun _ => wE_int (gEqI fun _ => ⟨_, rfl, ite_c (fun z => ?_) fun z => ?_⟩))))))))))
    · have z := of_decide_eq_true z
      have hz : l.length % m = 0 := by rw [ll] at z; omega
      refine wT_test (wE_op eqQOk (wE_x rfl (wE_op mulOk (wE_sl (wE_x rfl (wO_none (wO_some (wE_v rfl fun _ => ⟨_, rfl, gSlL fun _ => wE_op divOk (wE_cb lenOk (wA_cons (wE_x rfl (wA_nil (gLenL fun _ => wE_v rfl fun _ => gDiv (by omega) (by omega) fun _ => ?_)))))⟩))))))))
      rw [cut_to, ← List.map_take, ll, show ((l.length : Int) / (m : Int)) = ((l.length / m : Nat) : Int) from rfl]
      have kl : l.length / m ≤ l.length := Nat.div_le_self ..
      have hk : l.length / m * m = l.length := Nat.div_mul_cancel (Nat.dvd_of_mod_eq_zero hz)
      obtain ⟨kd, ekd⟩ : ∃ kd, kd = l.length / m := ⟨_, rfl⟩
      rw [← ekd] at kl hk ⊢
      have lt : (l.take m).length = m := by rw [List.length_take]; omega
      refine ⟨by omega, by omega, ?_, fun _ => ?_⟩
      · rw [List.length_map, lt, Int.toNat_natCast, Nat.mul_comm, hk]
        exact sm1000 (by omega)
      rw [Int.toNat_natCast, ← List.map_replicate, ← List.map_flatten, ekd]
      refine gEqM fun _ => ⟨_, rfl, ite_c (fun y => ?_) fun y => wS_next (next ?_)⟩
      · have c : cand l m = true := by
          unfold cand
          rw [decide_eq_true m1, decide_eq_true hz, y]
          rfl
        refine wS_ret (wE_sl (wE_x rfl (wO_none (wO_some (wE_v rfl fun _ => ⟨_, rfl, gSlL fun _ => fin _ ?_⟩)))))
        rw [cut_to, ← List.map_take]
        unfold lring
        rw [lper_hit ml c fun j hj => hno j (by omega)]
      · unfold cand
        rw [y, Bool.and_false, Bool.and_false]
    · have z := of_decide_eq_false z
      refine wS_next (next ?_)
      unfold cand
      rw [decide_eq_false (show ¬ l.length % m = 0 from fun e => z (by rw [ll]; omega)), Bool.false_and, Bool.and_false]
  · subst e
    refine wS_ret (wE_x rfl (fin _ ?_))
    unfold lring
    rw [rngT_len] at hno
    rw [lper_end fun j hj => hno j (by rw [ll]; omega), List.take_length]
end K10
set_option maxHeartbeats 4000000
namespace K10
open PySem PySem.Spec PyProof.Rows L2 TL TC TD K09
local macro_rules | `(tactic| walk_at "wk") => `(tactic| repeat' (first
  | with_reducible refine wS_seq ?_
  | with_reducible refine wS_if ?_
  | with_reducible refine wS_next ?_
  | with_reducible refine wS_aug rfl ipOk ?_
  | with_reducible refine wT_not ?_
  | with_reducible refine wT_and ?_
  | with_reducible refine wT_or ?_
  | with_reducible refine wT_test ?_
  | with_reducible refine wT_tru ?_
  | with_reducible refine wT_yes ?_
  | with_reducible refine wE_op addOk ?_
  | with_reducible refine wE_op subOk ?_
  | with_reducible refine wE_op mulOk ?_
  | with_reducible refine wE_op modOk ?_
  | with_reducible refine wE_op divOk ?_
  | with_reducible refine wE_op powOk ?_
  | with_reducible refine wE_op ltOk ?_
  | with_reducible refine wE_op leOk ?_
  | with_reducible refine wE_op gtOk ?_
  | with_reducible refine wE_op geOk ?_
  | with_reducible refine wE_op isOk ?_
  | with_reducible refine wE_op isNotOk ?_
  | with_reducible refine wE_op ixOk ?_
  | with_reducible refine wE_un negOk ?_
  | with_reducible refine wE_cb intOk ?_
  | with_reducible refine wE_cb absOk ?_
  | with_reducible refine wE_cb maxOk ?_
  | with_reducible refine wE_cb minOk ?_
  | with_reducible refine wE_cb lenOk ?_
  | with_reducible refine wE_cb sumOk ?_
  | with_reducible refine wE_cb allOk ?_
  | with_reducible refine wE_cb dvmOk ?_
  | with_reducible refine wE_sl ?_
  | with_reducible refine wO_none ?_
  | with_reducible refine wO_some ?_
  | with_reducible refine wE_tup ?_
  | with_reducible refine wE_lstD ?_
  | with_reducible refine wE_listD ?_
  | refine gIxT 0 rfl rfl ?_
  | refine gIxT 1 rfl rfl ?_
  | refine And.intro (sm1000 (Nat.le_of_ble_eq_true rfl)) ?_
  | with_reducible refine wE_if ?_
  | with_reducible refine wE_int ?_
  | with_reducible refine wE_bl ?_
  | with_reducible refine wE_str ?_
  | with_reducible refine wE_non ?_
  | refine wE_x rfl ?_
  | refine wE_v rfl ?_
  | with_reducible refine wA_cons ?_
  | with_reducible refine wA_nil ?_
  | with_reducible refine gAdd ?_
  | with_reducible refine gSub ?_
  | with_reducible refine gMulL (by omega) (by omega) ?_
  | with_reducible refine gMulR (by omega) (by omega) ?_
  | with_reducible refine gMod (by omega) ?_
  | with_reducible refine gDiv (by omega) (by omega) ?_
  | with_reducible refine gPow (by omega) (by omega) (by omega) ?_
  | with_reducible refine gLt ?_
  | with_reducible refine gLe ?_
  | with_reducible refine gGt ?_
  | with_reducible refine gGe ?_
  | with_reducible refine gNeg ?_
  | with_reducible refine gInt ?_
  | with_reducible refine gAbs ?_
  | with_reducible refine gMax ?_
  | with_reducible refine gMin ?_
  | with_reducible refine gLenL ?_
  | with_reducible refine gLenT ?_
  | with_reducible refine gSlL ?_
  | with_reducible refine gSlT ?_
  | (with_reducible intro (_ : V))
  | with_reducible refine Exists.intro _ (And.intro (rfl : T.bl _ = T.bl _) ?_)
  | with_reducible refine Exists.intro _ (And.intro (rfl : T.int _ = T.int _) ?_)
  | with_reducible refine Exists.intro _ (And.intro (rfl : truT (T.bl _) = some _) ?_)))
theorem cut_last {α : Type} (l : List α) : cutT l none (some (-1)) = l.dropLast := by
  unfold cutT
  rw [List.dropLast_eq_take]
  show (l.drop 0).take ((if (-1 : Int) < 0 then ((-1 : Int) + (l.length : Int)).toNat else min (-1 : Int).toNat l.length) - 0) = _
  rw [if_pos (by decide), List.drop_zero]
  congr 1
  omega
theorem shS_some {S : Sk} {b : Nat} (hb : S.bk = some b) : shS S = { S with ms := (roll (S.ms.take b).reverse (lring (S.ms.drop b))).1.reverse ++ (roll (S.ms.take b).reverse (lring (S.ms.drop b))).2, bk := some (roll (S.ms.take b).reverse (lring (S.ms.drop b))).1.length } := by
  unfold shS
  rw [hb]
theorem r_shortest_of {K : PySem.W.Frag} (vs : List V) (H : Hp) (Q : VK) (E : XK) (h : sp_shortest_of K vs H Q E) : t_shortest_of K E { nx := fun _ H' => Q .non H', rt := Q } (L2.start N_shortest_of vs) H := by
  refine run_sP h fun ts hv ⟨S, e, ok⟩ => ?_
  subst e
  obtain ⟨u0, u1, u2, u3, rfl⟩   := K09.len4 (show vs.length = 4 from hv)
  show wS _ _ _ [Sl.x u0 (.int (S.h : Nat)), .x u1 (.int (S.r : Nat)), .x u2 (.tup (S.ms.map moT)), .x u3 (optN S.bk), .no, .no] _
  unfold t_shortest_of
  have m24 := ok.m24
  have fin : ∀ S', S' = shS S → ∀ S0, skZ S = skZ S0 → skT K S' = skT K (shS S0) := fun S' e S0 e0 => by
    have : S = S0 := skT_inj (K := K) (show skT K S = skT K S0 by unfold skT; rw [e0])
    rw [e, this]
  refine wS_seq (wS_if (wT_test (wE_op isOk (wE_x rfl (wE_non ⟨notRaw_opt _, fun _ => ⟨_, rfl, ?_⟩⟩)))))
  cases hb : S.bk with
  | none =>
    refine ite_t (wS_ret (wE_mkS (wA_cons (wE_x rfl (wA_cons (wE_x rfl (wA_cons (wE_x rfl (wA_cons (wE_non (wA_nil ⟨S, _, by rw [hb]; rfl, .inr rfl, ok, fun _ => fin _ ?_⟩)))))))))))
    unfold shS
    rw [hb]
  | some b =>
    have bl := ok.bk b hb
    refine ite_f (wS_next ?_)
    show wS _ _ _ [Sl.x u0 (.int (S.h : Nat)), .x u1 (.int (S.r : Nat)), .x u2 (.tup (S.ms.map moT)), .x u3 (.int (b : Nat)), .no, .no] _
    refine wS_seq (wS_parF (wF_list (wA_cons (wE_sl (wE_x rfl (wO_none (wO_some (wE_x rfl ⟨_, rfl, gSlT fun _ => wA_nil ⟨_, .inr rfl, ?_⟩⟩))))))))
    have ld : (S.ms.drop b).length = S.ms.length - b := List.length_drop ..
    refine wE_callV (wA_cons (wE_listD (wA_cons (wE_sl (wE_x rfl (wO_some (wE_x rfl ⟨_, rfl, wO_none (gSlT fun _ => wA_nil ⟨_, .inr rfl, fun _ => wA_nil ⟨⟨S.ms.drop b, ?_, by omega, by omega⟩, ⟨_, fun t po => po (S.ms.drop b) ?_, fun _ => ⟨rfl, fun p => ?_⟩⟩, fun er z => z.elim⟩⟩)⟩)))))))
    · rw [cut_from, List.map_drop]
    · rw [cut_from, List.map_drop]
    rw [cut_to, ← List.map_take]
    have l1 : 1 ≤ (S.ms.drop b).length := by omega
    have rl := lring_len l1
    obtain ⟨c1, c2, _, _⟩ := lper_cases l1
    show wS _ _ _ [Sl.x u0 (.int (S.h : Nat)), .x u1 (.int (S.r : Nat)), .x u2 (.tup (S.ms.map moT)), .x u3 (.int (b : Nat)), .o p (· = (S.ms.take b).map moT), .v (.lst ((lring (S.ms.drop b)).map moT))] _
    refine wS_seq (wS_while (fun m ρ => ∃ hd ring : List Mo, m = hd.length ∧ hd.length ≤ b ∧ 1 ≤ ring.length ∧ ring.length ≤ 24 ∧ roll hd ring = roll (S.ms.take b).reverse (lring (S.ms.drop b)) ∧ ρ = [Sl.x u0 (.int (S.h : Nat)), .x u1 (.int (S.r : Nat)), .x u2 (.tup (S.ms.map moT)), .x u3 (.int (b : Nat)), .o p (· = hd.reverse.map moT), .v (.lst (ring.map moT))]) (S.ms.take b).reverse.length ⟨_, _, rfl, ?_, by omega, by omega, rfl, by rw [List.reverse_reverse]⟩ fun m ρ1 ⟨hd, ring, em, hl, g1, g24, er, e⟩ => ?_)
    · rw [List.length_reverse, List.length_take]; omega
    subst e
    have done : roll hd ring = (hd, ring) → wS (WD E) (fun er _ => noX [u0, u1, u2, u3] (skZ S) er) (tRet (tMakeS (He.ga K "Sky") (sp_Sky_init K) (WE (WD E)) (tCons (tVar 0) (tCons (tVar 1) (tCons (tOp (rAddU K) (tVar 4) (tVar 5)) (tCons (tCB (rLenU K) (tCons (tVar 4) tNil)) tNil))))))
        [Sl.x u0 (.int (S.h : Nat)), .x u1 (.int (S.r : Nat)), .x u2 (.tup (S.ms.map moT)), .x u3 (.int (b : Nat)), .o p (· = hd.reverse.map moT), .v (.lst (ring.map moT))] { rt := fun t _ => ∀ S0, skZ S = skZ S0 → t = skT K (shS S0), nx := fun _ => ∀ S0, skZ S = skZ S0 → T.non = skT K (shS S0), rf := fun us _ => ∀ S0, skZ S = skZ S0 → T.lst us = skT K (shS S0) } := fun d => by
      have eS : shS S = { S with ms := hd.reverse ++ ring, bk := some hd.length } := by
        rw [shS_some hb, ← er, d]
      have oS := sh_ok ok
      have l24 : hd.reverse.length ≤ 24 := by rw [List.length_reverse]; omega
      refine wS_ret (wE_mkS (wA_cons (wE_x rfl (wA_cons (wE_x rfl (wA_cons (wE_op addOk (wE_o (i := 4) rfl fun ts et => wE_v rfl fun _ => ?_))))))))
      subst et
      refine gAddL (by rw [List.length_map, List.length_map]; omega) fun _ => wA_cons (wE_cb lenOk (wA_cons (wE_v rfl fun _ => wA_nil (gLenL fun _ => wA_nil ⟨shS S, _, ?_, .inl rfl, oS, fun _ => fin _ rfl⟩))))
      rw [eS, List.length_map, List.length_reverse]
      show _ = [_, _, T.lst ((hd.reverse ++ ring).map moT), _]
      rw [List.map_append]
      rfl
    cases hd with
    | nil => exact wT_and (wT_test (wE_neNilO rfl fun _ => ⟨_, rfl, ite_f (done rfl)⟩))
    | cons m0 hd =>
      have hlast : ((m0 :: hd).reverse.map moT).getLast? = some (moT m0) := by rw [List.reverse_cons, List.map_append]; exact List.getLast?_concat
      have hrev : ((m0 :: hd).reverse.map moT).isEmpty = false := by
        rw [List.isEmpty_map, List.reverse_cons]
        cases hd.reverse <;> rfl
      obtain ⟨m1, hm1⟩ : ∃ m1, ring.getLast? = some m1 := by
        cases z : ring.getLast? with
        | none => rw [List.getLast?_eq_none_iff.mp z] at g1; exact absurd g1 (by decide)
        | some m1 => exact ⟨m1, rfl⟩
      have hr : (ring.map moT).getLast? = some (moT m1) := by rw [List.getLast?_map, hm1]; rfl
      refine wT_and (wT_test (wE_neNilO rfl fun _ => ⟨_, rfl, ?_⟩))
      rw [hrev]
      refine ite_t (wT_test (wE_op eqQOk (wE_ixOL rfl hlast fun _ => wE_op ixOk (wE_v rfl fun _ => wE_un negOk (wE_int (gNeg fun _ => gIxLast hr fun _ => gEqM1 fun _ => ⟨_, rfl, ite_c (fun z => ?_) fun z => done ?_⟩))))))
      · have z := of_decide_eq_true z
        subst z
        refine wS_set (wE_op addOk (wE_lstD (wA_cons (wE_popL (i := 4) rfl hlast fun _ => wA_nil ⟨by show 1 ≤ sizeLine; decide, fun _ => wE_sl (wE_v rfl fun _ => wO_none (wO_some (wE_un negOk (wE_int (gNeg fun _ => ⟨_, rfl, gSlL fun _ => ?_⟩)))))⟩))))
        rw [cut_last]
        refine gAddL (by rw [List.length_dropLast, List.length_map]; show 1 + _ ≤ 1000; omega) fun _ => ⟨hd.length, ?_, hd, m0 :: ring.dropLast, rfl, ?_, ?_, ?_, ?_, ?_⟩
        · rw [em, List.length_cons]; omega
        · rw [List.length_cons] at hl; omega
        · rw [List.length_cons]; omega
        · rw [List.length_cons, List.length_dropLast]; omega
        · rw [← er]
          show _ = if ring.getLast? = some m0 then _ else _
          rw [if_pos hm1]
        · have e1 : ((m0 :: hd).reverse.map moT).dropLast = hd.reverse.map moT := by rw [List.reverse_cons, List.map_append]; exact List.dropLast_concat
          rw [e1]
          show _ = [_, _, _, _, _, Sl.v (.lst (moT m0 :: (ring.dropLast).map moT))]
          rw [List.map_dropLast]
          rfl
      · have z := of_decide_eq_false z
        unfold roll
        rw [if_neg (fun e => z (by rw [hm1] at e; exact (Option.some.inj e).symm))]
theorem r_shortest_sky {K : PySem.W.Frag} (Z : SkyK K) (vs : List V) (H : Hp) (Q : VK) (E : XK) (h : sp_shortest_sky K vs H Q E) : t_shortest_sky K E { nx := fun _ H' => Q .non H', rt := Q } (L2.start N_shortest_sky vs) H := by
  refine run_sP h fun ts hv ⟨S, e, ok⟩ => ?_
  subst e
  obtain ⟨u, rfl⟩ := len1 hv
  show wS _ _ _ [Sl.x u (skT K S)] _
  unfold t_shortest_sky
  refine wS_ret (wE_callV (wA_cons (wE_sh Z (wE_x rfl ⟨S, rfl, fun _ => wA_cons (wE_sr Z (wE_x rfl ⟨S, rfl, fun _ => wA_cons (wE_sm Z (wE_x rfl ⟨S, rfl, fun _ => wA_cons (wE_sb Z (wE_x rfl ⟨S, rfl, fun _ => wA_nil ⟨⟨S, rfl, ok⟩, ⟨_, fun t po => po S rfl, fun _ S0 e0 => ?_⟩, fun er z => z.elim⟩⟩))⟩))⟩))⟩))))
  rw [skT_inj (List.cons.inj e0).1]
end K10
set_option maxHeartbeats 4000000
namespace K10
open PySem PySem.Spec PyProof.Rows L2 TL TC TD K09
local macro_rules | `(tactic| walk_at "wk") => `(tactic| repeat' (first
  | with_reducible refine wS_seq ?_
  | with_reducible refine wS_if ?_
  | with_reducible refine wS_next ?_
  | with_reducible refine wS_aug rfl ipOk ?_
  | with_reducible refine wT_not ?_
  | with_reducible refine wT_and ?_
  | with_reducible refine wT_or ?_
  | with_reducible refine wT_test ?_
  | with_reducible refine wT_tru ?_
  | with_reducible refine wT_yes ?_
  | with_reducible refine wE_op addOk ?_
  | with_reducible refine wE_op subOk ?_
  | with_reducible refine wE_op mulOk ?_
  | with_reducible refine wE_op modOk ?_
  | with_reducible refine wE_op divOk ?_
  | with_reducible refine wE_op powOk ?_
  | with_reducible refine wE_op ltOk ?_
  | with_reducible refine wE_op leOk ?_
  | with_reducible refine wE_op gtOk ?_
  | with_reducible refine wE_op geOk ?_
  | with_reducible refine wE_op isOk ?_
  | with_reducible refine wE_op isNotOk ?_
  | with_reducible refine wE_op ixOk ?_
  | with_reducible refine wE_un negOk ?_
  | with_reducible refine wE_cb intOk ?_
  | with_reducible refine wE_cb absOk ?_
  | with_reducible refine wE_cb maxOk ?_
  | with_reducible refine wE_cb minOk ?_
  | with_reducible refine wE_cb lenOk ?_
  | with_reducible refine wE_cb sumOk ?_
  | with_reducible refine wE_cb allOk ?_
  | with_reducible refine wE_cb dvmOk ?_
  | with_reducible refine wE_sl ?_
  | with_reducible refine wO_none ?_
  | with_reducible refine wO_some ?_
  | with_reducible refine wE_tup ?_
  | with_reducible refine wE_lstD ?_
  | with_reducible refine wE_listD ?_
  | refine gIxT 0 rfl rfl ?_
  | refine gIxT 1 rfl rfl ?_
  | refine And.intro (sm1000 (Nat.le_of_ble_eq_true rfl)) ?_
  | with_reducible refine wE_if ?_
  | with_reducible refine wE_int ?_
  | with_reducible refine wE_bl ?_
  | with_reducible refine wE_str ?_
  | with_reducible refine wE_non ?_
  | refine wE_x rfl ?_
  | refine wE_v rfl ?_
  | with_reducible refine wA_cons ?_
  | with_reducible refine wA_nil ?_
  | with_reducible refine gAdd ?_
  | with_reducible refine gSub ?_
  | with_reducible refine gMulL (by omega) (by omega) ?_
  | with_reducible refine gMulR (by omega) (by omega) ?_
  | with_reducible refine gMod (by omega) ?_
  | with_reducible refine gDiv (by omega) (by omega) ?_
  | with_reducible refine gPow (by omega) (by omega) (by omega) ?_
  | with_reducible refine gLt ?_
  | with_reducible refine gLe ?_
  | with_reducible refine gGt ?_
  | with_reducible refine gGe ?_
  | with_reducible refine gNeg ?_
  | with_reducible refine gInt ?_
  | with_reducible refine gAbs ?_
  | with_reducible refine gMax ?_
  | with_reducible refine gMin ?_
  | with_reducible refine gLenL ?_
  | with_reducible refine gLenT ?_
  | with_reducible refine gSlL ?_
  | with_reducible refine gSlT ?_
  | (with_reducible intro (_ : V))
  | with_reducible refine Exists.intro _ (And.intro (rfl : T.bl _ = T.bl _) ?_)
  | with_reducible refine Exists.intro _ (And.intro (rfl : T.int _ = T.int _) ?_)
  | with_reducible refine Exists.intro _ (And.intro (rfl : truT (T.bl _) = some _) ?_)))
section
variable {E : WX} {X : XP} {ρ : TL.Env} {te : TE} {Φ : V → T → TL.Env → Prop}
/-- a whole number, its value too -/
theorem wE_vi (h : wE E X te ρ fun _ x ρ1 => ∃ n : Int, x = .int n ∧ Φ (.int n) (.int n) ρ1) : wE E X te ρ Φ := fun b G H σ Q S q ke => by
  refine h b G H σ Q S (fun v x ρ' G' H' ⟨n, e, p⟩ r S' l => ?_) ke
  subst e
  cases r
  exact q _ _ ρ' G' H' p rfl S' l
end
theorem sk_one {K : PySem.W.Frag} {S S0 : Sk} {ts ts0 : List T} (e : skT K S :: ts = skT K S0 :: ts0) : S = S0 ∧ ts = ts0 := by
  rw [List.cons.injEq] at e
  exact ⟨skT_inj e.1, e.2⟩
theorem cut_mid {α : Type} (l : List α) {b j : Nat} (h1 : b ≤ j) (h2 : j ≤ l.length) : cutT l (some (b : Int)) (some (j : Int)) = (l.drop b).take (j - b) := by
  unfold cutT
  rw [HT.sIx_nat, HT.sIx_nat, Nat.min_eq_left h2, Nat.min_eq_left (show b ≤ l.length by omega)]
theorem r_later_sky {K : PySem.W.Frag} (Z : SkyK K) (vs : List V) (H : Hp) (Q : VK) (E : XK) (h : sp_later_sky K vs H Q E) : t_later_sky K E { nx := fun _ H' => Q .non H', rt := Q } (L2.start N_later_sky vs) H := by
  refine run_sP h fun ts hv ⟨S, x, e, ok, ox⟩ => ?_
  subst e
  obtain ⟨u, u1, rfl⟩ := len2 hv
  show wS _ _ _ [Sl.x u (skT K S), .x u1 x, .no, .no] _
  unfold t_later_sky
  refine wS_seq (wS_drop (wE_call (wA_cons (wE_x rfl (wA_nil ⟨⟨x, rfl, ox⟩, fun t v ⟨_, hx⟩ => ?_, fun er ⟨y, w, e, ew, hb, he⟩ => ?_⟩)))))
  · have hb := hx x rfl
    obtain ⟨i, rfl, h0, h1⟩ := K09.btw_int hb
    obtain ⟨n, rfl⟩ : ∃ n : Nat, i = (n : Int) := ⟨i.toNat, by omega⟩
    have eo : laO S (.int (n : Int)) = (match momAt S n with | none => .ended S.ms.length | some j => .told (shS (froS S j))) := by
      unfold laO
      rw [if_pos hb, show natOf (.int (n : Int)) = n from Int.toNat_natCast n]
      all_goals cases momAt S n <;> rfl
    refine wS_seq (wS_par (wA_cons (wE_callV (wA_cons (wE_x rfl (wA_cons (wE_x rfl (wA_nil ⟨⟨S, n, rfl, ok, h1⟩, ⟨_, fun t ht => ht S n rfl, fun _ => wA_cons (wE_sb Z (wE_x rfl ⟨S, rfl, fun _ => wA_nil ⟨_, _, rfl, ?_⟩⟩))⟩, fun er z => z.elim⟩))))))))
    show wS _ _ _ [Sl.x u (skT K S), .x u1 (.int n), .v (optN (momAt S n)), .v (optN S.bk)] _
    refine wS_seq (wS_if (wT_test (wE_op isOk (wE_v rfl fun _ => wE_non ⟨notRaw_opt _, fun _ => ⟨_, rfl, ?_⟩⟩))))
    cases ej : momAt S n with
    | none =>
      rw [ej] at eo
      refine ite_t (wS_raise (wA_cons (wE_vi (wE_cb lenOk (wA_cons (wE_sm Z (wE_x rfl ⟨S, rfl, fun _ => wA_nil (gLenT fun _ => ⟨_, rfl, wA_nil ⟨rfl, by decide, S, .int n, u, u1, rfl, rfl, ?_⟩⟩)⟩)))))))
      rw [eo, List.length_map]
      rfl
    | some j =>
      rw [ej] at eo
      have jl := mom_lt ok ej
      have fok := fro_ok ok ej
      have fin : ∀ t, t = skT K (shS (froS S j)) → ∀ S0 x0, [skT K S, T.int (n : Int)] = [skT K S0, x0] → ∃ S', laO S0 x0 = .told S' ∧ t = skT K S' := fun t e S0 x0 e0 => by
        obtain ⟨rfl, e2⟩ := sk_one e0
        rw [List.cons.injEq] at e2
        rw [← e2.1]
        exact ⟨_, eo, e⟩
      refine ite_f (wS_next ?_)
      refine wS_seq (wS_if (wT_or (wT_test (wE_op isOk (wE_v rfl fun _ => wE_non ⟨notRaw_opt _, fun _ => ⟨_, rfl, ?_⟩⟩)))))
      cases eb : S.bk with
      | none =>
        have ef : skZ (froS S j) = [T.int (S.h : Nat), .int (S.r : Nat), .tup ((S.ms.drop j).map moT), .non] := by unfold froS; rw [eb]; rfl
        refine ite_t (ite_t (wS_ret (wE_callV (wA_cons (wE_sh Z (wE_x rfl ⟨S, rfl, fun _ => wA_cons (wE_sr Z (wE_x rfl ⟨S, rfl, fun _ => wA_cons (wE_sl (wE_sm Z (wE_x rfl ⟨S, rfl, fun _ => wO_some (wE_v rfl fun _ => ⟨_, rfl, wO_none (gSlT fun _ => wA_cons (wE_if (wT_test (wE_op isOk (wE_v rfl fun _ => wE_non ⟨trivial, fun _ => ⟨_, rfl, ite_t (wE_non (wA_nil ⟨⟨froS S j, ?_, fok⟩, ⟨_, fun t po => po (froS S j) ?_, fun _ => fin _ rfl⟩, fun er z => z.elim⟩))⟩⟩)))))⟩)⟩)))⟩))⟩))))))
        · rw [ef, cut_from, ← List.map_drop]
        · rw [ef, cut_from, ← List.map_drop]
      | some b =>
        have bl := ok.bk b eb
        refine ite_f (wT_test (wE_op ltOk (wE_v rfl fun _ => wE_v rfl fun _ => gLt fun _ => ⟨_, rfl, ite_c (fun z => ?_) fun z => wS_next ?_⟩)))
        · have z := of_decide_eq_true z
          have ef : skZ (froS S j) = [T.int (S.h : Nat), .int (S.r : Nat), .tup ((S.ms.drop j).map moT), .int ((b : Int) - j)] := by
            unfold froS
            rw [eb]
            show skZ (if j < b then _ else _) = _
            rw [if_pos (by omega)]
            show [_, _, _, T.int ((b - j : Nat) : Int)] = _
            rw [show ((b - j : Nat) : Int) = (b : Int) - j by omega]
          refine wS_ret (wE_callV (wA_cons (wE_sh Z (wE_x rfl ⟨S, rfl, fun _ => wA_cons (wE_sr Z (wE_x rfl ⟨S, rfl, fun _ => wA_cons (wE_sl (wE_sm Z (wE_x rfl ⟨S, rfl, fun _ => wO_some (wE_v rfl fun _ => ⟨_, rfl, wO_none (gSlT fun _ => wA_cons (wE_if (wT_test (wE_op isOk (wE_v rfl fun _ => wE_non ⟨trivial, fun _ => ⟨_, rfl, ite_f (wE_op subOk (wE_v rfl fun _ => wE_v rfl fun _ => gSub fun _ => wA_nil ⟨⟨froS S j, ?_, fok⟩, ⟨_, fun t po => po (froS S j) ?_, fun _ => fin _ rfl⟩, fun er z => z.elim⟩))⟩⟩)))))⟩)⟩)))⟩))⟩))))
          · rw [ef, cut_from, ← List.map_drop]
          · rw [ef, cut_from, ← List.map_drop]
        · have z := of_decide_eq_false z
          have ef : skZ (froS S j) = [T.int (S.h : Nat), .int (S.r : Nat), .tup ((S.ms.drop j).map moT ++ ((S.ms.drop b).take (j - b)).map moT), .int 0] := by
            unfold froS
            rw [eb]
            show skZ (if j < b then _ else _) = _
            rw [if_neg (by omega)]
            show [_, _, T.tup ((S.ms.drop j ++ (S.ms.drop b).take (j - b)).map moT), _] = _
            rw [List.map_append]
            rfl
          have m24 := ok.m24
          refine wS_ret (wE_callV (wA_cons (wE_sh Z (wE_x rfl ⟨S, rfl, fun _ => wA_cons (wE_sr Z (wE_x rfl ⟨S, rfl, fun _ => wA_cons (wE_op addOk (wE_sl (wE_sm Z (wE_x rfl ⟨S, rfl, fun _ => wO_some (wE_v rfl fun _ => ⟨_, rfl, wO_none (gSlT fun _ => wE_sl (wE_sm Z (wE_x rfl ⟨S, rfl, fun _ => wO_some (wE_v rfl fun _ => ⟨_, rfl, wO_some (wE_v rfl fun _ => ⟨_, rfl, gSlT fun _ => ?_⟩)⟩)⟩)))⟩)⟩))))⟩))⟩))))
          rw [cut_from, cut_mid _ (by omega) (by rw [List.length_map]; omega), ← List.map_drop, ← List.map_drop, ← List.map_take]
          refine gAddT (by rw [List.length_map, List.length_map, List.length_drop, List.length_take]; omega) fun _ => wA_cons (wE_int (wA_nil ⟨⟨froS S j, ef.symm, fok⟩, ⟨_, fun t po => po (froS S j) ef.symm, fun _ => fin _ rfl⟩, fun er z => z.elim⟩))
  · cases e
    cases ew
    refine ⟨S, x, u, u1, rfl, rfl, ?_⟩
    unfold laO
    rw [if_neg (by rw [hb]; exact fun z => nomatch z)]
    exact he
end K10
set_option maxHeartbeats 4000000
namespace K10
open PySem PySem.Spec PyProof.Rows L2 TL TC TD K09
local macro_rules | `(tactic| walk_at "wk") => `(tactic| repeat' (first
  | with_reducible refine wS_seq ?_
  | with_reducible refine wS_if ?_
  | with_reducible refine wS_next ?_
  | with_reducible refine wS_aug rfl ipOk ?_
  | with_reducible refine wT_not ?_
  | with_reducible refine wT_and ?_
  | with_reducible refine wT_or ?_
  | with_reducible refine wT_test ?_
  | with_reducible refine wT_tru ?_
  | with_reducible refine wT_yes ?_
  | with_reducible refine wE_op addOk ?_
  | with_reducible refine wE_op subOk ?_
  | with_reducible refine wE_op mulOk ?_
  | with_reducible refine wE_op modOk ?_
  | with_reducible refine wE_op divOk ?_
  | with_reducible refine wE_op powOk ?_
  | with_reducible refine wE_op ltOk ?_
  | with_reducible refine wE_op leOk ?_
  | with_reducible refine wE_op gtOk ?_
  | with_reducible refine wE_op geOk ?_
  | with_reducible refine wE_op isOk ?_
  | with_reducible refine wE_op isNotOk ?_
  | with_reducible refine wE_op ixOk ?_
  | with_reducible refine wE_un negOk ?_
  | with_reducible refine wE_cb intOk ?_
  | with_reducible refine wE_cb absOk ?_
  | with_reducible refine wE_cb maxOk ?_
  | with_reducible refine wE_cb minOk ?_
  | with_reducible refine wE_cb lenOk ?_
  | with_reducible refine wE_cb sumOk ?_
  | with_reducible refine wE_cb allOk ?_
  | with_reducible refine wE_cb dvmOk ?_
  | with_reducible refine wE_sl ?_
  | with_reducible refine wO_none ?_
  | with_reducible refine wO_some ?_
  | with_reducible refine wE_tup ?_
  | with_reducible refine wE_lstD ?_
  | with_reducible refine wE_listD ?_
  | refine gIxT 0 rfl rfl ?_
  | refine gIxT 1 rfl rfl ?_
  | refine And.intro (sm1000 (Nat.le_of_ble_eq_true rfl)) ?_
  | with_reducible refine wE_if ?_
  | with_reducible refine wE_int ?_
  | with_reducible refine wE_bl ?_
  | with_reducible refine wE_str ?_
  | with_reducible refine wE_non ?_
  | refine wE_x rfl ?_
  | refine wE_v rfl ?_
  | with_reducible refine wA_cons ?_
  | with_reducible refine wA_nil ?_
  | with_reducible refine gAdd ?_
  | with_reducible refine gSub ?_
  | with_reducible refine gMulL (by omega) (by omega) ?_
  | with_reducible refine gMulR (by omega) (by omega) ?_
  | with_reducible refine gMod (by omega) ?_
  | with_reducible refine gDiv (by omega) (by omega) ?_
  | with_reducible refine gPow (by omega) (by omega) (by omega) ?_
  | with_reducible refine gLt ?_
  | with_reducible refine gLe ?_
  | with_reducible refine gGt ?_
  | with_reducible refine gGe ?_
  | with_reducible refine gNeg ?_
  | with_reducible refine gInt ?_
  | with_reducible refine gAbs ?_
  | with_reducible refine gMax ?_
  | with_reducible refine gMin ?_
  | with_reducible refine gLenL ?_
  | with_reducible refine gLenT ?_
  | with_reducible refine gSlL ?_
  | with_reducible refine gSlT ?_
  | (with_reducible intro (_ : V))
  | with_reducible refine Exists.intro _ (And.intro (rfl : T.bl _ = T.bl _) ?_)
  | with_reducible refine Exists.intro _ (And.intro (rfl : T.int _ = T.int _) ?_)
  | with_reducible refine Exists.intro _ (And.intro (rfl : truT (T.bl _) = some _) ?_)))
theorem opt_some (o : Option Nat) : isNonT (optN o) = !o.isSome := by cases o <;> rfl
theorem foO_never {A B : Sk} (h : A.bk.isSome = true) : foO A B = .never := by unfold foO; rw [if_pos h]
theorem foO_houses {A B : Sk} (h : A.bk.isSome = false) (h1 : A.h ≠ B.h) : foO A B = .houses B.h := by unfold foO; rw [if_neg (by rw [h]; exact fun z => nomatch z), if_pos h1]
theorem foO_readers {A B : Sk} (h : A.bk.isSome = false) (h1 : A.h = B.h) (h2 : A.r ≠ B.r) : foO A B = .readers B.r := by unfold foO; rw [if_neg (by rw [h]; exact fun z => nomatch z), if_neg (fun z => z h1), if_pos h2]
theorem foO_many {A B : Sk} (h : A.bk.isSome = false) (h1 : A.h = B.h) (h2 : A.r = B.r) (h3 : 24 < A.ms.length + B.ms.length) : foO A B = .many (A.ms.length + B.ms.length) := by unfold foO; rw [if_neg (by rw [h]; exact fun z => nomatch z), if_neg (fun z => z h1), if_neg (fun z => z h2), if_pos h3]
theorem foO_told {A B : Sk} (h : A.bk.isSome = false) (h1 : A.h = B.h) (h2 : A.r = B.r) (h3 : ¬ 24 < A.ms.length + B.ms.length) : foO A B = .told { A with ms := A.ms ++ B.ms, bk := B.bk.map (A.ms.length + ·) } := by unfold foO; rw [if_neg (by rw [h]; exact fun z => nomatch z), if_neg (fun z => z h1), if_neg (fun z => z h2), if_neg h3]
theorem fo_ok {A B : Sk} (oa : SkOk A) (ob : SkOk B) (h1 : A.h = B.h) (h2 : A.r = B.r) (h3 : ¬ 24 < A.ms.length + B.ms.length) : SkOk { A with ms := A.ms ++ B.ms, bk := B.bk.map (A.ms.length + ·) } := by
  have a1 := oa.m1
  refine ⟨oa.h1, oa.h3, oa.r1, oa.r3, ?_, ?_, fun m hm => ?_, fun c hc => ?_⟩
  · show 1 ≤ (A.ms ++ B.ms).length
    rw [List.length_append]; omega
  · show (A.ms ++ B.ms).length ≤ 24
    rw [List.length_append]; omega
  · have hm : m ∈ A.ms ++ B.ms := hm
    rcases List.mem_append.mp hm with h | h
    · exact oa.ms m h
    · show MoOk A.h A.r m
      rw [h1, h2]
      exact ob.ms m h
  · have hc : B.bk.map (A.ms.length + ·) = some c := hc
    show c < (A.ms ++ B.ms).length
    rw [List.length_append]
    cases eb : B.bk with
    | none => rw [eb] at hc; cases hc
    | some b =>
      rw [eb] at hc
      have := ob.bk b eb
      have hc : A.ms.length + b = c := Option.some.inj hc
      omega
theorem r_followed_by {K : PySem.W.Frag} (Z : SkyK K) (vs : List V) (H : Hp) (Q : VK) (E : XK) (h : sp_followed_by K vs H Q E) : t_followed_by K E { nx := fun _ H' => Q .non H', rt := Q } (L2.start N_followed_by vs) H := by
  refine run_sP h fun ts hv ⟨A, B, e, oa, ob⟩ => ?_
  subst e
  obtain ⟨u, u1, rfl⟩ := len2 hv
  show wS _ _ _ [Sl.x u (skT K A), .x u1 (skT K B), .no, .no] _
  unfold t_followed_by
  refine wS_seq (wS_if (wT_test (wE_op isNotOk (wE_sb Z (wE_x rfl ⟨A, rfl, fun _ => wE_non ⟨notRaw_opt _, fun _ => ⟨_, rfl, ?_⟩⟩⟩)))))
  rw [opt_some, Bool.not_not]
  cases ha : A.bk.isSome with
  | true => exact ite_t (wS_raise0 ⟨A, B, rfl, by rw [foO_never ha]; rfl⟩)
  | false =>
    refine ite_f (wS_next ?_)
    refine wS_seq (wS_if (wT_test (wE_op neOk (wE_sh Z (wE_x rfl ⟨A, rfl, fun _ => wE_sh Z (wE_x rfl ⟨B, rfl, fun _ => gNeI fun _ => ⟨_, rfl, ?_⟩⟩)⟩)))))
    by_cases h1 : A.h = B.h
    case neg =>
      rw [decide_eq_false (fun e => h1 (by omega))]
      exact ite_t (wS_raise (wA_cons (wE_vi (wE_sh Z (wE_x rfl ⟨B, rfl, fun _ => ⟨_, rfl, wA_nil ⟨rfl, by decide, A, B, rfl, by rw [foO_houses ha h1]; rfl⟩⟩⟩)))))
    rw [decide_eq_true (show (A.h : Int) = B.h by omega)]
    refine ite_f (wS_next ?_)
    refine wS_seq (wS_if (wT_test (wE_op neOk (wE_sr Z (wE_x rfl ⟨A, rfl, fun _ => wE_sr Z (wE_x rfl ⟨B, rfl, fun _ => gNeI fun _ => ⟨_, rfl, ?_⟩⟩)⟩)))))
    by_cases h2 : A.r = B.r
    case neg =>
      rw [decide_eq_false (fun e => h2 (by omega))]
      exact ite_t (wS_raise (wA_cons (wE_vi (wE_sr Z (wE_x rfl ⟨B, rfl, fun _ => ⟨_, rfl, wA_nil ⟨rfl, by decide, A, B, rfl, by rw [foO_readers ha h1 h2]; rfl⟩⟩⟩)))))
    rw [decide_eq_true (show (A.r : Int) = B.r by omega)]
    refine ite_f (wS_next ?_)
    refine wS_seq (wS_set (wE_cb lenOk (wA_cons (wE_sm Z (wE_x rfl ⟨A, rfl, fun _ => wA_nil (gLenT fun _ => ?_)⟩)))))
    rw [List.length_map]
    show wS _ _ _ [Sl.x u (skT K A), .x u1 (skT K B), .v (.int (A.ms.length : Nat)), .no] _
    refine wS_seq (wS_if (wT_test (wE_op gtOk (wE_op addOk (wE_v rfl fun _ => wE_cb lenOk (wA_cons (wE_sm Z (wE_x rfl ⟨B, rfl, fun _ => wA_nil (gLenT fun _ => gAdd fun _ => wE_int (gGt fun _ => ⟨_, rfl, ?_⟩))⟩))))))))
    rw [List.length_map]
    by_cases h3 : 24 < A.ms.length + B.ms.length
    case pos =>
      rw [decide_eq_true (show (24 : Int) < (A.ms.length : Int) + (B.ms.length : Int) by omega)]
      refine ite_t (wS_raise (wA_cons (wE_vi (wE_op addOk (wE_v rfl fun _ => wE_cb lenOk (wA_cons (wE_sm Z (wE_x rfl ⟨B, rfl, fun _ => wA_nil (gLenT fun _ => gAdd fun _ => ⟨_, rfl, wA_nil ⟨rfl, by decide, A, B, rfl, ?_⟩⟩)⟩))))))))
      rw [foO_many ha h1 h2 h3, List.length_map]
      rfl
    rw [decide_eq_false (show ¬ (24 : Int) < (A.ms.length : Int) + (B.ms.length : Int) by omega)]
    refine ite_f (wS_next ?_)
    have fo := foO_told ha h1 h2 h3
    have fok := fo_ok oa ob h1 h2 h3
    obtain ⟨S', eS⟩ : ∃ S', S' = ({ A with ms := A.ms ++ B.ms, bk := B.bk.map (A.ms.length + ·) } : Sk) := ⟨_, rfl⟩
    rw [← eS] at fo fok
    have last : wS (WD E) (fun er _ => ∃ A0 B0, [skT K A, skT K B] = [skT K A0, skT K B0] ∧ errU K .non (foO A0 B0) er) (tRet (tMakeS (He.ga K "Sky") (sp_Sky_init K) (WE (WD E)) (tCons (tFld K (tVar 0) "houses") (tCons (tFld K (tVar 0) "readers") (tCons (tOp (rAddU K) (tFld K (tVar 0) "moments") (tFld K (tVar 1) "moments")) (tCons (tVar 3) tNil))))))
        [Sl.x u (skT K A), .x u1 (skT K B), .v (.int (A.ms.length : Nat)), .v (optN S'.bk)] { rt := fun t _ => ∀ A0 B0, [skT K A, skT K B] = [skT K A0, skT K B0] → ∃ S', foO A0 B0 = .told S' ∧ t = skT K S', nx := fun _ => ∀ A0 B0, [skT K A, skT K B] = [skT K A0, skT K B0] → ∃ S', foO A0 B0 = .told S' ∧ T.non = skT K S', rf := fun us _ => ∀ A0 B0, [skT K A, skT K B] = [skT K A0, skT K B0] → ∃ S', foO A0 B0 = .told S' ∧ T.lst us = skT K S' } := by
      refine wS_ret (wE_mkS (wA_cons (wE_sh Z (wE_x rfl ⟨A, rfl, fun _ => wA_cons (wE_sr Z (wE_x rfl ⟨A, rfl, fun _ => wA_cons (wE_op addOk (wE_sm Z (wE_x rfl ⟨A, rfl, fun _ => wE_sm Z (wE_x rfl ⟨B, rfl, fun _ => gAddT ?_ fun _ => wA_cons (wE_v rfl fun _ => wA_nil ⟨S', _, ?_, .inr rfl, fok, fun _ => ?_⟩)⟩)⟩)))⟩))⟩))))
      · rw [List.length_map, List.length_map]; omega
      · rw [eS]
        show _ = [_, _, T.tup ((A.ms ++ B.ms).map moT), _]
        rw [List.map_append]
      · intro A0 B0 e0
        obtain ⟨rfl, e1⟩ := sk_one e0
        obtain ⟨rfl, _⟩ := sk_one e1
        exact ⟨S', fo, rfl⟩
    refine wS_seq (wS_set (wE_if (wT_test (wE_op isOk (wE_sb Z (wE_x rfl ⟨B, rfl, fun _ => wE_non ⟨notRaw_opt _, fun _ => ⟨_, rfl, ?_⟩⟩⟩))))))
    have eb : S'.bk = B.bk.map (A.ms.length + ·) := by rw [eS]
    cases hb : B.bk with
    | none =>
      rw [hb] at eb
      rw [eb] at last
      exact ite_t (wE_non last)
    | some b =>
      rw [hb] at eb
      rw [eb] at last
      refine ite_f (wE_op addOk (wE_v rfl fun _ => wE_sb Z (wE_x rfl ⟨B, rfl, fun _ => ?_⟩)))
      rw [hb]
      exact gAdd fun _ => last
end K10
set_option maxHeartbeats 4000000
namespace K10
open PySem PySem.Spec PyProof.Rows L2 TL TC TD K09
local macro_rules | `(tactic| walk_at "wk") => `(tactic| repeat' (first
  | with_reducible refine wS_seq ?_
  | with_reducible refine wS_if ?_
  | with_reducible refine wS_next ?_
  | with_reducible refine wS_aug rfl ipOk ?_
  | with_reducible refine wT_not ?_
  | with_reducible refine wT_and ?_
  | with_reducible refine wT_or ?_
  | with_reducible refine wT_test ?_
  | with_reducible refine wT_tru ?_
  | with_reducible refine wT_yes ?_
  | with_reducible refine wE_op addOk ?_
  | with_reducible refine wE_op subOk ?_
  | with_reducible refine wE_op mulOk ?_
  | with_reducible refine wE_op modOk ?_
  | with_reducible refine wE_op divOk ?_
  | with_reducible refine wE_op powOk ?_
  | with_reducible refine wE_op ltOk ?_
  | with_reducible refine wE_op leOk ?_
  | with_reducible refine wE_op gtOk ?_
  | with_reducible refine wE_op geOk ?_
  | with_reducible refine wE_op isOk ?_
  | with_reducible refine wE_op isNotOk ?_
  | with_reducible refine wE_op ixOk ?_
  | with_reducible refine wE_un negOk ?_
  | with_reducible refine wE_cb intOk ?_
  | with_reducible refine wE_cb absOk ?_
  | with_reducible refine wE_cb maxOk ?_
  | with_reducible refine wE_cb minOk ?_
  | with_reducible refine wE_cb lenOk ?_
  | with_reducible refine wE_cb sumOk ?_
  | with_reducible refine wE_cb allOk ?_
  | with_reducible refine wE_cb dvmOk ?_
  | with_reducible refine wE_sl ?_
  | with_reducible refine wO_none ?_
  | with_reducible refine wO_some ?_
  | with_reducible refine wE_tup ?_
  | with_reducible refine wE_lstD ?_
  | with_reducible refine wE_listD ?_
  | refine gIxT 0 rfl rfl ?_
  | refine gIxT 1 rfl rfl ?_
  | refine And.intro (sm1000 (Nat.le_of_ble_eq_true rfl)) ?_
  | with_reducible refine wE_if ?_
  | with_reducible refine wE_int ?_
  | with_reducible refine wE_bl ?_
  | with_reducible refine wE_str ?_
  | with_reducible refine wE_non ?_
  | refine wE_x rfl ?_
  | refine wE_v rfl ?_
  | with_reducible refine wA_cons ?_
  | with_reducible refine wA_nil ?_
  | with_reducible refine gAdd ?_
  | with_reducible refine gSub ?_
  | with_reducible refine gMulL (by omega) (by omega) ?_
  | with_reducible refine gMulR (by omega) (by omega) ?_
  | with_reducible refine gMod (by omega) ?_
  | with_reducible refine gDiv (by omega) (by omega) ?_
  | with_reducible refine gPow (by omega) (by omega) (by omega) ?_
  | with_reducible refine gLt ?_
  | with_reducible refine gLe ?_
  | with_reducible refine gGt ?_
  | with_reducible refine gGe ?_
  | with_reducible refine gNeg ?_
  | with_reducible refine gInt ?_
  | with_reducible refine gAbs ?_
  | with_reducible refine gMax ?_
  | with_reducible refine gMin ?_
  | with_reducible refine gLenL ?_
  | with_reducible refine gLenT ?_
  | with_reducible refine gSlL ?_
  | with_reducible refine gSlT ?_
  | (with_reducible intro (_ : V))
  | with_reducible refine Exists.intro _ (And.intro (rfl : T.bl _ = T.bl _) ?_)
  | with_reducible refine Exists.intro _ (And.intro (rfl : T.int _ = T.int _) ?_)
  | with_reducible refine Exists.intro _ (And.intro (rfl : truT (T.bl _) = some _) ?_)))
abbrev pl4 (S : Sk) : List T := [.int (S.h : Nat), .int (S.r : Nat), .tup (S.ms.map moT), optN S.bk]
theorem plT_inj {a b : Sk} (h : plT a = plT b) : a = b := args_inj (T.lst.inj h)
theorem pl_one {S S0 : Sk} {ts ts0 : List T} (e : plT S :: ts = plT S0 :: ts0) : S = S0 ∧ ts = ts0 := by
  rw [List.cons.injEq] at e
  exact ⟨plT_inj e.1, e.2⟩
section
variable {K : PySem.W.Frag} {E : WX} {X : XP} {ρ : TL.Env} {te : TE} {Φ : V → T → TL.Env → Prop}
/-- the four places of a plain sky -/
theorem wE_p0 (h : wE E X te ρ fun _ x ρ1 => ∃ S, x = plT S ∧ ∀ v, Φ v (.int (S.h : Nat)) ρ1) : wE E X (tOp (rIx K) te (tC (.int 0))) ρ Φ := wE_op ixOk (wE_imp h fun _ x ρ1 ⟨S, e, hk⟩ => wE_int (by rw [e]; exact gIxL 0 rfl (show (pl4 S)[0]? = _ from rfl) hk))
theorem wE_p1 (h : wE E X te ρ fun _ x ρ1 => ∃ S, x = plT S ∧ ∀ v, Φ v (.int (S.r : Nat)) ρ1) : wE E X (tOp (rIx K) te (tC (.int 1))) ρ Φ := wE_op ixOk (wE_imp h fun _ x ρ1 ⟨S, e, hk⟩ => wE_int (by rw [e]; exact gIxL 1 rfl (show (pl4 S)[1]? = _ from rfl) hk))
theorem wE_p2 (h : wE E X te ρ fun _ x ρ1 => ∃ S, x = plT S ∧ ∀ v, Φ v (.tup (S.ms.map moT)) ρ1) : wE E X (tOp (rIx K) te (tC (.int 2))) ρ Φ := wE_op ixOk (wE_imp h fun _ x ρ1 ⟨S, e, hk⟩ => wE_int (by rw [e]; exact gIxL 2 rfl (show (pl4 S)[2]? = _ from rfl) hk))
theorem wE_p3 (h : wE E X te ρ fun _ x ρ1 => ∃ S, x = plT S ∧ ∀ v, Φ v (optN S.bk) ρ1) : wE E X (tOp (rIx K) te (tC (.int 3))) ρ Φ := wE_op ixOk (wE_imp h fun _ x ρ1 ⟨S, e, hk⟩ => wE_int (by rw [e]; exact gIxL 3 rfl (show (pl4 S)[3]? = _ from rfl) hk))
end
theorem r_law_index {K : PySem.W.Frag} (vs : List V) (H : Hp) (Q : VK) (E : XK) (h : sp_law_index K vs H Q E) : t_law_index K E { nx := fun _ H' => Q .non H', rt := Q } (L2.start N_law_index vs) H := by
  refine run_sP h fun ts hv ⟨S, t, e, ok⟩ => ?_
  subst e
  obtain ⟨u, u1, rfl⟩ := len2 hv
  show wS _ _ _ [Sl.x u (plT S), .x u1 (.int t), .no] _
  unfold t_law_index
  have fin : ∀ z, z = optN (momAt S t) → ∀ (S0 : Sk) (t0 : Nat), [plT S, T.int t] = [plT S0, .int t0] → z = optN (momAt S0 t0) := fun z hz S0 t0 e => by
    obtain ⟨rfl, e2⟩ := pl_one e
    simp only [List.cons.injEq, T.int.injEq, and_true] at e2
    rw [hz, show t = t0 by omega]
  refine wS_seq (wS_set (wE_cb lenOk (wA_cons (wE_p2 (wE_x rfl ⟨S, rfl, fun _ => wA_nil (gLenT fun _ => ?_)⟩)))))
  rw [List.length_map]
  show wS _ _ _ [Sl.x u (plT S), .x u1 (.int t), .v (.int (S.ms.length : Nat))] _
  refine wS_seq (wS_if (wT_test (wE_op ltOk (wE_x rfl (wE_v rfl fun _ => gLt fun _ => ⟨_, rfl, ite_c (fun z => wS_ret (wE_x rfl (fin _ ?_))) fun z => wS_next (wS_ret (wE_if (wT_test (wE_op isOk (wE_p3 (wE_x rfl ⟨S, rfl, fun _ => wE_non ⟨notRaw_opt _, fun _ => ⟨_, rfl, ?_⟩⟩⟩))))))⟩)))))
  · have z := of_decide_eq_true z
    rw [mom_lo (by omega)]
    rfl
  · have z := of_decide_eq_false z
    cases zb : S.bk with
    | none => exact ite_t (wE_non (fin _ (by rw [mom_none zb, if_neg (by omega)]; rfl)))
    | some b =>
      have hb := ok.bk b zb
      refine ite_f (wE_op addOk (wE_p3 (wE_x rfl ⟨S, rfl, fun _ => wE_op modOk (wE_cb intOk (wA_cons (wE_op subOk (wE_x rfl (wE_p3 (wE_x rfl ⟨S, rfl, fun _ => ?_⟩))))))⟩)))
      rw [zb]
      refine gSub fun _ => wA_nil (gInt fun _ => wE_op subOk (wE_v rfl fun _ => wE_p3 (wE_x rfl ⟨S, rfl, fun _ => ?_⟩)))
      rw [zb]
      refine gSub fun _ => gMod (by omega) fun _ => gAdd fun _ => fin _ ?_
      rw [mom_hi zb (by omega)]
      show T.int _ = T.int _
      congr 1
      rw [show ((t : Int) - b) = ((t - b : Nat) : Int) by omega, show ((S.ms.length : Int) - b) = ((S.ms.length - b : Nat) : Int) by omega, ← Int.natCast_emod]
      omega
theorem r_law_plain {K : PySem.W.Frag} (Z : SkyK K) (vs : List V) (H : Hp) (Q : VK) (E : XK) (h : sp_law_plain K vs H Q E) : t_law_plain K E { nx := fun _ H' => Q .non H', rt := Q } (L2.start N_law_plain vs) H := by
  refine run_sP h fun ts hv ⟨S, e⟩ => ?_
  subst e
  obtain ⟨u, rfl⟩ := len1 hv
  show wS _ _ _ [Sl.x u (skT K S)] _
  unfold t_law_plain
  refine wS_ret (wE_lstD (wA_cons (wE_sh Z (wE_x rfl ⟨S, rfl, fun _ => wA_cons (wE_sr Z (wE_x rfl ⟨S, rfl, fun _ => wA_cons (wE_sm Z (wE_x rfl ⟨S, rfl, fun _ => wA_cons (wE_sb Z (wE_x rfl ⟨S, rfl, fun _ => wA_nil ⟨by show 4 ≤ sizeLine; decide, fun _ S0 e0 => ?_⟩⟩))⟩))⟩))⟩))))
  rw [← (sk_one e0).1]
  rfl
theorem r_law_made {K : PySem.W.Frag} (vs : List V) (H : Hp) (Q : VK) (E : XK) (h : sp_law_made K vs H Q E) : t_law_made K E { nx := fun _ H' => Q .non H', rt := Q } (L2.start N_law_made vs) H := by
  refine run_sP h fun ts hv ⟨S, e, ok⟩ => ?_
  subst e
  obtain ⟨u, rfl⟩ := len1 hv
  show wS _ _ _ [Sl.x u (plT S)] _
  unfold t_law_made
  refine wS_ret (wE_mkS (wA_cons (wE_p0 (wE_x rfl ⟨S, rfl, fun _ => wA_cons (wE_p1 (wE_x rfl ⟨S, rfl, fun _ => wA_cons (wE_listD (wA_cons (wE_p2 (wE_x rfl ⟨S, rfl, fun _ => wA_nil ⟨S.ms.map moT, .inr rfl, fun _ => wA_cons (wE_p3 (wE_x rfl ⟨S, rfl, fun _ => wA_nil ⟨S, _, rfl, .inl rfl, ok, fun _ S0 e0 => ?_⟩⟩))⟩⟩))))⟩))⟩))))
  rw [(pl_one e0).1]
theorem r_law_followed_due {K : PySem.W.Frag} (vs : List V) (H : Hp) (Q : VK) (E : XK) (h : sp_law_followed_due K vs H Q E) : t_law_followed_due K E { nx := fun _ H' => Q .non H', rt := Q } (L2.start N_law_followed_due vs) H := by
  refine run_sP h fun ts hv ⟨A, B, e, oa, ob⟩ => ?_
  subst e
  obtain ⟨u, u1, rfl⟩ := len2 hv
  show wS _ _ _ [Sl.x u (plT A), .x u1 (plT B), .no] _
  unfold t_law_followed_due
  have fin : ∀ us, us = outU (foO A B) → ∀ A0 B0, [plT A, plT B] = [plT A0, plT B0] → T.lst us = .lst (outU (foO A0 B0)) := fun us e A0 B0 e0 => by
    obtain ⟨rfl, e1⟩ := pl_one e0
    obtain ⟨rfl, _⟩ := pl_one e1
    rw [e]
  refine wS_seq (wS_if (wT_test (wE_op isNotOk (wE_p3 (wE_x rfl ⟨A, rfl, fun _ => wE_non ⟨notRaw_opt _, fun _ => ⟨_, rfl, ?_⟩⟩⟩)))))
  rw [opt_some, Bool.not_not]
  cases ha : A.bk.isSome with
  | true => exact ite_t (wS_ret (wE_lstD (wA_cons (wE_str (wA_cons (wE_non (wA_nil ⟨by show 2 ≤ sizeLine; decide, fun _ => fin _ (by rw [foO_never ha]; rfl)⟩)))))))
  | false =>
    refine ite_f (wS_next ?_)
    refine wS_seq (wS_if (wT_test (wE_op neOk (wE_p0 (wE_x rfl ⟨A, rfl, fun _ => wE_p0 (wE_x rfl ⟨B, rfl, fun _ => gNeI fun _ => ⟨_, rfl, ?_⟩⟩)⟩)))))
    by_cases h1 : A.h = B.h
    case neg =>
      rw [decide_eq_false (fun e => h1 (by omega))]
      exact ite_t (wS_ret (wE_lstD (wA_cons (wE_str (wA_cons (wE_p0 (wE_x rfl ⟨B, rfl, fun _ => wA_nil ⟨by show 2 ≤ sizeLine; decide, fun _ => fin _ (by rw [foO_houses ha h1]; rfl)⟩⟩)))))))
    rw [decide_eq_true (show (A.h : Int) = B.h by omega)]
    refine ite_f (wS_next ?_)
    refine wS_seq (wS_if (wT_test (wE_op neOk (wE_p1 (wE_x rfl ⟨A, rfl, fun _ => wE_p1 (wE_x rfl ⟨B, rfl, fun _ => gNeI fun _ => ⟨_, rfl, ?_⟩⟩)⟩)))))
    by_cases h2 : A.r = B.r
    case neg =>
      rw [decide_eq_false (fun e => h2 (by omega))]
      exact ite_t (wS_ret (wE_lstD (wA_cons (wE_str (wA_cons (wE_p1 (wE_x rfl ⟨B, rfl, fun _ => wA_nil ⟨by show 2 ≤ sizeLine; decide, fun _ => fin _ (by rw [foO_readers ha h1 h2]; rfl)⟩⟩)))))))
    rw [decide_eq_true (show (A.r : Int) = B.r by omega)]
    refine ite_f (wS_next ?_)
    refine wS_seq (wS_set (wE_cb lenOk (wA_cons (wE_p2 (wE_x rfl ⟨A, rfl, fun _ => wA_nil (gLenT fun _ => ?_)⟩)))))
    rw [List.length_map]
    show wS _ _ _ [Sl.x u (plT A), .x u1 (plT B), .v (.int (A.ms.length : Nat))] _
    refine wS_seq (wS_if (wT_test (wE_op gtOk (wE_op addOk (wE_v rfl fun _ => wE_cb lenOk (wA_cons (wE_p2 (wE_x rfl ⟨B, rfl, fun _ => wA_nil (gLenT fun _ => gAdd fun _ => wE_int (gGt fun _ => ⟨_, rfl, ?_⟩))⟩))))))))
    rw [List.length_map]
    by_cases h3 : 24 < A.ms.length + B.ms.length
    case pos =>
      rw [decide_eq_true (show (24 : Int) < (A.ms.length : Int) + (B.ms.length : Int) by omega)]
      refine ite_t (wS_ret (wE_lstD (wA_cons (wE_str (wA_cons (wE_op addOk (wE_v rfl fun _ => wE_cb lenOk (wA_cons (wE_p2 (wE_x rfl ⟨B, rfl, fun _ => wA_nil (gLenT fun _ => gAdd fun _ => wA_nil ⟨by show 2 ≤ sizeLine; decide, fun _ => fin _ ?_⟩)⟩))))))))))
      rw [foO_many ha h1 h2 h3, List.length_map]
      rfl
    rw [decide_eq_false (show ¬ (24 : Int) < (A.ms.length : Int) + (B.ms.length : Int) by omega)]
    refine ite_f (wS_next ?_)
    have fo := foO_told ha h1 h2 h3
    obtain ⟨S', eS⟩ : ∃ S', S' = ({ A with ms := A.ms ++ B.ms, bk := B.bk.map (A.ms.length + ·) } : Sk) := ⟨_, rfl⟩
    rw [← eS] at fo
    have eb : S'.bk = B.bk.map (A.ms.length + ·) := by rw [eS]
    refine wS_ret (wE_lstD (wA_cons (wE_str (wA_cons (wE_lstD (wA_cons (wE_p0 (wE_x rfl ⟨A, rfl, fun _ => wA_cons (wE_p1 (wE_x rfl ⟨A, rfl, fun _ => wA_cons (wE_op addOk (wE_p2 (wE_x rfl ⟨A, rfl, fun _ => wE_p2 (wE_x rfl ⟨B, rfl, fun _ => gAddT ?_ fun _ => wA_cons (wE_if (wT_test (wE_op isOk (wE_p3 (wE_x rfl ⟨B, rfl, fun _ => wE_non ⟨notRaw_opt _, fun _ => ⟨_, rfl, ?_⟩⟩⟩)))))⟩)⟩)))⟩))⟩))))))))
    · rw [List.length_map, List.length_map]; omega
    have e4 : [T.int (A.h : Nat), .int (A.r : Nat), .tup (A.ms.map moT ++ B.ms.map moT), optN S'.bk] = pl4 S' := by
      rw [eS, ← List.map_append]
    have out : ∀ z, z = optN S'.bk → [T.str "told", .lst [T.int (A.h : Nat), .int (A.r : Nat), .tup (A.ms.map moT ++ B.ms.map moT), z]] = outU (foO A B) := fun z ez => by
      rw [fo, ez, e4]
      rfl
    cases hb : B.bk with
    | none =>
      rw [hb] at eb
      refine ite_t (wE_non (wA_nil ⟨by show 4 ≤ sizeLine; decide, fun _ => wA_nil ⟨by show 2 ≤ sizeLine; decide, fun _ => fin _ (out _ ?_)⟩⟩))
      rw [eb]
      rfl
    | some b =>
      rw [hb] at eb
      refine ite_f (wE_op addOk (wE_v rfl fun _ => wE_p3 (wE_x rfl ⟨B, rfl, fun _ => ?_⟩)))
      rw [hb]
      refine gAdd fun _ => wA_nil ⟨by show 4 ≤ sizeLine; decide, fun _ => wA_nil ⟨by show 2 ≤ sizeLine; decide, fun _ => fin _ (out _ ?_)⟩⟩
      rw [eb]
      rfl
end K10
set_option maxHeartbeats 4000000
namespace K10
open PySem PySem.Spec PyProof.Rows L2 TL TC TD K09
local macro_rules | `(tactic| walk_at "wk") => `(tactic| repeat' (first
  | with_reducible refine wS_seq ?_
  | with_reducible refine wS_if ?_
  | with_reducible refine wS_next ?_
  | with_reducible refine wS_aug rfl ipOk ?_
  | with_reducible refine wT_not ?_
  | with_reducible refine wT_and ?_
  | with_reducible refine wT_or ?_
  | with_reducible refine wT_test ?_
  | with_reducible refine wT_tru ?_
  | with_reducible refine wT_yes ?_
  | with_reducible refine wE_op addOk ?_
  | with_reducible refine wE_op subOk ?_
  | with_reducible refine wE_op mulOk ?_
  | with_reducible refine wE_op modOk ?_
  | with_reducible refine wE_op divOk ?_
  | with_reducible refine wE_op powOk ?_
  | with_reducible refine wE_op ltOk ?_
  | with_reducible refine wE_op leOk ?_
  | with_reducible refine wE_op gtOk ?_
  | with_reducible refine wE_op geOk ?_
  | with_reducible refine wE_op isOk ?_
  | with_reducible refine wE_op isNotOk ?_
  | with_reducible refine wE_op ixOk ?_
  | with_reducible refine wE_un negOk ?_
  | with_reducible refine wE_cb intOk ?_
  | with_reducible refine wE_cb absOk ?_
  | with_reducible refine wE_cb maxOk ?_
  | with_reducible refine wE_cb minOk ?_
  | with_reducible refine wE_cb lenOk ?_
  | with_reducible refine wE_cb sumOk ?_
  | with_reducible refine wE_cb allOk ?_
  | with_reducible refine wE_cb dvmOk ?_
  | with_reducible refine wE_sl ?_
  | with_reducible refine wO_none ?_
  | with_reducible refine wO_some ?_
  | with_reducible refine wE_tup ?_
  | with_reducible refine wE_lstD ?_
  | with_reducible refine wE_listD ?_
  | refine gIxT 0 rfl rfl ?_
  | refine gIxT 1 rfl rfl ?_
  | refine And.intro (sm1000 (Nat.le_of_ble_eq_true rfl)) ?_
  | with_reducible refine wE_if ?_
  | with_reducible refine wE_int ?_
  | with_reducible refine wE_bl ?_
  | with_reducible refine wE_str ?_
  | with_reducible refine wE_non ?_
  | refine wE_x rfl ?_
  | refine wE_v rfl ?_
  | with_reducible refine wA_cons ?_
  | with_reducible refine wA_nil ?_
  | with_reducible refine gAdd ?_
  | with_reducible refine gSub ?_
  | with_reducible refine gMulL (by omega) (by omega) ?_
  | with_reducible refine gMulR (by omega) (by omega) ?_
  | with_reducible refine gMod (by omega) ?_
  | with_reducible refine gDiv (by omega) (by omega) ?_
  | with_reducible refine gPow (by omega) (by omega) (by omega) ?_
  | with_reducible refine gLt ?_
  | with_reducible refine gLe ?_
  | with_reducible refine gGt ?_
  | with_reducible refine gGe ?_
  | with_reducible refine gNeg ?_
  | with_reducible refine gInt ?_
  | with_reducible refine gAbs ?_
  | with_reducible refine gMax ?_
  | with_reducible refine gMin ?_
  | with_reducible refine gLenL ?_
  | with_reducible refine gLenT ?_
  | with_reducible refine gSlL ?_
  | with_reducible refine gSlT ?_
  | (with_reducible intro (_ : V))
  | with_reducible refine Exists.intro _ (And.intro (rfl : T.bl _ = T.bl _) ?_)
  | with_reducible refine Exists.intro _ (And.intro (rfl : T.int _ = T.int _) ?_)
  | with_reducible refine Exists.intro _ (And.intro (rfl : truT (T.bl _) = some _) ?_)))
open Classical in
/-- the first place of x -/
noncomputable def ixT (ts : List T) (x : T) : Nat := ts.findIdx fun y => decide (y = x)
theorem ixT_hit {ts : List T} {x : T} (h : x ∈ ts) : ts[ixT ts x]? = some x := by
  have hl : ixT ts x < ts.length := List.findIdx_lt_length_of_exists ⟨x, h, by simp⟩
  rw [List.getElem?_eq_getElem hl]
  have := List.findIdx_getElem (p := fun y => @decide (y = x) (Classical.propDecidable _)) (xs := ts) (w := hl)
  exact congrArg some (@of_decide_eq_true _ (Classical.propDecidable _) this)
theorem ixT_no {ts : List T} {x : T} {m : Nat} (h : m < ixT ts x) : ts[m]? ≠ some x := fun e => by
  have := List.not_of_lt_findIdx (p := fun y => @decide (y = x) (Classical.propDecidable _)) (xs := ts) h
  obtain ⟨hl, e2⟩ := List.getElem?_eq_some_iff.mp e
  rw [e2] at this
  simp at this
theorem ixT_inj {ts : List T} {x y : T} (hx : x ∈ ts) (hy : y ∈ ts) (e : ixT ts x = ixT ts y) : x = y := by
  have h1 := ixT_hit hx
  rw [e, ixT_hit hy] at h1
  exact (Option.some.inj h1).symm
/-- the name of the moment at a tick -/
noncomputable def nmS (S : Sk) (t : Nat) : Nat := ixT (S.ms.map moT) (moT (seqS S t))
theorem seq_mem {S : Sk} (ok : SkOk S) {b : Nat} (hb : S.bk = some b) (t : Nat) : moT (seqS S t) ∈ S.ms.map moT := by
  obtain ⟨j, hj⟩ : ∃ j, momAt S t = some j := by
    by_cases z : t < S.ms.length
    · exact ⟨_, mom_lo z⟩
    · exact ⟨_, mom_hi hb (by omega)⟩
  exact List.mem_map.mpr ⟨_, List.mem_of_getElem? (seq_get ok hj), rfl⟩
theorem nm_iff {S : Sk} (ok : SkOk S) {b : Nat} (hb : S.bk = some b) (t t' : Nat) : nmS S t = nmS S t' ↔ seqS S t = seqS S t' :=
  ⟨fun e => moT_inj (ixT_inj (seq_mem ok hb t) (seq_mem ok hb t') e), fun e => by unfold nmS; rw [e]⟩
noncomputable abbrev rhoS (u : V) (S : Sk) (b : Nat) (s9 s10 s11 s12 : Sl) : TL.Env := [.x u (plN S), .v (.int (S.h : Nat)), .v (.int (S.r : Nat)), .v (tpn (S.ms.map moT)), .v (.int (b : Nat)), .v (.lst ((S.ms.map moT).map fun x => .int (ixT (S.ms.map moT) x : Nat))), .v (.int (S.ms.length : Nat)), .v (.int (S.ms.length - b : Nat)), .v (.lst ((List.range 80).map fun t => T.int (nmS S t : Nat))), s9, s10, s11, s12, .no, .no]
theorem r_law_shortest {K : PySem.W.Frag} (vs : List V) (H : Hp) (Q : VK) (E : XK) (h : sp_law_shortest K vs H Q E) : t_law_shortest K E { nx := fun _ H' => Q .non H', rt := Q } (L2.start N_law_shortest vs) H := by
  obtain ⟨S, ok, h⟩ := h
  refine run_sP h fun ts hv e => ?_
  subst e
  obtain ⟨u, rfl⟩ := len1 hv
  show wS _ _ _ [Sl.x u (plN S), .no, .no, .no, .no, .no, .no, .no, .no, .no, .no, .no, .no, .no, .no] _
  unfold t_law_shortest
  have m24 := ok.m24
  have m1 := ok.m1
  refine wS_seq (wS_asg (wE_x rfl (wG_unp rfl fun us hu => ?_)))
  match us, hu with
  | [w1, w2, w3, w4], _ =>
  refine wGs_cons (wG_name (wGs_cons (wG_name (wGs_cons (wG_name (wGs_cons (wG_name (wGs_nil ?_))))))))
  show wS _ _ _ [Sl.x u (plN S), .v (.int (S.h : Nat)), .v (.int (S.r : Nat)), .v (tpn (S.ms.map moT)), .v (optN S.bk), .no, .no, .no, .no, .no, .no, .no, .no, .no, .no] _
  refine wS_seq (wS_if (wT_test (wE_op isOk (wE_v rfl fun _ => wE_non ⟨notRaw_opt _, fun _ => ⟨_, rfl, ?_⟩⟩))))
  cases hb : S.bk with
  | none =>
    refine ite_t (wS_ret (wE_xc rfl (fun G r => plN_T r) (show plT S = plT (shS S) from ?_)))
    unfold shS
    rw [hb]
  | some b =>
    have bl := ok.bk b hb
    refine ite_f (wS_next ?_)
    have pl : ∀ t ∈ S.ms.map moT, Pl 4 t := fun t ht => by
      obtain ⟨m, _, rfl⟩ := List.mem_map.mp ht
      exact pl_mo m
    refine wS_seq (wS_set (wE_F (wF_lcT (wI_seq (wE_vc rfl (fun G v r => tpn_tup r) fun _ => ⟨S.ms.map moT, .inr rfl, rfl, by rw [List.length_map]; exact sm1000 (by omega), fun _ => true, fun x => .int (ixT (S.ms.map moT) x : Nat), fun x v hx => ?_, fun _ => ?_⟩)))))
    · refine wGa_name (by decide) ⟨rfl, rfl, wT_yes ⟨rfl, rfl, fun _ => ?_⟩⟩
      exact wE_tindexD (d := 4) (by decide) (wE_v rfl fun _ => ⟨S.ms.map moT, rfl, pl, wE_v rfl fun _ => ⟨ixT (S.ms.map moT) x, pl x hx, ixT_hit hx, fun m hm => ixT_no hm, fun _ => ⟨rfl, rfl⟩⟩⟩)
    rw [List.filter_eq_self.mpr fun _ _ => rfl]
    refine wS_seq (wS_par (wA_cons (wE_cb lenOk (wA_cons (wE_v rfl fun _ => wA_nil (gLenL fun _ => wA_cons (wE_op subOk (wE_cb lenOk (wA_cons (wE_v rfl fun _ => wA_nil (gLenL fun _ => wE_v rfl fun _ => gSub fun _ => wA_nil ⟨_, _, rfl, ?_⟩)))))))))))
    rw [List.length_map, List.length_map, show ((S.ms.length : Int) - (b : Int)) = ((S.ms.length - b : Nat) : Int) by omega]
    refine wS_seq (wS_set (wE_F (wF_lcT (wI_range1 (wA_cons (wE_int (wA_nil ⟨80, rfl, by decide, by decide, rfl, by rw [rngT_len]; exact sm1000 (by decide), fun _ => true, fun t => .int (nmS S (natOf t) : Nat), fun x v hx => ?_, fun _ => ?_⟩)))))))
    · obtain ⟨t, ht2, e⟩ := List.getElem_of_mem hx
      obtain ⟨e1, tl⟩ := rngT_get (by rw [List.getElem?_eq_getElem ht2, e])
      subst e1
      rw [show ((0 : Int) + (t : Nat)) = (t : Int) from Int.zero_add _]
      obtain ⟨j, hj⟩ : ∃ j, momAt S t = some j := by
        by_cases z : t < S.ms.length
        · exact ⟨_, mom_lo z⟩
        · exact ⟨_, mom_hi hb (by omega)⟩
      have g1 : ((S.ms.map moT).map fun x => T.int (ixT (S.ms.map moT) x : Nat))[j]? = some (.int (nmS S t : Nat)) := by
        rw [List.getElem?_map, List.getElem?_map, seq_get ok hj]
        rfl
      refine wGa_name (by decide) ⟨rfl, rfl, wT_yes ⟨rfl, rfl, fun _ => wE_op ixOk (wE_v rfl fun _ => wE_callV (wA_cons (wE_xc rfl (fun G r => plN_T r) (wA_cons (wE_v rfl fun _ => wA_nil ⟨⟨S, t, rfl, ok⟩, ⟨_, fun z po => po S t rfl, fun _ => ?_⟩, fun er z => z.elim⟩)))))⟩⟩
      rw [hj]
      exact gIxW j (.inl rfl) g1 fun _ => ⟨rfl, rfl⟩
    rw [show ((rngT 0 80).filter fun _ => true).map (fun t => T.int (nmS S (natOf t) : Nat)) = (List.range 80).map fun t => T.int (nmS S t : Nat) by rw [rng_all]; rfl]
    show wS _ _ _ (rhoS u S b .no .no .no .no) _
    obtain ⟨hd, ring, f⟩ := sh_form ok hb
    have one := f.frm.one
    have lh := f.lh
    have lr := f.lr
    have g80 : ∀ t, t < 80 → ((List.range 80).map fun t => T.int (nmS S t : Nat))[t]? = some (.int (nmS S t : Nat)) := fun t ht => by
      rw [List.getElem?_map, List.getElem?_range ht]
      rfl
    refine wS_seq (wS_for (wI_range2 (wA_cons (wE_int (wA_cons (wE_op addOk (wE_v rfl fun _ => wE_int (gAdd fun _ => wA_nil ⟨_, _, rfl, ⟨by omega, by omega, by omega, by omega⟩, fun i ρ => i < hd.length + ring.length ∧ ∃ s9 s10 s11 s12, ρ = rhoS u S b s9 s10 s11 s12, ⟨by omega, _, _, _, _, rfl⟩, fun i x ρ2 v hx ⟨hi, s9, s10, s11, s12, e⟩ => ?_, fun ρ2 ⟨hi, s9, s10, s11, s12, e⟩ => ?_⟩))))))))
    · subst e
      obtain ⟨e, il⟩ := rngT_get hx
      subst e
      rw [show ((1 : Int) + (i : Nat)) = ((i + 1 : Nat) : Int) by omega]
      have il : i < S.ms.length := by omega
      obtain ⟨sz, esz⟩ : ∃ sz, sz = i + 1 := ⟨_, rfl⟩
      rw [← esz]
      refine wG_name ?_
      refine wS_for (wI_range1 (wA_cons (wE_v rfl fun _ => wA_nil ⟨(sz : Int), rfl, by omega, by omega, fun j ρ => (sz = hd.length + ring.length → j ≤ hd.length) ∧ ∃ s10 s11 s12, ρ = rhoS u S b (.v (.int sz)) s10 s11 s12, ⟨fun _ => Nat.zero_le _, _, _, _, rfl⟩, fun j x ρ2 v hx ⟨hj, s10, s11, s12, e⟩ => ?_, fun ρ2 ⟨hj, s10, s11, s12, e⟩ => ?_⟩)))
      · subst e
        obtain ⟨e, jl⟩ := rngT_get hx
        subst e
        rw [show ((0 : Int) + (j : Nat)) = (j : Int) from Int.zero_add _]
        have jl : j < sz := by omega
        obtain ⟨pd, epd⟩ : ∃ pd, pd = sz - j := ⟨_, rfl⟩
        refine wG_name ?_
        refine wS_seq (wS_set (wE_op subOk (wE_v rfl fun _ => wE_v rfl fun _ => gSub fun _ => ?_)))
        rw [show ((sz : Int) - (j : Int)) = ((pd : Nat) : Int) by omega]
        show wS _ _ _ (rhoS u S b (.v (.int sz)) (.v (.int j)) (.v (.int pd)) s12) _
        refine wS_seq (wS_set (wE_F (wF_lcT (wI_range2 (wA_cons (wE_v rfl fun _ => wA_cons (wE_op addOk (wE_cb maxOk (wA_cons (wE_v rfl fun _ => wA_cons (wE_v rfl fun _ => wA_nil (gMax fun _ => wE_v rfl fun _ => gAdd fun _ => ?_))))))))))))
        have ehi : (if (b : Int) > (j : Int) then (b : Int) else (j : Int)) + ((S.ms.length - b : Nat) : Int) = ((max j b + (S.ms.length - b) : Nat) : Int) := by split <;> omega
        rw [ehi]
        refine wA_nil ⟨_, _, rfl, ⟨by omega, by omega, by omega, by omega⟩, rfl, by rw [rngT_len]; exact sm1000 (by omega), fun t => !decide (nmS S (natOf t) = nmS S (natOf t + pd)), fun t => t, fun x v hx => ?_, fun _ => ?_⟩
        · obtain ⟨k, hk2, e⟩ := List.getElem_of_mem hx
          obtain ⟨e1, kl⟩ := rngT_get (by rw [List.getElem?_eq_getElem hk2, e])
          subst e1
          obtain ⟨t, et⟩ : ∃ t, t = j + k := ⟨_, rfl⟩
          rw [show ((j : Int) + (k : Nat)) = (t : Int) by omega]
          have t48 : t < 48 := by omega
          refine wGa_name (by decide) ⟨rfl, rfl, wT_test (wE_op neOk (wE_op ixOk (wE_v rfl fun _ => wE_v rfl fun _ => gIxW t (.inl rfl) (g80 t (by omega)) fun _ => wE_op ixOk (wE_v rfl fun _ => wE_op addOk (wE_v rfl fun _ => wE_v rfl fun _ => gAdd fun _ => gIxW (t + pd) (.inl rfl) (g80 (t + pd) (by omega)) fun _ => gNeI fun _ => ⟨_, rfl, rfl, ?_, fun _ => wE_v rfl fun _ => ⟨rfl, rfl⟩⟩)))))⟩
          show (!decide ((nmS S t : Int) = (nmS S (t + pd) : Nat))) = !decide (nmS S (natOf (.int (t : Int))) = nmS S (natOf (.int (t : Int)) + pd))
          rw [show natOf (.int (t : Int)) = t from Int.toNat_natCast t]
          by_cases z : nmS S t = nmS S (t + pd)
          · rw [z, decide_eq_true rfl, decide_eq_true rfl]
          · rw [decide_eq_false z, decide_eq_false (fun e => z (by omega))]
        refine wS_if (wT_test (wE_eqNilD (wE_v rfl fun _ => ⟨_, rfl, fun _ => ⟨_, rfl, ite_c (fun z => ?_) fun z => wS_next ⟨?_, _, _, _, rfl⟩⟩⟩)))
        · -- found
          have per : Per (seqS S) j pd := per_of ok hb fun t h1 h2 => by
            have hm : T.int (t : Int) ∈ rngT (j : Int) ((max j b + (S.ms.length - b) : Nat) : Int) := by
              unfold rngT
              refine List.mem_map.mpr ⟨t - j, List.mem_range.mpr (by omega), ?_⟩
              congr 1
              omega
            rw [List.isEmpty_map, List.isEmpty_iff] at z
            have := List.filter_eq_nil_iff.mp z _ hm
            rw [Bool.not_eq_true', Bool.not_eq_false, decide_eq_true_eq, show natOf (.int (t : Int)) = t from Int.toNat_natCast t] at this
            exact (nm_iff ok hb t (t + pd)).mp this
          obtain ⟨q1, q2⟩ := f.min j pd (by omega) per
          have esz2 : sz = hd.length + ring.length := by omega
          have ej : j = hd.length := by have := hj esz2; omega
          refine wS_ret (wE_lstD (wA_cons (wE_v rfl fun _ => wA_cons (wE_v rfl fun _ => wA_cons (wE_sl (wE_vc rfl (fun G v r => tpn_tup r) fun _ => wO_none (wO_some (wE_v rfl fun _ => ⟨_, rfl, gSlT fun _ => wA_cons (wE_v rfl fun _ => wA_nil ⟨by show 4 ≤ sizeLine; decide, fun _ => ?_⟩)⟩))))))))
          show T.lst [T.int (S.h : Nat), .int (S.r : Nat), .tup (cutT (S.ms.map moT) none (some (sz : Int))), .int (j : Nat)] = plT (shS S)
          rw [cut_to, ← List.map_take, esz2, ← f.tk, f.eq, ej]
          rfl
        · -- not yet
          intro esz2
          have hj2 := hj esz2
          refine Nat.lt_of_le_of_ne hj2 fun ej => ?_
          rw [List.isEmpty_map] at z
          have : ((rngT (j : Int) ((max j b + (S.ms.length - b) : Nat) : Int)).filter fun t => !decide (nmS S (natOf t) = nmS S (natOf t + pd))) = [] := by
            refine List.filter_eq_nil_iff.mpr fun x hx => ?_
            obtain ⟨k, hk2, e⟩ := List.getElem_of_mem hx
            obtain ⟨e1, kl⟩ := rngT_get (by rw [List.getElem?_eq_getElem hk2, e])
            rw [e1, Bool.not_eq_true', Bool.not_eq_false, decide_eq_true_eq, show natOf (.int ((j : Int) + (k : Nat))) = j + k by show ((j : Int) + (k : Nat)).toNat = j + k; omega]
            refine (nm_iff ok hb _ _).mpr ?_
            have pp := f.frm.per (j + k) (by omega)
            rw [show ring.length = pd by omega] at pp
            exact pp.symm
          rw [this] at z
          cases z
      · subst e
        refine ⟨?_, _, _, _, _, rfl⟩
        rw [rngT_len] at hj
        refine Nat.lt_of_le_of_ne (by omega) fun e => ?_
        have := hj e
        omega
    · exfalso
      rw [rngT_len] at hi
      omega
end K10
set_option maxHeartbeats 4000000
namespace K10
open PySem PySem.Spec PyProof.Rows L2 TL TC TD K09
local macro_rules | `(tactic| walk_at "wk") => `(tactic| repeat' (first
  | with_reducible refine wS_seq ?_
  | with_reducible refine wS_if ?_
  | with_reducible refine wS_next ?_
  | with_reducible refine wS_aug rfl ipOk ?_
  | with_reducible refine wT_not ?_
  | with_reducible refine wT_and ?_
  | with_reducible refine wT_or ?_
  | with_reducible refine wT_test ?_
  | with_reducible refine wT_tru ?_
  | with_reducible refine wT_yes ?_
  | with_reducible refine wE_op addOk ?_
  | with_reducible refine wE_op subOk ?_
  | with_reducible refine wE_op mulOk ?_
  | with_reducible refine wE_op modOk ?_
  | with_reducible refine wE_op divOk ?_
  | with_reducible refine wE_op powOk ?_
  | with_reducible refine wE_op ltOk ?_
  | with_reducible refine wE_op leOk ?_
  | with_reducible refine wE_op gtOk ?_
  | with_reducible refine wE_op geOk ?_
  | with_reducible refine wE_op isOk ?_
  | with_reducible refine wE_op isNotOk ?_
  | with_reducible refine wE_op ixOk ?_
  | with_reducible refine wE_un negOk ?_
  | with_reducible refine wE_cb intOk ?_
  | with_reducible refine wE_cb absOk ?_
  | with_reducible refine wE_cb maxOk ?_
  | with_reducible refine wE_cb minOk ?_
  | with_reducible refine wE_cb lenOk ?_
  | with_reducible refine wE_cb sumOk ?_
  | with_reducible refine wE_cb allOk ?_
  | with_reducible refine wE_cb dvmOk ?_
  | with_reducible refine wE_sl ?_
  | with_reducible refine wO_none ?_
  | with_reducible refine wO_some ?_
  | with_reducible refine wE_tup ?_
  | with_reducible refine wE_lstD ?_
  | with_reducible refine wE_listD ?_
  | refine gIxT 0 rfl rfl ?_
  | refine gIxT 1 rfl rfl ?_
  | refine And.intro (sm1000 (Nat.le_of_ble_eq_true rfl)) ?_
  | with_reducible refine wE_if ?_
  | with_reducible refine wE_int ?_
  | with_reducible refine wE_bl ?_
  | with_reducible refine wE_str ?_
  | with_reducible refine wE_non ?_
  | refine wE_x rfl ?_
  | refine wE_v rfl ?_
  | with_reducible refine wA_cons ?_
  | with_reducible refine wA_nil ?_
  | with_reducible refine gAdd ?_
  | with_reducible refine gSub ?_
  | with_reducible refine gMulL (by omega) (by omega) ?_
  | with_reducible refine gMulR (by omega) (by omega) ?_
  | with_reducible refine gMod (by omega) ?_
  | with_reducible refine gDiv (by omega) (by omega) ?_
  | with_reducible refine gPow (by omega) (by omega) (by omega) ?_
  | with_reducible refine gLt ?_
  | with_reducible refine gLe ?_
  | with_reducible refine gGt ?_
  | with_reducible refine gGe ?_
  | with_reducible refine gNeg ?_
  | with_reducible refine gInt ?_
  | with_reducible refine gAbs ?_
  | with_reducible refine gMax ?_
  | with_reducible refine gMin ?_
  | with_reducible refine gLenL ?_
  | with_reducible refine gLenT ?_
  | with_reducible refine gSlL ?_
  | with_reducible refine gSlT ?_
  | (with_reducible intro (_ : V))
  | with_reducible refine Exists.intro _ (And.intro (rfl : T.bl _ = T.bl _) ?_)
  | with_reducible refine Exists.intro _ (And.intro (rfl : T.int _ = T.int _) ?_)
  | with_reducible refine Exists.intro _ (And.intro (rfl : truT (T.bl _) = some _) ?_)))
section
variable {K : PySem.W.Frag} {E : WX} {X : XP} {ρ : TL.Env} {ta : TA} {Φ : V → T → TL.Env → Prop}
theorem wE_shortest (h : wA E X ta ρ fun _ ts ρ1 => ∃ S, ts = [plN S] ∧ SkOk S ∧ ∀ v, Φ v (plT (shS S)) ρ1) : wE E X (tCallS (sp_law_shortest K) (WE E) ta) ρ Φ := fun b G H σ Q S0 q ke =>
  h b G H σ _ S0 (fun vs ts ρ1 G1 H1 ⟨S, e, ok, hk⟩ r1 S1 l1 => ⟨S, ok, ts, G1, r1, S1.gh, e, fun t v G' H' p r g => q v t ρ1 G' H' (by rw [p]; exact hk v) r (S1.grow g) (l1.tr g.g), fun er od G' H' z => z.elim⟩) ke
end
theorem r_law_later {K : PySem.W.Frag} (vs : List V) (H : Hp) (Q : VK) (E : XK) (h : sp_law_later K vs H Q E) : t_law_later K E { nx := fun _ H' => Q .non H', rt := Q } (L2.start N_law_later vs) H := by
  refine run_sP h fun ts hv ⟨S, t, j, e, ok, hj⟩ => ?_
  subst e
  obtain ⟨u, u1, rfl⟩ := len2 hv
  show wS _ _ _ [Sl.x u (plT S), .x u1 (.int t), .no, .no, .no, .no, .no, .no, .no] _
  unfold t_law_later
  have m24 := ok.m24
  have jl := mom_lt ok hj
  have fin : ∀ z, z = plT (shS (froS S j)) → ∀ (S0 : Sk) (t0 j0 : Nat), [plT S, T.int t] = [plT S0, .int t0] → momAt S0 t0 = some j0 → z = plT (shS (froS S0 j0)) := fun z hz S0 t0 j0 e hj0 => by
    obtain ⟨rfl, e2⟩ := pl_one e
    simp only [List.cons.injEq, T.int.injEq, and_true] at e2
    rw [show t0 = t by omega, hj] at hj0
    rw [hz, Option.some.inj hj0]
  refine wS_seq (wS_asg (wE_x rfl (wG_unp (xs := pl4 S) rfl fun us hu => ?_)))
  match us, hu with
  | [w1, w2, w3, w4], _ =>
  refine wGs_cons (wG_name (wGs_cons (wG_name (wGs_cons (wG_name (wGs_cons (wG_name (wGs_nil ?_))))))))
  show wS _ _ _ [Sl.x u (plT S), .x u1 (.int t), .v (.int (S.h : Nat)), .v (.int (S.r : Nat)), .v (.tup (S.ms.map moT)), .v (optN S.bk), .no, .no, .no] _
  refine wS_seq (wS_if (wT_test (wE_op isOk (wE_v rfl fun _ => wE_non ⟨notRaw_opt _, fun _ => ⟨_, rfl, ?_⟩⟩))))
  cases hb : S.bk with
  | none =>
    have tj : t = j := by
      rw [mom_none hb] at hj
      by_cases z : t < S.ms.length
      · rw [if_pos z] at hj; exact Option.some.inj hj
      · rw [if_neg z] at hj; cases hj
    refine ite_t (wS_ret (wE_lstD (wA_cons (wE_v rfl fun _ => wA_cons (wE_v rfl fun _ => wA_cons (wE_sl (wE_v rfl fun _ => wO_some (wE_x rfl ⟨_, rfl, wO_none (gSlT fun _ => wA_cons (wE_non (wA_nil ⟨by show 4 ≤ sizeLine; decide, fun _ => fin _ ?_⟩)))⟩))))))))
    have e1 : froS S j = { S with ms := S.ms.drop j, bk := none } := by unfold froS; rw [hb]
    have e2 : shS (froS S j) = froS S j := by
      rw [e1]
      rfl
    rw [e2, e1, cut_from, ← List.map_drop, tj]
    rfl
  | some b =>
    have bl := ok.bk b hb
    refine ite_f (wS_next ?_)
    refine wS_seq (wS_set (wE_cb maxOk (wA_cons (wE_int (wA_cons (wE_op subOk (wE_v rfl fun _ => wE_x rfl (gSub fun _ => wA_nil (gMax fun _ => ?_)))))))))
    obtain ⟨hd, ehd⟩ : ∃ hd, hd = b - t := ⟨_, rfl⟩
    rw [show (if (b : Int) - (t : Int) > 0 then (b : Int) - (t : Int) else 0) = ((hd : Nat) : Int) by split <;> omega]
    refine wS_seq (wS_set (wE_op subOk (wE_op addOk (wE_v rfl fun _ => wE_cb lenOk (wA_cons (wE_v rfl fun _ => wA_nil (gLenT fun _ => gAdd fun _ => wE_v rfl fun _ => gSub fun _ => ?_)))))))
    obtain ⟨sz, esz⟩ : ∃ sz, sz = hd + S.ms.length - b := ⟨_, rfl⟩
    rw [List.length_map, show ((hd : Int) + (S.ms.length : Int)) - (b : Int) = ((sz : Nat) : Int) by omega]
    show wS _ _ _ [Sl.x u (plT S), .x u1 (.int t), .v (.int (S.h : Nat)), .v (.int (S.r : Nat)), .v (.tup (S.ms.map moT)), .v (.int (b : Nat)), .v (.int hd), .v (.int sz), .no] _
    have mk : ∀ k, ∃ i, momAt S (t + k) = some i := fun k => by
      by_cases z : t + k < S.ms.length
      · exact ⟨_, mom_lo z⟩
      · exact ⟨_, mom_hi hb (by omega)⟩
    have fe := fro_eq ok hb hj
    have fok := fro_ok ok hj
    refine wS_ret (wE_shortest (wA_cons (wE_lstD (wA_cons (wE_v rfl fun _ => wA_cons (wE_v rfl fun _ => wA_cons (wE_cb tupNOk (wA_cons (wE_F (wF_lcT (wI_range1 (wA_cons (wE_v rfl fun _ => wA_nil ⟨(sz : Int), rfl, by omega, by omega, rfl, by rw [rngT_len]; exact sm1000 (by omega), fun _ => true, fun x => moT (seqS S (t + natOf x)), fun x v hx => ?_, fun _ => wA_nil ?_⟩)))))))))))))
    · obtain ⟨k, hk2, e⟩ := List.getElem_of_mem hx
      obtain ⟨e1, kl⟩ := rngT_get (by rw [List.getElem?_eq_getElem hk2, e])
      subst e1
      rw [show ((0 : Int) + (k : Nat)) = (k : Int) from Int.zero_add _]
      obtain ⟨i, hi⟩ := mk k
      have g1 : (S.ms.map moT)[i]? = some (moT (seqS S (t + k))) := by rw [List.getElem?_map, seq_get ok hi]; rfl
      refine wGa_name (by decide) ⟨rfl, rfl, wT_yes ⟨rfl, rfl, fun _ => wE_op ixOk (wE_v rfl fun _ => wE_callV (wA_cons (wE_x rfl (wA_cons (wE_op addOk (wE_x rfl (wE_v rfl fun _ => gAdd fun _ => wA_nil ⟨⟨S, t + k, rfl, ok⟩, ⟨_, fun z po => po S (t + k) rfl, fun _ => ?_⟩, fun er z => z.elim⟩)))))))⟩⟩
      rw [hi]
      exact gIxW i (.inr rfl) g1 fun _ => ⟨rfl, rfl⟩
    · have em : ((rngT 0 (sz : Int)).filter fun _ => true).map (fun x => moT (seqS S (t + natOf x))) = ((List.range sz).map fun k => seqS S (t + k)).map moT := by
        rw [rng_all, List.map_map]
        rfl
      rw [em]
      refine (show fTupN [.lst (((List.range sz).map fun k => seqS S (t + k)).map moT)] _ from fun _ => wA_cons (wE_v rfl fun _ => wA_nil ⟨by show 4 ≤ sizeLine; decide, fun _ => wA_nil ⟨froS S j, ?_, fok, fun _ => fin _ rfl⟩⟩))
      rw [← fe]
      show _ = [T.lst [_, _, tpn (((List.range (b - t + S.ms.length - b)).map fun k => seqS S (t + k)).map moT), .int ((b - t : Nat) : Int)]]
      rw [← ehd, ← esz]
theorem r_law_later_due {K : PySem.W.Frag} (vs : List V) (H : Hp) (Q : VK) (E : XK) (h : sp_law_later_due K vs H Q E) : t_law_later_due K E { nx := fun _ H' => Q .non H', rt := Q } (L2.start N_law_later_due vs) H := by
  refine run_sP h fun ts hv ⟨S, x, e, ok, dx⟩ => ?_
  subst e
  obtain ⟨u, u1, rfl⟩ := len2 hv
  show wS _ _ _ [Sl.x u (plT S), .x u1 x] _
  unfold t_law_later_due
  have p15 : (10 : Int) ^ (15 : Int).toNat = 1000000000000000 := by decide +kernel
  have fin : ∀ us, us = outU (laO S x) → ∀ S0 x0, [plT S, x] = [plT S0, x0] → T.lst us = .lst (outU (laO S0 x0)) := fun us e S0 x0 e0 => by
    obtain ⟨rfl, e1⟩ := pl_one e0
    rw [List.cons.injEq] at e1
    rw [e, e1.1]
  refine wS_seq (wS_if (wT_not (wT_cl (wA_cons (wE_x rfl (wA_cons (wE_int (wA_cons (wE_op powOk (wE_int (wE_int (gPow (by decide) (by decide) (by decide) fun _ => wA_nil ⟨⟨x, 0, _, rfl, dx.ok1⟩, ⟨_, fun t ht => ht x _ _ rfl, ?_⟩, fun er z => z.elim⟩))))))))))))
  rw [p15]
  cases hb : btw x 0 1000000000000000 with
  | false =>
    refine ite_t (wS_ret (wE_lstD (wA_cons (wE_str (wA_cons (wE_x rfl (wA_nil ⟨by show 2 ≤ sizeLine; decide, fun _ => fin _ ?_⟩)))))))
    unfold laO
    rw [if_neg (show ¬ btw x 0 most = true by rw [show btw x 0 most = false from hb]; exact fun z => nomatch z)]
    rfl
  | true =>
    obtain ⟨i, rfl, h0, h1⟩ := K09.btw_int hb
    obtain ⟨n, rfl⟩ : ∃ n : Nat, i = (n : Int) := ⟨i.toNat, by omega⟩
    have eo : laO S (.int (n : Int)) = (match momAt S n with | none => .ended S.ms.length | some j => .told (shS (froS S j))) := by
      unfold laO
      rw [if_pos (show btw (.int (n : Int)) 0 most = true from hb), show natOf (.int (n : Int)) = n from Int.toNat_natCast n]
      all_goals cases momAt S n <;> rfl
    refine ite_f (wS_next ?_)
    have told : ∀ j, momAt S n = some j → wS (WD E) (fun er _ => noX [u, u1] [plT S, .int (n : Int)] er) (tRet (tLst (tCons (tC (.str "told")) (tCons (tCallS (sp_law_later K) (WE (WD E)) (tCons (tVar 0) (tCons (tVar 1) tNil))) tNil)))) [Sl.x u (plT S), .x u1 (.int n)] { rt := fun t _ => ∀ S0 x0, [plT S, T.int (n : Int)] = [plT S0, x0] → t = .lst (outU (laO S0 x0)), nx := fun _ => ∀ S0 x0, [plT S, T.int (n : Int)] = [plT S0, x0] → T.non = .lst (outU (laO S0 x0)), rf := fun us _ => ∀ S0 x0, [plT S, T.int (n : Int)] = [plT S0, x0] → T.lst us = .lst (outU (laO S0 x0)) } := fun j hj => by
      rw [hj] at eo
      refine wS_ret (wE_lstD (wA_cons (wE_str (wA_cons (wE_callV (wA_cons (wE_x rfl (wA_cons (wE_x rfl (wA_nil ⟨⟨S, n, j, rfl, ok, hj⟩, ⟨_, fun t po => po S n j rfl hj, fun _ => wA_nil ⟨by show 2 ≤ sizeLine; decide, fun _ => fin _ ?_⟩⟩, fun er z => z.elim⟩))))))))))
      rw [eo]
      rfl
    refine wS_seq (wS_if (wT_and (wT_test (wE_op isOk (wE_p3 (wE_x rfl ⟨S, rfl, fun _ => wE_non ⟨notRaw_opt _, fun _ => ⟨_, rfl, ?_⟩⟩⟩))))))
    cases eb : S.bk with
    | some b =>
      refine ite_f (wS_next ?_)
      by_cases z : n < S.ms.length
      · exact told _ (mom_lo z)
      · exact told _ (mom_hi eb (by omega))
    | none =>
      refine ite_t (wT_test (wE_op geOk (wE_x rfl (wE_cb lenOk (wA_cons (wE_p2 (wE_x rfl ⟨S, rfl, fun _ => wA_nil (gLenT fun _ => gGe fun _ => ⟨_, rfl, ite_c (fun z => ?_) fun z => wS_next ?_⟩)⟩)))))))
      · have z := of_decide_eq_true z
        rw [List.length_map] at z
        rw [mom_none eb, if_neg (by omega)] at eo
        refine wS_ret (wE_lstD (wA_cons (wE_str (wA_cons (wE_cb lenOk (wA_cons (wE_p2 (wE_x rfl ⟨S, rfl, fun _ => wA_nil (gLenT fun _ => wA_nil ⟨by show 2 ≤ sizeLine; decide, fun _ => fin _ ?_⟩)⟩))))))))
        rw [eo, List.length_map]
        rfl
      · have z := of_decide_eq_false z
        rw [List.length_map] at z
        exact told _ (mom_lo (by omega))
end K10
set_option maxHeartbeats 4000000
namespace K10
open PySem PySem.Spec PyProof.Rows L2 TL TC TD K09
local macro_rules | `(tactic| walk_at "wk") => `(tactic| repeat' (first
  | with_reducible refine wS_seq ?_
  | with_reducible refine wS_if ?_
  | with_reducible refine wS_next ?_
  | with_reducible refine wS_aug rfl ipOk ?_
  | with_reducible refine wT_not ?_
  | with_reducible refine wT_and ?_
  | with_reducible refine wT_or ?_
  | with_reducible refine wT_test ?_
  | with_reducible refine wT_tru ?_
  | with_reducible refine wT_yes ?_
  | with_reducible refine wE_op addOk ?_
  | with_reducible refine wE_op subOk ?_
  | with_reducible refine wE_op mulOk ?_
  | with_reducible refine wE_op modOk ?_
  | with_reducible refine wE_op divOk ?_
  | with_reducible refine wE_op powOk ?_
  | with_reducible refine wE_op ltOk ?_
  | with_reducible refine wE_op leOk ?_
  | with_reducible refine wE_op gtOk ?_
  | with_reducible refine wE_op geOk ?_
  | with_reducible refine wE_op isOk ?_
  | with_reducible refine wE_op isNotOk ?_
  | with_reducible refine wE_op ixOk ?_
  | with_reducible refine wE_un negOk ?_
  | with_reducible refine wE_cb intOk ?_
  | with_reducible refine wE_cb absOk ?_
  | with_reducible refine wE_cb maxOk ?_
  | with_reducible refine wE_cb minOk ?_
  | with_reducible refine wE_cb lenOk ?_
  | with_reducible refine wE_cb sumOk ?_
  | with_reducible refine wE_cb allOk ?_
  | with_reducible refine wE_cb dvmOk ?_
  | with_reducible refine wE_sl ?_
  | with_reducible refine wO_none ?_
  | with_reducible refine wO_some ?_
  | with_reducible refine wE_tup ?_
  | with_reducible refine wE_lstD ?_
  | with_reducible refine wE_listD ?_
  | refine gIxT 0 rfl rfl ?_
  | refine gIxT 1 rfl rfl ?_
  | refine And.intro (sm1000 (Nat.le_of_ble_eq_true rfl)) ?_
  | with_reducible refine wE_if ?_
  | with_reducible refine wE_int ?_
  | with_reducible refine wE_bl ?_
  | with_reducible refine wE_str ?_
  | with_reducible refine wE_non ?_
  | refine wE_x rfl ?_
  | refine wE_v rfl ?_
  | with_reducible refine wA_cons ?_
  | with_reducible refine wA_nil ?_
  | with_reducible refine gAdd ?_
  | with_reducible refine gSub ?_
  | with_reducible refine gMulL (by omega) (by omega) ?_
  | with_reducible refine gMulR (by omega) (by omega) ?_
  | with_reducible refine gMod (by omega) ?_
  | with_reducible refine gDiv (by omega) (by omega) ?_
  | with_reducible refine gPow (by omega) (by omega) (by omega) ?_
  | with_reducible refine gLt ?_
  | with_reducible refine gLe ?_
  | with_reducible refine gGt ?_
  | with_reducible refine gGe ?_
  | with_reducible refine gNeg ?_
  | with_reducible refine gInt ?_
  | with_reducible refine gAbs ?_
  | with_reducible refine gMax ?_
  | with_reducible refine gMin ?_
  | with_reducible refine gLenL ?_
  | with_reducible refine gLenT ?_
  | with_reducible refine gSlL ?_
  | with_reducible refine gSlT ?_
  | (with_reducible intro (_ : V))
  | with_reducible refine Exists.intro _ (And.intro (rfl : T.bl _ = T.bl _) ?_)
  | with_reducible refine Exists.intro _ (And.intro (rfl : T.int _ = T.int _) ?_)
  | with_reducible refine Exists.intro _ (And.intro (rfl : truT (T.bl _) = some _) ?_)))
abbrev rhoO (q : Addr) (N : Nat) (u : V) (c : Bool) (hh r : Nat) (en few : Bool) (s6 s7 s8 s9 s10 s11 s12 : Sl) : TL.Env := [.o q (Bx N), .x u (.bl c), .v (.int hh), .v (.int r), .v (.bl en), .v (.bl few), s6, s7, s8, s9, s10, s11, s12, .no]
section
variable {K : PySem.W.Frag} {E : WX} {X : XP} {ρ : TL.Env} {tm : TE} {Ψ : List T → TL.Env → Prop} {q : Addr} {u : V} {c en few : Bool} {hh r : Nat} {s6 s7 s8 s9 s10 s11 s12 : Sl}
/-- some moments -/
theorem wF_moms (hr : HR hh r) (h : wE E X tm ρ fun _ x ρ1 => ∃ m N : Nat, x = .int m ∧ m ≤ 24 ∧ ρ1 = rhoO q (N + 40 * m) u c hh r en few s6 s7 s8 s9 s10 s11 s12 ∧ ∀ l : List Mo, l.length = m → (∀ x ∈ l, MoOk hh r x) → Ψ (l.map moT) (rhoO q N u c hh r en few s6 s7 s8 s9 s10 s11 s12)) :
    wF E X (tLc (iRng1 (tCons tm tNil)) (gName 13) tYes (tCallS (sp_law_a_moment K) (WE E00) (tCons (tVar 0) (tCons (tVar 2) (tCons (tVar 3) tNil)))) [13]) ρ Ψ := by
  refine wF_lcO (wI_range1 (wA_cons (wE_imp h fun _ x ρ1 ⟨m, N, e, m24, eρ, hk⟩ => ?_)))
  subst e eρ
  refine wA_nil ⟨(m : Int), rfl, by omega, by omega, fun k hk => ?_, fun i acc ρ => (i ≤ m ∧ ∃ l : List Mo, acc = l.map moT ∧ l.length = i ∧ ∀ x ∈ l, MoOk hh r x) ∧ ρ = rhoO q (N + 40 * m - 40 * i) u c hh r en few s6 s7 s8 s9 s10 s11 s12, ⟨⟨Nat.zero_le _, [], rfl, rfl, fun _ h => nomatch h⟩, rfl⟩, fun i x acc v ρ2 hx ⟨⟨hi, l, e1, hl, h4⟩, e2⟩ => ?_, fun acc ρ2 ⟨⟨hi, l, e1, hl, hok⟩, e2⟩ => ?_⟩
  · obtain rfl : k = 13 := by simpa using hk
    rfl
  · subst e2
    obtain ⟨_, hi2⟩ := rngT_get hx
    refine wGa_name (by decide) (wT_yes (ite_t ?_))
    refine wE_ow (i := 0) (Bx ((N + 40 * m - 40 * (i + 1)) + 40)) rfl (fun ts b => b.mono (by omega)) ?_
    refine wE_callO (N + 40 * m - 40 * (i + 1)) rfl (wA_cons (wE_v rfl fun _ => wA_cons (wE_v rfl fun _ => wA_nil ⟨rfl, ⟨hh, r, rfl, hr⟩, fun t v po => ?_, fun er z => z.elim⟩)))
    obtain ⟨mo, rfl, ok⟩ := po hh r rfl
    refine ⟨rfl, ?_, ⟨by omega, l ++ [mo], ?_, ?_, ?_⟩, rfl⟩
    · rw [e1, List.length_map, hl]
      exact Nat.lt_of_lt_of_le (by omega : i < 1000) (by decide)
    · rw [e1, List.map_append]; rfl
    · rw [List.length_append, hl]; rfl
    · intro y hy
      rcases List.mem_append.mp hy with hy | hy
      · exact h4 y hy
      · rw [List.mem_singleton.mp hy]; exact ok
  · subst e2 e1
    rw [rngT_len] at hl hi ⊢
    have hl2 : l.length = m := by omega
    have := hk l hl2 hok
    rw [show N + 40 * m - 40 * ((m : Int) - 0).toNat = N by omega]
    exact this
/-- some of a list of moments, drawn -/
theorem wF_draw {a b : Nat} {l : List Mo} (hne : 1 ≤ l.length) (l24 : l.length ≤ 24) {te : TE} (hab : (rhoO q 0 u c hh r en few s6 s7 s8 s9 s10 s11 s12)[a]? = some (.v (.lst (l.map moT)))) (ha : a ≠ 0 ∧ a ≠ 13) (hte : ∀ (ρ' : TL.Env), ρ'[a]? = some (.v (.lst (l.map moT))) → ∀ Φ : V → T → TL.Env → Prop, (∀ v, Φ v (.int (l.length : Nat)) ρ') → wE E00 X00 te ρ' Φ)
    (h : wE E X tm ρ fun _ x ρ1 => ∃ m N : Nat, x = .int m ∧ m ≤ 24 ∧ ρ1 = rhoO q (N + m) u c hh r en few s6 s7 s8 s9 s10 s11 s12 ∧ ∀ l' : List Mo, l'.length = m → (∀ x ∈ l', x ∈ l) → Ψ (l'.map moT) (rhoO q N u c hh r en few s6 s7 s8 s9 s10 s11 s12)) :
    wF E X (tLc (iRng1 (tCons tm tNil)) (gName 13) tYes (tOp (rIx K) (tVar a) (tCallS (sp_law_take K) (WE E00) (tCons (tVar 0) (tCons te tNil)))) [13]) ρ Ψ := by
  refine wF_lcO (wI_range1 (wA_cons (wE_imp h fun _ x ρ1 ⟨m, N, e, m24, eρ, hk⟩ => ?_)))
  subst e eρ
  have get : ∀ (N' : Nat) (s : Sl), ([Sl.o q (Bx N'), .x u (.bl c), .v (.int hh), .v (.int r), .v (.bl en), .v (.bl few), s6, s7, s8, s9, s10, s11, s12, s] : TL.Env)[a]? = some (.v (.lst (l.map moT))) := fun N' s => by
    rw [← hab]
    match a, ha with
    | 0, ha => exact absurd rfl ha.1
    | 1, _ => rfl
    | 2, _ => rfl
    | 3, _ => rfl
    | 4, _ => rfl
    | 5, _ => rfl
    | 6, _ => rfl
    | 7, _ => rfl
    | 8, _ => rfl
    | 9, _ => rfl
    | 10, _ => rfl
    | 11, _ => rfl
    | 12, _ => rfl
    | 13, ha => exact absurd rfl ha.2
    | a + 14, _ => rfl
  refine wA_nil ⟨(m : Int), rfl, by omega, by omega, fun k hk => ?_, fun i acc ρ => (i ≤ m ∧ ∃ l' : List Mo, acc = l'.map moT ∧ l'.length = i ∧ ∀ x ∈ l', x ∈ l) ∧ ρ = rhoO q (N + m - i) u c hh r en few s6 s7 s8 s9 s10 s11 s12, ⟨⟨Nat.zero_le _, [], rfl, rfl, fun _ h => nomatch h⟩, rfl⟩, fun i x acc v ρ2 hx ⟨⟨hi, l', e1, hl, h4⟩, e2⟩ => ?_, fun acc ρ2 ⟨⟨hi, l', e1, hl, hok⟩, e2⟩ => ?_⟩
  · obtain rfl : k = 13 := by simpa using hk
    rfl
  · subst e2
    obtain ⟨_, hi2⟩ := rngT_get hx
    refine wGa_name (by decide) (wT_yes (ite_t ?_))
    refine wE_ow (i := 0) (Bx ((N + m - (i + 1)) + 1)) rfl (fun ts b => b.mono (by omega)) ?_
    refine wE_op ixOk (wE_v (get _ _) fun _ => wE_tk (N + m - (i + 1)) rfl (hte _ (get _ _) _ fun _ => ⟨rfl, l.length, rfl, by omega, by omega, fun d hd _ => ?_⟩))
    have g1 : (l.map moT)[d]? = some (moT l[d]) := by rw [List.getElem?_map, List.getElem?_eq_getElem hd]; rfl
    refine gIxW d (.inl rfl) g1 fun _ => ⟨rfl, ?_, ⟨by omega, l' ++ [l[d]], ?_, ?_, ?_⟩, rfl⟩
    · rw [e1, List.length_map, hl]
      exact Nat.lt_of_lt_of_le (by omega : i < 1000) (by decide)
    · rw [e1, List.map_append]; rfl
    · rw [List.length_append, hl]; rfl
    · intro y hy
      rcases List.mem_append.mp hy with hy | hy
      · exact h4 y hy
      · rw [List.mem_singleton.mp hy]; exact List.getElem_mem _
  · subst e2 e1
    rw [rngT_len] at hl hi ⊢
    have hl2 : l'.length = m := by omega
    have := hk l' hl2 hok
    rw [show N + m - ((m : Int) - 0).toNat = N by omega]
    exact this
end
end K10
set_option maxHeartbeats 4000000
namespace K10
open PySem PySem.Spec PyProof.Rows L2 TL TC TD K09
local macro_rules | `(tactic| walk_at "wk") => `(tactic| repeat' (first
  | with_reducible refine wS_seq ?_
  | with_reducible refine wS_if ?_
  | with_reducible refine wS_next ?_
  | with_reducible refine wS_aug rfl ipOk ?_
  | with_reducible refine wT_not ?_
  | with_reducible refine wT_and ?_
  | with_reducible refine wT_or ?_
  | with_reducible refine wT_test ?_
  | with_reducible refine wT_tru ?_
  | with_reducible refine wT_yes ?_
  | with_reducible refine wE_op addOk ?_
  | with_reducible refine wE_op subOk ?_
  | with_reducible refine wE_op mulOk ?_
  | with_reducible refine wE_op modOk ?_
  | with_reducible refine wE_op divOk ?_
  | with_reducible refine wE_op powOk ?_
  | with_reducible refine wE_op ltOk ?_
  | with_reducible refine wE_op leOk ?_
  | with_reducible refine wE_op gtOk ?_
  | with_reducible refine wE_op geOk ?_
  | with_reducible refine wE_op isOk ?_
  | with_reducible refine wE_op isNotOk ?_
  | with_reducible refine wE_op ixOk ?_
  | with_reducible refine wE_un negOk ?_
  | with_reducible refine wE_cb intOk ?_
  | with_reducible refine wE_cb absOk ?_
  | with_reducible refine wE_cb maxOk ?_
  | with_reducible refine wE_cb minOk ?_
  | with_reducible refine wE_cb lenOk ?_
  | with_reducible refine wE_cb sumOk ?_
  | with_reducible refine wE_cb allOk ?_
  | with_reducible refine wE_cb dvmOk ?_
  | with_reducible refine wE_sl ?_
  | with_reducible refine wO_none ?_
  | with_reducible refine wO_some ?_
  | with_reducible refine wE_tup ?_
  | with_reducible refine wE_lstD ?_
  | with_reducible refine wE_listD ?_
  | refine gIxT 0 rfl rfl ?_
  | refine gIxT 1 rfl rfl ?_
  | refine And.intro (sm1000 (Nat.le_of_ble_eq_true rfl)) ?_
  | with_reducible refine wE_if ?_
  | with_reducible refine wE_int ?_
  | with_reducible refine wE_bl ?_
  | with_reducible refine wE_str ?_
  | with_reducible refine wE_non ?_
  | refine wE_x rfl ?_
  | refine wE_v rfl ?_
  | with_reducible refine wA_cons ?_
  | with_reducible refine wA_nil ?_
  | with_reducible refine gAdd ?_
  | with_reducible refine gSub ?_
  | with_reducible refine gMulL (by omega) (by omega) ?_
  | with_reducible refine gMulR (by omega) (by omega) ?_
  | with_reducible refine gMod (by omega) ?_
  | with_reducible refine gDiv (by omega) (by omega) ?_
  | with_reducible refine gPow (by omega) (by omega) (by omega) ?_
  | with_reducible refine gLt ?_
  | with_reducible refine gLe ?_
  | with_reducible refine gGt ?_
  | with_reducible refine gGe ?_
  | with_reducible refine gNeg ?_
  | with_reducible refine gInt ?_
  | with_reducible refine gAbs ?_
  | with_reducible refine gMax ?_
  | with_reducible refine gMin ?_
  | with_reducible refine gLenL ?_
  | with_reducible refine gLenT ?_
  | with_reducible refine gSlL ?_
  | with_reducible refine gSlT ?_
  | (with_reducible intro (_ : V))
  | with_reducible refine Exists.intro _ (And.intro (rfl : T.bl _ = T.bl _) ?_)
  | with_reducible refine Exists.intro _ (And.intro (rfl : T.int _ = T.int _) ?_)
  | with_reducible refine Exists.intro _ (And.intro (rfl : truT (T.bl _) = some _) ?_)))
theorem r_law_long {K : PySem.W.Frag} (vs : List V) (H : Hp) (Q : VK) (E : XK) (h : sp_law_long K vs H Q E) : t_law_long K E { nx := fun _ H' => Q .non H', rt := Q } (L2.start N_law_long vs) H := by
  refine run_sO h (fun n q us ts _ hv ⟨c, e⟩ => ?_) (by decide)
  subst e
  obtain ⟨u, rfl⟩ := len1 hv
  show wS _ _ _ [Sl.o q (Bx (n + 1500)), .x u (.bl c), .no, .no, .no, .no, .no, .no, .no, .no, .no, .no, .no, .no] _
  unfold t_law_long
  have mono : ∀ {a b : Nat}, b ≤ a → ∀ ts, Bx a ts → Bx b ts := fun l ts b => b.mono l
  refine wS_seq (wS_asg (wE_tup (wA_cons (wE_op addOk (wE_int (wE_tki (n + 1499) rfl 3 rfl (by omega) (by omega) fun d1 h1 _ => gAdd fun _ => wA_cons (wE_op addOk (wE_int (wE_tki (n + 1498) rfl 2 rfl (by omega) (by omega) fun d2 h2 _ => gAdd fun _ => wA_cons (wE_op eqQOk (wE_tki (n + 1497) rfl 6 rfl (by omega) (by omega) fun d3 h3 _ => wE_int (gEqI fun _ => wA_cons (wE_op gtOk (wE_tki (n + 1496) rfl 3 rfl (by omega) (by omega) fun d4 h4 _ => wE_int (gGt fun _ => wA_nil ⟨by show 4 ≤ sizeLine; decide, fun _ => wG_tup rfl fun us hu => ?_⟩)))))))))))))))
  match us, hu with
  | [w1, w2, w3, w4], _ =>
  refine wGs_cons (wG_name (wGs_cons (wG_name (wGs_cons (wG_name (wGs_cons (wG_name (wGs_nil ?_))))))))
  generalize decide ((d3 : Int) = 0) = en
  generalize decide ((0 : Int) < (d4 : Int)) = few
  obtain ⟨hh, eh⟩ : ∃ hh : Nat, hh = 1 + d1 := ⟨_, rfl⟩
  obtain ⟨r, er⟩ : ∃ r : Nat, r = 1 + d2 := ⟨_, rfl⟩
  rw [show (1 : Int) + (d1 : Int) = (hh : Int) by omega, show (1 : Int) + (d2 : Int) = (r : Int) by omega]
  have hr : HR hh r := ⟨by omega, by omega, by omega, by omega⟩
  show wS _ _ _ (rhoO q (n + 1496) u c hh r en few .no .no .no .no .no .no .no) _
  -- the ring
  refine wS_seqI (fun ρ => ∃ (l : List Mo) (N : Nat), n + 1000 ≤ N ∧ 1 ≤ l.length ∧ l.length ≤ 8 ∧ (∀ x ∈ l, MoOk hh r x) ∧ ρ = rhoO q N u c hh r en few (.v (.lst (l.map moT))) .no .no .no .no .no .no) ?_ fun ρ ⟨l, N, hN, l1, l8, ol, e⟩ => ?_
  · refine wS_ow (i := 0) (p := q) (Bx (n + 1320 + 1)) rfl (mono (by omega)) ?_
    have fin : ∀ d : Nat, d < 8 → ∀ v : V, ∃ m N : Nat, T.int (1 + (d : Int)) = .int m ∧ m ≤ 24 ∧ rhoO q (n + 1320) u c hh r en few .no .no .no .no .no .no .no = rhoO q (N + 40 * m) u c hh r en few .no .no .no .no .no .no .no ∧ ∀ l : List Mo, l.length = m → (∀ x ∈ l, MoOk hh r x) → ∀ v : V, ∃ (l0 : List Mo) (N0 : Nat), n + 1000 ≤ N0 ∧ 1 ≤ l0.length ∧ l0.length ≤ 8 ∧ (∀ x ∈ l0, MoOk hh r x) ∧ rhoO q N u c hh r en few (.v (.lst (l.map moT))) .no .no .no .no .no .no = rhoO q N0 u c hh r en few (.v (.lst (l0.map moT))) .no .no .no .no .no .no := fun d hd _ => by
      refine ⟨1 + d, n + 1320 - 40 * (1 + d), by congr 1, by omega, by rw [show n + 1320 - 40 * (1 + d) + 40 * (1 + d) = n + 1320 by omega], fun l hl ho _ => ⟨l, n + 1320 - 40 * (1 + d), by omega, by omega, by omega, ho, rfl⟩⟩
    exact wS_set (wE_F (wF_moms hr (wE_op addOk (wE_int (wE_tk (n + 1320) rfl (wE_if (wT_tru (wE_x rfl ⟨_, rfl, ite_c (fun _ => wE_int ⟨rfl, 8, rfl, by omega, by omega, fun d hd _ => gAdd (fin d hd)⟩) fun _ => wE_int ⟨rfl, 4, rfl, by omega, by omega, fun d hd _ => gAdd (fin d (by omega))⟩⟩))))))))
  subst e
  refine wS_ow (i := 0) (p := q) (Bx (n + 1000)) rfl (mono hN) ?_
  show wS _ _ _ (rhoO q (n + 1000) u c hh r en few (.v (.lst (l.map moT))) .no .no .no .no .no .no) _
  -- of few of them
  refine wS_seqI (fun ρ => ∃ (l : List Mo) (N : Nat) (s7 : Sl), n + 500 ≤ N ∧ 1 ≤ l.length ∧ l.length ≤ 8 ∧ (∀ x ∈ l, MoOk hh r x) ∧ ρ = rhoO q N u c hh r en few (.v (.lst (l.map moT))) s7 .no .no .no .no .no) ?_ fun ρ ⟨l, N, s7, hN, l1, l8, ol, e⟩ => ?_
  · refine wS_if (wT_tru (wE_v rfl fun _ => ⟨_, rfl, ite_c (fun _ => ?_) fun _ => wS_next ⟨l, n + 1000, .no, by omega, l1, l8, ol, rfl⟩⟩))
    have hlen : ∀ (a : Nat) (l : List Mo) (ρ' : TL.Env), ρ'[a]? = some (.v (.lst (l.map moT))) → ∀ Φ : V → T → TL.Env → Prop, (∀ v, Φ v (.int (l.length : Nat)) ρ') → wE E00 X00 (tCB (rLenU K) (tCons (tVar a) tNil)) ρ' Φ := fun a l ρ' ha Φ hk => wE_cb lenOk (wA_cons (wE_v ha fun _ => wA_nil (gLenL fun v => by rw [List.length_map]; exact hk v)))
    refine wS_seq (wS_set (wE_F (wF_draw (s6 := .v (.lst (l.map moT))) (a := 6) (b := 0) l1 (by omega) rfl ⟨by decide, by decide⟩ (hlen 6 l) (wE_int ⟨2, n + 998, rfl, by omega, rfl, fun l2 hl2 h2 _ => ?_⟩))))
    show wS _ _ _ (rhoO q (n + 998) u c hh r en few (.v (.lst (l.map moT))) (.v (.lst (l2.map moT))) .no .no .no .no .no) _
    refine wS_set (wE_F (wF_draw (s6 := .v (.lst (l.map moT))) (s7 := .v (.lst (l2.map moT))) (a := 7) (b := 0) (l := l2) (by omega) (by omega) rfl ⟨by decide, by decide⟩ (fun ρ' ha Φ hk => wE_int (by have := hk (.int 2); rw [hl2] at this; exact this)) (wE_cb lenOk (wA_cons (wE_v rfl fun _ => wA_nil (gLenL fun _ => ⟨l.length, n + 998 - l.length, ?_, by omega, ?_, fun l3 hl3 h3 _ => ⟨l3, n + 998 - l.length, .v (.lst (l2.map moT)), by omega, by omega, by omega, fun x hx => ol x (h2 x (h3 x hx)), rfl⟩⟩))))))
    · rw [List.length_map]
    · rw [show n + 998 - l.length + l.length = n + 998 by omega]
  subst e
  refine wS_ow (i := 0) (p := q) (Bx (n + 500)) rfl (mono hN) (wS_no 7 ?_)
  show wS _ _ _ (rhoO q (n + 500) u c hh r en few (.v (.lst (l.map moT))) .no .no .no .no .no .no) _
  -- the head
  refine wS_seqI (fun ρ => ∃ (hd : List Mo) (N : Nat), n + 100 ≤ N ∧ hd.length ≤ 2 ∧ (∀ x ∈ hd, MoOk hh r x) ∧ ρ = rhoO q N u c hh r en few (.v (.lst (l.map moT))) .no (.v (.lst (hd.map moT))) .no .no .no .no) ?_ fun ρ ⟨hd, N, hN, hd2, od, e⟩ => ?_
  · refine wS_ow (i := 0) (p := q) (Bx (n + 400 + 1)) rfl (mono (by omega)) ?_
    exact wS_set (wE_F (wF_moms hr (wE_tki (n + 400) rfl 3 rfl (by omega) (by omega) fun d hd _ => ⟨d, n + 400 - 40 * d, rfl, by omega, by rw [show n + 400 - 40 * d + 40 * d = n + 400 by omega]; rfl, fun l hl ho _ => ⟨l, n + 400 - 40 * d, by omega, by omega, ho, rfl⟩⟩)))
  subst e
  refine wS_ow (i := 0) (p := q) (Bx (n + 2)) rfl (mono (by omega)) ?_
  refine wS_seq (wS_par (wA_cons (wE_tki (n + 1) rfl 4 rfl (by omega) (by omega) fun lt hlt _ => wA_cons (wE_op addOk (wE_int (wE_tki n rfl 3 rfl (by omega) (by omega) fun tm htm _ => gAdd fun _ => wA_nil ⟨_, _, rfl, ?_⟩))))))
  rw [show (1 : Int) + (tm : Int) = ((1 + tm : Nat) : Int) from rfl]
  show wS _ _ _ (rhoO q n u c hh r en few (.v (.lst (l.map moT))) .no (.v (.lst (hd.map moT))) (.v (.int lt)) (.v (.int (1 + tm : Nat))) .no .no) _
  refine wS_seqI (fun ρ => ∃ lt tm : Nat, lt ≤ 5 ∧ 1 ≤ tm ∧ tm ≤ 3 ∧ ρ = rhoO q n u c hh r en few (.v (.lst (l.map moT))) .no (.v (.lst (hd.map moT))) (.v (.int lt)) (.v (.int tm)) .no .no) ?_ fun ρ ⟨lt, tm, hlt, tm1, tm3, e⟩ => ?_
  · refine wS_if (wT_tru (wE_x rfl ⟨_, rfl, ite_c (fun _ => ?_) fun _ => wS_next ⟨lt, 1 + tm, by omega, by omega, by omega, rfl⟩⟩))
    refine wS_par (wA_cons (wE_op addOk (wE_v rfl fun _ => wE_int (gAdd fun _ => wA_cons (wE_int (wA_nil ⟨_, _, rfl, lt + 2, 2, by omega, by omega, by omega, rfl⟩))))))
  subst e
  -- the size
  obtain ⟨tn, etn⟩ : ∃ tn : Nat, tn = tm * l.length := ⟨_, rfl⟩
  have tn1 : 1 ≤ tn := by rw [etn]; exact Nat.mul_pos (by omega) (by omega)
  have tnl : tn ≤ 24 := by rw [etn]; exact Nat.le_trans (Nat.mul_le_mul tm3 l8) (by decide)
  have h24 : (24 : Int) - (hd.length : Int) = ((24 - hd.length : Nat) : Int) := by omega
  refine wS_seqI (fun ρ => ∃ (sz : Nat) (N : Nat), N = 0 ∧ sz = min (24 - hd.length) (lt + tn) ∧ ρ = rhoO q n u c hh r en few (.v (.lst (l.map moT))) .no (.v (.lst (hd.map moT))) (.v (.int lt)) (.v (.int tm)) (.v (.int sz)) .no) ?_ fun ρ ⟨sz, N, _, esz, e⟩ => ?_
  · refine wS_set (wE_cb minOk (wA_cons (wE_op subOk (wE_int (wE_cb lenOk (wA_cons (wE_v rfl fun _ => wA_nil (gLenL fun _ => gSub fun _ => wA_cons (wE_op addOk (wE_v rfl fun _ => wE_op mulOk (wE_v rfl fun _ => wE_cb lenOk (wA_cons (wE_v rfl fun _ => wA_nil (gLenL fun _ => gMulL (by omega) (by omega) fun _ => gAdd fun _ => wA_nil (gMin fun _ => ?_)))))))))))))))
    rw [List.length_map, List.length_map, h24, show (lt : Int) + (tm : Int) * (l.length : Int) = ((lt + tn : Nat) : Int) by rw [etn]; omega]
    refine ⟨min (24 - hd.length) (lt + tn), 0, rfl, rfl, ?_⟩
    rw [show (if ((lt + tn : Nat) : Int) < ((24 - hd.length : Nat) : Int) then ((lt + tn : Nat) : Int) else ((24 - hd.length : Nat) : Int)) = ((min (24 - hd.length) (lt + tn) : Nat) : Int) by split <;> omega]
    rfl
  subst e
  refine wS_seqI (fun ρ => ∃ lt sz : Nat, lt < sz ∧ sz ≤ 24 - hd.length ∧ ρ = rhoO q n u c hh r en few (.v (.lst (l.map moT))) .no (.v (.lst (hd.map moT))) (.v (.int lt)) (.v (.int tm)) (.v (.int sz)) .no) ?_ fun ρ ⟨lt, sz, hls, hsz, e⟩ => ?_
  · refine wS_if (wT_test (wE_op gtOk (wE_op addOk (wE_op mulOk (wE_v rfl fun _ => wE_cb lenOk (wA_cons (wE_v rfl fun _ => wA_nil (gLenL fun _ => gMulL (by omega) (by omega) fun _ => wE_v rfl fun _ => gAdd fun _ => wE_v rfl fun _ => gGt fun _ => ⟨_, rfl, ite_c (fun z => ?_) fun z => wS_next ⟨lt, sz, ?_, by omega, rfl⟩⟩))))))))
    · refine wS_seq (wS_par (wA_cons (wE_int (wA_cons (wE_cb minOk (wA_cons (wE_op subOk (wE_int (wE_cb lenOk (wA_cons (wE_v rfl fun _ => wA_nil (gLenL fun _ => gSub fun _ => wA_cons (wE_op mulOk (wE_op divOk (wE_int (wE_cb lenOk (wA_cons (wE_v rfl fun _ => wA_nil (gLenL fun _ => gDiv ?_ ?_ fun _ => wE_cb lenOk (wA_cons (wE_v rfl fun _ => wA_nil (gLenL fun _ => ?_))))))))))))))))))))))
      · rw [List.length_map]; omega
      · rw [List.length_map]; omega
      obtain ⟨dv, edv⟩ : ∃ dv : Nat, dv = 24 / l.length := ⟨_, rfl⟩
      have d24 : dv ≤ 24 := by rw [edv]; exact Nat.div_le_self ..
      obtain ⟨pr, epr⟩ : ∃ pr : Nat, pr = dv * l.length := ⟨_, rfl⟩
      have pr17 : 17 ≤ pr := by
        have := Nat.mod_add_div 24 l.length
        have := Nat.mod_lt 24 (show 0 < l.length by omega)
        rw [epr, edv, Nat.mul_comm]
        omega
      rw [List.length_map, show (24 : Int) / (l.length : Int) = ((dv : Nat) : Int) by rw [edv]; rfl]
      refine gMulL (by omega) (by omega) fun _ => wA_nil (gMin fun _ => wA_nil ⟨_, _, rfl, ?_⟩)
      rw [List.length_map, h24, show (dv : Int) * (l.length : Int) = ((pr : Nat) : Int) by rw [epr]; rfl]
      obtain ⟨s0, es0⟩ : ∃ s0 : Nat, s0 = min (24 - hd.length) pr := ⟨_, rfl⟩
      rw [show (if ((pr : Nat) : Int) < ((24 - hd.length : Nat) : Int) then ((pr : Nat) : Int) else ((24 - hd.length : Nat) : Int)) = ((s0 : Nat) : Int) by split <;> omega]
      show wS _ _ _ (rhoO q n u c hh r en few (.v (.lst (l.map moT))) .no (.v (.lst (hd.map moT))) (.v (.int 0)) (.v (.int tm)) (.v (.int s0)) .no) _
      refine wS_set (wE_op subOk (wE_v rfl fun _ => wE_op modOk (wE_cb intOk (wA_cons (wE_v rfl fun _ => wA_nil (gInt fun _ => wE_cb lenOk (wA_cons (wE_v rfl fun _ => wA_nil (gLenL fun _ => gMod ?_ fun _ => gSub fun _ => ?_)))))))))
      · rw [List.length_map]; omega
      rw [List.length_map]
      have ml := Nat.mod_lt s0 (show 0 < l.length by omega)
      refine ⟨0, s0 - s0 % l.length, by omega, by omega, ?_⟩
      rw [show (s0 : Int) - (s0 : Int) % (l.length : Int) = ((s0 - s0 % l.length : Nat) : Int) by omega]
      rfl
    · have z := of_decide_eq_false z
      rw [List.length_map, show (tm : Int) * (l.length : Int) = ((tn : Nat) : Int) by rw [etn]; rfl] at z
      omega
  subst e
  -- the moments
  have gm : ∀ i, (l.map moT)[i % l.length]? = some (moT (l.getD (i % l.length) mo0)) := fun i => by
    have ml := Nat.mod_lt i (show 0 < l.length by omega)
    rw [List.getElem?_map, List.getD_eq_getElem?_getD, List.getElem?_eq_getElem ml]
    rfl
  refine wS_seq (wS_set (wE_op addOk (wE_v rfl fun _ => wE_F (wF_lcT (wI_range1 (wA_cons (wE_v rfl fun _ => wA_nil ⟨(sz : Int), rfl, by omega, by omega, rfl, by rw [rngT_len]; exact sm1000 (by omega), fun _ => true, fun x => moT (l.getD (natOf x % l.length) mo0), fun x v hx => ?_, fun _ => ?_⟩)))))))
  · obtain ⟨k, hk2, e⟩ := List.getElem_of_mem hx
    obtain ⟨e1, kl⟩ := rngT_get (by rw [List.getElem?_eq_getElem hk2, e])
    subst e1
    rw [show ((0 : Int) + (k : Nat)) = (k : Int) from Int.zero_add _]
    refine wGa_name (by decide) ⟨rfl, rfl, wT_yes ⟨rfl, rfl, fun _ => wE_op ixOk (wE_v rfl fun _ => wE_op modOk (wE_cb intOk (wA_cons (wE_v rfl fun _ => wA_nil (gInt fun _ => wE_cb lenOk (wA_cons (wE_v rfl fun _ => wA_nil (gLenL fun _ => gMod ?_ fun _ => ?_))))))))⟩⟩
    · rw [List.length_map]; omega
    rw [List.length_map, show (k : Int) % (l.length : Int) = ((k % l.length : Nat) : Int) from rfl]
    exact gIxW (k % l.length) (.inl rfl) (gm k) fun _ => ⟨rfl, rfl⟩
  have em : ((rngT 0 (sz : Int)).filter fun _ => true).map (fun x => moT (l.getD (natOf x % l.length) mo0)) = ((List.range sz).map fun k => l.getD (k % l.length) mo0).map moT := by
    rw [rng_all, List.map_map]
    rfl
  rw [em]
  obtain ⟨ms, ems⟩ : ∃ ms, ms = hd ++ (List.range sz).map fun k => l.getD (k % l.length) mo0 := ⟨_, rfl⟩
  have lms : ms.length = hd.length + sz := by rw [ems, List.length_append, List.length_map, List.length_range]
  refine gAddL (by rw [List.length_map, List.length_map, List.length_map, List.length_range]; omega) fun _ => ?_
  rw [← List.map_append, ← ems]
  show wS _ _ _ (rhoO q n u c hh r en few (.v (.lst (l.map moT))) .no (.v (.lst (hd.map moT))) (.v (.int lt)) (.v (.int tm)) (.v (.int sz)) (.v (.lst (ms.map moT)))) _
  have oms : ∀ m ∈ ms, MoOk hh r m := fun m hm => by
    rw [ems] at hm
    rcases List.mem_append.mp hm with h | h
    · exact od m h
    · obtain ⟨k, _, rfl⟩ := List.mem_map.mp h
      have ml := Nat.mod_lt k (show 0 < l.length by omega)
      rw [List.getD_eq_getElem?_getD, List.getElem?_eq_getElem ml]
      exact ol _ (List.getElem_mem _)
  have last : ∀ bk : Option Nat, (∀ b, bk = some b → b < ms.length) → ∀ v : V, (∃ S, SkOk S ∧ T.lst [.int (hh : Nat), .int (r : Nat), tpn (ms.map moT), optN bk] = plN S) ∧ (rhoO q n u c hh r en few (.v (.lst (l.map moT))) .no (.v (.lst (hd.map moT))) (.v (.int lt)) (.v (.int tm)) (.v (.int sz)) (.v (.lst (ms.map moT))))[0]? = some (Sl.o q (Bx n)) := fun bk hb _ =>
    ⟨⟨⟨hh, r, ms, bk⟩, ⟨hr.1, hr.2.1, hr.2.2.1, hr.2.2.2, by show 1 ≤ ms.length; omega, by show ms.length ≤ 24; omega, oms, hb⟩, rfl⟩, rfl⟩
  refine wS_ret (wE_lstD (wA_cons (wE_v rfl fun _ => wA_cons (wE_v rfl fun _ => wA_cons (wE_cb tupNOk (wA_cons (wE_v rfl fun _ => wA_nil (show fTupN [.lst (ms.map moT)] _ from fun _ => wA_cons (wE_if (wT_tru (wE_v rfl fun _ => ⟨_, rfl, ite_c (fun _ => ?_) fun _ => ?_⟩)))))))))))
  · exact wE_non (wA_nil ⟨by show 4 ≤ sizeLine; decide, last none fun b e => nomatch e⟩)
  · refine wE_op addOk (wE_cb lenOk (wA_cons (wE_v rfl fun _ => wA_nil (gLenL fun _ => wE_v rfl fun _ => gAdd fun _ => wA_nil ⟨by show 4 ≤ sizeLine; decide, ?_⟩))))
    rw [List.length_map]
    exact last (some (hd.length + lt)) fun b e => by cases e; omega
end K10
set_option maxHeartbeats 4000000
namespace K10
open PySem PySem.Spec PyProof.Rows L2 TL TC TD K09
def exAsk : List Str := ["InvalidTick", "Ended", "NeverEnds", "InvalidHouses", "InvalidReaders", "TooMany"]
def outV (w : V) : Out → List T
  | .told S => [.str "told", plT S]
  | .tick _ => [.str "tick", .raw w]
  | .ended n => [.str "ended", .raw (.int (n : Nat))]
  | .never => [.str "never", .non]
  | .houses n => [.str "houses", .raw (.int (n : Nat))]
  | .readers n => [.str "readers", .raw (.int (n : Nat))]
  | .many n => [.str "many", .raw (.int (n : Nat))]
theorem out_rep {G : Hp} {w : V} {o : Out} {us : List V} (hw : ∀ x, o = .tick x → Rep G x w) (h : RepL G (outV w o) us) : RepL G (outU o) us := by
  cases o with
  | told S => exact h
  | never => exact h
  | tick x =>
    obtain ⟨v1, r1, rfl, e1, v2, r2, rfl, e2, e3⟩ := h
    cases e2
    exact ⟨v1, _, rfl, e1, _, _, rfl, hw x rfl, e3⟩
  | ended n => exact h
  | houses n => exact h
  | readers n => exact h
  | many n => exact h
theorem fo_tick {A B : Sk} {x : T} : foO A B ≠ .tick x := by
  unfold foO
  split
  · exact fun e => nomatch e
  · split
    · exact fun e => nomatch e
    · split
      · exact fun e => nomatch e
      · split
        · exact fun e => nomatch e
        · exact fun e => nomatch e
theorem errU_any {K : PySem.W.Frag} {w w' : V} {o : Out} {er : Er} (hn : ∀ x, o ≠ .tick x) (h : errU K w o er) : errU K w' o er := by
  cases o with
  | tick x => exact absurd rfl (hn x)
  | told S => exact h
  | never => exact h
  | ended n => exact h
  | houses n => exact h
  | readers n => exact h
  | many n => exact h
theorem perm1 {α : Type} (a : α) : perm [0] [a] = [a] := rfl
theorem wE_plainU {K : PySem.W.Frag} {W : WX} {X : XP} {ρ : TL.Env} {te : TE} {Φ : V → T → TL.Env → Prop} (h : wE W X te ρ fun _ x ρ1 => ∃ S, x = skT K S ∧ ∀ v, Φ v (plT S) ρ1) : wE W X (tCallS (sp_law_plain K) (WE W) (tCons te tNil)) ρ Φ := by
  refine wE_callV (wA_cons (wE_imp h fun _ x ρ1 ⟨S, e, hk⟩ => ?_))
  subst e
  exact wA_nil ⟨⟨S, rfl⟩, ⟨_, fun t po => po S rfl, hk⟩, fun er z => z.elim⟩
abbrev rhoA (d : Int) (A : Addr) (ws : List V) (xs : List T) (c : Bool) : TL.Env := [.x (.int d) (.int d), .x (.ref A) (dgL ws xs), .x (.bl c) (.bl c), .no]
theorem r_law_ask {K : PySem.W.Frag} (XM : ∀ x ∈ exAsk, ∀ y ∈ exAsk, PySem.W.exmOne K (.ref (He.ga K x)) (.ref (He.ga K y)) = some (x == y)) (vs : List V) (H : Hp) (Q : VK) (E : XK) (h : sp_law_ask K vs H Q E) : t_law_ask K E { nx := fun _ H' => Q .non H', rt := Q } (L2.start N_law_ask vs) H := by
  obtain ⟨d, xs, o, ws, A, c, G, rfl, hA, rL, gh, ao, kk⟩ := h
  have S : Sta ⟨H, G⟩ G H (L2.start N_law_ask [.int d, .ref A, .bl c]) (envOf N_law_ask.length [.int d, .ref A, .bl c] [.int d, dgL ws xs, .bl c]) :=
    sta_start Le.rfl Le.rfl gh (fun _ _ h => h) ⟨_, _, rfl, rfl, _, _, rfl, ⟨G, fun _ _ h => h, A, rfl, hA, rL⟩, _, _, rfl, rfl, rfl⟩
  have gr : ∀ {G' H' : Hp} {σ' : L2.St} {ρ' : TL.Env}, Sta ⟨H, G⟩ G' H' σ' ρ' → Grow G H G' H' := fun S' => ⟨S'.g0, S'.bh, S'.gh, S'.fr⟩
  have xm : ∀ x y c, x ∈ exAsk → y ∈ exAsk → (x == y) = c → PySem.W.exmOne K (.ref (He.ga K x)) (.ref (He.ga K y)) = some c := fun x y c h1 h2 e => by rw [← e]; exact XM x h1 y h2
  obtain ⟨w, ew⟩ : ∃ w, w = (ws[1]?).getD .non := ⟨_, rfl⟩
  have hw : ∀ x, o = .tick x → Rep G x w := fun x e => by
    cases ao with
    | shortest ok => cases e
    | @later S0 x0 ok dx =>
      have : x0 = x := by
        unfold laO at e
        split at e
        · split at e <;> cases e
        · exact Out.tick.inj e
      subst this
      obtain ⟨w0, r0, rfl, _, w1, r1, rfl, rx, _⟩ := rL
      rw [ew]
      exact rx
    | followed oa ob => exact absurd e fo_tick
  have body : wS (WD E) (fun _ _ => False) (t_law_ask K E) (rhoA d A ws xs c) { rf := fun us _ => us = outV w o } := by
    unfold t_law_ask
    refine wS_try (fun er ρ' => errU K w o er ∧ ρ' = rhoA d A ws xs c) (fun W => ?_) fun er ρ' ⟨h1, h2⟩ => ?_
    · cases ao with
      | @shortest S0 ok =>
        match ws, rL.len with
        | [w0], _ =>
        have a0 : (rhoA 0 A [w0] [skT K S0] c)[1]? = some (.x (.ref A) (dgL [w0] [skT K S0])) := rfl
        refine wS_seq (wS_if (wT_test (wE_op eqQOk (wE_x rfl (wE_int (gEqI fun _ => ⟨_, rfl, ite_t ?_⟩))))))
        refine wS_retF (wF_lst (wA_cons (wE_str (wA_cons (wE_plainU (wE_if (wT_tru (wE_x rfl ⟨_, rfl, ite_c (fun _ => ?_) fun _ => ?_⟩))))))))
        · refine wE_callV (wA_perm (wA_cons (wE_ixA 0 0 rfl a0 rfl rfl (wA_nil ⟨rfl, ?_⟩))))
          rw [perm1, perm1]
          exact ⟨⟨S0, rfl, ok⟩, ⟨_, fun t po => po S0 rfl, fun _ => ⟨_, rfl, fun _ => wA_nil ⟨by show 2 ≤ sizeLine; decide, rfl⟩⟩⟩, fun er z => z.elim⟩
        · exact wE_callV (wA_cons (wE_ixA 0 0 rfl a0 rfl rfl (wA_nil ⟨⟨S0, rfl, ok⟩, ⟨_, fun t po => po S0 rfl, fun _ => ⟨_, rfl, fun _ => wA_nil ⟨by show 2 ≤ sizeLine; decide, rfl⟩⟩⟩, fun er z => z.elim⟩)))
      | @later S0 x ok dx =>
        match ws, rL.len, ew with
        | [w0, w1], _, ew =>
        have a0 : (rhoA 1 A [w0, w1] [skT K S0, x] c)[1]? = some (.x (.ref A) (dgL [w0, w1] [skT K S0, x])) := rfl
        refine wS_seq (wS_if (wT_test (wE_op eqQOk (wE_x rfl (wE_int (gEqI fun _ => ⟨_, rfl, ite_f (wS_next ?_)⟩))))))
        refine wS_seq (wS_if (wT_test (wE_op eqQOk (wE_x rfl (wE_int (gEqI fun _ => ⟨_, rfl, ite_t ?_⟩))))))
        have good : ∀ t, (∀ S1 x1, [skT K S0, x] = [skT K S1, x1] → ∃ S', laO S1 x1 = .told S' ∧ t = skT K S') → ∃ S', t = skT K S' ∧ [T.str "told", plT S'] = outV w (laO S0 x) := fun t po => by
          obtain ⟨S', e1, e2⟩ := po S0 x rfl
          exact ⟨S', e2, by rw [e1]; rfl⟩
        have bad : ∀ er, (∃ S1 x1 u1 w', [skT K S0, x] = [skT K S1, x1] ∧ [w0, w1] = [u1, w'] ∧ errU K w' (laO S1 x1) er) → errU K w (laO S0 x) er := fun er ⟨S1, x1, u1, w', e1, e2, h⟩ => by
          obtain ⟨rfl, e3⟩ := sk_one e1
          rw [List.cons.injEq] at e3
          cases e2
          rw [e3.1, ew]
          exact h
        refine wS_retF (wF_lst (wA_cons (wE_str (wA_cons (wE_plainU (wE_if (wT_tru (wE_x rfl ⟨_, rfl, ite_c (fun _ => ?_) fun _ => ?_⟩))))))))
        · refine wE_call (wA_perm (wA_cons (wE_ixA 1 1 rfl a0 rfl rfl (wA_cons (wE_ixA 0 0 rfl a0 rfl rfl (wA_nil ⟨rfl, ?_⟩))))))
          rw [perm2, perm2]
          exact ⟨⟨S0, x, rfl, ok, dx⟩, fun t v po => let ⟨S', e1, e2⟩ := good t po; ⟨S', e1, fun _ => wA_nil ⟨by show 2 ≤ sizeLine; decide, e2⟩⟩, fun er h => ⟨bad er h, rfl⟩⟩
        · exact wE_call (wA_cons (wE_ixA 0 0 rfl a0 rfl rfl (wA_cons (wE_ixA 1 1 rfl a0 rfl rfl (wA_nil ⟨⟨S0, x, rfl, ok, dx⟩, fun t v po => let ⟨S', e1, e2⟩ := good t po; ⟨S', e1, fun _ => wA_nil ⟨by show 2 ≤ sizeLine; decide, e2⟩⟩, fun er h => ⟨bad er h, rfl⟩⟩)))))
      | @followed B C oa ob =>
        match ws, rL.len with
        | [w0, w1], _ =>
        have a0 : (rhoA 2 A [w0, w1] [skT K B, skT K C] c)[1]? = some (.x (.ref A) (dgL [w0, w1] [skT K B, skT K C])) := rfl
        refine wS_seq (wS_if (wT_test (wE_op eqQOk (wE_x rfl (wE_int (gEqI fun _ => ⟨_, rfl, ite_f (wS_next ?_)⟩))))))
        refine wS_seq (wS_if (wT_test (wE_op eqQOk (wE_x rfl (wE_int (gEqI fun _ => ⟨_, rfl, ite_f (wS_next ?_)⟩))))))
        have good : ∀ t, (∀ A1 B1, [skT K B, skT K C] = [skT K A1, skT K B1] → ∃ S', foO A1 B1 = .told S' ∧ t = skT K S') → ∃ S', t = skT K S' ∧ [T.str "told", plT S'] = outV w (foO B C) := fun t po => by
          obtain ⟨S', e1, e2⟩ := po B C rfl
          exact ⟨S', e2, by rw [e1]; rfl⟩
        have bad : ∀ er, (∃ A1 B1, [skT K B, skT K C] = [skT K A1, skT K B1] ∧ errU K .non (foO A1 B1) er) → errU K w (foO B C) er := fun er ⟨A1, B1, e1, h⟩ => by
          obtain ⟨rfl, e3⟩ := sk_one e1
          obtain ⟨rfl, _⟩ := sk_one e3
          exact errU_any (fun x => fo_tick) h
        refine wS_retF (wF_lst (wA_cons (wE_str (wA_cons (wE_plainU (wE_if (wT_tru (wE_x rfl ⟨_, rfl, ite_c (fun _ => ?_) fun _ => ?_⟩))))))))
        · refine wE_call (wA_perm (wA_cons (wE_ixA 1 1 rfl a0 rfl rfl (wA_cons (wE_ixA 0 0 rfl a0 rfl rfl (wA_nil ⟨rfl, ?_⟩))))))
          rw [perm2]
          exact ⟨⟨B, C, rfl, oa, ob⟩, fun t v po => let ⟨S', e1, e2⟩ := good t po; ⟨S', e1, fun _ => wA_nil ⟨by show 2 ≤ sizeLine; decide, e2⟩⟩, fun er h => ⟨bad er h, rfl⟩⟩
        · exact wE_call (wA_cons (wE_ixA 0 0 rfl a0 rfl rfl (wA_cons (wE_ixA 1 1 rfl a0 rfl rfl (wA_nil ⟨⟨B, C, rfl, oa, ob⟩, fun t v po => let ⟨S', e1, e2⟩ := good t po; ⟨S', e1, fun _ => wA_nil ⟨by show 2 ≤ sizeLine; decide, e2⟩⟩, fun er h => ⟨bad er h, rfl⟩⟩)))))
    · subst h2
      cases o with
      | told S0 => exact h1.elim
      | tick x =>
        have h1 : er = er1 K "InvalidTick" w := h1
        subst h1
        exact ⟨true, xm "InvalidTick" "InvalidTick" _ (by decide) (by decide) (by decide), fun _ => wSuite_wordR (u := w) rfl rfl rfl (by show 3 < 4; decide) rfl, (fun e => nomatch e)⟩
      | ended n =>
        have h1 : er = ⟨He.ga K "Ended", some (mkF ["ticks"] [.int (n : Nat)])⟩ := h1
        subst h1
        exact ⟨false, xm "Ended" "InvalidTick" _ (by decide) (by decide) (by decide), (fun e => nomatch e), fun _ => ⟨true, xm "Ended" "Ended" _ (by decide) (by decide) (by decide), fun _ => wSuite_wordR (u := .int (n : Nat)) rfl rfl rfl (by show 3 < 4; decide) rfl, (fun e => nomatch e)⟩⟩
      | never =>
        have h1 : er = ⟨He.ga K "NeverEnds", none⟩ := h1
        subst h1
        refine ⟨false, xm "NeverEnds" "InvalidTick" _ (by decide) (by decide) (by decide), (fun e => nomatch e), fun _ => ⟨false, xm "NeverEnds" "Ended" _ (by decide) (by decide) (by decide), (fun e => nomatch e), fun _ => ⟨true, xm "NeverEnds" "NeverEnds" _ (by decide) (by decide) (by decide), fun _ => wSuite_plain ?_, (fun e => nomatch e)⟩⟩⟩
        exact wS_retF (wF_lst (wA_cons (wE_str (wA_cons (wE_non (wA_nil ⟨by show 2 ≤ sizeLine; decide, rfl⟩))))))
      | houses n =>
        have h1 : er = er1 K "InvalidHouses" (.int (n : Nat)) := h1
        subst h1
        exact ⟨false, xm "InvalidHouses" "InvalidTick" _ (by decide) (by decide) (by decide), (fun e => nomatch e), fun _ => ⟨false, xm "InvalidHouses" "Ended" _ (by decide) (by decide) (by decide), (fun e => nomatch e), fun _ => ⟨false, xm "InvalidHouses" "NeverEnds" _ (by decide) (by decide) (by decide), (fun e => nomatch e), fun _ => ⟨true, xm "InvalidHouses" "InvalidHouses" _ (by decide) (by decide) (by decide), fun _ => wSuite_wordR (u := .int (n : Nat)) rfl rfl rfl (by show 3 < 4; decide) rfl, (fun e => nomatch e)⟩⟩⟩⟩
      | readers n =>
        have h1 : er = er1 K "InvalidReaders" (.int (n : Nat)) := h1
        subst h1
        exact ⟨false, xm "InvalidReaders" "InvalidTick" _ (by decide) (by decide) (by decide), (fun e => nomatch e), fun _ => ⟨false, xm "InvalidReaders" "Ended" _ (by decide) (by decide) (by decide), (fun e => nomatch e), fun _ => ⟨false, xm "InvalidReaders" "NeverEnds" _ (by decide) (by decide) (by decide), (fun e => nomatch e), fun _ => ⟨false, xm "InvalidReaders" "InvalidHouses" _ (by decide) (by decide) (by decide), (fun e => nomatch e), fun _ => ⟨true, xm "InvalidReaders" "InvalidReaders" _ (by decide) (by decide) (by decide), fun _ => wSuite_wordR (u := .int (n : Nat)) rfl rfl rfl (by show 3 < 4; decide) rfl, (fun e => nomatch e)⟩⟩⟩⟩⟩
      | many n =>
        have h1 : er = ⟨He.ga K "TooMany", some (mkF ["count"] [.int (n : Nat)])⟩ := h1
        subst h1
        exact ⟨false, xm "TooMany" "InvalidTick" _ (by decide) (by decide) (by decide), (fun e => nomatch e), fun _ => ⟨false, xm "TooMany" "Ended" _ (by decide) (by decide) (by decide), (fun e => nomatch e), fun _ => ⟨false, xm "TooMany" "NeverEnds" _ (by decide) (by decide) (by decide), (fun e => nomatch e), fun _ => ⟨false, xm "TooMany" "InvalidHouses" _ (by decide) (by decide) (by decide), (fun e => nomatch e), fun _ => ⟨false, xm "TooMany" "InvalidReaders" _ (by decide) (by decide) (by decide), (fun e => nomatch e), fun _ => ⟨true, xm "TooMany" "TooMany" _ (by decide) (by decide) (by decide), fun _ => wSuite_wordR (u := .int (n : Nat)) rfl rfl rfl (by show 3 < 4; decide) rfl, (fun e => nomatch e)⟩⟩⟩⟩⟩⟩
  exact body ⟨H, G⟩ G H _ _ S ⟨fun _ _ _ _ p => p.elim, fun _ _ _ _ _ _ p => p.elim, fun p vs ts ρ' σ' G' H' po _ hp gp bp rr S' _ => kk p vs G' H' hp gp bp (out_rep (fun x e => (hw x e).up S'.g0) (by rw [← show ts = _ from po]; exact rr)) (gr S'), fun _ _ _ _ p => p.elim, fun _ _ _ _ p => p.elim⟩ fun σ er ρ' od G' H' x a S' _ => x.elim
end K10
set_option maxHeartbeats 4000000
namespace K10
open PySem PySem.Spec PyProof.Rows L2 TL TC TD K09
local macro_rules | `(tactic| walk_at "wk") => `(tactic| repeat' (first
  | with_reducible refine wS_seq ?_
  | with_reducible refine wS_if ?_
  | with_reducible refine wS_next ?_
  | with_reducible refine wS_aug rfl ipOk ?_
  | with_reducible refine wT_not ?_
  | with_reducible refine wT_and ?_
  | with_reducible refine wT_or ?_
  | with_reducible refine wT_test ?_
  | with_reducible refine wT_tru ?_
  | with_reducible refine wT_yes ?_
  | with_reducible refine wE_op addOk ?_
  | with_reducible refine wE_op subOk ?_
  | with_reducible refine wE_op mulOk ?_
  | with_reducible refine wE_op modOk ?_
  | with_reducible refine wE_op divOk ?_
  | with_reducible refine wE_op powOk ?_
  | with_reducible refine wE_op ltOk ?_
  | with_reducible refine wE_op leOk ?_
  | with_reducible refine wE_op gtOk ?_
  | with_reducible refine wE_op geOk ?_
  | with_reducible refine wE_op isOk ?_
  | with_reducible refine wE_op isNotOk ?_
  | with_reducible refine wE_op ixOk ?_
  | with_reducible refine wE_un negOk ?_
  | with_reducible refine wE_cb intOk ?_
  | with_reducible refine wE_cb absOk ?_
  | with_reducible refine wE_cb maxOk ?_
  | with_reducible refine wE_cb minOk ?_
  | with_reducible refine wE_cb lenOk ?_
  | with_reducible refine wE_cb sumOk ?_
  | with_reducible refine wE_cb allOk ?_
  | with_reducible refine wE_cb dvmOk ?_
  | with_reducible refine wE_sl ?_
  | with_reducible refine wO_none ?_
  | with_reducible refine wO_some ?_
  | with_reducible refine wE_tup ?_
  | with_reducible refine wE_lstD ?_
  | with_reducible refine wE_listD ?_
  | refine gIxT 0 rfl rfl ?_
  | refine gIxT 1 rfl rfl ?_
  | refine And.intro (sm1000 (Nat.le_of_ble_eq_true rfl)) ?_
  | with_reducible refine wE_if ?_
  | with_reducible refine wE_int ?_
  | with_reducible refine wE_bl ?_
  | with_reducible refine wE_str ?_
  | with_reducible refine wE_non ?_
  | refine wE_x rfl ?_
  | refine wE_v rfl ?_
  | with_reducible refine wA_cons ?_
  | with_reducible refine wA_nil ?_
  | with_reducible refine gAdd ?_
  | with_reducible refine gSub ?_
  | with_reducible refine gMulL (by omega) (by omega) ?_
  | with_reducible refine gMulR (by omega) (by omega) ?_
  | with_reducible refine gMod (by omega) ?_
  | with_reducible refine gDiv (by omega) (by omega) ?_
  | with_reducible refine gPow (by omega) (by omega) (by omega) ?_
  | with_reducible refine gLt ?_
  | with_reducible refine gLe ?_
  | with_reducible refine gGt ?_
  | with_reducible refine gGe ?_
  | with_reducible refine gNeg ?_
  | with_reducible refine gInt ?_
  | with_reducible refine gAbs ?_
  | with_reducible refine gMax ?_
  | with_reducible refine gMin ?_
  | with_reducible refine gLenL ?_
  | with_reducible refine gLenT ?_
  | with_reducible refine gSlL ?_
  | with_reducible refine gSlT ?_
  | (with_reducible intro (_ : V))
  | with_reducible refine Exists.intro _ (And.intro (rfl : T.bl _ = T.bl _) ?_)
  | with_reducible refine Exists.intro _ (And.intro (rfl : T.int _ = T.int _) ?_)
  | with_reducible refine Exists.intro _ (And.intro (rfl : truT (T.bl _) = some _) ?_)))
abbrev rhoP (q : Addr) (N : Nat) (u : V) (S : Sk) (way : Nat) (en : Bool) (mm hh r : Nat) (s7 s8 s9 : Sl) : TL.Env := [.o q (Bx N), .x u (plT S), .v (.int way), .v (.bl en), .v (.int mm), .v (.int hh), .v (.int r), s7, s8, s9, .no]
section
variable {K : PySem.W.Frag} {E : WX} {X : XP} {ρ : TL.Env} {tm te : TE} {ta : TA} {Φ : V → T → TL.Env → Prop} {Ψ : List T → TL.Env → Prop} {q : Addr} {u : V} {S : Sk} {way mm hh r : Nat} {en : Bool} {s7 s8 s9 : Sl}
theorem wF_momsP {m N : Nat} (hr : HR hh r) (m24 : m ≤ 24) (h : ∀ Φ : V → T → TL.Env → Prop, (∀ v, Φ v (.int m) (rhoP q (N + 40 * m) u S way en mm hh r s7 s8 s9)) → wE E X tm (rhoP q (N + 40 * m) u S way en mm hh r s7 s8 s9) Φ) (hk : ∀ l : List Mo, l.length = m → (∀ x ∈ l, MoOk hh r x) → Ψ (l.map moT) (rhoP q N u S way en mm hh r s7 s8 s9)) :
    wF E X (tLc (iRng1 (tCons tm tNil)) (gName 10) tYes (tCallS (sp_law_a_moment K) (WE E00) (tCons (tVar 0) (tCons (tVar 5) (tCons (tVar 6) tNil)))) [10]) (rhoP q (N + 40 * m) u S way en mm hh r s7 s8 s9) Ψ := by
  refine wF_lcO (wI_range1 (wA_cons (h _ fun _ => ?_)))
  refine wA_nil ⟨(m : Int), rfl, by omega, by omega, fun k hk => ?_, fun i acc ρ => (i ≤ m ∧ ∃ l : List Mo, acc = l.map moT ∧ l.length = i ∧ ∀ x ∈ l, MoOk hh r x) ∧ ρ = rhoP q (N + 40 * m - 40 * i) u S way en mm hh r s7 s8 s9, ⟨⟨Nat.zero_le _, [], rfl, rfl, fun _ h => nomatch h⟩, rfl⟩, fun i x acc v ρ2 hx ⟨⟨hi, l, e1, hl, h4⟩, e2⟩ => ?_, fun acc ρ2 ⟨⟨hi, l, e1, hl, hok⟩, e2⟩ => ?_⟩
  · obtain rfl : k = 10 := by simpa using hk
    rfl
  · subst e2
    obtain ⟨_, hi2⟩ := rngT_get hx
    refine wGa_name (by decide) (wT_yes (ite_t ?_))
    refine wE_ow (i := 0) (Bx ((N + 40 * m - 40 * (i + 1)) + 40)) rfl (fun ts b => b.mono (by omega)) ?_
    refine wE_callO (N + 40 * m - 40 * (i + 1)) rfl (wA_cons (wE_v rfl fun _ => wA_cons (wE_v rfl fun _ => wA_nil ⟨rfl, ⟨hh, r, rfl, hr⟩, fun t v po => ?_, fun er z => z.elim⟩)))
    obtain ⟨mo, rfl, ok⟩ := po hh r rfl
    refine ⟨rfl, ?_, ⟨by omega, l ++ [mo], ?_, ?_, ?_⟩, rfl⟩
    · rw [e1, List.length_map, hl]
      exact Nat.lt_of_lt_of_le (by omega : i < 1000) (by decide)
    · rw [e1, List.map_append]; rfl
    · rw [List.length_append, hl]; rfl
    · intro y hy
      rcases List.mem_append.mp hy with hy | hy
      · exact h4 y hy
      · rw [List.mem_singleton.mp hy]; exact ok
  · subst e2 e1
    rw [rngT_len] at hl hi ⊢
    have hl2 : l.length = m := by omega
    have := hk l hl2 hok
    rw [show N + 40 * m - 40 * ((m : Int) - 0).toNat = N by omega]
    exact this
/-- a plain sky of the law's own, as data -/
theorem wE_cvN (h : wE E X te ρ fun _ x ρ1 => ∃ S, x = plN S ∧ ∀ v, Φ v (plT S) ρ1) : wE E X te ρ Φ := fun b G H σ Q S0 q ke => by
  refine h b G H σ Q S0 (fun v x ρ' G' H' ⟨S, e, p⟩ r S' l => ?_) ke
  subst e
  exact q v (plT S) ρ' G' H' (p v) (plN_T r) S' l
/-- _law_long(box, e) -/
theorem wE_long {i : Nat} (n : Nat) (e : ρ[i]? = some (.o q (Bx (n + 1500)))) (h : wA E X ta ρ fun _ ts ρ1 => ρ1[i]? = some (.o q (Bx (n + 1500))) ∧ (∃ c : Bool, ts = [.bl c]) ∧ ∀ S, SkOk S → ∀ v, Φ v (plN S) (ρ1.set i (.o q (Bx n)))) : wE E X (tCallS (sp_law_long K) (WE E) (tCons (tVar i) ta)) ρ Φ := by
  refine wE_callO n e (fun b G H σ Q S0 q0 ke => h b G H σ Q S0 (fun vs ts ρ1 G1 H1 ⟨h0, hc, hk⟩ r S1 l => q0 vs ts ρ1 G1 H1 ⟨h0, hc, fun t v ⟨S, ok, e⟩ => ?_, fun er z => z.elim⟩ r S1 l) ke)
  rw [e]
  exact hk S ok v
end
theorem r_law_pair {K : PySem.W.Frag} (vs : List V) (H : Hp) (Q : VK) (E : XK) (h : sp_law_pair K vs H Q E) : t_law_pair K E { nx := fun _ H' => Q .non H', rt := Q } (L2.start N_law_pair vs) H := by
  refine run_sO h (fun n q us ts _ hv ⟨S, e, ok⟩ => ?_) (by decide)
  subst e
  obtain ⟨u, rfl⟩ := len1 hv
  show wS _ _ _ [Sl.o q (Bx (n + 4000)), .x u (plT S), .no, .no, .no, .no, .no, .no, .no, .no, .no] _
  unfold t_law_pair
  have mono : ∀ {a b : Nat}, b ≤ a → ∀ ts, Bx a ts → Bx b ts := fun l ts b => b.mono l
  refine wS_seq (wS_par3 (wA_cons (wE_tki (n + 3999) rfl 8 rfl (by omega) (by omega) fun way hw _ => wA_cons (wE_op eqQOk (wE_tki (n + 3998) rfl 3 rfl (by omega) (by omega) fun d hd _ => wE_int (gEqI fun _ => wA_cons (wE_op addOk (wE_int (wE_tki (n + 3997) rfl 5 rfl (by omega) (by omega) fun d2 hd2 _ => gAdd fun _ => wA_nil ⟨_, _, _, rfl, ?_⟩)))))))))
  generalize decide ((d : Int) = 0) = en
  obtain ⟨mm, emm⟩ : ∃ mm : Nat, mm = 1 + d2 := ⟨_, rfl⟩
  rw [show (1 : Int) + (d2 : Int) = (mm : Int) by omega]
  refine wS_seq (wS_asg (wE_tup (wA_cons (wE_p0 (wE_x rfl ⟨S, rfl, fun _ => wA_cons (wE_p1 (wE_x rfl ⟨S, rfl, fun _ => wA_nil ⟨by show 2 ≤ sizeLine; decide, fun _ => wG_tup rfl fun us hu => ?_⟩⟩))⟩)))))
  match us, hu with
  | [w1, w2], _ =>
  refine wGs_cons (wG_name (wGs_cons (wG_name (wGs_nil ?_))))
  have hr0 : HR S.h S.r := ⟨ok.h1, ok.h3, ok.r1, ok.r3⟩
  obtain ⟨hh, ehh⟩ : ∃ hh, hh = S.h := ⟨_, rfl⟩
  obtain ⟨r, er⟩ : ∃ r, r = S.r := ⟨_, rfl⟩
  rw [← ehh, ← er] at hr0 ⊢
  show wS _ _ _ (rhoP q (n + 3997) u S way en mm hh r .no .no .no) _
  have two : ∀ A B : Sk, SkOk A → SkOk B → ∃ A' B', SkOk A' ∧ SkOk B' ∧ T.lst [plT A, plT B] = .lst [plT A', plT B'] := fun A B oa ob => ⟨A, B, oa, ob, rfl⟩
  refine wS_seq (wS_if (wT_test (wE_op ltOk (wE_v rfl fun _ => wE_int (gLt fun _ => ⟨_, rfl, ite_c (fun _ => ?_) fun _ => wS_next ?_⟩)))))
  · refine wS_ow (i := 0) (p := q) (Bx (n + 1500)) rfl (mono (by omega)) ?_
    exact wS_ret (wE_lstD (wA_cons (wE_x rfl (wA_cons (wE_cvN (wE_long n rfl (wA_cons (wE_bl (wA_nil ⟨rfl, ⟨false, rfl⟩, fun B ob _ => ⟨B, rfl, fun _ => wA_nil ⟨by show 2 ≤ sizeLine; decide, fun _ => ⟨two S B ok ob, rfl⟩⟩⟩⟩)))))))))
  refine wS_ow (i := 0) (p := q) (Bx (n + 3000 + 40 * mm)) rfl (mono (by omega)) ?_
  refine wS_seq (wS_set (wE_lstD (wA_cons (wE_v rfl fun _ => wA_cons (wE_v rfl fun _ => wA_cons (wE_cb tupOk (wA_cons (wE_F (wF_momsP (N := n + 3000) hr0 (by omega) (fun Φ hk => wE_v rfl hk) fun l hl ol => ?_)))))))))
  intro _
  refine wA_nil (show fTup [.lst (l.map moT)] _ from fun _ => wA_cons (wE_non (wA_nil ⟨by show 4 ≤ sizeLine; decide, fun _ => ?_⟩)))
  have okA : SkOk ⟨hh, r, l, none⟩ := ⟨hr0.1, hr0.2.1, hr0.2.2.1, hr0.2.2.2, by show 1 ≤ l.length; omega, by show l.length ≤ 24; omega, ol, fun b e => nomatch e⟩
  obtain ⟨A, eA⟩ : ∃ A : Sk, A = ⟨hh, r, l, none⟩ := ⟨_, rfl⟩
  have eP : T.lst [T.int (hh : Nat), .int (r : Nat), .tup (l.map moT), .non] = plT A := by rw [eA]; rfl
  rw [eP]
  rw [← eA] at okA
  show wS _ _ _ (rhoP q (n + 3000) u S way en mm hh r (.v (plT A)) .no .no) _
  have md : ∀ a : Nat, ((1 : Int) + (a : Int) % 3) = ((1 + a % 3 : Nat) : Int) := fun a => by omega
  refine wS_seqI (fun ρ => ∃ hh r, HR hh r ∧ ρ = rhoP q (n + 3000) u S way en mm hh r (.v (plT A)) .no .no) ?_ fun ρ ⟨hh, r, hr, e⟩ => ?_
  · refine wS_if (wT_test (wE_op eqQOk (wE_v rfl fun _ => wE_int (gEqI fun _ => ⟨_, rfl, ite_c (fun _ => ?_) fun _ => wS_next ⟨hh, r, hr0, rfl⟩⟩))))
    refine wS_set (wE_op addOk (wE_int (wE_op modOk (wE_cb intOk (wA_cons (wE_v rfl fun _ => wA_nil (gInt fun _ => wE_int (gMod (by decide) fun _ => gAdd fun _ => ?_))))))))
    rw [md]
    exact ⟨1 + hh % 3, r, ⟨by omega, by omega, hr0.2.2.1, hr0.2.2.2⟩, rfl⟩
  subst e
  refine wS_seqI (fun ρ => ∃ hh r, HR hh r ∧ ρ = rhoP q (n + 3000) u S way en mm hh r (.v (plT A)) .no .no) ?_ fun ρ ⟨hh, r, hr, e⟩ => ?_
  · refine wS_if (wT_test (wE_op eqQOk (wE_v rfl fun _ => wE_int (gEqI fun _ => ⟨_, rfl, ite_c (fun _ => ?_) fun _ => wS_next ⟨hh, r, hr, rfl⟩⟩))))
    refine wS_set (wE_op addOk (wE_int (wE_op modOk (wE_cb intOk (wA_cons (wE_v rfl fun _ => wA_nil (gInt fun _ => wE_int (gMod (by decide) fun _ => gAdd fun _ => ?_))))))))
    rw [md]
    exact ⟨hh, 1 + r % 3, ⟨hr.1, hr.2.1, by omega, by omega⟩, rfl⟩
  subst e
  refine wS_seq (wS_if (wT_test (wE_op eqQOk (wE_v rfl fun _ => wE_int (gEqI fun _ => ⟨_, rfl, ite_c (fun _ => ?_) fun _ => wS_next ?_⟩)))))
  · refine wS_ow (i := 0) (p := q) (Bx (n + 1500)) rfl (mono (by omega)) ?_
    exact wS_ret (wE_lstD (wA_cons (wE_v rfl fun _ => wA_cons (wE_cvN (wE_long n rfl (wA_cons (wE_bl (wA_nil ⟨rfl, ⟨false, rfl⟩, fun B ob _ => ⟨B, rfl, fun _ => wA_nil ⟨by show 2 ≤ sizeLine; decide, fun _ => ⟨two A B okA ob, rfl⟩⟩⟩⟩))))))))
  refine wS_seqI (fun ρ => ∃ mo N : Nat, n + 2000 ≤ N ∧ 1 ≤ mo ∧ mo ≤ 24 ∧ ρ = rhoP q N u S way en mm hh r (.v (plT A)) (.v (.int mo)) .no) ?_ fun ρ ⟨mo, N, hN, o1, o24, e⟩ => ?_
  · have no : ∀ (M : Nat), n + 2001 ≤ M → wE (WD E) (fun er ρ' => noX [u] [plT S] er ∧ ρ'[0]? = some (Sl.o q (Bx n))) (tOp (rAddU K) (tC (.int 1)) (tCallS (sp_law_take K) (WE (WD E)) (tCons (tVar 0) (tCons (tC (.int 4)) tNil)))) (rhoP q M u S way en mm hh r (.v (plT A)) .no .no) fun v x ρ1 => ∃ mo N : Nat, n + 2000 ≤ N ∧ 1 ≤ mo ∧ mo ≤ 24 ∧ ρ1.set 8 (.v x) = rhoP q N u S way en mm hh r (.v (plT A)) (.v (.int mo)) .no := fun M hM => by
      refine wE_ow (i := 0) (p := q) (Bx (n + 2000 + 1)) rfl (mono (by omega)) ?_
      exact wE_op addOk (wE_int (wE_tki (n + 2000) rfl 4 rfl (by omega) (by omega) fun d hd _ => gAdd fun _ => ⟨1 + d, n + 2000, by omega, by omega, by omega, by rw [show (1 : Int) + (d : Int) = ((1 + d : Nat) : Int) by omega]; rfl⟩))
    refine wS_set (wE_if (wT_and (wT_test (wE_op ltOk (wE_v rfl fun _ => wE_int (gLt fun _ => ⟨_, rfl, ite_c (fun _ => ?_) fun _ => ite_f (no (n + 3000) (by omega))⟩))))))
    refine wT_test (wE_op eqQOk (wE_tki (n + 2999) rfl 2 rfl (by omega) (by omega) fun d hd _ => wE_int (gEqI fun _ => ⟨_, rfl, ite_c (fun _ => ?_) fun _ => no (n + 2999) (by omega)⟩)))
    refine wE_op addOk (wE_op subOk (wE_int (wE_v rfl fun _ => gSub fun _ => wE_tki (n + 2998) rfl 2 rfl (by omega) (by omega) fun d hd _ => gAdd fun _ => ⟨24 - mm + d, n + 2998, by omega, by omega, by omega, ?_⟩)))
    rw [show (24 : Int) - (mm : Int) + (d : Int) = ((24 - mm + d : Nat) : Int) by omega]
    rfl
  subst e
  refine wS_ow (i := 0) (p := q) (Bx (n + 1 + 40 * mo)) rfl (mono (by omega)) ?_
  refine wS_seq (wS_set (wE_cb tupOk (wA_cons (wE_F (wF_momsP (N := n + 1) hr o24 (fun Φ hk => wE_v rfl hk) fun l hl ol => ?_)))))
  intro _
  refine wA_nil (show fTup [.lst (l.map moT)] _ from fun _ => ?_)
  show wS _ _ _ (rhoP q (n + 1) u S way en mm hh r (.v (plT A)) (.v (.int mo)) (.v (.tup (l.map moT)))) _
  have last : ∀ bk : Option Nat, (∀ b, bk = some b → b < l.length) → ∃ A' B', SkOk A' ∧ SkOk B' ∧ T.lst [plT A, .lst [T.int (hh : Nat), .int (r : Nat), .tup (l.map moT), optN bk]] = .lst [plT A', plT B'] := fun bk hb =>
    ⟨A, ⟨hh, r, l, bk⟩, okA, ⟨hr.1, hr.2.1, hr.2.2.1, hr.2.2.2, by show 1 ≤ l.length; omega, by show l.length ≤ 24; omega, ol, hb⟩, rfl⟩
  refine wS_ret (wE_lstD (wA_cons (wE_v rfl fun _ => wA_cons (wE_lstD (wA_cons (wE_v rfl fun _ => wA_cons (wE_v rfl fun _ => wA_cons (wE_v rfl fun _ => wA_cons (wE_if (wT_tru (wE_v rfl fun _ => ⟨_, rfl, ite_c (fun _ => ?_) fun _ => ?_⟩)))))))))))
  · exact wE_ow (i := 0) (p := q) (Bx n) rfl (mono (by omega)) (wE_non (wA_nil ⟨by show 4 ≤ sizeLine; decide, fun _ => wA_nil ⟨by show 2 ≤ sizeLine; decide, fun _ => ⟨last none (fun b e => nomatch e), rfl⟩⟩⟩))
  · exact wE_tk n rfl (wE_v rfl fun _ => ⟨rfl, mo, rfl, by omega, by omega, fun d hd _ => wA_nil ⟨by show 4 ≤ sizeLine; decide, fun _ => wA_nil ⟨by show 2 ≤ sizeLine; decide, fun _ => ⟨last (some d) fun b e => by cases e; omega, rfl⟩⟩⟩⟩)
end K10
set_option maxHeartbeats 4000000
namespace TD
open PySem PySem.Spec PyProof.Rows L2 TL TC
/-- [k for k in range(n) if ..] == [] -/
theorem wE_noneBad {K : PySem.W.Frag} {E : WX} {X : XP} {s0 s1 : Sl} {te : TE} {tt : TT} {Φ : V → T → TL.Env → Prop} {N : Nat} (hN : N ≤ 1000) (ok : Prop)
    (n1 : noOwn [2] [s0, s1, .no] = true)
    (he : ∀ {Φ' : V → T → TL.Env → Prop}, (∀ v, Φ' v (.int N) [s0, s1, .no]) → wE E X te [s0, s1, .no] Φ')
    (turn : ∀ k : Nat, k < N → wT E00 X00 tt [s0, s1, .v (.int k)] fun c ρ4 => ρ4 = [s0, s1, .v (.int k)] ∧ (ok → c = false))
    (fin : ∀ c, (ok → c = true) → ∀ v, Φ v (.bl c) [s0, s1, .no]) :
    wE E X (tOp (rEqQ K) (tLc (iRng1 (tCons te tNil)) (gName 2) tt (tVar 2) [2]) (tLst tNil)) [s0, s1, .no] Φ := by
  refine wE_eqNil (wF_lc (wI_range1 (wA_cons (he fun _ => wA_nil ⟨_, rfl, by omega, lt62 hN, n1, fun i acc => acc.length ≤ i ∧ ∃ ns : List Int, acc = ns.map T.int ∧ (ok → ns = []), ⟨Nat.le_refl _, [], rfl, fun _ => rfl⟩, fun i x acc v hx ⟨hl, ns, e1, e2⟩ => ?_, fun acc ⟨_, ns, e1, e2⟩ => ⟨ns, e1, fun v => fin _ (fun o => by rw [e2 o]; rfl) v⟩⟩))))
  obtain ⟨ex, hi⟩ := rngT_get hx
  have kl : i < N := by omega
  subst ex
  have e0 : (0 : Int) + (i : Nat) = (i : Int) := Int.zero_add _
  rw [e0]
  refine wGa_name (by decide) ⟨rfl, rfl, ?_⟩
  intro b G H σ Q S q ke
  refine turn i kl b G H σ Q S (fun c ρ' G' H' ⟨h1, h2⟩ S' l => q c ρ' G' H' ⟨h1, ?_⟩ S' l) ke
  cases c with
  | false => exact ite_f ⟨by omega, ns, e1, e2⟩
  | true =>
    refine ite_t (wE_v rfl fun _ => ⟨rfl, Nat.lt_of_le_of_lt hl (Nat.lt_of_lt_of_le (by omega : i < 1000) (by decide)), by rw [List.length_append, List.length_singleton]; omega, ns ++ [(i : Int)], by rw [e1, List.map_append]; rfl, fun o => ?_⟩)
    have := h2 o
    cases this
section
variable {K : PySem.W.Frag}
theorem r_law_same (n : Nat) (vs : List V) (H : Hp) (Q : VK) (E : XK) (h : sp_law_same K (n + 1) vs H Q E) : t_law_same K n E { nx := fun _ H' => Q .non H', rt := Q } (L2.start N_law_same vs) H := by
  refine run_sP h fun ts hv ⟨a, b, e, da, db⟩ => ?_
  subst e
  obtain ⟨u, u1, rfl⟩ := len2 hv
  show wS _ _ _ [Sl.x u a, .x u1 b, .no] _
  have oa : Ok1 K a := da.ok1
  have ob : Ok1 K b := db.ok1
  have na : notRaw a := by cases da <;> trivial
  have nb : notRaw b := by cases db <;> trivial
  have fin : ∀ c, (a = b → c = true) → ∃ c', T.bl c = .bl c' ∧ ∀ a' b', [a, b] = [a', b'] → a' = b' → c' = true := fun c h => ⟨c, rfl, fun a' b' e z => by cases e; exact h z⟩
  unfold t_law_same
  refine wS_seq (wS_if (wT_or (wT_test (wE_op isOk (wE_x rfl (wE_non ⟨nb, fun _ => ⟨_, rfl, ?_⟩⟩))))))
  cases db with
  | non =>
    refine ite_t (ite_t (wS_ret (wE_if (wT_test (wE_op isOk (wE_x rfl (wE_non ⟨trivial, fun _ => ⟨_, rfl, ite_t ?_⟩⟩)))))))
    exact wE_op isOk (wE_x rfl (wE_non ⟨na, fun _ => fin _ fun z => by rw [z]; rfl⟩))
  | bl c =>
    refine ite_f (wT_isi rfl ob (by decide) (ite_t (wS_ret (wE_if (wT_test (wE_op isOk (wE_x rfl (wE_non ⟨trivial, fun _ => ⟨_, rfl, ite_f ?_⟩⟩))))))))
    refine wE_andC (wE_isv rfl oa (by decide) fun _ => ⟨_, rfl, fun z => ?_, fun z _ => fin false fun y => by rw [y] at z; exact absurd (show true = false from z) (by simp)⟩)
    cases da with
    | bl d => exact wE_op eqQOk (wE_op isOk (wE_x rfl (wE_bl (gIsB fun _ => wE_op isOk (wE_x rfl (wE_bl (gIsB fun _ => gEqB fun _ => fin _ fun y => by cases y; exact decide_eq_true rfl)))))))
    | _ => exact absurd (show false = true from z) (by simp)
  | int i =>
    refine ite_f (wT_isi rfl ob (by decide) (ite_f (wS_next ?_)))
    refine wS_seq (wS_if (wT_isi rfl ob (by decide) (ite_t (wS_ret (wE_andC (wE_isv rfl oa (by decide) fun _ => ⟨_, rfl, fun z => ?_, fun z _ => fin false fun y => by rw [y] at z; exact absurd (show true = false from z) (by simp)⟩))))))
    refine wE_andC (wE_notV (wE_isv rfl oa (by decide) fun _ => ⟨_, rfl, fun _ => ⟨_, rfl, fun z2 => ?_, fun z2 _ => fin false fun y => by rw [y] at z2; exact absurd (show true = false from z2) (by simp)⟩⟩))
    cases da with
    | int j => exact wE_op eqQOk (wE_op subOk (wE_cb intOk (wA_cons (wE_x rfl (wA_nil (gInt fun _ => wE_x rfl (gSub fun _ => wE_int (gEqI fun _ => fin _ fun y => by cases y; exact decide_eq_true (Int.sub_self _)))))))))
    | bl j => exact absurd (show false = true from z2) (by simp)
    | _ => exact absurd (show false = true from z) (by simp)
  | str s hs =>
    refine ite_f (wT_isi rfl ob (by decide) (ite_f (wS_next ?_)))
    refine wS_seq (wS_if (wT_isi rfl ob (by decide) (ite_f (wS_next ?_))))
    refine wS_seq (wS_if (wT_isi rfl ob (by decide) (ite_t (wS_ret (wE_andC (wE_isv rfl oa (by decide) fun _ => ⟨_, rfl, fun z => ?_, fun z _ => fin false fun y => by rw [y] at z; exact absurd (show true = false from z) (by simp)⟩))))))
    cases da with
    | str s2 hs2 =>
      have hk := hs
      unfold strOk at hk
      simp only [Bool.and_eq_true, Nat.ble_eq, List.all_eq_true] at hk
      have hk2 := hs2
      unfold strOk at hk2
      simp only [Bool.and_eq_true, Nat.ble_eq] at hk2
      have hz : s.length ≤ sizeLine := Nat.le_trans hk.1 (by decide)
      have hz2 : s2.length ≤ sizeLine := Nat.le_trans hk2.1 (by decide)
      refine wE_andC (wE_op eqQOk (wE_cb lenOk (wA_cons (wE_x rfl (wA_nil (gLenS hz2 fun _ => wE_cb lenOk (wA_cons (wE_x rfl (wA_nil (gLenS hz fun _ => gEqI fun _ => ⟨_, rfl, fun z => ?_, fun z _ => fin false fun y => by cases y; exact absurd rfl (of_decide_eq_false z)⟩))))))))))
      refine wE_noneBad hk.1 (s2 = s) rfl (fun k => wE_cb lenOk (wA_cons (wE_x rfl (wA_nil (gLenS hz k))))) (fun k kl => ?_) fun c hc _ => fin c fun y => by cases y; exact hc rfl
      have q := hk.2 k (List.mem_range.mpr kl)
      refine wT_test (wE_op neOk (wE_sl (wE_x rfl (wO_some (wE_v rfl fun _ => ⟨_, rfl, wO_some (wE_op addOk (wE_v rfl fun _ => wE_int (gAdd fun _ => ⟨_, rfl, ⟨hz2, fun _ => wE_op ixOk (wE_x rfl (wE_v rfl fun _ => ⟨hz, ?_⟩))⟩⟩)))⟩)))))
      cases w : atI s.cps.toList (k : Int) with
      | none =>
        rw [w] at q
        cases q
      | some c =>
        rw [w] at q
        refine ⟨c, rfl, fun _ => gNeS fun _ => ⟨_, rfl, rfl, fun y => ?_⟩⟩
        subst y
        rw [of_decide_eq_true q, decide_eq_true rfl]
        rfl
    | _ => exact absurd (show false = true from z) (by simp)
  | dic k i =>
    refine ite_f (wT_isi rfl ob (by decide) (ite_f (wS_next ?_)))
    refine wS_seq (wS_if (wT_isi rfl ob (by decide) (ite_f (wS_next ?_))))
    refine wS_seq (wS_if (wT_isi rfl ob (by decide) (ite_f (wS_next ?_))))
    refine wS_seq (wS_if (wT_isi rfl ob (by decide) (ite_t (wS_ret (wE_andC (wE_isv rfl oa (by decide) fun _ => ⟨_, rfl, fun z => ?_, fun z _ => fin false fun y => by rw [y] at z; exact absurd (show true = false from z) (by simp)⟩))))))
    cases da with
    | dic k2 i2 => exact wE_op eqQOk (wE_x rfl (wE_x rfl (show ∀ v, _ from fun _ => fin _ fun y => by cases y; rw [decide_eq_true rfl, decide_eq_true rfl]; rfl)))
    | _ => exact absurd (show false = true from z) (by simp)
  | @lst d us hz h =>
    refine ite_f (wT_isi rfl ob (by decide) (ite_f (wS_next ?_)))
    refine wS_seq (wS_if (wT_isi rfl ob (by decide) (ite_f (wS_next ?_))))
    refine wS_seq (wS_if (wT_isi rfl ob (by decide) (ite_f (wS_next ?_))))
    refine wS_seq (wS_if (wT_isi rfl ob (by decide) (ite_f (wS_next ?_))))
    refine wS_seq (wS_if (wT_or (wT_test (wE_op neOk (wE_isv rfl oa (by decide) fun _ => wE_isv rfl ob (by decide) fun _ => (show ∀ v, _ from fun _ => ?_))))))
    cases da with
    | @lst _ ts hz1 h1 =>
      refine ⟨false, rfl, ite_f (wT_test (wE_op neOk (wE_isv rfl oa (by decide) fun _ => wE_isv rfl ob (by decide) fun _ => (show ∀ v, _ from fun _ => ⟨false, rfl, ite_f (wS_next ?_)⟩))))⟩
      refine wS_ret (wE_andC (wE_op eqQOk (wE_cb lenOk (wA_cons (wE_x rfl (wA_nil (gLenL fun _ => wE_cb lenOk (wA_cons (wE_x rfl (wA_nil (gLenL fun _ => gEqI fun _ => ⟨_, rfl, fun z => ?_, fun z _ => fin false fun y => by cases y; exact absurd rfl (of_decide_eq_false z)⟩)))))))))))
      have hl : ts.length = us.length := by have := of_decide_eq_true z; omega
      refine wE_noneBad (by omega) (ts = us) rfl (fun k => wE_cb lenOk (wA_cons (wE_x rfl (wA_nil (gLenL k))))) (fun k kl => ?_) fun c hc _ => fin c fun y => by cases y; exact hc rfl
      have g1 : ts[k]? = some ts[k] := List.getElem?_eq_getElem (by omega)
      have g2 : us[k]? = some us[k] := List.getElem?_eq_getElem kl
      refine wT_not (wT_tru (wE_call (wA_cons (wE_op ixOk (wE_x rfl (wE_v rfl fun _ => gIxL k rfl g1 fun _ => wA_cons (wE_op ixOk (wE_x rfl (wE_v rfl fun _ => gIxL k rfl g2 fun _ => wA_nil ⟨⟨_, _, rfl, h1 _ (List.getElem_mem _), h _ (List.getElem_mem _)⟩, fun t v ⟨c, e, hc⟩ => ⟨c, by rw [e]; rfl, rfl, fun y => ?_⟩, fun er z => z.elim⟩)))))))))
      subst y
      rw [hc _ _ rfl rfl]
      rfl
    | _ => exact ⟨true, rfl, ite_t (ite_t (wS_ret (wE_bl (fin false fun y => nomatch y))))⟩
  | @tup d us hz h =>
    refine ite_f (wT_isi rfl ob (by decide) (ite_f (wS_next ?_)))
    refine wS_seq (wS_if (wT_isi rfl ob (by decide) (ite_f (wS_next ?_))))
    refine wS_seq (wS_if (wT_isi rfl ob (by decide) (ite_f (wS_next ?_))))
    refine wS_seq (wS_if (wT_isi rfl ob (by decide) (ite_f (wS_next ?_))))
    refine wS_seq (wS_if (wT_or (wT_test (wE_op neOk (wE_isv rfl oa (by decide) fun _ => wE_isv rfl ob (by decide) fun _ => (show ∀ v, _ from fun _ => ?_))))))
    cases da with
    | @tup _ ts hz1 h1 =>
      refine ⟨false, rfl, ite_f (wT_test (wE_op neOk (wE_isv rfl oa (by decide) fun _ => wE_isv rfl ob (by decide) fun _ => (show ∀ v, _ from fun _ => ⟨false, rfl, ite_f (wS_next ?_)⟩))))⟩
      refine wS_ret (wE_andC (wE_op eqQOk (wE_cb lenOk (wA_cons (wE_x rfl (wA_nil (gLenT fun _ => wE_cb lenOk (wA_cons (wE_x rfl (wA_nil (gLenT fun _ => gEqI fun _ => ⟨_, rfl, fun z => ?_, fun z _ => fin false fun y => by cases y; exact absurd rfl (of_decide_eq_false z)⟩)))))))))))
      have hl : ts.length = us.length := by have := of_decide_eq_true z; omega
      refine wE_noneBad (by omega) (ts = us) rfl (fun k => wE_cb lenOk (wA_cons (wE_x rfl (wA_nil (gLenT k))))) (fun k kl => ?_) fun c hc _ => fin c fun y => by cases y; exact hc rfl
      have g1 : ts[k]? = some ts[k] := List.getElem?_eq_getElem (by omega)
      have g2 : us[k]? = some us[k] := List.getElem?_eq_getElem kl
      refine wT_not (wT_tru (wE_call (wA_cons (wE_op ixOk (wE_x rfl (wE_v rfl fun _ => gIxT k rfl g1 fun _ => wA_cons (wE_op ixOk (wE_x rfl (wE_v rfl fun _ => gIxT k rfl g2 fun _ => wA_nil ⟨⟨_, _, rfl, h1 _ (List.getElem_mem _), h _ (List.getElem_mem _)⟩, fun t v ⟨c, e, hc⟩ => ⟨c, by rw [e]; rfl, rfl, fun y => ?_⟩, fun er z => z.elim⟩)))))))))
      subst y
      rw [hc _ _ rfl rfl]
      rfl
    | lst => exact ⟨true, rfl, ite_t (ite_t (wS_ret (wE_bl (fin false fun y => nomatch y))))⟩
    | _ => exact ⟨false, rfl, ite_f (wT_test (wE_op neOk (wE_isv rfl oa (by decide) fun _ => wE_isv rfl ob (by decide) fun _ => (show ∀ v, _ from fun _ => ⟨true, rfl, ite_t (wS_ret (wE_bl (fin false fun y => nomatch y)))⟩))))⟩
end
end TD
set_option maxHeartbeats 4000000
namespace K10
open PySem PySem.Spec PyProof.Rows L2 TL TC TD K09
section
variable {K : PySem.W.Frag}
theorem r_law_same (n : Nat) (vs : List V) (H : Hp) (Q : VK) (E : XK) (h : sp_law_same K (n + 1) vs H Q E) : t_law_same K n E { nx := fun _ H' => Q .non H', rt := Q } (L2.start N_law_same vs) H := by
  refine run_sP h fun ts hv ⟨a, b, e, da, db⟩ => ?_
  subst e
  obtain ⟨u, u1, rfl⟩ := len2 hv
  show wS _ _ _ [Sl.x u a, .x u1 b, .no] _
  have oa : Ok1 K a := da.to.ok1
  have ob : Ok1 K b := db.to.ok1
  have na : notRaw a := by cases da <;> trivial
  have nb : notRaw b := by cases db <;> trivial
  have fin : ∀ c, (a = b → c = true) → ∃ c', T.bl c = .bl c' ∧ ∀ a' b', [a, b] = [a', b'] → a' = b' → c' = true := fun c h => ⟨c, rfl, fun a' b' e z => by cases e; exact h z⟩
  unfold t_law_same
  refine wS_seq (wS_if (wT_or (wT_test (wE_op isOk (wE_x rfl (wE_non ⟨nb, fun _ => ⟨_, rfl, ?_⟩⟩))))))
  cases db with
  | non =>
    refine ite_t (ite_t (wS_ret (wE_if (wT_test (wE_op isOk (wE_x rfl (wE_non ⟨trivial, fun _ => ⟨_, rfl, ite_t ?_⟩⟩)))))))
    exact wE_op isOk (wE_x rfl (wE_non ⟨na, fun _ => fin _ fun z => by rw [z]; rfl⟩))
  | bl c =>
    refine ite_f (wT_isi rfl ob (by decide) (ite_t (wS_ret (wE_if (wT_test (wE_op isOk (wE_x rfl (wE_non ⟨trivial, fun _ => ⟨_, rfl, ite_f ?_⟩⟩))))))))
    refine wE_andC (wE_isv rfl oa (by decide) fun _ => ⟨_, rfl, fun z => ?_, fun z _ => fin false fun y => by rw [y] at z; exact absurd (show true = false from z) (by simp)⟩)
    cases da with
    | bl d => exact wE_op eqQOk (wE_op isOk (wE_x rfl (wE_bl (gIsB fun _ => wE_op isOk (wE_x rfl (wE_bl (gIsB fun _ => gEqB fun _ => fin _ fun y => by cases y; exact decide_eq_true rfl)))))))
    | _ => exact absurd (show false = true from z) (by simp)
  | int i =>
    refine ite_f (wT_isi rfl ob (by decide) (ite_f (wS_next ?_)))
    refine wS_seq (wS_if (wT_isi rfl ob (by decide) (ite_t (wS_ret (wE_andC (wE_isv rfl oa (by decide) fun _ => ⟨_, rfl, fun z => ?_, fun z _ => fin false fun y => by rw [y] at z; exact absurd (show true = false from z) (by simp)⟩))))))
    refine wE_andC (wE_notV (wE_isv rfl oa (by decide) fun _ => ⟨_, rfl, fun _ => ⟨_, rfl, fun z2 => ?_, fun z2 _ => fin false fun y => by rw [y] at z2; exact absurd (show true = false from z2) (by simp)⟩⟩))
    cases da with
    | int j => exact wE_op eqQOk (wE_op subOk (wE_cb intOk (wA_cons (wE_x rfl (wA_nil (gInt fun _ => wE_x rfl (gSub fun _ => wE_int (gEqI fun _ => fin _ fun y => by cases y; exact decide_eq_true (Int.sub_self _)))))))))
    | bl j => exact absurd (show false = true from z2) (by simp)
    | _ => exact absurd (show false = true from z) (by simp)
  | str s hs =>
    refine ite_f (wT_isi rfl ob (by decide) (ite_f (wS_next ?_)))
    refine wS_seq (wS_if (wT_isi rfl ob (by decide) (ite_f (wS_next ?_))))
    refine wS_seq (wS_if (wT_isi rfl ob (by decide) (ite_t (wS_ret (wE_andC (wE_isv rfl oa (by decide) fun _ => ⟨_, rfl, fun z => ?_, fun z _ => fin false fun y => by rw [y] at z; exact absurd (show true = false from z) (by simp)⟩))))))
    cases da with
    | str s2 hs2 =>
      have hk := hs
      unfold strOk at hk
      simp only [Bool.and_eq_true, Nat.ble_eq, List.all_eq_true] at hk
      have hk2 := hs2
      unfold strOk at hk2
      simp only [Bool.and_eq_true, Nat.ble_eq] at hk2
      have hz : s.length ≤ sizeLine := Nat.le_trans hk.1 (by decide)
      have hz2 : s2.length ≤ sizeLine := Nat.le_trans hk2.1 (by decide)
      refine wE_andC (wE_op eqQOk (wE_cb lenOk (wA_cons (wE_x rfl (wA_nil (gLenS hz2 fun _ => wE_cb lenOk (wA_cons (wE_x rfl (wA_nil (gLenS hz fun _ => gEqI fun _ => ⟨_, rfl, fun z => ?_, fun z _ => fin false fun y => by cases y; exact absurd rfl (of_decide_eq_false z)⟩))))))))))
      refine wE_noneBad hk.1 (s2 = s) rfl (fun k => wE_cb lenOk (wA_cons (wE_x rfl (wA_nil (gLenS hz k))))) (fun k kl => ?_) fun c hc _ => fin c fun y => by cases y; exact hc rfl
      have q := hk.2 k (List.mem_range.mpr kl)
      refine wT_test (wE_op neOk (wE_sl (wE_x rfl (wO_some (wE_v rfl fun _ => ⟨_, rfl, wO_some (wE_op addOk (wE_v rfl fun _ => wE_int (gAdd fun _ => ⟨_, rfl, ⟨hz2, fun _ => wE_op ixOk (wE_x rfl (wE_v rfl fun _ => ⟨hz, ?_⟩))⟩⟩)))⟩)))))
      cases w : atI s.cps.toList (k : Int) with
      | none =>
        rw [w] at q
        cases q
      | some c =>
        rw [w] at q
        refine ⟨c, rfl, fun _ => gNeS fun _ => ⟨_, rfl, rfl, fun y => ?_⟩⟩
        subst y
        rw [of_decide_eq_true q, decide_eq_true rfl]
        rfl
    | _ => exact absurd (show false = true from z) (by simp)
  | @lst d us hz h =>
    refine ite_f (wT_isi rfl ob (by decide) (ite_f (wS_next ?_)))
    refine wS_seq (wS_if (wT_isi rfl ob (by decide) (ite_f (wS_next ?_))))
    refine wS_seq (wS_if (wT_isi rfl ob (by decide) (ite_f (wS_next ?_))))
    refine wS_seq (wS_if (wT_or (wT_test (wE_op neOk (wE_isv rfl oa (by decide) fun _ => wE_isv rfl ob (by decide) fun _ => (show ∀ v, _ from fun _ => ?_))))))
    cases da with
    | @lst _ ts hz1 h1 =>
      refine ⟨false, rfl, ite_f (wT_test (wE_op neOk (wE_isv rfl oa (by decide) fun _ => wE_isv rfl ob (by decide) fun _ => (show ∀ v, _ from fun _ => ⟨false, rfl, ite_f (wS_next ?_)⟩))))⟩
      refine wS_ret (wE_andC (wE_op eqQOk (wE_cb lenOk (wA_cons (wE_x rfl (wA_nil (gLenL fun _ => wE_cb lenOk (wA_cons (wE_x rfl (wA_nil (gLenL fun _ => gEqI fun _ => ⟨_, rfl, fun z => ?_, fun z _ => fin false fun y => by cases y; exact absurd rfl (of_decide_eq_false z)⟩)))))))))))
      have hl : ts.length = us.length := by have := of_decide_eq_true z; omega
      refine wE_noneBad (by omega) (ts = us) rfl (fun k => wE_cb lenOk (wA_cons (wE_x rfl (wA_nil (gLenL k))))) (fun k kl => ?_) fun c hc _ => fin c fun y => by cases y; exact hc rfl
      have g1 : ts[k]? = some ts[k] := List.getElem?_eq_getElem (by omega)
      have g2 : us[k]? = some us[k] := List.getElem?_eq_getElem kl
      refine wT_not (wT_tru (wE_call (wA_cons (wE_op ixOk (wE_x rfl (wE_v rfl fun _ => gIxL k rfl g1 fun _ => wA_cons (wE_op ixOk (wE_x rfl (wE_v rfl fun _ => gIxL k rfl g2 fun _ => wA_nil ⟨⟨_, _, rfl, h1 _ (List.getElem_mem _), h _ (List.getElem_mem _)⟩, fun t v ⟨c, e, hc⟩ => ⟨c, by rw [e]; rfl, rfl, fun y => ?_⟩, fun er z => z.elim⟩)))))))))
      subst y
      rw [hc _ _ rfl rfl]
      rfl
    | _ => exact ⟨true, rfl, ite_t (ite_t (wS_ret (wE_bl (fin false fun y => nomatch y))))⟩
  | @tup d us hz h =>
    refine ite_f (wT_isi rfl ob (by decide) (ite_f (wS_next ?_)))
    refine wS_seq (wS_if (wT_isi rfl ob (by decide) (ite_f (wS_next ?_))))
    refine wS_seq (wS_if (wT_isi rfl ob (by decide) (ite_f (wS_next ?_))))
    refine wS_seq (wS_if (wT_or (wT_test (wE_op neOk (wE_isv rfl oa (by decide) fun _ => wE_isv rfl ob (by decide) fun _ => (show ∀ v, _ from fun _ => ?_))))))
    cases da with
    | @tup _ ts hz1 h1 =>
      refine ⟨false, rfl, ite_f (wT_test (wE_op neOk (wE_isv rfl oa (by decide) fun _ => wE_isv rfl ob (by decide) fun _ => (show ∀ v, _ from fun _ => ⟨false, rfl, ite_f (wS_next ?_)⟩))))⟩
      refine wS_ret (wE_andC (wE_op eqQOk (wE_cb lenOk (wA_cons (wE_x rfl (wA_nil (gLenT fun _ => wE_cb lenOk (wA_cons (wE_x rfl (wA_nil (gLenT fun _ => gEqI fun _ => ⟨_, rfl, fun z => ?_, fun z _ => fin false fun y => by cases y; exact absurd rfl (of_decide_eq_false z)⟩)))))))))))
      have hl : ts.length = us.length := by have := of_decide_eq_true z; omega
      refine wE_noneBad (by omega) (ts = us) rfl (fun k => wE_cb lenOk (wA_cons (wE_x rfl (wA_nil (gLenT k))))) (fun k kl => ?_) fun c hc _ => fin c fun y => by cases y; exact hc rfl
      have g1 : ts[k]? = some ts[k] := List.getElem?_eq_getElem (by omega)
      have g2 : us[k]? = some us[k] := List.getElem?_eq_getElem kl
      refine wT_not (wT_tru (wE_call (wA_cons (wE_op ixOk (wE_x rfl (wE_v rfl fun _ => gIxT k rfl g1 fun _ => wA_cons (wE_op ixOk (wE_x rfl (wE_v rfl fun _ => gIxT k rfl g2 fun _ => wA_nil ⟨⟨_, _, rfl, h1 _ (List.getElem_mem _), h _ (List.getElem_mem _)⟩, fun t v ⟨c, e, hc⟩ => ⟨c, by rw [e]; rfl, rfl, fun y => ?_⟩, fun er z => z.elim⟩)))))))))
      subst y
      rw [hc _ _ rfl rfl]
      rfl
    | lst => exact ⟨true, rfl, ite_t (ite_t (wS_ret (wE_bl (fin false fun y => nomatch y))))⟩
    | _ => exact ⟨false, rfl, ite_f (wT_test (wE_op neOk (wE_isv rfl oa (by decide) fun _ => wE_isv rfl ob (by decide) fun _ => (show ∀ v, _ from fun _ => ⟨true, rfl, ite_t (wS_ret (wE_bl (fin false fun y => nomatch y)))⟩))))⟩
end
section
variable {d : Nat} {a b c : T}
theorem nT2 (h1 : Dn 130 d a) (h2 : Dn 130 d b) : Dn 130 (d + 1) (.tup [a, b]) := .tup (by show 2 ≤ 130; decide) fun t h => by
  simp only [List.mem_cons, List.not_mem_nil, or_false] at h
  rcases h with rfl | rfl <;> assumption
theorem nL2 (h1 : Dn 130 d a) (h2 : Dn 130 d b) : Dn 130 (d + 1) (.lst [a, b]) := .lst (by show 2 ≤ 130; decide) fun t h => by
  simp only [List.mem_cons, List.not_mem_nil, or_false] at h
  rcases h with rfl | rfl <;> assumption
theorem nT3 (h1 : Dn 130 d a) (h2 : Dn 130 d b) (h3 : Dn 130 d c) : Dn 130 (d + 1) (.tup [a, b, c]) := .tup (by show 3 ≤ 130; decide) fun t h => by
  simp only [List.mem_cons, List.not_mem_nil, or_false] at h
  rcases h with rfl | rfl | rfl <;> assumption
theorem nI {ns : List Int} : ∀ t ∈ ns.map T.int, Dn 130 (d + 1) t := fun t h => by
  obtain ⟨n, _, rfl⟩ := List.mem_map.mp h
  exact .int n
theorem nO (o : Option Nat) : Dn 130 (d + 1) (optN o) := by
  cases o
  · exact .non
  · exact .int _
end
theorem n_mo {m : Mo} {h r : Nat} (o : MoOk h r m) (hh : h ≤ 3) (hr : r ≤ 3) : Dn 130 4 (moT m) := by
  have d1 : Dn 130 3 (.tup (natsT m.tk)) := by
    rw [natsT_ints]
    exact .tup (by rw [List.length_map, List.length_map, o.len]; omega) nI
  have d2 : Dn 130 3 (frT m.fr) := by
    cases e : m.fr with
    | none => exact .non
    | some f =>
      obtain ⟨a, c⟩ := f
      have := (o.fr a c e).len hh hr
      exact nT2 (.int _) (.tup (by rw [List.length_map]; omega) nI)
  exact nT3 d1 d2 (nO _)
theorem d_pl {S : Sk} (o : SkOk S) : Dn 130 6 (plT S) := .lst (by show 4 ≤ 130; decide) fun t ht => by
  have ht : t ∈ [T.int (S.h : Int), .int (S.r : Int), .tup (S.ms.map moT), optN S.bk] := ht
  simp only [List.mem_cons, List.not_mem_nil, or_false] at ht
  rcases ht with rfl | rfl | rfl | rfl
  · exact .int _
  · exact .int _
  · refine .tup (by rw [List.length_map]; have := o.m24; omega) fun t ht => ?_
    obtain ⟨m, hm, rfl⟩ := List.mem_map.mp ht
    exact n_mo (o.ms m hm) o.h3 o.r3
  · exact nO _
end K10
set_option maxHeartbeats 4000000
namespace K10
open PySem PySem.Spec PyProof.Rows L2 TL TC TD K09
local macro_rules | `(tactic| walk_at "wk") => `(tactic| repeat' (first
  | with_reducible refine wS_seq ?_
  | with_reducible refine wS_if ?_
  | with_reducible refine wS_next ?_
  | with_reducible refine wS_aug rfl ipOk ?_
  | with_reducible refine wT_not ?_
  | with_reducible refine wT_and ?_
  | with_reducible refine wT_or ?_
  | with_reducible refine wT_test ?_
  | with_reducible refine wT_tru ?_
  | with_reducible refine wT_yes ?_
  | with_reducible refine wE_op addOk ?_
  | with_reducible refine wE_op subOk ?_
  | with_reducible refine wE_op mulOk ?_
  | with_reducible refine wE_op modOk ?_
  | with_reducible refine wE_op divOk ?_
  | with_reducible refine wE_op powOk ?_
  | with_reducible refine wE_op ltOk ?_
  | with_reducible refine wE_op leOk ?_
  | with_reducible refine wE_op gtOk ?_
  | with_reducible refine wE_op geOk ?_
  | with_reducible refine wE_op isOk ?_
  | with_reducible refine wE_op isNotOk ?_
  | with_reducible refine wE_op ixOk ?_
  | with_reducible refine wE_un negOk ?_
  | with_reducible refine wE_cb intOk ?_
  | with_reducible refine wE_cb absOk ?_
  | with_reducible refine wE_cb maxOk ?_
  | with_reducible refine wE_cb minOk ?_
  | with_reducible refine wE_cb lenOk ?_
  | with_reducible refine wE_cb sumOk ?_
  | with_reducible refine wE_cb allOk ?_
  | with_reducible refine wE_cb dvmOk ?_
  | with_reducible refine wE_sl ?_
  | with_reducible refine wO_none ?_
  | with_reducible refine wO_some ?_
  | with_reducible refine wE_tup ?_
  | with_reducible refine wE_lstD ?_
  | with_reducible refine wE_listD ?_
  | refine gIxT 0 rfl rfl ?_
  | refine gIxT 1 rfl rfl ?_
  | refine And.intro (sm1000 (Nat.le_of_ble_eq_true rfl)) ?_
  | with_reducible refine wE_if ?_
  | with_reducible refine wE_int ?_
  | with_reducible refine wE_bl ?_
  | with_reducible refine wE_str ?_
  | with_reducible refine wE_non ?_
  | refine wE_x rfl ?_
  | refine wE_v rfl ?_
  | with_reducible refine wA_cons ?_
  | with_reducible refine wA_nil ?_
  | with_reducible refine gAdd ?_
  | with_reducible refine gSub ?_
  | with_reducible refine gMulL (by omega) (by omega) ?_
  | with_reducible refine gMulR (by omega) (by omega) ?_
  | with_reducible refine gMod (by omega) ?_
  | with_reducible refine gDiv (by omega) (by omega) ?_
  | with_reducible refine gPow (by omega) (by omega) (by omega) ?_
  | with_reducible refine gLt ?_
  | with_reducible refine gLe ?_
  | with_reducible refine gGt ?_
  | with_reducible refine gGe ?_
  | with_reducible refine gNeg ?_
  | with_reducible refine gInt ?_
  | with_reducible refine gAbs ?_
  | with_reducible refine gMax ?_
  | with_reducible refine gMin ?_
  | with_reducible refine gLenL ?_
  | with_reducible refine gLenT ?_
  | with_reducible refine gSlL ?_
  | with_reducible refine gSlT ?_
  | (with_reducible intro (_ : V))
  | with_reducible refine Exists.intro _ (And.intro (rfl : T.bl _ = T.bl _) ?_)
  | with_reducible refine Exists.intro _ (And.intro (rfl : T.int _ = T.int _) ?_)
  | with_reducible refine Exists.intro _ (And.intro (rfl : truT (T.bl _) = some _) ?_)))
/-- the same moment at each tick, or none -/
theorem sh_mom {S : Sk} (ok : SkOk S) (t : Nat) : (momAt S t = none ∧ momAt (shS S) t = none) ∨ ∃ j j' m, momAt S t = some j ∧ momAt (shS S) t = some j' ∧ S.ms[j]? = some m ∧ (shS S).ms[j']? = some m := by
  cases hb : S.bk with
  | none =>
    have e : shS S = S := by unfold shS; rw [hb]
    rw [e]
    cases hj : momAt S t with
    | none => exact .inl ⟨rfl, rfl⟩
    | some j => exact .inr ⟨j, j, _, rfl, rfl, seq_get ok hj, seq_get ok hj⟩
  | some b =>
    obtain ⟨b', hb', hs⟩ := sh_seq ok hb
    have bl := ok.bk b hb
    have bl' := (sh_ok ok).bk b' hb'
    have some_ : ∀ {S : Sk} {b : Nat}, S.bk = some b → ∃ j, momAt S t = some j := fun {S b} hb => by
      by_cases z : t < S.ms.length
      · exact ⟨_, mom_lo z⟩
      · exact ⟨_, mom_hi hb (by omega)⟩
    obtain ⟨j, hj⟩ := some_ hb
    obtain ⟨j', hj'⟩ := some_ hb'
    refine .inr ⟨j, j', _, hj, hj', seq_get ok hj, ?_⟩
    rw [← hs t]
    exact seq_get (sh_ok ok) hj'
section
variable {K : PySem.W.Frag} {E : WX} {X : XP} {ρ : TL.Env} {ta : TA} {Φ : V → T → TL.Env → Prop}
theorem wE_mof (h : wA E X ta ρ fun _ ts ρ1 => ∃ (S : Sk) (t : Nat), ts = [skT K S, .int t] ∧ SkOk S ∧ (t : Int) ≤ most ∧ ∀ v, Φ v (optN (momAt S t)) ρ1) : wE E X (tCallS (sp_moment_of K) (WE E) ta) ρ Φ := by
  show wE E X (tCallS (sP _ _ _) (WE E) ta) ρ Φ
  refine wE_call (fun b G H σ Q S0 q ke => h b G H σ Q S0 (fun vs ts ρ1 G1 H1 ⟨S, t, e, ok, ht, hk⟩ r S1 l => q vs ts ρ1 G1 H1 ⟨⟨S, _, e, ok, ⟨1, .int _⟩⟩, fun z v po => ?_, fun er ⟨S', x', u', w', e1, e2, hb, _⟩ => ?_⟩ r S1 l) ke)
  · obtain ⟨_, ez⟩ := po S _ e
    rw [ez, show natOf (.int (t : Int)) = t from Int.toNat_natCast t]
    exact hk v
  · exfalso
    rw [e] at e1
    simp only [List.cons.injEq, and_true] at e1
    rw [← e1.2, show btw (.int (t : Int)) 0 most = true from btw_of (by omega) ht] at hb
    cases hb
theorem wE_sameN {n : Nat} {te tb : TE} {x : T} (d : Dn 130 n x) (h : wE E X te ρ fun _ a ρ1 => a = x ∧ wE E X tb ρ1 fun _ b ρ2 => b = x ∧ ∀ v, Φ v (.bl true) ρ2) : wE E X (tCallS (sp_law_same K n) (WE E) (tCons te (tCons tb tNil))) ρ Φ := by
  refine wE_call (wA_cons (wE_imp h fun _ a ρ1 ⟨e, h⟩ => wA_cons (wE_imp h fun _ b ρ2 ⟨e2, hk⟩ => ?_)))
  subst e e2
  refine wA_nil ⟨⟨_, _, rfl, d, d⟩, fun t v ⟨c, e, hc⟩ => ?_, fun er z => z.elim⟩
  rw [e, hc _ _ rfl rfl]
  exact hk v
end
theorem r_law_same_ticks {K : PySem.W.Frag} (Z : SkyK K) (vs : List V) (H : Hp) (Q : VK) (E : XK) (h : sp_law_same_ticks K vs H Q E) : t_law_same_ticks K E { nx := fun _ H' => Q .non H', rt := Q } (L2.start N_law_same_ticks vs) H := by
  refine run_sO h (fun n q us ts _ hv ⟨S, e, ok⟩ => ?_) (by decide)
  subst e
  obtain ⟨u, u1, u2, rfl⟩ := len3 hv
  show wS _ _ _ [Sl.o q (Bx (n + 2)), .x u (skT K S), .x u1 (skT K (shS S)), .x u2 (plT S), .no, .no, .no, .no] _
  unfold t_law_same_ticks
  have m24 := ok.m24
  have m1 := ok.m1
  have oS := sh_ok ok
  have p15 : (10 : Int) ^ (15 : Int).toNat = 1000000000000000 := by decide +kernel
  refine wS_seq (wS_set (wE_cb lenOk (wA_cons (wE_p2 (wE_x rfl ⟨S, rfl, fun _ => wA_nil (gLenT fun _ => ?_)⟩)))))
  rw [List.length_map]
  show wS _ _ _ [Sl.o q (Bx (n + 2)), .x u (skT K S), .x u1 (skT K (shS S)), .x u2 (plT S), .v (.int (S.ms.length : Nat)), .no, .no, .no] _
  refine wS_seq (wS_for (wI_seq (wE_lstD (wA_cons (wE_int (wA_cons (wE_op subOk (wE_v rfl fun _ => wE_int (gSub fun _ => wA_cons (wE_v rfl fun _ => wA_cons (wE_op addOk (wE_v rfl fun _ => wE_int (gAdd fun _ => wA_cons (wE_tki (n + 1) rfl 60 rfl (by omega) (by omega) fun a ha _ => wA_cons (wE_op subOk (wE_op powOk (wE_int (wE_int (gPow (by decide) (by decide) (by decide) fun _ => ?_)))))))))))))))))))
  rw [p15]
  refine wE_tki n rfl 60 rfl (by omega) (by omega) fun b hb _ => gSub fun _ => wA_nil ⟨by show 6 ≤ sizeLine; decide, fun _ => ?_⟩
  obtain ⟨ns, en, ns15⟩ : ∃ ns : List Nat, [T.int 0, .int ((S.ms.length : Nat) - 1), .int (S.ms.length : Nat), .int ((S.ms.length : Nat) + 1), .int (a : Int), .int (1000000000000000 - (b : Int))] = natsT ns ∧ ∀ t ∈ ns, t ≤ 1000000000000000 := by
    refine ⟨[0, S.ms.length - 1, S.ms.length, S.ms.length + 1, a, 1000000000000000 - b], ?_, fun t ht => ?_⟩
    · show _ = [T.int (0 : Nat), .int ((S.ms.length - 1 : Nat) : Int), .int (S.ms.length : Nat), .int ((S.ms.length + 1 : Nat) : Int), .int (a : Int), .int ((1000000000000000 - b : Nat) : Int)]
      rw [show ((S.ms.length - 1 : Nat) : Int) = (S.ms.length : Nat) - 1 by omega, show ((S.ms.length + 1 : Nat) : Int) = (S.ms.length : Nat) + 1 by omega, show ((1000000000000000 - b : Nat) : Int) = 1000000000000000 - (b : Int) by omega]
      rfl
    · simp only [List.mem_cons, List.not_mem_nil, or_false] at ht
      omega
  rw [en]
  refine ⟨natsT ns, .inl rfl, fun i ρ => ∃ s5 s6 s7, ρ = [Sl.o q (Bx n), .x u (skT K S), .x u1 (skT K (shS S)), .x u2 (plT S), .v (.int (S.ms.length : Nat)), s5, s6, s7], ⟨_, _, _, rfl⟩, fun i x ρ2 v hx ⟨s5, s6, s7, e⟩ => ?_, fun ρ2 ⟨s5, s6, s7, e⟩ => ?_⟩
  · subst e
    obtain ⟨t, ht, rfl⟩ : ∃ t : Nat, t ∈ ns ∧ x = .int (t : Int) := by
      obtain ⟨t, ht, e⟩ := List.mem_map.mp (List.mem_of_getElem? hx)
      exact ⟨t, ht, e.symm⟩
    have t15 : (t : Int) ≤ most := by
      have := ns15 t ht
      show (t : Int) ≤ 1000000000000000
      omega
    refine wG_name ?_
    refine wS_seq (wS_par (wA_cons (wE_mof (wA_cons (wE_x rfl (wA_cons (wE_v rfl fun _ => wA_nil ⟨S, t, rfl, ok, t15, fun _ => wA_cons (wE_mof (wA_cons (wE_x rfl (wA_cons (wE_v rfl fun _ => wA_nil ⟨shS S, t, rfl, oS, t15, fun _ => wA_nil ⟨_, _, rfl, ?_⟩⟩)))))⟩)))))))
    show wS _ _ _ [Sl.o q (Bx n), .x u (skT K S), .x u1 (skT K (shS S)), .x u2 (plT S), .v (.int (S.ms.length : Nat)), .v (.int t), .v (optN (momAt S t)), .v (optN (momAt (shS S) t))] _
    refine wS_seq (wS_if (wT_test (wE_op neOk (wE_op isOk (wE_v rfl fun _ => wE_non ⟨notRaw_opt _, fun _ => wE_op isOk (wE_v rfl fun _ => wE_non ⟨notRaw_opt _, fun _ => ?_⟩)⟩)))))
    rcases sh_mom ok t with ⟨h1, h2⟩ | ⟨j, j', m, h1, h2, h3, h4⟩
    · rw [h1, h2]
      refine (show ∀ v, _ from fun _ => ⟨_, rfl, ite_f (wS_next (wS_if (wT_and (wT_test (wE_op isNotOk (wE_v rfl fun _ => wE_non ⟨trivial, fun _ => ⟨_, rfl, ite_f (wS_next ⟨_, _, _, rfl⟩)⟩⟩))))))⟩)
    · rw [h1, h2]
      have g1 : (S.ms.map moT)[j]? = some (moT m) := by rw [List.getElem?_map, h3]; rfl
      have g2 : ((shS S).ms.map moT)[j']? = some (moT m) := by rw [List.getElem?_map, h4]; rfl
      have dm : Dn 130 7 (moT m) := (n_mo (ok.ms m (List.mem_of_getElem? h3)) ok.h3 ok.r3).up (by decide)
      refine (show ∀ v, _ from fun _ => ⟨_, rfl, ite_f (wS_next (wS_if (wT_and (wT_test (wE_op isNotOk (wE_v rfl fun _ => wE_non ⟨trivial, fun _ => ⟨_, rfl, ite_t ?_⟩⟩))))))⟩)
      exact wT_not (wT_tru (wE_sameN dm (wE_op ixOk (wE_sm Z (wE_x rfl ⟨S, rfl, fun _ => wE_v rfl fun _ => gIxW j (.inr rfl) g1 fun _ => ⟨rfl, wE_op ixOk (wE_sm Z (wE_x rfl ⟨shS S, rfl, fun _ => wE_v rfl fun _ => gIxW j' (.inr rfl) g2 fun _ => ⟨rfl, fun _ => ⟨true, rfl, ite_f (wS_next ⟨_, _, _, rfl⟩)⟩⟩⟩))⟩⟩)))))
  · subst e
    exact wS_ret (wE_bl ⟨rfl, rfl⟩)
end K10
set_option maxHeartbeats 4000000
namespace K10
open PySem PySem.Spec PyProof.Rows L2 TL TC TD K09
local macro_rules | `(tactic| walk_at "wk") => `(tactic| repeat' (first
  | with_reducible refine wS_seq ?_
  | with_reducible refine wS_if ?_
  | with_reducible refine wS_next ?_
  | with_reducible refine wS_aug rfl ipOk ?_
  | with_reducible refine wT_not ?_
  | with_reducible refine wT_and ?_
  | with_reducible refine wT_or ?_
  | with_reducible refine wT_test ?_
  | with_reducible refine wT_tru ?_
  | with_reducible refine wT_yes ?_
  | with_reducible refine wE_op addOk ?_
  | with_reducible refine wE_op subOk ?_
  | with_reducible refine wE_op mulOk ?_
  | with_reducible refine wE_op modOk ?_
  | with_reducible refine wE_op divOk ?_
  | with_reducible refine wE_op powOk ?_
  | with_reducible refine wE_op ltOk ?_
  | with_reducible refine wE_op leOk ?_
  | with_reducible refine wE_op gtOk ?_
  | with_reducible refine wE_op geOk ?_
  | with_reducible refine wE_op isOk ?_
  | with_reducible refine wE_op isNotOk ?_
  | with_reducible refine wE_op ixOk ?_
  | with_reducible refine wE_un negOk ?_
  | with_reducible refine wE_cb intOk ?_
  | with_reducible refine wE_cb absOk ?_
  | with_reducible refine wE_cb maxOk ?_
  | with_reducible refine wE_cb minOk ?_
  | with_reducible refine wE_cb lenOk ?_
  | with_reducible refine wE_cb sumOk ?_
  | with_reducible refine wE_cb allOk ?_
  | with_reducible refine wE_cb dvmOk ?_
  | with_reducible refine wE_sl ?_
  | with_reducible refine wO_none ?_
  | with_reducible refine wO_some ?_
  | with_reducible refine wE_tup ?_
  | with_reducible refine wE_lstD ?_
  | with_reducible refine wE_listD ?_
  | refine gIxT 0 rfl rfl ?_
  | refine gIxT 1 rfl rfl ?_
  | refine And.intro (sm1000 (Nat.le_of_ble_eq_true rfl)) ?_
  | with_reducible refine wE_if ?_
  | with_reducible refine wE_int ?_
  | with_reducible refine wE_bl ?_
  | with_reducible refine wE_str ?_
  | with_reducible refine wE_non ?_
  | refine wE_x rfl ?_
  | refine wE_v rfl ?_
  | with_reducible refine wA_cons ?_
  | with_reducible refine wA_nil ?_
  | with_reducible refine gAdd ?_
  | with_reducible refine gSub ?_
  | with_reducible refine gMulL (by omega) (by omega) ?_
  | with_reducible refine gMulR (by omega) (by omega) ?_
  | with_reducible refine gMod (by omega) ?_
  | with_reducible refine gDiv (by omega) (by omega) ?_
  | with_reducible refine gPow (by omega) (by omega) (by omega) ?_
  | with_reducible refine gLt ?_
  | with_reducible refine gLe ?_
  | with_reducible refine gGt ?_
  | with_reducible refine gGe ?_
  | with_reducible refine gNeg ?_
  | with_reducible refine gInt ?_
  | with_reducible refine gAbs ?_
  | with_reducible refine gMax ?_
  | with_reducible refine gMin ?_
  | with_reducible refine gLenL ?_
  | with_reducible refine gLenT ?_
  | with_reducible refine gSlL ?_
  | with_reducible refine gSlT ?_
  | (with_reducible intro (_ : V))
  | with_reducible refine Exists.intro _ (And.intro (rfl : T.bl _ = T.bl _) ?_)
  | with_reducible refine Exists.intro _ (And.intro (rfl : T.int _ = T.int _) ?_)
  | with_reducible refine Exists.intro _ (And.intro (rfl : truT (T.bl _) = some _) ?_)))
section
variable {K : PySem.W.Frag} {E : WX} {X : XP} {ρ : TL.Env} {te : TE} {ta : TA} {Φ : V → T → TL.Env → Prop} {Ψ : List T → TL.Env → Prop}
theorem wF_ask (h : wA E X ta ρ fun _ ts ρ1 => ∃ (d : Int) (xs : List T) (c : Bool) (o : Out), ts = [.int d, .lst xs, .bl c] ∧ AskOk K d xs o ∧ Ψ (outU o) ρ1) : wF E X (tCallS (sp_law_ask K) (WE E) ta) ρ Ψ := fun b G H σ Q S q ke =>
  h b G H σ _ S (fun vs ts ρ1 G1 H1 ⟨d, xs, c, o, e, ao, h2⟩ r1 S1 l1 => by
    subst e
    obtain ⟨v, r1, rfl, a1, w, r2, rfl, a2, x, r3, rfl, a3, rfl⟩ := r1
    cases a1
    cases a3
    obtain ⟨A, ws, rfl, hA, rL⟩ := a2
    refine ⟨d, xs, o, ws, A, c, G1, rfl, hA, rL, S1.gh, ao, fun p us G' H' hp gp hn r g => q p us _ ρ1 G' H' h2 hp gp (S1.bh.back hn) r ?_ (S1.grow g) (l1.tr g.g)⟩
    intro j Qd e
    obtain ⟨ts2, vs2, a2, e2, _⟩ := S1.own j p Qd e
    rw [hn] at e2
    cases e2) ke
theorem wE_ask (h : wA E X ta ρ fun _ ts ρ1 => ∃ (d : Int) (xs : List T) (c : Bool) (o : Out), ts = [.int d, .lst xs, .bl c] ∧ AskOk K d xs o ∧ ∀ v, Φ v (.lst (outU o)) ρ1) : wE E X (tCallS (sp_law_ask K) (WE E) ta) ρ Φ := wE_F (wF_ask h)
theorem wE_madeP (h : wE E X te ρ fun _ x ρ1 => ∃ S, x = plT S ∧ SkOk S ∧ ∀ v, Φ v (skT K S) ρ1) : wE E X (tCallS (sp_law_made K) (WE E) (tCons te tNil)) ρ Φ := by
  refine wE_callV (wA_cons (wE_imp h fun _ x ρ1 ⟨S, e, ok, hk⟩ => ?_))
  subst e
  exact wA_nil ⟨⟨S, rfl, ok⟩, ⟨_, fun t po => po S rfl, hk⟩, fun er z => z.elim⟩
theorem wE_shs (h : wE E X te ρ fun _ x ρ1 => ∃ S, x = skT K S ∧ SkOk S ∧ ∀ v, Φ v (skT K (shS S)) ρ1) : wE E X (tCallS (sp_shortest_sky K) (WE E) (tCons te tNil)) ρ Φ := by
  refine wE_callV (wA_cons (wE_imp h fun _ x ρ1 ⟨S, e, ok, hk⟩ => ?_))
  subst e
  exact wA_nil ⟨⟨S, rfl, ok⟩, ⟨_, fun t po => po S rfl, hk⟩, fun er z => z.elim⟩
theorem wE_ldue (h : wA E X ta ρ fun _ ts ρ1 => ∃ S x, ts = [plT S, x] ∧ SkOk S ∧ DD x ∧ ∀ v, Φ v (.lst (outU (laO S x))) ρ1) : wE E X (tCallS (sp_law_later_due K) (WE E) ta) ρ Φ :=
  wE_callV (fun b G H σ Q S0 q ke => h b G H σ Q S0 (fun vs ts ρ1 G1 H1 ⟨S, x, e, ok, dx, hk⟩ r1 S1 l1 => q vs ts ρ1 G1 H1 ⟨⟨S, x, e, ok, dx⟩, ⟨_, fun t po => po S x e, hk⟩, fun er z => z.elim⟩ r1 S1 l1) ke)
theorem wE_fdue (h : wA E X ta ρ fun _ ts ρ1 => ∃ A B, ts = [plT A, plT B] ∧ SkOk A ∧ SkOk B ∧ ∀ v, Φ v (.lst (outU (foO A B))) ρ1) : wE E X (tCallS (sp_law_followed_due K) (WE E) ta) ρ Φ :=
  wE_callV (fun b G H σ Q S0 q ke => h b G H σ Q S0 (fun vs ts ρ1 G1 H1 ⟨A, B, e, oa, ob, hk⟩ r1 S1 l1 => q vs ts ρ1 G1 H1 ⟨⟨A, B, e, oa, ob⟩, ⟨_, fun t po => po A B e, hk⟩, fun er z => z.elim⟩ r1 S1 l1) ke)
end
/-- what is told is 7 deep -/
theorem d_out {o : Out} (ho : ∀ S, o = .told S → SkOk S) (hx : ∀ x, o = .tick x → Dn 130 6 x) : Dn 130 7 (.lst (outU o)) := by
  cases o with
  | told S => exact nL2 (.str _ (by decide)) (d_pl (ho S rfl))
  | tick x => exact nL2 (.str _ (by decide)) (hx x rfl)
  | never => exact nL2 (.str _ (by decide)) .non
  | ended n => exact nL2 (.str _ (by decide)) (.int _)
  | houses n => exact nL2 (.str _ (by decide)) (.int _)
  | readers n => exact nL2 (.str _ (by decide)) (.int _)
  | many n => exact nL2 (.str _ (by decide)) (.int _)
theorem d_la {S : Sk} (ok : SkOk S) {x : T} (dx : Dn 130 6 x) : Dn 130 7 (.lst (outU (laO S x))) := by
  refine d_out (fun S' e => ?_) (fun y e => ?_)
  · unfold laO at e
    split at e
    · cases h : momAt S (natOf x) with
      | none => rw [h] at e; cases e
      | some j => rw [h] at e; cases e; exact sh_ok (fro_ok ok h)
    · cases e
  · unfold laO at e
    split at e
    · cases h : momAt S (natOf x) with
      | none => rw [h] at e; cases e
      | some j => rw [h] at e; cases e
    · cases e; exact dx
theorem d_fo {A B : Sk} (oa : SkOk A) (ob : SkOk B) : Dn 130 7 (.lst (outU (foO A B))) := by
  refine d_out (fun S' e => ?_) (fun y e => absurd e fo_tick)
  unfold foO at e
  split at e
  · cases e
  · split at e
    · cases e
    · split at e
      · cases e
      · split at e
        · cases e
        · cases e; exact fo_ok oa ob (by omega) (by omega) (by assumption)
abbrev rhoM (u : V) (sc : T) (gr : Bool) (i : Nat) (p : Addr) (n : Nat) (s4 s5 s6 s7 s8 s9 s10 s11 s12 s13 s14 s15 : Sl) : TL.Env :=
  [.x u sc, .v (.bl gr), .v (.int i), .o p (Bx n), s4, s5, s6, s7, s8, s9, s10, s11, s12, s13, s14, s15]
def wrongs : List T := [.int (-1), .int 1000000000000001, .bl true, .non, .str "2", .tup [.int 1]]
theorem wrong_d {x : T} (h : x ∈ wrongs) : Dn 130 6 x := by
  simp only [wrongs, List.mem_cons, List.not_mem_nil, or_false] at h
  rcases h with rfl | rfl | rfl | rfl | rfl | rfl
  · exact .int _
  · exact .int _
  · exact .bl _
  · exact .non
  · exact .str _ (by decide)
  · refine .tup (by show 1 ≤ 130; decide) fun t h => ?_
    rw [List.mem_singleton.mp h]
    exact .int _
theorem r_the_law {K : PySem.W.Frag} (vs : List V) (H : Hp) (Q : VK) (E : XK) (h : sp_law K vs H Q E) : t_the_law K E { nx := fun _ H' => Q .non H', rt := Q } (L2.start N_the_law vs) H := by
  unfold sp_law TD.sp_law at h
  refine run_sP h fun ts hv ⟨ns, sc, e, hs, hn⟩ => ?_
  subst e
  obtain ⟨u, rfl⟩ := len1 hv
  show wS _ _ _ [Sl.x u sc, .no, .no, .no, .no, .no, .no, .no, .no, .no, .no, .no, .no, .no, .no, .no] _
  unfold t_the_law
  have mono : ∀ {a b : Nat}, b ≤ a → ∀ ts, Bx a ts → Bx b ts := fun l ts b => b.mono l
  have tt : ∀ {t : T}, t = .bl true → truT t = some true := fun e => by rw [e]; rfl
  refine wS_seq (wS_set (wE_op eqQOk (wE_callF 999999 (wF_call (wA_cons (wE_cell hs rfl (wE_int ⟨rfl, 0, rfl, by decide, fun z _ => wA_nil ⟨⟨z, rfl⟩, fun us hb => ⟨hb, wA_cons (wE_int (wA_nil ⟨rfl, ⟨8, rfl, by decide, by decide⟩, fun t v po => ?_, fun er z => z.elim⟩))⟩, fun er z => z.elim⟩⟩)))))))
  obtain ⟨g, rfl, g0, g8⟩ := po 8 rfl
  refine wE_int (gEqI fun _ => ?_)
  generalize decide (g = 0) = gr
  show wS _ _ _ [Sl.x u sc, .v (.bl gr), .no, .no, .no, .no, .no, .no, .no, .no, .no, .no, .no, .no, .no, .no] _
  refine wS_seq (wS_for (wI_range1 (wA_cons (wE_cb maxOk (wA_cons (wE_int (wA_cons (wE_cb minOk (wA_cons (wE_int (wA_cons (wE_lenS hs rfl fun _ => wA_nil (gMin fun _ => wA_nil (gMax fun _ => wA_nil ?_))))))))))))))
  obtain ⟨m, em, m3, m5⟩ : ∃ m : Nat, (if (if (ns.length : Int) < 6 then (ns.length : Int) else 6) > 3 then (if (ns.length : Int) < 6 then (ns.length : Int) else 6) else 3) = (m : Int) ∧ 3 ≤ m ∧ m ≤ 6 := by
    refine ⟨(if (if (ns.length : Int) < 6 then (ns.length : Int) else 6) > 3 then (if (ns.length : Int) < 6 then (ns.length : Int) else 6) else 3).toNat, ?_, ?_, ?_⟩ <;> split <;> split <;> omega
  rw [em]
  refine ⟨(m : Int), rfl, by omega, by omega, fun i ρ => ∃ (s2 s3 s4 s5 s6 s7 s8 s9 s10 s11 s12 s13 s14 s15 : Sl), ρ = [Sl.x u sc, .v (.bl gr), s2, s3, s4, s5, s6, s7, s8, s9, s10, s11, s12, s13, s14, s15], ⟨_, _, _, _, _, _, _, _, _, _, _, _, _, _, rfl⟩, fun i x ρ2 v hx ⟨s2, s3, s4, s5, s6, s7, s8, s9, s10, s11, s12, s13, s14, s15, e⟩ => ?_, fun ρ2 ⟨s2, s3, s4, s5, s6, s7, s8, s9, s10, s11, s12, s13, s14, s15, e⟩ => ?_⟩
  · subst e
    obtain ⟨e, il⟩ := rngT_get hx
    subst e
    rw [show ((0 : Int) + (i : Nat)) = (i : Int) from Int.zero_add _]
    have il : i < 6 := by omega
    refine wG_name ?_
    refine wS_no 3 (wS_no 4 (wS_no 5 (wS_no 6 (wS_no 7 (wS_no 8 (wS_no 9 (wS_no 10 (wS_no 11 (wS_no 12 (wS_no 13 (wS_no 14 (wS_no 15 ?_))))))))))))
    show wS _ _ _ [Sl.x u sc, .v (.bl gr), .v (.int i), .no, .no, .no, .no, .no, .no, .no, .no, .no, .no, .no, .no, .no] _
    refine wS_seq (wS_setF (wF_call (wA_cons (wE_cell hs rfl (wE_v rfl fun _ => ⟨rfl, i, rfl, by omega, fun z _ => wA_nil ⟨⟨z, rfl⟩, fun us hb p => ?_, fun er z => z.elim⟩⟩)))))
    refine wS_ow (i := 3) (p := p) (Bx 17007) rfl (fun ts e => by rw [e]; exact Bx.mono hb (by omega)) ?_
    show wS _ _ _ (rhoM u sc gr i p 17007 .no .no .no .no .no .no .no .no .no .no .no .no) _
    refine wS_seq (wS_par (wA_cons (wE_op eqQOk (wE_tki 17006 rfl 2 rfl (by omega) (by omega) fun a ha _ => wE_int (gEqI fun _ => wA_cons (wE_tki 17005 rfl 6 rfl (by omega) (by omega) fun od hod _ => wA_nil ⟨_, _, rfl, ?_⟩))))))
    generalize decide ((a : Int) = 0) = nm
    show wS _ _ _ (rhoM u sc gr i p 17005 (.v (.bl nm)) (.v (.int od)) .no .no .no .no .no .no .no .no .no .no) _
    refine wS_ow (i := 3) (p := p) (Bx (8100 + 1500)) rfl (mono (by omega)) ?_
    refine wS_seq (wS_set (wE_long 8100 rfl (wA_cons (wE_andB (fun Φ' hk => wE_v rfl fun v => hk _ v) (fun Φ' hk => wE_op eqQOk (wE_v rfl fun _ => wE_int (gEqI fun v => hk _ v))) fun cc _ => wA_nil ⟨rfl, ⟨cc, rfl⟩, fun S ok _ => ?_⟩))))
    show wS _ _ _ (rhoM u sc gr i p 8100 (.v (.bl nm)) (.v (.int od)) (.v (plN S)) .no .no .no .no .no .no .no .no .no) _
    have oS := sh_ok ok
    have dS : Dn 130 7 (plT S) := (d_pl ok).up (by decide)
    refine wS_seq (wS_par (wA_cons (wE_madeP (wE_cvN (wE_v rfl fun _ => ⟨S, rfl, fun _ => ⟨S, rfl, ok, fun _ => wA_cons (wE_lstD (wA_cons (wE_str (wA_cons (wE_shortest (wA_cons (wE_v rfl fun _ => wA_nil ⟨S, rfl, ok, fun _ => wA_nil ⟨by show 2 ≤ sizeLine; decide, fun _ => wA_nil ⟨_, _, rfl, ?_⟩⟩⟩)))))))⟩⟩)))))
    obtain ⟨due, edue⟩ : ∃ due, due = T.lst (outU (.told (shS S))) := ⟨_, rfl⟩
    have ddue : Dn 130 7 due := by rw [edue]; exact d_out (fun S' e => by cases e; exact oS) (fun x e => nomatch e)
    rw [show T.lst [.str "told", plT (shS S)] = due from edue.symm]
    show wS _ _ _ (rhoM u sc gr i p 8100 (.v (.bl nm)) (.v (.int od)) (.v (plN S)) (.v (skT K S)) (.v due) .no .no .no .no .no .no .no) _
    refine wS_ow (i := 3) (p := p) (Bx (8098 + 2)) rfl (mono (by omega)) ?_
    refine wS_seq (wS_if (wT_or (wT_not (wT_tru (wE_sameN ddue (wE_ask (wA_cons (wE_int (wA_cons (wE_lstD (wA_cons (wE_v rfl fun _ => wA_nil ⟨by show 1 ≤ sizeLine; decide, fun _ => wA_cons (wE_v rfl fun _ => wA_nil ⟨0, _, nm, _, rfl, .shortest ok, fun _ => ⟨edue.symm, wE_v rfl fun _ => ⟨rfl, fun _ => ⟨true, rfl, ite_f ?_⟩⟩⟩⟩)⟩))))))))))))
    refine wT_not (wT_tru (wE_callO 8098 rfl (wA_cons (wE_v rfl fun _ => wA_cons (wE_shs (wE_v rfl fun _ => ⟨S, rfl, ok, fun _ => wA_cons (wE_cvN (wE_v rfl fun _ => ⟨S, rfl, fun _ => wA_nil ⟨rfl, ⟨S, rfl, ok⟩, fun t v e => ⟨true, tt e, ite_f (wS_next ?_)⟩, fun er z => z.elim⟩⟩))⟩))))))
    show wS _ _ _ (rhoM u sc gr i p 8098 (.v (.bl nm)) (.v (.int od)) (.v (plN S)) (.v (skT K S)) (.v due) .no .no .no .no .no .no .no) _
    have m24 := ok.m24
    have m1 := ok.m1
    have p15 : (10 : Int) ^ (15 : Int).toNat = 1000000000000000 := by decide +kernel
    refine wS_seq (wS_set (wE_cb lenOk (wA_cons (wE_p2 (wE_cvN (wE_v rfl fun _ => ⟨S, rfl, fun _ => ⟨S, rfl, fun _ => wA_nil (gLenT fun _ => ?_)⟩⟩))))))
    rw [List.length_map]
    refine wS_seq (wS_set (wE_op ixOk (wE_lstD (wA_cons (wE_un negOk (wE_int (gNeg fun _ => wA_cons (wE_op addOk (wE_op powOk (wE_int (wE_int (gPow (by decide) (by decide) (by decide) fun _ => wE_int (gAdd fun _ => ?_)))))))))))))
    rw [p15]
    refine wA_cons (wE_bl (wA_cons (wE_non (wA_cons (wE_str (wA_cons (wE_tup (wA_cons (wE_int (wA_nil ⟨by show 1 ≤ sizeLine; decide, fun _ => wA_nil ⟨by show 6 ≤ sizeLine; decide, fun _ => wE_v rfl fun _ => ?_⟩⟩))))))))))
    obtain ⟨x, hx⟩ : ∃ x, wrongs[od]? = some x := ⟨_, List.getElem?_eq_getElem (by show od < 6; omega)⟩
    refine gIxL od rfl hx fun _ => ?_
    have dx := wrong_d (List.mem_of_getElem? hx)
    show wS _ _ _ (rhoM u sc gr i p 8098 (.v (.bl nm)) (.v (.int od)) (.v (plN S)) (.v (skT K S)) (.v due) (.v (.int (S.ms.length : Nat))) (.v x) .no .no .no .no .no) _
    refine wS_seq (wS_for (wI_seq (wE_lstD (wA_cons (wE_int (wA_cons (wE_op subOk (wE_v rfl fun _ => wE_int (gSub fun _ => wA_cons (wE_v rfl fun _ => wA_cons (wE_tki 8097 rfl 41 rfl (by omega) (by omega) fun a1 ha1 _ => wA_cons (wE_op subOk (wE_op powOk (wE_int (wE_int (gPow (by decide) (by decide) (by decide) fun _ => ?_))))))))))))))))
    rw [p15]
    refine wE_tki 8096 rfl 100 rfl (by omega) (by omega) fun a2 ha2 _ => gSub fun _ => wA_cons (wE_tk 8095 rfl (wE_v rfl fun _ => ⟨rfl, S.ms.length, rfl, by omega, by omega, fun a3 ha3 _ => wA_cons (wE_v rfl fun _ => wA_nil ⟨by show 7 ≤ sizeLine; decide, fun _ => ?_⟩)⟩))
    refine ⟨_, .inl rfl, fun i1 ρ => ∃ s11, ρ = rhoM u sc gr i p 8095 (.v (.bl nm)) (.v (.int od)) (.v (plN S)) (.v (skT K S)) (.v due) (.v (.int (S.ms.length : Nat))) (.v x) s11 .no .no .no .no, ⟨_, rfl⟩, fun i1 y ρ2 v hy ⟨s11, e⟩ => ?_, fun ρ2 ⟨s11, e⟩ => ?_⟩
    · subst e
      have dy : Dn 130 6 y := by
        have hy := List.mem_of_getElem? hy
        simp only [List.mem_cons, List.not_mem_nil, or_false] at hy
        rcases hy with rfl | rfl | rfl | rfl | rfl | rfl | rfl
        · exact .int _
        · exact .int _
        · exact .int _
        · exact .int _
        · exact .int _
        · exact .int _
        · exact dx
      refine wG_name ?_
      refine wS_if (wT_not (wT_tru (wE_sameN (d_la ok dy) (wE_ask (wA_cons (wE_int (wA_cons (wE_lstD (wA_cons (wE_v rfl fun _ => wA_cons (wE_v rfl fun _ => wA_nil ⟨by show 2 ≤ sizeLine; decide, fun _ => wA_cons (wE_v rfl fun _ => wA_nil ⟨1, _, nm, _, rfl, .later ok ⟨6, dy.to⟩, fun _ => ⟨rfl, ?_⟩⟩)⟩)))))))))))
      exact wE_ldue (wA_cons (wE_cvN (wE_v rfl fun _ => ⟨S, rfl, fun _ => wA_cons (wE_v rfl fun _ => wA_nil ⟨S, y, rfl, ok, ⟨6, dy.to⟩, fun _ => ⟨rfl, fun _ => ⟨true, rfl, ite_f (wS_next ⟨_, rfl⟩)⟩⟩⟩)⟩)))
    subst e
    refine wS_ow (i := 3) (p := p) (Bx 8000) rfl (mono (by omega)) ?_
    refine wS_seq (wS_for (wI_range1 (wA_cons (wE_int (wA_nil ?_)))))
    refine ⟨2, rfl, by omega, by omega, fun i1 ρ => ∃ s12 s13 s14 s15, ρ = rhoM u sc gr i p (8000 - 4000 * i1) (.v (.bl nm)) (.v (.int od)) (.v (plN S)) (.v (skT K S)) (.v due) (.v (.int (S.ms.length : Nat))) (.v x) s11 s12 s13 s14 s15, ⟨_, _, _, _, rfl⟩, fun i1 y ρ2 v hy ⟨s12, s13, s14, s15, e⟩ => ?_, fun ρ2 ⟨s12, s13, s14, s15, e⟩ => ?_⟩
    · subst e
      obtain ⟨e, i2⟩ := rngT_get hy
      have i2 : i1 < 2 := by omega
      refine wG_name ?_
      obtain ⟨N, eN⟩ : ∃ N, N = 8000 - 4000 * (i1 + 1) := ⟨_, rfl⟩
      refine wS_ow (i := 3) (p := p) (Bx (N + 4000)) rfl (mono (by omega)) ?_
      refine wS_seq (wS_asg (wE_callO N rfl (wA_cons (wE_cvN (wE_v rfl fun _ => ⟨S, rfl, fun _ => wA_nil ⟨rfl, ⟨S, rfl, ok⟩, fun t v ⟨A, B, oa, ob, et⟩ => ?_, fun er z => z.elim⟩⟩)))))
      subst et
      refine wG_unp rfl fun us hu => ?_
      match us, hu with
      | [w1, w2], _ =>
      refine wGs_cons (wG_name (wGs_cons (wG_name (wGs_nil ?_))))
      have fin : ∀ a b c d : Sl, ∃ a' b' c' d', rhoM u sc gr i p N (.v (.bl nm)) (.v (.int od)) (.v (plN S)) (.v (skT K S)) (.v due) (.v (.int (S.ms.length : Nat))) (.v x) s11 a b c d = rhoM u sc gr i p (8000 - 4000 * (i1 + 1)) (.v (.bl nm)) (.v (.int od)) (.v (plN S)) (.v (skT K S)) (.v due) (.v (.int (S.ms.length : Nat))) (.v x) s11 a' b' c' d' := fun a b c d => ⟨a, b, c, d, by rw [eN]⟩
      have dA := d_pl oa
      have dB := d_pl ob
      show wS _ _ _ (rhoM u sc gr i p N (.v (.bl nm)) (.v (.int od)) (.v (plN S)) (.v (skT K S)) (.v due) (.v (.int (S.ms.length : Nat))) (.v x) s11 (.v y) (.v (plT A)) (.v (plT B)) s15) _
      refine wS_seq (wS_set (wE_lstD (wA_cons (wE_madeP (wE_v rfl fun _ => ⟨A, rfl, oa, fun _ => wA_cons (wE_madeP (wE_v rfl fun _ => ⟨B, rfl, ob, fun _ => wA_nil ⟨by show 2 ≤ sizeLine; decide, fun _ => ?_⟩⟩))⟩)))))
      show wS _ _ _ (rhoM u sc gr i p N (.v (.bl nm)) (.v (.int od)) (.v (plN S)) (.v (skT K S)) (.v due) (.v (.int (S.ms.length : Nat))) (.v x) s11 (.v y) (.v (plT A)) (.v (plT B)) (.v (.lst [skT K A, skT K B]))) _
      refine wS_seq (wS_if (wT_not (wT_tru (wE_sameN (d_fo oa ob) (wE_ask (wA_cons (wE_int (wA_cons (wE_v rfl fun _ => wA_cons (wE_notV (wE_v rfl fun _ => ⟨nm, rfl, fun _ => wA_nil ⟨2, _, !nm, _, rfl, .followed oa ob, fun _ => ⟨rfl, ?_⟩⟩⟩)))))))))))
      refine wE_fdue (wA_cons (wE_v rfl fun _ => wA_cons (wE_v rfl fun _ => wA_nil ⟨A, B, rfl, oa, ob, fun _ => ⟨rfl, fun _ => ⟨true, rfl, ite_f (wS_next ?_)⟩⟩⟩)))
      refine wS_if (wT_not (wT_tru (wE_sameN (nL2 dA dB) (wE_lstD (wA_cons (wE_plainU (wE_op ixOk (wE_v rfl fun _ => wE_int (gIxL 0 rfl rfl fun _ => ⟨A, rfl, fun _ => wA_cons (wE_plainU (wE_op ixOk (wE_v rfl fun _ => wE_int (gIxL 1 rfl rfl fun _ => ⟨B, rfl, fun _ => wA_nil ⟨by show 2 ≤ sizeLine; decide, fun _ => ⟨rfl, ?_⟩⟩⟩))))⟩)))))))))
      refine wE_lstD (wA_cons (wE_v rfl fun _ => wA_cons (wE_v rfl fun _ => wA_nil ⟨by show 2 ≤ sizeLine; decide, fun _ => ⟨rfl, fun _ => ⟨true, rfl, ite_f (wS_next (fin _ _ _ _))⟩⟩⟩)))
    subst e
    refine wS_if (wT_or (wT_not (wT_tru (wE_sameN dS (wE_plainU (wE_v rfl fun _ => ⟨S, rfl, fun _ => ⟨rfl, wE_cvN (wE_v rfl fun _ => ⟨S, rfl, fun _ => ⟨rfl, fun _ => ⟨true, rfl, ite_f ?_⟩⟩⟩)⟩⟩))))))
    refine wT_not (wT_tru (wE_sameN ddue (wE_ask (wA_cons (wE_int (wA_cons (wE_lstD (wA_cons (wE_v rfl fun _ => wA_nil ⟨by show 1 ≤ sizeLine; decide, fun _ => wA_cons (wE_notV (wE_v rfl fun _ => ⟨nm, rfl, fun _ => wA_nil ⟨0, _, !nm, _, rfl, .shortest ok, fun _ => ⟨edue.symm, wE_v rfl fun _ => ⟨rfl, fun _ => ⟨true, rfl, ite_f (wS_next ⟨_, _, _, _, _, _, _, _, _, _, _, _, _, _, rfl⟩)⟩⟩⟩⟩⟩))⟩)))))))))
  · subst e
    exact wS_ret (wE_bl rfl)
end K10
set_option maxHeartbeats 4000000
namespace K10
open PySem PySem.Spec PyProof.Rows L2 TL TC TD K09
/-- whatever the world: what may be raised -/
abbrev CXs : CXT := fun outer H s E u s' => ∃ (P : Program) (w : World), L2.CX P w outer H s E u s'
theorem fnOk_cxs {P : Program} {w : World} {K : PySem.W.Frag} {mg : Str → Option Value} {base : Heap} {k : Nat} {f : Addr} {fd : FuncData} {ps : List Str} {sp : Sp} (F : FnOk P w K mg base (L2.CX P w) k f fd ps sp) : FnOk P w K mg base CXs k f fd ps sp :=
  ⟨F.len, fun A outer s H args us vs Q E hr he hb hv hs => codeAny_mono (F.run A outer s H args us vs Q E hr he hb hv hs) fun r s' h => by
    cases r with
    | error e => exact ⟨P, w, h⟩
    | ok fl => cases fl <;> exact h⟩
section
variable {P : Program} {w : World} {K : PySem.W.Frag} {mg : Str → Option Value} {base : Heap}
theorem sc_Ended : FnScope ["self", "ticks"] ["self", "ticks"] (defScope (inClass (top 8) 0)) := ⟨rfl, rfl, rfl, by decide +kernel, rfl, by decide +kernel, by decide +kernel⟩
theorem I_Ended (W : ByNs K mg) (c : He.SaysD fa fn K) (em : ExMk K "Ended" ["ticks"]) : OkI P w K mg base 1 "Ended" ["self", "ticks"] ["ticks"] := by
  obtain ⟨fd, F⟩ := c.def_ 5 (d := dm "Ended" "Ended.__init__" "__init__" 8) rfl
  exact okI1 (W.gl c 6 rfl) em F sc_Ended rfl rfl (by decide) (by decide) (fun _ _ _ _ _ _ us hl => match us, hl with | [_, _], _ => rfl)
theorem sc_InvalidBack : FnScope ["self", "given"] ["self", "given"] (defScope (inClass (top 3) 0)) := ⟨rfl, rfl, rfl, by decide +kernel, rfl, by decide +kernel, by decide +kernel⟩
theorem I_InvalidBack (W : ByNs K mg) (c : He.SaysD fa fn K) (em : ExMk K "InvalidBack" ["given"]) : OkI P w K mg base 1 "InvalidBack" ["self", "given"] ["given"] := by
  obtain ⟨fd, F⟩ := c.def_ 0 (d := dm "InvalidBack" "InvalidBack.__init__" "__init__" 3) rfl
  exact okI1 (W.gl c 1 rfl) em F sc_InvalidBack rfl rfl (by decide) (by decide) (fun _ _ _ _ _ _ us hl => match us, hl with | [_, _], _ => rfl)
theorem sc_InvalidHouses : FnScope ["self", "given"] ["self", "given"] (defScope (inClass (top 4) 0)) := ⟨rfl, rfl, rfl, by decide +kernel, rfl, by decide +kernel, by decide +kernel⟩
theorem I_InvalidHouses (W : ByNs K mg) (c : He.SaysD fa fn K) (em : ExMk K "InvalidHouses" ["given"]) : OkI P w K mg base 1 "InvalidHouses" ["self", "given"] ["given"] := by
  obtain ⟨fd, F⟩ := c.def_ 1 (d := dm "InvalidHouses" "InvalidHouses.__init__" "__init__" 4) rfl
  exact okI1 (W.gl c 2 rfl) em F sc_InvalidHouses rfl rfl (by decide) (by decide) (fun _ _ _ _ _ _ us hl => match us, hl with | [_, _], _ => rfl)
theorem sc_InvalidMoments : FnScope ["self", "given"] ["self", "given"] (defScope (inClass (top 5) 0)) := ⟨rfl, rfl, rfl, by decide +kernel, rfl, by decide +kernel, by decide +kernel⟩
theorem I_InvalidMoments (W : ByNs K mg) (c : He.SaysD fa fn K) (em : ExMk K "InvalidMoments" ["given"]) : OkI P w K mg base 1 "InvalidMoments" ["self", "given"] ["given"] := by
  obtain ⟨fd, F⟩ := c.def_ 2 (d := dm "InvalidMoments" "InvalidMoments.__init__" "__init__" 5) rfl
  exact okI1 (W.gl c 3 rfl) em F sc_InvalidMoments rfl rfl (by decide) (by decide) (fun _ _ _ _ _ _ us hl => match us, hl with | [_, _], _ => rfl)
theorem sc_InvalidReaders : FnScope ["self", "given"] ["self", "given"] (defScope (inClass (top 6) 0)) := ⟨rfl, rfl, rfl, by decide +kernel, rfl, by decide +kernel, by decide +kernel⟩
theorem I_InvalidReaders (W : ByNs K mg) (c : He.SaysD fa fn K) (em : ExMk K "InvalidReaders" ["given"]) : OkI P w K mg base 1 "InvalidReaders" ["self", "given"] ["given"] := by
  obtain ⟨fd, F⟩ := c.def_ 3 (d := dm "InvalidReaders" "InvalidReaders.__init__" "__init__" 6) rfl
  exact okI1 (W.gl c 4 rfl) em F sc_InvalidReaders rfl rfl (by decide) (by decide) (fun _ _ _ _ _ _ us hl => match us, hl with | [_, _], _ => rfl)
theorem sc_InvalidTick : FnScope ["self", "given"] ["self", "given"] (defScope (inClass (top 7) 0)) := ⟨rfl, rfl, rfl, by decide +kernel, rfl, by decide +kernel, by decide +kernel⟩
theorem I_InvalidTick (W : ByNs K mg) (c : He.SaysD fa fn K) (em : ExMk K "InvalidTick" ["given"]) : OkI P w K mg base 1 "InvalidTick" ["self", "given"] ["given"] := by
  obtain ⟨fd, F⟩ := c.def_ 4 (d := dm "InvalidTick" "InvalidTick.__init__" "__init__" 7) rfl
  exact okI1 (W.gl c 5 rfl) em F sc_InvalidTick rfl rfl (by decide) (by decide) (fun _ _ _ _ _ _ us hl => match us, hl with | [_, _], _ => rfl)
theorem sc_TooMany : FnScope ["self", "count"] ["self", "count"] (defScope (inClass (top 10) 0)) := ⟨rfl, rfl, rfl, by decide +kernel, rfl, by decide +kernel, by decide +kernel⟩
theorem I_TooMany (W : ByNs K mg) (c : He.SaysD fa fn K) (em : ExMk K "TooMany" ["count"]) : OkI P w K mg base 1 "TooMany" ["self", "count"] ["count"] := by
  obtain ⟨fd, F⟩ := c.def_ 6 (d := dm "TooMany" "TooMany.__init__" "__init__" 10) rfl
  exact okI1 (W.gl c 8 rfl) em F sc_TooMany rfl rfl (by decide) (by decide) (fun _ _ _ _ _ _ us hl => match us, hl with | [_, _], _ => rfl)
theorem ok_is_list (W : ByNs K mg) (c : He.SaysD fa fn K) : OkE P w K mg base 1 "is_list" ["value"] kk_is_list (sp_is_list K) := by
  obtain ⟨fd, F⟩ := c.def_ 12 (d := dd "is_list" 14) rfl
  exact okE kk_is_list F (W.gl c 13 rfl) sc_is_list (sP_len (n := 1) fun ts ⟨x, e, _⟩ => by rw [e]; rfl) (t_is_list K) (fun cdv A outer s H E hr => w_is_list W c cdv A outer s H E hr) (TD.r_is_list (K := K)) (fun _ _ _ _ _ _ us hl => match us, hl with | [_], _ => rfl) (fun q hq => nomatch hq)
theorem ok_is_whole (W : ByNs K mg) (c : He.SaysD fa fn K) : OkE P w K mg base 1 "is_whole" ["value"] kk_is_whole (sp_is_whole K) := by
  obtain ⟨fd, F⟩ := c.def_ 10 (d := dd "is_whole" 12) rfl
  exact okE kk_is_whole F (W.gl c 11 rfl) sc_is_whole (sP_len (n := 1) fun ts ⟨x, e, _⟩ => by rw [e]; rfl) (t_is_whole K) (fun cdv A outer s H E hr => w_is_whole W c cdv A outer s H E hr) (TD.r_is_whole (K := K)) (fun _ _ _ _ _ _ us hl => match us, hl with | [_], _ => rfl) (fun q hq => nomatch hq)
theorem ok_is_between (W : ByNs K mg) (c : He.SaysD fa fn K) (D_is_whole : OkE P w K mg base 1 "is_whole" ["value"] kk_is_whole (sp_is_whole K)) : OkE P w K mg base 2 "is_between" ["value", "least", "most"] kk_is_between (sp_is_between K) := by
  obtain ⟨fd, F⟩ := c.def_ 11 (d := dd "is_between" 13) rfl
  exact okE kk_is_between F (W.gl c 12 rfl) sc_is_between (sP_len (n := 3) fun ts ⟨x, l, m, e, _⟩ => by rw [e]; rfl) (t_is_between K) (fun cdv A outer s H E hr => w_is_between W c D_is_whole (by decide) cdv A outer s H E hr) (TD.r_is_between (K := K)) (fun _ _ _ _ _ _ us hl => match us, hl with | [_, _, _], _ => rfl) (fun q hq => nomatch hq)
theorem ok_are_between (W : ByNs K mg) (c : He.SaysD fa fn K) (D_is_between : OkE P w K mg base 2 "is_between" ["value", "least", "most"] kk_is_between (sp_is_between K)) : OkE P w K mg base 3 "are_between" ["values", "least", "most"] kk_are_between (sp_are_between K) := by
  obtain ⟨fd, F⟩ := c.def_ 14 (d := dd "are_between" 16) rfl
  exact okE kk_are_between F (W.gl c 15 rfl) sc_are_between (sP_len (n := 3) fun ts ⟨x, xs, l, m, e, _⟩ => by rw [e]; rfl) (t_are_between K) (fun cdv A outer s H E hr => w_are_between W c D_is_between (by decide) cdv A outer s H E hr) (TD.r_are_between (K := K)) (fun _ _ _ _ _ _ us hl => match us, hl with | [_, _, _], _ => rfl) (fun q hq => nomatch hq)
theorem ok_is_ascending (W : ByNs K mg) (c : He.SaysD fa fn K) : OkE P w K mg base 1 "is_ascending" ["items"] kk_is_ascending (sp_is_ascending K) := by
  obtain ⟨fd, F⟩ := c.def_ 15 (d := dd "is_ascending" 17) rfl
  exact okE kk_is_ascending F (W.gl c 16 rfl) sc_is_ascending (sP_len (n := 1) fun ts ⟨ns, e, _⟩ => by rw [e]; rfl) (t_is_ascending K) (fun cdv A outer s H E hr => w_is_ascending W c cdv A outer s H E hr) (K09.r_is_ascending (K := K)) (fun _ _ _ _ _ _ us hl => match us, hl with | [_], _ => rfl) (fun q hq => nomatch hq)
theorem ok_is_subset (W : ByNs K mg) (c : He.SaysD fa fn K) (D_are_between : OkE P w K mg base 3 "are_between" ["values", "least", "most"] kk_are_between (sp_are_between K)) (D_is_ascending : OkE P w K mg base 1 "is_ascending" ["items"] kk_is_ascending (sp_is_ascending K)) : OkE P w K mg base 4 "is_subset" ["value", "least", "most"] kk_is_subset (sp_is_subset K) := by
  obtain ⟨fd, F⟩ := c.def_ 16 (d := dd "is_subset" 18) rfl
  exact okE kk_is_subset F (W.gl c 17 rfl) sc_is_subset (sP_len (n := 3) fun ts ⟨x, l, m, e, _⟩ => by rw [e]; rfl) (t_is_subset K) (fun cdv A outer s H E hr => w_is_subset W c D_are_between (by decide) D_is_ascending (by decide) cdv A outer s H E hr) (K09.r_is_subset (K := K)) (fun _ _ _ _ _ _ us hl => match us, hl with | [_, _, _], _ => rfl) (fun q hq => nomatch hq)
theorem ok_are_receivers (W : ByNs K mg) (c : He.SaysD fa fn K) (D_is_subset : OkE P w K mg base 4 "is_subset" ["value", "least", "most"] kk_is_subset (sp_is_subset K)) : OkE P w K mg base 5 "are_receivers" ["value", "houses", "readers"] kk_are_receivers (sp_are_receivers K) := by
  obtain ⟨fd, F⟩ := c.def_ 17 (d := dd "are_receivers" 19) rfl
  exact okE kk_are_receivers F (W.gl c 18 rfl) sc_are_receivers (sP_len (n := 3) fun ts ⟨x, l, m, e, _⟩ => by rw [e]; rfl) (t_are_receivers K) (fun cdv A outer s H E hr => w_are_receivers W c D_is_subset (by decide) cdv A outer s H E hr) (K09.r_are_receivers (K := K)) (fun _ _ _ _ _ _ us hl => match us, hl with | [_, _, _], _ => rfl) (fun q hq => nomatch hq)
theorem ok_is_tuple_of (W : ByNs K mg) (c : He.SaysD fa fn K) : OkE P w K mg base 1 "is_tuple_of" ["value", "many"] kk_is_tuple_of (sp_is_tuple_of K) := by
  obtain ⟨fd, F⟩ := c.def_ 13 (d := dd "is_tuple_of" 15) rfl
  exact okE kk_is_tuple_of F (W.gl c 14 rfl) sc_is_tuple_of (sP_len (n := 2) fun ts ⟨x, n, e, _⟩ => by rw [e]; rfl) (t_is_tuple_of K) (fun cdv A outer s H E hr => w_is_tuple_of W c cdv A outer s H E hr) (TD.r_is_tuple_of (K := K)) (fun _ _ _ _ _ _ us hl => match us, hl with | [_, _], _ => rfl) (fun q hq => nomatch hq)
theorem ok_is_frame (W : ByNs K mg) (c : He.SaysD fa fn K) (D_are_receivers : OkE P w K mg base 5 "are_receivers" ["value", "houses", "readers"] kk_are_receivers (sp_are_receivers K)) (D_is_between : OkE P w K mg base 2 "is_between" ["value", "least", "most"] kk_is_between (sp_is_between K)) (D_is_tuple_of : OkE P w K mg base 1 "is_tuple_of" ["value", "many"] kk_is_tuple_of (sp_is_tuple_of K)) : OkE P w K mg base 6 "is_frame" ["value", "houses", "readers"] kk_is_frame (sp_is_frame K) := by
  obtain ⟨fd, F⟩ := c.def_ 18 (d := dd "is_frame" 27) rfl
  exact okE kk_is_frame F (W.gl c 19 rfl) sc_is_frame (sP_len (n := 3) fun ts ⟨x, l, m, e, _⟩ => by rw [e]; rfl) (t_is_frame K) (fun cdv A outer s H E hr => w_is_frame W c D_are_receivers (by decide) D_is_between (by decide) D_is_tuple_of (by decide) cdv A outer s H E hr) (K09.r_is_frame (K := K)) (fun _ _ _ _ _ _ us hl => match us, hl with | [_, _, _], _ => rfl) (fun q hq => nomatch hq)
theorem ok_is_moment (W : ByNs K mg) (c : He.SaysD fa fn K) (D_are_between : OkE P w K mg base 3 "are_between" ["values", "least", "most"] kk_are_between (sp_are_between K)) (D_is_between : OkE P w K mg base 2 "is_between" ["value", "least", "most"] kk_is_between (sp_is_between K)) (D_is_frame : OkE P w K mg base 6 "is_frame" ["value", "houses", "readers"] kk_is_frame (sp_is_frame K)) (D_is_tuple_of : OkE P w K mg base 1 "is_tuple_of" ["value", "many"] kk_is_tuple_of (sp_is_tuple_of K)) : OkE P w K mg base 7 "is_moment" ["value", "houses", "readers"] kk_is_moment (sp_is_moment K) := by
  obtain ⟨fd, F⟩ := c.def_ 19 (d := dd "is_moment" 28) rfl
  exact okE kk_is_moment F (W.gl c 20 rfl) sc_is_moment (sP_len (n := 3) fun ts ⟨x, l, m, e, _⟩ => by rw [e]; rfl) (t_is_moment K) (fun cdv A outer s H E hr => w_is_moment W c D_are_between (by decide) D_is_between (by decide) D_is_frame (by decide) D_is_tuple_of (by decide) cdv A outer s H E hr) (K09.r_is_moment (K := K)) (fun _ _ _ _ _ _ us hl => match us, hl with | [_, _, _], _ => rfl) (fun q hq => nomatch hq)
theorem ok_are_moments (W : ByNs K mg) (c : He.SaysD fa fn K) (D_is_list : OkE P w K mg base 1 "is_list" ["value"] kk_is_list (sp_is_list K)) (D_is_moment : OkE P w K mg base 7 "is_moment" ["value", "houses", "readers"] kk_is_moment (sp_is_moment K)) : OkE P w K mg base 8 "are_moments" ["value", "houses", "readers"] kk_are_moments (sp_are_moments K) := by
  obtain ⟨fd, F⟩ := c.def_ 20 (d := dd "are_moments" 29) rfl
  exact okE kk_are_moments F (W.gl c 21 rfl) sc_are_moments (sP_len (n := 3) fun ts ⟨x, l, m, e, _⟩ => by rw [e]; rfl) (t_are_moments K) (fun cdv A outer s H E hr => w_are_moments W c D_is_list (by decide) D_is_moment (by decide) cdv A outer s H E hr) (K09.r_are_moments (K := K)) (fun _ _ _ _ _ _ us hl => match us, hl with | [_, _, _], _ => rfl) (fun q hq => nomatch hq)
theorem ok_Sky_init (W : ByNs K mg) (c : He.SaysD fa fn K) (D_are_moments : OkE P w K mg base 8 "are_moments" ["value", "houses", "readers"] kk_are_moments (sp_are_moments K)) (D_is_between : OkE P w K mg base 2 "is_between" ["value", "least", "most"] kk_is_between (sp_is_between K)) (I_InvalidBack : OkI P w K mg base 1 "InvalidBack" ["self", "given"] ["given"]) (I_InvalidHouses : OkI P w K mg base 1 "InvalidHouses" ["self", "given"] ["given"]) (I_InvalidMoments : OkI P w K mg base 1 "InvalidMoments" ["self", "given"] ["given"]) (I_InvalidReaders : OkI P w K mg base 1 "InvalidReaders" ["self", "given"] ["given"]) (Z : SkyK K) : OkM P w K mg base 9 "Sky" ["self", "houses", "readers", "moments", "back"] kk_Sky_init (sp_Sky_init K) := by
  obtain ⟨fd, F⟩ := c.def_ 7 (d := dn "Sky" "Sky.__init__" "__init__" 30 0) rfl
  exact okM kk_Sky_init (W.gl c 9 rfl) (He.mkr_ok (c.fact 69 rfl)) F sc_Sky_init (spMk_len (n := 4) fun ts ⟨x, s, m, k, e, _⟩ => by rw [e]; rfl) (t_Sky_init K) (fun cdv A outer s H E hr => w_Sky_init W c D_are_moments (by decide) D_is_between (by decide) I_InvalidBack (by decide) I_InvalidHouses (by decide) I_InvalidMoments (by decide) I_InvalidReaders (by decide) cdv A outer s H E hr) (K09.r_Sky_init (K := K) Z) (fun _ _ _ _ _ _ us hl => match us, hl with | [_, _, _, _, _], _ => rfl) (fun q hq => nomatch hq)
theorem ok_check_tick (W : ByNs K mg) (c : He.SaysD fa fn K) (D_is_between : OkE P w K mg base 2 "is_between" ["value", "least", "most"] kk_is_between (sp_is_between K)) (I_InvalidTick : OkI P w K mg base 1 "InvalidTick" ["self", "given"] ["given"]) : OkE P w K mg base 3 "check_tick" ["tick"] kk_check_tick (sp_check_tick K) := by
  obtain ⟨fd, F⟩ := c.def_ 21 (d := dd "check_tick" 31) rfl
  exact okE kk_check_tick F (W.gl c 22 rfl) sc_check_tick (sP_len (n := 1) fun ts ⟨x, e, _⟩ => by rw [e]; rfl) (t_check_tick K) (fun cdv A outer s H E hr => w_check_tick W c D_is_between (by decide) I_InvalidTick (by decide) cdv A outer s H E hr) (K09.r_check_tick (K := K)) (fun _ _ _ _ _ _ us hl => match us, hl with | [_], _ => rfl) (fun q hq => nomatch hq)
theorem ok_moment_at (W : ByNs K mg) (c : He.SaysD fa fn K) (Z : SkyK K) : OkE P w K mg base 1 "moment_at" ["sky", "tick"] kk_moment_at (sp_moment_at K) := by
  obtain ⟨fd, F⟩ := c.def_ 22 (d := dd "moment_at" 32) rfl
  exact okE kk_moment_at F (W.gl c 23 rfl) sc_moment_at (sP_len (n := 2) fun ts ⟨S, t, e, _⟩ => by rw [e]; rfl) (t_moment_at K) (fun cdv A outer s H E hr => w_moment_at W c cdv A outer s H E hr) (K09.r_moment_at (K := K) Z) (fun _ _ _ _ _ _ us hl => match us, hl with | [_, _], _ => rfl) (fun q hq => nomatch hq)
theorem ok_moment_of (W : ByNs K mg) (c : He.SaysD fa fn K) (D_check_tick : OkE P w K mg base 3 "check_tick" ["tick"] kk_check_tick (sp_check_tick K)) (D_moment_at : OkE P w K mg base 1 "moment_at" ["sky", "tick"] kk_moment_at (sp_moment_at K)) : OkE P w K mg base 4 "moment_of" ["sky", "tick"] kk_moment_of (sp_moment_of K) := by
  obtain ⟨fd, F⟩ := c.def_ 23 (d := dd "moment_of" 33) rfl
  exact okE kk_moment_of F (W.gl c 24 rfl) sc_moment_of (sP_len (n := 2) fun ts ⟨S, x, e, _⟩ => by rw [e]; rfl) (t_moment_of K) (fun cdv A outer s H E hr => w_moment_of W c D_check_tick (by decide) D_moment_at (by decide) cdv A outer s H E hr) (K09.r_moment_of (K := K)) (fun _ _ _ _ _ _ us hl => match us, hl with | [_, _], _ => rfl) (fun q hq => nomatch hq)
theorem ok_least_ring (W : ByNs K mg) (c : He.SaysD fa fn K) : OkE P w K mg base 1 "least_ring" ["ring"] kk_least_ring (sp_least_ring K) := by
  obtain ⟨fd, F⟩ := c.def_ 24 (d := dd "least_ring" 34) rfl
  exact okE kk_least_ring F (W.gl c 25 rfl) sc_least_ring (sP_len (n := 1) fun ts ⟨l, e, _⟩ => by rw [e]; rfl) (t_least_ring K) (fun cdv A outer s H E hr => w_least_ring W c cdv A outer s H E hr) (r_least_ring (K := K)) (fun _ _ _ _ _ _ us hl => match us, hl with | [_], _ => rfl) (fun q hq => nomatch hq)
theorem ok_shortest_of (W : ByNs K mg) (c : He.SaysD fa fn K) (D_least_ring : OkE P w K mg base 1 "least_ring" ["ring"] kk_least_ring (sp_least_ring K)) (M_Sky : OkM P w K mg base 9 "Sky" ["self", "houses", "readers", "moments", "back"] kk_Sky_init (sp_Sky_init K)) : OkE P w K mg base 11 "shortest_of" ["houses", "readers", "moments", "back"] kk_shortest_of (sp_shortest_of K) := by
  obtain ⟨fd, F⟩ := c.def_ 25 (d := dd "shortest_of" 35) rfl
  exact okE kk_shortest_of F (W.gl c 26 rfl) sc_shortest_of (sP_len (n := 4) fun ts ⟨S, e, _⟩ => by rw [e]; rfl) (t_shortest_of K) (fun cdv A outer s H E hr => w_shortest_of W c D_least_ring (by decide) M_Sky (by decide) cdv A outer s H E hr) (r_shortest_of (K := K)) (fun _ _ _ _ _ _ us hl => match us, hl with | [_, _, _, _], _ => rfl) (fun q hq => nomatch hq)
theorem ok_shortest_sky (W : ByNs K mg) (c : He.SaysD fa fn K) (D_shortest_of : OkE P w K mg base 11 "shortest_of" ["houses", "readers", "moments", "back"] kk_shortest_of (sp_shortest_of K)) (Z : SkyK K) : OkE P w K mg base 12 "shortest_sky" ["sky"] kk_shortest_sky (sp_shortest_sky K) := by
  obtain ⟨fd, F⟩ := c.def_ 26 (d := dd "shortest_sky" 36) rfl
  exact okE kk_shortest_sky F (W.gl c 27 rfl) sc_shortest_sky (sP_len (n := 1) fun ts ⟨S, e, _⟩ => by rw [e]; rfl) (t_shortest_sky K) (fun cdv A outer s H E hr => w_shortest_sky W c D_shortest_of (by decide) cdv A outer s H E hr) (r_shortest_sky (K := K) Z) (fun _ _ _ _ _ _ us hl => match us, hl with | [_], _ => rfl) (fun q hq kV doc pm an cdv ct ws hl => by obtain rfl := List.mem_singleton.mp hq; match ws, hl with | [_], _ => rfl)
theorem ok_later_sky (W : ByNs K mg) (c : He.SaysD fa fn K) (D_check_tick : OkE P w K mg base 3 "check_tick" ["tick"] kk_check_tick (sp_check_tick K)) (D_moment_at : OkE P w K mg base 1 "moment_at" ["sky", "tick"] kk_moment_at (sp_moment_at K)) (D_shortest_of : OkE P w K mg base 11 "shortest_of" ["houses", "readers", "moments", "back"] kk_shortest_of (sp_shortest_of K)) (I_Ended : OkI P w K mg base 1 "Ended" ["self", "ticks"] ["ticks"]) (Z : SkyK K) : OkE P w K mg base 12 "later_sky" ["sky", "tick"] kk_later_sky (sp_later_sky K) := by
  obtain ⟨fd, F⟩ := c.def_ 27 (d := dd "later_sky" 37) rfl
  exact okE kk_later_sky F (W.gl c 28 rfl) sc_later_sky (sP_len (n := 2) fun ts ⟨S, x, e, _⟩ => by rw [e]; rfl) (t_later_sky K) (fun cdv A outer s H E hr => w_later_sky W c D_check_tick (by decide) D_moment_at (by decide) D_shortest_of (by decide) I_Ended (by decide) cdv A outer s H E hr) (r_later_sky (K := K) Z) (fun _ _ _ _ _ _ us hl => match us, hl with | [_, _], _ => rfl) (fun q hq kV doc pm an cdv ct ws hl => by obtain rfl := List.mem_singleton.mp hq; match ws, hl with | [_, _], _ => rfl)
theorem ok_followed_by (W : ByNs K mg) (c : He.SaysD fa fn K) (M_Sky : OkM P w K mg base 9 "Sky" ["self", "houses", "readers", "moments", "back"] kk_Sky_init (sp_Sky_init K)) (I_InvalidHouses : OkI P w K mg base 1 "InvalidHouses" ["self", "given"] ["given"]) (I_InvalidReaders : OkI P w K mg base 1 "InvalidReaders" ["self", "given"] ["given"]) (I_TooMany : OkI P w K mg base 1 "TooMany" ["self", "count"] ["count"]) (L_NeverEnds : ExPl K "NeverEnds") (Z : SkyK K) : OkE P w K mg base 11 "followed_by" ["first", "second"] kk_followed_by (sp_followed_by K) := by
  obtain ⟨fd, F⟩ := c.def_ 28 (d := dd "followed_by" 38) rfl
  exact okE kk_followed_by F (W.gl c 29 rfl) sc_followed_by (sP_len (n := 2) fun ts ⟨A, B, e, _⟩ => by rw [e]; rfl) (t_followed_by K) (fun cdv A outer s H E hr => w_followed_by W c M_Sky (by decide) I_InvalidHouses (by decide) I_InvalidReaders (by decide) I_TooMany (by decide) L_NeverEnds cdv A outer s H E hr) (r_followed_by (K := K) Z) (fun _ _ _ _ _ _ us hl => match us, hl with | [_, _], _ => rfl) (fun q hq kV doc pm an cdv ct ws hl => by obtain rfl := List.mem_singleton.mp hq; match ws, hl with | [_, _], _ => rfl)
theorem ok_law_cell (W : ByNs K mg) (c : He.SaysD fa fn K) : OkE P w K mg base 1 "_law_cell" ["script", "k"] kk_law_cell (sp_law_cell K) := by
  obtain ⟨fd, F⟩ := c.def_ 29 (d := dd "_law_cell" 40) rfl
  exact okE kk_law_cell F (W.gl c 30 rfl) sc_law_cell (sP_len (n := 2) fun ts ⟨ns, t, k, e, _⟩ => by rw [e]; rfl) (t_law_cell K) (fun cdv A outer s H E hr => w_law_cell W c cdv A outer s H E hr) (TD.r_law_cell (K := K)) (fun _ _ _ _ _ _ us hl => match us, hl with | [_, _], _ => rfl) (fun q hq => nomatch hq)
theorem ok_law_box (W : ByNs K mg) (c : He.SaysD fa fn K) : OkE P w K mg base 1 "_law_box" ["great"] kk_law_box (sp_law_box K) := by
  obtain ⟨fd, F⟩ := c.def_ 30 (d := dd "_law_box" 41) rfl
  exact okE kk_law_box F (W.gl c 31 rfl) sc_law_box (sF_len (n := 1) fun ts ⟨i, e⟩ => by rw [e]; rfl) (t_law_box K) (fun cdv A outer s H E hr => w_law_box W c cdv A outer s H E hr) (TD.r_law_box (K := K)) (fun _ _ _ _ _ _ us hl => match us, hl with | [_], _ => rfl) (fun q hq => nomatch hq)
theorem ok_law_take (W : ByNs K mg) (c : He.SaysD fa fn K) : OkE P w K mg base 1 "_law_take" ["box", "many"] kk_law_take (sp_law_take K) := by
  obtain ⟨fd, F⟩ := c.def_ 31 (d := dd "_law_take" 42) rfl
  exact okE kk_law_take F (W.gl c 32 rfl) sc_law_take (sO_len (n := 1) fun ts ⟨m, e, _⟩ => by rw [e]; rfl) (t_law_take K) (fun cdv A outer s H E hr => w_law_take W c cdv A outer s H E hr) (TD.r_law_take (K := K)) (fun _ _ _ _ _ _ us hl => match us, hl with | [_, _], _ => rfl) (fun q hq => nomatch hq)
theorem ok_law_same (W : ByNs K mg) (c : He.SaysD fa fn K) : ∀ n : Nat, OkE P w K mg base (n + 1) "_law_same" ["told", "due"] kk_law_same (sp_law_same K n)
  | 0 => by
    obtain ⟨fd, F⟩ := c.def_ 32 (d := dd "_law_same" 43) rfl
    exact ⟨_, fd, W.gl c 33 rfl, F.kp, F.ok sc_law_same (sP_len (n := 2) fun ts ⟨a, b, e, _⟩ => by rw [e]; rfl) (fun cdv A outer s H vs Q E hr ⟨ts, G, r, l, ⟨a, b, e, h, _⟩, _⟩ => nomatch h), F.bindsN (fun _ _ _ _ _ _ us hl => match us, hl with | [_, _], _ => rfl), fun q hq => nomatch hq⟩
  | n + 1 => by
    obtain ⟨fd, F⟩ := c.def_ 32 (d := dd "_law_same" 43) rfl
    exact okE kk_law_same F (W.gl c 33 rfl) sc_law_same (sP_len (n := 2) fun ts ⟨a, b, e, _⟩ => by rw [e]; rfl) (t_law_same K n) (fun cdv A outer s H E hr => w_law_same W c n (ok_law_same W c n) (Nat.le_refl _) cdv A outer s H E hr) (r_law_same (K := K) n) (fun _ _ _ _ _ _ us hl => match us, hl with | [_, _], _ => rfl) (fun q hq => nomatch hq)
theorem ok_law_whole (W : ByNs K mg) (c : He.SaysD fa fn K) : OkE P w K mg base 1 "_law_whole" ["value", "least", "most"] kk_law_whole (sp_law_whole K) := by
  obtain ⟨fd, F⟩ := c.def_ 33 (d := dd "_law_whole" 44) rfl
  exact okE kk_law_whole F (W.gl c 34 rfl) sc_law_whole (sP_len (n := 3) fun ts ⟨x, l, m, e, _⟩ => by rw [e]; rfl) (t_law_whole K) (fun cdv A outer s H E hr => w_law_whole W c cdv A outer s H E hr) (TD.r_law_whole (K := K)) (fun _ _ _ _ _ _ us hl => match us, hl with | [_, _, _], _ => rfl) (fun q hq => nomatch hq)
theorem ok_law_subset (W : ByNs K mg) (c : He.SaysD fa fn K) (D_law_take : OkE P w K mg base 1 "_law_take" ["box", "many"] kk_law_take (sp_law_take K)) : OkE P w K mg base 2 "_law_subset" ["box", "items"] kk_law_subset (sp_law_subset K) := by
  obtain ⟨fd, F⟩ := c.def_ 34 (d := dd "_law_subset" 45) rfl
  exact okE kk_law_subset F (W.gl c 35 rfl) sc_law_subset (sO_len (n := 1) fun ts ⟨ns, e, _⟩ => by rw [e]; rfl) (t_law_subset K) (fun cdv A outer s H E hr => w_law_subset W c D_law_take (by decide) cdv A outer s H E hr) (K09.r_law_subset (K := K)) (fun _ _ _ _ _ _ us hl => match us, hl with | [_, _], _ => rfl) (fun q hq => nomatch hq)
theorem ok_law_a_moment (W : ByNs K mg) (c : He.SaysD fa fn K) (D_law_subset : OkE P w K mg base 2 "_law_subset" ["box", "items"] kk_law_subset (sp_law_subset K)) (D_law_take : OkE P w K mg base 1 "_law_take" ["box", "many"] kk_law_take (sp_law_take K)) : OkE P w K mg base 3 "_law_a_moment" ["box", "houses", "readers"] kk_law_a_moment (sp_law_a_moment K) := by
  obtain ⟨fd, F⟩ := c.def_ 35 (d := dd "_law_a_moment" 46) rfl
  exact okE kk_law_a_moment F (W.gl c 36 rfl) sc_law_a_moment (sO_len (n := 2) fun ts ⟨h, r, e, _⟩ => by rw [e]; rfl) (t_law_a_moment K) (fun cdv A outer s H E hr => w_law_a_moment W c D_law_subset (by decide) D_law_take (by decide) cdv A outer s H E hr) (K09.r_law_a_moment (K := K)) (fun _ _ _ _ _ _ us hl => match us, hl with | [_, _, _], _ => rfl) (fun q hq => nomatch hq)
theorem ok_law_index (W : ByNs K mg) (c : He.SaysD fa fn K) : OkE P w K mg base 1 "_law_index" ["plain", "tick"] kk_law_index (sp_law_index K) := by
  obtain ⟨fd, F⟩ := c.def_ 36 (d := dd "_law_index" 47) rfl
  exact okE kk_law_index F (W.gl c 37 rfl) sc_law_index (sP_len (n := 2) fun ts ⟨S, t, e, _⟩ => by rw [e]; rfl) (t_law_index K) (fun cdv A outer s H E hr => w_law_index W c cdv A outer s H E hr) (r_law_index (K := K)) (fun _ _ _ _ _ _ us hl => match us, hl with | [_, _], _ => rfl) (fun q hq => nomatch hq)
theorem ok_law_shortest (W : ByNs K mg) (c : He.SaysD fa fn K) (D_law_index : OkE P w K mg base 1 "_law_index" ["plain", "tick"] kk_law_index (sp_law_index K)) : OkE P w K mg base 2 "_law_shortest" ["plain"] kk_law_shortest (sp_law_shortest K) := by
  obtain ⟨fd, F⟩ := c.def_ 37 (d := dd "_law_shortest" 48) rfl
  exact okE kk_law_shortest F (W.gl c 38 rfl) sc_law_shortest (fun vs H Q E ⟨S, ok, h⟩ => sP_len (n := 1) (fun ts e => by rw [e]; rfl) vs H Q E h) (t_law_shortest K) (fun cdv A outer s H E hr => w_law_shortest W c D_law_index (by decide) cdv A outer s H E hr) (r_law_shortest (K := K)) (fun _ _ _ _ _ _ us hl => match us, hl with | [_], _ => rfl) (fun q hq => nomatch hq)
theorem ok_law_later (W : ByNs K mg) (c : He.SaysD fa fn K) (D_law_index : OkE P w K mg base 1 "_law_index" ["plain", "tick"] kk_law_index (sp_law_index K)) (D_law_shortest : OkE P w K mg base 2 "_law_shortest" ["plain"] kk_law_shortest (sp_law_shortest K)) : OkE P w K mg base 3 "_law_later" ["plain", "tick"] kk_law_later (sp_law_later K) := by
  obtain ⟨fd, F⟩ := c.def_ 38 (d := dd "_law_later" 49) rfl
  exact okE kk_law_later F (W.gl c 39 rfl) sc_law_later (sP_len (n := 2) fun ts ⟨S, t, j, e, _⟩ => by rw [e]; rfl) (t_law_later K) (fun cdv A outer s H E hr => w_law_later W c D_law_index (by decide) D_law_shortest (by decide) cdv A outer s H E hr) (r_law_later (K := K)) (fun _ _ _ _ _ _ us hl => match us, hl with | [_, _], _ => rfl) (fun q hq => nomatch hq)
theorem ok_law_plain (W : ByNs K mg) (c : He.SaysD fa fn K) (Z : SkyK K) : OkE P w K mg base 1 "_law_plain" ["sky"] kk_law_plain (sp_law_plain K) := by
  obtain ⟨fd, F⟩ := c.def_ 39 (d := dd "_law_plain" 50) rfl
  exact okE kk_law_plain F (W.gl c 40 rfl) sc_law_plain (sP_len (n := 1) fun ts ⟨S, e⟩ => by rw [e]; rfl) (t_law_plain K) (fun cdv A outer s H E hr => w_law_plain W c cdv A outer s H E hr) (r_law_plain (K := K) Z) (fun _ _ _ _ _ _ us hl => match us, hl with | [_], _ => rfl) (fun q hq => nomatch hq)
theorem ok_law_made (W : ByNs K mg) (c : He.SaysD fa fn K) (M_Sky : OkM P w K mg base 9 "Sky" ["self", "houses", "readers", "moments", "back"] kk_Sky_init (sp_Sky_init K)) : OkE P w K mg base 11 "_law_made" ["plain"] kk_law_made (sp_law_made K) := by
  obtain ⟨fd, F⟩ := c.def_ 40 (d := dd "_law_made" 51) rfl
  exact okE kk_law_made F (W.gl c 41 rfl) sc_law_made (sP_len (n := 1) fun ts ⟨S, e, _⟩ => by rw [e]; rfl) (t_law_made K) (fun cdv A outer s H E hr => w_law_made W c M_Sky (by decide) cdv A outer s H E hr) (r_law_made (K := K)) (fun _ _ _ _ _ _ us hl => match us, hl with | [_], _ => rfl) (fun q hq => nomatch hq)
theorem ok_law_long (W : ByNs K mg) (c : He.SaysD fa fn K) (D_law_a_moment : OkE P w K mg base 3 "_law_a_moment" ["box", "houses", "readers"] kk_law_a_moment (sp_law_a_moment K)) (D_law_take : OkE P w K mg base 1 "_law_take" ["box", "many"] kk_law_take (sp_law_take K)) : OkE P w K mg base 4 "_law_long" ["box", "far"] kk_law_long (sp_law_long K) := by
  obtain ⟨fd, F⟩ := c.def_ 41 (d := dd "_law_long" 52) rfl
  exact okE kk_law_long F (W.gl c 42 rfl) sc_law_long (sO_len (n := 1) fun ts ⟨c, e⟩ => by rw [e]; rfl) (t_law_long K) (fun cdv A outer s H E hr => w_law_long W c D_law_a_moment (by decide) D_law_take (by decide) cdv A outer s H E hr) (r_law_long (K := K)) (fun _ _ _ _ _ _ us hl => match us, hl with | [_, _], _ => rfl) (fun q hq => nomatch hq)
theorem ok_law_ask (W : ByNs K mg) (c : He.SaysD fa fn K) (D_law_plain : OkE P w K mg base 1 "_law_plain" ["sky"] kk_law_plain (sp_law_plain K)) (D_followed_by : OkE P w K mg base 11 "followed_by" ["first", "second"] kk_followed_by (sp_followed_by K)) (D_later_sky : OkE P w K mg base 12 "later_sky" ["sky", "tick"] kk_later_sky (sp_later_sky K)) (D_shortest_sky : OkE P w K mg base 12 "shortest_sky" ["sky"] kk_shortest_sky (sp_shortest_sky K)) (X_Ended : ExMk K "Ended" ["ticks"]) (X_InvalidHouses : ExMk K "InvalidHouses" ["given"]) (X_InvalidReaders : ExMk K "InvalidReaders" ["given"]) (X_InvalidTick : ExMk K "InvalidTick" ["given"]) (X_TooMany : ExMk K "TooMany" ["count"]) (XM : ∀ x ∈ exAsk, ∀ y ∈ exAsk, PySem.W.exmOne K (.ref (He.ga K x)) (.ref (He.ga K y)) = some (x == y)) : OkE P w K mg base 13 "_law_ask" ["door", "args", "named"] kk_law_ask (sp_law_ask K) := by
  obtain ⟨fd, F⟩ := c.def_ 42 (d := dd "_law_ask" 53) rfl
  exact okE kk_law_ask F (W.gl c 43 rfl) sc_law_ask (fun vs H Q E ⟨_, _, _, _, _, _, _, e, _⟩ => by rw [e]; rfl) (t_law_ask K) (fun cdv A outer s H E hr => w_law_ask W c D_law_plain (by decide) D_followed_by (by decide) D_later_sky (by decide) D_shortest_sky (by decide) X_Ended X_InvalidHouses X_InvalidReaders X_InvalidTick X_TooMany cdv A outer s H E hr) (r_law_ask (K := K) XM) (fun _ _ _ _ _ _ us hl => match us, hl with | [_, _, _], _ => rfl) (fun q hq => nomatch hq)
theorem ok_law_later_due (W : ByNs K mg) (c : He.SaysD fa fn K) (D_law_later : OkE P w K mg base 3 "_law_later" ["plain", "tick"] kk_law_later (sp_law_later K)) (D_law_whole : OkE P w K mg base 1 "_law_whole" ["value", "least", "most"] kk_law_whole (sp_law_whole K)) : OkE P w K mg base 4 "_law_later_due" ["plain", "tick"] kk_law_later_due (sp_law_later_due K) := by
  obtain ⟨fd, F⟩ := c.def_ 43 (d := dd "_law_later_due" 54) rfl
  exact okE kk_law_later_due F (W.gl c 44 rfl) sc_law_later_due (sP_len (n := 2) fun ts ⟨S, x, e, _⟩ => by rw [e]; rfl) (t_law_later_due K) (fun cdv A outer s H E hr => w_law_later_due W c D_law_later (by decide) D_law_whole (by decide) cdv A outer s H E hr) (r_law_later_due (K := K)) (fun _ _ _ _ _ _ us hl => match us, hl with | [_, _], _ => rfl) (fun q hq => nomatch hq)
theorem ok_law_followed_due (W : ByNs K mg) (c : He.SaysD fa fn K) : OkE P w K mg base 1 "_law_followed_due" ["first", "second"] kk_law_followed_due (sp_law_followed_due K) := by
  obtain ⟨fd, F⟩ := c.def_ 44 (d := dd "_law_followed_due" 55) rfl
  exact okE kk_law_followed_due F (W.gl c 45 rfl) sc_law_followed_due (sP_len (n := 2) fun ts ⟨A, B, e, _⟩ => by rw [e]; rfl) (t_law_followed_due K) (fun cdv A outer s H E hr => w_law_followed_due W c cdv A outer s H E hr) (r_law_followed_due (K := K)) (fun _ _ _ _ _ _ us hl => match us, hl with | [_, _], _ => rfl) (fun q hq => nomatch hq)
theorem ok_law_pair (W : ByNs K mg) (c : He.SaysD fa fn K) (D_law_a_moment : OkE P w K mg base 3 "_law_a_moment" ["box", "houses", "readers"] kk_law_a_moment (sp_law_a_moment K)) (D_law_long : OkE P w K mg base 4 "_law_long" ["box", "far"] kk_law_long (sp_law_long K)) (D_law_take : OkE P w K mg base 1 "_law_take" ["box", "many"] kk_law_take (sp_law_take K)) : OkE P w K mg base 5 "_law_pair" ["box", "plain"] kk_law_pair (sp_law_pair K) := by
  obtain ⟨fd, F⟩ := c.def_ 45 (d := dd "_law_pair" 56) rfl
  exact okE kk_law_pair F (W.gl c 46 rfl) sc_law_pair (sO_len (n := 1) fun ts ⟨S, e, _⟩ => by rw [e]; rfl) (t_law_pair K) (fun cdv A outer s H E hr => w_law_pair W c D_law_a_moment (by decide) D_law_long (by decide) D_law_take (by decide) cdv A outer s H E hr) (r_law_pair (K := K)) (fun _ _ _ _ _ _ us hl => match us, hl with | [_, _], _ => rfl) (fun q hq => nomatch hq)
theorem ok_law_same_ticks (W : ByNs K mg) (c : He.SaysD fa fn K) (D_law_same : OkE P w K mg base 8 "_law_same" ["told", "due"] kk_law_same (sp_law_same K 7)) (D_law_take : OkE P w K mg base 1 "_law_take" ["box", "many"] kk_law_take (sp_law_take K)) (D_moment_of : OkE P w K mg base 4 "moment_of" ["sky", "tick"] kk_moment_of (sp_moment_of K)) (Z : SkyK K) : OkE P w K mg base 9 "_law_same_ticks" ["box", "sky", "made", "plain"] kk_law_same_ticks (sp_law_same_ticks K) := by
  obtain ⟨fd, F⟩ := c.def_ 46 (d := dd "_law_same_ticks" 57) rfl
  exact okE kk_law_same_ticks F (W.gl c 47 rfl) sc_law_same_ticks (sO_len (n := 3) fun ts ⟨S, e, _⟩ => by rw [e]; rfl) (t_law_same_ticks K) (fun cdv A outer s H E hr => w_law_same_ticks W c D_law_same (by decide) D_law_take (by decide) D_moment_of (by decide) cdv A outer s H E hr) (r_law_same_ticks (K := K) Z) (fun _ _ _ _ _ _ us hl => match us, hl with | [_, _, _, _], _ => rfl) (fun q hq => nomatch hq)
theorem facts {h : Heap} {f : Addr} (X : K.In h) (G : h.Ns mainGlobals mg) (hfa : mg ("law" : Str) = some (.ref f)) (c : He.SaysD fa fn K) (x : ∀ g ∈ K10.ex, g K = true) :
    ∃ fd : FuncData, (∀ (s : Shared) (v : Value), BindsTo s fd ⟨[v], []⟩ [("script", v)]) ∧ ∀ base : Heap, K.In base → base.Ns mainGlobals mg → FnOk P w K mg base CXs 14 f fd ["script"] (sp_law K) := by
  obtain ⟨fd, F⟩ := c.def_ 47 (d := dd "law" 58) rfl
  have W : ByNs K mg := ⟨h, X, G⟩
  have e := hfa.symm.trans (W.gl c 48 (x := "law") rfl)
  cases e
  have b := FunD.bindsA (ps := ["script"]) F fun _ _ _ _ _ _ us hl => match us, hl with | [_], _ => rfl
  refine ⟨fd, fun s v => b s [v] rfl, fun base _ _ => ?_⟩
  have X_Ended : ExMk K "Ended" ["ticks"] := exMk_of (x _ (List.mem_of_getElem? (i := 5) rfl))
  have X_InvalidBack : ExMk K "InvalidBack" ["given"] := exMk_of (x _ (List.mem_of_getElem? (i := 0) rfl))
  have X_InvalidHouses : ExMk K "InvalidHouses" ["given"] := exMk_of (x _ (List.mem_of_getElem? (i := 1) rfl))
  have X_InvalidMoments : ExMk K "InvalidMoments" ["given"] := exMk_of (x _ (List.mem_of_getElem? (i := 2) rfl))
  have X_InvalidReaders : ExMk K "InvalidReaders" ["given"] := exMk_of (x _ (List.mem_of_getElem? (i := 3) rfl))
  have X_InvalidTick : ExMk K "InvalidTick" ["given"] := exMk_of (x _ (List.mem_of_getElem? (i := 4) rfl))
  have X_TooMany : ExMk K "TooMany" ["count"] := exMk_of (x _ (List.mem_of_getElem? (i := 6) rfl))
  have L_NeverEnds : ExPl K "NeverEnds" := exPl_of (x _ (List.mem_of_getElem? (i := 8) rfl))
  have I_Ended := I_Ended (P := P) (w := w) (base := base) W c X_Ended
  have I_InvalidBack := I_InvalidBack (P := P) (w := w) (base := base) W c X_InvalidBack
  have I_InvalidHouses := I_InvalidHouses (P := P) (w := w) (base := base) W c X_InvalidHouses
  have I_InvalidMoments := I_InvalidMoments (P := P) (w := w) (base := base) W c X_InvalidMoments
  have I_InvalidReaders := I_InvalidReaders (P := P) (w := w) (base := base) W c X_InvalidReaders
  have I_InvalidTick := I_InvalidTick (P := P) (w := w) (base := base) W c X_InvalidTick
  have I_TooMany := I_TooMany (P := P) (w := w) (base := base) W c X_TooMany
  have Z : OwnC K "Sky" skF := by
    refine ⟨He.cls_ok (c.fact 68 rfl), fun f hf => ?_, ownK_of (x _ (List.mem_of_getElem? (i := 9) rfl))⟩
    simp only [skF, List.mem_cons, List.not_mem_nil, or_false] at hf
    rcases hf with rfl | rfl | rfl | rfl
    · exact He.noat_ok (c.fact 70 rfl)
    · exact He.noat_ok (c.fact 71 rfl)
    · exact He.noat_ok (c.fact 72 rfl)
    · exact He.noat_ok (c.fact 73 rfl)
  have XM : ∀ x ∈ exAsk, ∀ y ∈ exAsk, PySem.W.exmOne K (.ref (He.ga K x)) (.ref (He.ga K y)) = some (x == y) := by
    intro a ha b hb
    simp only [exAsk, List.mem_cons, List.not_mem_nil, or_false] at ha hb
    rcases ha with rfl | rfl | rfl | rfl | rfl | rfl <;> rcases hb with rfl | rfl | rfl | rfl | rfl | rfl
    · exact (exm_of (x _ (List.mem_of_getElem? (i := 51) rfl))).trans (congrArg some (by decide))
    · exact (exm_of (x _ (List.mem_of_getElem? (i := 52) rfl))).trans (congrArg some (by decide))
    · exact (exm_of (x _ (List.mem_of_getElem? (i := 53) rfl))).trans (congrArg some (by decide))
    · exact (exm_of (x _ (List.mem_of_getElem? (i := 48) rfl))).trans (congrArg some (by decide))
    · exact (exm_of (x _ (List.mem_of_getElem? (i := 50) rfl))).trans (congrArg some (by decide))
    · exact (exm_of (x _ (List.mem_of_getElem? (i := 54) rfl))).trans (congrArg some (by decide))
    · exact (exm_of (x _ (List.mem_of_getElem? (i := 60) rfl))).trans (congrArg some (by decide))
    · exact (exm_of (x _ (List.mem_of_getElem? (i := 61) rfl))).trans (congrArg some (by decide))
    · exact (exm_of (x _ (List.mem_of_getElem? (i := 62) rfl))).trans (congrArg some (by decide))
    · exact (exm_of (x _ (List.mem_of_getElem? (i := 57) rfl))).trans (congrArg some (by decide))
    · exact (exm_of (x _ (List.mem_of_getElem? (i := 59) rfl))).trans (congrArg some (by decide))
    · exact (exm_of (x _ (List.mem_of_getElem? (i := 63) rfl))).trans (congrArg some (by decide))
    · exact (exm_of (x _ (List.mem_of_getElem? (i := 69) rfl))).trans (congrArg some (by decide))
    · exact (exm_of (x _ (List.mem_of_getElem? (i := 70) rfl))).trans (congrArg some (by decide))
    · exact (exm_of (x _ (List.mem_of_getElem? (i := 71) rfl))).trans (congrArg some (by decide))
    · exact (exm_of (x _ (List.mem_of_getElem? (i := 66) rfl))).trans (congrArg some (by decide))
    · exact (exm_of (x _ (List.mem_of_getElem? (i := 68) rfl))).trans (congrArg some (by decide))
    · exact (exm_of (x _ (List.mem_of_getElem? (i := 72) rfl))).trans (congrArg some (by decide))
    · exact (exm_of (x _ (List.mem_of_getElem? (i := 24) rfl))).trans (congrArg some (by decide))
    · exact (exm_of (x _ (List.mem_of_getElem? (i := 25) rfl))).trans (congrArg some (by decide))
    · exact (exm_of (x _ (List.mem_of_getElem? (i := 26) rfl))).trans (congrArg some (by decide))
    · exact (exm_of (x _ (List.mem_of_getElem? (i := 21) rfl))).trans (congrArg some (by decide))
    · exact (exm_of (x _ (List.mem_of_getElem? (i := 23) rfl))).trans (congrArg some (by decide))
    · exact (exm_of (x _ (List.mem_of_getElem? (i := 27) rfl))).trans (congrArg some (by decide))
    · exact (exm_of (x _ (List.mem_of_getElem? (i := 42) rfl))).trans (congrArg some (by decide))
    · exact (exm_of (x _ (List.mem_of_getElem? (i := 43) rfl))).trans (congrArg some (by decide))
    · exact (exm_of (x _ (List.mem_of_getElem? (i := 44) rfl))).trans (congrArg some (by decide))
    · exact (exm_of (x _ (List.mem_of_getElem? (i := 39) rfl))).trans (congrArg some (by decide))
    · exact (exm_of (x _ (List.mem_of_getElem? (i := 41) rfl))).trans (congrArg some (by decide))
    · exact (exm_of (x _ (List.mem_of_getElem? (i := 45) rfl))).trans (congrArg some (by decide))
    · exact (exm_of (x _ (List.mem_of_getElem? (i := 78) rfl))).trans (congrArg some (by decide))
    · exact (exm_of (x _ (List.mem_of_getElem? (i := 79) rfl))).trans (congrArg some (by decide))
    · exact (exm_of (x _ (List.mem_of_getElem? (i := 80) rfl))).trans (congrArg some (by decide))
    · exact (exm_of (x _ (List.mem_of_getElem? (i := 75) rfl))).trans (congrArg some (by decide))
    · exact (exm_of (x _ (List.mem_of_getElem? (i := 77) rfl))).trans (congrArg some (by decide))
    · exact (exm_of (x _ (List.mem_of_getElem? (i := 81) rfl))).trans (congrArg some (by decide))
  have D_is_list := ok_is_list (P := P) (w := w) (base := base) W c
  have D_is_whole := ok_is_whole (P := P) (w := w) (base := base) W c
  have D_is_between := ok_is_between (P := P) (w := w) (base := base) W c D_is_whole
  have D_are_between := ok_are_between (P := P) (w := w) (base := base) W c D_is_between
  have D_is_ascending := ok_is_ascending (P := P) (w := w) (base := base) W c
  have D_is_subset := ok_is_subset (P := P) (w := w) (base := base) W c D_are_between D_is_ascending
  have D_are_receivers := ok_are_receivers (P := P) (w := w) (base := base) W c D_is_subset
  have D_is_tuple_of := ok_is_tuple_of (P := P) (w := w) (base := base) W c
  have D_is_frame := ok_is_frame (P := P) (w := w) (base := base) W c D_are_receivers D_is_between D_is_tuple_of
  have D_is_moment := ok_is_moment (P := P) (w := w) (base := base) W c D_are_between D_is_between D_is_frame D_is_tuple_of
  have D_are_moments := ok_are_moments (P := P) (w := w) (base := base) W c D_is_list D_is_moment
  have M_Sky := ok_Sky_init (P := P) (w := w) (base := base) W c D_are_moments D_is_between I_InvalidBack I_InvalidHouses I_InvalidMoments I_InvalidReaders Z
  have D_check_tick := ok_check_tick (P := P) (w := w) (base := base) W c D_is_between I_InvalidTick
  have D_moment_at := ok_moment_at (P := P) (w := w) (base := base) W c Z
  have D_moment_of := ok_moment_of (P := P) (w := w) (base := base) W c D_check_tick D_moment_at
  have D_least_ring := ok_least_ring (P := P) (w := w) (base := base) W c
  have D_shortest_of := ok_shortest_of (P := P) (w := w) (base := base) W c D_least_ring M_Sky
  have D_shortest_sky := ok_shortest_sky (P := P) (w := w) (base := base) W c D_shortest_of Z
  have D_later_sky := ok_later_sky (P := P) (w := w) (base := base) W c D_check_tick D_moment_at D_shortest_of I_Ended Z
  have D_followed_by := ok_followed_by (P := P) (w := w) (base := base) W c M_Sky I_InvalidHouses I_InvalidReaders I_TooMany L_NeverEnds Z
  have D_law_cell := ok_law_cell (P := P) (w := w) (base := base) W c
  have D_law_box := ok_law_box (P := P) (w := w) (base := base) W c
  have D_law_take := ok_law_take (P := P) (w := w) (base := base) W c
  have D_law_same := ok_law_same (P := P) (w := w) (base := base) W c 7
  have D_law_whole := ok_law_whole (P := P) (w := w) (base := base) W c
  have D_law_subset := ok_law_subset (P := P) (w := w) (base := base) W c D_law_take
  have D_law_a_moment := ok_law_a_moment (P := P) (w := w) (base := base) W c D_law_subset D_law_take
  have D_law_index := ok_law_index (P := P) (w := w) (base := base) W c
  have D_law_shortest := ok_law_shortest (P := P) (w := w) (base := base) W c D_law_index
  have D_law_later := ok_law_later (P := P) (w := w) (base := base) W c D_law_index D_law_shortest
  have D_law_plain := ok_law_plain (P := P) (w := w) (base := base) W c Z
  have D_law_made := ok_law_made (P := P) (w := w) (base := base) W c M_Sky
  have D_law_long := ok_law_long (P := P) (w := w) (base := base) W c D_law_a_moment D_law_take
  have D_law_ask := ok_law_ask (P := P) (w := w) (base := base) W c D_law_plain D_followed_by D_later_sky D_shortest_sky X_Ended X_InvalidHouses X_InvalidReaders X_InvalidTick X_TooMany XM
  have D_law_later_due := ok_law_later_due (P := P) (w := w) (base := base) W c D_law_later D_law_whole
  have D_law_followed_due := ok_law_followed_due (P := P) (w := w) (base := base) W c
  have D_law_pair := ok_law_pair (P := P) (w := w) (base := base) W c D_law_a_moment D_law_long D_law_take
  have D_law_same_ticks := ok_law_same_ticks (P := P) (w := w) (base := base) W c D_law_same D_law_take D_moment_of Z
  exact fnOk_cxs (F.ok sc_the_law (sP_len (n := 1) fun ts ⟨ns, t, e, _⟩ => by rw [e]; rfl) fun cdv A outer s H vs Q E hr h => ⟨t_the_law K E, w_the_law W c D_law_ask (by decide) D_law_box (by decide) D_law_cell (by decide) D_law_followed_due (by decide) D_law_later_due (by decide) D_law_long (by decide) D_law_made (by decide) D_law_pair (by decide) D_law_plain (by decide) D_law_same (by decide) D_law_same_ticks (by decide) D_law_shortest (by decide) D_law_take (by decide) D_shortest_sky (by decide) cdv A outer s H E hr, r_the_law vs H Q E h⟩)
end
end K10
open PySem PySem.W PySem.Calls PyProof.Rows
theorem PySem.Challenge.cw_stillaboard_k10_later_shortest_followed_holds : PySem.Challenge.rw_stillaboard_k10_later_shortest_followed.Holds := by
  w_on; o_law
  refine HandSHeadRun.head_any (r := OpenLaw.row PySem.Challenge.rw_stillaboard_k10_later_shortest_followed) (q := view (OpenLaw.row PySem.Challenge.rw_stillaboard_k10_later_shortest_followed).prog [58]) (H := K10.hk) (ob := K10.ob) (M := 4000) (loose := K10.loose) (d := HandSHeadRun.topDef (OpenLaw.row PySem.Challenge.rw_stillaboard_k10_later_shortest_followed).prog 58) (kwd := []) K10.ob_eq
    (by kernel_rfl) (fun s => by kernel_rfl) K10.run (by kernel_rfl) (by kernel_rfl) (by kernel_rfl) (by rfl) (by first | assumption | decide +kernel) (by decide +kernel) ⟨rfl, rfl, rfl, rfl, rfl, by decide +kernel⟩ ?hw ?hc
  case hw => w_witness2
  case hc =>
    refine L2.walk_ofE (l := PySem.Challenge.rw_stillaboard_k10_later_shortest_followed) (n := 63) (k := 14) (x := "script") (CX := K10.CXs) rfl (by decide) (by kernel_rfl) ⟨rfl, by decide, by decide⟩ ?F (fun H s e s' ⟨P, w, a, B, H', cls, d, _, _, _, _, _, _, _, z⟩ => z)
    intro w mg fa h Y G hmg0
    obtain ⟨K, KX, c, x⟩ := Y
    have hmg : mg ("law" : PySem.Str) = some (.ref fa) := by
      have e : (HandSHeadRun.topDef (OpenLaw.row PySem.Challenge.rw_stillaboard_k10_later_shortest_followed).prog 58).name = ("law" : PySem.Str) := by kernel_rfl
      rw [← e]
      exact hmg0
    obtain ⟨fd, hb, hF⟩ := K10.facts (P := (PySem.Challenge.rw_stillaboard_k10_later_shortest_followed).prog) (w := w) KX G hmg c x
    refine ⟨K, fd, K10.sp_law K, KX, hb, fun H a ns hl hO hS => ?_, hF⟩
    obtain ⟨t, G1, hs, r, l⟩ := TL.scr_of hO hS
    exact ⟨[t], G1, ⟨_, _, rfl, r, rfl⟩, l, ⟨ns, t, rfl, hs, hl⟩, fun t' v G' H' e r' _ => by rw [e] at r'; exact r', fun er od G' H' z => z.elim⟩
