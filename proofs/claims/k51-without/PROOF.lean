import PyProof.Rows.All
import HandS.ExcCtx
import HandS.ForMost
import HandS.Exc
import HandS.ExcOwn
import HandS.TryOnly
import HandS.TryMany
import HandS.WordsExc
import HandS.IsInst
import HandS.Deep
import HandS.TupAny
import HandS.Zip
import HandS.DictComp
import HandS.Style
import HandS.HeadHook1
import HandS.Defaults
import HandS.More
import HandS.Sort
import HandS.SortOrd
import HandS.SortRule
import HandS.Strs
import HandS.Set
import HandS.SetFor
import HandS.SetTxt0
import KE.KUnpackStar
import HandS.TupMul
import HandS.Base
import HandS.Call
import HandS.Iter
import HandS.Comp
import HandS.HotCalls
import HandS.ExcIs
import HandS.Text
import PySem.Challenge.RW_throughboxes_k51_pages_without_listeners
import HandS.Head0
import HandS.Head1
import HandS.Head2
import HandS.HeadEnd
import HandS.HeadHook2
import HandS.HeadHook3
import HandS.HeadHook4
import HandS.HeadWalk
set_option Elab.async false
set_option linter.all false
set_option maxRecDepth 100000
set_option maxHeartbeats 1000000
/-! DL: a layer of plain data over HandS. Part a: data D, how values represent it (Rp), worlds (B, H), slots. -/
namespace DL
open PySem PySem.Spec PyProof.Rows L2

/-- plain data: what a value looks like from outside -/
inductive D where
  | non | bl (b : Bool) | int (i : Int) | str (x : Str)
  | lst (xs : List D) | tup (xs : List D) | dct (kvs : List (Key × D)) | ref (a : Addr)
  /-- an object at a, of the class at C, that does not change: its fields -/
  | obj (a C : Addr) (fs : List (Str × D))
  deriving Inhabited

/-- a tuple of the written part -/
def KTp (K : PySem.W.Frag) (a : Addr) (xs : List V) : Prop :=
  ∃ (o : Obj) (its : Array Value) (n : Nat), K.lookup a = some o ∧ o.cls = .type "tuple" ∧ o.data = .seq its n ∧ its.size ≤ sizeLine ∧ Vals xs its.toList

/-- the script: a list that nobody writes -/
def KLs (K : PySem.W.Frag) (B : Hp) (a : Addr) (ns : List Int) : Prop :=
  (∃ o, B a = some (.frz o (.lst (ns.map V.int)))) ∨ ∃ (o : Obj) (its : Array Value) (n : Nat), K.lookup a = some o ∧ o.cls = .type "list" ∧ o.dict = none ∧ o.data = .seq its n ∧ its.size ≤ sizeLine ∧ Vals (ns.map V.int) its.toList
abbrev scrD (a : Addr) (ns : List Int) : D := .obj a 0 [("", .lst (ns.map D.int))]
mutual
/-- v represents d, in the persistent part B of the heap -/
inductive Rp (K : PySem.W.Frag) (B : Hp) : V → D → Prop where
  | non : Rp K B .non .non
  | bl (b : Bool) : Rp K B (.bl b) (.bl b)
  | int (i : Int) : Rp K B (.int i) (.int i)
  | str (x : Str) : Rp K B (.str x) (.str x)
  | lst {a : Addr} {vs : List V} {ds : List D} : B a = some (.lst vs) → vs.length ≤ sizeLine → RpA K B vs ds → Rp K B (.ref a) (.lst ds)
  | tup {a : Addr} {vs : List V} {ds : List D} : B a = some (.tup vs) ∨ KTp K a vs → vs.length ≤ sizeLine → RpA K B vs ds → Rp K B (.ref a) (.tup ds)
  | dct {a : Addr} {kvs : List (Key × V)} {kds : List (Key × D)} : B a = some (.dK kvs) → kvs.length ≤ sizeLine → RpK K B kvs kds → Rp K B (.ref a) (.dct kds)
  | ref {a : Addr} : Rp K B (.ref a) (.ref a)
  | obj {a C dx : Addr} {vs : List (Str × V)} {fs : List (Str × D)} : C ≠ 0 → B a = some (.ins C dx vs) → B dx = some (.own a) → RpF K B vs fs → Rp K B (.ref a) (.obj a C fs)
  | scr {a : Addr} {ns : List Int} : KLs K B a ns → Rp K B (.ref a) (scrD a ns)
inductive RpA (K : PySem.W.Frag) (B : Hp) : List V → List D → Prop where
  | nil : RpA K B [] []
  | cons {v : V} {vs : List V} {d : D} {ds : List D} : Rp K B v d → RpA K B vs ds → RpA K B (v :: vs) (d :: ds)
inductive RpK (K : PySem.W.Frag) (B : Hp) : List (Key × V) → List (Key × D) → Prop where
  | nil : RpK K B [] []
  | cons {k : Key} {v : V} {vs : List (Key × V)} {d : D} {ds : List (Key × D)} : Rp K B v d → RpK K B vs ds → RpK K B ((k, v) :: vs) ((k, d) :: ds)
inductive RpF (K : PySem.W.Frag) (B : Hp) : List (Str × V) → List (Str × D) → Prop where
  | nil : RpF K B [] []
  | cons {k : Str} {v : V} {vs : List (Str × V)} {d : D} {ds : List (Str × D)} : Rp K B v d → RpF K B vs ds → RpF K B ((k, v) :: vs) ((k, d) :: ds)
end

/-- B's objects stand in B' -/
def Keep (B B' : Hp) : Prop := ∀ b o, B b = some o → B' b = some o
theorem Keep.refl (B : Hp) : Keep B B := fun _ _ h => h
theorem Keep.trans {B B1 B2 : Hp} (a : Keep B B1) (b : Keep B1 B2) : Keep B B2 := fun c o h => b c o (a c o h)

mutual
theorem Rp.mono {K : PySem.W.Frag} {B B' : Hp} (k : Keep B B') : ∀ {d : D} {v : V}, Rp K B v d → Rp K B' v d
  | .non, _, .non => .non
  | .bl _, _, .bl b => .bl b
  | .int _, _, .int i => .int i
  | .str _, _, .str x => .str x
  | .lst ds, _, .lst h hl hs => .lst (k _ _ h) hl (RpA.mono k hs)
  | .tup ds, _, .tup h hl hs => .tup (h.imp (k _ _) id) hl (RpA.mono k hs)
  | .dct ds, _, .dct h hl hs => .dct (k _ _ h) hl (RpK.mono k hs)
  | .ref _, _, .ref => .ref
  | .obj _ _ _, _, .obj h0 h1 h2 hs => .obj h0 (k _ _ h1) (k _ _ h2) (RpF.mono k hs)
  | .obj _ _ _, _, .scr h => .scr (h.imp (fun ⟨o, e⟩ => ⟨o, k _ _ e⟩) fun z => z)
theorem RpA.mono {K : PySem.W.Frag} {B B' : Hp} (k : Keep B B') : ∀ {ds : List D} {vs : List V}, RpA K B vs ds → RpA K B' vs ds
  | [], _, .nil => .nil
  | _ :: _, _, .cons h t => .cons (Rp.mono k h) (RpA.mono k t)
theorem RpK.mono {K : PySem.W.Frag} {B B' : Hp} (k : Keep B B') : ∀ {ds : List (Key × D)} {vs : List (Key × V)}, RpK K B vs ds → RpK K B' vs ds
  | [], _, .nil => .nil
  | _ :: _, _, .cons h t => .cons (Rp.mono k h) (RpK.mono k t)
theorem RpF.mono {K : PySem.W.Frag} {B B' : Hp} (k : Keep B B') : ∀ {ds : List (Str × D)} {vs : List (Str × V)}, RpF K B vs ds → RpF K B' vs ds
  | [], _, .nil => .nil
  | _ :: _, _, .cons h t => .cons (Rp.mono k h) (RpF.mono k t)
end

section
variable {K : PySem.W.Frag} {B B' H H' : Hp}
theorem RpA.length : ∀ {ds : List D} {vs : List V}, RpA K B vs ds → vs.length = ds.length
  | [], _, .nil => rfl
  | _ :: _, _, .cons _ t => congrArg (· + 1) (RpA.length t)
theorem RpK.length : ∀ {ds : List (Key × D)} {vs : List (Key × V)}, RpK K B vs ds → vs.length = ds.length
  | [], _, .nil => rfl
  | _ :: _, _, .cons _ t => congrArg (· + 1) (RpK.length t)
theorem RpA.append : ∀ {ds es : List D} {vs ws : List V}, RpA K B vs ds → RpA K B ws es → RpA K B (vs ++ ws) (ds ++ es)
  | [], _, _, _, .nil, s => s
  | _ :: _, _, _, _, .cons h t, s => .cons h (RpA.append t s)
theorem RpA.get : ∀ {ds : List D} {vs : List V} {i : Nat} {d : D}, RpA K B vs ds → ds[i]? = some d → ∃ v, vs[i]? = some v ∧ Rp K B v d
  | [], _, _, _, .nil, e => by simp at e
  | _ :: _, _, 0, _, .cons h _, e => by simp at e; subst e; exact ⟨_, rfl, h⟩
  | _ :: _, _, i + 1, _, .cons _ t, e => by
    obtain ⟨v, h1, h2⟩ := RpA.get (i := i) t (by simpa using e)
    exact ⟨v, by simpa using h1, h2⟩
theorem RpA.getV : ∀ {ds : List D} {vs : List V} {i : Nat} {v : V}, RpA K B vs ds → vs[i]? = some v → ∃ d, ds[i]? = some d ∧ Rp K B v d
  | [], _, _, _, .nil, e => by simp at e
  | _ :: _, _, 0, _, .cons h _, e => by simp at e; subst e; exact ⟨_, rfl, h⟩
  | _ :: _, _, i + 1, _, .cons _ t, e => by
    obtain ⟨v, h1, h2⟩ := RpA.getV (i := i) t (by simpa using e)
    exact ⟨v, by simpa using h1, h2⟩
theorem RpA.take : ∀ {ds : List D} {vs : List V} (n : Nat), RpA K B vs ds → RpA K B (vs.take n) (ds.take n)
  | _, _, 0, _ => .nil
  | [], _, _ + 1, .nil => .nil
  | _ :: _, _, n + 1, .cons h t => .cons h (RpA.take n t)
theorem RpA.drop : ∀ {ds : List D} {vs : List V} (n : Nat), RpA K B vs ds → RpA K B (vs.drop n) (ds.drop n)
  | _, _, 0, r => r
  | [], _, _ + 1, .nil => .nil
  | _ :: _, _, n + 1, .cons _ t => RpA.drop n t
theorem RpA.set {v : V} {d : D} (r : Rp K B v d) : ∀ {ds : List D} {vs : List V} (i : Nat), RpA K B vs ds → RpA K B (vs.set i v) (ds.set i d)
  | [], _, _, .nil => .nil
  | _ :: _, _, 0, .cons _ t => .cons r t
  | _ :: _, _, i + 1, .cons h t => .cons h (RpA.set r i t)
theorem RpA.eraseIdx : ∀ {ds : List D} {vs : List V} (i : Nat), RpA K B vs ds → RpA K B (vs.eraseIdx i) (ds.eraseIdx i)
  | [], _, _, .nil => .nil
  | _ :: _, _, 0, .cons _ t => t
  | _ :: _, _, i + 1, .cons h t => .cons h (RpA.eraseIdx i t)
theorem RpA.reverse {ds : List D} {vs : List V} (h : RpA K B vs ds) : RpA K B vs.reverse ds.reverse := by
  induction ds generalizing vs with
  | nil => cases h; exact .nil
  | cons d ds ih => cases h with | cons h t => rw [List.reverse_cons, List.reverse_cons]; exact (ih t).append (.cons h .nil)
theorem RpA.insertIdx {v : V} {d : D} (r : Rp K B v d) : ∀ {ds : List D} {vs : List V} (i : Nat), RpA K B vs ds → RpA K B (vs.insertIdx i v) (ds.insertIdx i d)
  | _, _, 0, h => by simpa using RpA.cons r h
  | [], _, _ + 1, .nil => by simp; exact .nil
  | _ :: _, _, i + 1, .cons h t => by simpa using RpA.cons h (RpA.insertIdx r i t)
end

/-- an object is there; a dict perhaps locked -/
def Fz (h : Option HO) (o : HO) : Prop := h = some o ∨ ∃ ob kvs, o = .dK kvs ∧ h = some (.frz ob o)
theorem Fz.rd {H : Hp} {a : Addr} {o : HO} (h : Fz (H a) o) : Rd H a o := by
  rcases h with h | ⟨ob, _, _, h⟩
  · exact .inl h
  · exact .inr ⟨ob, h⟩
theorem Fz.lst {h : Option HO} {vs : List V} (z : Fz h (.lst vs)) : h = some (.lst vs) := by
  rcases z with z | ⟨ob, _, e, _⟩
  · exact z
  · cases e
theorem Fz.tup {h : Option HO} {vs : List V} (z : Fz h (.tup vs)) : h = some (.tup vs) := by
  rcases z with z | ⟨ob, _, e, _⟩
  · exact z
  · cases e
theorem Fz.ins {h : Option HO} {C dx : Addr} {vs : List (Str × V)} (z : Fz h (.ins C dx vs)) : h = some (.ins C dx vs) := by
  rcases z with z | ⟨ob, _, e, _⟩
  · exact z
  · cases e
theorem Fz.none {o : HO} (z : Fz none o) : False := by
  rcases z with z | ⟨ob, _, _, z⟩ <;> cases z
/-- what B tells is to be read in H -/
def Sub (B H : Hp) : Prop := ∀ b o, B b = some o → Fz (H b) o

theorem Sub.sqT {K : PySem.W.Frag} {B H : Hp} (s : Sub B H) {a : Addr} {vs : List V} (h : B a = some (.tup vs) ∨ KTp K a vs) : SqT K H a vs := by
  rcases h with h | h
  · exact .inl (.inl (s _ _ h).tup)
  · exact .inr h

/-- a source of drawn numbers: three ints -/
def SrcOk (H : Hp) (a : Addr) : Prop := ∃ x y z : Int, H a = some (.lst [.int x, .int y, .int z]) ∧ 0 ≤ x ∧ 0 ≤ y ∧ y ≤ 2 ^ 32 ∧ 0 < z ∧ z ≤ 2 ^ 32

structure Good (S : List Addr) (B H : Hp) : Prop where
  sub : Sub B H
  src : ∀ a ∈ S, B a = none ∧ SrcOk H a
/-- from the world (B, H) to (B', H') -/
structure Le (S : List Addr) (B H B' H' : Hp) : Prop where
  base : Keep B B'
  new : ∀ b o, B' b = some o → B b = some o ∨ H b = none
  heap : ∀ b o, H b = some o → b ∉ S → H' b = some o
  sub : Sub B' H'
  src : ∀ a ∈ S, SrcOk H' a

section
variable {S : List Addr} {B H B1 H1 B2 H2 : Hp}
theorem Good.le (g : Good S B H) : Le S B H B H := ⟨.refl _, fun _ _ h => .inl h, fun _ _ h _ => h, g.sub, fun a h => (g.src a h).2⟩
theorem Le.good (l : Le S B H B1 H1) (g : Good S B H) : Good S B1 H1 := by
  refine ⟨l.sub, fun a h => ⟨?_, l.src a h⟩⟩
  obtain ⟨h1, x, y, z, h2, _⟩ := g.src a h
  cases e : B1 a with
  | none => rfl
  | some o =>
    rcases l.new a o e with q | q
    · rw [h1] at q; cases q
    · rw [h2] at q; cases q
theorem Le.trans (a : Le S B H B1 H1) (b : Le S B1 H1 B2 H2) : Le S B H B2 H2 := by
  refine ⟨a.base.trans b.base, fun c o h => ?_, fun c o h hs => b.heap c o (a.heap c o h hs) hs, b.sub, b.src⟩
  rcases b.new c o h with q | q
  · exact a.new c o q
  · cases e : H c with
    | none => exact .inr rfl
    | some u =>
      by_cases hs : c ∈ S
      · obtain ⟨x, y, z, q2, _⟩ := a.src c hs
        rw [q2] at q; cases q
      · rw [a.heap c u e hs] at q; cases q
/-- a new object is laid, into the persistent part -/
theorem Le.laid (g : Good S B H) {p : Addr} {o : HO} (hp : H p = none) : Le S B H (upd B p o) (upd H p o) := by
  have hb : B p = none := by
    cases e : B p with
    | none => rfl
    | some u =>
      have q := g.sub p u e
      rw [hp] at q
      exact q.none.elim
  refine ⟨fun b u h => ?_, fun b u h => ?_, fun b u h _ => ?_, fun b u h => ?_, fun a h => ?_⟩
  · rw [upd_ne (ne_of_none h hb)]; exact h
  · by_cases e : b = p
    · subst e; exact .inr hp
    · rw [upd_ne e] at h; exact .inl h
  · rw [upd_ne (ne_of_none h hp)]; exact h
  · by_cases e : b = p
    · subst e; rw [upd_same] at h; rw [upd_same]; exact .inl h
    · rw [upd_ne e] at h; rw [upd_ne e]; exact g.sub b u h
  · obtain ⟨_, x, y, z, q, r⟩ := g.src a h
    exact ⟨x, y, z, by rw [upd_ne (ne_of_none q hp)]; exact q, r⟩
/-- .. or not -/
theorem Le.beside (g : Good S B H) {p : Addr} {o : HO} (hp : H p = none) : Le S B H B (upd H p o) := by
  refine ⟨.refl _, fun b u h => .inl h, fun b u h _ => ?_, fun b u h => ?_, fun a h => ?_⟩
  · rw [upd_ne (ne_of_none h hp)]; exact h
  · rcases g.sub b u h with q | ⟨ob, kvs, e, q⟩
    · exact .inl (by rw [upd_ne (ne_of_none q hp)]; exact q)
    · exact .inr ⟨ob, kvs, e, by rw [upd_ne (ne_of_none q hp)]; exact q⟩
  · obtain ⟨_, x, y, z, q, r⟩ := g.src a h
    exact ⟨x, y, z, by rw [upd_ne (ne_of_none q hp)]; exact q, r⟩
theorem Good.bnone (g : Good S B H) {p : Addr} (hp : H p = none) : B p = none := by
  cases e : B p with
  | none => rfl
  | some u =>
    have q := g.sub p u e
    rw [hp] at q
    exact q.none.elim
/-- what was new stays apart -/
theorem Le.bnone (l : Le S B H B1 H1) {p : Addr} (hb : B p = none) (hp : H p ≠ none) : B1 p = none := by
  cases e : B1 p with
  | none => rfl
  | some o =>
    rcases l.new p o e with q | q
    · rw [hb] at q; cases q
    · exact absurd q hp
end

/-- what an owned object holds: its items lie in B, itself not -/
def OwnAt (K : PySem.W.Frag) (B H : Hp) (l : Addr) : D → Prop
  | .lst ds => ∃ vs, H l = some (.lst vs) ∧ vs.length ≤ sizeLine ∧ RpA K B vs ds
  | .dct kds => ∃ kvs, H l = some (.dK kvs) ∧ kvs.length ≤ sizeLine ∧ RpK K B kvs kds
  | _ => False
/-- a slot's content: plain data; an owned list or dict -/
inductive Sl where
  | p (d : D) | o (d : D)
abbrev DEnv := List (Option Sl)
def SlotOk (K : PySem.W.Frag) (B H : Hp) (v : V) : Sl → Prop
  | .p d => Rp K B v d
  | .o d => ∃ l, v = .ref l ∧ B l = none ∧ OwnAt K B H l d
structure SlotsOk (K : PySem.W.Frag) (S : List Addr) (B H : Hp) (σ : L2.St) (ρ : DEnv) : Prop where
  len : σ.length = ρ.length
  at_ : ∀ (i : Nat) (x : Sl), ρ[i]? = some (some x) → ∃ v, σ[i]? = some (some v) ∧ SlotOk K B H v x
  own : ∀ (i j : Nat) (d e : D) (l : Addr), ρ[i]? = some (some (.o d)) → ρ[j]? = some (some (.o e)) → σ[i]? = some (some (.ref l)) → σ[j]? = some (some (.ref l)) → i = j
  src : ∀ (i : Nat) (d : D) (l : Addr), ρ[i]? = some (some (.o d)) → σ[i]? = some (some (.ref l)) → l ∉ S

section
variable {K : PySem.W.Frag} {S : List Addr} {B H B1 H1 : Hp} {σ : L2.St} {ρ : DEnv}
theorem OwnAt.there {l : Addr} {d : D} (o : OwnAt K B H l d) : ∃ u, H l = some u := by
  cases d with
  | lst ds => obtain ⟨vs, h, _⟩ := o; exact ⟨_, h⟩
  | dct ds => obtain ⟨vs, h, _⟩ := o; exact ⟨_, h⟩
  | _ => exact o.elim
theorem OwnAt.mono {l : Addr} {d : D} (k : Keep B B1) (h : ∀ u, H l = some u → H1 l = some u) (o : OwnAt K B H l d) : OwnAt K B1 H1 l d := by
  cases d with
  | lst ds => obtain ⟨vs, e, z, r⟩ := o; exact ⟨vs, h _ e, z, r.mono k⟩
  | dct ds => obtain ⟨vs, e, z, r⟩ := o; exact ⟨vs, h _ e, z, r.mono k⟩
  | _ => exact o.elim
theorem SlotsOk.le (s : SlotsOk K S B H σ ρ) (l : Le S B H B1 H1) : SlotsOk K S B1 H1 σ ρ := by
  refine ⟨s.len, fun i x e => ?_, s.own, s.src⟩
  obtain ⟨v, h1, h2⟩ := s.at_ i x e
  refine ⟨v, h1, ?_⟩
  cases x with
  | p d => exact Rp.mono l.base h2
  | o d =>
    obtain ⟨a, rfl, hb, ow⟩ := h2
    have hs := s.src i d a e h1
    obtain ⟨u, hu⟩ := ow.there
    exact ⟨a, rfl, l.bnone hb (by rw [hu]; exact fun z => nomatch z), ow.mono l.base fun u q => l.heap a u q hs⟩
/-- a value as it is to be read now: plain, or an owned object's content -/
def At (K : PySem.W.Frag) (S : List Addr) (B H : Hp) (v : V) : D → Prop
  | .lst ds => ∃ a vs, v = .ref a ∧ (H a = some (.lst vs) ∧ a ∉ S ∧ vs.length ≤ sizeLine) ∧ RpA K B vs ds
  | .dct kds => ∃ a kvs, v = .ref a ∧ (Rd H a (.dK kvs) ∧ a ∉ S ∧ kvs.length ≤ sizeLine) ∧ RpK K B kvs kds
  | d => Rp K B v d
theorem Good.notS (g : Good S B H) {a : Addr} {o : HO} (h : B a = some o) : a ∉ S := fun z => by
  rw [(g.src a z).1] at h; cases h
theorem Rp.at {v : V} {d : D} (r : Rp K B v d) (g : Good S B H) : At K S B H v d := by
  cases r with
  | lst h z r => exact ⟨_, _, rfl, ⟨(g.sub _ _ h).lst, g.notS h, z⟩, r⟩
  | tup h z r => exact .tup h z r
  | dct h z r => exact ⟨_, _, rfl, ⟨(g.sub _ _ h).rd, g.notS h, z⟩, r⟩
  | non => exact .non
  | bl b => exact .bl b
  | int b => exact .int b
  | str b => exact .str b
  | ref => exact .ref
  | obj h0 h1 h2 h3 => exact .obj h0 h1 h2 h3
  | scr h => exact .scr h
theorem OwnAt.at {l : Addr} {d : D} (o : OwnAt K B H l d) (hs : l ∉ S) : At K S B H (.ref l) d := by
  cases d with
  | lst ds => obtain ⟨vs, e, z, r⟩ := o; exact ⟨_, _, rfl, ⟨e, hs, z⟩, r⟩
  | dct ds => obtain ⟨vs, e, z, r⟩ := o; exact ⟨_, _, rfl, ⟨.inl e, hs, z⟩, r⟩
  | _ => exact o.elim
theorem Rd.keep {a : Addr} {o : HO} (k : ∀ u, H a = some u → H1 a = some u) (h : Rd H a o) : Rd H1 a o := by
  rcases h with h | ⟨o, h⟩
  · exact .inl (k _ h)
  · exact .inr ⟨o, k _ h⟩
theorem At.le {v : V} {d : D} (r : At K S B H v d) (l : Le S B H B1 H1) : At K S B1 H1 v d := by
  cases d with
  | lst ds =>
    obtain ⟨a, vs, e, ⟨h, n, z⟩, q⟩ := r
    exact ⟨a, vs, e, ⟨l.heap _ _ h n, n, z⟩, q.mono l.base⟩
  | tup ds => exact Rp.mono l.base r
  | dct ds =>
    obtain ⟨a, vs, e, ⟨h, n, y⟩, q⟩ := r
    exact ⟨a, vs, e, ⟨Rd.keep (fun u z => l.heap a u z n) h, n, y⟩, q.mono l.base⟩
  | non => exact Rp.mono l.base r
  | bl b => exact Rp.mono l.base r
  | int b => exact Rp.mono l.base r
  | str b => exact Rp.mono l.base r
  | ref b => exact Rp.mono l.base r
  | obj _ _ _ => exact Rp.mono l.base r
theorem At.lst {v : V} {ds : List D} (r : At K S B H v (.lst ds)) : ∃ a vs, v = .ref a ∧ H a = some (.lst vs) ∧ RpA K B vs ds := by
  obtain ⟨a, vs, e, h, q⟩ := r
  exact ⟨a, vs, e, h.1, q⟩
theorem At.len {v : V} {ds : List D} (r : At K S B H v (.lst ds)) : ds.length ≤ sizeLine := by
  obtain ⟨a, vs, e, h, q⟩ := r
  rw [← q.length]; exact h.2.2
theorem At.lenD {v : V} {ds : List (Key × D)} (r : At K S B H v (.dct ds)) : ds.length ≤ sizeLine := by
  obtain ⟨a, vs, e, h, q⟩ := r
  rw [← q.length]; exact h.2.2
theorem Rp.lenT {v : V} {ds : List D} (r : Rp K B v (.tup ds)) : ds.length ≤ sizeLine := by
  cases r with | tup h z q => rw [← q.length]; exact z
theorem At.tup {v : V} {ds : List D} (s : Sub B H) (r : At K S B H v (.tup ds)) : ∃ a vs, v = .ref a ∧ SqT K H a vs ∧ RpA K B vs ds := by
  have r : Rp K B v (.tup ds) := r
  cases r with
  | tup h _ q => exact ⟨_, _, rfl, s.sqT h, q⟩
theorem At.dct {v : V} {ds : List (Key × D)} (r : At K S B H v (.dct ds)) : ∃ a vs, v = .ref a ∧ Rd H a (.dK vs) ∧ RpK K B vs ds := by
  obtain ⟨a, vs, e, h, q⟩ := r
  exact ⟨a, vs, e, h.1, q⟩
end
end DL

set_option Elab.async false
set_option linter.all false
set_option maxRecDepth 100000
set_option maxHeartbeats 1000000
/-! DL, part b: data's equality; transformers; judgements; the first expressions. -/
namespace DL
open PySem PySem.Spec PyProof.Rows L2

/-! ### equality of data -/
mutual
def D.pd : D → PyData
  | .non => .none | .bl b => .bool b | .int i => .int i | .str x => .str x
  | .lst xs => .list (pdA xs) | .tup xs => .tuple (pdA xs) | .dct _ => .dict [] | .ref _ => .dict [] | .obj _ _ _ => .dict []
def pdA : List D → List PyData
  | [] => []
  | x :: xs => x.pd :: pdA xs
end
mutual
/-- plain: comparable data, all texts well formed -/
@[simp] def D.ok : D → Bool
  | .non => true | .bl _ => true | .int _ => true | .str x => PyData.strOk x && decide (x.length ≤ sizeLine)
  | .lst xs => okA xs | .tup xs => okA xs | .dct _ => false | .ref _ => false | .obj _ _ _ => false
@[simp] def okA : List D → Bool
  | [] => true
  | x :: xs => x.ok && okA xs
end
mutual
@[simp] def D.dep : D → Nat
  | .lst xs => depA xs + 1 | .tup xs => depA xs + 1
  | _ => 0
@[simp] def depA : List D → Nat
  | [] => 0
  | x :: xs => max x.dep (depA xs)
end
mutual
@[simp] def D.eqv : D → D → Bool
  | .non, .non => true
  | .bl a, .bl b => a == b
  | .bl a, .int j => (if a then 1 else 0) == j
  | .int i, .bl b => i == (if b then 1 else 0)
  | .int i, .int j => i == j
  | .str x, .str y => x == y
  | .lst xs, .lst ys => eqvA xs ys
  | .tup xs, .tup ys => eqvA xs ys
  | _, _ => false
@[simp] def eqvA : List D → List D → Bool
  | [], [] => true
  | x :: xs, y :: ys => x.eqv y && eqvA xs ys
  | _, _ => false
end
mutual
theorem ok_pd : ∀ d : D, d.ok = true → d.pd.canLay0 = true
  | .non, _ => rfl | .bl _, _ => rfl | .int _, _ => rfl
  | .str x, h => by
    have h' : PyData.strOk x = true ∧ x.length ≤ sizeLine := by simpa [D.ok] using h
    exact h'.1
  | .lst xs, h => by simp only [D.pd, PyData.canLay0]; exact okA_pd xs (by simpa [D.ok] using h)
  | .tup xs, h => by simp only [D.pd, PyData.canLay0]; exact okA_pd xs (by simpa [D.ok] using h)
  | .dct _, h => by simp [D.ok] at h
  | .ref _, h => by simp [D.ok] at h
  | .obj _ _ _, h => by simp [D.ok] at h
theorem okA_pd : ∀ ds : List D, okA ds = true → PyData.canLayAll0 (pdA ds) = true
  | [], _ => rfl
  | d :: ds, h => by
    have h' : d.ok = true ∧ okA ds = true := by simpa [okA] using h
    simp only [pdA, PyData.canLayAll0, ok_pd d h'.1, okA_pd ds h'.2, Bool.and_self]
end
mutual
theorem dep_pd : ∀ d : D, d.ok = true → d.pd.depth = d.dep
  | .non, _ => rfl | .bl _, _ => rfl | .int _, _ => rfl | .str x, _ => rfl
  | .lst xs, h => by simp only [D.pd, D.dep, PyData.depth]; rw [depA_pd xs (by simpa [D.ok] using h)]
  | .tup xs, h => by simp only [D.pd, D.dep, PyData.depth]; rw [depA_pd xs (by simpa [D.ok] using h)]
  | .dct _, h => by simp [D.ok] at h
  | .ref _, h => by simp [D.ok] at h
  | .obj _ _ _, h => by simp [D.ok] at h
theorem depA_pd : ∀ ds : List D, okA ds = true → PyData.depthAll (pdA ds) = depA ds
  | [], _ => rfl
  | d :: ds, h => by
    have h' : d.ok = true ∧ okA ds = true := by simpa [okA] using h
    simp only [pdA, depA, PyData.depthAll, dep_pd d h'.1, depA_pd ds h'.2]
end
mutual
theorem eqv_pd : ∀ d e : D, d.ok = true → e.ok = true → PyData.eqv d.pd e.pd = d.eqv e
  | .lst xs, e, hd, he => by
    cases e with
    | lst ys => simp only [D.pd, D.eqv, PyData.eqv]; exact eqvA_pd xs ys (by simpa [D.ok] using hd) (by simpa [D.ok] using he)
    | dct _ => simp [D.ok] at he
    | ref _ => simp [D.ok] at he
    | obj _ _ _ => simp [D.ok] at he
    | _ => simp only [D.pd, D.eqv, PyData.eqv]
  | .tup xs, e, hd, he => by
    cases e with
    | tup ys => simp only [D.pd, D.eqv, PyData.eqv]; exact eqvA_pd xs ys (by simpa [D.ok] using hd) (by simpa [D.ok] using he)
    | dct _ => simp [D.ok] at he
    | ref _ => simp [D.ok] at he
    | obj _ _ _ => simp [D.ok] at he
    | _ => simp only [D.pd, D.eqv, PyData.eqv]
  | .dct _, _, hd, _ => by simp [D.ok] at hd
  | .ref _, _, hd, _ => by simp [D.ok] at hd
  | .obj _ _ _, _, hd, _ => by simp [D.ok] at hd
  | .non, e, _, he => by cases e <;> first | (simp [D.ok] at he; done) | simp only [D.pd, D.eqv, PyData.eqv]
  | .bl _, e, _, he => by cases e <;> first | (simp [D.ok] at he; done) | simp only [D.pd, D.eqv, PyData.eqv]
  | .int _, e, _, he => by cases e <;> first | (simp [D.ok] at he; done) | simp only [D.pd, D.eqv, PyData.eqv]
  | .str _, e, _, he => by cases e <;> first | (simp [D.ok] at he; done) | simp only [D.pd, D.eqv, PyData.eqv]
theorem eqvA_pd : ∀ ds es : List D, okA ds = true → okA es = true → PyData.eqvAll (pdA ds) (pdA es) = eqvA ds es
  | [], [], _, _ => by simp only [pdA, eqvA, PyData.eqvAll]
  | [], _ :: _, _, _ => by simp only [pdA, eqvA, PyData.eqvAll]
  | _ :: _, [], _, _ => by simp only [pdA, eqvA, PyData.eqvAll]
  | d :: ds, e :: es, hd, he => by
    have h1 : d.ok = true ∧ okA ds = true := by simpa [okA] using hd
    have h2 : e.ok = true ∧ okA es = true := by simpa [okA] using he
    simp only [pdA, eqvA, PyData.eqvAll, eqv_pd d e h1.1 h2.1, eqvA_pd ds es h1.2 h2.2]
end
mutual
theorem Rp.dp {K : PySem.W.Frag} {B H : Hp} (s : Sub B H) : ∀ {d : D} {v : V}, d.ok = true → Rp K B v d → Dp K H v d.pd
  | .non, _, _, .non => .non
  | .bl _, _, _, .bl b => .bl b
  | .int _, _, _, .int i => .int i
  | .str _, _, _, .str x => .str x
  | .lst ds, _, h, .lst e _ r => .lst (SqL.of (s _ _ e).lst) (RpA.dp s (by simpa [D.ok] using h) r)
  | .tup ds, _, h, .tup e _ r => .tup (s.sqT e) (RpA.dp s (by simpa [D.ok] using h) r)
  | .dct _, _, h, _ => by simp [D.ok] at h
  | .ref _, _, h, _ => by simp [D.ok] at h
  | .obj _ _ _, _, h, _ => by simp [D.ok] at h
theorem RpA.dp {K : PySem.W.Frag} {B H : Hp} (s : Sub B H) : ∀ {ds : List D} {vs : List V}, okA ds = true → RpA K B vs ds → DpAll K H vs (pdA ds)
  | [], _, _, .nil => .nil
  | d :: ds, _, h, .cons r t => by
    have h' : d.ok = true ∧ okA ds = true := by simpa [okA] using h
    exact .cons (Rp.dp s h'.1 r) (RpA.dp s h'.2 t)
end
theorem At.dp {K : PySem.W.Frag} {S : List Addr} {B H : Hp} (s : Sub B H) {d : D} {v : V} (h : d.ok = true) (r : At K S B H v d) : Dp K H v d.pd := by
  cases d with
  | lst ds => obtain ⟨a, vs, rfl, e, q⟩ := r.lst; exact .lst (SqL.of e) (RpA.dp s (by simpa [D.ok] using h) q)
  | tup ds => obtain ⟨a, vs, rfl, e, q⟩ := r.tup s; exact .tup e (RpA.dp s (by simpa [D.ok] using h) q)
  | non => exact Rp.dp s h r
  | bl b => exact Rp.dp s h r
  | int b => exact Rp.dp s h r
  | str b => exact Rp.dp s h r
  | dct b => simp [D.ok] at h
  | ref b => simp [D.ok] at h
  | obj _ _ _ => simp [D.ok] at h

/-! ### transformers over data -/
/-- an exception: its class's name, its own fields -/
abbrev Exn := Str × List (Str × D)
abbrev T := DEnv → (D → Prop) → (Exn → Prop) → Prop
structure Mono (t : T) : Prop where
  r : ∀ {ρ : DEnv} {Q Q' : D → Prop} {E E' : Exn → Prop}, (∀ d, Q d → Q' d) → (∀ x, E x → E' x) → t ρ Q E → t ρ Q' E'

def ExAt (K : PySem.W.Frag) (B H : Hp) (od : Option Addr) : List (Str × D) → Prop
  | [] => od = none
  | f :: fs => ∃ d vs, od = some d ∧ H d = some (.xd vs) ∧ RpF K B vs (f :: fs)
/-- the wish for exceptions -/
def ExW (K : PySem.W.Frag) (S : List Addr) (Ex : XK) (B H : Hp) : Exn → Prop := fun x => ∀ od B' H', Le S B H B' H' → ExAt K B' H' od x.2 → Ex (.ref (He.ga K x.1)) od H'
theorem ExW.le {K : PySem.W.Frag} {S : List Addr} {Ex : XK} {B H B1 H1 : Hp} (l : Le S B H B1 H1) (x : Exn) (h : ExW K S Ex B H x) : ExW K S Ex B1 H1 x :=
  fun od B' H' l' e => h od B' H' (l.trans l') e

/-- how a result is told: the old heap, the new world, the value, its data -/
abbrev Rel := Hp → Hp → Hp → V → D → Prop
def rP (K : PySem.W.Frag) : Rel := fun _ B' _ v d => Rp K B' v d
def rB (K : PySem.W.Frag) (S : List Addr) : Rel := fun _ B' H' v d => At K S B' H' v d
/-- a new object, owned by none -/
def rF (K : PySem.W.Frag) : Rel := fun H B' H' v d => ∃ l, v = .ref l ∧ H l = none ∧ B' l = none ∧ OwnAt K B' H' l d
def lift (K : PySem.W.Frag) (S : List Addr) (Ex : L2.St → XK) (R : Rel) (t : T) : TE := fun σ H Q => ∃ B ρ, Good S B H ∧ SlotsOk K S B H σ ρ ∧
  t ρ (fun d => ∀ v B' H', Le S B H B' H' → R H B' H' v d → Q v H') (ExW K S (Ex σ) B H)

/-- what every rule asks of where it stands -/
structure Cd (X : Cx) (Ex : L2.St → XK) : Prop where
  calm : X.calm = true
  hu : X.A.units + 100 < cLine
  pass : ∀ σ, PassesAt (L2N.CX X.prog X.w) X σ (Ex σ)
  nd : X.N.Nodup

structure DR (X : Cx) (S : List Addr) (Ex : L2.St → XK) (R : Rel) (e : Expr) (t : T) : Prop where
  pe : PE X e (lift X.K S Ex R t)
  mono : Mono t
/-- plain values; values to be read at once; new objects -/
abbrev DE (X : Cx) (S : List Addr) (Ex : L2.St → XK) (e : Expr) (t : T) : Prop := DR X S Ex (rP X.K) e t
abbrev DB (X : Cx) (S : List Addr) (Ex : L2.St → XK) (e : Expr) (t : T) : Prop := DR X S Ex (rB X.K S) e t
abbrev DF (X : Cx) (S : List Addr) (Ex : L2.St → XK) (e : Expr) (t : T) : Prop := DR X S Ex (rF X.K) e t

theorem PE.imp {X : Cx} {e : Expr} {t t' : TE} (h : PE X e t) (k : ∀ σ H Q, t' σ H Q → t σ H Q) : PE X e t' := ⟨fun pins s σ H Q I q => h.run pins s σ H Q I (k σ H Q q)⟩

section
variable {X : Cx} {S : List Addr} {Ex : L2.St → XK} {R : Rel} {e : Expr} {t : T}
theorem lift.imp {K : PySem.W.Frag} {R R' : Rel} (m : Mono t) (h : ∀ B H B' H' v d, Good S B H → Le S B H B' H' → R H B' H' v d → ∃ B'', Le S B H B'' H' ∧ R' H B'' H' v d) (σ : L2.St) (H : Hp) (Q : VK) (q : lift K S Ex R' t σ H Q) : lift K S Ex R t σ H Q := by
  obtain ⟨B, ρ, G, SO, q⟩ := q
  refine ⟨B, ρ, G, SO, m.r (fun d hd v B' H' l r => ?_) (fun _ z => z) q⟩
  obtain ⟨B'', l2, r2⟩ := h B H B' H' v d G l r
  exact hd v B'' H' l2 r2
theorem DE.b (h : DE X S Ex e t) : DB X S Ex e t := ⟨PE.imp h.pe (lift.imp h.mono fun B H B' H' v d g l r => ⟨B', l, Rp.at r (l.good g)⟩), h.mono⟩
/-- a new object becomes plain -/
theorem Le.join {B H B' H' : Hp} {l : Addr} {o : HO} (g : Good S B H) (a : Le S B H B' H') (h0 : H l = none) (h1 : B' l = none) (h2 : H' l = some o) : Le S B H (upd B' l o) H' := by
  refine ⟨fun b u h => ?_, fun b u h => ?_, a.heap, fun b u h => ?_, a.src⟩
  · rw [upd_ne (ne_of_none (a.base b u h) h1)]; exact a.base b u h
  · by_cases e : b = l
    · subst e; exact .inr h0
    · rw [upd_ne e] at h; exact a.new b u h
  · by_cases e : b = l
    · subst e; rw [upd_same] at h; cases h; exact .inl h2
    · rw [upd_ne e] at h; exact a.sub b u h
theorem DF.de (h : DF X S Ex e t) : DE X S Ex e t := by
  refine ⟨PE.imp h.pe (lift.imp h.mono fun B H B' H' v d g l r => ?_), h.mono⟩
  obtain ⟨p, rfl, h0, h1, ow⟩ := r
  cases d with
  | lst ds =>
    obtain ⟨vs, e2, z, q⟩ := ow
    have k : Keep B' (upd B' p (.lst vs)) := fun b u z => by rw [upd_ne (ne_of_none z h1)]; exact z
    exact ⟨_, Le.join g l h0 h1 e2, .lst upd_same z (q.mono k)⟩
  | dct ds =>
    obtain ⟨vs, e2, z, q⟩ := ow
    have k : Keep B' (upd B' p (.dK vs)) := fun b u z => by rw [upd_ne (ne_of_none z h1)]; exact z
    exact ⟨_, Le.join g l h0 h1 e2, .dct upd_same z (q.mono k)⟩
  | _ => exact ow.elim
/-- from a rule's own reading: the value it makes, in the world as it stands -/
theorem lift.one {K : PySem.W.Frag} {r : TE} (h : ∀ σ B ρ H (Q : VK), Good S B H → SlotsOk K S B H σ ρ → t ρ (fun d => ∀ v B' H', Le S B H B' H' → R H B' H' v d → Q v H') (ExW K S (Ex σ) B H) → r σ H Q) (σ : L2.St) (H : Hp) (Q : VK) (q : lift K S Ex R t σ H Q) : r σ H Q := by
  obtain ⟨B, ρ, G, SO, q⟩ := q
  exact h σ B ρ H Q G SO q

/-! ### names and constants -/
@[simp] def tK (d : D) : T := fun _ Q _ => Q d
theorem tK.mono {d : D} : Mono (tK d) := ⟨fun h _ q => h _ q⟩
/-- the plain slot i -/
@[simp] def tV (i : Nat) : T := fun ρ Q _ => match ρ[i]? with
  | some (some (.p d)) => Q d
  | _ => False
theorem tV.mono {i : Nat} : Mono (tV i) := ⟨fun {ρ _ _ _ _} h _ q => by
  unfold tV at *
  split at q <;> first | exact h _ q | exact q.elim⟩
/-- the slot i, plain or owned -/
@[simp] def tO (i : Nat) : T := fun ρ Q _ => match ρ[i]? with
  | some (some (.p d)) => Q d
  | some (some (.o d)) => Q d
  | _ => False
theorem tO.mono {i : Nat} : Mono (tO i) := ⟨fun {ρ _ _ _ _} h _ q => by
  unfold tO at *
  split at q <;> first | exact h _ q | exact q.elim⟩
theorem de_int {i j pos} : DE X S Ex (.Constant (.int i) j pos) (tK (.int i)) := ⟨PE.imp pe_int (lift.one fun σ B ρ H Q G SO q => q _ B H G.le (.int i)), tK.mono⟩
theorem de_bl {i j pos} : DE X S Ex (.Constant (.bool i) j pos) (tK (.bl i)) := ⟨PE.imp pe_bl (lift.one fun σ B ρ H Q G SO q => q _ B H G.le (.bl i)), tK.mono⟩
theorem de_non {j pos} : DE X S Ex (.Constant .none j pos) (tK .non) := ⟨PE.imp pe_non (lift.one fun σ B ρ H Q G SO q => q _ B H G.le .non), tK.mono⟩
theorem de_str {i j pos} : DE X S Ex (.Constant (.str i) j pos) (tK (.str i)) := ⟨PE.imp pe_str (lift.one fun σ B ρ H Q G SO q => q _ B H G.le (.str i)), tK.mono⟩
theorem de_v (i : Nat) {x : Str} {pos : Pos} (hN : X.N[i]? = some x := by rfl) (hv : Vis X.env.scope x := by first | exact Or.inl rfl | exact Or.inr (Or.inl rfl) | exact Or.inr (Or.inr rfl)) (hd : (x == ("__debug__" : Str)) = false := by decide)
    (hcd : (x == ("__classdict__" : Str)) = false := by decide) : DE X S Ex (.Name x pos) (tV i) := by
  refine ⟨PE.imp (pv i hN hv hd hcd) (lift.one fun σ B ρ H Q G SO q => ?_), tV.mono⟩
  unfold tV at q
  split at q
  · rename_i d e
    obtain ⟨v, h1, h2⟩ := SO.at_ i _ e
    exact ⟨v, h1, q v B H G.le h2⟩
  · exact q.elim
theorem db_v (i : Nat) {x : Str} {pos : Pos} (hN : X.N[i]? = some x := by rfl) (hv : Vis X.env.scope x := by first | exact Or.inl rfl | exact Or.inr (Or.inl rfl) | exact Or.inr (Or.inr rfl)) (hd : (x == ("__debug__" : Str)) = false := by decide)
    (hcd : (x == ("__classdict__" : Str)) = false := by decide) : DB X S Ex (.Name x pos) (tO i) := by
  refine ⟨PE.imp (pv i hN hv hd hcd) (lift.one fun σ B ρ H Q G SO q => ?_), tO.mono⟩
  unfold tO at q
  split at q
  · rename_i d e
    obtain ⟨v, h1, h2⟩ := SO.at_ i _ e
    exact ⟨v, h1, q v B H G.le (Rp.at h2 G)⟩
  · rename_i d e
    obtain ⟨v, h1, l, rfl, hb, ow⟩ := SO.at_ i _ e
    exact ⟨_, h1, q _ B H G.le (ow.at (SO.src i d l e h1))⟩
  · exact q.elim
/-- a module's constant: K tells its data (in any world) -/
theorem de_glob {x : Str} {v : V} {u : Value} {d : D} {pos : Pos} (hg : Gl X x) (hm : X.mg x = some u) (r : RelV v u) (hd : ∀ B : Hp, Rp X.K B v d) (hdb : (x == ("__debug__" : Str)) = false := by decide) : DE X S Ex (.Name x pos) (tK d) :=
  ⟨PE.imp (pe_glob hg hm r hdb) (lift.one fun σ B ρ H Q G SO q => q v B H G.le (hd B)), tK.mono⟩

/-! ### two in a row -/
@[simp] def tBin (r : D → D → (D → Prop) → Prop) (ta tb : T) : T := fun ρ Q E => ta ρ (fun x => tb ρ (fun y => r x y Q) E) E
structure MonoR (r : D → D → (D → Prop) → Prop) : Prop where
  r : ∀ {x y : D} {Q Q' : D → Prop}, (∀ d, Q d → Q' d) → r x y Q → r x y Q'
theorem tBin.mono {r : D → D → (D → Prop) → Prop} {ta tb : T} (hr : MonoR r) (ha : Mono ta) (hb : Mono tb) : Mono (tBin r ta tb) :=
  ⟨fun h he q => ha.r (fun _ q => hb.r (fun _ q => hr.r h q) he q) he q⟩
theorem lift2 {K : PySem.W.Frag} {Ra Rb : Rel} {ta tb : T} (ma : Mono ta) (mb : Mono tb) {σ : L2.St} {H : Hp} {P : D → D → Prop} {B : Hp} {ρ : DEnv} (G : Good S B H) (SO : SlotsOk K S B H σ ρ)
    (h : ta ρ (fun x => tb ρ (fun y => P x y) (ExW K S (Ex σ) B H)) (ExW K S (Ex σ) B H)) {Q : V → V → Hp → Prop}
    (k : ∀ B1 H1 B2 H2 v w x y, Le S B H B1 H1 → Ra H B1 H1 v x → Le S B1 H1 B2 H2 → Rb H1 B2 H2 w y → P x y → Q v w H2) :
    lift K S Ex Ra ta σ H fun v H1 => lift K S Ex Rb tb σ H1 fun w H2 => Q v w H2 :=
  ⟨B, ρ, G, SO, ma.r (fun x hx v B1 H1 l1 r1 => ⟨B1, ρ, l1.good G, SO.le l1, mb.r (fun y hy w B2 H2 l2 r2 => k B1 H1 B2 H2 v w x y l1 r1 l2 r2 hy) (fun z q => ExW.le l1 z q) hx⟩) (fun _ z => z) h⟩
/-- an operation of two values, over data -/
def OpD (X : Cx) (S : List Addr) (f : Value → Value → Sem Value) (r : D → D → (D → Prop) → Prop) : Prop :=
  OpR X f fun x y H Q => ∃ B dx dy, Good S B H ∧ At X.K S B H x dx ∧ At X.K S B H y dy ∧ r dx dy fun d => ∀ v B' H', Le S B H B' H' → Rp X.K B' v d → Q v H'
theorem OpR.imp {f : Value → Value → Sem Value} {r r' : R2} (h : OpR X f r) (k : ∀ x y H Q, r' x y H Q → r x y H Q) : OpR X f r' := fun pins s σ H x y v u Q I rx ry q => h pins s σ H x y v u Q I rx ry (k _ _ _ _ q)
theorem de_op {a b : Expr} {ta tb : T} {op : Operator} {pos : Pos} {r : D → D → (D → Prop) → Prop} (o : OpD X S (binaryOp op) r) (hr : MonoR r) (ha : DB X S Ex a ta) (hb : DB X S Ex b tb) : DE X S Ex (.BinOp a op b pos) (tBin r ta tb) := by
  refine ⟨PE.imp (pe_op o ha.pe hb.pe) (lift.one fun σ B ρ H Q G SO q => ?_), tBin.mono hr ha.mono hb.mono⟩
  exact lift2 ha.mono hb.mono G SO q fun B1 H1 B2 H2 v w x y l1 r1 l2 r2 p => ⟨B2, x, y, l2.good (l1.good G), At.le r1 l2, r2, hr.r (fun d hd u B' H' l => hd u B' H' ((l1.trans l2).trans l)) p⟩
theorem de_cmp {a b : Expr} {ta tb : T} {op : CmpOp} {pos : Pos} {r : D → D → (D → Prop) → Prop} (o : OpD X S (compareOp op) r) (hr : MonoR r) (ha : DB X S Ex a ta) (hb : DB X S Ex b tb)
    (hm : behindInMarks op b = false := by first | exact nomark _ | rfl) : DE X S Ex (.Compare a [op] [b] pos) (tBin r ta tb) := by
  refine ⟨PE.imp (pe_cmpR o ha.pe hb.pe hm) (lift.one fun σ B ρ H Q G SO q => ?_), tBin.mono hr ha.mono hb.mono⟩
  exact lift2 ha.mono hb.mono G SO q fun B1 H1 B2 H2 v w x y l1 r1 l2 r2 p => ⟨B2, x, y, l2.good (l1.good G), At.le r1 l2, r2, hr.r (fun d hd u B' H' l => hd u B' H' ((l1.trans l2).trans l)) p⟩
end
end DL

set_option Elab.async false
set_option linter.all false
set_option maxRecDepth 100000
set_option maxHeartbeats 1000000
/-! DL, part c: operators, comparisons, arguments, displays, calls, items, slices. -/
namespace DL
open PySem PySem.Spec PyProof.Rows L2
section
variable {X : Cx} {S : List Addr} {Ex : L2.St → XK}

theorem At.int {K : PySem.W.Frag} {B H : Hp} {v : V} {i : Int} (h : At K S B H v (.int i)) : v = .int i := by cases h; rfl
theorem At.str {K : PySem.W.Frag} {B H : Hp} {v : V} {i : Str} (h : At K S B H v (.str i)) : v = .str i := by cases h; rfl
theorem At.bl {K : PySem.W.Frag} {B H : Hp} {v : V} {i : Bool} (h : At K S B H v (.bl i)) : v = .bl i := by cases h; rfl
theorem At.non {K : PySem.W.Frag} {B H : Hp} {v : V} (h : At K S B H v .non) : v = .non := by cases h; rfl

/-! ### operators -/
@[simp] def addD : D → D → (D → Prop) → Prop
  | .int i, .int j, Q => Q (.int (i + j))
  | .str x, .str y, Q => x.length + y.length ≤ sizeLine ∧ Q (.str (x ++ y))
  | .tup xs, .tup ys, Q => xs.length + ys.length ≤ sizeLine ∧ Q (.tup (xs ++ ys))
  | .lst xs, .lst ys, Q => xs.length + ys.length ≤ sizeLine ∧ Q (.lst (xs ++ ys))
  | _, _, _ => False
theorem addD.mono : MonoR addD := ⟨fun {x y Q Q'} h q => by
  cases x <;> cases y <;> first
    | exact q.elim
    | exact h _ q
    | exact ⟨q.1, h _ q.2⟩⟩
/-- a new list of two -/
theorem opF_cat : OpR X (binaryOp .Add) (fun x y H Q => ∃ B xs ys, Good S B H ∧ At X.K S B H x (.lst xs) ∧ At X.K S B H y (.lst ys) ∧ xs.length + ys.length ≤ sizeLine ∧
    ∀ l B' H', Le S B H B' H' → H l = none → B' l = none → OwnAt X.K B' H' l (.lst (xs ++ ys)) → Q (.ref l) H') := by
  refine OpR.imp op_cat fun x y H Q h => ?_
  obtain ⟨B, xs, ys, G, hx, hy, hl, k⟩ := h
  obtain ⟨a, vs, rfl, ha, ra⟩ := hx.lst
  obtain ⟨b, ws, rfl, hb, rb⟩ := hy.lst
  refine ⟨a, b, vs, ws, rfl, rfl, ha, hb, by rw [ra.length, rb.length]; exact hl, fun p hp => ?_⟩
  exact k p B _ (Le.beside G hp) hp (G.bnone hp) ⟨_, upd_same, by rw [List.length_append, ra.length, rb.length]; exact hl, ra.append rb⟩
theorem opd_add : OpD X S (binaryOp .Add) addD := by
  refine OpR.imp ((((op_add.or op_add_str).or op_catA).or (opF_cat (S := S)))) fun x y H Q h => ?_
  obtain ⟨B, dx, dy, G, hx, hy, q⟩ := h
  cases dx with
  | int i => cases dy with
    | int j => cases hx; cases hy; exact .inl (.inl (.inl ⟨i, j, rfl, rfl, q _ B H G.le (.int _)⟩))
    | _ => exact q.elim
  | str i => cases dy with
    | str j => cases hx; cases hy; exact .inl (.inl (.inr ⟨i, j, rfl, rfl, q.1, q.2 _ B H G.le (.str _)⟩))
    | _ => exact q.elim
  | tup xs => cases dy with
    | tup ys =>
      refine .inl (.inr ?_)
      obtain ⟨a, vs, rfl, ha, ra⟩ := hx.tup G.sub
      obtain ⟨b, ws, rfl, hb, rb⟩ := hy.tup G.sub
      obtain ⟨hl, q⟩ := q
      refine ⟨a, b, vs, ws, rfl, rfl, ha, hb, by rw [ra.length, rb.length]; exact hl, ?_⟩
      refine ⟨fun e => ?_, fun e e2 => ?_, fun e e2 p hp => ?_⟩
      · have e3 : xs = [] := List.length_eq_zero_iff.mp (by rw [← ra.length, e]; rfl)
        subst e3
        exact q _ _ _ G.le hy
      · have e3 : ys = [] := List.length_eq_zero_iff.mp (by rw [← rb.length, e2]; rfl)
        subst e3
        rw [List.append_nil] at q
        exact q _ _ _ G.le hx
      · have k : Keep B (upd B p (.tup (vs ++ ws))) := fun b u z => by rw [upd_ne (ne_of_none z (G.bnone hp))]; exact z
        exact q _ _ _ (Le.laid G hp) (.tup (.inl upd_same) (by rw [List.length_append, ra.length, rb.length]; exact hl) ((ra.append rb).mono k))
    | _ => exact q.elim
  | lst xs => cases dy with
    | lst ys =>
      refine .inr ⟨B, xs, ys, G, hx, hy, q.1, fun l B' H' le h0 h1 ow => ?_⟩
      obtain ⟨vs, e, z, r⟩ := ow
      exact q.2 _ _ _ (Le.join G le h0 h1 e) (.lst upd_same z (r.mono fun b u z => by rw [upd_ne (ne_of_none z h1)]; exact z))
    | _ => exact q.elim
  | _ => cases dy <;> exact q.elim

@[simp] def subD : D → D → (D → Prop) → Prop
  | .int i, .int j, Q => Q (.int (i - j))
  | _, _, _ => False
theorem subD.mono : MonoR subD := ⟨fun {x y Q Q'} h q => by cases x <;> cases y <;> first | exact q.elim | exact h _ q⟩
theorem opd_sub : OpD X S (binaryOp .Sub) subD := OpR.imp op_sub fun x y H Q h => by
  obtain ⟨B, dx, dy, G, hx, hy, q⟩ := h
  cases dx <;> cases dy <;> first
    | exact q.elim
    | (cases hx; cases hy; exact ⟨_, _, rfl, rfl, q _ B H G.le (.int _)⟩)
@[simp] def mulD : D → D → (D → Prop) → Prop
  | .int i, .int j, Q => CMul i j ∧ Q (.int (i * j))
  | _, _, _ => False
theorem mulD.mono : MonoR mulD := ⟨fun {x y Q Q'} h q => by cases x <;> cases y <;> first | exact q.elim | exact ⟨q.1, h _ q.2⟩⟩
theorem opd_mul : OpD X S (binaryOp .Mult) mulD := OpR.imp op_mul fun x y H Q h => by
  obtain ⟨B, dx, dy, G, hx, hy, q⟩ := h
  cases dx <;> cases dy <;> first
    | exact q.elim
    | (cases hx; cases hy; exact ⟨_, _, rfl, rfl, q.1, q.2 _ B H G.le (.int _)⟩)
@[simp] def modD : D → D → (D → Prop) → Prop
  | .int i, .int j, Q => 0 < j ∧ Q (.int (i % j))
  | _, _, _ => False
theorem modD.mono : MonoR modD := ⟨fun {x y Q Q'} h q => by cases x <;> cases y <;> first | exact q.elim | exact ⟨q.1, h _ q.2⟩⟩
theorem opd_mod : OpD X S (binaryOp .Mod) modD := OpR.imp op_mod fun x y H Q h => by
  obtain ⟨B, dx, dy, G, hx, hy, q⟩ := h
  cases dx <;> cases dy <;> first
    | exact q.elim
    | (cases hx; cases hy; exact ⟨_, _, rfl, rfl, q.1, q.2 _ B H G.le (.int _)⟩)
@[simp] def fdivD : D → D → (D → Prop) → Prop
  | .int i, .int j, Q => CDiv i j ∧ Q (.int (i / j))
  | _, _, _ => False
theorem fdivD.mono : MonoR fdivD := ⟨fun {x y Q Q'} h q => by cases x <;> cases y <;> first | exact q.elim | exact ⟨q.1, h _ q.2⟩⟩
theorem opd_fdiv : OpD X S (binaryOp .FloorDiv) fdivD := OpR.imp op_fdiv fun x y H Q h => by
  obtain ⟨B, dx, dy, G, hx, hy, q⟩ := h
  cases dx <;> cases dy <;> first
    | exact q.elim
    | (cases hx; cases hy; exact ⟨_, _, rfl, rfl, q.1, q.2 _ B H G.le (.int _)⟩)
@[simp] def powD : D → D → (D → Prop) → Prop
  | .int i, .int j, Q => CPow i j ∧ Q (.int (i ^ j.toNat))
  | _, _, _ => False
theorem powD.mono : MonoR powD := ⟨fun {x y Q Q'} h q => by cases x <;> cases y <;> first | exact q.elim | exact ⟨q.1, h _ q.2⟩⟩
theorem opd_pow : OpD X S (binaryOp .Pow) powD := OpR.imp op_pow fun x y H Q h => by
  obtain ⟨B, dx, dy, G, hx, hy, q⟩ := h
  cases dx <;> cases dy <;> first
    | exact q.elim
    | (cases hx; cases hy; exact ⟨_, _, rfl, rfl, q.1, q.2 _ B H G.le (.int _)⟩)

/-! ### comparisons -/
/-- the order of numbers and texts -/
@[simp] def D.lt : D → D → Option Bool
  | .int i, .int j => some (decide (i < j))
  | .str x, .str y => some (decide (x.cps.toList < y.cps.toList))
  | _, _ => none
@[simp] def cmpD (f : D → D → Option Bool) : D → D → (D → Prop) → Prop := fun x y Q => match f x y with
  | some b => Q (.bl b)
  | none => False
theorem cmpD.mono {f : D → D → Option Bool} : MonoR (cmpD f) := ⟨fun {x y Q Q'} h q => by
  unfold cmpD at *
  split at q <;> first | exact h _ q | exact q.elim⟩
@[simp] def D.le : D → D → Option Bool
  | .int i, .int j => some (decide (i ≤ j))
  | .str x, .str y => some (!decide (y.cps.toList < x.cps.toList))
  | _, _ => none
@[simp] def ltD := cmpD D.lt
@[simp] def leD := cmpD D.le
@[simp] def gtD := cmpD fun x y => D.lt y x
@[simp] def geD := cmpD fun x y => D.le y x
theorem opd_lt : OpD X S (compareOp .Lt) ltD := OpR.imp (op_lt.or op_lt_str) fun x y H Q h => by
  obtain ⟨B, dx, dy, G, hx, hy, q⟩ := h
  cases dx with
  | int i => cases dy with
    | int j => cases hx; cases hy; exact .inl ⟨_, _, rfl, rfl, q _ B H G.le (.bl _)⟩
    | _ => exact q.elim
  | str i => cases dy with
    | str j => cases hx; cases hy; exact .inr ⟨_, _, rfl, rfl, q _ B H G.le (.bl _)⟩
    | _ => exact q.elim
  | _ => cases dy <;> exact q.elim
theorem opd_le : OpD X S (compareOp .LtE) leD := OpR.imp (op_le.or op_le_str) fun x y H Q h => by
  obtain ⟨B, dx, dy, G, hx, hy, q⟩ := h
  cases dx with
  | int i => cases dy with
    | int j => cases hx; cases hy; exact .inl ⟨_, _, rfl, rfl, q _ B H G.le (.bl _)⟩
    | _ => exact q.elim
  | str i => cases dy with
    | str j => cases hx; cases hy; exact .inr ⟨_, _, rfl, rfl, q _ B H G.le (.bl _)⟩
    | _ => exact q.elim
  | _ => cases dy <;> exact q.elim
theorem opd_gt : OpD X S (compareOp .Gt) gtD := OpR.imp (op_gt.or op_gt_str) fun x y H Q h => by
  obtain ⟨B, dx, dy, G, hx, hy, q⟩ := h
  cases dx with
  | int i => cases dy with
    | int j => cases hx; cases hy; exact .inl ⟨_, _, rfl, rfl, q _ B H G.le (.bl _)⟩
    | _ => exact q.elim
  | str i => cases dy with
    | str j => cases hx; cases hy; exact .inr ⟨_, _, rfl, rfl, q _ B H G.le (.bl _)⟩
    | _ => exact q.elim
  | _ => cases dy <;> exact q.elim
theorem opd_ge : OpD X S (compareOp .GtE) geD := OpR.imp (op_ge.or op_ge_str) fun x y H Q h => by
  obtain ⟨B, dx, dy, G, hx, hy, q⟩ := h
  cases dx with
  | int i => cases dy with
    | int j => cases hx; cases hy; exact .inl ⟨_, _, rfl, rfl, q _ B H G.le (.bl _)⟩
    | _ => exact q.elim
  | str i => cases dy with
    | str j => cases hx; cases hy; exact .inr ⟨_, _, rfl, rfl, q _ B H G.le (.bl _)⟩
    | _ => exact q.elim
  | _ => cases dy <;> exact q.elim
@[simp] def eqD : D → D → (D → Prop) → Prop := fun x y Q => (x.ok = true ∧ y.ok = true ∧ min x.dep y.dep ≤ 64) ∧ Q (.bl (x.eqv y))
@[simp] def neD : D → D → (D → Prop) → Prop := fun x y Q => (x.ok = true ∧ y.ok = true ∧ min x.dep y.dep ≤ 64) ∧ Q (.bl (!x.eqv y))
theorem eqD.mono : MonoR eqD := ⟨fun h q => ⟨q.1, h _ q.2⟩⟩
theorem neD.mono : MonoR neD := ⟨fun h q => ⟨q.1, h _ q.2⟩⟩
theorem opd_eq (hu : X.A.units + 100 < cLine) : OpD X S (compareOp .Eq) eqD := by
  intro pins s σ H x y v u Q I rx ry h
  obtain ⟨B, dx, dy, G, hx, hy, ⟨o1, o2, hd⟩, q⟩ := h
  obtain ⟨as, r1⟩ := Dp.reads I dx.pd x v (At.dp G.sub o1 hx) rx
  obtain ⟨bs, r2⟩ := Dp.reads I dy.pd y u (At.dp G.sub o2 hy) ry
  refine SeqAt.compareEq_reads r1 r2 (ok_pd _ o1) (ok_pd _ o2) (by rw [dep_pd _ o1, dep_pd _ o2]; omega) ?_
  rw [eqv_pd _ _ o1 o2]
  exact ⟨.bl _, H, I, rfl, q _ B H G.le (.bl _)⟩
theorem opd_ne (hu : X.A.units + 100 < cLine) : OpD X S (compareOp .NotEq) neD := by
  intro pins s σ H x y v u Q I rx ry h
  obtain ⟨B, dx, dy, G, hx, hy, ⟨o1, o2, hd⟩, q⟩ := h
  obtain ⟨as, r1⟩ := Dp.reads I dx.pd x v (At.dp G.sub o1 hx) rx
  obtain ⟨bs, r2⟩ := Dp.reads I dy.pd y u (At.dp G.sub o2 hy) ry
  refine SeqAt.compareNe_reads r1 r2 (ok_pd _ o1) (ok_pd _ o2) (by rw [dep_pd _ o1, dep_pd _ o2]; omega) ?_
  rw [eqv_pd _ _ o1 o2]
  exact ⟨.bl _, H, I, rfl, q _ B H G.le (.bl _)⟩
def D.isN : D → Bool
  | .non => true
  | _ => false
@[simp] theorem isN_non : D.isN .non = true := rfl
@[simp] theorem isN_str (x : Str) : D.isN (.str x) = false := rfl
@[simp] theorem isN_bl (x : Bool) : D.isN (.bl x) = false := rfl
@[simp] theorem isN_int (x : Int) : D.isN (.int x) = false := rfl
@[simp] theorem isN_tup (x : List D) : D.isN (.tup x) = false := rfl
@[simp] theorem isN_lst (x : List D) : D.isN (.lst x) = false := rfl
theorem At.isN {K : PySem.W.Frag} {B H : Hp} {v : V} {d : D} (h : At K S B H v d) : decide (v = V.non) = d.isN := by
  cases d with
  | lst _ => obtain ⟨a, _, rfl, _⟩ := h; rfl
  | dct _ => obtain ⟨a, _, rfl, _⟩ := h; rfl
  | _ => cases h <;> rfl
@[simp] def isND : D → D → (D → Prop) → Prop
  | x, .non, Q => Q (.bl x.isN)
  | _, _, _ => False
@[simp] def notND : D → D → (D → Prop) → Prop
  | x, .non, Q => Q (.bl (!x.isN))
  | _, _, _ => False
theorem isND.mono : MonoR isND := ⟨fun {x y Q Q'} h q => by cases y <;> first | exact q.elim | exact h _ q⟩
theorem notND.mono : MonoR notND := ⟨fun {x y Q Q'} h q => by cases y <;> first | exact q.elim | exact h _ q⟩
theorem opd_isN : OpD X S (compareOp .Is) isND := OpR.imp op_isN fun x y H Q h => by
  obtain ⟨B, dx, dy, G, hx, hy, q⟩ := h
  cases dy <;> first
    | exact q.elim
    | (cases hy; refine ⟨rfl, ?_⟩; rw [hx.isN]; exact q _ B H G.le (.bl _))
theorem opd_notN : OpD X S (compareOp .IsNot) notND := OpR.imp op_notN fun x y H Q h => by
  obtain ⟨B, dx, dy, G, hx, hy, q⟩ := h
  cases dy <;> first
    | exact q.elim
    | (cases hy; refine ⟨rfl, ?_⟩; rw [hx.isN]; exact q _ B H G.le (.bl _))

/-! ### dicts -/
@[simp] def keyD : D → Option Key
  | .int i => some (.inl i)
  | .str x => some (.inr x)
  | _ => none
theorem keyD_at {K : PySem.W.Frag} {B H : Hp} {v : V} {d : D} {k : Key} (h : At K S B H v d) (e : keyD d = some k) : v = kV k := by
  cases d with
  | int i => cases h; cases e; rfl
  | str i => cases h; cases e; rfl
  | _ => cases e
def lk (kds : List (Key × D)) (k : Key) : Option D := (kds.find? fun kv => decide (kv.1 = k)).map (·.2)
def pk (kds : List (Key × D)) (k : Key) (v : D) : List (Key × D) :=
  if (kds.any fun kv => decide (kv.1 = k)) = true then kds.map (fun kv => if kv.1 = k then (kv.1, v) else kv) else kds ++ [(k, v)]
theorem RpK.lk {K : PySem.W.Frag} {B : Hp} {k : Key} : ∀ {kds : List (Key × D)} {kvs : List (Key × V)}, RpK K B kvs kds → (∀ d, DL.lk kds k = some d → ∃ v, valV kvs k = some v ∧ Rp K B v d) ∧ (DL.lk kds k = none → valV kvs k = none)
  | [], _, .nil => ⟨fun d h => (nomatch h), fun _ => rfl⟩
  | (j, d) :: kds, _, .cons (v := v) (vs := vs) h t => by
    by_cases e : j = k
    · subst e
      refine ⟨fun d' h' => ?_, fun h' => ?_⟩
      · have : DL.lk ((j, d) :: kds) j = some d := by simp [DL.lk, List.find?_cons]
        rw [this] at h'; cases h'
        exact ⟨v, valV_pos rfl, h⟩
      · have : DL.lk ((j, d) :: kds) j = some d := by simp [DL.lk, List.find?_cons]
        rw [this] at h'; cases h'
    · have q : DL.lk ((j, d) :: kds) k = DL.lk kds k := by simp [DL.lk, List.find?_cons, e]
      rw [q, valV_neg (p := (j, v)) e]
      exact RpK.lk t
theorem RpK.isSome {K : PySem.W.Frag} {B : Hp} {k : Key} {kds : List (Key × D)} {kvs : List (Key × V)} (r : RpK K B kvs kds) : (valV kvs k).isSome = (DL.lk kds k).isSome := by
  obtain ⟨h1, h2⟩ := r.lk (k := k)
  cases e : DL.lk kds k with
  | none => rw [h2 e]; rfl
  | some d => obtain ⟨v, e2, _⟩ := h1 d e; rw [e2]; rfl
theorem RpK.any {K : PySem.W.Frag} {B : Hp} {k : Key} : ∀ {kds : List (Key × D)} {kvs : List (Key × V)}, RpK K B kvs kds → (kvs.any fun kv => decide (kv.1 = k)) = kds.any fun kv => decide (kv.1 = k)
  | [], _, .nil => rfl
  | _ :: _, _, .cons _ t => by simp only [List.any_cons, RpK.any t]
theorem RpK.append {K : PySem.W.Frag} {B : Hp} : ∀ {ds es : List (Key × D)} {vs ws : List (Key × V)}, RpK K B vs ds → RpK K B ws es → RpK K B (vs ++ ws) (ds ++ es)
  | [], _, _, _, .nil, s => s
  | _ :: _, _, _, _, .cons h t, s => .cons h (RpK.append t s)
theorem RpK.put {K : PySem.W.Frag} {B : Hp} {k : Key} {v : V} {d : D} (hv : Rp K B v d) {kds : List (Key × D)} {kvs : List (Key × V)} (r : RpK K B kvs kds) : RpK K B (putK kvs k v) (pk kds k d) := by
  unfold putK pk
  rw [r.any]
  split
  · have all : ∀ {kds : List (Key × D)} {kvs : List (Key × V)}, RpK K B kvs kds → RpK K B (kvs.map fun kv => if kv.1 = k then (kv.1, v) else kv) (kds.map fun kv => if kv.1 = k then (kv.1, d) else kv) := by
      intro kds
      induction kds with
      | nil => intro kvs r; cases r; exact .nil
      | cons p kds ih =>
        intro kvs r
        cases r with
        | @cons j v' vs d' _ h t =>
          simp only [List.map_cons]
          by_cases e : j = k
          · rw [if_pos e, if_pos e]; exact .cons hv (ih t)
          · rw [if_neg e, if_neg e]; exact .cons h (ih t)
    exact all r
  · exact r.append (.cons hv .nil)

/-! ### x in y -/
def inB (x : D) (ys : List D) : Bool := ys.any fun y => y.eqv x
@[simp] def D.isIn : D → D → Option Bool
  | x, .lst ys => if (x.ok && okA ys && decide (x.dep ≤ 64)) = true then some (inB x ys) else none
  | x, .tup ys => if (x.ok && okA ys && decide (x.dep ≤ 64)) = true then some (inB x ys) else none
  | .str i, .str j => some (!(Builtin.Str.occurrences j i 0 j.length 1).isEmpty)
  | x, .dct kds => (keyD x).map fun k => (lk kds k).isSome
  | _, _ => none
@[simp] def inD := cmpD D.isIn
@[simp] def notInD := cmpD fun x y => (D.isIn x y).map (!·)
theorem in_min (d : PyData) (n : Nat) (h : d.depth ≤ 64) : min n d.depth ≤ 64 := by omega
theorem pdA_any (x : D) (hx : x.ok = true) : ∀ ys : List D, okA ys = true → ((pdA ys).any fun z => PyData.eqv z x.pd) = inB x ys
  | [], _ => rfl
  | y :: ys, h => by
    have h' : y.ok = true ∧ okA ys = true := by simpa [okA] using h
    unfold inB
    simp only [pdA, List.any_cons, eqv_pd y x h'.1 hx, pdA_any x hx ys h'.2]
    rfl
theorem opd_inG (hu : X.A.units + 100 < cLine) {op : CmpOp} {g : Bool → Bool} (hop : (op = .In ∧ g = id) ∨ (op = .NotIn ∧ g = not)) : OpD X S (compareOp op) (cmpD fun x y => (D.isIn x y).map g) := by
  intro pins s σ H x y v u Q I rx ry h
  obtain ⟨B, dx, dy, G, hx, hy, q⟩ := h
  have seq : ∀ (ys : List D) (tu : Bool) (hy' : Dp X.K H y (if tu then .tuple (pdA ys) else .list (pdA ys))) (o1 : dx.ok = true) (o2 : okA ys = true) (hd : dx.dep ≤ 64) (q : Q (.bl (g (inB dx ys))) H), wpAny (model X.prog X.w) X.A (compareOp op v u) (EP X pins σ Q) X.xe s := by
    intro ys tu hy' o1 o2 hd q
    obtain ⟨as, r1⟩ := Dp.reads I dx.pd x v (At.dp G.sub o1 hx) rx
    have c1 : PyData.canLayAll0 (pdA ys) = true := okA_pd _ o2
    have c2 : dx.pd.canLay0 = true := ok_pd _ o1
    have room : X.A.units + 1 + min (PyData.depthAll (pdA ys)) dx.pd.depth < cLine := by
      rw [dep_pd _ o1]; omega
    have fin : EP X pins σ Q (.bool (g ((pdA ys).any fun z => PyData.eqv z dx.pd))) s := by
      rw [pdA_any dx o1 ys o2]
      exact ⟨.bl _, H, I, rfl, q⟩
    cases tu with
    | true =>
      obtain ⟨bs, r2⟩ := Dp.reads I (.tuple (pdA ys)) y u hy' ry
      rcases hop with ⟨rfl, rfl⟩ | ⟨rfl, rfl⟩
      · exact SeqAt.in_tuple_reads r2 r1 c1 c2 room fin
      · exact SeqAt.notIn_tuple_reads r2 r1 c1 c2 room fin
    | false =>
      obtain ⟨bs, r2⟩ := Dp.reads I (.list (pdA ys)) y u hy' ry
      rcases hop with ⟨rfl, rfl⟩ | ⟨rfl, rfl⟩
      · exact SeqAt.in_list_reads r2 r1 c1 c2 room fin
      · exact SeqAt.notIn_list_reads r2 r1 c1 c2 room fin
  have dic : ∀ (kds : List (Key × D)) (k : Key), At X.K S B H y (.dct kds) → keyD dx = some k → Q (.bl (g (lk kds k).isSome)) H → wpAny (model X.prog X.w) X.A (compareOp op v u) (EP X pins σ Q) X.xe s := by
    intro kds k hy' e q
    obtain ⟨a, kvs, rfl, hr, r⟩ := hy'.dct
    have ex : x = kV k := keyD_at hx e
    subst ex
    obtain rfl : u = Value.ref a := ry
    have gt : DGet H a (kV k) (valV kvs k) := .inl ⟨kvs, k, hr, rfl, rfl⟩
    rw [← r.isSome] at q
    rcases hop with ⟨rfl, rfl⟩ | ⟨rfl, rfl⟩
    · exact d_in (by omega) I gt rx fun s3 I3 => ⟨.bl _, H, I3, rfl, q⟩
    · exact d_notIn (by omega) I gt rx fun s3 I3 => ⟨.bl _, H, I3, rfl, q⟩
  have q : match (D.isIn dx dy).map g with
    | some b => ∀ v B' H', Le S B H B' H' → Rp X.K B' v (.bl b) → Q v H'
    | none => False := q
  cases dy with
  | lst ys =>
    simp only [D.isIn] at q
    split at q
    · rename_i e
      split at e
      · rename_i c
        simp only [Bool.and_eq_true, decide_eq_true_eq] at c
        cases e
        exact seq ys false (At.dp (d := .lst ys) G.sub (by simpa [D.ok] using c.1.2) hy) c.1.1 c.1.2 c.2 (q _ B H G.le (.bl _))
      · cases e
    · exact q.elim
  | tup ys =>
    simp only [D.isIn] at q
    split at q
    · rename_i e
      split at e
      · rename_i c
        simp only [Bool.and_eq_true, decide_eq_true_eq] at c
        cases e
        exact seq ys true (At.dp (d := .tup ys) G.sub (by simpa [D.ok] using c.1.2) hy) c.1.1 c.1.2 c.2 (q _ B H G.le (.bl _))
      · cases e
    · exact q.elim
  | dct kds =>
    simp only [D.isIn] at q
    split at q
    · rename_i e
      cases ek : keyD dx with
      | none => rw [ek] at e; cases e
      | some k =>
        rw [ek] at e
        cases e
        exact dic kds k hy ek (q _ B H G.le (.bl _))
    · exact q.elim
  | str j =>
    cases dx with
    | str i =>
      cases hx; cases hy
      have q' := q _ B H G.le (.bl _)
      rcases hop with ⟨rfl, rfl⟩ | ⟨rfl, rfl⟩
      · exact op_in_str pins s σ H _ _ v u Q I rx ry ⟨i, j, rfl, rfl, q'⟩
      · exact op_notin_str pins s σ H _ _ v u Q I rx ry ⟨i, j, rfl, rfl, q'⟩
    | _ => exact q.elim
  | _ => cases dx <;> exact q.elim
theorem opd_in (hu : X.A.units + 100 < cLine) : OpD X S (compareOp .In) inD := by
  have h := opd_inG (X := X) (S := S) hu (op := .In) (g := id) (.inl ⟨rfl, rfl⟩)
  have e : (fun x y => (D.isIn x y).map id) = D.isIn := by funext x y; cases D.isIn x y <;> rfl
  rw [e] at h
  exact h
theorem opd_notIn (hu : X.A.units + 100 < cLine) : OpD X S (compareOp .NotIn) notInD := opd_inG hu (.inr ⟨rfl, rfl⟩)
end
end DL

set_option Elab.async false
set_option linter.all false
set_option maxRecDepth 100000
set_option maxHeartbeats 1000000
/-! DL, part d: tests, arguments, displays, calls, items, slices. -/
namespace DL
open PySem PySem.Spec PyProof.Rows L2

/-! ### tests -/
abbrev TB := DEnv → (Bool → Prop) → (Exn → Prop) → Prop
structure MonoB (t : TB) : Prop where
  r : ∀ {ρ : DEnv} {Q Q' : Bool → Prop} {E E' : Exn → Prop}, (∀ d, Q d → Q' d) → (∀ x, E x → E' x) → t ρ Q E → t ρ Q' E'
def liftT (K : PySem.W.Frag) (S : List Addr) (Ex : L2.St → XK) (t : TB) : TT := fun σ H Q => ∃ B ρ, Good S B H ∧ SlotsOk K S B H σ ρ ∧
  t ρ (fun b => ∀ B' H', Le S B H B' H' → Q b H') (ExW K S (Ex σ) B H)
structure DT (X : Cx) (S : List Addr) (Ex : L2.St → XK) (e : Expr) (t : TB) : Prop where
  pt : PT X e (liftT X.K S Ex t)
  mono : MonoB t
structure DW (X : Cx) (S : List Addr) (Ex : L2.St → XK) (e : Expr) (t : TB) : Prop where
  pw : PW X e (liftT X.K S Ex t)
  mono : MonoB t
section
variable {X : Cx} {S : List Addr} {Ex : L2.St → XK} {R : Rel} {e a b c : Expr} {t ta tb tc : T} {pos : Pos}
theorem PT.imp {e : Expr} {t t' : TT} (h : PT X e t) (k : ∀ σ H Q, t' σ H Q → t σ H Q) : PT X e t' := ⟨fun pins s σ H Q I q => h.run pins s σ H Q I (k σ H Q q)⟩
theorem PW.imp {e : Expr} {t t' : TT} (h : PW X e t) (k : ∀ σ H Q, t' σ H Q → t σ H Q) : PW X e t' := ⟨fun w pins s σ H Q I q => h.run w pins s σ H Q I (k σ H Q q)⟩
theorem DW.dt {u : TB} (h : DW X S Ex e u) : DT X S Ex e u := ⟨h.pw.pt, h.mono⟩
/-- a value that is True or False -/
@[simp] def isB (Q : Bool → Prop) : D → Prop
  | .bl b => Q b
  | _ => False
@[simp] def tIsB (t : T) : TB := fun ρ Q E => t ρ (isB Q) E
theorem tIsB.mono (m : Mono t) : MonoB (tIsB t) := ⟨fun h he q => m.r (fun d q => by cases d <;> first | exact h _ q | exact q.elim) he q⟩
/-- any value's truth -/
@[simp] def truD (Q : Bool → Prop) : D → Prop
  | .non => Q false
  | .bl b => Q b
  | .int i => Q (i != 0)
  | .str x => x.length ≤ sizeLine ∧ Q ((x.length : Int) != 0)
  | .lst xs => Q (!xs.isEmpty)
  | .tup xs => Q (!xs.isEmpty)
  | _ => False
@[simp] def tTru (t : T) : TB := fun ρ Q E => t ρ (truD Q) E
theorem truD.imp {Q Q' : Bool → Prop} (h : ∀ b, Q b → Q' b) : ∀ d, truD Q d → truD Q' d := fun d q => by
  cases d <;> first | exact h _ q | exact ⟨q.1, h _ q.2⟩ | exact q.elim
theorem tTru.mono (m : Mono t) : MonoB (tTru t) := ⟨fun h he q => m.r (truD.imp h) he q⟩
theorem dt_cmp {op : CmpOp} {r : D → D → (D → Prop) → Prop} (o : OpD X S (compareOp op) r) (hr : MonoR r) (ha : DB X S Ex a ta) (hb : DB X S Ex b tb)
    (hm : behindInMarks op b = false := by first | exact nomark _ | rfl) : DT X S Ex (.Compare a [op] [b] pos) (tIsB (tBin r ta tb)) := by
  refine ⟨PT.imp (pt_cmpR o ha.pe hb.pe hm) fun σ H Q q => ?_, tIsB.mono (tBin.mono hr ha.mono hb.mono)⟩
  obtain ⟨B, ρ, G, SO, q⟩ := q
  refine lift2 ha.mono hb.mono G SO q fun B1 H1 B2 H2 v w x y l1 r1 l2 r2 p => ⟨B2, x, y, l2.good (l1.good G), At.le r1 l2, r2, hr.r (fun d hd u B' H' l ru => ?_) p⟩
  cases d with
  | bl k => cases ru; exact ⟨k, rfl, hd B' H' ((l1.trans l2).trans l)⟩
  | _ => exact hd.elim
theorem dt_val (h : DB X S Ex e t) (he : ∀ whole, isTrue e X.env whole = (do let v ← whole; standAt e.pos; holding [v] (truthy v)) := by intro _; rfl) : DT X S Ex e (tTru t) := by
  refine ⟨PT.imp (pt_truth h.pe he) fun σ H Q q => ?_, tTru.mono h.mono⟩
  obtain ⟨B, ρ, G, SO, q⟩ := q
  refine ⟨B, ρ, G, SO, h.mono.r (fun d hd v B' H' l r => ?_) (fun _ z => z) q⟩
  have G' := l.good G
  cases d with
  | non => cases r; exact ⟨false, rfl, hd B' H' l⟩
  | bl b => cases r; exact ⟨b, rfl, hd B' H' l⟩
  | int b => cases r; exact ⟨_, rfl, hd B' H' l⟩
  | str b => cases r; exact ⟨_, ⟨hd.1, rfl⟩, hd.2 B' H' l⟩
  | lst ds =>
    obtain ⟨a, vs, rfl, h1, h2⟩ := r.lst
    refine ⟨!vs.isEmpty, .inl ⟨vs, SqL.of h1, rfl⟩, ?_⟩
    have e : vs.isEmpty = ds.isEmpty := by have := h2.length; cases vs <;> cases ds <;> simp_all
    rw [e]; exact hd B' H' l
  | tup ds =>
    obtain ⟨a, vs, rfl, h1, h2⟩ := r.tup G'.sub
    refine ⟨!vs.isEmpty, .inr (.inl ⟨vs, h1, rfl⟩), ?_⟩
    have e : vs.isEmpty = ds.isEmpty := by have := h2.length; cases vs <;> cases ds <;> simp_all
    rw [e]; exact hd B' H' l
  | _ => exact hd.elim
@[simp] def tNotT (t : TB) : TB := fun ρ Q E => t ρ (fun b => Q (!b)) E
@[simp] def tAndT (t u : TB) : TB := fun ρ Q E => t ρ (fun b => match b with | true => u ρ Q E | false => Q false) E
@[simp] def tOrT (t u : TB) : TB := fun ρ Q E => t ρ (fun b => match b with | true => Q true | false => u ρ Q E) E
theorem tNotT.mono {t : TB} (m : MonoB t) : MonoB (tNotT t) := ⟨fun h he q => m.r (fun b q => h _ q) he q⟩
theorem tAndT.mono {t u : TB} (m : MonoB t) (n : MonoB u) : MonoB (tAndT t u) := ⟨fun h he q => m.r (fun b q => by cases b <;> first | exact n.r h he q | exact h _ q) he q⟩
theorem tOrT.mono {t u : TB} (m : MonoB t) (n : MonoB u) : MonoB (tOrT t u) := ⟨fun h he q => m.r (fun b q => by cases b <;> first | exact n.r h he q | exact h _ q) he q⟩
theorem dt_not {u : TB} (h : DT X S Ex a u) : DT X S Ex (.UnaryOp .Not a pos) (tNotT u) := by
  refine ⟨PT.imp (pt_not h.pt) fun σ H Q q => ?_, tNotT.mono h.mono⟩
  obtain ⟨B, ρ, G, SO, q⟩ := q
  exact ⟨B, ρ, G, SO, q⟩
theorem dw_and1 {u : TB} (h : DT X S Ex a u) : DW X S Ex (.BoolOp .And [a] pos) u := ⟨pw_and1 h.pt, h.mono⟩
theorem dw_or1 {u : TB} (h : DT X S Ex a u) : DW X S Ex (.BoolOp .Or [a] pos) u := ⟨pw_or1 h.pt, h.mono⟩
theorem dw_and {u w : TB} {rest : List Expr} (h : DT X S Ex a u) (k : DW X S Ex (.BoolOp .And (b :: rest) pos) w) : DW X S Ex (.BoolOp .And (a :: b :: rest) pos) (tAndT u w) := by
  refine ⟨PW.imp (pw_and h.pt k.pw) fun σ H Q q => ?_, tAndT.mono h.mono k.mono⟩
  obtain ⟨B, ρ, G, SO, q⟩ := q
  refine ⟨B, ρ, G, SO, h.mono.r (fun x hx B' H' l => ?_) (fun _ z => z) q⟩
  cases x with
  | true => exact iteT ⟨B', ρ, l.good G, SO.le l, k.mono.r (fun d hd B2 H2 l2 => hd B2 H2 (l.trans l2)) (fun x z => ExW.le l x z) hx⟩
  | false => exact iteF (hx B' H' l)
theorem dw_or {u w : TB} {rest : List Expr} (h : DT X S Ex a u) (k : DW X S Ex (.BoolOp .Or (b :: rest) pos) w) : DW X S Ex (.BoolOp .Or (a :: b :: rest) pos) (tOrT u w) := by
  refine ⟨PW.imp (pw_or h.pt k.pw) fun σ H Q q => ?_, tOrT.mono h.mono k.mono⟩
  obtain ⟨B, ρ, G, SO, q⟩ := q
  refine ⟨B, ρ, G, SO, h.mono.r (fun x hx B' H' l => ?_) (fun _ z => z) q⟩
  cases x with
  | false => exact iteF ⟨B', ρ, l.good G, SO.le l, k.mono.r (fun d hd B2 H2 l2 => hd B2 H2 (l.trans l2)) (fun x z => ExW.le l x z) hx⟩
  | true => exact iteT (hx B' H' l)
/-- a < b < c -/
@[simp] def tChn (r r' : D → D → (D → Prop) → Prop) (ta tb tc : T) : T := fun ρ Q E => ta ρ (fun x => tb ρ (fun y => r x y (isB fun k => match k with
  | true => tc ρ (fun z => r' y z Q) E
  | false => Q (.bl false))) E) E
theorem isB.imp {Q Q' : Bool → Prop} (h : ∀ b, Q b → Q' b) : ∀ d, isB Q d → isB Q' d := fun d q => by
  cases d <;> first | exact h _ q | exact q.elim
theorem tChn.mono {r r' : D → D → (D → Prop) → Prop} (hr : MonoR r) (hr' : MonoR r') (ma : Mono ta) (mb : Mono tb) (mc : Mono tc) : Mono (tChn r r' ta tb tc) :=
  ⟨fun h he q => ma.r (fun x q => mb.r (fun y q => hr.r (isB.imp fun k q => by cases k <;> first | exact mc.r (fun z q => hr'.r h q) he q | exact h _ q) q) he q) he q⟩
theorem chn_pre {op op' : CmpOp} {r r' : D → D → (D → Prop) → Prop} (o : OpD X S (compareOp op) r) (o' : OpD X S (compareOp op') r') (hr : MonoR r) (hr' : MonoR r') (ha : DB X S Ex a ta) (hb : DB X S Ex b tb) (hc : DB X S Ex c tc)
    {σ : L2.St} {H : Hp} {P : D → Prop} {B : Hp} {ρ : DEnv} (G : Good S B H) (SO : SlotsOk X.K S B H σ ρ) (q : tChn r r' ta tb tc ρ P (ExW X.K S (Ex σ) B H)) {Q : V → Hp → Prop} (k : ∀ d, P d → ∀ v B' H', Le S B H B' H' → Rp X.K B' v d → Q v H') :
    tChain (fun x y H Q => ∃ B dx dy, Good S B H ∧ At X.K S B H x dx ∧ At X.K S B H y dy ∧ r dx dy fun d => ∀ v B' H', Le S B H B' H' → Rp X.K B' v d → Q v H')
      (fun x y H Q => ∃ B dx dy, Good S B H ∧ At X.K S B H x dx ∧ At X.K S B H y dy ∧ r' dx dy fun d => ∀ v B' H', Le S B H B' H' → Rp X.K B' v d → Q v H') (lift X.K S Ex (rB X.K S) ta) (lift X.K S Ex (rB X.K S) tb) (lift X.K S Ex (rB X.K S) tc) σ H Q := by
  refine lift2 ha.mono hb.mono G SO q fun B1 H1 B2 H2 v w x y l1 r1 l2 r2 p => ⟨B2, x, y, l2.good (l1.good G), At.le r1 l2, r2, hr.r (fun d hd u B3 H3 l3 ru => ?_) p⟩
  cases d with
  | bl b =>
    cases ru
    refine ⟨b, rfl, ?_⟩
    have l : Le S B H B3 H3 := (l1.trans l2).trans l3
    cases b with
    | false => exact iteF (k _ hd _ _ _ l (.bl _))
    | true =>
      refine iteT ⟨B3, ρ, l.good G, SO.le l, hc.mono.r (fun z hz w' B4 H4 l4 r4 => ?_) (fun x z => ExW.le l x z) hd⟩
      exact ⟨B4, y, z, l4.good (l.good G), At.le (At.le r2 l3) l4, r4, hr'.r (fun d hd u B5 H5 l5 ru => k d hd u B5 H5 ((l.trans l4).trans l5) ru) hz⟩
  | _ => exact hd.elim
theorem de_chain {op op' : CmpOp} {r r' : D → D → (D → Prop) → Prop} (o : OpD X S (compareOp op) r) (o' : OpD X S (compareOp op') r') (hr : MonoR r) (hr' : MonoR r') (ha : DB X S Ex a ta) (hb : DB X S Ex b tb) (hc : DB X S Ex c tc)
    (hm : lastMarks [op, op'] [b, c] = false := by with_unfolding_all rfl) : DE X S Ex (.Compare a [op, op'] [b, c] pos) (tChn r r' ta tb tc) :=
  ⟨PE.imp (pe_chain o o' ha.pe hb.pe hc.pe hm) (lift.one fun σ B ρ H Q G SO q => chn_pre o o' hr hr' ha hb hc G SO q fun d hd => hd), tChn.mono hr hr' ha.mono hb.mono hc.mono⟩
theorem dt_chain {op op' : CmpOp} {r r' : D → D → (D → Prop) → Prop} (o : OpD X S (compareOp op) r) (o' : OpD X S (compareOp op') r') (hr : MonoR r) (hr' : MonoR r') (ha : DB X S Ex a ta) (hb : DB X S Ex b tb) (hc : DB X S Ex c tc)
    (hm : lastMarks [op, op'] [b, c] = false := by with_unfolding_all rfl) : DT X S Ex (.Compare a [op, op'] [b, c] pos) (tIsB (tChn r r' ta tb tc)) := by
  refine ⟨PT.imp (pt_chain o o' ha.pe hb.pe hc.pe hm) fun σ H Q q => ?_, tIsB.mono (tChn.mono hr hr' ha.mono hb.mono hc.mono)⟩
  obtain ⟨B, ρ, G, SO, q⟩ := q
  refine chn_pre o o' hr hr' ha hb hc G SO q fun d hd v B' H' l rv => ?_
  cases d with
  | bl k => cases rv; exact ⟨k, rfl, hd B' H' l⟩
  | _ => exact hd.elim

/-! ### by cases -/
@[simp] def tIte (u : TB) (ta tb : T) : T := fun ρ Q E => u ρ (fun k => match k with | true => ta ρ Q E | false => tb ρ Q E) E
theorem tIte.mono {u : TB} (m : MonoB u) (ma : Mono ta) (mb : Mono tb) : Mono (tIte u ta tb) := ⟨fun h he q => m.r (fun k q => by cases k <;> first | exact mb.r h he q | exact ma.r h he q) he q⟩
theorem Mono.fwd {K : PySem.W.Frag} {B H B' H' : Hp} {σ : L2.St} {ρ : DEnv} {Q : D → Hp → Hp → Prop} {R : Hp → Hp → V → D → Prop} {q : V → Hp → Prop} (m : Mono t) (G : Good S B H) (SO : SlotsOk K S B H σ ρ) (l : Le S B H B' H')
    (h : t ρ (fun d => ∀ v B2 H2, Le S B H B2 H2 → R B2 H2 v d → q v H2) (ExW K S (Ex σ) B H)) : t ρ (fun d => ∀ v B2 H2, Le S B' H' B2 H2 → R B2 H2 v d → q v H2) (ExW K S (Ex σ) B' H') :=
  m.r (fun d hd v B2 H2 l2 r => hd v B2 H2 (l.trans l2) r) (fun x z => ExW.le l x z) h
theorem de_if {u : TB} (hc : DT X S Ex c u) (ha : DE X S Ex a ta) (hb : DE X S Ex b tb) : DE X S Ex (.IfExp c a b pos) (tIte u ta tb) := by
  refine ⟨PE.imp (pe_ifExp hc.pt ha.pe hb.pe) (lift.one fun σ B ρ H Q G SO q => ?_), tIte.mono hc.mono ha.mono hb.mono⟩
  refine ⟨B, ρ, G, SO, hc.mono.r (fun x hx B' H' l => ?_) (fun _ z => z) q⟩
  cases x with
  | true => exact iteT ⟨B', ρ, l.good G, SO.le l, ha.mono.r (fun d hd v B2 H2 l2 r => hd v B2 H2 (l.trans l2) r) (fun x z => ExW.le l x z) hx⟩
  | false => exact iteF ⟨B', ρ, l.good G, SO.le l, hb.mono.r (fun d hd v B2 H2 l2 r => hd v B2 H2 (l.trans l2) r) (fun x z => ExW.le l x z) hx⟩
@[simp] def tAndE (ta tb : T) : T := fun ρ Q E => ta ρ (isB fun k => match k with | true => tb ρ Q E | false => Q (.bl false)) E
@[simp] def tOrE (ta tb : T) : T := fun ρ Q E => ta ρ (isB fun k => match k with | true => Q (.bl true) | false => tb ρ Q E) E
@[simp] def tNotE (ta : T) : T := fun ρ Q E => ta ρ (isB fun k => Q (.bl (!k))) E
theorem tAndE.mono (ma : Mono ta) (mb : Mono tb) : Mono (tAndE ta tb) := ⟨fun h he q => ma.r (isB.imp fun k q => by cases k <;> first | exact h _ q | exact mb.r h he q) he q⟩
theorem tOrE.mono (ma : Mono ta) (mb : Mono tb) : Mono (tOrE ta tb) := ⟨fun h he q => ma.r (isB.imp fun k q => by cases k <;> first | exact h _ q | exact mb.r h he q) he q⟩
theorem tNotE.mono (ma : Mono ta) : Mono (tNotE ta) := ⟨fun h he q => ma.r (isB.imp fun k q => h _ q) he q⟩
theorem de_one {op : BoolOp} (h : DE X S Ex a ta) : DE X S Ex (.BoolOp op [a] pos) ta := ⟨pe_one h.pe, h.mono⟩
theorem de_and {rest : List Expr} (ha : DE X S Ex a ta) (hb : DE X S Ex (.BoolOp .And (b :: rest) pos) tb) : DE X S Ex (.BoolOp .And (a :: b :: rest) pos) (tAndE ta tb) := by
  refine ⟨PE.imp (pe_and ha.pe hb.pe) (lift.one fun σ B ρ H Q G SO q => ?_), tAndE.mono ha.mono hb.mono⟩
  refine ⟨B, ρ, G, SO, ha.mono.r (fun x hx v B' H' l r => ?_) (fun _ z => z) q⟩
  cases x with
  | bl k =>
    cases r
    refine ⟨k, rfl, ?_⟩
    cases k with
    | true => exact iteT ⟨B', ρ, l.good G, SO.le l, hb.mono.r (fun d hd v B2 H2 l2 r => hd v B2 H2 (l.trans l2) r) (fun x z => ExW.le l x z) hx⟩
    | false => exact iteF (hx _ _ _ l (.bl _))
  | _ => exact hx.elim
theorem de_or {rest : List Expr} (ha : DE X S Ex a ta) (hb : DE X S Ex (.BoolOp .Or (b :: rest) pos) tb) : DE X S Ex (.BoolOp .Or (a :: b :: rest) pos) (tOrE ta tb) := by
  refine ⟨PE.imp (pe_or ha.pe hb.pe) (lift.one fun σ B ρ H Q G SO q => ?_), tOrE.mono ha.mono hb.mono⟩
  refine ⟨B, ρ, G, SO, ha.mono.r (fun x hx v B' H' l r => ?_) (fun _ z => z) q⟩
  cases x with
  | bl k =>
    cases r
    refine ⟨k, rfl, ?_⟩
    cases k with
    | false => exact iteF ⟨B', ρ, l.good G, SO.le l, hb.mono.r (fun d hd v B2 H2 l2 r => hd v B2 H2 (l.trans l2) r) (fun x z => ExW.le l x z) hx⟩
    | true => exact iteT (hx _ _ _ l (.bl _))
  | _ => exact hx.elim
theorem de_not (ha : DE X S Ex a ta) : DE X S Ex (.UnaryOp .Not a pos) (tNotE ta) := by
  refine ⟨PE.imp (pe_not ha.pe) (lift.one fun σ B ρ H Q G SO q => ?_), tNotE.mono ha.mono⟩
  refine ⟨B, ρ, G, SO, ha.mono.r (fun x hx v B' H' l r => ?_) (fun _ z => z) q⟩
  cases x with
  | bl k => cases r; exact ⟨k, rfl, hx _ _ _ l (.bl _)⟩
  | _ => exact hx.elim
@[simp] def negD (Q : D → Prop) : D → Prop
  | .int i => Q (.int (-i))
  | _ => False
theorem de_neg (ha : DE X S Ex a ta) : DE X S Ex (.UnaryOp .USub a pos) (fun ρ Q E => ta ρ (negD Q) E) := by
  have hm : ∀ {Q Q' : D → Prop}, (∀ d, Q d → Q' d) → ∀ d, negD Q d → negD Q' d := fun h d q => by cases d <;> first | exact h _ q | exact q.elim
  refine ⟨PE.imp (pe_un un_neg ha.pe) (lift.one fun σ B ρ H Q G SO q => ?_), ⟨fun h he q => ha.mono.r (hm h) he q⟩⟩
  refine ⟨B, ρ, G, SO, ha.mono.r (fun x hx v B' H' l r => ?_) (fun _ z => z) q⟩
  cases x with
  | int k => cases r; exact ⟨k, rfl, hx _ _ _ l (.int _)⟩
  | _ => exact hx.elim
end
end DL

set_option Elab.async false
set_option linter.all false
set_option maxRecDepth 100000
set_option maxHeartbeats 1000000
/-! DL, part e: arguments, displays, calls, items, slices. -/
namespace DL
open PySem PySem.Spec PyProof.Rows L2

/-! ### arguments -/
abbrev TAd := DEnv → (List D → Prop) → (Exn → Prop) → Prop
structure MonoA (t : TAd) : Prop where
  r : ∀ {ρ : DEnv} {Q Q' : List D → Prop} {E E' : Exn → Prop}, (∀ d, Q d → Q' d) → (∀ x, E x → E' x) → t ρ Q E → t ρ Q' E'
/-- values to be read at once -/
inductive AtA (K : PySem.W.Frag) (S : List Addr) (B H : Hp) : List V → List D → Prop where
  | nil : AtA K S B H [] []
  | cons {v : V} {vs : List V} {d : D} {ds : List D} : At K S B H v d → AtA K S B H vs ds → AtA K S B H (v :: vs) (d :: ds)
theorem AtA.le {K : PySem.W.Frag} {S : List Addr} {B H B' H' : Hp} (l : Le S B H B' H') : ∀ {ds : List D} {vs : List V}, AtA K S B H vs ds → AtA K S B' H' vs ds
  | [], _, .nil => .nil
  | _ :: _, _, .cons h t => .cons (h.le l) (AtA.le l t)
theorem RpA.atA {K : PySem.W.Frag} {S : List Addr} {B H : Hp} (g : Good S B H) : ∀ {ds : List D} {vs : List V}, RpA K B vs ds → AtA K S B H vs ds
  | [], _, .nil => .nil
  | _ :: _, _, .cons h t => .cons (h.at g) (RpA.atA g t)
abbrev RelA := Hp → Hp → List V → List D → Prop
def raP (K : PySem.W.Frag) : RelA := fun B' _ vs ds => RpA K B' vs ds
def raB (K : PySem.W.Frag) (S : List Addr) : RelA := fun B' H' vs ds => AtA K S B' H' vs ds
def liftA (K : PySem.W.Frag) (S : List Addr) (Ex : L2.St → XK) (R : RelA) (t : TAd) : TA := fun σ H Q => ∃ B ρ, Good S B H ∧ SlotsOk K S B H σ ρ ∧
  t ρ (fun ds => ∀ vs B' H', Le S B H B' H' → R B' H' vs ds → Q vs H') (ExW K S (Ex σ) B H)
structure DAR (X : Cx) (S : List Addr) (Ex : L2.St → XK) (R : RelA) (es : List Expr) (t : TAd) : Prop where
  pa : PA X es (liftA X.K S Ex R t)
  mono : MonoA t
abbrev DA (X : Cx) (S : List Addr) (Ex : L2.St → XK) (es : List Expr) (t : TAd) : Prop := DAR X S Ex (raP X.K) es t
abbrev DAB (X : Cx) (S : List Addr) (Ex : L2.St → XK) (es : List Expr) (t : TAd) : Prop := DAR X S Ex (raB X.K S) es t
@[simp] def tN : TAd := fun _ Q _ => Q []
@[simp] def tCs (ta : T) (tr : TAd) : TAd := fun ρ Q E => ta ρ (fun x => tr ρ (fun xs => Q (x :: xs)) E) E
theorem tCs.mono {ta : T} {tr : TAd} (ma : Mono ta) (mr : MonoA tr) : MonoA (tCs ta tr) := ⟨fun h he q => ma.r (fun x q => mr.r (fun xs q => h _ q) he q) he q⟩
section
variable {X : Cx} {S : List Addr} {Ex : L2.St → XK} {e a b c : Expr} {es : List Expr} {t ta tb tc : T} {tr : TAd} {pos p : Pos}
theorem PA.imp {es : List Expr} {t t' : TA} (h : PA X es t) (k : ∀ σ H Q, t' σ H Q → t σ H Q) : PA X es t' := ⟨fun po pins s σ H Q I q => h.run po pins s σ H Q I (k σ H Q q)⟩
theorem da_nil : DA X S Ex [] tN := ⟨PA.imp pa_nil fun σ H Q ⟨B, ρ, G, SO, q⟩ => q [] B H G.le .nil, ⟨fun h _ q => h _ q⟩⟩
theorem dab_nil : DAB X S Ex [] tN := ⟨PA.imp pa_nil fun σ H Q ⟨B, ρ, G, SO, q⟩ => q [] B H G.le .nil, ⟨fun h _ q => h _ q⟩⟩
theorem da_cons (h : DE X S Ex e t) (k : DA X S Ex es tr) (hs : starEach (e :: es) X.env = (false, eval e X.env) :: starEach es X.env := by rfl) : DA X S Ex (e :: es) (tCs t tr) := by
  refine ⟨PA.imp (pa_cons h.pe k.pa hs) fun σ H Q ⟨B, ρ, G, SO, q⟩ => ?_, tCs.mono h.mono k.mono⟩
  exact ⟨B, ρ, G, SO, h.mono.r (fun x hx v B1 H1 l1 r1 => ⟨B1, ρ, l1.good G, SO.le l1, k.mono.r (fun xs hxs vs B2 H2 l2 r2 => hxs (v :: vs) B2 H2 (l1.trans l2) (.cons (Rp.mono l2.base r1) r2)) (fun x z => ExW.le l1 x z) hx⟩) (fun _ z => z) q⟩
theorem dab_cons (h : DB X S Ex e t) (k : DAB X S Ex es tr) (hs : starEach (e :: es) X.env = (false, eval e X.env) :: starEach es X.env := by rfl) : DAB X S Ex (e :: es) (tCs t tr) := by
  refine ⟨PA.imp (pa_cons h.pe k.pa hs) fun σ H Q ⟨B, ρ, G, SO, q⟩ => ?_, tCs.mono h.mono k.mono⟩
  exact ⟨B, ρ, G, SO, h.mono.r (fun x hx v B1 H1 l1 r1 => ⟨B1, ρ, l1.good G, SO.le l1, k.mono.r (fun xs hxs vs B2 H2 l2 r2 => hxs (v :: vs) B2 H2 (l1.trans l2) (.cons (At.le r1 l2) r2)) (fun x z => ExW.le l1 x z) hx⟩) (fun _ z => z) q⟩

/-! ### displays -/
@[simp] def tTupD (tr : TAd) : T := fun ρ Q E => tr ρ (fun ds => ds.length ≤ sizeLine ∧ Q (.tup ds)) E
@[simp] def tLstD (tr : TAd) : T := fun ρ Q E => tr ρ (fun ds => ds.length ≤ sizeLine ∧ Q (.lst ds)) E
theorem tTupD.mono (m : MonoA tr) : Mono (tTupD tr) := ⟨fun h he q => m.r (fun ds q => ⟨q.1, h _ q.2⟩) he q⟩
theorem tLstD.mono (m : MonoA tr) : Mono (tLstD tr) := ⟨fun h he q => m.r (fun ds q => ⟨q.1, h _ q.2⟩) he q⟩
theorem de_tup {x1} (h : DA X S Ex es tr) : DE X S Ex (.Tuple es x1 pos) (tTupD tr) := by
  refine ⟨PE.imp (pe_tup h.pa) (lift.one fun σ B ρ H Q G SO q => ?_), tTupD.mono h.mono⟩
  refine ⟨B, ρ, G, SO, h.mono.r (fun ds hd vs B' H' l r => ⟨by rw [RpA.length r]; exact hd.1, fun p hp => ?_⟩) (fun _ z => z) q⟩
  have G' := l.good G
  exact hd.2 _ _ _ (l.trans (Le.laid G' hp)) (.tup (.inl upd_same) (by rw [RpA.length r]; exact hd.1) (RpA.mono (fun b u z => by rw [upd_ne (ne_of_none z (G'.bnone hp))]; exact z) r))
theorem df_lst (h : DA X S Ex es tr) : DF X S Ex (.List es pos) (tLstD tr) := by
  refine ⟨PE.imp (pe_lst h.pa) (lift.one fun σ B ρ H Q G SO q => ?_), tLstD.mono h.mono⟩
  refine ⟨B, ρ, G, SO, h.mono.r (fun ds hd vs B' H' l r => ⟨by rw [RpA.length r]; exact hd.1, fun p hp => ?_⟩) (fun _ z => z) q⟩
  have G' := l.good G
  have hH : H p = none := by
    cases e : H p with
    | none => rfl
    | some u =>
      by_cases hs : p ∈ S
      · obtain ⟨x, y, z, q, _⟩ := l.src p hs
        rw [q] at hp; cases hp
      · rw [l.heap p u e hs] at hp; cases hp
  exact hd.2 _ B' _ (l.trans (Le.beside G' hp)) ⟨p, rfl, hH, G'.bnone hp, vs, upd_same, by rw [RpA.length r]; exact hd.1, r⟩
theorem Le.old {B H B' H' : Hp} (l : Le S B H B' H') {p : Addr} (hp : H' p = none) : H p = none := by
  cases e : H p with
  | none => rfl
  | some u =>
    by_cases hs : p ∈ S
    · obtain ⟨x, y, z, q, _⟩ := l.src p hs
      rw [q] at hp; cases hp
    · rw [l.heap p u e hs] at hp; cases hp

/-! ### calls of built-ins -/
/-- a call of a known value, over data -/
def CallD (X : Cx) (S : List Addr) (f : Value) (R : Rel) (r : List D → (D → Prop) → Prop) : Prop :=
  CallR X f fun xs H Q => ∃ B ds, Good S B H ∧ AtA X.K S B H xs ds ∧ r ds fun d => ∀ v B' H', Le S B H B' H' → R H B' H' v d → Q v H'
theorem CallR.imp {f : Value} {r r' : List V → Hp → VK → Prop} (h : CallR X f r) (k : ∀ xs H Q, r' xs H Q → r xs H Q) : CallR X f r' := fun pins s σ H xs us Q I rx q => h pins s σ H xs us Q I rx (k _ _ _ q)
structure MonoL (r : List D → (D → Prop) → Prop) : Prop where
  r : ∀ {ds : List D} {Q Q' : D → Prop}, (∀ d, Q d → Q' d) → r ds Q → r ds Q'
@[simp] def tCl (r : List D → (D → Prop) → Prop) (tr : TAd) : T := fun ρ Q E => tr ρ (fun ds => r ds Q) E
theorem tCl.mono {r : List D → (D → Prop) → Prop} (hr : MonoL r) (m : MonoA tr) : Mono (tCl r tr) := ⟨fun h he q => m.r (fun ds q => hr.r h q) he q⟩
/-- a relation of results that stands when the old world is put back -/
structure RelBack (S : List Addr) (R : Rel) : Prop where
  r : ∀ {B H B1 H1 B' H' : Hp} {v : V} {d : D}, Le S B H B1 H1 → R H1 B' H' v d → R H B' H' v d
theorem back_P {K : PySem.W.Frag} : RelBack S (rP K) := ⟨fun _ h => h⟩
theorem back_B {K : PySem.W.Frag} : RelBack S (rB K S) := ⟨fun _ h => h⟩
theorem back_F {K : PySem.W.Frag} : RelBack S (rF K) := ⟨fun l ⟨p, e, h, r⟩ => ⟨p, e, l.old h, r⟩⟩
theorem dr_callB {R : Rel} (bk : RelBack S R) {x : Str} {id : String} {r : List D → (D → Prop) → Prop} (o : CallD X S (.builtin id) R r) (hr : MonoL r) (hg : Gl X x) (hm : X.mg x = none) (hv : bootBuiltins x = some (.builtin id)) (h : DAB X S Ex (e :: es) tr) (hn : x ≠ "__name__" := by decide) (hdb : (x == ("__debug__" : Str)) = false := by decide)
    (he : starEach (e :: es) X.env = (false, eval e X.env) :: starEach es X.env := by rfl) (hpl : (backTo pos (starEach es X.env)).any (·.1) = false := by rfl) : DR X S Ex R (.Call (.Name x p) (e :: es) [] pos) (tCl r tr) := by
  refine ⟨PE.imp (pe_callB o hg hm hv h.pa hn hdb he hpl) (lift.one fun σ B ρ H Q G SO q => ?_), tCl.mono hr h.mono⟩
  exact ⟨B, ρ, G, SO, h.mono.r (fun ds hd vs B' H' l a => ⟨B', ds, l.good G, a, hr.r (fun d hd v B2 H2 l2 r2 => hd v B2 H2 (l.trans l2) (bk.r l r2)) hd⟩) (fun _ z => z) q⟩
theorem dr_callT {R : Rel} (bk : RelBack S R) {x : Str} {id : String} {r : List D → (D → Prop) → Prop} (o : CallD X S (.type id) R r) (hr : MonoL r) (hg : Gl X x) (hm : X.mg x = none) (hv : bootBuiltins x = some (.type id)) (h : DAB X S Ex (e :: es) tr) (hn : x ≠ "__name__" := by decide) (hdb : (x == ("__debug__" : Str)) = false := by decide)
    (he : starEach (e :: es) X.env = (false, eval e X.env) :: starEach es X.env := by rfl) (hpl : (backTo pos (starEach es X.env)).any (·.1) = false := by rfl) : DR X S Ex R (.Call (.Name x p) (e :: es) [] pos) (tCl r tr) := by
  refine ⟨PE.imp (pe_callTy o hg hm hv h.pa hn hdb he hpl) (lift.one fun σ B ρ H Q G SO q => ?_), tCl.mono hr h.mono⟩
  exact ⟨B, ρ, G, SO, h.mono.r (fun ds hd vs B' H' l a => ⟨B', ds, l.good G, a, hr.r (fun d hd v B2 H2 l2 r2 => hd v B2 H2 (l.trans l2) (bk.r l r2)) hd⟩) (fun _ z => z) q⟩

@[simp] def lenD : List D → (D → Prop) → Prop
  | [.lst xs], Q => Q (.int xs.length)
  | [.tup xs], Q => Q (.int xs.length)
  | [.dct xs], Q => Q (.int xs.length)
  | [.str x], Q => x.length ≤ sizeLine ∧ Q (.int x.length)
  | _, _ => False
theorem lenD.mono : MonoL lenD := ⟨fun {ds Q Q'} h q => by
  unfold lenD at *
  split at q <;> first | exact h _ q | exact ⟨q.1, h _ q.2⟩ | exact q.elim⟩
theorem call_lenR : CallR X (.builtin "len") (fun xs H Q => ∃ a kvs, xs = [.ref a] ∧ Rd H a (.dK kvs) ∧ Q (.int kvs.length) H) := by
  intro pins s σ H xs us Q I r h
  obtain ⟨a, kvs, rfl, e, q⟩ := h
  obtain ⟨u, rfl, ru⟩ := vals1 r
  obtain rfl : u = Value.ref a := ru
  exact d_len I e fun t s' I' => ⟨.int kvs.length, H, I', ⟨t, rfl⟩, q⟩
theorem cd_len : CallD X S (.builtin "len") (rP X.K) lenD := CallR.imp (call_len.or call_lenR) fun xs H Q h => by
  obtain ⟨B, ds, G, ha, q⟩ := h
  unfold lenD at q
  split at q
  · rename_i ds'
    cases ha with | cons h1 h2 => cases h2; obtain ⟨a, vs, rfl, e, r⟩ := h1.lst; exact .inl ⟨_, _, rfl, .inl ⟨vs, SqL.of e, rfl⟩, by rw [r.length]; exact q _ B H G.le (.int _)⟩
  · rename_i ds'
    cases ha with | cons h1 h2 => cases h2; obtain ⟨a, vs, rfl, e, r⟩ := h1.tup G.sub; exact .inl ⟨_, _, rfl, .inr ⟨vs, e, rfl⟩, by rw [r.length]; exact q _ B H G.le (.int _)⟩
  · rename_i ds'
    cases ha with | cons h1 h2 => cases h2; obtain ⟨a, vs, rfl, e, r⟩ := h1.dct; exact .inr ⟨a, vs, rfl, e, by rw [r.length]; exact q _ B H G.le (.int _)⟩
  · rename_i x
    cases ha with | cons h1 h2 => cases h2; cases h1; exact .inl ⟨_, _, rfl, ⟨q.1, rfl⟩, q.2 _ B H G.le (.int _)⟩
  · exact q.elim

end

/-! ### lists of one kind -/
def mxI (i j : Int) : Int := if j > i then j else i
def mnI (i j : Int) : Int := if j < i then j else i
def bI (b : Bool) : Int := if b then 1 else 0
def blsOf : List D → Option (List Bool)
  | [] => some []
  | .bl b :: r => (blsOf r).map (b :: ·)
  | _ => none
def intsOf : List D → Option (List Int)
  | [] => some []
  | .int b :: r => (intsOf r).map (b :: ·)
  | _ => none
def strsOf : List D → Option (List Str)
  | [] => some []
  | .str b :: r => (strsOf r).map (b :: ·)
  | _ => none
theorem blsOf_map (bs : List Bool) : blsOf (bs.map D.bl) = some bs := by
  induction bs with
  | nil => rfl
  | cons b bs ih => simp [blsOf, ih]
theorem intsOf_map (bs : List Int) : intsOf (bs.map D.int) = some bs := by
  induction bs with
  | nil => rfl
  | cons b bs ih => simp [intsOf, ih]
theorem strsOf_map (bs : List Str) : strsOf (bs.map D.str) = some bs := by
  induction bs with
  | nil => rfl
  | cons b bs ih => simp [strsOf, ih]
theorem blsOf_rp {K : PySem.W.Frag} {B : Hp} : ∀ {ds : List D} {vs : List V} {bs : List Bool}, blsOf ds = some bs → RpA K B vs ds → vs = bs.map V.bl
  | [], _, bs, e, .nil => by cases e; rfl
  | d :: ds, _, bs, e, .cons h t => by
    cases d with
    | bl b =>
      have e' : (blsOf ds).map (b :: ·) = some bs := e
      obtain ⟨cs, e2, rfl⟩ := Option.map_eq_some_iff.mp e'
      cases h
      rw [blsOf_rp e2 t]; rfl
    | _ => cases e
theorem intsOf_rp {K : PySem.W.Frag} {B : Hp} : ∀ {ds : List D} {vs : List V} {bs : List Int}, intsOf ds = some bs → RpA K B vs ds → vs = bs.map V.int
  | [], _, bs, e, .nil => by cases e; rfl
  | d :: ds, _, bs, e, .cons h t => by
    cases d with
    | int b =>
      have e' : (intsOf ds).map (b :: ·) = some bs := e
      obtain ⟨cs, e2, rfl⟩ := Option.map_eq_some_iff.mp e'
      cases h
      rw [intsOf_rp e2 t]; rfl
    | _ => cases e
theorem strsOf_rp {K : PySem.W.Frag} {B : Hp} : ∀ {ds : List D} {vs : List V} {bs : List Str}, strsOf ds = some bs → RpA K B vs ds → vs = bs.map V.str
  | [], _, bs, e, .nil => by cases e; rfl
  | d :: ds, _, bs, e, .cons h t => by
    cases d with
    | str b =>
      have e' : (strsOf ds).map (b :: ·) = some bs := e
      obtain ⟨cs, e2, rfl⟩ := Option.map_eq_some_iff.mp e'
      cases h
      rw [strsOf_rp e2 t]; rfl
    | _ => cases e
theorem rpA_strs {K : PySem.W.Frag} {B : Hp} : ∀ xs : List Str, RpA K B (xs.map V.str) (xs.map D.str)
  | [] => .nil
  | _ :: r => .cons (.str _) (rpA_strs r)
theorem rpA_ints {K : PySem.W.Frag} {B : Hp} : ∀ xs : List Int, RpA K B (xs.map V.int) (xs.map D.int)
  | [] => .nil
  | _ :: r => .cons (.int _) (rpA_ints r)

section
variable {X : Cx} {S : List Addr} {Ex : L2.St → XK}
@[simp] def allD : List D → (D → Prop) → Prop
  | [.lst xs], Q => match blsOf xs with
    | some bs => Q (.bl (bs.all id))
    | none => False
  | _, _ => False
@[simp] def anyD : List D → (D → Prop) → Prop
  | [.lst xs], Q => match blsOf xs with
    | some bs => Q (.bl (bs.any id))
    | none => False
  | _, _ => False
@[simp] def sumD : List D → (D → Prop) → Prop
  | [.lst xs], Q => match intsOf xs with
    | some bs => Q (.int bs.sum)
    | none => False
  | _, _ => False
def maxD : List D → (D → Prop) → Prop
  | [.lst xs], Q => match intsOf xs with
    | some bs => 0 < bs.length ∧ ∀ m, m ∈ bs → (∀ y, y ∈ bs → y ≤ m) → Q (.int m)
    | none => False
  | [.int i, .int j], Q => Q (.int (mxI i j))
  | _, _ => False
def minD : List D → (D → Prop) → Prop
  | [.lst xs], Q => match intsOf xs with
    | some bs => 0 < bs.length ∧ ∀ m, m ∈ bs → (∀ y, y ∈ bs → m ≤ y) → Q (.int m)
    | none => False
  | [.int i, .int j], Q => Q (.int (mnI i j))
  | _, _ => False
theorem allD.mono : MonoL allD := ⟨fun {ds Q Q'} h q => by unfold allD at *; (repeat' (split at q)) <;> first | exact q.elim | exact h _ q | exact ⟨q.1, fun m h1 h2 => h _ (q.2 m h1 h2)⟩ | exact ⟨q.1, h _ q.2⟩⟩
theorem anyD.mono : MonoL anyD := ⟨fun {ds Q Q'} h q => by unfold anyD at *; (repeat' (split at q)) <;> first | exact q.elim | exact h _ q | exact ⟨q.1, fun m h1 h2 => h _ (q.2 m h1 h2)⟩ | exact ⟨q.1, h _ q.2⟩⟩
theorem sumD.mono : MonoL sumD := ⟨fun {ds Q Q'} h q => by unfold sumD at *; (repeat' (split at q)) <;> first | exact q.elim | exact h _ q | exact ⟨q.1, fun m h1 h2 => h _ (q.2 m h1 h2)⟩ | exact ⟨q.1, h _ q.2⟩⟩
theorem maxD.mono : MonoL maxD := ⟨fun {ds Q Q'} h q => by unfold maxD at *; (repeat' (split at q)) <;> first | exact q.elim | exact h _ q | exact ⟨q.1, fun m h1 h2 => h _ (q.2 m h1 h2)⟩ | exact ⟨q.1, h _ q.2⟩⟩
theorem minD.mono : MonoL minD := ⟨fun {ds Q Q'} h q => by unfold minD at *; (repeat' (split at q)) <;> first | exact q.elim | exact h _ q | exact ⟨q.1, fun m h1 h2 => h _ (q.2 m h1 h2)⟩ | exact ⟨q.1, h _ q.2⟩⟩
theorem one_lst {K : PySem.W.Frag} {B H : Hp} {xs : List V} {ds : List D} (h : AtA K S B H xs [.lst ds]) : ∃ a vs, xs = [.ref a] ∧ H a = some (.lst vs) ∧ RpA K B vs ds := by
  cases h with | cons h1 h2 => cases h2; obtain ⟨a, vs, rfl, e, r⟩ := h1.lst; exact ⟨a, vs, rfl, e, r⟩
theorem cd_all (hc : X.calm = true) : CallD X S (.builtin "all") (rP X.K) allD := CallR.imp (cr_all hc) fun xs H Q h => by
  obtain ⟨B, ds, G, ha, q⟩ := h
  unfold allD at q
  split at q
  · rename_i ds'
    obtain ⟨a, vs, rfl, e, r⟩ := one_lst ha
    split at q
    · rename_i bs hb
      rw [blsOf_rp hb r] at e
      exact ⟨a, bs, rfl, SqL.of e, q _ B H G.le (.bl _)⟩
    · exact q.elim
  · exact q.elim
theorem cd_any (hc : X.calm = true) : CallD X S (.builtin "any") (rP X.K) anyD := CallR.imp (cr_any hc) fun xs H Q h => by
  obtain ⟨B, ds, G, ha, q⟩ := h
  unfold anyD at q
  split at q
  · rename_i ds'
    obtain ⟨a, vs, rfl, e, r⟩ := one_lst ha
    split at q
    · rename_i bs hb
      rw [blsOf_rp hb r] at e
      exact ⟨a, bs, rfl, SqL.of e, q _ B H G.le (.bl _)⟩
    · exact q.elim
  · exact q.elim
theorem cd_sum (hc : X.calm = true) : CallD X S (.builtin "sum") (rP X.K) sumD := CallR.imp (cr_sum hc) fun xs H Q h => by
  obtain ⟨B, ds, G, ha, q⟩ := h
  unfold sumD at q
  split at q
  · rename_i ds'
    obtain ⟨a, vs, rfl, e, r⟩ := one_lst ha
    split at q
    · rename_i bs hb
      rw [intsOf_rp hb r] at e
      exact ⟨a, bs, rfl, SqL.of e, q _ B H G.le (.int _)⟩
    · exact q.elim
  · exact q.elim
theorem cd_max (hc : X.calm = true) : CallD X S (.builtin "max") (rP X.K) maxD := CallR.imp ((cr_max hc).or (call_max2 hc)) fun xs H Q h => by
  obtain ⟨B, ds, G, ha, q⟩ := h
  unfold maxD at q
  split at q
  · rename_i ds'
    obtain ⟨a, vs, rfl, e, r⟩ := one_lst ha
    split at q
    · rename_i bs hb
      rw [intsOf_rp hb r] at e
      exact .inl ⟨a, bs, rfl, SqL.of e, q.1, fun m h1 h2 => q.2 m h1 h2 _ B H G.le (.int _)⟩
    · exact q.elim
  · rename_i i j
    cases ha with | cons h1 h2 => cases h2 with | cons h2 h3 => cases h3; cases h1; cases h2; exact .inr ⟨i, j, rfl, q _ B H G.le (.int _)⟩
  · exact q.elim
theorem cd_min (hc : X.calm = true) : CallD X S (.builtin "min") (rP X.K) minD := CallR.imp ((cr_min hc).or (call_min2 hc)) fun xs H Q h => by
  obtain ⟨B, ds, G, ha, q⟩ := h
  unfold minD at q
  split at q
  · rename_i ds'
    obtain ⟨a, vs, rfl, e, r⟩ := one_lst ha
    split at q
    · rename_i bs hb
      rw [intsOf_rp hb r] at e
      exact .inl ⟨a, bs, rfl, SqL.of e, q.1, fun m h1 h2 => q.2 m h1 h2 _ B H G.le (.int _)⟩
    · exact q.elim
  · rename_i i j
    cases ha with | cons h1 h2 => cases h2 with | cons h2 h3 => cases h3; cases h1; cases h2; exact .inr ⟨i, j, rfl, q _ B H G.le (.int _)⟩
  · exact q.elim
/-- sorted of texts, of numbers: a new list -/
def sortD : List D → (D → Prop) → Prop
  | [.lst xs], Q => match strsOf xs with
    | some ss => ss.length < 64 ∧ ∀ ys : List Str, ys.Perm ss → sortedS ys = true → Q (.lst (ys.map D.str))
    | none => match intsOf xs with
      | some ns => ns.length < 64 ∧ ∀ ms : List Int, ms.Perm ns → ms.Pairwise (· ≤ ·) → Q (.lst (ms.map D.int))
      | none => False
  | _, _ => False
theorem sortD.mono : MonoL sortD := ⟨fun {ds Q Q'} h q => by unfold sortD at *; (repeat' (split at q)) <;> first | exact q.elim | exact h _ q | exact ⟨q.1, fun m h1 h2 => h _ (q.2 m h1 h2)⟩ | exact ⟨q.1, h _ q.2⟩⟩
theorem cd_sorted : CallD X S (.builtin "sorted") (rF X.K) sortD := CallR.imp (cr_sortedS.or cr_sorted) fun xs H Q h => by
  obtain ⟨B, ds, G, ha, q⟩ := h
  unfold sortD at q
  split at q
  · rename_i ds'
    obtain ⟨a, vs, rfl, e, r⟩ := one_lst ha
    split at q
    · rename_i ss hb
      rw [strsOf_rp hb r] at e
      exact .inl ⟨a, ss, rfl, SqL.of e, q.1, fun ys p h1 h2 hp => q.2 ys h1 h2 _ B _ (Le.beside G hp) ⟨p, rfl, hp, G.bnone hp, _, upd_same, by rw [List.length_map, h1.length_eq]; exact small64 q.1, rpA_strs ys⟩⟩
    · split at q
      · rename_i ns hb
        rw [intsOf_rp hb r] at e
        exact .inr ⟨a, ns, rfl, SqL.of e, q.1, fun ys p h1 h2 hp => q.2 ys h1 h2 _ B _ (Le.beside G hp) ⟨p, rfl, hp, G.bnone hp, _, upd_same, by rw [List.length_map, h1.length_eq]; exact small64 q.1, rpA_ints ys⟩⟩
      · exact q.elim
  · exact q.elim
/-- list(x): a new list; tuple(x) -/
@[simp] def listD : List D → (D → Prop) → Prop
  | [.lst xs], Q => Q (.lst xs)
  | [.tup xs], Q => Q (.lst xs)
  | _, _ => False
theorem listD.mono : MonoL listD := ⟨fun {ds Q Q'} h q => by unfold listD at *; (repeat' (split at q)) <;> first | exact q.elim | exact h _ q | exact ⟨q.1, fun m h1 h2 => h _ (q.2 m h1 h2)⟩ | exact ⟨q.1, h _ q.2⟩⟩
theorem cd_list : CallD X S (.type "list") (rF X.K) listD := CallR.imp call_list_of fun xs H Q h => by
  obtain ⟨B, ds, G, ha, q⟩ := h
  unfold listD at q
  split at q
  · rename_i ds'
    cases ha with | cons h1 h2 =>
    cases h2
    have hz := h1.len
    obtain ⟨a, vs, rfl, e, r⟩ := h1.lst
    exact ⟨a, vs, rfl, .inl (SqL.of e), fun p hp => q _ B _ (Le.beside G hp) ⟨p, rfl, hp, G.bnone hp, vs, upd_same, by rw [r.length]; exact hz, r⟩⟩
  · rename_i ds'
    cases ha with | cons h1 h2 =>
    cases h2
    have hz := Rp.lenT h1
    obtain ⟨a, vs, rfl, e, r⟩ := h1.tup G.sub
    exact ⟨a, vs, rfl, .inr e, fun p hp => q _ B _ (Le.beside G hp) ⟨p, rfl, hp, G.bnone hp, vs, upd_same, by rw [r.length]; exact hz, r⟩⟩
  · exact q.elim
@[simp] def tupleD : List D → (D → Prop) → Prop
  | [.lst xs], Q => Q (.tup xs)
  | [.tup xs], Q => Q (.tup xs)
  | _, _ => False
theorem tupleD.mono : MonoL tupleD := ⟨fun {ds Q Q'} h q => by unfold tupleD at *; (repeat' (split at q)) <;> first | exact q.elim | exact h _ q⟩
theorem cd_tuple : CallD X S (.type "tuple") (rP X.K) tupleD := CallR.imp call_tuple_of fun xs H Q h => by
  obtain ⟨B, ds, G, ha, q⟩ := h
  unfold tupleD at q
  split at q
  · rename_i ds'
    cases ha with | cons h1 h2 =>
    cases h2
    have hz := h1.len
    obtain ⟨a, vs, rfl, e, r⟩ := h1.lst
    exact ⟨a, vs, rfl, .inl ⟨SqL.of e, fun p hp => q _ _ _ (Le.laid G hp) (.tup (.inl upd_same) (by rw [r.length]; exact hz) (RpA.mono (fun b u z => by rw [upd_ne (ne_of_none z (G.bnone hp))]; exact z) r))⟩⟩
  · rename_i ds'
    cases ha with | cons h1 h2 =>
    cases h2
    have h0 := h1
    obtain ⟨a, vs, rfl, e, r⟩ := h1.tup G.sub
    exact ⟨a, vs, rfl, .inr ⟨e, q _ B H G.le h0⟩⟩
  · exact q.elim
@[simp] def intDD : List D → (D → Prop) → Prop
  | [.int i], Q => Q (.int i)
  | [.bl b], Q => Q (.int (bI b))
  | _, _ => False
theorem intDD.mono : MonoL intDD := ⟨fun {ds Q Q'} h q => by unfold intDD at *; (repeat' (split at q)) <;> first | exact q.elim | exact h _ q | exact ⟨q.1, fun m h1 h2 => h _ (q.2 m h1 h2)⟩ | exact ⟨q.1, h _ q.2⟩⟩
theorem cd_int : CallD X S (.type "int") (rP X.K) intDD := CallR.imp call_int1 fun xs H Q h => by
  obtain ⟨B, ds, G, ha, q⟩ := h
  unfold intDD at q
  split at q
  · cases ha with | cons h1 h2 => cases h2; cases h1; exact .inl ⟨_, rfl, q _ B H G.le (.int _)⟩
  · cases ha with | cons h1 h2 => cases h2; cases h1; exact .inr ⟨_, rfl, q _ B H G.le (.int _)⟩
  · exact q.elim
@[simp] def boolD : List D → (D → Prop) → Prop
  | [.int i], Q => Q (.bl (i != 0))
  | [.bl b], Q => Q (.bl b)
  | _, _ => False
theorem boolD.mono : MonoL boolD := ⟨fun {ds Q Q'} h q => by unfold boolD at *; (repeat' (split at q)) <;> first | exact q.elim | exact h _ q | exact ⟨q.1, fun m h1 h2 => h _ (q.2 m h1 h2)⟩ | exact ⟨q.1, h _ q.2⟩⟩
theorem cd_bool : CallD X S (.type "bool") (rP X.K) boolD := CallR.imp call_bool1 fun xs H Q h => by
  obtain ⟨B, ds, G, ha, q⟩ := h
  unfold boolD at q
  split at q
  · cases ha with | cons h1 h2 => cases h2; cases h1; exact .inl ⟨_, rfl, q _ B H G.le (.bl _)⟩
  · cases ha with | cons h1 h2 => cases h2; cases h1; exact .inr ⟨_, rfl, q _ B H G.le (.bl _)⟩
  · exact q.elim
end
end DL

set_option Elab.async false
set_option linter.all false
set_option maxRecDepth 100000
set_option maxHeartbeats 1000000
/-! DL, part f: items, slices, isinstance, get, calls of the text's own defs. -/
namespace DL
open PySem PySem.Spec PyProof.Rows L2
section
variable {X : Cx} {S : List Addr} {Ex : L2.St → XK} {e a b c : Expr} {es : List Expr} {t ta tb tc : T} {tr : TAd} {pos p : Pos}

/-! ### items -/
@[simp] def ixD : D → D → (D → Prop) → Prop
  | .lst xs, .int i, Q => match atI xs i with | some d => Q d | none => False
  | .tup xs, .int i, Q => match atI xs i with | some d => Q d | none => False
  | .str z, .int i, Q => z.length ≤ sizeLine ∧ match atI z.cps.toList i with | some c => Q (.str ⟨#[c]⟩) | none => False
  | .dct kds, k, Q => match (keyD k).bind (lk kds) with | some d => Q d | none => False
  | _, _, _ => False
theorem ixD.mono : MonoR ixD := ⟨fun {x y Q Q'} h q => by
  unfold ixD at *
  split at q
  · cases e : atI _ _ with
    | none => rw [e] at q; exact q.elim
    | some d => rw [e] at q; exact h _ q
  · cases e : atI _ _ with
    | none => rw [e] at q; exact q.elim
    | some d => rw [e] at q; exact h _ q
  · refine ⟨q.1, ?_⟩
    have q := q.2
    cases e : atI _ _ with
    | none => rw [e] at q; exact q.elim
    | some d => rw [e] at q; exact h _ q
  · cases e : Option.bind _ _ with
    | none => rw [e] at q; exact q.elim
    | some d => rw [e] at q; exact h _ q
  · exact q.elim⟩
theorem ix_dict : IxR X (fun x y H Q => X.A.units + 1 < cLine ∧ ∃ a v, x = .ref a ∧ DGet H a y (some v) ∧ Q v H) := by
  intro value slice pins s σ H x y o i Q I rx ry h hs
  obtain ⟨hu, a, v, rfl, g, q⟩ := h
  obtain rfl : o = Value.ref a := rx
  have hT := dict_typeIs I g
  have h2 : wpAny (model X.prog X.w) X.A (getItem (.ref a) i) (EP X pins σ Q) X.xe s := d_getItem hu I g ry fun w' s3 I3 rw' => ⟨v, H, I3, rw', q⟩
  unfold subscriptTail
  refine wpAny_bind ?_
  rw [getitemInPython_of_ne hT.not_modules]
  refine wpAny_bind (wpAny_specialOf hT PySem.F.slot_dict_getitem.lookup ?_)
  have fin : wpAny (model X.prog X.w) X.A (subscripted slice false (.ref a) i) (fun r s₃ => wpAny (model X.prog X.w) X.A (letTemporaryGo value (.ref a) r >>= fun _ => pure r) (EP X pins σ Q) X.xe s₃) X.xe s := by
    rw [hs]
    exact wpAny_operating (wpAny_mono h2 (fun r s₃ h₃ => wpAny_bind (wpAny_letTemporaryGo (wpAny_pure h₃))) fun _ _ x => x)
  first
    | exact wpAny_pure (wpAny_bind fin)
    | exact wpAny_bind (wpAny_pure (wpAny_bind fin))
    | exact wpAny_bind fin
theorem atI_rp {K : PySem.W.Frag} {B : Hp} {vs : List V} {ds : List D} {i : Int} {d : D} (r : RpA K B vs ds) (h : atI ds i = some d) : ∃ v, atI vs i = some v ∧ Rp K B v d := by
  unfold atI at *
  rw [r.length]
  cases e : ixN ds.length i with
  | none => rw [e] at h; cases h
  | some j => rw [e] at h; exact r.get h
theorem de_ix (hu : X.A.units + 100 < cLine) (ha : DB X S Ex a ta) (hb : DE X S Ex b tb) (hs : PlainIx b) : DE X S Ex (.Subscript a b pos) (tBin ixD ta tb) := by
  refine ⟨PE.imp (pe_ix (ix_seq.or ix_dict) ha.pe hb.pe hs) (lift.one fun σ B ρ H Q G SO q => ?_), tBin.mono ixD.mono ha.mono hb.mono⟩
  refine lift2 ha.mono hb.mono G SO q fun B1 H1 B2 H2 v w x y l1 r1 l2 r2 p => ?_
  have G2 := l2.good (l1.good G)
  have r1' := At.le r1 l2
  have l := l1.trans l2
  unfold ixD at p
  split at p
  · obtain ⟨a, vs, rfl, e, r⟩ := r1'.lst
    cases r2
    split at p
    · rename_i d hd
      obtain ⟨v, hv, rv⟩ := atI_rp r hd
      exact .inl (.inl ⟨a, vs, _, v, rfl, rfl, SqL.of e, hv, p _ B2 H2 l rv⟩)
    · exact p.elim
  · obtain ⟨a, vs, rfl, e, r⟩ := r1'.tup G2.sub
    cases r2
    split at p
    · rename_i d hd
      obtain ⟨v, hv, rv⟩ := atI_rp r hd
      exact .inl (.inr (.inl ⟨a, vs, _, v, rfl, rfl, e, hv, p _ B2 H2 l rv⟩))
    · exact p.elim
  · cases r1'
    cases r2
    obtain ⟨p0, p⟩ := p
    split at p
    · rename_i d hd
      exact .inl (.inr (.inr ⟨_, _, _, rfl, rfl, p0, hd, p _ B2 H2 l (.str _)⟩))
    · exact p.elim
  · obtain ⟨a, kvs, rfl, e, r⟩ := r1'.dct
    split at p
    · rename_i d hd
      obtain ⟨k, hk, hd⟩ := Option.bind_eq_some_iff.mp hd
      obtain ⟨v, hv, rv⟩ := r.lk.1 d hd
      have ew : w = kV k := keyD_at (Rp.at r2 G2) hk
      subst ew
      exact .inr ⟨by omega, a, v, rfl, .inl ⟨kvs, k, e, rfl, hv.symm⟩, p _ B2 H2 l rv⟩
    · exact p.elim
  · exact p.elim
/-- d.get(k, x) -/
@[simp] def getDD (kds : List (Key × D)) (k x : D) (Q : D → Prop) : Prop := match keyD k with
  | some k => Q ((lk kds k).getD x)
  | none => False
@[simp] def isDct (Q : List (Key × D) → Prop) : D → Prop
  | .dct kds => Q kds
  | _ => False
theorem isDct.imp {Q Q' : List (Key × D) → Prop} (h : ∀ b, Q b → Q' b) : ∀ d, isDct Q d → isDct Q' d := fun d q => by
  cases d <;> first | exact h _ q | exact q.elim
theorem getDD.imp {kds : List (Key × D)} {y z : D} {Q Q' : D → Prop} (h : ∀ d, Q d → Q' d) (q : getDD kds y z Q) : getDD kds y z Q' := by
  unfold getDD at *
  split at q
  · exact h _ q
  · exact q.elim
@[simp] def tGet2 (ta tb tc : T) : T := fun ρ Q E => ta ρ (isDct fun kds => tb ρ (fun y => tc ρ (fun z => getDD kds y z Q) E) E) E
theorem de_get2 (hu : X.A.units + 100 < cLine) {apos : Pos} (ha : DB X S Ex a ta) (hb : DE X S Ex b tb) (hc : DE X S Ex c tc) (m : M2 X a "get" apos b c pos) : DE X S Ex (.Call (.Attribute a "get" apos) [b, c] [] pos) (tGet2 ta tb tc) := by
  refine ⟨PE.imp (pe_dget2 (by omega) ha.pe hb.pe hc.pe m) (lift.one fun σ B ρ H Q G SO q => ?_), ⟨fun h he q => ha.mono.r (isDct.imp fun x q => hb.mono.r (fun y q => hc.mono.r (fun z q => getDD.imp h q) he q) he q) he q⟩⟩
  refine ⟨B, ρ, G, SO, ha.mono.r (fun x hx v B1 H1 l1 r1 => ?_) (fun _ z => z) q⟩
  cases x with
  | dct kds =>
    have r1 : At X.K S B1 H1 v (.dct kds) := r1
    obtain ⟨a, kvs, rfl, e, r⟩ := r1.dct
    refine ⟨a, rfl, .inl ⟨kvs, e⟩, ?_⟩
    have G1 := l1.good G
    refine ⟨B1, ρ, G1, SO.le l1, hb.mono.r (fun y hy w B2 H2 l2 r2 => ?_) (fun x z => ExW.le l1 x z) hx⟩
    refine ⟨B2, ρ, l2.good G1, (SO.le l1).le l2, hc.mono.r (fun z hz u B3 H3 l3 r3 => ?_) (fun x z => ExW.le l2 x (ExW.le l1 x z)) hy⟩
    unfold getDD at hz
    split at hz
    · rename_i k ek
      have ew : w = kV k := keyD_at (Rp.at r2 (l2.good G1)) ek
      subst ew
      have r1' : At X.K S B3 H3 (.ref a) (.dct kds) := At.le (At.le r1 l2) l3
      obtain ⟨a', kvs', ea, e', r'⟩ := r1'.dct
      cases ea
      refine ⟨valV kvs' k, .inl ⟨kvs', k, e', rfl, rfl⟩, ?_⟩
      obtain ⟨h1, h2⟩ := r'.lk (k := k)
      have l := (l1.trans l2).trans l3
      cases el : lk kds k with
      | none => rw [h2 el]; rw [el] at hz; exact hz _ B3 H3 l r3
      | some d =>
        obtain ⟨v, ev, rv⟩ := h1 d el
        rw [ev]; rw [el] at hz; exact hz _ B3 H3 l rv
    · exact hz.elim
  | _ => exact hx.elim

/-! ### slices -/
abbrev TOd := DEnv → (Option Int → Prop) → (Exn → Prop) → Prop
structure MonoO (t : TOd) : Prop where
  r : ∀ {ρ : DEnv} {Q Q' : Option Int → Prop} {E E' : Exn → Prop}, (∀ d, Q d → Q' d) → (∀ x, E x → E' x) → t ρ Q E → t ρ Q' E'
def liftO (K : PySem.W.Frag) (S : List Addr) (Ex : L2.St → XK) (t : TOd) : TO := fun σ H Q => ∃ B ρ, Good S B H ∧ SlotsOk K S B H σ ρ ∧
  t ρ (fun o => ∀ B' H', Le S B H B' H' → Q o H') (ExW K S (Ex σ) B H)
structure DO (X : Cx) (S : List Addr) (Ex : L2.St → XK) (e : Option Expr) (t : TOd) : Prop where
  po : PO X e (liftO X.K S Ex t)
  mono : MonoO t
theorem PO.imp {e : Option Expr} {t t' : TO} (h : PO X e t) (k : ∀ σ H Q, t' σ H Q → t σ H Q) : PO X e t' := ⟨fun pins s σ H Q I q => h.run pins s σ H Q I (k σ H Q q)⟩
@[simp] def isI (Q : Option Int → Prop) : D → Prop
  | .int i => Q (some i)
  | _ => False
theorem isI.imp {Q Q' : Option Int → Prop} (h : ∀ b, Q b → Q' b) : ∀ d, isI Q d → isI Q' d := fun d q => by
  cases d <;> first | exact h _ q | exact q.elim
@[simp] def tONo : TOd := fun _ Q _ => Q none
@[simp] def tOSo (t : T) : TOd := fun ρ Q E => t ρ (isI Q) E
theorem do_no : DO X S Ex none tONo := ⟨PO.imp po_none fun σ H Q ⟨B, ρ, G, SO, q⟩ => q B H G.le, ⟨fun h _ q => h _ q⟩⟩
theorem do_so (h : DE X S Ex e t) : DO X S Ex (some e) (tOSo t) := by
  refine ⟨PO.imp (po_some h.pe) fun σ H Q ⟨B, ρ, G, SO, q⟩ => ?_, ⟨fun h' he q => h.mono.r (isI.imp h') he q⟩⟩
  refine ⟨B, ρ, G, SO, h.mono.r (fun x hx v B' H' l r => ?_) (fun _ z => z) q⟩
  cases x with
  | int i => cases r; exact ⟨i, rfl, hx B' H' l⟩
  | _ => exact hx.elim
def cut {α : Type} (xs : List α) (lo hi : Option Int) : List α := (xs.drop (HT.sIx xs.length 0 lo)).take (HT.sIx xs.length xs.length hi - HT.sIx xs.length 0 lo)
@[simp] def sliceD (lo hi : Option Int) (Q : D → Prop) : D → Prop
  | .lst xs => Q (.lst (cut xs lo hi))
  | .tup xs => Q (.tup (cut xs lo hi))
  | .str z => z.length ≤ sizeLine ∧ Q (.str (cutS z lo hi))
  | _ => False
theorem sliceD.imp {lo hi : Option Int} {Q Q' : D → Prop} (h : ∀ b, Q b → Q' b) : ∀ d, sliceD lo hi Q d → sliceD lo hi Q' d := fun d q => by
  cases d <;> first | exact h _ q | exact ⟨q.1, h _ q.2⟩ | exact q.elim
theorem cut_len {α : Type} (xs : List α) (lo hi : Option Int) : (cut xs lo hi).length ≤ xs.length := by
  unfold cut
  rw [List.length_take, List.length_drop]
  omega
theorem cut_rp {K : PySem.W.Frag} {B : Hp} {vs : List V} {ds : List D} {lo hi : Option Int} (r : RpA K B vs ds) : RpA K B (cutV vs lo hi) (cut ds lo hi) := by
  unfold cutV cut
  rw [r.length]
  exact (r.drop _).take _
@[simp] def tSlD (ta : T) (tl th : TOd) : T := fun ρ Q E => ta ρ (fun x => tl ρ (fun lo => th ρ (fun hi => sliceD lo hi Q x) E) E) E
theorem de_slice {lo hi : Option Expr} {tl th : TOd} {p2 : Pos} (ha : DB X S Ex a ta) (hl : DO X S Ex lo tl) (hh : DO X S Ex hi th) : DE X S Ex (.Subscript a (.Slice lo hi none p2) pos) (tSlD ta tl th) := by
  refine ⟨PE.imp (pe_slice ((sl_list.or sl_tupA).or sl_str) ha.pe hl.po hh.po) (lift.one fun σ B ρ H Q G SO q => ?_), ⟨fun h he q => ha.mono.r (fun x q => hl.mono.r (fun y q => hh.mono.r (fun z q => sliceD.imp h _ q) he q) he q) he q⟩⟩
  refine ⟨B, ρ, G, SO, ha.mono.r (fun x hx v B1 H1 l1 r1 => ?_) (fun _ z => z) q⟩
  have G1 := l1.good G
  refine ⟨B1, ρ, G1, SO.le l1, hl.mono.r (fun lo' hlo B2 H2 l2 => ?_) (fun x z => ExW.le l1 x z) hx⟩
  refine ⟨B2, ρ, l2.good G1, (SO.le l1).le l2, hh.mono.r (fun hi' hhi B3 H3 l3 => ?_) (fun x z => ExW.le l2 x (ExW.le l1 x z)) hlo⟩
  have G3 := l3.good (l2.good G1)
  have l := (l1.trans l2).trans l3
  have r3 : At X.K S B3 H3 v x := At.le (At.le r1 l2) l3
  cases x with
  | lst xs =>
    have r3' := r3
    obtain ⟨a, vs, rfl, e, r⟩ := r3.lst
    refine .inl (.inl ⟨a, vs, rfl, SqL.of e, fun p hp => hhi _ _ _ (l.trans (Le.laid G3 hp)) ?_⟩)
    exact .lst upd_same (by rw [(cut_rp (lo := lo') (hi := hi') r).length]; exact Nat.le_trans (cut_len _ _ _) (At.len r3')) (RpA.mono (fun b u z => by rw [upd_ne (ne_of_none z (G3.bnone hp))]; exact z) (cut_rp r))
  | tup xs =>
    have r4 := r3
    obtain ⟨a, vs, rfl, e, r⟩ := r3.tup G3.sub
    refine .inl (.inr ⟨a, vs, rfl, e, fun w => ?_, fun w p hp => hhi _ _ _ (l.trans (Le.laid G3 hp)) ?_⟩)
    · have ec : cut xs lo' hi' = xs := by
        unfold cut
        rw [← r.length, w.1, w.2, Nat.sub_zero, List.drop_zero]
        exact List.take_of_length_le (by rw [r.length]; exact Nat.le_refl _)
      have hhi : ∀ (v : V) (B' H' : Hp), Le S B H B' H' → Rp X.K B' v (.tup (cut xs lo' hi')) → Q v H' := hhi
      rw [ec] at hhi
      exact hhi _ _ _ l r4
    · exact .tup (.inl upd_same) (by rw [(cut_rp (lo := lo') (hi := hi') r).length]; exact Nat.le_trans (cut_len _ _ _) (Rp.lenT r4)) (RpA.mono (fun b u z => by rw [upd_ne (ne_of_none z (G3.bnone hp))]; exact z) (cut_rp r))
  | str z => cases r3; exact .inr ⟨z, rfl, hhi.1, hhi.2 _ _ _ l (.str _)⟩
  | _ => exact hhi.elim
/-- a slice of a list: a new list -/
@[simp] def sliceL (lo hi : Option Int) (Q : D → Prop) : D → Prop
  | .lst xs => Q (.lst (cut xs lo hi))
  | _ => False
theorem sliceL.imp {lo hi : Option Int} {Q Q' : D → Prop} (h : ∀ b, Q b → Q' b) : ∀ d, sliceL lo hi Q d → sliceL lo hi Q' d := fun d q => by
  cases d <;> first | exact h _ q | exact q.elim
@[simp] def tSlF (ta : T) (tl th : TOd) : T := fun ρ Q E => ta ρ (fun x => tl ρ (fun lo => th ρ (fun hi => sliceL lo hi Q x) E) E) E
theorem df_slice {lo hi : Option Expr} {tl th : TOd} {p2 : Pos} (ha : DB X S Ex a ta) (hl : DO X S Ex lo tl) (hh : DO X S Ex hi th) : DF X S Ex (.Subscript a (.Slice lo hi none p2) pos) (tSlF ta tl th) := by
  refine ⟨PE.imp (pe_slice sl_list ha.pe hl.po hh.po) (lift.one fun σ B ρ H Q G SO q => ?_), ⟨fun h he q => ha.mono.r (fun x q => hl.mono.r (fun y q => hh.mono.r (fun z q => sliceL.imp h _ q) he q) he q) he q⟩⟩
  refine ⟨B, ρ, G, SO, ha.mono.r (fun x hx v B1 H1 l1 r1 => ?_) (fun _ z => z) q⟩
  have G1 := l1.good G
  refine ⟨B1, ρ, G1, SO.le l1, hl.mono.r (fun lo' hlo B2 H2 l2 => ?_) (fun x z => ExW.le l1 x z) hx⟩
  refine ⟨B2, ρ, l2.good G1, (SO.le l1).le l2, hh.mono.r (fun hi' hhi B3 H3 l3 => ?_) (fun x z => ExW.le l2 x (ExW.le l1 x z)) hlo⟩
  have G3 := l3.good (l2.good G1)
  have l := (l1.trans l2).trans l3
  have r3 : At X.K S B3 H3 v x := At.le (At.le r1 l2) l3
  cases x with
  | lst xs =>
    have r3' := r3
    obtain ⟨a, vs, rfl, e, r⟩ := r3.lst
    exact ⟨a, vs, rfl, SqL.of e, fun p hp => hhi _ B3 _ (l.trans (Le.beside G3 hp)) ⟨p, rfl, l.old hp, G3.bnone hp, _, upd_same, by rw [(cut_rp (lo := lo') (hi := hi') r).length]; exact Nat.le_trans (cut_len _ _ _) (At.len r3'), cut_rp r⟩⟩
  | _ => exact hhi.elim

/-! ### isinstance -/
@[simp] def D.ty : D → Option String
  | .non => some "NoneType" | .bl _ => some "bool" | .int _ => some "int" | .str _ => some "str"
  | .lst _ => some "list" | .tup _ => some "tuple" | .dct _ => some "dict"
  | _ => none
theorem At.tyX {K : PySem.W.Frag} {B H : Hp} {v : V} {d : D} {n : String} (g : Good S B H) (r : At K S B H v d) (h : d.ty = some n) : TyX K H v (.type n) := by
  cases d with
  | lst ds => cases h; obtain ⟨a, vs, rfl, e, _⟩ := r.lst; exact .base (.lst e)
  | dct ds =>
    cases h; obtain ⟨a, vs, rfl, e, _⟩ := r.dct
    rcases e with e | ⟨o, e⟩
    · exact .base (.dK e)
    · exact .fDict e
  | tup ds =>
    cases h
    have r : Rp K B v (.tup ds) := r
    cases r with
    | tup h _ _ =>
      rcases h with h | ⟨o, its, n, h1, h2, _⟩
      · exact .base (.tup (g.sub _ _ h).tup)
      · exact .kTuple h1 h2
  | non => cases h; cases r; exact .base .non
  | bl b => cases h; cases r; exact .base (.bl _)
  | int b => cases h; cases r; exact .base (.int _)
  | str b => cases h; cases r; exact .base (.str _)
  | ref _ => cases h
  | obj _ _ _ => cases h
/-- isinstance(e, T), T a built-in type's name; f tells the answer by the type -/
@[simp] def isiD (f : String → Option Bool) (d : D) (Q : D → Prop) : Prop := match d.ty.bind f with
  | some b => Q (.bl b)
  | none => False
theorem isiD.imp {f : String → Option Bool} {d : D} {Q Q' : D → Prop} (h : ∀ b, Q b → Q' b) (q : isiD f d Q) : isiD f d Q' := by
  unfold isiD at *
  split at q
  · exact h _ q
  · exact q.elim
@[simp] def tIsi (f : String → Option Bool) (ta : T) : T := fun ρ Q E => ta ρ (fun d => isiD f d Q) E
theorem de_isi {n : String} {f : String → Option Bool} {p2 p3 : Pos} {x : Str} (hf : ∀ a b, f a = some b → kitB a n = some b) (hg : Gl X "isinstance") (hm : X.mg "isinstance" = none) (hg2 : Gl X x) (hm2 : X.mg x = none) (hv2 : bootBuiltins x = some (.type n))
    (ha : DB X S Ex a ta) (hn : x ≠ "__name__" := by decide) (hdb : (x == ("__debug__" : Str)) = false := by decide)
    (hs : starEach (a :: [.Name x p2]) X.env = (false, eval a X.env) :: starEach [.Name x p2] X.env := by rfl) (hpl : (backTo pos (starEach [.Name x p2] X.env)).any (·.1) = false := by rfl) :
    DE X S Ex (.Call (.Name "isinstance" p3) [a, .Name x p2] [] pos) (tIsi f ta) := by
  refine ⟨PE.imp (pe_callB call_isi hg hm (by decide +kernel) (pa_cons ha.pe (pa_cons (pe_bltn (v := .ty n) hg2 hm2 hv2 rfl hn hdb) pa_nil) hs) (by decide) (by decide) hs hpl) (lift.one fun σ B ρ H Q G SO q => ?_), ⟨fun h he q => ha.mono.r (fun d q => isiD.imp h q) he q⟩⟩
  refine ⟨B, ρ, G, SO, ha.mono.r (fun d hd v B' H' l r => ?_) (fun _ z => z) q⟩
  unfold isiD at hd
  split at hd
  · rename_i b hb
    obtain ⟨m, hm, hb⟩ := Option.bind_eq_some_iff.mp hb
    exact ⟨v, .ty n, .type m, .type n, b, rfl, .ty n, At.tyX (l.good G) r hm, kit_ty (hf m b hb), hd _ B' H' l (.bl _)⟩
  · exact hd.elim
def isStr : String → Option Bool
  | "str" => some true | "NoneType" => some false | "bool" => some false | "int" => some false | "list" => some false | "tuple" => some false | "dict" => some false
  | _ => none
def isTup : String → Option Bool
  | "tuple" => some true | "NoneType" => some false | "bool" => some false | "int" => some false | "list" => some false | "str" => some false | "dict" => some false
  | _ => none
def isInt : String → Option Bool
  | "int" => some true | "bool" => some true | "NoneType" => some false | "list" => some false | "tuple" => some false | "str" => some false | "dict" => some false
  | _ => none
def isBool : String → Option Bool
  | "bool" => some true | "NoneType" => some false | "int" => some false | "list" => some false | "tuple" => some false | "str" => some false | "dict" => some false
  | _ => none
def isList : String → Option Bool
  | "list" => some true | "NoneType" => some false | "int" => some false | "bool" => some false | "tuple" => some false | "str" => some false | "dict" => some false
  | _ => none
theorem isStr_ok (a : String) (b : Bool) (h : isStr a = some b) : kitB a "str" = some b := by
  unfold isStr at h
  split at h <;> first | (cases h; decide +kernel) | cases h
theorem isTup_ok (a : String) (b : Bool) (h : isTup a = some b) : kitB a "tuple" = some b := by
  unfold isTup at h
  split at h <;> first | (cases h; decide +kernel) | cases h
theorem isInt_ok (a : String) (b : Bool) (h : isInt a = some b) : kitB a "int" = some b := by
  unfold isInt at h
  split at h <;> first | (cases h; decide +kernel) | cases h
theorem isBool_ok (a : String) (b : Bool) (h : isBool a = some b) : kitB a "bool" = some b := by
  unfold isBool at h
  split at h <;> first | (cases h; decide +kernel) | cases h
theorem isList_ok (a : String) (b : Bool) (h : isList a = some b) : kitB a "list" = some b := by
  unfold isList at h
  split at h <;> first | (cases h; decide +kernel) | cases h

/-! ### the text's own defs -/
abbrev Spec := List Addr → List D → (D → Prop) → (Exn → Prop) → Prop
/-- a def's promise over data -/
def spD (K : PySem.W.Frag) (f : Spec) : Sp := fun vs H Q E => ∃ S B ds, Good S B H ∧ RpA K B vs ds ∧ f S ds (fun d => ∀ v B' H', Le S B H B' H' → Rp K B' v d → Q v H') (ExW K S E B H)
structure MonoS (f : Spec) : Prop where
  r : ∀ {S : List Addr} {ds : List D} {Q Q' : D → Prop} {E E' : Exn → Prop}, (∀ d, Q d → Q' d) → (∀ x, E x → E' x) → f S ds Q E → f S ds Q' E'
@[simp] def tFn (S : List Addr) (f : Spec) (tr : TAd) : T := fun ρ Q E => tr ρ (fun ds => f S ds Q E) E
theorem de_call {k : Nat} {f : Addr} {fd : FuncData} {ps : List Str} {sp : Spec} {x : Str} (C : Cd X Ex) (F : FnOk X.prog X.w X.K X.mg X.base (L2N.CX X.prog X.w) k f fd ps (spD X.K sp)) (ms : MonoS sp) (hr : Room k X.A) (hg : Gl X x) (hm : X.mg x = some (.ref f)) (hk : PySem.W.keepIn X.K (.ref f) = true) (hb : Binds X.K fd ps [])
    (h : DA X S Ex (e :: es) tr) (hdb : (x == ("__debug__" : Str)) = false := by decide) (he : starEach (e :: es) X.env = (false, eval e X.env) :: starEach es X.env := by rfl) (hpl : (backTo pos (starEach es X.env)).any (·.1) = false := by rfl) :
    DE X S Ex (.Call (.Name x p) (e :: es) [] pos) (tFn S sp tr) := by
  refine ⟨PE.imp (pe_callS F hr hg hm hk hb C.pass h.pa hdb he hpl) (lift.one fun σ B ρ H Q G SO q => ?_), ⟨fun h' he' q => h.mono.r (fun ds q => ms.r h' he' q) he' q⟩⟩
  refine ⟨B, ρ, G, SO, h.mono.r (fun ds hd vs B' H' l r => ?_) (fun _ z => z) q⟩
  exact ⟨S, B', ds, l.good G, r, ms.r (fun d hd v B2 H2 l2 r2 => hd v B2 H2 (l.trans l2) r2) (fun x z => ExW.le l x z) hd⟩
end
end DL

set_option Elab.async false
set_option linter.all false
set_option maxRecDepth 100000
set_option maxHeartbeats 1000000
/-! DL, part g: targets, what is walked, comprehensions. -/
namespace DL
open PySem PySem.Spec PyProof.Rows L2

/-! ### targets -/
inductive Tgt where
  | n (i : Nat) | t (ts : List Tgt)
mutual
@[simp] def asg : Tgt → D → DEnv → Option DEnv
  | .n i, d, ρ => some (ρ.set i (some (.p d)))
  | .t ts, .tup ds, ρ => asgs ts ds ρ
  | .t _, _, _ => none
@[simp] def asgs : List Tgt → List D → DEnv → Option DEnv
  | [], [], ρ => some ρ
  | t :: ts, d :: ds, ρ => (asg t d ρ).bind fun ρ' => asgs ts ds ρ'
  | _, _, _ => none
end
mutual
def gOf (K : PySem.W.Frag) : Tgt → TG
  | .n i => gName i
  | .t ts => gTup K ts.length (gsOf K ts)
def gsOf (K : PySem.W.Frag) : List Tgt → TGs
  | [] => gNil
  | t :: ts => gCons (gOf K t) (gsOf K ts)
end
mutual
def vars : Tgt → List Nat
  | .n i => [i]
  | .t ts => varss ts
def varss : List Tgt → List Nat
  | [] => []
  | t :: ts => vars t ++ varss ts
end
def DG (X : Cx) (tg : Expr) (τ : Tgt) : Prop := PG X tg (gOf X.K τ)
def DGs (X : Cx) (tg : List Expr) (τ : List Tgt) : Prop := PGs X tg (gsOf X.K τ)
section
variable {X : Cx}
theorem dg_n {x : Str} {pos : Pos} (i : Nat) (hN : X.N.Nodup) (hi : X.N[i]? = some x := by rfl) (hx : Loc X.env.scope x := by first | exact Or.inl rfl | exact Or.inr rfl) (hf : X.fn x = true ∨ X.env.scope.names.lookup x = some .local := by first | exact .inl rfl | exact .inr rfl) : DG X (.Name x pos) (.n i) := pg_name hN hi hx hf
theorem dgs_nil : DGs X [] [] := pgs_nil
theorem dgs_cons {e : Expr} {es : List Expr} {τ : Tgt} {τs : List Tgt} (h : DG X e τ) (k : DGs X es τs)
    (hs : (assignEach (e :: es) X.env).map (·.2) = assign e X.env :: (assignEach es X.env).map (·.2) := by rfl) : DGs X (e :: es) (τ :: τs) := pgs_cons h k hs
theorem dg_t {es : List Expr} {k : Nat} {τs : List Tgt} {pos : Pos} (hc : X.calm = true) (h : DGs X es τs)
    (hn : (assignEach es X.env).length = τs.length := by rfl) (hst : (assignEach es X.env).findIdx? (·.1) = none := by rfl) : DG X (.Tuple es k pos) (.t τs) := pg_tup hc h hn hst
end

section
variable {K : PySem.W.Frag} {S : List Addr} {B H : Hp} {σ : L2.St} {ρ : DEnv}
theorem getElem?_set' {α : Type} (l : List α) (i j : Nat) (x : α) : (l.set i x)[j]? = if i = j then (if i < l.length then some x else none) else l[j]? := by
  by_cases e : i = j
  · subst e
    rw [if_pos rfl]
    by_cases h : i < l.length
    · rw [if_pos h, List.getElem?_set_self h]
    · rw [if_neg h]; exact List.getElem?_eq_none (by rw [List.length_set]; omega)
  · rw [if_neg e, List.getElem?_set_ne e]
/-- a slot gets a value -/
theorem SlotsOk.setP (s : SlotsOk K S B H σ ρ) {i : Nat} {v : V} {d : D} (r : Rp K B v d) : SlotsOk K S B H (σ.set i (some v)) (ρ.set i (some (.p d))) := by
  have own' : ∀ j e, (ρ.set i (some (.p d)))[j]? = some (some (.o e)) → j ≠ i ∧ ρ[j]? = some (some (.o e)) := fun j e h => by
    rw [getElem?_set'] at h
    by_cases q : i = j
    · rw [if_pos q] at h; split at h <;> cases h
    · rw [if_neg q] at h; exact ⟨fun z => q z.symm, h⟩
  refine ⟨by rw [List.length_set, List.length_set]; exact s.len, fun j x e => ?_, fun j k e f l h1 h2 h3 h4 => ?_, fun j e l h1 h2 => ?_⟩
  · rw [getElem?_set'] at e
    by_cases q : i = j
    · subst q
      rw [if_pos rfl] at e
      split at e
      · rename_i hl
        cases e
        exact ⟨v, by rw [getElem?_set', if_pos rfl, if_pos (by rw [s.len]; exact hl)], r⟩
      · cases e
    · rw [if_neg q] at e
      obtain ⟨w, h1, h2⟩ := s.at_ j x e
      exact ⟨w, by rw [getElem?_set', if_neg q]; exact h1, h2⟩
  · obtain ⟨n1, o1⟩ := own' j e h1
    obtain ⟨n2, o2⟩ := own' k f h2
    rw [getElem?_set', if_neg (Ne.symm n1)] at h3
    rw [getElem?_set', if_neg (Ne.symm n2)] at h4
    exact s.own j k e f l o1 o2 h3 h4
  · obtain ⟨n1, o1⟩ := own' j e h1
    rw [getElem?_set', if_neg (Ne.symm n1)] at h2
    exact s.src j e l o1 h2
/-- a slot is emptied -/
theorem SlotsOk.setN (s : SlotsOk K S B H σ ρ) {i : Nat} : SlotsOk K S B H (σ.set i none) (ρ.set i none) := by
  have own' : ∀ j x, (ρ.set i none)[j]? = some (some x) → j ≠ i ∧ ρ[j]? = some (some x) := fun j e h => by
    rw [getElem?_set'] at h
    by_cases q : i = j
    · rw [if_pos q] at h; split at h <;> cases h
    · rw [if_neg q] at h; exact ⟨fun z => q z.symm, h⟩
  refine ⟨by rw [List.length_set, List.length_set]; exact s.len, fun j x e => ?_, fun j k e f l h1 h2 h3 h4 => ?_, fun j e l h1 h2 => ?_⟩
  · obtain ⟨n1, o1⟩ := own' j x e
    obtain ⟨w, h1, h2⟩ := s.at_ j x o1
    exact ⟨w, by rw [getElem?_set', if_neg (Ne.symm n1)]; exact h1, h2⟩
  · obtain ⟨n1, o1⟩ := own' j _ h1
    obtain ⟨n2, o2⟩ := own' k _ h2
    rw [getElem?_set', if_neg (Ne.symm n1)] at h3
    rw [getElem?_set', if_neg (Ne.symm n2)] at h4
    exact s.own j k e f l o1 o2 h3 h4
  · obtain ⟨n1, o1⟩ := own' j _ h1
    rw [getElem?_set', if_neg (Ne.symm n1)] at h2
    exact s.src j e l o1 h2
@[simp] def wipeD (ρ : DEnv) : List Nat → DEnv
  | [] => ρ
  | v :: vs => (wipeD ρ vs).set v none
theorem SlotsOk.wipe (s : SlotsOk K S B H σ ρ) : ∀ vs : List Nat, SlotsOk K S B H (wipe σ vs) (wipeD ρ vs)
  | [] => s
  | _ :: vs => (SlotsOk.wipe s vs).setN
theorem wipe_get (σ : L2.St) (j : Nat) : ∀ vs : List Nat, (wipe σ vs)[j]? = if j ∈ vs ∧ j < σ.length then some none else σ[j]?
  | [] => by simp [L2.wipe]
  | v :: vs => by
    have ih := wipe_get σ j vs
    unfold L2.wipe
    rw [getElem?_set', ih, wipe_length]
    by_cases e : v = j
    · subst e
      by_cases hl : v < σ.length
      · simp [hl]
      · simp [hl]
    · have e' : ¬ j = v := fun z => e z.symm
      simp [e, e']
theorem wipe_set (σ : L2.St) {i : Nat} {x : Option V} {vs : List Nat} (h : i ∈ vs) : wipe (σ.set i x) vs = wipe σ vs := by
  apply List.ext_getElem?
  intro j
  rw [wipe_get, wipe_get, List.length_set, getElem?_set']
  by_cases e : i = j
  · subst e
    by_cases hl : i < σ.length
    · simp [h, hl]
    · simp [h, hl]
  · simp [e]
mutual
theorem asg_ok : ∀ (τ : Tgt) (d : D) (v : V) (σ : L2.St) (ρ ρ' : DEnv), Good S B H → SlotsOk K S B H σ ρ → Rp K B v d → asg τ d ρ = some ρ' → ∀ k : L2.St → Hp → Prop,
    (∀ σ', SlotsOk K S B H σ' ρ' → (∀ vs, (∀ i ∈ vars τ, i ∈ vs) → wipe σ' vs = wipe σ vs) → k σ' H) → gOf K τ v σ H k
  | .n i, d, v, σ, ρ, ρ', G, s, r, e, k, hk => by
    simp only [asg, Option.some.injEq] at e
    subst e
    exact hk _ (s.setP r) fun vs h => wipe_set σ (h i (by simp [vars]))
  | .t ts, .tup ds, v, σ, ρ, ρ', G, s, r, e, k, hk => by
    have r0 : At K S B H v (.tup ds) := Rp.at r G
    obtain ⟨a, vs, rfl, hq, ra⟩ := r0.tup G.sub
    have e' : asgs ts ds ρ = some ρ' := by simpa only [asg] using e
    refine ⟨a, vs, rfl, hq, ?_, asgs_ok ts ds vs σ ρ ρ' G s ra e' k fun σ' h1 h2 => hk σ' h1 fun ws h => h2 ws h⟩
    rw [ra.length]
    exact asgs_len ts ds ρ ρ' e'
  | .t ts, .non, _, _, _, _, _, _, _, e, _, _ => by simp [asg] at e
  | .t ts, .bl _, _, _, _, _, _, _, _, e, _, _ => by simp [asg] at e
  | .t ts, .int _, _, _, _, _, _, _, _, e, _, _ => by simp [asg] at e
  | .t ts, .str _, _, _, _, _, _, _, _, e, _, _ => by simp [asg] at e
  | .t ts, .lst _, _, _, _, _, _, _, _, e, _, _ => by simp [asg] at e
  | .t ts, .dct _, _, _, _, _, _, _, _, e, _, _ => by simp [asg] at e
  | .t ts, .ref _, _, _, _, _, _, _, _, e, _, _ => by simp [asg] at e
  | .t ts, .obj _ _ _, _, _, _, _, _, _, _, e, _, _ => by simp [asg] at e
theorem asgs_ok : ∀ (τs : List Tgt) (ds : List D) (vs : List V) (σ : L2.St) (ρ ρ' : DEnv), Good S B H → SlotsOk K S B H σ ρ → RpA K B vs ds → asgs τs ds ρ = some ρ' → ∀ k : L2.St → Hp → Prop,
    (∀ σ', SlotsOk K S B H σ' ρ' → (∀ vs, (∀ i ∈ varss τs, i ∈ vs) → wipe σ' vs = wipe σ vs) → k σ' H) → gsOf K τs vs σ H k
  | [], [], _, σ, ρ, ρ', G, s, .nil, e, k, hk => by
    simp only [asgs, Option.some.injEq] at e
    subst e
    exact ⟨rfl, hk σ s fun _ _ => rfl⟩
  | τ :: τs, d :: ds, _, σ, ρ, ρ', G, s, .cons (v := v) (vs := vs) r t, e, k, hk => by
    have e' : (asg τ d ρ).bind (fun ρ' => asgs τs ds ρ') = some ρ' := by simpa only [asgs] using e
    obtain ⟨ρ1, e1, e2⟩ := Option.bind_eq_some_iff.mp e'
    refine ⟨v, vs, rfl, asg_ok τ d v σ ρ ρ1 G s r e1 _ fun σ1 h1 h2 => asgs_ok τs ds vs σ1 ρ1 ρ' G h1 t e2 k fun σ2 h3 h4 => hk σ2 h3 fun ws h => ?_⟩
    rw [h4 ws fun i hi => h i (by simp [varss, hi]), h2 ws fun i hi => h i (by simp [varss, hi])]
  | [], _ :: _, _, _, _, _, _, _, _, e, _, _ => by simp [asgs] at e
  | _ :: _, [], _, _, _, _, _, _, _, e, _, _ => by simp [asgs] at e
theorem asgs_len : ∀ (τs : List Tgt) (ds : List D) (ρ ρ' : DEnv), asgs τs ds ρ = some ρ' → ds.length = τs.length
  | [], [], _, _, _ => rfl
  | τ :: τs, d :: ds, ρ, ρ', e => by
    have e' : (asg τ d ρ).bind (fun ρ' => asgs τs ds ρ') = some ρ' := by simpa only [asgs] using e
    obtain ⟨ρ1, e1, e2⟩ := Option.bind_eq_some_iff.mp e'
    simp only [List.length_cons, asgs_len τs ds ρ1 ρ' e2]
  | [], _ :: _, _, _, e => by simp [asgs] at e
  | _ :: _, [], _, _, e => by simp [asgs] at e
end
end

/-! ### what is walked -/
/-- J yields ds, from the world (B, H) on -/
def Wk (K : PySem.W.Frag) (S : List Addr) (J : It) (ds : List D) (B H : Hp) : Prop := ∀ i, (∀ d, ds[i]? = some d → J.go i H ∧ ∀ x H', J.yld i H x H' → ∃ B', Le S B H B' H' ∧ Rp K B' x d) ∧ (ds.length ≤ i → J.stop i H)
abbrev RelI := Hp → Hp → It → List D → Prop
/-- for a loop: while what is persistent stands -/
def riP (K : PySem.W.Frag) (S : List Addr) : RelI := fun B0 _ J ds => ds.length ≤ sizeLine ∧ ∀ B H, Keep B0 B → Good S B H → Wk K S J ds B H
/-- for a comprehension: while all stands -/
def riB (K : PySem.W.Frag) (S : List Addr) : RelI := fun B0 H0 J ds => ds.length ≤ sizeLine ∧ ∀ B H, Le S B0 H0 B H → Good S B H → Wk K S J ds B H
def liftI (K : PySem.W.Frag) (S : List Addr) (Ex : L2.St → XK) (R : RelI) (t : TAd) : TI := fun σ H Q => ∃ B ρ, Good S B H ∧ SlotsOk K S B H σ ρ ∧
  t ρ (fun ds => ∀ J B' H', Le S B H B' H' → R B' H' J ds → Q J H') (ExW K S (Ex σ) B H)
structure DIR (X : Cx) (S : List Addr) (Ex : L2.St → XK) (R : RelI) (tg e : Expr) (t : TAd) : Prop where
  pi : PI X tg e (liftI X.K S Ex R t)
  mono : MonoA t
abbrev DI (X : Cx) (S : List Addr) (Ex : L2.St → XK) (tg e : Expr) (t : TAd) : Prop := DIR X S Ex (riP X.K S) tg e t
abbrev DIB (X : Cx) (S : List Addr) (Ex : L2.St → XK) (tg e : Expr) (t : TAd) : Prop := DIR X S Ex (riB X.K S) tg e t
section
variable {X : Cx} {S : List Addr} {Ex : L2.St → XK} {tg e a b : Expr} {t ta tb : T} {tr : TAd} {pos p : Pos}
theorem PI.imp {tg e : Expr} {t t' : TI} (h : PI X tg e t) (k : ∀ σ H Q, t' σ H Q → t σ H Q) : PI X tg e t' := ⟨fun pins s σ H R I q => h.run pins s σ H R I (k σ H R q)⟩
def iAny (K : PySem.W.Frag) (tl : TE) : TI := fun σ H R => tl σ H fun x H1 => (∃ a, x = .ref a ∧ (∃ xs, SqL K H1 a xs) ∧ R (Itl K a) H1) ∨ (∃ a, x = .ref a ∧ (∃ xs, SqT K H1 a xs) ∧ R (Itt K a) H1) ∨ ∃ z, x = .str z ∧ R (Its z) H1
theorem pi_any {l : Expr} {tl : TE} (hl : PE X l tl) : PI X tg l (iAny X.K tl) := by
  refine ⟨fun pins s σ H R I h => ?_⟩
  refine thn (hl.run pins s σ H _ I h) fun v s1 ⟨x, H1, I1, r1, q1⟩ => ?_
  rcases q1 with ⟨a, e, ⟨xs, hq⟩, q⟩ | ⟨a, e, ⟨xs, hq⟩, q⟩ | ⟨z, e, q⟩
  · subst e
    cases r1
    obtain ⟨its, rv, p, hz⟩ := I1.list hq
    refine wpAny_pyIter_list p.isList ?_
    refine ⟨s1.heap.objs.size, [s1.heap.objs.size], _, _, H1, rfl, I1.kept (t' := s1.toks) fun b o e => Heap.get?_push_of_some _ e, turn_list a _, ⟨_, Heap.get?_push_size _ rfl, rfl, rfl⟩, fun b hb => ?_, q⟩
    have e : b = s1.heap.objs.size := by simpa using hb
    subst e
    exact I1.fpOk (Nat.le_refl _) (I1.hok.fresh (Nat.le_refl _))
  · subst e
    cases r1
    obtain ⟨its, rv, p, hz⟩ := I1.tuple hq
    refine wpAny_pyIter_tuple (show s1.heap.IsTuple a its.toArray from p) ?_
    refine ⟨s1.heap.objs.size, [s1.heap.objs.size], _, _, H1, rfl, I1.kept (t' := s1.toks) fun b o e => Heap.get?_push_of_some _ e, turn_tuple a _, ⟨_, Heap.get?_push_size _ rfl, rfl, rfl⟩, fun b hb => ?_, q⟩
    have e : b = s1.heap.objs.size := by simpa using hb
    subst e
    exact I1.fpOk (Nat.le_refl _) (I1.hok.fresh (Nat.le_refl _))
  · subst e
    obtain ⟨t, rfl⟩ := r1
    cases ha : z.cps.all (· < 128)
    · exact wpAny_pyIter_wide ha (pi_one (tk := s1.toks) I1 _ (turn_str _ z t "str_iterator" (.inr rfl)) ⟨_, Heap.get?_push_size _ rfl, rfl, rfl⟩ q)
    · exact wpAny_pyIter_ascii ha (pi_one (tk := s1.toks) I1 _ (turn_str _ z t "str_ascii_iterator" (.inl rfl)) ⟨_, Heap.get?_push_size _ rfl, rfl, rfl⟩ q)
/-- the items of a list, a tuple, a text -/
@[simp] def itemsD (Q : List D → Prop) : D → Prop
  | .lst xs => Q xs
  | .tup xs => Q xs
  | .str z => z.length ≤ sizeLine ∧ Q (z.cps.toList.map fun c => .str ⟨#[c]⟩)
  | _ => False
theorem itemsD.imp {Q Q' : List D → Prop} (h : ∀ b, Q b → Q' b) : ∀ d, itemsD Q d → itemsD Q' d := fun d q => by
  cases d <;> first | exact h _ q | exact ⟨q.1, h _ q.2⟩ | exact q.elim
@[simp] def tItems (t : T) : TAd := fun ρ Q E => t ρ (itemsD Q) E
theorem tItems.mono (m : Mono t) : MonoA (tItems t) := ⟨fun h he q => m.r (itemsD.imp h) he q⟩
theorem wk_l {K : PySem.W.Frag} {a : Addr} {vs : List V} {ds : List D} {B H : Hp} (g : Good S B H) (h : H a = some (.lst vs)) (r : RpA K B vs ds) : Wk K S (Itl K a) ds B H := by
  have uniq : ∀ ws, SqL K H a ws → (∃ o, K.lookup a = some o) ∨ ws = vs := fun ws hw => by
    rcases hw with (hw | ⟨o, hw⟩) | ⟨o, _, _, hw, _⟩
    · rw [h] at hw; cases hw; exact .inr rfl
    · rw [h] at hw; cases hw
    · exact .inl ⟨o, hw⟩
  refine fun i => ⟨fun d hd => ?_, fun hi => ⟨vs, SqL.of h, by rw [r.length]; exact hi⟩⟩
  obtain ⟨v, hv, rv⟩ := r.get hd
  refine ⟨⟨vs, v, SqL.of h, hv⟩, fun x H' y => ?_⟩
  obtain ⟨rfl, y⟩ := y
  have e := y vs (SqL.of h)
  rw [hv] at e; cases e
  exact ⟨B, g.le, rv⟩
theorem wk_t {K : PySem.W.Frag} {a : Addr} {vs : List V} {ds : List D} {B H : Hp} (g : Good S B H) (h : SqT K H a vs) (r : RpA K B vs ds) : Wk K S (Itt K a) ds B H := by
  refine fun i => ⟨fun d hd => ?_, fun hi => ⟨vs, h, by rw [r.length]; exact hi⟩⟩
  obtain ⟨v, hv, rv⟩ := r.get hd
  refine ⟨⟨vs, v, h, hv⟩, fun x H' y => ?_⟩
  obtain ⟨rfl, y⟩ := y
  have e := y vs h
  rw [hv] at e; cases e
  exact ⟨B, g.le, rv⟩
theorem wk_s {K : PySem.W.Frag} {z : Str} {B H : Hp} (g : Good S B H) : Wk K S (Its z) (z.cps.toList.map fun c => .str ⟨#[c]⟩) B H := by
  refine fun i => ⟨fun d hd => ?_, fun hi => by simpa [Its] using hi⟩
  rw [List.getElem?_map, Array.getElem?_toList] at hd
  obtain ⟨c, hc, rfl⟩ := Option.map_eq_some_iff.mp hd
  have hl : i < z.cps.size := by
    rcases Nat.lt_or_ge i z.cps.size with q | q
    · exact q
    · rw [Array.getElem?_eq_none q] at hc; cases hc
  refine ⟨hl, fun x H' y => ?_⟩
  obtain ⟨rfl, c', hc', rfl⟩ := y
  rw [hc] at hc'; cases hc'
  exact ⟨B, g.le, .str _⟩
theorem di_of (h : DE X S Ex e t) : DI X S Ex tg e (tItems t) := by
  refine ⟨PI.imp (pi_any h.pe) fun σ H Q ⟨B, ρ, G, SO, q⟩ => ?_, tItems.mono h.mono⟩
  refine ⟨B, ρ, G, SO, h.mono.r (fun d hd v B1 H1 l1 r1 => ?_) (fun _ z => z) q⟩
  have G1 := l1.good G
  cases d with
  | lst ds =>
    have hz := At.len (Rp.at r1 G1)
    cases r1 with
    | @lst a vs _ h1 _ r =>
    exact .inl ⟨a, rfl, ⟨vs, SqL.of (G1.sub _ _ h1).lst⟩, hd _ B1 H1 l1 ⟨hz, fun B2 H2 k g => wk_l g (g.sub _ _ (k _ _ h1)).lst (r.mono k)⟩⟩
  | tup ds =>
    have hz := Rp.lenT r1
    cases r1 with
    | @tup a vs _ h1 _ r =>
    exact .inr (.inl ⟨a, rfl, ⟨vs, G1.sub.sqT h1⟩, hd _ B1 H1 l1 ⟨hz, fun B2 H2 k g => wk_t g (g.sub.sqT (h1.imp (k _ _) id)) (r.mono k)⟩⟩)
  | str z => cases r1; exact .inr (.inr ⟨z, rfl, hd.2 _ B1 H1 l1 ⟨by rw [List.length_map]; exact hd.1, fun B2 H2 k g => wk_s g⟩⟩)
  | _ => exact hd.elim
theorem dib_of (h : DB X S Ex e t) : DIB X S Ex tg e (tItems t) := by
  refine ⟨PI.imp (pi_any h.pe) fun σ H Q ⟨B, ρ, G, SO, q⟩ => ?_, tItems.mono h.mono⟩
  refine ⟨B, ρ, G, SO, h.mono.r (fun d hd v B1 H1 l1 r1 => ?_) (fun _ z => z) q⟩
  have G1 := l1.good G
  cases d with
  | lst ds =>
    have hz := At.len r1
    have r1' : At X.K S B1 H1 v (.lst ds) := r1
    obtain ⟨a, vs, rfl, e1, r⟩ := At.lst r1
    refine .inl ⟨a, rfl, ⟨vs, SqL.of e1⟩, hd _ B1 H1 l1 ⟨hz, fun B2 H2 l2 g => ?_⟩⟩
    obtain ⟨a', vs', ea, e2, r'⟩ := At.lst (r1'.le l2)
    cases ea
    exact wk_l g e2 r'
  | tup ds =>
    have r1 : Rp X.K B1 v (.tup ds) := r1
    have hz := Rp.lenT r1
    cases r1 with
    | @tup a vs _ h1 _ r =>
    exact .inr (.inl ⟨a, rfl, ⟨vs, G1.sub.sqT h1⟩, hd _ B1 H1 l1 ⟨hz, fun B2 H2 l2 g => wk_t g (g.sub.sqT (h1.imp (l2.base _ _) id)) (r.mono l2.base)⟩⟩)
  | str z => cases r1; exact .inr (.inr ⟨z, rfl, hd.2 _ B1 H1 l1 ⟨by rw [List.length_map]; exact hd.1, fun B2 H2 k g => wk_s g⟩⟩)
  | _ => exact hd.elim
/-- range(n), range(a, b) -/
def rngL (lo : Int) (n : Nat) : List D := (List.range n).map fun i => .int (lo + (i : Nat))
@[simp] def rng1 (Q : List D → Prop) : List D → Prop
  | [.int j] => (-(2 ^ 62) ≤ j ∧ j < 2 ^ 62 ∧ j.toNat ≤ sizeLine) ∧ Q (rngL 0 j.toNat)
  | _ => False
theorem rng1.imp {Q Q' : List D → Prop} (h : ∀ b, Q b → Q' b) : ∀ d, rng1 Q d → rng1 Q' d := fun d q => by
  unfold rng1 at *
  split at q
  · exact ⟨q.1, h _ q.2⟩
  · exact q.elim
@[simp] def tRng1 (tr : TAd) : TAd := fun ρ Q E => tr ρ (rng1 Q) E
theorem wk_r {K : PySem.W.Frag} {lo : Int} {n : Nat} {B H : Hp} (g : Good S B H) : Wk K S (Itr lo n) (rngL lo n) B H := by
  refine fun i => ⟨fun d hd => ?_, fun hi => by simpa [Itr, rngL] using hi⟩
  unfold rngL at hd
  rw [List.getElem?_map] at hd
  obtain ⟨j, hj, rfl⟩ := Option.map_eq_some_iff.mp hd
  obtain ⟨hl, hj⟩ := List.getElem?_eq_some_iff.mp hj
  rw [List.getElem_range] at hj
  subst hj
  refine ⟨by show i < n; simpa using hl, fun x H' y => ?_⟩
  obtain ⟨rfl, rfl⟩ := y
  exact ⟨B, g.le, .int _⟩
theorem di_rng1G {R : RelI} (hR : ∀ B H J ds, ds.length ≤ sizeLine → (∀ B H, Good S B H → Wk X.K S J ds B H) → R B H J ds) (hg : Gl X "range") (hm : X.mg "range" = none) (ha : DAB X S Ex [a] tr) (hs : starEach [a] X.env = [(false, eval a X.env)] := by rfl) : DIR X S Ex R tg (.Call (.Name "range" p) [a] [] pos) (tRng1 tr) := by
  refine ⟨PI.imp (pi_range1 hg hm ha.pa hs) fun σ H Q ⟨B, ρ, G, SO, q⟩ => ?_, ⟨fun h he q => ha.mono.r (rng1.imp h) he q⟩⟩
  refine ⟨B, ρ, G, SO, ha.mono.r (fun ds hd vs B1 H1 l1 r1 => ?_) (fun _ z => z) q⟩
  unfold rng1 at hd
  split at hd
  · rename_i j
    cases r1 with | cons h1 h2 =>
    cases h2; cases h1
    exact ⟨j, rfl, hd.1.1, hd.1.2.1, hd.2 _ B1 H1 l1 (hR _ _ _ _ (by simp only [rngL, List.length_map, List.length_range]; exact hd.1.2.2) fun B H g => wk_r g)⟩
  · exact hd.elim
theorem di_rng1 (hg : Gl X "range") (hm : X.mg "range" = none) (ha : DAB X S Ex [a] tr) (hs : starEach [a] X.env = [(false, eval a X.env)] := by rfl) : DI X S Ex tg (.Call (.Name "range" p) [a] [] pos) (tRng1 tr) :=
  di_rng1G (fun B H J ds hz h => ⟨hz, fun B2 H2 _ g => h B2 H2 g⟩) hg hm ha hs
theorem dib_rng1 (hg : Gl X "range") (hm : X.mg "range" = none) (ha : DAB X S Ex [a] tr) (hs : starEach [a] X.env = [(false, eval a X.env)] := by rfl) : DIB X S Ex tg (.Call (.Name "range" p) [a] [] pos) (tRng1 tr) :=
  di_rng1G (fun B H J ds hz h => ⟨hz, fun B2 H2 _ g => h B2 H2 g⟩) hg hm ha hs
/-- zip(xs, ys) of two lists, in a comprehension -/
def zipL (xs ys : List D) : List D := (xs.zip ys).map fun p => .tup [p.1, p.2]
@[simp] def zipD (Q : List D → Prop) : List D → Prop
  | [.lst xs, .lst ys] => Q (zipL xs ys)
  | _ => False
theorem zipD.imp {Q Q' : List D → Prop} (h : ∀ b, Q b → Q' b) : ∀ d, zipD Q d → zipD Q' d := fun d q => by
  unfold zipD at *
  split at q
  · exact h _ q
  · exact q.elim
@[simp] def tZip (tr : TAd) : TAd := fun ρ Q E => tr ρ (zipD Q) E
theorem zipL_get {xs ys : List D} {i : Nat} {d : D} (h : (zipL xs ys)[i]? = some d) : ∃ x y, xs[i]? = some x ∧ ys[i]? = some y ∧ d = .tup [x, y] := by
  unfold zipL at h
  rw [List.getElem?_map] at h
  obtain ⟨p, hp, rfl⟩ := Option.map_eq_some_iff.mp h
  rw [List.getElem?_zip_eq_some] at hp
  exact ⟨p.1, p.2, hp.1, hp.2, rfl⟩
theorem wk_z {K : PySem.W.Frag} {a b : Addr} {vs ws : List V} {ds es : List D} {B H : Hp} (g : Good S B H) (h : H a = some (.lst vs)) (r : RpA K B vs ds) (h' : H b = some (.lst ws)) (r' : RpA K B ws es) : Wk K S (Itz K a b) (zipL ds es) B H := by
  refine fun i => ⟨fun d hd => ?_, fun hi => ⟨vs, ws, SqL.of h, SqL.of h', ?_⟩⟩
  · obtain ⟨x, y, hx, hy, rfl⟩ := zipL_get hd
    obtain ⟨v, hv, rv⟩ := r.get hx
    obtain ⟨w, hw, rw'⟩ := r'.get hy
    refine ⟨⟨vs, ws, v, w, SqL.of h, SqL.of h', hv, hw⟩, fun u H' q => ?_⟩
    obtain ⟨T, x2, y2, rfl, hT, rfl, hx2, hy2⟩ := q
    have e1 := hx2 vs (SqL.of h)
    have e2 := hy2 ws (SqL.of h')
    rw [hv] at e1; cases e1
    rw [hw] at e2; cases e2
    refine ⟨_, Le.laid g hT, .tup (.inl upd_same) (by rw [sizeLine_eq]; exact (by decide : 2 ≤ 16777216)) ?_⟩
    have k : Keep B (upd B T (.tup [v, w])) := fun b u z => by rw [upd_ne (ne_of_none z (g.bnone hT))]; exact z
    exact .cons (rv.mono k) (.cons (rw'.mono k) .nil)
  · rw [r.length, r'.length]
    simp only [zipL, List.length_map, List.length_zip] at hi
    omega
theorem dib_zip {e2 : Expr} {elts : List Expr} {kk : Nat} {tpos : Pos} (hg : Gl X "zip") (hm : X.mg "zip" = none) (ha : DAB X S Ex [e, e2] tr)
    (hs : starEach [e, e2] X.env = (false, eval e X.env) :: starEach [e2] X.env := by rfl) (hpl : (backTo pos (starEach [e2] X.env)).any (·.1) = false := by rfl) : DIB X S Ex (.Tuple elts kk tpos) (.Call (.Name "zip" p) [e, e2] [] pos) (tZip tr) := by
  refine ⟨PI.imp (pi_zip hg hm ha.pa hs hpl) fun σ H Q ⟨B, ρ, G, SO, q⟩ => ?_, ⟨fun h he q => ha.mono.r (zipD.imp h) he q⟩⟩
  refine ⟨B, ρ, G, SO, ha.mono.r (fun ds hd vs B1 H1 l1 r1 => ?_) (fun _ z => z) q⟩
  unfold zipD at hd
  split at hd
  · rename_i xs ys
    cases r1 with | cons h1 h2 =>
    cases h2 with | cons h2 h3 =>
    cases h3
    have hz := h1.len
    have k1 := h1
    have k2 := h2
    obtain ⟨a, vs, rfl, e1, r⟩ := h1.lst
    obtain ⟨b, ws, rfl, e2, r'⟩ := h2.lst
    refine ⟨a, b, vs, ws, rfl, SqL.of e1, SqL.of e2, hd _ B1 H1 l1 ⟨?_, fun B2 H2 l2 g => ?_⟩⟩
    · simp only [zipL, List.length_map, List.length_zip]; omega
    · obtain ⟨a', vs', ea, e3, r3⟩ := (k1.le l2).lst
      obtain ⟨b', ws', eb, e4, r4⟩ := (k2.le l2).lst
      cases ea; cases eb
      exact wk_z g e3 r3 e4 r4
  · exact hd.elim
end
end DL

set_option Elab.async false
set_option linter.all false
set_option maxRecDepth 100000
set_option maxHeartbeats 1000000
/-! DL, part h: comprehensions. -/
namespace DL
open PySem PySem.Spec PyProof.Rows L2

def NoE : Exn → Prop := fun _ => False
def E0x : L2.St → XK := fun _ _ _ _ => False
theorem exW0 {K : PySem.W.Frag} {S : List Addr} {B H : Hp} {σ : L2.St} {x : Exn} (h : NoE x) : ExW K S (E0x σ) B H x := h.elim
/-- [elt for τ in ds if tt] -/
def compD (τ : Tgt) (tt : TB) (te : T) : List D → DEnv → (List D → Prop) → Prop
  | [], _, Q => Q []
  | d :: ds, ρ, Q => match asg τ d ρ with
    | some ρ' => tt ρ' (fun b => match b with
      | true => te ρ' (fun y => compD τ tt te ds ρ fun ys => Q (y :: ys)) NoE
      | false => compD τ tt te ds ρ Q) NoE
    | none => False
theorem compD.imp {τ : Tgt} {tt : TB} {te : T} (mt : MonoB tt) (me : Mono te) : ∀ {ds : List D} {ρ : DEnv} {Q Q' : List D → Prop}, (∀ ys, Q ys → Q' ys) → compD τ tt te ds ρ Q → compD τ tt te ds ρ Q'
  | [], _, _, _, h, q => h _ q
  | d :: ds, ρ, Q, Q', h, q => by
    unfold compD at *
    split at q
    · refine mt.r (fun b q => ?_) (fun _ z => z) q
      cases b with
      | true => exact me.r (fun y q => compD.imp mt me (fun ys q => h _ q) q) (fun _ z => z) q
      | false => exact compD.imp mt me h q
    · exact q.elim
structure DTs (X : Cx) (S : List Addr) (Ex : L2.St → XK) (es : List Expr) (t : TB) : Prop where
  pts : PTs X es (liftT X.K S Ex t)
  mono : MonoB t
@[simp] def tYesD : TB := fun _ Q _ => Q true
theorem PTs.imp {X : Cx} {e : List Expr} {t t' : TT} (h : PTs X e t) (k : ∀ σ H Q, t' σ H Q → t σ H Q) : PTs X e t' := ⟨fun pins s σ H Q I q => h.run pins s σ H Q I (k σ H Q q)⟩
section
variable {X : Cx} {S : List Addr} {Ex : L2.St → XK}
theorem dts_nil : DTs X S Ex [] tYesD := ⟨PTs.imp pts_nil fun σ H Q ⟨B, ρ, G, SO, q⟩ => q B H G.le, ⟨fun h _ q => h _ q⟩⟩
theorem dts_one {c : Expr} {t : TB} (h : DT X S Ex c t) : DTs X S Ex [c] t := ⟨pts_one h.pt, h.mono⟩
/-- an object of ours is written -/
theorem Le.poke {B H B1 H1 : Hp} (l : Le S B H B1 H1) (g : Good S B H) {p : Addr} {o : HO} (hp : H p = none) (hb : B1 p = none) : Le S B H B1 (upd H1 p o) := by
  refine ⟨l.base, l.new, fun b u h hs => ?_, fun b u h => ?_, fun a ha => ?_⟩
  · rw [upd_ne (ne_of_none h hp)]; exact l.heap b u h hs
  · rw [upd_ne (ne_of_none h hb)]; exact l.sub b u h
  · obtain ⟨x, y, z, q, r⟩ := l.src a ha
    obtain ⟨_, x', y', z', q', _⟩ := g.src a ha
    exact ⟨x, y, z, by rw [upd_ne (ne_of_none q' hp)]; exact q, r⟩
theorem Cd.blk (C : Cd X Ex) {s : Shared} {H : Hp} {scope : Scope} {cenv : Env} {fp : List Addr} : Cd (X.blk s H scope cenv fp) E0x :=
  ⟨C.calm, C.hu, fun σ pins H s e s' I h => by
    obtain ⟨_, _, _, _, _, _, _, _, _, _, _, _, z⟩ := h
    exact z.elim, C.nd⟩
@[simp] def tComp (τ : Tgt) (tt : TB) (te : T) (vs : List Nat) (ti : TAd) : T := fun ρ Q E => ti ρ (fun ds => compD τ tt te ds (wipeD ρ vs) fun ys => Q (.lst ys)) E
theorem comp_core {K : PySem.W.Frag} {τ : Tgt} {tt : TB} {te : T} {vs : List Nat} (mt : MonoB tt) (me : Mono te) (hv : ∀ i ∈ vars τ, i ∈ vs) {σ : L2.St} {ρ : DEnv} {B1 H1 : Hp} {J : It} {ds : List D} {Qf : List D → Prop} {D0 : Addr} {Q : Hp → Prop}
    (G1 : Good S B1 H1) (SO : SlotsOk K S B1 H1 σ ρ) (wk : riB K S B1 H1 J ds) (hD : H1 D0 = none) (q : compD τ tt te ds (wipeD ρ vs) Qf)
    (fin : ∀ B H ys ws, Le S B1 H1 B H → B D0 = none → H D0 = some (.lst ws) → ws.length ≤ sizeLine → RpA K B ws ys → Qf ys → Q H) :
    ∃ W : Nat → Nat → Hp → Prop, (∃ m, W 0 m (upd H1 D0 (.lst []))) ∧ ∀ i m H, W i m H →
      (J.stop i H ∧ Q H) ∨ (J.go i H ∧ ∃ Nx : Hp → Prop, (∀ H', Nx H' → ∃ m', m' < m ∧ W (i + 1) m' H') ∧ ∀ x H', J.yld i H x H' → gOf K τ x (wipe σ vs) H' fun σ2 H2 => wipe σ2 vs = wipe σ vs ∧ liftT K S E0x tt σ2 H2 fun b H3 =>
        if b = true then lift K S E0x (rP K) te σ2 H3 fun y H4 => ∃ acc, H4 D0 = some (.lst acc) ∧ acc.length < sizeLine ∧ Nx (upd H4 D0 (.lst (acc ++ [y]))) else Nx H3) := by
  obtain ⟨hlen, wk⟩ := wk
  have hDS : D0 ∉ S := fun z => by
    obtain ⟨_, x, y, z, q, _⟩ := G1.src D0 z
    rw [hD] at q; cases q
  let P : Nat → Hp → Prop := fun i H => ∃ B ys ws, Le S B1 H1 B H ∧ B D0 = none ∧ H D0 = some (.lst ws) ∧ RpA K B ws ys ∧ ys.length ≤ i ∧ compD τ tt te (ds.drop i) (wipeD ρ vs) (fun zs => Qf (ys ++ zs))
  refine ⟨fun i m H => m = ds.length - i ∧ i ≤ ds.length ∧ P i H, ⟨ds.length, by simp, Nat.zero_le _, B1, [], [], Le.beside G1 hD, G1.bnone hD, upd_same, .nil, Nat.le_refl _, by simpa using q⟩, ?_⟩
  rintro i m H ⟨rfl, hi, B, ys, ws, l, hb, hw, rw', hy, q⟩
  have G := l.good G1
  have w := wk B H l G i
  rcases Nat.lt_or_ge i ds.length with hlt | hge
  · have hd : ds[i]? = some ds[i] := List.getElem?_eq_getElem hlt
    obtain ⟨go, yld⟩ := w.1 _ hd
    refine .inr ⟨go, P (i + 1), fun H' p => ⟨ds.length - (i + 1), by omega, rfl, hlt, p⟩, fun x H' y => ?_⟩
    obtain ⟨B', l', rx⟩ := yld x H' y
    have G' := l'.good G
    rw [List.drop_eq_getElem_cons hlt] at q
    unfold compD at q
    split at q
    · rename_i ρ' ea
      have SO' := ((SO.le l).le l').wipe vs
      refine asg_ok τ _ x _ _ ρ' G' SO' rx ea _ fun σ2 s2 hw2 => ⟨?_, ?_⟩
      · rw [hw2 vs hv]
        apply List.ext_getElem?
        intro j
        rw [wipe_get, wipe_get, wipe_length]
        by_cases e : j ∈ vs ∧ j < σ.length
        · rw [if_pos e, if_pos e]
        · rw [if_neg e, if_neg e]
      · refine ⟨B', ρ', G', s2, mt.r (fun b hq B2 H2 l2 => ?_) (fun x z => exW0 z) q⟩
        have lw : Le S B H B2 H2 := l'.trans l2
        have hw2' : H2 D0 = some (.lst ws) := lw.heap _ _ hw hDS
        have hb2 : B2 D0 = none := lw.bnone hb (by rw [hw]; exact fun z => nomatch z)
        have G2 := l2.good G'
        cases b with
        | false => exact iteF ⟨B2, ys, ws, l.trans lw, hb2, hw2', rw'.mono lw.base, by omega, hq⟩
        | true =>
          refine iteT ⟨B2, ρ', G2, s2.le l2, me.r (fun y hq v B3 H3 l3 r3 => ?_) (fun x z => exW0 z) hq⟩
          have hw3 : H3 D0 = some (.lst ws) := l3.heap _ _ hw2' hDS
          have hb3 : B3 D0 = none := l3.bnone hb2 (by rw [hw2']; exact fun z => nomatch z)
          refine ⟨ws, hw3, by rw [rw'.length]; omega, B3, ys ++ [y], ws ++ [v], Le.poke ((l.trans lw).trans l3) G1 hD hb3, hb3, upd_same, (rw'.mono (lw.base.trans l3.base)).append (.cons r3 .nil), by rw [List.length_append]; show ys.length + 1 ≤ i + 1; omega, ?_⟩
          exact compD.imp mt me (fun zs h => by rw [List.append_assoc]; exact h) hq
    · exact q.elim
  · have e : i = ds.length := by omega
    subst e
    refine .inl ⟨w.2 (Nat.le_refl _), ?_⟩
    rw [List.drop_length] at q
    have q' : Qf (ys ++ []) := q
    rw [List.append_nil] at q'
    exact fin B H ys ws l hb hw (by rw [rw'.length]; omega) rw' q'
theorem df_lc {elt tg iter : Expr} {ifs : List Expr} {scope : Scope} {own : List (Str × Nat)} {pos : Pos} {τ : Tgt} {tt : TB} {te : T} {ti : TAd} (C : Cd X Ex) (hi : DIB X S Ex tg iter ti) (ok : BlkOk X.N X.env.scope scope own) (hv : ∀ i ∈ vars τ, i ∈ own.map (·.2))
    (hg : ∀ (s : Shared) (H : Hp) (C : Addr) (cl : List (Str × Addr)) (fp : List Addr), DG (X.blk s H scope (compEnvC scope cl C X.env) fp) tg τ) (ht : ∀ (s : Shared) (H : Hp) (C : Addr) (cl : List (Str × Addr)) (fp : List Addr), DTs (X.blk s H scope (compEnvC scope cl C X.env) fp) S E0x ifs tt)
    (he : ∀ (s : Shared) (H : Hp) (C : Addr) (cl : List (Str × Addr)) (fp : List Addr), DE (X.blk s H scope (compEnvC scope cl C X.env) fp) S E0x elt te) (hs : ∀ x, foldedSetIterable iter X.env x = pure x := by intro _; rfl) :
    DF X S Ex (.ListComp elt [⟨tg, iter, ifs, 0⟩] scope pos) (tComp τ tt te (own.map (·.2)) ti) := by
  have mt : MonoB tt := (ht X.s_0 X.H_0 0 [] []).mono
  have me : Mono te := (he X.s_0 X.H_0 0 [] []).mono
  refine ⟨PE.imp (pe_lc (g := gOf X.K τ) (tt := liftT X.K S E0x tt) (te := lift X.K S E0x (rP X.K) te) C.calm C.nd hi.pi ok hg (fun s H C cl fp => (ht s H C cl fp).pts) (fun s H C cl fp => (he s H C cl fp).pe) hs) (lift.one fun σ B ρ H Q G SO q => ?_), ⟨fun h he q => hi.mono.r (fun ds q => compD.imp mt me (fun ys q => h _ q) q) he q⟩⟩
  refine ⟨B, ρ, G, SO, hi.mono.r (fun ds hd J B1 H1 l1 wk D0 hD => ?_) (fun _ z => z) q⟩
  have G1 := l1.good G
  exact comp_core mt me hv G1 (SO.le l1) wk hD hd fun B2 H2 ys ws l2 hb hw hl r hq => hq _ B2 H2 (l1.trans l2) ⟨D0, rfl, l1.old hD, hb, ws, hw, hl, r⟩

/-! ### over the keys of a dict -/
theorem PE.or {e : Expr} {t t' : TE} (h : PE X e t) (h' : PE X e t') : PE X e (fun σ H Q => t σ H Q ∨ t' σ H Q) := ⟨fun pins s σ H Q I q => q.elim (h.run pins s σ H Q I) (h'.run pins s σ H Q I)⟩
def kD : Key → D
  | .inl i => .int i
  | .inr x => .str x
theorem kV_rp {K : PySem.W.Frag} {B : Hp} (k : Key) : Rp K B (kV k) (kD k) := by cases k <;> constructor
theorem RpK.getK {K : PySem.W.Frag} {B : Hp} : ∀ {kds : List (Key × D)} {kvs : List (Key × V)} {i : Nat} {d : D}, RpK K B kvs kds → (kds.map fun p => kD p.1)[i]? = some d → ∃ k v, kvs[i]? = some (k, v) ∧ d = kD k
  | [], _, _, _, .nil, h => by simp at h
  | (k, d) :: kds, _, 0, e, .cons (v := v) h t, q => by
    simp at q
    exact ⟨k, v, rfl, q.symm⟩
  | (k, d) :: kds, _, i + 1, e, .cons h t, q => by
    simp only [List.map_cons, List.getElem?_cons_succ] at q
    obtain ⟨k', v', h1, h2⟩ := RpK.getK t q
    exact ⟨k', v', by simpa using h1, h2⟩
theorem wk_k {K : PySem.W.Frag} {d : Addr} {o : Obj} {kvs : List (Key × V)} {kds : List (Key × D)} {B H : Hp} (g : Good S B H) (h : H d = some (.frz o (.dK kvs))) (r : RpK K B kvs kds) : Wk K S (Itk d o kvs) (kds.map fun p => kD p.1) B H := by
  refine fun i => ⟨fun e he => ?_, fun hi => ⟨h, by rw [r.length]; simpa using hi⟩⟩
  obtain ⟨k, v, h1, rfl⟩ := r.getK he
  have hl : i < kvs.length := (List.getElem?_eq_some_iff.mp h1).1
  refine ⟨⟨h, hl⟩, fun x H' y => ?_⟩
  obtain ⟨rfl, k', v', h2, rfl⟩ := y
  rw [h1] at h2; cases h2
  exact ⟨B, g.le, kV_rp _⟩
/-- a dict of the persistent part is locked -/
theorem Good.lock {B H : Hp} {d : Addr} {o : Obj} {kvs : List (Key × V)} (g : Good S B H) (hb : B d = some (.dK kvs)) (h : H d = some (.dK kvs)) : Good S B (upd H d (.frz o (.dK kvs))) := by
  refine ⟨fun b u q => ?_, fun a ha => ⟨(g.src a ha).1, ?_⟩⟩
  · by_cases e : b = d
    · subst e; rw [hb] at q; cases q; exact .inr ⟨o, kvs, rfl, upd_same⟩
    · rw [upd_ne e]; exact g.sub b u q
  · obtain ⟨h1, x, y, z, q, r⟩ := g.src a ha
    have e : a ≠ d := fun e => by subst e; rw [h1] at hb; cases hb
    exact ⟨x, y, z, by rw [upd_ne e]; exact q, r⟩
theorem SlotsOk.lock {K : PySem.W.Frag} {B H : Hp} {σ : L2.St} {ρ : DEnv} {d : Addr} {o : HO} {u : HO} (s : SlotsOk K S B H σ ρ) (hb : B d = some u) : SlotsOk K S B (upd H d o) σ ρ := by
  refine ⟨s.len, fun i x e => ?_, s.own, s.src⟩
  obtain ⟨v, h1, h2⟩ := s.at_ i x e
  refine ⟨v, h1, ?_⟩
  cases x with
  | p _ => exact h2
  | o e =>
    obtain ⟨l, rfl, hl, ow⟩ := h2
    have ne : l ≠ d := fun z => by subst z; rw [hl] at hb; cases hb
    refine ⟨l, rfl, hl, ow.mono (.refl _) fun u q => by rw [upd_ne ne]; exact q⟩
theorem Le.unlock {B H B' H' : Hp} {d : Addr} {o : Obj} {kvs : List (Key × V)} (hb : B d = some (.dK kvs)) (h : H d = some (.dK kvs)) (g : Good S B H) (l : Le S B (upd H d (.frz o (.dK kvs))) B' H') : H' d = some (.frz o (.dK kvs)) ∧ Le S B H B' (upd H' d (.dK kvs)) := by
  have hS : d ∉ S := g.notS hb
  refine ⟨l.heap d _ upd_same hS, l.base, fun b u q => ?_, fun b u q hs => ?_, fun b u q => ?_, fun a ha => ?_⟩
  · rcases l.new b u q with z | z
    · exact .inl z
    · refine .inr ?_
      by_cases e : b = d
      · subst e; rw [upd_same] at z; cases z
      · rw [upd_ne e] at z; exact z
  · by_cases e : b = d
    · subst e; rw [h] at q; cases q; exact upd_same
    · rw [upd_ne e]; exact l.heap b u (by rw [upd_ne e]; exact q) hs
  · by_cases e : b = d
    · subst e
      rw [l.base b _ hb] at q; cases q
      exact .inl upd_same
    · rw [upd_ne e]; exact l.sub b u q
  · obtain ⟨x, y, z, q, r⟩ := l.src a ha
    have e : a ≠ d := fun e => hS (e ▸ ha)
    exact ⟨x, y, z, by rw [upd_ne e]; exact q, r⟩
/-- the dict in slot i: its keys -/
@[simp] def keysI (i : Nat) (Q : List D → Prop) (ρ : DEnv) : Prop := match ρ[i]? with
  | some (some (.p (.dct kds))) => Q (kds.map fun p => kD p.1)
  | _ => False
theorem keysI.imp {i : Nat} {ρ : DEnv} {Q Q' : List D → Prop} (h : ∀ ys, Q ys → Q' ys) (q : keysI i Q ρ) : keysI i Q' ρ := by
  unfold keysI at *
  split at q
  · exact h _ q
  · exact q.elim
@[simp] def tCompK (i : Nat) (τ : Tgt) (tt : TB) (te : T) (vs : List Nat) : T := fun ρ Q _ => keysI i (fun ds => compD τ tt te ds (wipeD ρ vs) fun ys => Q (.lst ys)) ρ
theorem df_lcK (i : Nat) {x : Str} {p0 : Pos} {elt tg : Expr} {ifs : List Expr} {scope : Scope} {own : List (Str × Nat)} {pos : Pos} {τ : Tgt} {tt : TB} {te : T} (C : Cd X Ex) (ok : BlkOk X.N X.env.scope scope own) (hv : ∀ i ∈ vars τ, i ∈ own.map (·.2))
    (hg : ∀ (s : Shared) (H : Hp) (C : Addr) (cl : List (Str × Addr)) (fp : List Addr), DG (X.blk s H scope (compEnvC scope cl C X.env) fp) tg τ) (ht : ∀ (s : Shared) (H : Hp) (C : Addr) (cl : List (Str × Addr)) (fp : List Addr), DTs (X.blk s H scope (compEnvC scope cl C X.env) fp) S E0x ifs tt)
    (he : ∀ (s : Shared) (H : Hp) (C : Addr) (cl : List (Str × Addr)) (fp : List Addr), DE (X.blk s H scope (compEnvC scope cl C X.env) fp) S E0x elt te) (hs : ∀ y, foldedSetIterable (.Name x p0) X.env y = pure y := by intro _; rfl)
    (hN : X.N[i]? = some x := by rfl) (hvi : Vis X.env.scope x := by first | exact Or.inl rfl | exact Or.inr (Or.inl rfl) | exact Or.inr (Or.inr rfl)) (hd : (x == ("__debug__" : Str)) = false := by decide) (hcd : (x == ("__classdict__" : Str)) = false := by decide) :
    DF X S Ex (.ListComp elt [⟨tg, .Name x p0, ifs, 0⟩] scope pos) (tCompK i τ tt te (own.map (·.2))) := by
  have mt : MonoB tt := (ht X.s_0 X.H_0 0 [] []).mono
  have me : Mono te := (he X.s_0 X.H_0 0 [] []).mono
  have lc := pe_lc (g := gOf X.K τ) (tt := liftT X.K S E0x tt) (te := lift X.K S E0x (rP X.K) te) (pos := pos) C.calm C.nd (pi_keys (pv (pos := p0) i hN hvi hd hcd)) ok hg (fun s H C cl fp => (ht s H C cl fp).pts) (fun s H C cl fp => (he s H C cl fp).pe) hs
  refine ⟨PE.imp (PE.or (pe_lock lc) lc) (lift.one fun σ B ρ H Q G SO q => ?_), ⟨fun h he q => keysI.imp (fun ds q => compD.imp mt me (fun ys q => h _ q) q) q⟩⟩
  have q : keysI i _ ρ := q
  unfold keysI at q
  split at q
  · rename_i kds e
    obtain ⟨v, h1, h2⟩ := SO.at_ i _ e
    have h2 : Rp X.K B v (.dct kds) := h2
    cases h2 with
    | @dct d kvs _ hb hl r =>
    have hlen : (kds.map fun p => kD p.1).length ≤ sizeLine := by rw [List.length_map, ← r.length]; exact hl
    rcases G.sub _ _ hb with hH | ⟨o, kvs', e', hH⟩
    · refine .inl ⟨d, _, hH, trivial, fun od => ?_⟩
      have G' := G.lock (o := od) hb hH
      have SO' := SO.lock (o := .frz od (.dK kvs)) hb
      refine ⟨_, h1, d, od, rfl, .inl ⟨kvs, upd_same, fun D0 hD => ?_⟩⟩
      have wk : riB X.K S B (upd H d (.frz od (.dK kvs))) (Itk d od kvs) (kds.map fun p => kD p.1) := ⟨hlen, fun B2 H2 l2 g => wk_k g (l2.heap d _ upd_same (G.notS hb)) (r.mono l2.base)⟩
      refine comp_core mt me hv G' SO' wk hD q fun B2 H2 ys ws l2 hb2 hw hl2 r2 hq => ?_
      obtain ⟨f1, l3⟩ := Le.unlock hb hH G l2
      refine ⟨f1, hq _ B2 _ l3 ⟨D0, rfl, ?_, hb2, ws, ?_, hl2, r2⟩⟩
      · by_cases e : D0 = d
        · subst e; rw [upd_same] at hD; cases hD
        · rw [upd_ne e] at hD; exact hD
      · have ne : D0 ≠ d := fun e => by subst e; rw [f1] at hw; cases hw
        rw [upd_ne ne]; exact hw
    · cases e'
      refine .inr ⟨_, h1, d, o, rfl, .inl ⟨kvs, hH, fun D0 hD => ?_⟩⟩
      have wk : riB X.K S B H (Itk d o kvs) (kds.map fun p => kD p.1) := ⟨hlen, fun B2 H2 l2 g => wk_k g (l2.heap d _ hH (G.notS hb)) (r.mono l2.base)⟩
      exact comp_core mt me hv G SO wk hD q fun B2 H2 ys ws l2 hb2 hw hl2 r2 hq => hq _ B2 _ l2 ⟨D0, rfl, hD, hb2, ws, hw, hl2, r2⟩
  · exact q.elim

/-! ### dict comprehensions -/
def dcD (τ : Tgt) (tt : TB) (tk tv : T) : List D → DEnv → List (Key × D) → (List (Key × D) → Prop) → Prop
  | [], _, acc, Q => Q acc
  | d :: ds, ρ, acc, Q => match asg τ d ρ with
    | some ρ' => tt ρ' (fun b => match b with
      | true => tk ρ' (fun y => tv ρ' (fun z => match keyD y with
        | some k => dcD τ tt tk tv ds ρ (pk acc k z) Q
        | none => False) NoE) NoE
      | false => dcD τ tt tk tv ds ρ acc Q) NoE
    | none => False
theorem dcD.imp {τ : Tgt} {tt : TB} {tk tv : T} (mt : MonoB tt) (mk : Mono tk) (mv : Mono tv) : ∀ {ds : List D} {ρ : DEnv} {acc : List (Key × D)} {Q Q' : List (Key × D) → Prop}, (∀ ys, Q ys → Q' ys) → dcD τ tt tk tv ds ρ acc Q → dcD τ tt tk tv ds ρ acc Q'
  | [], _, _, _, _, h, q => h _ q
  | d :: ds, ρ, acc, Q, Q', h, q => by
    unfold dcD at *
    split at q
    · refine mt.r (fun b q => ?_) (fun _ z => z) q
      cases b with
      | true =>
        refine mk.r (fun y q => mv.r (fun z q => ?_) (fun _ z => z) q) (fun _ z => z) q
        split at q
        · exact dcD.imp mt mk mv h q
        · exact q.elim
      | false => exact dcD.imp mt mk mv h q
    · exact q.elim
theorem pk_len (kds : List (Key × D)) (k : Key) (v : D) : (pk kds k v).length ≤ kds.length + 1 := by
  unfold pk
  split
  · rw [List.length_map]; omega
  · rw [List.length_append]; simp
@[simp] def tDcD (τ : Tgt) (tt : TB) (tk tv : T) (vs : List Nat) (ti : TAd) : T := fun ρ Q E => ti ρ (fun ds => dcD τ tt tk tv ds (wipeD ρ vs) [] fun ys => Q (.dct ys)) E
theorem df_dc {kx vx tg iter : Expr} {ifs : List Expr} {scope : Scope} {own : List (Str × Nat)} {pos : Pos} {τ : Tgt} {tt : TB} {tk tv : T} {ti : TAd} (C : Cd X Ex) (hi : DIB X S Ex tg iter ti) (ok : BlkOk X.N X.env.scope scope own) (hv : ∀ i ∈ vars τ, i ∈ own.map (·.2))
    (hg : ∀ (s : Shared) (H : Hp) (C : Addr) (cl : List (Str × Addr)) (fp : List Addr), DG (X.blk s H scope (compEnvC scope cl C X.env) fp) tg τ) (ht : ∀ (s : Shared) (H : Hp) (C : Addr) (cl : List (Str × Addr)) (fp : List Addr), DTs (X.blk s H scope (compEnvC scope cl C X.env) fp) S E0x ifs tt)
    (hk : ∀ (s : Shared) (H : Hp) (C : Addr) (cl : List (Str × Addr)) (fp : List Addr), DE (X.blk s H scope (compEnvC scope cl C X.env) fp) S E0x kx tk)
    (he : ∀ (s : Shared) (H : Hp) (C : Addr) (cl : List (Str × Addr)) (fp : List Addr), DE (X.blk s H scope (compEnvC scope cl C X.env) fp) S E0x vx tv) (hs : ∀ x, foldedSetIterable iter X.env x = pure x := by intro _; rfl) :
    DF X S Ex (.DictComp kx vx [⟨tg, iter, ifs, 0⟩] scope pos) (tDcD τ tt tk tv (own.map (·.2)) ti) := by
  have mt : MonoB tt := (ht X.s_0 X.H_0 0 [] []).mono
  have mk : Mono tk := (hk X.s_0 X.H_0 0 [] []).mono
  have mv : Mono tv := (he X.s_0 X.H_0 0 [] []).mono
  refine ⟨PE.imp (pe_dc (g := gOf X.K τ) (tt := liftT X.K S E0x tt) (tk := lift X.K S E0x (rP X.K) tk) (tv := lift X.K S E0x (rP X.K) tv) C.calm C.nd hi.pi ok hg (fun s H C cl fp => (ht s H C cl fp).pts) (fun s H C cl fp => (hk s H C cl fp).pe) (fun s H C cl fp => (he s H C cl fp).pe) hs) (lift.one fun σ B ρ H Q G SO q => ?_), ⟨fun h he q => hi.mono.r (fun ds q => dcD.imp mt mk mv (fun ys q => h _ q) q) he q⟩⟩
  refine ⟨B, ρ, G, SO, hi.mono.r (fun ds hd J B1 H1 l1 wk D0 hD => ?_) (fun _ z => z) q⟩
  have G1 := l1.good G
  obtain ⟨hlen, wk⟩ := wk
  have hDS : D0 ∉ S := fun z => by
    obtain ⟨_, x, y, z, q, _⟩ := G1.src D0 z
    rw [hD] at q; cases q
  let vs := own.map (·.2)
  let Qf : List (Key × D) → Prop := fun ys => ∀ (v : V) (B' H' : Hp), Le S B H B' H' → rF X.K H B' H' v (.dct ys) → Q v H'
  let P : Nat → Hp → Prop := fun i H => ∃ B ys ws, Le S B1 H1 B H ∧ B D0 = none ∧ H D0 = some (.dK ws) ∧ RpK X.K B ws ys ∧ ys.length ≤ i ∧ dcD τ tt tk tv (ds.drop i) (wipeD ρ vs) ys Qf
  refine ⟨fun i m H => m = ds.length - i ∧ i ≤ ds.length ∧ P i H, ⟨ds.length, by simp, Nat.zero_le _, B1, [], [], Le.beside G1 hD, G1.bnone hD, upd_same, .nil, Nat.le_refl _, by simpa using hd⟩, ?_⟩
  rintro i m H3 ⟨rfl, hi3, B3, ys, ws, l, hb, hw, rw', hy, q3⟩
  have G3 := l.good G1
  have w := wk B3 H3 l G3 i
  rcases Nat.lt_or_ge i ds.length with hlt | hge
  · have hd : ds[i]? = some ds[i] := List.getElem?_eq_getElem hlt
    obtain ⟨go, yld⟩ := w.1 _ hd
    refine .inr ⟨go, P (i + 1), fun H' p => ⟨ds.length - (i + 1), by omega, rfl, hlt, p⟩, fun x H' y => ?_⟩
    obtain ⟨B', l', rx⟩ := yld x H' y
    have G' := l'.good G3
    rw [List.drop_eq_getElem_cons hlt] at q3
    unfold dcD at q3
    split at q3
    · rename_i ρ' ea
      have SO' := (((SO.le l1).le l).le l').wipe vs
      refine asg_ok τ _ x _ _ ρ' G' SO' rx ea _ fun σ2 s2 hw2 => ⟨?_, ?_⟩
      · rw [hw2 vs hv]
        apply List.ext_getElem?
        intro j
        rw [wipe_get, wipe_get, wipe_length]
        by_cases e : j ∈ vs ∧ j < σ.length
        · rw [if_pos e, if_pos e]
        · rw [if_neg e, if_neg e]
      · refine ⟨B', ρ', G', s2, mt.r (fun b hq B4 H4 l4 => ?_) (fun x z => exW0 z) q3⟩
        have lw : Le S B3 H3 B4 H4 := l'.trans l4
        have hw4 : H4 D0 = some (.dK ws) := lw.heap _ _ hw hDS
        have hb4 : B4 D0 = none := lw.bnone hb (by rw [hw]; exact fun z => nomatch z)
        have G4 := l4.good G'
        cases b with
        | false => exact iteF ⟨B4, ys, ws, l.trans lw, hb4, hw4, rw'.mono lw.base, by omega, hq⟩
        | true =>
          refine iteT ⟨B4, ρ', G4, s2.le l4, mk.r (fun y hq u B5 H5 l5 r5 => ?_) (fun x z => exW0 z) hq⟩
          refine ⟨B5, ρ', l5.good G4, (s2.le l4).le l5, mv.r (fun z hq v B6 H6 l6 r6 => ?_) (fun x z => exW0 z) hq⟩
          split at hq
          · rename_i k ek
            have eu : u = kV k := keyD_at (Rp.at r5 (l5.good G4)) ek
            have lx := l5.trans l6
            have hw6 : H6 D0 = some (.dK ws) := lx.heap _ _ hw4 hDS
            have hb6 : B6 D0 = none := lx.bnone hb4 (by rw [hw4]; exact fun z => nomatch z)
            refine ⟨ws, k, eu, hw6, by rw [rw'.length]; omega, B6, pk ys k z, putK ws k v, Le.poke ((l.trans lw).trans lx) G1 hD hb6, hb6, upd_same, (rw'.mono (lw.base.trans lx.base)).put r6, Nat.le_trans (pk_len _ _ _) (by omega), hq⟩
          · exact hq.elim
    · exact q3.elim
  · have e : i = ds.length := by omega
    subst e
    refine .inl ⟨w.2 (Nat.le_refl _), ?_⟩
    rw [List.drop_length] at q3
    exact q3 _ B3 H3 (l1.trans l) ⟨D0, rfl, l1.old hD, hb, ws, hw, by rw [rw'.length]; omega, rw'⟩
end
end DL

set_option Elab.async false
set_option linter.all false
set_option maxRecDepth 100000
set_option maxHeartbeats 1000000
/-! DL, part i: statements. -/
namespace DL
open PySem PySem.Spec PyProof.Rows L2

/-- a body's state: the entry's world (B0, H0), what stands for sure Bk -/
def EnvOk (K : PySem.W.Frag) (S : List Addr) (B0 H0 Bk B H : Hp) (σ : L2.St) (ρ : DEnv) : Prop :=
  Good S B H ∧ SlotsOk K S B H σ ρ ∧ Le S B0 H0 B H ∧ Keep Bk B ∧ ∀ (i : Nat) (d : D) (l : Addr), ρ[i]? = some (some (.o d)) → σ[i]? = some (some (.ref l)) → H0 l = none
/-- what a body returns: plain data; a new object -/
inductive Rt where
  | p (d : D) | f (d : D)
@[simp] def ptR (Q : D → Prop) : Rt → Prop
  | .p d => Q d
  | .f _ => False
@[simp] def frR (Q : D → Prop) : Rt → Prop
  | .f d => Q d
  | .p _ => False
def RtOk (K : PySem.W.Frag) (H0 B H : Hp) (v : V) : Rt → Prop
  | .p d => Rp K B v d
  | .f d => rF K H0 B H v d
structure DEnds where
  nx : DEnv → Prop
  rt : Rt → Prop
  bk : DEnv → Prop := fun _ => False
  ct : DEnv → Prop := fun _ => False
  ex : Exn → DEnv → Prop := fun _ _ => False
abbrev TSd := DEnds → DEnv → Prop
structure MonoSt (t : TSd) : Prop where
  r : ∀ {D D' : DEnds} {ρ : DEnv}, (∀ ρ, D.nx ρ → D'.nx ρ) → (∀ d, D.rt d → D'.rt d) → (∀ ρ, D.bk ρ → D'.bk ρ) → (∀ ρ, D.ct ρ → D'.ct ρ) → (∀ x ρ, D.ex x ρ → D'.ex x ρ) → t D ρ → t D' ρ
/-- the ends, in data -/
def ends (K : PySem.W.Frag) (S : List Addr) (W : WX) (B0 H0 Bk : Hp) (D : Ends) : DEnds where
  nx := fun ρ => ∀ B σ H, EnvOk K S B0 H0 Bk B H σ ρ → D.nx σ H
  rt := fun d => ∀ v B H, Le S B0 H0 B H → RtOk K H0 B H v d → D.rt v H
  bk := fun ρ => ∀ B σ H, EnvOk K S B0 H0 Bk B H σ ρ → D.bk σ H
  ct := fun ρ => ∀ B σ H, EnvOk K S B0 H0 Bk B H σ ρ → D.ct σ H
  ex := fun x ρ => ∀ od B σ H, EnvOk K S B0 H0 Bk B H σ ρ → ExAt K B H od x.2 → W (.ref (He.ga K x.1)) od σ H
def liftS (K : PySem.W.Frag) (S : List Addr) (W : WX) (t : TSd) : TS := fun D σ H => ∃ B0 H0 Bk B ρ, EnvOk K S B0 H0 Bk B H σ ρ ∧ t (ends K S W B0 H0 Bk D) ρ
structure DS (X : Cx) (S : List Addr) (W : WX) (st : Stmt) (t : TSd) : Prop where
  ps : PS X st (liftS X.K S W t)
  mono : MonoSt t
structure DSs (X : Cx) (S : List Addr) (W : WX) (st : List Stmt) (t : TSd) : Prop where
  ps : PSs X st (liftS X.K S W t)
  mono : MonoSt t
theorem PS.imp {X : Cx} {st : Stmt} {t t' : TS} (h : PS X st t) (k : ∀ D σ H, t' D σ H → t D σ H) : PS X st t' := ⟨fun pins s σ H D I q => h.run pins s σ H D I (k D σ H q)⟩
theorem PSs.imp {X : Cx} {st : List Stmt} {t t' : TS} (h : PSs X st t) (k : ∀ D σ H, t' D σ H → t D σ H) : PSs X st t' := ⟨fun pins s σ H D I q => h.run pins s σ H D I (k D σ H q)⟩
section
variable {K : PySem.W.Frag} {S : List Addr} {W : WX} {B0 H0 Bk B H B1 H1 : Hp} {σ : L2.St} {ρ : DEnv}
theorem EnvOk.le (e : EnvOk K S B0 H0 Bk B H σ ρ) (l : Le S B H B1 H1) : EnvOk K S B0 H0 Bk B1 H1 σ ρ :=
  ⟨l.good e.1, e.2.1.le l, e.2.2.1.trans l, e.2.2.2.1.trans l.base, e.2.2.2.2⟩
theorem EnvOk.setP (e : EnvOk K S B0 H0 Bk B H σ ρ) {i : Nat} {v : V} {d : D} (r : Rp K B v d) : EnvOk K S B0 H0 Bk B H (σ.set i (some v)) (ρ.set i (some (.p d))) := by
  refine ⟨e.1, e.2.1.setP r, e.2.2.1, e.2.2.2.1, fun j f l h1 h2 => ?_⟩
  rw [getElem?_set'] at h1 h2
  by_cases q : i = j
  · rw [if_pos q] at h1; split at h1 <;> cases h1
  · rw [if_neg q] at h1 h2; exact e.2.2.2.2 j f l h1 h2
mutual
theorem asg_own {P : Nat → Prop} : ∀ (τ : Tgt) (d : D) (ρ ρ' : DEnv), asg τ d ρ = some ρ' → ∀ i e, ρ'[i]? = some (some (.o e)) → ρ[i]? = some (some (.o e)) ∧ i ∉ vars τ
  | .n j, d, ρ, ρ', h, i, e, q => by
    simp only [asg, Option.some.injEq] at h
    subst h
    rw [getElem?_set'] at q
    by_cases c : j = i
    · rw [if_pos c] at q; split at q <;> cases q
    · rw [if_neg c] at q; exact ⟨q, by simp [vars]; exact fun z => c z.symm⟩
  | .t ts, .tup ds, ρ, ρ', h, i, e, q => by
    have h' : asgs ts ds ρ = some ρ' := by simpa only [asg] using h
    exact asgs_own (P := P) ts ds ρ ρ' h' i e q
  | .t ts, .non, _, _, h, _, _, _ => by simp [asg] at h
  | .t ts, .bl _, _, _, h, _, _, _ => by simp [asg] at h
  | .t ts, .int _, _, _, h, _, _, _ => by simp [asg] at h
  | .t ts, .str _, _, _, h, _, _, _ => by simp [asg] at h
  | .t ts, .lst _, _, _, h, _, _, _ => by simp [asg] at h
  | .t ts, .dct _, _, _, h, _, _, _ => by simp [asg] at h
  | .t ts, .ref _, _, _, h, _, _, _ => by simp [asg] at h
  | .t ts, .obj _ _ _, _, _, h, _, _, _ => by simp [asg] at h
theorem asgs_own {P : Nat → Prop} : ∀ (τs : List Tgt) (ds : List D) (ρ ρ' : DEnv), asgs τs ds ρ = some ρ' → ∀ i e, ρ'[i]? = some (some (.o e)) → ρ[i]? = some (some (.o e)) ∧ i ∉ varss τs
  | [], [], ρ, ρ', h, i, e, q => by
    simp only [asgs, Option.some.injEq] at h
    subst h
    exact ⟨q, by simp [varss]⟩
  | τ :: τs, d :: ds, ρ, ρ', h, i, e, q => by
    have h' : (asg τ d ρ).bind (fun ρ' => asgs τs ds ρ') = some ρ' := by simpa only [asgs] using h
    obtain ⟨ρ1, e1, e2⟩ := Option.bind_eq_some_iff.mp h'
    obtain ⟨q1, n1⟩ := asgs_own (P := P) τs ds ρ1 ρ' e2 i e q
    obtain ⟨q2, n2⟩ := asg_own (P := P) τ d ρ ρ1 e1 i e q1
    exact ⟨q2, by simp only [varss, List.mem_append]; exact fun z => z.elim n2 n1⟩
  | [], _ :: _, _, _, h, _, _, _ => by simp [asgs] at h
  | _ :: _, [], _, _, h, _, _, _ => by simp [asgs] at h
end
/-- the target's store, in a body -/
theorem asg_env {τ : Tgt} {d : D} {v : V} {ρ' : DEnv} (e : EnvOk K S B0 H0 Bk B H σ ρ) (r : Rp K B v d) (h : asg τ d ρ = some ρ') {k : L2.St → Hp → Prop} (hk : ∀ σ', EnvOk K S B0 H0 Bk B H σ' ρ' → k σ' H) : gOf K τ v σ H k := by
  refine asg_ok τ d v σ ρ ρ' e.1 e.2.1 r h k fun σ' s2 hw => hk σ' ⟨e.1, s2, e.2.2.1, e.2.2.2.1, fun i f l h1 h2 => ?_⟩
  obtain ⟨h3, h4⟩ := asg_own (P := fun _ => True) τ d ρ ρ' h i f h1
  refine e.2.2.2.2 i f l h3 ?_
  have hq : (wipe σ' (vars τ))[i]? = (wipe σ (vars τ))[i]? := by rw [hw (vars τ) fun _ z => z]
  rw [wipe_get, wipe_get, if_neg (fun z => h4 z.1), if_neg (fun z => h4 z.1)] at hq
  rw [← hq]; exact h2
end

section
variable {X : Cx} {S : List Addr} {W : WX} {st : Stmt} {rest : List Stmt} {t u : TSd} {e c : Expr} {te : T} {tb : TB} {pos : Pos}
/-! ### blocks -/
@[simp] def sNext : TSd := fun D ρ => D.nx ρ
@[simp] def sSeq (t u : TSd) : TSd := fun D ρ => t { D with nx := u D } ρ
theorem dss_nil : DSs X S W [] sNext := ⟨PSs.imp pss_nil fun D σ H ⟨B0, H0, Bk, B, ρ, E, q⟩ => q B σ H E, ⟨fun h1 _ _ _ _ q => h1 _ q⟩⟩
theorem dss_cons (h : DS X S W st t) (k : DSs X S W rest u) : DSs X S W (st :: rest) (sSeq t u) := by
  refine ⟨PSs.imp (pss_cons (h.ps) (k.ps)) fun D σ H ⟨B0, H0, Bk, B, ρ, E, q⟩ => ⟨B0, H0, Bk, B, ρ, E, ?_⟩, ⟨fun {D D' ρ} h1 h2 h3 h4 h5 q => h.mono.r (D := { D with nx := u D }) (D' := { D' with nx := u D' }) (fun ρ q => k.mono.r h1 h2 h3 h4 h5 q) h2 h3 h4 h5 q⟩⟩
  exact h.mono.r (D := { ends X.K S W B0 H0 Bk D with nx := u (ends X.K S W B0 H0 Bk D) }) (fun ρ' q' B σ' H' E' => ⟨B0, H0, Bk, B, ρ', E', q'⟩) (fun _ z => z) (fun _ z => z) (fun _ z => z) (fun _ _ z => z) q
theorem dss_one (h : DS X S W st t) : DSs X S W [st] t := ⟨pss_one h.ps, h.mono⟩

/-! ### simple statements -/
@[simp] def sAsg (te : T) (τ : Tgt) : TSd := fun D ρ => te ρ (fun d => match asg τ d ρ with | some ρ' => D.nx ρ' | none => False) fun x => D.ex x ρ
@[simp] def sOwn (te : T) (i : Nat) : TSd := fun D ρ => te ρ (fun d => D.nx (ρ.set i (some (.o d)))) fun x => D.ex x ρ
@[simp] def sRet (te : T) : TSd := fun D ρ => te ρ (fun d => D.rt (.p d)) fun x => D.ex x ρ
@[simp] def sRetF (te : T) : TSd := fun D ρ => te ρ (fun d => D.rt (.f d)) fun x => D.ex x ρ
@[simp] def sDrop (te : T) : TSd := fun D ρ => te ρ (fun _ => D.nx ρ) fun x => D.ex x ρ
@[simp] def sIf (tb : TB) (t u : TSd) : TSd := fun D ρ => tb ρ (fun b => match b with | true => t D ρ | false => u D ρ) fun x => D.ex x ρ
theorem ex_of {K : PySem.W.Frag} {B0 H0 Bk B H : Hp} {σ : L2.St} {ρ : DEnv} {D : Ends} (E : EnvOk K S B0 H0 Bk B H σ ρ) (x : Exn) (h : (ends K S W B0 H0 Bk D).ex x ρ) : ExW K S (WE W σ) B H x :=
  fun od B' H' l a => h od B' σ H' (E.le l) a
theorem ds_asg {τ : Tgt} {tg : Expr} (he : DE X S (WE W) e te) (hg : DG X tg τ) (hs : swapsWithSole [tg] e pos.line X.env = pure false := by rfl) (hw : swappedStores [tg] e X.env = pure none := by rfl)
    (h1 : (assignEach [tg] X.env).map (·.2) = [assign tg X.env] := by rfl) : DS X S W (.Assign [tg] e pos) (sAsg te τ) := by
  refine ⟨PS.imp (ps_asg he.pe hg hs hw h1) fun D σ H ⟨B0, H0, Bk, B, ρ, E, q⟩ => ?_, ⟨fun {D D' ρ} h1 h2 h3 h4 h5 q => he.mono.r (fun d q => ?_) (fun x q => h5 _ _ q) q⟩⟩
  · refine ⟨B, ρ, E.1, E.2.1, he.mono.r (fun d hd v B1 H1 l r => ?_) (fun x q => ex_of E x q) q⟩
    have E1 := E.le l
    split at hd
    · rename_i ρ' ea
      exact asg_env E1 r ea fun σ' E2 => hd B1 σ' H1 E2
    · exact hd.elim
  · split at q
    · exact h1 _ q
    · exact q.elim
theorem ds_set {i : Nat} {x : Str} {pos' : Pos} (C : Cd X (WE W)) (hi : X.N[i]? = some x) (hx : Loc X.env.scope x) (he : DE X S (WE W) e te) (hs : swapsWith e (some (.Name x pos')) pos.line X.env = pure false := by rfl) (hf : X.fn x = true ∨ X.env.scope.names.lookup x = some .local := by first | exact .inl rfl | exact .inr rfl) :
    DS X S W (.Assign [.Name x pos'] e pos) (sAsg te (.n i)) := by
  refine ⟨PS.imp (ps_set C.nd hi hx he.pe hs hf) fun D σ H ⟨B0, H0, Bk, B, ρ, E, q⟩ => ?_, ⟨fun {D D' ρ} h1 h2 h3 h4 h5 q => he.mono.r (fun d q => ?_) (fun x q => h5 _ _ q) q⟩⟩
  · refine ⟨B, ρ, E.1, E.2.1, he.mono.r (fun d hd v B1 H1 l r => ?_) (fun x q => ex_of E x q) q⟩
    exact hd B1 _ H1 ((E.le l).setP r)
  · exact h1 _ q
/-- a new object, to be changed -/
theorem EnvOk.setO {K : PySem.W.Frag} {B0 H0 Bk B H : Hp} {σ : L2.St} {ρ : DEnv} (e : EnvOk K S B0 H0 Bk B H σ ρ) {i : Nat} {l : Addr} {d : D} (h0 : H0 l = none) (hb : B l = none) (ow : OwnAt K B H l d)
    (ap : ∀ (j : Nat) (f : D), ρ[j]? = some (some (.o f)) → σ[j]? ≠ some (some (.ref l))) (hS : l ∉ S) : EnvOk K S B0 H0 Bk B H (σ.set i (some (.ref l))) (ρ.set i (some (.o d))) := by
  have s := e.2.1
  have get : ∀ j x, (ρ.set i (some (.o d)))[j]? = some (some x) → (i = j ∧ x = .o d ∧ (σ.set i (some (.ref l)))[j]? = some (some (.ref l))) ∨ (i ≠ j ∧ ρ[j]? = some (some x) ∧ (σ.set i (some (.ref l)))[j]? = σ[j]?) := fun j x h => by
    rw [getElem?_set'] at h
    by_cases q : i = j
    · rw [if_pos q] at h
      split at h
      · rename_i hl
        cases h
        exact .inl ⟨q, rfl, by rw [getElem?_set', if_pos q, if_pos (by rw [s.len]; exact hl)]⟩
      · cases h
    · rw [if_neg q] at h
      exact .inr ⟨q, h, by rw [getElem?_set', if_neg q]⟩
  refine ⟨e.1, ⟨by rw [List.length_set, List.length_set]; exact s.len, fun j x h => ?_, fun j k f g m h1 h2 h3 h4 => ?_, fun j f m h1 h2 => ?_⟩, e.2.2.1, e.2.2.2.1, fun j f m h1 h2 => ?_⟩
  · rcases get j x h with ⟨_, rfl, q⟩ | ⟨_, h', q⟩
    · exact ⟨_, q, l, rfl, hb, ow⟩
    · rw [q]; exact s.at_ j x h'
  · rcases get j _ h1 with ⟨ej, _, q1⟩ | ⟨nj, h1', q1⟩ <;> rcases get k _ h2 with ⟨ek, _, q2⟩ | ⟨nk, h2', q2⟩
    · exact ej.symm.trans ek
    · rw [q1] at h3; rw [q2] at h4; cases h3; exact absurd h4 (ap k g h2')
    · rw [q1] at h3; rw [q2] at h4; cases h4; exact absurd h3 (ap j f h1')
    · rw [q1] at h3; rw [q2] at h4; exact s.own j k f g m h1' h2' h3 h4
  · rcases get j _ h1 with ⟨ej, _, q1⟩ | ⟨nj, h1', q1⟩
    · rw [q1] at h2; cases h2; exact hS
    · rw [q1] at h2; exact s.src j f m h1' h2
  · rcases get j _ h1 with ⟨ej, _, q1⟩ | ⟨nj, h1', q1⟩
    · rw [q1] at h2; cases h2; exact h0
    · rw [q1] at h2; exact e.2.2.2.2 j f m h1' h2
theorem own_new {K : PySem.W.Frag} {B0 H0 Bk B H B1 H1 : Hp} {σ : L2.St} {ρ : DEnv} (E : EnvOk K S B0 H0 Bk B H σ ρ) {l : Addr} (hl : H l = none) : (H0 l = none) ∧ (∀ (j : Nat) (f : D), ρ[j]? = some (some (.o f)) → σ[j]? ≠ some (some (.ref l))) ∧ l ∉ S := by
  refine ⟨E.2.2.1.old hl, fun j f h1 h2 => ?_, fun z => ?_⟩
  · obtain ⟨v, h3, h4⟩ := E.2.1.at_ j _ h1
    rw [h2] at h3; cases h3
    obtain ⟨l', e, _, ow⟩ := h4
    cases e
    obtain ⟨u, hu⟩ := ow.there
    rw [hl] at hu; cases hu
  · obtain ⟨_, x, y, w, q, _⟩ := E.1.src l z
    rw [hl] at q; cases q
theorem own_fin {K : PySem.W.Frag} {B0 H0 Bk B H : Hp} {σ : L2.St} {ρ : DEnv} {De : Ends} {i : Nat} {d : D} (E : EnvOk K S B0 H0 Bk B H σ ρ) (hd : (ends K S W B0 H0 Bk De).nx (ρ.set i (some (.o d)))) {v : V} {B1 H1 : Hp} (l : Le S B H B1 H1) (r : rF K H B1 H1 v d) : De.nx (σ.set i (some v)) H1 := by
  obtain ⟨p, rfl, hp, hb, ow⟩ := r
  obtain ⟨n1, n2, n3⟩ := own_new (B1 := B1) (H1 := H1) E hp
  exact hd B1 _ H1 ((E.le l).setO n1 hb ow n2 n3)
theorem ds_own {i : Nat} {x : Str} {pos' : Pos} (C : Cd X (WE W)) (hi : X.N[i]? = some x) (hx : Loc X.env.scope x) (he : DF X S (WE W) e te) (hs : swapsWith e (some (.Name x pos')) pos.line X.env = pure false := by rfl) (hf : X.fn x = true ∨ X.env.scope.names.lookup x = some .local := by first | exact .inl rfl | exact .inr rfl) :
    DS X S W (.Assign [.Name x pos'] e pos) (sOwn te i) := by
  refine ⟨PS.imp (ps_set C.nd hi hx he.pe hs hf) fun D σ H ⟨B0, H0, Bk, B, ρ, E, q⟩ => ?_, ⟨fun {D D' ρ} h1 h2 h3 h4 h5 q => he.mono.r (fun d q => h1 _ q) (fun x q => h5 _ _ q) q⟩⟩
  exact ⟨B, ρ, E.1, E.2.1, he.mono.r (fun d hd v B1 H1 l r => own_fin E hd l r) (fun x q => ex_of E x q) q⟩
theorem ds_ret (he : DE X S (WE W) e te) : DS X S W (.Return (some e) pos) (sRet te) := by
  refine ⟨PS.imp (ps_ret he.pe) fun D σ H ⟨B0, H0, Bk, B, ρ, E, q⟩ => ?_, ⟨fun {D D' ρ} h1 h2 h3 h4 h5 q => he.mono.r (fun d q => h2 _ q) (fun x q => h5 _ _ q) q⟩⟩
  exact ⟨B, ρ, E.1, E.2.1, he.mono.r (fun d hd v B1 H1 l r => hd v B1 H1 (E.2.2.1.trans l) r) (fun x q => ex_of E x q) q⟩
theorem ds_expr {R : Rel} (he : DR X S (WE W) R e te) (hs : swapsWith e none pos.line X.env = pure false := by rfl) : DS X S W (.Expr e pos) (sDrop te) := by
  refine ⟨PS.imp (ps_expr he.pe hs) fun D σ H ⟨B0, H0, Bk, B, ρ, E, q⟩ => ?_, ⟨fun {D D' ρ} h1 h2 h3 h4 h5 q => he.mono.r (fun d q => h1 _ q) (fun x q => h5 _ _ q) q⟩⟩
  exact ⟨B, ρ, E.1, E.2.1, he.mono.r (fun d hd v B1 H1 l r => hd B1 σ H1 (E.le l)) (fun x q => ex_of E x q) q⟩
theorem ds_if {a b : List Stmt} (hc : DT X S (WE W) c tb) (ha : DSs X S W a t) (hb : DSs X S W b u) : DS X S W (.If c a b pos) (sIf tb t u) := by
  refine ⟨PS.imp (ps_if hc.pt (ha.ps) (hb.ps)) fun D σ H ⟨B0, H0, Bk, B, ρ, E, q⟩ => ?_, ⟨fun {D D' ρ} h1 h2 h3 h4 h5 q => hc.mono.r (fun b q => ?_) (fun x q => h5 _ _ q) q⟩⟩
  · refine ⟨B, ρ, E.1, E.2.1, hc.mono.r (fun b hq B1 H1 l => ?_) (fun x q => ex_of E x q) q⟩
    cases b with
    | true => exact iteT ⟨B0, H0, Bk, B1, ρ, E.le l, hq⟩
    | false => exact iteF ⟨B0, H0, Bk, B1, ρ, E.le l, hq⟩
  · cases b with
    | true => exact ha.mono.r h1 h2 h3 h4 h5 q
    | false => exact hb.mono.r h1 h2 h3 h4 h5 q
@[simp] def sBrk : TSd := fun D ρ => D.bk ρ
@[simp] def sCnt : TSd := fun D ρ => D.ct ρ
theorem ds_pass : DS X S W (.Pass pos) sNext := ⟨PS.imp ps_pass fun D σ H ⟨B0, H0, Bk, B, ρ, E, q⟩ => q B σ H E, ⟨fun h1 _ _ _ _ q => h1 _ q⟩⟩
theorem ds_brk : DS X S W (.Break pos) sBrk := ⟨PS.imp ps_break fun D σ H ⟨B0, H0, Bk, B, ρ, E, q⟩ => q B σ H E, ⟨fun _ _ h3 _ _ q => h3 _ q⟩⟩
theorem ds_cnt : DS X S W (.Continue pos) sCnt := ⟨PS.imp ps_continue fun D σ H ⟨B0, H0, Bk, B, ρ, E, q⟩ => q B σ H E, ⟨fun _ _ _ h4 _ q => h4 _ q⟩⟩

/-! ### a, b = x, y -/
@[simp] def sPar (i j : Nat) (tr : TAd) : TSd := fun D ρ => tr ρ (fun ds => match ds with | [a, b] => D.nx ((ρ.set i (some (.p a))).set j (some (.p b))) | _ => False) fun x => D.ex x ρ
theorem ds_par {i j : Nat} {x y : Str} {a b : Expr} {tr : TAd} {px py pt : Pos} {kt k2 pt2} (C : Cd X (WE W)) (hi : X.N[i]? = some x) (hj : X.N[j]? = some y) (hij : i ≠ j)
    (hx : X.env.scope.names.lookup x = some .local) (hy : X.env.scope.names.lookup y = some .local) (ha : DA X S (WE W) [a, b] tr)
    (hw : swappedStores [.Tuple [.Name x px, .Name y py] kt pt] (.Tuple [a, b] k2 pt2) X.env = pure (some [x, y]))
    (hs : swapsWithSole [.Tuple [.Name x px, .Name y py] kt pt] (.Tuple [a, b] k2 pt2) pos.line X.env = pure false := by rfl) :
    DS X S W (.Assign [.Tuple [.Name x px, .Name y py] kt pt] (.Tuple [a, b] k2 pt2) pos) (sPar i j tr) := by
  refine ⟨PS.imp (ps_par C.calm C.nd hi hj hij hx hy ha.pa hw hs) fun D σ H ⟨B0, H0, Bk, B, ρ, E, q⟩ => ?_, ⟨fun {D D' ρ} h1 h2 h3 h4 h5 q => ha.mono.r (fun ds q => ?_) (fun x q => h5 _ _ q) q⟩⟩
  · refine ⟨B, ρ, E.1, E.2.1, ha.mono.r (fun ds hd vs B1 H1 l r => ?_) (fun x q => ex_of E x q) q⟩
    split at hd
    · cases r with | cons r1 r2 =>
      cases r2 with | cons r2 r3 =>
      cases r3
      exact ⟨_, _, rfl, hd B1 _ H1 (((E.le l).setP r1).setP r2)⟩
    · exact hd.elim
  · split at q
    · exact h1 _ q
    · exact q.elim

/-! ### loops -/
def forD (τ : Tgt) (tb : TSd) : List D → DEnds → DEnv → Prop
  | [], D, ρ => D.nx ρ
  | d :: ds, D, ρ => match asg τ d ρ with
    | some ρ' => tb { D with nx := forD τ tb ds D, ct := forD τ tb ds D, bk := D.nx } ρ'
    | none => False
theorem forD.mono {τ : Tgt} {tb : TSd} (m : MonoSt tb) : ∀ {ds : List D} {D D' : DEnds} {ρ : DEnv}, (∀ ρ, D.nx ρ → D'.nx ρ) → (∀ d, D.rt d → D'.rt d) → (∀ x ρ, D.ex x ρ → D'.ex x ρ) → forD τ tb ds D ρ → forD τ tb ds D' ρ
  | [], _, _, _, h1, _, _, q => h1 _ q
  | d :: ds, D, D', ρ, h1, h2, h5, q => by
    unfold forD at *
    split at q
    · exact m.r (D := { D with nx := forD τ tb ds D, ct := forD τ tb ds D, bk := D.nx }) (D' := { D' with nx := forD τ tb ds D', ct := forD τ tb ds D', bk := D'.nx }) (fun ρ q => forD.mono m h1 h2 h5 q) h2 h1 (fun ρ q => forD.mono m h1 h2 h5 q) h5 q
    · exact q.elim
@[simp] def sFor (ti : TAd) (τ : Tgt) (tb : TSd) : TSd := fun D ρ => ti ρ (fun ds => forD τ tb ds D ρ) fun x => D.ex x ρ
theorem EnvOk.keep {K : PySem.W.Frag} {B0 H0 Bk Bk' B H : Hp} {σ : L2.St} {ρ : DEnv} (e : EnvOk K S B0 H0 Bk B H σ ρ) (k : Keep Bk' Bk) : EnvOk K S B0 H0 Bk' B H σ ρ := ⟨e.1, e.2.1, e.2.2.1, k.trans e.2.2.2.1, e.2.2.2.2⟩
theorem EnvOk.here {K : PySem.W.Frag} {B0 H0 Bk B H : Hp} {σ : L2.St} {ρ : DEnv} (e : EnvOk K S B0 H0 Bk B H σ ρ) : EnvOk K S B0 H0 B B H σ ρ := ⟨e.1, e.2.1, e.2.2.1, .refl _, e.2.2.2.2⟩
theorem for_core {K : PySem.W.Frag} {t : TSd} (mt : MonoSt t) {B0 H0 Bk B1 H1 : Hp} {σ : L2.St} {ρ : DEnv} {De : Ends} {J : It} {ds : List D} {τ : Tgt} (E1 : EnvOk K S B0 H0 Bk B1 H1 σ ρ)
    (wk : ∀ B H, Le S B0 H0 B H → Keep B1 B → Good S B H → Wk K S J ds B H) (hd : forD τ t ds (ends K S W B0 H0 Bk De) ρ) :
    ∃ W' : Nat → Nat → L2.St → Hp → Prop, (∃ m, W' 0 m σ H1) ∧ ∀ i m σ H, W' i m σ H →
      (J.stop i H ∧ De.nx σ H) ∨ (J.go i H ∧ ∃ N : L2.St → Hp → Prop, (∀ σ' H', N σ' H' → ∃ m', m' < m ∧ W' (i + 1) m' σ' H') ∧ ∀ x H', J.yld i H x H' → gOf K τ x σ H' fun σ2 H2 => liftS K S W t { De with nx := N, ct := N, bk := De.nx } σ2 H2) := by
  let Dd := ends K S W B0 H0 Bk De
  let P : Nat → L2.St → Hp → Prop := fun i σ H => ∃ B ρ, EnvOk K S B0 H0 B1 B H σ ρ ∧ forD τ t (ds.drop i) Dd ρ
  refine ⟨fun i m σ H => m = ds.length - i ∧ i ≤ ds.length ∧ P i σ H, ⟨ds.length, by simp, Nat.zero_le _, B1, ρ, E1.here, by simpa using hd⟩, ?_⟩
  rintro i m σ2 H2 ⟨rfl, hi2, B2, ρ2, E2, q2⟩
  have w := wk B2 H2 E2.2.2.1 E2.2.2.2.1 E2.1 i
  rcases Nat.lt_or_ge i ds.length with hlt | hge
  · have hd : ds[i]? = some ds[i] := List.getElem?_eq_getElem hlt
    obtain ⟨go, yld⟩ := w.1 _ hd
    refine .inr ⟨go, P (i + 1), fun σ' H' p => ⟨ds.length - (i + 1), by omega, rfl, hlt, p⟩, fun x H' y => ?_⟩
    obtain ⟨B', l', rx⟩ := yld x H' y
    rw [List.drop_eq_getElem_cons hlt] at q2
    unfold forD at q2
    split at q2
    · rename_i ρ' ea
      refine asg_env (E2.le l') rx ea fun σ' E3 => ⟨B0, H0, B1, B', ρ', E3, ?_⟩
      have k1 : Keep Bk B1 := E1.2.2.2.1
      refine mt.r (D := { Dd with nx := forD τ t (ds.drop (i + 1)) Dd, ct := forD τ t (ds.drop (i + 1)) Dd, bk := Dd.nx }) (fun ρ4 q4 B4 σ4 H4 E4 => ⟨B4, ρ4, E4, q4⟩) (fun _ z => z) (fun ρ4 q4 B4 σ4 H4 E4 => q4 B4 σ4 H4 (E4.keep k1)) (fun ρ4 q4 B4 σ4 H4 E4 => ⟨B4, ρ4, E4, q4⟩) (fun x ρ4 q4 od B4 σ4 H4 E4 a => q4 od B4 σ4 H4 (E4.keep k1) a) q2
    · exact q2.elim
  · have e : i = ds.length := by omega
    subst e
    refine .inl ⟨w.2 (Nat.le_refl _), ?_⟩
    rw [List.drop_length] at q2
    exact q2 B2 σ2 H2 (E2.keep E1.2.2.2.1)
theorem ds_for {tg iter : Expr} {body : List Stmt} {ti : TAd} {τ : Tgt} (C : Cd X (WE W)) (hp : PassesOwn (model X.prog X.w) X.A X.env X.xe) (hi : DI X S (WE W) tg iter ti) (hg : DG X tg τ) (hb : DSs X S W body t)
    (hs : ∀ x, foldedSetIterable iter X.env x = pure x := by intro _; rfl) : DS X S W (.For tg iter body [] pos) (sFor ti τ t) := by
  refine ⟨PS.imp (ps_for hp C.calm hi.pi hg hb.ps hs) fun De σ H ⟨B0, H0, Bk, B, ρ, E, q⟩ => ?_, ⟨fun {D D' ρ} h1 h2 h3 h4 h5 q => hi.mono.r (fun ds q => forD.mono hb.mono h1 h2 h5 q) (fun x q => h5 _ _ q) q⟩⟩
  refine ⟨B, ρ, E.1, E.2.1, hi.mono.r (fun ds hd J B1 H1 l wk => ?_) (fun x q => ex_of E x q) q⟩
  exact for_core hb.mono (E.le l) (fun B2 H2 _ k g => wk.2 B2 H2 k g) hd
/-- while -/
def whileD (tc : TB) (tb : TSd) : Nat → DEnds → DEnv → Prop
  | 0, _, _ => False
  | n + 1, D, ρ => tc ρ (fun b => match b with
    | true => tb { D with nx := whileD tc tb n D, ct := whileD tc tb n D, bk := D.nx } ρ
    | false => D.nx ρ) fun x => D.ex x ρ
theorem whileD.mono {tc : TB} {tb : TSd} (mc : MonoB tc) (m : MonoSt tb) : ∀ {n : Nat} {D D' : DEnds} {ρ : DEnv}, (∀ ρ, D.nx ρ → D'.nx ρ) → (∀ d, D.rt d → D'.rt d) → (∀ x ρ, D.ex x ρ → D'.ex x ρ) → whileD tc tb n D ρ → whileD tc tb n D' ρ
  | 0, _, _, _, _, _, _, q => q.elim
  | n + 1, D, D', ρ, h1, h2, h5, q => by
    unfold whileD at *
    refine mc.r (fun b q => ?_) (fun x q => h5 _ _ q) q
    cases b with
    | true => exact m.r (D := { D with nx := whileD tc tb n D, ct := whileD tc tb n D, bk := D.nx }) (D' := { D' with nx := whileD tc tb n D', ct := whileD tc tb n D', bk := D'.nx }) (fun ρ q => whileD.mono mc m h1 h2 h5 q) h2 h1 (fun ρ q => whileD.mono mc m h1 h2 h5 q) h5 q
    | false => exact h1 _ q
def sWhile (tc : TB) (tb : TSd) : TSd := fun D ρ => ∃ n, whileD tc tb n D ρ
theorem ds_while {body : List Stmt} (hp : PassesOwn (model X.prog X.w) X.A X.env X.xe) (hc : DT X S (WE W) c tb) (hb : DSs X S W body t) : DS X S W (.While c body [] pos) (sWhile tb t) := by
  refine ⟨PS.imp (ps_while hp hc.pt hb.ps) fun De σ H ⟨B0, H0, Bk, B, ρ, E, n, q⟩ => ?_, ⟨fun {D D' ρ} h1 h2 h3 h4 h5 ⟨n, q⟩ => ⟨n, whileD.mono hc.mono hb.mono h1 h2 h5 q⟩⟩⟩
  let Dd := ends X.K S W B0 H0 Bk De
  refine ⟨fun m σ H => ∃ B ρ, EnvOk X.K S B0 H0 Bk B H σ ρ ∧ whileD tb t m Dd ρ, ⟨n, B, ρ, E, q⟩, ?_⟩
  rintro m σ2 H2 ⟨B2, ρ2, E2, q2⟩
  cases m with
  | zero => exact q2.elim
  | succ m =>
    unfold whileD at q2
    refine ⟨B2, ρ2, E2.1, E2.2.1, hc.mono.r (fun b hq B3 H3 l => ?_) (fun x q => ex_of E2 x q) q2⟩
    have E3 := E2.le l
    cases b with
    | true =>
      refine iteT ⟨fun σ' H' => ∃ B ρ, EnvOk X.K S B0 H0 Bk B H' σ' ρ ∧ whileD tb t m Dd ρ, fun σ' H' p => ⟨m, Nat.lt_succ_self m, p⟩, B0, H0, Bk, B3, ρ2, E3, ?_⟩
      exact hb.mono.r (D := { Dd with nx := whileD tb t m Dd, ct := whileD tb t m Dd, bk := Dd.nx }) (fun ρ4 q4 B4 σ4 H4 E4 => ⟨B4, ρ4, E4, q4⟩) (fun _ z => z) (fun _ z => z) (fun ρ4 q4 B4 σ4 H4 E4 => ⟨B4, ρ4, E4, q4⟩) (fun _ _ z => z) hq
    | false => exact iteF (hq B3 σ2 H3 E3)
end
end DL

set_option Elab.async false
set_option linter.all false
set_option maxRecDepth 100000
set_option maxHeartbeats 1000000
/-! DL, part j: changes of what a body owns; defs. -/
namespace DL
open PySem PySem.Spec PyProof.Rows L2
section
variable {K : PySem.W.Frag} {S : List Addr} {B0 H0 Bk B H B1 H1 : Hp} {σ : L2.St} {ρ : DEnv}
theorem neS {a p : Addr} (ha : a ∈ S) (hS : p ∉ S) : a ≠ p := fun z => hS (by rw [← z]; exact ha)
theorem Le.poke' (l : Le S B H B1 H1) {p : Addr} {o : HO} (hp : H p = none) (hb : B1 p = none) (hS : p ∉ S) : Le S B H B1 (upd H1 p o) := by
  refine ⟨l.base, l.new, fun b u h hs => ?_, fun b u h => ?_, fun a ha => ?_⟩
  · rw [upd_ne (ne_of_none h hp)]; exact l.heap b u h hs
  · rw [upd_ne (ne_of_none h hb)]; exact l.sub b u h
  · obtain ⟨x, y, z, q, r⟩ := l.src a ha
    exact ⟨x, y, z, by rw [upd_ne (neS ha hS)]; exact q, r⟩
/-- what slot i owns is changed -/
theorem EnvOk.poke (e : EnvOk K S B0 H0 Bk B H σ ρ) {i : Nat} {d d' : D} {l : Addr} {o : HO} (h1 : ρ[i]? = some (some (.o d))) (h2 : σ[i]? = some (some (.ref l))) (ow : OwnAt K B (upd H l o) l d') : EnvOk K S B0 H0 Bk B (upd H l o) σ (ρ.set i (some (.o d'))) := by
  obtain ⟨g, s, le, kp, fr⟩ := e
  obtain ⟨v, h3, l', ev, hb, ow0⟩ := s.at_ i _ h1
  rw [h2] at h3
  cases h3
  cases ev
  have hS := s.src i d l h1 h2
  have h0 := fr i d l h1 h2
  have hl : i < ρ.length := (List.getElem?_eq_some_iff.mp h1).1
  have get : ∀ j x, (ρ.set i (some (.o d')))[j]? = some (some x) → (i = j ∧ x = .o d') ∨ (i ≠ j ∧ ρ[j]? = some (some x)) := fun j x h => by
    rw [getElem?_set'] at h
    by_cases q : i = j
    · rw [if_pos q, if_pos hl] at h; cases h; exact .inl ⟨q, rfl⟩
    · rw [if_neg q] at h; exact .inr ⟨q, h⟩
  refine ⟨⟨fun b u q => ?_, fun a ha => ⟨(g.src a ha).1, ?_⟩⟩, ⟨by rw [List.length_set]; exact s.len, fun j x h => ?_, fun j k f f' m q1 q2 q3 q4 => ?_, fun j f m q1 q2 => ?_⟩, Le.poke' le h0 hb hS, kp, fun j f m q1 q2 => ?_⟩
  · rw [upd_ne (ne_of_none q hb)]; exact g.sub b u q
  · obtain ⟨_, x, y, z, q, r⟩ := g.src a ha
    exact ⟨x, y, z, by rw [upd_ne (neS ha hS)]; exact q, r⟩
  · rcases get j x h with ⟨rfl, rfl⟩ | ⟨ne, h'⟩
    · exact ⟨_, h2, l, rfl, hb, ow⟩
    · obtain ⟨w, q1, q2⟩ := s.at_ j x h'
      refine ⟨w, q1, ?_⟩
      cases x with
      | p f => exact q2
      | o f =>
        obtain ⟨m, rfl, hm, owm⟩ := q2
        have nm : m ≠ l := fun z => by subst z; exact ne (s.own i j d f m h1 h' h2 q1)
        exact ⟨m, rfl, hm, owm.mono (.refl _) fun u q => by rw [upd_ne nm]; exact q⟩
  · rcases get j _ q1 with ⟨rfl, _⟩ | ⟨nj, q1'⟩ <;> rcases get k _ q2 with ⟨rfl, _⟩ | ⟨nk, q2'⟩
    · rfl
    · exact s.own i k d f' m h1 q2' q3 q4
    · exact s.own j i f d m q1' h1 q3 q4
    · exact s.own j k f f' m q1' q2' q3 q4
  · rcases get j _ q1 with ⟨rfl, _⟩ | ⟨nj, q1'⟩
    · rw [h2] at q2; cases q2; exact hS
    · exact s.src j f m q1' q2
  · rcases get j _ q1 with ⟨rfl, _⟩ | ⟨nj, q1'⟩
    · rw [h2] at q2; cases q2; exact h0
    · exact fr j f m q1' q2
end

/-- the list that slot i owns -/
@[simp] def ownL (i : Nat) (ρ : DEnv) (Q : List D → Prop) : Prop := match ρ[i]? with
  | some (some (.o (.lst ds))) => Q ds
  | _ => False
theorem ownL.imp {i : Nat} {ρ : DEnv} {Q Q' : List D → Prop} (h : ∀ ds, Q ds → Q' ds) (q : ownL i ρ Q) : ownL i ρ Q' := by
  unfold ownL at *
  split at q
  · exact h _ q
  · exact q.elim
theorem ownL.is {i : Nat} {ρ : DEnv} {Q : List D → Prop} (q : ownL i ρ Q) : ∃ ds, ρ[i]? = some (some (.o (.lst ds))) ∧ Q ds := by
  unfold ownL at q
  split at q
  · rename_i ds e; exact ⟨ds, e, q⟩
  · exact q.elim
@[simp] def putL (i : Nat) (ρ : DEnv) (ds : List D) : DEnv := ρ.set i (some (.o (.lst ds)))
theorem EnvOk.ownL {K : PySem.W.Frag} {S : List Addr} {B0 H0 Bk B H : Hp} {σ : L2.St} {ρ : DEnv} (E : EnvOk K S B0 H0 Bk B H σ ρ) {i : Nat} {ds : List D} (h : ρ[i]? = some (some (.o (.lst ds)))) :
    ∃ l vs, σ[i]? = some (some (.ref l)) ∧ H l = some (.lst vs) ∧ vs.length ≤ sizeLine ∧ RpA K B vs ds := by
  obtain ⟨v, h1, l, rfl, _, vs, h2, h3, h4⟩ := E.2.1.at_ i _ h
  exact ⟨l, vs, h1, h2, h3, h4⟩
section
variable {X : Cx} {S : List Addr} {W : WX} {st : Stmt} {rest : List Stmt} {u : TSd} {e c k : Expr} {te tk : T} {tr : TAd} {pos apos : Pos} {x : Str}
abbrev VisD (X : Cx) (x : Str) : Prop := Vis X.env.scope x
/-! ### x.append(e) -/
@[simp] def sApp (i : Nat) (te : T) : TSd := fun D ρ => ownL i ρ fun _ => te ρ (fun d => ownL i ρ fun ds => ds.length < sizeLine ∧ D.nx (putL i ρ (ds ++ [d]))) fun x => D.ex x ρ
theorem sApp.mono {i : Nat} (m : Mono te) : MonoSt (sApp i te) := ⟨fun {D D' ρ} h1 h2 h3 h4 h5 q => ownL.imp (fun _ q => m.r (fun d q => ownL.imp (fun ds q => ⟨q.1, h1 _ q.2⟩) q) (fun x q => h5 _ _ q) q) q⟩
theorem ds_app (i : Nat) {px cp : Pos} (he : DE X S (WE W) e te) (hpe : PE X (.Call (.Attribute (.Name x px) "append" apos) [e] [] cp) (tBM X.K "list" rAppend (tVar i) (tCons (lift X.K S (WE W) (rP X.K) te) tNil)))
    (hs : swapsWith (.Call (.Attribute (.Name x px) "append" apos) [e] [] cp) none pos.line X.env = pure false := by rfl) : DS X S W (.Expr (.Call (.Attribute (.Name x px) "append" apos) [e] [] cp) pos) (sApp i te) := by
  refine ⟨PS.imp (ps_expr hpe hs) fun De σ H ⟨B0, H0, Bk, B, ρ, E, q⟩ => ?_, sApp.mono he.mono⟩
  obtain ⟨ds, hi, q⟩ := q.is
  obtain ⟨l, vs, h1, h2, h3, h4⟩ := E.ownL hi
  refine ⟨_, h1, .inl ⟨rfl, vs, SqL.of h2⟩, B, ρ, E.1, E.2.1, he.mono.r (fun d hd v B1 H1 le r => ?_) (fun x q => ex_of E x q) q⟩
  have E1 := E.le le
  obtain ⟨ds', hi', hz, hd⟩ := hd.is
  rw [hi] at hi'
  cases hi'
  obtain ⟨l', ws, k1, k2, k3, k4⟩ := E1.ownL hi
  rw [h1] at k1
  cases k1
  refine ⟨l, ws, v, rfl, rfl, k2, by rw [k4.length]; exact hz, hd B1 σ _ (E1.poke hi h1 ⟨_, upd_same, by rw [List.length_append, k4.length]; exact hz, k4.append (.cons r .nil)⟩)⟩
theorem pe_app (i : Nat) {px cp : Pos} (he : DE X S (WE W) e te) (hN : X.N[i]? = some x := by rfl) (hv : Vis X.env.scope x := by first | exact Or.inl rfl | exact Or.inr (Or.inl rfl) | exact Or.inr (Or.inr rfl)) (hd : (x == ("__debug__" : Str)) = false := by decide)
    (hcd : (x == ("__classdict__" : Str)) = false := by decide)
    (hx : PE X (.Name x px) (tVar i) → PA X [e] (tCons (lift X.K S (WE W) (rP X.K) te) tNil) → PE X (.Call (.Attribute (.Name x px) "append" apos) [e] [] cp) (tBM X.K "list" rAppend (tVar i) (tCons (lift X.K S (WE W) (rP X.K) te) tNil)))
    (hs : starEach [e] X.env = (false, eval e X.env) :: starEach [] X.env := by rfl) : PE X (.Call (.Attribute (.Name x px) "append" apos) [e] [] cp) (tBM X.K "list" rAppend (tVar i) (tCons (lift X.K S (WE W) (rP X.K) te) tNil)) :=
  hx (pv i hN hv hd hcd) (pa_cons he.pe pa_nil hs)

/-! ### what is owned becomes plain -/
@[simp] def sFrz (i : Nat) (u : TSd) : TSd := fun D ρ => match ρ[i]? with
  | some (some (.o d)) => u D (ρ.set i (some (.p d)))
  | _ => False
theorem EnvOk.frz {K : PySem.W.Frag} {B0 H0 Bk B H : Hp} {σ : L2.St} {ρ : DEnv} (E : EnvOk K S B0 H0 Bk B H σ ρ) {i : Nat} {d : D} (h : ρ[i]? = some (some (.o d))) : ∃ B', EnvOk K S B0 H0 Bk B' H σ (ρ.set i (some (.p d))) := by
  obtain ⟨g, s, le, kp, fr⟩ := E
  obtain ⟨v, h1, l, rfl, hb, ow⟩ := s.at_ i _ h
  have hS := s.src i d l h h1
  have h0 := fr i d l h h1
  have hl : i < ρ.length := (List.getElem?_eq_some_iff.mp h).1
  obtain ⟨o, ho, rp⟩ : ∃ o, H l = some o ∧ Rp K (upd B l o) (.ref l) d := by
    have k : ∀ o, Keep B (upd B l o) := fun o b u z => by rw [upd_ne (ne_of_none z hb)]; exact z
    cases d with
    | lst ds => obtain ⟨vs, e, z, r⟩ := ow; exact ⟨_, e, .lst upd_same z (r.mono (k _))⟩
    | dct ds => obtain ⟨vs, e, z, r⟩ := ow; exact ⟨_, e, .dct upd_same z (r.mono (k _))⟩
    | _ => exact ow.elim
  have kB : Keep B (upd B l o) := fun b u z => by rw [upd_ne (ne_of_none z hb)]; exact z
  have sub' : Sub (upd B l o) H := fun b u q => by
    by_cases e : b = l
    · subst e; rw [upd_same] at q; cases q; exact .inl ho
    · rw [upd_ne e] at q; exact g.sub b u q
  have get : ∀ j x, (ρ.set i (some (.p d)))[j]? = some (some x) → (i = j ∧ x = .p d) ∨ (i ≠ j ∧ ρ[j]? = some (some x)) := fun j x h => by
    rw [getElem?_set'] at h
    by_cases q : i = j
    · rw [if_pos q, if_pos hl] at h; cases h; exact .inl ⟨q, rfl⟩
    · rw [if_neg q] at h; exact .inr ⟨q, h⟩
  have geto : ∀ j f, (ρ.set i (some (.p d)))[j]? = some (some (.o f)) → i ≠ j ∧ ρ[j]? = some (some (.o f)) := fun j f h => by
    rcases get j _ h with ⟨_, z⟩ | z
    · cases z
    · exact z
  refine ⟨upd B l o, ⟨sub', fun a ha => ⟨by rw [upd_ne (neS ha hS)]; exact (g.src a ha).1, (g.src a ha).2⟩⟩, ⟨by rw [List.length_set]; exact s.len, fun j x hx => ?_, fun j k f f' m q1 q2 q3 q4 => ?_, fun j f m q1 q2 => ?_⟩,
    ⟨le.base.trans kB, fun b u q => ?_, le.heap, sub', le.src⟩, kp.trans kB, fun j f m q1 q2 => fr j f m (geto j f q1).2 q2⟩
  · rcases get j x hx with ⟨rfl, rfl⟩ | ⟨ne, h'⟩
    · exact ⟨_, h1, rp⟩
    · obtain ⟨w, q1, q2⟩ := s.at_ j x h'
      refine ⟨w, q1, ?_⟩
      cases x with
      | p f => exact Rp.mono kB q2
      | o f =>
        obtain ⟨m, rfl, hm, owm⟩ := q2
        have nm : m ≠ l := fun z => by subst z; exact ne (s.own i j d f m h h' h1 q1)
        exact ⟨m, rfl, by rw [upd_ne nm]; exact hm, owm.mono kB fun u q => q⟩
  · exact s.own j k f f' m (geto j f q1).2 (geto k f' q2).2 q3 q4
  · exact s.src j f m (geto j f q1).2 q2
  · by_cases e : b = l
    · subst e; exact .inr h0
    · rw [upd_ne e] at q; exact le.new b u q
theorem dss_frz (i : Nat) (h : DSs X S W rest u) : DSs X S W rest (sFrz i u) := by
  refine ⟨PSs.imp h.ps fun De σ H ⟨B0, H0, Bk, B, ρ, E, q⟩ => ?_, ⟨fun {D D' ρ} h1 h2 h3 h4 h5 q => ?_⟩⟩
  · unfold sFrz at q
    split at q
    · rename_i d hi
      obtain ⟨B', E'⟩ := E.frz hi
      exact ⟨B0, H0, Bk, B', _, E', q⟩
    · exact q.elim
  · unfold sFrz at *
    split at q
    · exact h.mono.r h1 h2 h3 h4 h5 q
    · exact q.elim

/-! ### raise C('..') -/
@[simp] def sRaise (C : Str) : TSd := fun D ρ => D.ex (C, []) ρ
theorem ds_raise {C : Str} {t : L2.St → Hp → XK → Prop} (hc : X.calm = true) (tk : L2N.Takes X W) (he : L2N.PMk X e t) (ht : ∀ σ H Q, Q (.ref (He.ga X.K C)) none H → t σ H Q) : DS X S W (.Raise (some e) none pos) (sRaise C) := by
  refine ⟨PS.imp (L2N.ps_raise hc tk he) fun De σ H ⟨B0, H0, Bk, B, ρ, E, q⟩ => ht σ H _ (q none B σ H E rfl), ⟨fun _ _ _ _ h5 q => h5 _ _ q⟩⟩
end

/-! ### defs -/
@[simp] def start0 (N : List Str) (ds : List D) : DEnv := ds.map (fun d => some (.p d)) ++ List.replicate (N.length - ds.length) none
theorem start_ok {K : PySem.W.Frag} {S : List Addr} {B H : Hp} {N : List Str} {vs : List V} {ds : List D} (r : RpA K B vs ds) : SlotsOk K S B H (start N vs) (start0 N ds) := by
  have hl := r.length
  have own : ∀ (j : Nat) (e : D), (start0 N ds)[j]? ≠ some (some (Sl.o e)) := fun j e h => by
    unfold start0 at h
    rw [List.getElem?_append] at h
    split at h
    · rw [List.getElem?_map] at h
      cases q : ds[j]? with
      | none => rw [q] at h; cases h
      | some d => rw [q] at h; cases h
    · rw [List.getElem?_replicate] at h
      split at h <;> cases h
  refine ⟨by simp [L2.start, start0, hl], fun j x h => ?_, fun j k e f l h1 => absurd h1 (own j e), fun j e l h1 => absurd h1 (own j e)⟩
  unfold start0 at h
  unfold L2.start
  rw [List.getElem?_append] at h ⊢
  rw [List.length_map] at h ⊢
  rw [hl]
  split at h
  · rename_i c
    rw [List.getElem?_map] at h
    cases q : ds[j]? with
    | none => rw [q] at h; cases h
    | some d =>
      rw [q] at h
      cases h
      obtain ⟨v, hv, rv⟩ := r.get q
      exact ⟨v, by rw [if_pos c, List.getElem?_map, hv]; rfl, rv⟩
  · rw [List.getElem?_replicate] at h
    split at h <;> cases h
theorem room_hu {k : Nat} {A : Around} (r : Room k A) : A.units + 100 < cLine := by have := r.un; omega
section
variable {P : Program} {w : World} {K : PySem.W.Frag} {mg : Str → Option Value} {base : Heap}
abbrev wE (E : XK) : WX := fun cls d _ H => E cls d H
/-- a def's body as it runs -/
abbrev cxD (P : Program) (w : World) (K : PySem.W.Frag) (mg : Str → Option Value) (base : Heap) (N : List Str) (qual : Str) (scope : Scope) (f : Addr) (cdv : Value) (A : Around) (outer : List Env) (s : Shared) (H : Hp) (E : XK) : Cx :=
  cxOf (L2N.CX P w) P w K mg base N qual scope f cdv A outer s H E
theorem fn_D {x qual : Str} {params : Arguments} {body : List Stmt} {scope : Scope} {kws : List (Str × V)} {dvs : List V} {f : Addr} {fd : FuncData} {N ps : List Str} {k : Nat} {sp : Spec} {t : List Addr → TSd} (F : FunD K x qual params body scope dvs kws f fd) (SC : FnScope N ps scope)
    (len : ∀ S ds Q E, sp S ds Q E → ds.length = ps.length)
    (hb : ∀ (cdv : Value) (A : Around) (outer : List Env) (s : Shared) (H : Hp) (E : XK) (S : List Addr), Room k (A.deeper (envOfC qual scope s.heap.objs.size f cdv)) →
      Cd (cxD P w K mg base N qual scope f cdv A outer s H E) (WE (wE E)) → DSs (cxD P w K mg base N qual scope f cdv A outer s H E) S (wE E) body (t S))
    (pure : ∀ S ds Q E, sp S ds Q E → t S { nx := fun _ => Q .non, rt := ptR Q, ex := fun x _ => E x } (start0 N ds)) : FnOk P w K mg base (L2N.CX P w) (k + 1) f fd ps (spD K sp) := by
  refine F.ok SC (fun vs H Q E h => ?_) (fun cdv A outer s H vs Q E hr h => ?_)
  · obtain ⟨S, B, ds, _, r, h⟩ := h
    rw [r.length]
    exact len S ds _ _ h
  · obtain ⟨S, B, ds, G, r, h⟩ := h
    have tk : L2N.Takes (cxD P w K mg base N qual scope f cdv A outer s H E) (wE E) := L2N.takes_of rfl rfl rfl rfl
    have C : Cd (cxD P w K mg base N qual scope f cdv A outer s H E) (WE (wE E)) := ⟨rfl, room_hu hr, fun σ => L2N.passAt tk σ, SC.nd⟩
    have b := hb cdv A outer s H E S hr C
    refine ⟨_, b.ps, B, H, B, B, _, ⟨G, start_ok r, G.le, .refl _, fun i d l h1 h2 => ?_⟩, ?_⟩
    · obtain ⟨v, h3, h4⟩ := (start_ok (K := K) (S := S) (B := B) (H := H) (N := N) r).at_ i _ h1
      obtain ⟨l', _, _, ow⟩ := h4
      exfalso
      unfold start0 at h1
      rw [List.getElem?_append] at h1
      split at h1
      · rw [List.getElem?_map] at h1
        cases q : ds[i]? with
        | none => rw [q] at h1; cases h1
        | some d => rw [q] at h1; cases h1
      · rw [List.getElem?_replicate] at h1
        split at h1 <;> cases h1
    · refine b.mono.r (D := { nx := fun _ => _, rt := _, ex := fun x _ => _ }) (fun ρ q B' σ' H' E' => q .non B' H' E'.2.2.1 .non) (fun d q v B' H' l r => match d, q, r with | .p _, q, r => q v B' H' l r) (fun _ z => z.elim) (fun _ z => z.elim) (fun x ρ q od B' σ' H' E' a => q od B' H' E'.2.2.1 a) (pure S ds _ _ h)
end
end DL

set_option Elab.async false
set_option linter.all false
set_option maxRecDepth 100000
set_option maxHeartbeats 1000000
/-! DL, part k: what a text's defs and built-ins stand for; more statements. -/
namespace DL
open PySem PySem.Spec PyProof.Rows L2

/-- these names are the built-ins -/
def Free (mg : Str → Option Value) (xs : List Str) : Prop := ∀ x ∈ xs, mg x = none
theorem Free.at {mg : Str → Option Value} {xs : List Str} (h : Free mg xs) (x : Str) (hx : xs.contains x = true := by decide +kernel) : mg x = none := h x (by simpa using hx)
/-- a def of the text, with its promise -/
structure Def (P : Program) (w : World) (K : PySem.W.Frag) (mg : Str → Option Value) (base : Heap) (name : Str) (k : Nat) (ps : List Str) (sp : Spec) : Prop where
  ex : ∃ (f : Addr) (fd : FuncData), FnOk P w K mg base (L2N.CX P w) k f fd ps (spD K sp) ∧ mg name = some (.ref f) ∧ PySem.W.keepIn K (.ref f) = true ∧ Binds K fd ps []
/-- a def of the text, as it stands -/
structure Hd (K : PySem.W.Frag) (mg : Str → Option Value) (name : Str) (st : Stmt) : Prop where
  ex : ∃ (f : Addr) (fd : FuncData), FunD K name name (defArgs st) (defBody st) (defScope st) [] [] f fd ∧ mg name = some (.ref f)
section
variable {X : Cx} {S : List Addr} {Ex : L2.St → XK} {W : WX} {e a b c : Expr} {es : List Expr} {t te : T} {tr : TAd} {pos p : Pos}
theorem de_fn {k : Nat} {ps : List Str} {sp : Spec} {x : Str} (C : Cd X Ex) (F : Def X.prog X.w X.K X.mg X.base x k ps sp) (ms : MonoS sp) (hr : Room k X.A) (hg : Gl X x)
    (h : DA X S Ex (e :: es) tr) (hdb : (x == ("__debug__" : Str)) = false := by decide) (he : starEach (e :: es) X.env = (false, eval e X.env) :: starEach es X.env := by rfl) (hpl : (backTo pos (starEach es X.env)).any (·.1) = false := by rfl) :
    DE X S Ex (.Call (.Name x p) (e :: es) [] pos) (tFn S sp tr) := by
  obtain ⟨f, fd, F, hm, hk, hb⟩ := F.ex
  exact de_call C F ms hr hg hm hk hb h hdb he hpl
/-- y = [..] on one line, y a local -/
theorem ds_lc {i : Nat} {y : Str} {py : Pos} {elt tg iter : Expr} {ifs : List Expr} {scope : Scope} {own : List (Str × Nat)} {spos : Pos} {τ : Tgt} {tt : TB} {te : T} {ti : TAd} (C : Cd X (WE W)) (hy : X.N[i]? = some y) (hyl : X.env.scope.names.lookup y = some .local)
    (hsw : swapsWith (.ListComp elt [⟨tg, iter, ifs, 0⟩] scope pos) (some (.Name y py)) spos.line X.env = pure true) (hi : DIB X S (WE W) tg iter ti) (ok : BlkOk X.N X.env.scope scope own) (hv : ∀ i ∈ vars τ, i ∈ own.map (·.2))
    (hg : ∀ (s : Shared) (H : Hp) (C : Addr) (cl : List (Str × Addr)) (fp : List Addr), DG (X.blk s H scope (compEnvC scope cl C X.env) fp) tg τ) (ht : ∀ (s : Shared) (H : Hp) (C : Addr) (cl : List (Str × Addr)) (fp : List Addr), DTs (X.blk s H scope (compEnvC scope cl C X.env) fp) S E0x ifs tt)
    (he : ∀ (s : Shared) (H : Hp) (C : Addr) (cl : List (Str × Addr)) (fp : List Addr), DE (X.blk s H scope (compEnvC scope cl C X.env) fp) S E0x elt te) (hs : ∀ x, foldedSetIterable iter X.env x = pure x := by intro _; rfl) :
    DS X S W (.Assign [.Name y py] (.ListComp elt [⟨tg, iter, ifs, 0⟩] scope pos) spos) (sOwn (tComp τ tt te (own.map (·.2)) ti) i) := by
  have mt : MonoB tt := (ht X.s_0 X.H_0 0 [] []).mono
  have me : Mono te := (he X.s_0 X.H_0 0 [] []).mono
  refine ⟨PS.imp (ps_setLc (g := gOf X.K τ) (tt := liftT X.K S E0x tt) (te := lift X.K S E0x (rP X.K) te) C.calm C.nd hy hyl hsw hi.pi ok hg (fun s H C cl fp => (ht s H C cl fp).pts) (fun s H C cl fp => (he s H C cl fp).pe) hs) fun De σ H ⟨B0, H0, Bk, B, ρ, E, q⟩ => ?_,
    ⟨fun {D D' ρ} h1 h2 h3 h4 h5 q => hi.mono.r (fun ds q => compD.imp mt me (fun ys q => h1 _ q) q) (fun x q => h5 _ _ q) q⟩⟩
  refine ⟨B, ρ, E.1, E.2.1, hi.mono.r (fun ds hd J B1 H1 l1 wk D0 hD => ?_) (fun x q => ex_of E x q) q⟩
  have G1 := l1.good E.1
  refine comp_core mt me hv G1 (E.2.1.le l1) wk hD hd fun B2 H2 ys ws l2 hb hw hl r hq => ?_
  exact own_fin E hq (l1.trans l2) ⟨D0, rfl, l1.old hD, hb, ws, hw, hl, r⟩
/-- .. a plain list at once -/
theorem ds_plain {i : Nat} {st : Stmt} (h : DS X S W st (sOwn te i)) (m : Mono te) (hi : i < X.N.length) : DS X S W st (sAsg te (.n i)) := by
  refine ⟨PS.imp h.ps fun De σ H ⟨B0, H0, Bk, B, ρ, E, q⟩ => ⟨B0, H0, Bk, B, ρ, E, m.r (fun d hd B1 σ1 H1 E1 => ?_) (fun _ z => z) q⟩, ⟨fun {D D' ρ} h1 h2 h3 h4 h5 q => m.r (fun d q => h1 _ q) (fun x q => h5 _ _ q) q⟩⟩
  by_cases hl : i < ρ.length
  · have hg : (ρ.set i (some (Sl.o d)))[i]? = some (some (Sl.o d)) := by rw [List.getElem?_set_self hl]
    obtain ⟨B', E'⟩ := E1.frz hg
    rw [List.set_set] at E'
    exact hd B' σ1 H1 E'
  · have e1 : ρ.set i (some (Sl.o d)) = ρ := List.set_eq_of_length_le (by omega)
    have e2 : ρ.set i (some (Sl.p d)) = ρ := List.set_eq_of_length_le (by omega)
    have hd : (ends X.K S W B0 H0 Bk De).nx (ρ.set i (some (Sl.p d))) := hd
    rw [e2] at hd
    rw [e1] at E1
    exact hd B1 σ1 H1 E1
theorem ds_lcp {i : Nat} {y : Str} {py : Pos} {elt tg iter : Expr} {ifs : List Expr} {scope : Scope} {own : List (Str × Nat)} {spos : Pos} {τ : Tgt} {tt : TB} {te : T} {ti : TAd} (C : Cd X (WE W)) (hy : X.N[i]? = some y) (hyl : X.env.scope.names.lookup y = some .local)
    (hsw : swapsWith (.ListComp elt [⟨tg, iter, ifs, 0⟩] scope pos) (some (.Name y py)) spos.line X.env = pure true) (hi : DIB X S (WE W) tg iter ti) (ok : BlkOk X.N X.env.scope scope own) (hv : ∀ i ∈ vars τ, i ∈ own.map (·.2))
    (hg : ∀ (s : Shared) (H : Hp) (C : Addr) (cl : List (Str × Addr)) (fp : List Addr), DG (X.blk s H scope (compEnvC scope cl C X.env) fp) tg τ) (ht : ∀ (s : Shared) (H : Hp) (C : Addr) (cl : List (Str × Addr)) (fp : List Addr), DTs (X.blk s H scope (compEnvC scope cl C X.env) fp) S E0x ifs tt)
    (he : ∀ (s : Shared) (H : Hp) (C : Addr) (cl : List (Str × Addr)) (fp : List Addr), DE (X.blk s H scope (compEnvC scope cl C X.env) fp) S E0x elt te) (hs : ∀ x, foldedSetIterable iter X.env x = pure x := by intro _; rfl) :
    DS X S W (.Assign [.Name y py] (.ListComp elt [⟨tg, iter, ifs, 0⟩] scope pos) spos) (sAsg (tComp τ tt te (own.map (·.2)) ti) (.n i)) :=
  ds_plain (ds_lc C hy hyl hsw hi ok hv hg ht he hs) ⟨fun h he' q => hi.mono.r (fun ds q => compD.imp (ht X.s_0 X.H_0 0 [] []).mono (he X.s_0 X.H_0 0 [] []).mono (fun ys q => h _ q) q) he' q⟩ (List.getElem?_eq_some_iff.mp hy).1
/-! ### x op= e -/
theorem ds_aug {i : Nat} {op : Operator} {x : Str} {pos' : Pos} {r : D → D → (D → Prop) → Prop} (C : Cd X (WE W)) (hi : X.N[i]? = some x) (hx : Loc X.env.scope x) (he : DB X S (WE W) e te) (hr : MonoR r)
    (o : OpD X S (inplaceOp op) r) (hf : X.fn x = true ∨ X.env.scope.names.lookup x = some .local := by first | exact .inl rfl | exact .inr rfl) :
    DS X S W (.AugAssign (.Name x pos') op e pos) (sAsg (tBin r (tV i) te) (.n i)) := by
  have hop : PIp X op (fun x y H Q => ∃ B dx dy, Good S B H ∧ At X.K S B H x dx ∧ At X.K S B H y dy ∧ r dx dy fun d => ∀ v B' H', Le S B H B' H' → Rp X.K B' v d → Q v H') := fun pins s σ H x y v u Q I rx ry h => o pins s σ H x y v u Q I rx ry h
  have m : Mono (tBin r (tV i) te) := tBin.mono hr tV.mono he.mono
  refine ⟨PS.imp (ps_aug C.nd hi hx he.pe hop hf) fun De σ H ⟨B0, H0, Bk, B, ρ, E, q⟩ => ?_, ⟨fun {D D' ρ} h1 h2 h3 h4 h5 q => m.r (fun d q => h1 _ q) (fun x q => h5 _ _ q) q⟩⟩
  have q : tV i ρ (fun x => te ρ (fun y => r x y fun d => (ends X.K S W B0 H0 Bk De).nx (ρ.set i (some (.p d)))) fun x => (ends X.K S W B0 H0 Bk De).ex x ρ) (fun x => (ends X.K S W B0 H0 Bk De).ex x ρ) := q
  unfold tV at q
  split at q
  · rename_i d hd
    obtain ⟨v, h1, h2⟩ := E.2.1.at_ i _ hd
    refine ⟨v, h1, B, ρ, E.1, E.2.1, he.mono.r (fun y hy w B1 H1 l r1 => ?_) (fun x q => ex_of E x q) q⟩
    have h2 : Rp X.K B v d := h2
    exact ⟨B1, d, y, l.good E.1, Rp.at (h2.mono l.base) (l.good E.1), r1, hr.r (fun d hd u B' H' l' ru => hd B' _ H' (((E.le l).le l').setP ru)) hy⟩
  · exact q.elim
theorem opi_add : OpD X S (inplaceOp .Add) (fun x y Q => match x, y with | .int i, .int j => Q (.int (i + j)) | _, _ => False) := OpR.imp iop_add fun x y H Q h => by
  obtain ⟨B, dx, dy, G, hx, hy, q⟩ := h
  cases dx <;> cases dy <;> first
    | exact q.elim
    | (cases hx; cases hy; exact ⟨_, _, rfl, rfl, q _ B H G.le (.int _)⟩)
end
end DL
namespace DL
open PySem PySem.Spec PyProof.Rows L2
/-- a constant of the module, as data -/
structure Con (K : PySem.W.Frag) (mg : Str → Option Value) (x : Str) (d : D) : Prop where
  ex : ∃ v u, mg x = some u ∧ RelV v u ∧ ∀ B : Hp, Rp K B v d
theorem de_con {X : Cx} {S : List Addr} {Ex : L2.St → XK} {x : Str} {d : D} {pos : Pos} (c : Con X.K X.mg x d) (hg : Gl X x := by rfl) (hdb : (x == ("__debug__" : Str)) = false := by decide) : DE X S Ex (.Name x pos) (tK d) := by
  obtain ⟨v, u, h1, h2, h3⟩ := c.ex
  exact de_glob hg h1 h2 h3 hdb
/-- a def that is a function of data -/
def spF (f : List D → Option D) : Spec := fun _ ds Q _ => match f ds with
  | some d => Q d
  | none => False
theorem spF.mono {f : List D → Option D} : MonoS (spF f) := ⟨fun h _ q => by
  unfold spF at *
  split at q
  · exact h _ q
  · exact q.elim⟩
end DL

set_option Elab.async false
set_option linter.all false
set_option maxRecDepth 100000
set_option maxHeartbeats 1000000
/-! DL, part l: loops over a dict's keys; more changes. -/
namespace DL
open PySem PySem.Spec PyProof.Rows L2
@[simp] def tNegE (ta : T) : T := fun ρ Q E => ta ρ (negD Q) E
section
variable {X : Cx} {S : List Addr} {Ex : L2.St → XK} {W : WX} {e a b c k : Expr} {t te ta tb tk : T} {tr : TAd} {u : TSd} {pos p apos : Pos} {x : Str}
/-! ### for x in d, d a dict in slot i that the body leaves -/
@[simp] def sForK (i : Nat) (τ : Tgt) (tb : TSd) : TSd := fun D ρ => keysI i (fun ds => forD τ tb ds { D with ex := fun _ _ => False } ρ) ρ
theorem PS.or {st : Stmt} {t t' : TS} (h : PS X st t) (h' : PS X st t') : PS X st (fun D σ H => t D σ H ∨ t' D σ H) := ⟨fun pins s σ H D I q => q.elim (h.run pins s σ H D I) (h'.run pins s σ H D I)⟩
section
variable {K : PySem.W.Frag} {B0 H0 Bk B H : Hp} {σ : L2.St} {ρ : DEnv} {d : Addr} {o : Obj} {kvs : List (Key × V)}
theorem EnvOk.lock (E : EnvOk K S B0 H0 Bk B H σ ρ) (hb : B d = some (.dK kvs)) (h : H d = some (.dK kvs)) : EnvOk K S (upd B0 d (.dK kvs)) (upd H0 d (.frz o (.dK kvs))) Bk B (upd H d (.frz o (.dK kvs))) σ ρ := by
  obtain ⟨g, s, le, kp, fr⟩ := E
  refine ⟨g.lock hb h, s.lock hb, ⟨fun b u q => ?_, fun b u q => ?_, fun b u q hs => ?_, (g.lock hb h).sub, fun a ha => ((g.lock hb h).src a ha).2⟩, kp, fun i e l h1 h2 => ?_⟩
  · by_cases e : b = d
    · subst e; rw [upd_same] at q; cases q; exact hb
    · rw [upd_ne e] at q; exact le.base b u q
  · by_cases e : b = d
    · subst e; rw [hb] at q; cases q; exact .inl upd_same
    · rw [upd_ne e, upd_ne e]; exact le.new b u q
  · by_cases e : b = d
    · subst e; rw [upd_same] at q; cases q; exact upd_same
    · rw [upd_ne e] at q; rw [upd_ne e]; exact le.heap b u q hs
  · obtain ⟨v, h3, l', ev, hl, _⟩ := s.at_ i _ h1
    rw [h2] at h3; cases h3; cases ev
    have ne : l ≠ d := fun z => by subst z; rw [hl] at hb; cases hb
    rw [upd_ne ne]; exact fr i e l h1 h2
theorem Le.unlockE {B' H' : Hp} (E : EnvOk K S B0 H0 Bk B H σ ρ) (hb : B d = some (.dK kvs)) (h : H d = some (.dK kvs)) (l : Le S (upd B0 d (.dK kvs)) (upd H0 d (.frz o (.dK kvs))) B' H') :
    H' d = some (.frz o (.dK kvs)) ∧ Le S B0 H0 B' (upd H' d (.dK kvs)) := by
  have hS : d ∉ S := E.1.notS hb
  have hB' : B' d = some (.dK kvs) := l.base d _ upd_same
  have le := E.2.2.1
  refine ⟨l.heap d _ upd_same hS, fun b u q => ?_, fun b u q => ?_, fun b u q hs => ?_, fun b u q => ?_, fun a ha => ?_⟩
  · by_cases e : b = d
    · subst e
      have := le.base b u q
      rw [hb] at this; cases this
      exact hB'
    · exact l.base b u (by rw [upd_ne e]; exact q)
  · by_cases e : b = d
    · subst e
      rw [hB'] at q; cases q
      exact le.new b _ hb
    · have := l.new b u q
      rw [upd_ne e, upd_ne e] at this
      exact this
  · by_cases e : b = d
    · subst e
      have := le.heap b u q hs
      rw [h] at this; cases this
      exact upd_same
    · rw [upd_ne e]; exact l.heap b u (by rw [upd_ne e]; exact q) hs
  · by_cases e : b = d
    · subst e
      rw [hB'] at q; cases q
      exact .inl upd_same
    · rw [upd_ne e]; exact l.sub b u q
  · obtain ⟨x, y, z, q, r⟩ := l.src a ha
    exact ⟨x, y, z, by rw [upd_ne (neS ha hS)]; exact q, r⟩
theorem EnvOk.unlock {B' H' : Hp} {σ' : L2.St} {ρ' : DEnv} (E : EnvOk K S B0 H0 Bk B H σ ρ) (hb : B d = some (.dK kvs)) (h : H d = some (.dK kvs)) (F : EnvOk K S (upd B0 d (.dK kvs)) (upd H0 d (.frz o (.dK kvs))) Bk B' H' σ' ρ') :
    H' d = some (.frz o (.dK kvs)) ∧ EnvOk K S B0 H0 Bk B' (upd H' d (.dK kvs)) σ' ρ' := by
  obtain ⟨h1, l⟩ := Le.unlockE E hb h F.2.2.1
  have hS : d ∉ S := E.1.notS hb
  refine ⟨h1, ⟨l.sub, fun a ha => ⟨(F.1.src a ha).1, l.src a ha⟩⟩, ⟨F.2.1.len, fun i x q => ?_, F.2.1.own, F.2.1.src⟩, l, F.2.2.2.1, fun i e m q1 q2 => ?_⟩
  · obtain ⟨v, q1, q2⟩ := F.2.1.at_ i x q
    refine ⟨v, q1, ?_⟩
    cases x with
    | p e => exact q2
    | o e =>
      obtain ⟨m, rfl, hm, ow⟩ := q2
      have ne : m ≠ d := fun z => by
        subst z
        cases e with
        | lst ds => obtain ⟨vs, z, _⟩ := ow; rw [h1] at z; cases z
        | dct ds => obtain ⟨vs, z, _⟩ := ow; rw [h1] at z; cases z
        | _ => exact ow.elim
      exact ⟨m, rfl, hm, ow.mono (.refl _) fun u q => by rw [upd_ne ne]; exact q⟩
  · have := F.2.2.2.2 i e m q1 q2
    by_cases z : m = d
    · subst z; rw [upd_same] at this; cases this
    · rw [upd_ne z] at this; exact this
end
section
variable {K : PySem.W.Frag} {B0 H0 Bk B H : Hp} {σ : L2.St} {ρ : DEnv} {d : Addr} {o : Obj} {kvs : List (Key × V)}
theorem EnvOk.lockF (E : EnvOk K S B0 H0 Bk B H σ ρ) (hb : B d = some (.dK kvs)) (h : H d = some (.frz o (.dK kvs))) : EnvOk K S (upd B0 d (.dK kvs)) (upd H0 d (.frz o (.dK kvs))) Bk B H σ ρ := by
  obtain ⟨g, s, le, kp, fr⟩ := E
  refine ⟨g, s, ⟨fun b u q => ?_, fun b u q => ?_, fun b u q hs => ?_, g.sub, fun a ha => (g.src a ha).2⟩, kp, fun i e l h1 h2 => ?_⟩
  · by_cases e : b = d
    · subst e; rw [upd_same] at q; cases q; exact hb
    · rw [upd_ne e] at q; exact le.base b u q
  · by_cases e : b = d
    · subst e; rw [hb] at q; cases q; exact .inl upd_same
    · rw [upd_ne e, upd_ne e]; exact le.new b u q
  · by_cases e : b = d
    · subst e; rw [upd_same] at q; cases q; exact h
    · rw [upd_ne e] at q; exact le.heap b u q hs
  · obtain ⟨v, h3, l', ev, hl, _⟩ := s.at_ i _ h1
    rw [h2] at h3; cases h3; cases ev
    have ne : l ≠ d := fun z => by subst z; rw [hl] at hb; cases hb
    rw [upd_ne ne]; exact fr i e l h1 h2
theorem Le.unlockF {B' H' : Hp} (E : EnvOk K S B0 H0 Bk B H σ ρ) (hb : B d = some (.dK kvs)) (h : H d = some (.frz o (.dK kvs))) (l : Le S (upd B0 d (.dK kvs)) (upd H0 d (.frz o (.dK kvs))) B' H') : Le S B0 H0 B' H' := by
  have hS : d ∉ S := E.1.notS hb
  have hB' : B' d = some (.dK kvs) := l.base d _ upd_same
  have hH' := l.heap d _ upd_same hS
  have le := E.2.2.1
  refine ⟨fun b u q => ?_, fun b u q => ?_, fun b u q hs => ?_, l.sub, l.src⟩
  · by_cases e : b = d
    · subst e
      have := le.base b u q
      rw [hb] at this; cases this
      exact hB'
    · exact l.base b u (by rw [upd_ne e]; exact q)
  · by_cases e : b = d
    · subst e
      rw [hB'] at q; cases q
      exact le.new b _ hb
    · have := l.new b u q
      rw [upd_ne e, upd_ne e] at this
      exact this
  · by_cases e : b = d
    · subst e
      have := le.heap b u q hs
      rw [hH', ← h]; exact this
    · exact l.heap b u (by rw [upd_ne e]; exact q) hs
theorem EnvOk.unlockF {B' H' : Hp} {σ' : L2.St} {ρ' : DEnv} (E : EnvOk K S B0 H0 Bk B H σ ρ) (hb : B d = some (.dK kvs)) (h : H d = some (.frz o (.dK kvs))) (F : EnvOk K S (upd B0 d (.dK kvs)) (upd H0 d (.frz o (.dK kvs))) Bk B' H' σ' ρ') :
    EnvOk K S B0 H0 Bk B' H' σ' ρ' := ⟨F.1, F.2.1, Le.unlockF E hb h F.2.2.1, F.2.2.2.1, fun i e m q1 q2 => by
    have := F.2.2.2.2 i e m q1 q2
    by_cases z : m = d
    · subst z; rw [upd_same] at this; cases this
    · rw [upd_ne z] at this; exact this⟩
end
theorem RtOk.unlockF {K : PySem.W.Frag} {H0 B' H' : Hp} {d : Addr} {o : HO} {v : V} {r : Rt} (h : RtOk K (upd H0 d o) B' H' v r) : RtOk K H0 B' H' v r := by
  cases r with
  | p d => exact h
  | f e =>
    obtain ⟨l, e1, h0, hb, ow⟩ := h
    have ne : l ≠ d := fun z => by subst z; rw [upd_same] at h0; cases h0
    exact ⟨l, e1, by rw [upd_ne ne] at h0; exact h0, hb, ow⟩
theorem RtOk.unlock {K : PySem.W.Frag} {H0 B' H' : Hp} {d : Addr} {o u : HO} {v : V} {r : Rt} (h : RtOk K (upd H0 d o) B' H' v r) : RtOk K H0 B' (upd H' d u) v r := by
  cases r with
  | p d => exact h
  | f e =>
    obtain ⟨l, e1, h0, hb, ow⟩ := h
    have ne : l ≠ d := fun z => by subst z; rw [upd_same] at h0; cases h0
    exact ⟨l, e1, by rw [upd_ne ne] at h0; exact h0, hb, ow.mono (.refl _) fun u q => by rw [upd_ne ne]; exact q⟩
theorem ds_forK (i : Nat) {p0 : Pos} {tg : Expr} {body : List Stmt} {τ : Tgt} {t : TSd} (C : Cd X (WE W)) (hp : PassesOwn (model X.prog X.w) X.A X.env X.xe) (hg : DG X tg τ) (hb : DSs X S W body t)
    (hs : ∀ y, foldedSetIterable (.Name x p0) X.env y = pure y := by intro _; rfl)
    (hN : X.N[i]? = some x := by rfl) (hvi : Vis X.env.scope x := by first | exact Or.inl rfl | exact Or.inr (Or.inl rfl) | exact Or.inr (Or.inr rfl)) (hd : (x == ("__debug__" : Str)) = false := by decide) (hcd : (x == ("__classdict__" : Str)) = false := by decide) :
    DS X S W (.For tg (.Name x p0) body [] pos) (fun D ρ => keysI i (fun ds => forD τ t ds { D with ex := fun _ _ => False } ρ) ρ) := by
  have lc := ps_for (pos := pos) hp C.calm (pi_keys (pv (pos := p0) i hN hvi hd hcd)) hg hb.ps hs
  refine ⟨PS.imp (PS.or (ps_lock lc) lc) fun De σ H ⟨B0, H0, Bk, B, ρ, E, q⟩ => ?_, ⟨fun {D D' ρ} h1 h2 h3 h4 h5 q => keysI.imp (fun ds q => forD.mono (D := { D with ex := fun _ _ => False }) (D' := { D' with ex := fun _ _ => False }) hb.mono h1 h2 (fun _ _ z => z) q) q⟩⟩
  have q : keysI i _ ρ := q
  unfold keysI at q
  split at q
  · rename_i kds e
    obtain ⟨v, h1, h2⟩ := E.2.1.at_ i _ e
    have h2 : Rp X.K B v (.dct kds) := h2
    cases h2 with
    | @dct d kvs _ hb2 hl r =>
    have hS := E.1.notS hb2
    rcases E.1.sub _ _ hb2 with hH | ⟨o, kvs', e', hH⟩
    · refine .inl ⟨d, _, hH, trivial, fun od => ?_⟩
      have E' := E.lock (o := od) hb2 hH
      refine ⟨_, h1, d, od, rfl, .inl ⟨kvs, upd_same, ?_⟩⟩
      refine for_core hb.mono E' (fun B2 H2 l2 k g => wk_k g (l2.heap d _ upd_same hS) (r.mono k)) ?_
      refine forD.mono (D := { ends X.K S W B0 H0 Bk De with ex := fun _ _ => False }) hb.mono (fun ρ' q' B' σ' H' F => ?_) (fun d' q' v B' H' l rv => ?_) (fun _ _ z => z.elim) q
      · obtain ⟨f1, f2⟩ := E.unlock hb2 hH F
        exact ⟨f1, q' B' σ' _ f2⟩
      · obtain ⟨f1, f2⟩ := Le.unlockE E hb2 hH l
        exact ⟨f1, q' v B' _ f2 rv.unlock⟩
    · cases e'
      refine .inr ⟨_, h1, d, o, rfl, .inl ⟨kvs, hH, ?_⟩⟩
      have E' := E.lockF hb2 hH
      refine for_core hb.mono E' (fun B2 H2 l2 k g => wk_k g (l2.heap d _ upd_same hS) (r.mono k)) ?_
      refine forD.mono (D := { ends X.K S W B0 H0 Bk De with ex := fun _ _ => False }) hb.mono (fun ρ' q' B' σ' H' F => ?_) (fun d' q' v B' H' l rv => ?_) (fun _ _ z => z.elim) q
      · exact q' B' σ' _ (E.unlockF hb2 hH F)
      · exact q' v B' _ (Le.unlockF E hb2 hH l) rv.unlockF
  · exact q.elim
end
end DL

set_option Elab.async false
set_option linter.all false
set_option maxRecDepth 100000
set_option maxHeartbeats 1000000
/-! DL, part m: how the plain side is worked out. -/
namespace DL
open PySem PySem.Spec PyProof.Rows L2
theorem compD_go {α : Type} {τ : Tgt} {tt : TB} {te : T} {ρ : DEnv} (f : α → D) (p : α → Bool) (g : α → D) : ∀ (xs : List α) {Q : List D → Prop},
    (∀ x ∈ xs, ∃ ρ', asg τ (f x) ρ = some ρ' ∧ (∀ Q, Q (p x) → tt ρ' Q NoE) ∧ (p x = true → ∀ Q, Q (g x) → te ρ' Q NoE)) → Q ((xs.filter p).map g) → compD τ tt te (xs.map f) ρ Q
  | [], _, _, q => q
  | x :: xs, Q, h, q => by
    obtain ⟨ρ', e, h1, h2⟩ := h x (List.mem_cons_self ..)
    simp only [List.map_cons, compD, e]
    refine h1 _ ?_
    cases hp : p x with
    | true =>
      rw [List.filter_cons_of_pos hp] at q
      exact h2 hp _ (compD_go f p g xs (fun y hy => h y (List.mem_cons_of_mem _ hy)) q)
    | false =>
      rw [List.filter_cons_of_neg (by simp [hp])] at q
      exact compD_go f p g xs (fun y hy => h y (List.mem_cons_of_mem _ hy)) q
/-- no tests -/
theorem compD_map {α : Type} {τ : Tgt} {te : T} {ρ : DEnv} (f : α → D) (g : α → D) (xs : List α) {Q : List D → Prop}
    (h : ∀ x ∈ xs, ∃ ρ', asg τ (f x) ρ = some ρ' ∧ (∀ Q, Q (g x) → te ρ' Q NoE)) (q : Q (xs.map g)) : compD τ tYesD te (xs.map f) ρ Q := by
  refine compD_go f (fun _ => true) g xs (fun x hx => ?_) (by rw [List.filter_eq_self.mpr (fun _ _ => rfl)]; exact q)
  obtain ⟨ρ', e, h1⟩ := h x hx
  exact ⟨ρ', e, fun Q q => q, fun _ => h1⟩
/-- over the data themselves -/
theorem compD_go' {τ : Tgt} {tt : TB} {te : T} {ρ : DEnv} (p : D → Bool) (g : D → D) (xs : List D) {Q : List D → Prop}
    (h : ∀ x ∈ xs, ∃ ρ', asg τ x ρ = some ρ' ∧ (∀ Q, Q (p x) → tt ρ' Q NoE) ∧ (p x = true → ∀ Q, Q (g x) → te ρ' Q NoE)) (q : Q ((xs.filter p).map g)) : compD τ tt te xs ρ Q := by
  have := compD_go (τ := τ) (tt := tt) (te := te) (ρ := ρ) (f := fun x => x) p g xs (Q := Q) h q
  simpa using this
theorem compD_map' {τ : Tgt} {te : T} {ρ : DEnv} (g : D → D) (xs : List D) {Q : List D → Prop}
    (h : ∀ x ∈ xs, ∃ ρ', asg τ x ρ = some ρ' ∧ (∀ Q, Q (g x) → te ρ' Q NoE)) (q : Q (xs.map g)) : compD τ tYesD te xs ρ Q := by
  have := compD_map (τ := τ) (te := te) (ρ := ρ) (f := fun x => x) g xs (Q := Q) h q
  simpa using this
theorem forD_rule {τ : Tgt} {tb : TSd} (I : List D → DEnv → Prop) {D : DEnds}
    (step : ∀ d rest ρ, I (d :: rest) ρ → ∃ ρ', asg τ d ρ = some ρ' ∧ ∀ N : DEnv → Prop, (∀ ρ'', I rest ρ'' → N ρ'') → tb { D with nx := N, ct := N, bk := D.nx } ρ')
    (fin : ∀ ρ, I [] ρ → D.nx ρ) : ∀ (ds : List DL.D) (ρ : DEnv), I ds ρ → forD τ tb ds D ρ
  | [], ρ, h => fin ρ h
  | d :: ds, ρ, h => by
    obtain ⟨ρ', e, k⟩ := step d ds ρ h
    simp only [forD, e]
    exact k _ fun ρ'' h' => forD_rule I step fin ds ρ'' h'
theorem whileD_rule {tc : TB} {tb : TSd} (I : Nat → DEnv → Prop) {D : DEnds}
    (step : ∀ n ρ, I n ρ → ∀ N : DEnv → Prop, (∀ m ρ'', m + 1 = n → I m ρ'' → N ρ'') → tc ρ (fun b => match b with
      | true => tb { D with nx := N, ct := N, bk := D.nx } ρ
      | false => D.nx ρ) fun x => D.ex x ρ) : ∀ (n : Nat) (ρ : DEnv), I n ρ → whileD tc tb (n + 1) D ρ
  | 0, ρ, h => step 0 ρ h _ fun _ _ e _ => absurd e (by omega)
  | n + 1, ρ, h => step (n + 1) ρ h _ fun m ρ'' e h' => by
    obtain rfl : m = n := by omega
    exact whileD_rule I step m ρ'' h'
theorem atI_nat {α : Type} (xs : List α) (k : Nat) : atI xs (k : Int) = xs[k]? := by
  unfold atI ixN
  by_cases h : k < xs.length
  · simp [h] <;> (try (split <;> first | rfl | omega)) 
  · have : xs[k]? = none := List.getElem?_eq_none (by omega)
    rw [this]
    simp <;> omega
@[simp] theorem atI_0 {α : Type} (xs : List α) : atI xs 0 = xs[0]? := atI_nat xs 0
@[simp] theorem atI_1 {α : Type} (xs : List α) : atI xs 1 = xs[1]? := atI_nat xs 1
@[simp] theorem atI_2 {α : Type} (xs : List α) : atI xs 2 = xs[2]? := atI_nat xs 2
@[simp] theorem atI_3 {α : Type} (xs : List α) : atI xs 3 = xs[3]? := atI_nat xs 3
@[simp] theorem atI_4 {α : Type} (xs : List α) : atI xs 4 = xs[4]? := atI_nat xs 4
@[simp] theorem atI_n1 {α : Type} (xs : List α) : atI xs (-1) = xs.getLast? := by
  unfold atI ixN
  rw [List.getLast?_eq_getElem?]
  cases xs with
  | nil => rfl
  | cons x xs =>
    rw [if_neg (by omega), if_pos (by simp only [List.length_cons]; omega)]
    have : (-1 + ((x :: xs).length : Int)).toNat = (x :: xs).length - 1 := by simp only [List.length_cons]; omega
    simp only [Option.bind_some, this]
/-- a def that is never called so -/
theorem fn_never {P : Program} {w : World} {K : PySem.W.Frag} {mg : Str → Option Value} {base : Heap} {x qual : Str} {params : Arguments} {body : List Stmt} {scope : Scope} {kws : List (Str × V)} {dvs : List V} {f : Addr} {fd : FuncData} {N ps : List Str} {k : Nat} {sp : Spec}
    (F : FunD K x qual params body scope dvs kws f fd) (SC : FnScope N ps scope) (no : ∀ S ds Q E, ¬ sp S ds Q E) : FnOk P w K mg base (L2N.CX P w) (k + 1) f fd ps (spD K sp) :=
  F.ok SC (fun vs H Q E ⟨S, B, ds, _, _, h⟩ => absurd h (no S ds _ _)) fun cdv A outer s H vs Q E hr ⟨S, B, ds, _, _, h⟩ => absurd h (no S ds _ _)
/-- a comprehension whose values are not told one by one -/
theorem compD_any {α : Type} {τ : Tgt} {te : T} {ρ : DEnv} (f : α → D) (P : D → Prop) : ∀ (xs : List α) {Q : List D → Prop},
    (∀ x ∈ xs, ∃ ρ', asg τ (f x) ρ = some ρ' ∧ (∀ Q : D → Prop, (∀ y, P y → Q y) → te ρ' Q NoE)) → (∀ ys : List D, ys.length = xs.length → (∀ y ∈ ys, P y) → Q ys) → compD τ tYesD te (xs.map f) ρ Q
  | [], Q, _, q => q [] rfl fun _ h => nomatch h
  | x :: xs, Q, h, q => by
    obtain ⟨ρ', e, h1⟩ := h x (List.mem_cons_self ..)
    simp only [List.map_cons, compD, e, tYesD]
    refine h1 _ fun y hy => ?_
    refine compD_any f P xs (fun z hz => h z (List.mem_cons_of_mem _ hz)) fun ys hl hp => q (y :: ys) (by simp [hl]) fun z hz => ?_
    rcases List.mem_cons.mp hz with e | e
    · rw [e]; exact hy
    · exact hp z e
/-- one statement after another, the rest told apart -/
theorem seq_intro {t u : TSd} {D : DEnds} {ρ : DEnv} (h : ∀ K : DEnv → Prop, (∀ ρ', u D ρ' → K ρ') → t { D with nx := K } ρ) : sSeq t u D ρ := h (u D) fun _ z => z
end DL

set_option Elab.async false
set_option linter.all false
set_option maxRecDepth 100000
set_option maxHeartbeats 1000000
/-! DL, part n: new objects returned; lists changed by their methods and by places; the law's source of numbers. -/
namespace DL
open PySem PySem.Spec PyProof.Rows L2
section
variable {X : Cx} {S : List Addr} {Ex : L2.St → XK} {W : WX} {st : Stmt} {rest : List Stmt} {u : TSd} {e c k : Expr} {es : List Expr} {te tk : T} {tr : TAd} {pos apos p : Pos} {x : Str}
/-! ### return of a new object -/
theorem ds_retF (he : DF X S (WE W) e te) : DS X S W (.Return (some e) pos) (sRetF te) := by
  refine ⟨PS.imp (ps_ret he.pe) fun D σ H ⟨B0, H0, Bk, B, ρ, E, q⟩ => ?_, ⟨fun {D D' ρ} h1 h2 h3 h4 h5 q => he.mono.r (fun d q => h2 _ q) (fun x q => h5 _ _ q) q⟩⟩
  refine ⟨B, ρ, E.1, E.2.1, he.mono.r (fun d hd v B1 H1 l r => hd v B1 H1 (E.2.2.1.trans l) ?_) (fun x q => ex_of E x q) q⟩
  obtain ⟨p, e1, h0, hb, ow⟩ := r
  exact ⟨p, e1, E.2.2.1.old h0, hb, ow⟩
def spDF (K : PySem.W.Frag) (f : Spec) : Sp := fun vs H Q E => ∃ S B ds, Good S B H ∧ RpA K B vs ds ∧ f S ds (fun d => ∀ v B' H', Le S B H B' H' → rF K H B' H' v d → Q v H') (ExW K S E B H)
structure DefF (P : Program) (w : World) (K : PySem.W.Frag) (mg : Str → Option Value) (base : Heap) (name : Str) (k : Nat) (ps : List Str) (sp : Spec) : Prop where
  ex : ∃ (f : Addr) (fd : FuncData), FnOk P w K mg base (L2N.CX P w) k f fd ps (spDF K sp) ∧ mg name = some (.ref f) ∧ PySem.W.keepIn K (.ref f) = true ∧ Binds K fd ps []
theorem df_fn {k : Nat} {ps : List Str} {sp : Spec} {x : Str} (C : Cd X Ex) (F : DefF X.prog X.w X.K X.mg X.base x k ps sp) (ms : MonoS sp) (hr : Room k X.A) (hg : Gl X x)
    (h : DA X S Ex (e :: es) tr) (hdb : (x == ("__debug__" : Str)) = false := by decide) (he : starEach (e :: es) X.env = (false, eval e X.env) :: starEach es X.env := by rfl) (hpl : (backTo pos (starEach es X.env)).any (·.1) = false := by rfl) :
    DF X S Ex (.Call (.Name x p) (e :: es) [] pos) (tFn S sp tr) := by
  obtain ⟨f, fd, F, hm, hk, hb⟩ := F.ex
  refine ⟨PE.imp (pe_callS F hr hg hm hk hb C.pass h.pa hdb he hpl) (lift.one fun σ B ρ H Q G SO q => ?_), ⟨fun h' he' q => h.mono.r (fun ds q => ms.r h' he' q) he' q⟩⟩
  refine ⟨B, ρ, G, SO, h.mono.r (fun ds hd vs B' H' l r => ?_) (fun _ z => z) q⟩
  exact ⟨S, B', ds, l.good G, r, ms.r (fun d hd v B2 H2 l2 r2 => hd v B2 H2 (l.trans l2) (back_F.r (S := S) l r2)) (fun x z => ExW.le l x z) hd⟩
end
section
variable {P : Program} {w : World} {K : PySem.W.Frag} {mg : Str → Option Value} {base : Heap}
theorem fn_DF {x qual : Str} {params : Arguments} {body : List Stmt} {scope : Scope} {kws : List (Str × V)} {dvs : List V} {f : Addr} {fd : FuncData} {N ps : List Str} {k : Nat} {sp : Spec} {t : List Addr → TSd} (F : FunD K x qual params body scope dvs kws f fd) (SC : FnScope N ps scope)
    (len : ∀ S ds Q E, sp S ds Q E → ds.length = ps.length)
    (hb : ∀ (cdv : Value) (A : Around) (outer : List Env) (s : Shared) (H : Hp) (E : XK) (S : List Addr), Room k (A.deeper (envOfC qual scope s.heap.objs.size f cdv)) →
      Cd (cxD P w K mg base N qual scope f cdv A outer s H E) (WE (wE E)) → DSs (cxD P w K mg base N qual scope f cdv A outer s H E) S (wE E) body (t S))
    (pure : ∀ S ds Q E, sp S ds Q E → t S { nx := fun _ => False, rt := frR Q, ex := fun x _ => E x } (start0 N ds)) : FnOk P w K mg base (L2N.CX P w) (k + 1) f fd ps (spDF K sp) := by
  refine F.ok SC (fun vs H Q E h => ?_) (fun cdv A outer s H vs Q E hr h => ?_)
  · obtain ⟨S, B, ds, _, r, h⟩ := h
    rw [r.length]
    exact len S ds _ _ h
  · obtain ⟨S, B, ds, G, r, h⟩ := h
    have tk : L2N.Takes (cxD P w K mg base N qual scope f cdv A outer s H E) (wE E) := L2N.takes_of rfl rfl rfl rfl
    have C : Cd (cxD P w K mg base N qual scope f cdv A outer s H E) (WE (wE E)) := ⟨rfl, room_hu hr, fun σ => L2N.passAt tk σ, SC.nd⟩
    have b := hb cdv A outer s H E S hr C
    refine ⟨_, b.ps, B, H, B, B, _, ⟨G, start_ok r, G.le, .refl _, fun i d l h1 h2 => ?_⟩, ?_⟩
    · obtain ⟨v, h3, h4⟩ := (start_ok (K := K) (S := S) (B := B) (H := H) (N := N) r).at_ i _ h1
      obtain ⟨l', _, _, ow⟩ := h4
      exfalso
      unfold start0 at h1
      rw [List.getElem?_append] at h1
      split at h1
      · rw [List.getElem?_map] at h1
        cases q : ds[i]? with
        | none => rw [q] at h1; cases h1
        | some d => rw [q] at h1; cases h1
      · rw [List.getElem?_replicate] at h1
        split at h1 <;> cases h1
    · refine b.mono.r (D := { nx := fun _ => _, rt := _, ex := fun x _ => _ }) (fun ρ q => q.elim) (fun d q v B' H' l r => match d, q, r with | .f _, q, r => q v B' H' l r) (fun _ z => z.elim) (fun _ z => z.elim) (fun x ρ q od B' σ' H' E' a => q od B' H' E'.2.2.1 a) (pure S ds _ _ h)
end
section
variable {X : Cx} {S : List Addr} {Ex : L2.St → XK} {W : WX} {st : Stmt} {rest : List Stmt} {u : TSd} {e c k : Expr} {es : List Expr} {te tk : T} {tr : TAd} {pos apos p : Pos} {x : Str}
/-! ### x.method(..) of an owned list -/
abbrev LM := List D → List D → (List D → Prop) → Prop
structure MonoM (m : LM) : Prop where
  r : ∀ {ds as : List D} {Q Q' : List D → Prop}, (∀ ds, Q ds → Q' ds) → m ds as Q → m ds as Q'
@[simp] def sMeth (i : Nat) (m : LM) (tr : TAd) : TSd := fun D ρ => ownL i ρ fun _ => tr ρ (fun as => ownL i ρ fun ds => m ds as fun ds' => D.nx (putL i ρ ds')) fun x => D.ex x ρ
theorem ds_lmeth (i : Nat) {px cp : Pos} {name : Str} {id : String} {r : V → List V → Hp → VK → Prop} {m : LM} (mm : MonoM m) (slot : Slot "list" name id) (hty : typeOf (.builtin id) = pure (.type "method_descriptor")) (hm : MtR X id r)
    (hr : ∀ (B : Hp) l xs ds vs as H (Q : VK) (Pd : List D → Prop), RpA X.K B xs ds → RpA X.K B vs as → H l = some (.lst xs) → xs.length ≤ sizeLine → m ds as Pd →
      (∀ v ys ds', RpA X.K B ys ds' → ys.length ≤ sizeLine → Pd ds' → Q v (upd H l (.lst ys))) → r (.ref l) vs H Q)
    (ha : DA X S (WE W) (e :: es) tr)
    (hN : X.N[i]? = some x := by rfl) (hv : Vis X.env.scope x := by first | exact Or.inl rfl | exact Or.inr (Or.inl rfl) | exact Or.inr (Or.inr rfl)) (hd : (x == ("__debug__" : Str)) = false := by decide) (hcd : (x == ("__classdict__" : Str)) = false := by decide)
    (hbase : attributeBase (.Name x px) name X.env (eval (.Name x px) X.env) = eval (.Name x px) X.env := by rfl)
    (hfew : ((backTo cp (starEach (e :: es) X.env)).all (fun x => !x.1) && (backToKw cp (keywordEach [] X.env)).all (fun x => x.1.isSome)
      && decide ((e :: es).length + ([] : List Keyword).length + (if ([] : List Keyword).isEmpty then 0 else 1) < 30)) = true := by rfl)
    (hline : (apos.endLine == cp.line) = true := by rfl) (hs' : starEach (e :: es) X.env = (false, eval e X.env) :: starEach es X.env := by rfl) (hplain : (backTo cp (starEach es X.env)).any (·.1) = false := by rfl)
    (hs : swapsWith (.Call (.Attribute (.Name x px) name apos) (e :: es) [] cp) none pos.line X.env = pure false := by rfl) : DS X S W (.Expr (.Call (.Attribute (.Name x px) name apos) (e :: es) [] cp) pos) (sMeth i m tr) := by
  have hpe : PE X (.Call (.Attribute (.Name x px) name apos) (e :: es) [] cp) (tBM X.K "list" r (tVar i) (liftA X.K S (WE W) (raP X.K) tr)) := pe_bm PySem.F.plainAttrs_list slot hty hm (pv i hN hv hd hcd) ha.pa hbase hfew hline hs' hplain
  refine ⟨PS.imp (ps_expr hpe hs) fun De σ H ⟨B0, H0, Bk, B, ρ, E, q⟩ => ?_, ⟨fun {D D' ρ} h1 h2 h3 h4 h5 q => ownL.imp (fun _ q => ha.mono.r (fun as q => ownL.imp (fun ds q => mm.r (fun ds q => h1 _ q) q) q) (fun x q => h5 _ _ q) q) q⟩⟩
  have q : ownL i ρ fun _ => tr ρ (fun as => ownL i ρ fun ds => m ds as fun ds' => (ends X.K S W B0 H0 Bk De).nx (putL i ρ ds')) fun x => (ends X.K S W B0 H0 Bk De).ex x ρ := q
  obtain ⟨ds, hi, q⟩ := q.is
  obtain ⟨l, vs, h1, h2, h3, h4⟩ := E.ownL hi
  refine ⟨_, h1, .inl ⟨rfl, vs, SqL.of h2⟩, B, ρ, E.1, E.2.1, ha.mono.r (fun as hd vs B1 H1 le r => ?_) (fun x q => ex_of E x q) q⟩
  have E1 := E.le le
  obtain ⟨ds', hi', hd⟩ := hd.is
  rw [hi] at hi'
  cases hi'
  obtain ⟨l', ws, k1, k2, k3, k4⟩ := E1.ownL hi
  rw [h1] at k1
  cases k1
  exact hr B1 l ws ds vs as H1 _ _ k4 r k2 k3 hd fun v ys ds' ry hz hq => hq B1 σ _ (E1.poke hi h1 ⟨_, upd_same, hz, ry⟩)
def mApp : LM := fun ds as Q => match as with
  | [d] => ds.length < sizeLine ∧ Q (ds ++ [d])
  | _ => False
def mIns : LM := fun ds as Q => match as with
  | [.int i, d] => (ds.length < sizeLine ∧ 0 ≤ i ∧ i < 2 ^ 63) ∧ Q (ds.take i.toNat ++ [d] ++ ds.drop i.toNat)
  | _ => False
def mPop : LM := fun ds as Q => match as with
  | [.int i] => (0 ≤ i ∧ i < ds.length) ∧ Q (ds.eraseIdx i.toNat)
  | _ => False
theorem mApp.mono : MonoM mApp := ⟨fun {ds as Q Q'} h q => by unfold mApp at *; split at q <;> first | exact ⟨q.1, h _ q.2⟩ | exact q.elim⟩
theorem mIns.mono : MonoM mIns := ⟨fun {ds as Q Q'} h q => by unfold mIns at *; split at q <;> first | exact ⟨q.1, h _ q.2⟩ | exact q.elim⟩
theorem mPop.mono : MonoM mPop := ⟨fun {ds as Q Q'} h q => by unfold mPop at *; split at q <;> first | exact ⟨q.1, h _ q.2⟩ | exact q.elim⟩
theorem RpA.erase {K : PySem.W.Frag} {B : Hp} : ∀ {vs : List V} {ds : List D} (n : Nat), RpA K B vs ds → RpA K B (vs.eraseIdx n) (ds.eraseIdx n)
  | _, _, _, .nil => .nil
  | _, _, 0, .cons h t => t
  | _, _, n + 1, .cons h t => .cons h (RpA.erase n t)
theorem RpA.getv {K : PySem.W.Frag} {B : Hp} : ∀ {vs : List V} {ds : List D} {n : Nat}, RpA K B vs ds → n < ds.length → ∃ v, vs[n]? = some v
  | _, _, _, .nil, h => absurd h (by simp)
  | v :: _, _ :: _, 0, .cons h t, _ => ⟨v, rfl⟩
  | _ :: _, _ :: _, n + 1, .cons h t, hn => RpA.getv (n := n) t (by simpa using hn)
theorem hm_app {K : PySem.W.Frag} (B : Hp) (l : Addr) (xs : List V) (ds : List D) (vs : List V) (as : List D) (H : Hp) (Q : VK) (Pd : List D → Prop) (r : RpA K B xs ds) (ra : RpA K B vs as) (h : H l = some (.lst xs)) (hz : xs.length ≤ sizeLine) (hm : mApp ds as Pd)
    (k : ∀ v ys ds', RpA K B ys ds' → ys.length ≤ sizeLine → Pd ds' → Q v (upd H l (.lst ys))) : rAppend (.ref l) vs H Q := by
  unfold mApp at hm
  split at hm
  · cases ra with
    | cons h1 t => cases t; exact ⟨l, xs, _, rfl, rfl, h, by rw [r.length]; exact hm.1, k _ _ _ (r.append (.cons h1 .nil)) (by rw [List.length_append, r.length]; exact hm.1) hm.2⟩
  · exact hm.elim
theorem hm_ins {K : PySem.W.Frag} (B : Hp) (l : Addr) (xs : List V) (ds : List D) (vs : List V) (as : List D) (H : Hp) (Q : VK) (Pd : List D → Prop) (r : RpA K B xs ds) (ra : RpA K B vs as) (h : H l = some (.lst xs)) (hz : xs.length ≤ sizeLine) (hm : mIns ds as Pd)
    (k : ∀ v ys ds', RpA K B ys ds' → ys.length ≤ sizeLine → Pd ds' → Q v (upd H l (.lst ys))) : ∃ (l' : Addr) (xs : List V) (i : Int) (y : V), V.ref l = .ref l' ∧ vs = [.int i, y] ∧ H l' = some (.lst xs) ∧ xs.length < sizeLine ∧ 0 ≤ i ∧ i < 2 ^ 63 ∧
    Q .non (upd H l' (.lst (xs.take i.toNat ++ [y] ++ xs.drop i.toNat))) := by
  unfold mIns at hm
  split at hm
  · cases ra with
    | cons h1 t =>
      cases t with
      | cons h2 t =>
        cases t; cases h1
        refine ⟨l, xs, _, _, rfl, rfl, h, by rw [r.length]; exact hm.1.1, hm.1.2.1, hm.1.2.2, k _ _ _ (((r.take _).append (.cons h2 .nil)).append (r.drop _)) ?_ hm.2⟩
        have := hm.1.1
        rw [← r.length] at this
        simp only [List.length_append, List.length_take, List.length_drop, List.length_singleton]
        omega
  · exact hm.elim
theorem hm_pop {K : PySem.W.Frag} (B : Hp) (l : Addr) (xs : List V) (ds : List D) (vs : List V) (as : List D) (H : Hp) (Q : VK) (Pd : List D → Prop) (r : RpA K B xs ds) (ra : RpA K B vs as) (h : H l = some (.lst xs)) (hz : xs.length ≤ sizeLine) (hm : mPop ds as Pd)
    (k : ∀ v ys ds', RpA K B ys ds' → ys.length ≤ sizeLine → Pd ds' → Q v (upd H l (.lst ys))) : rPopAt (.ref l) vs H Q := by
  unfold mPop at hm
  split at hm
  · rename_i i
    cases ra with
    | cons h1 t =>
      cases t; cases h1
      obtain ⟨⟨p1, p2⟩, hq⟩ := hm
      have hl := r.length
      obtain ⟨y, hy⟩ := r.getv (n := i.toNat) (by omega)
      have hs : sizeLine = 2 ^ 24 := rfl
      exact ⟨l, xs, i, i.toNat, y, rfl, rfl, h, by omega, by omega, seqIndex_of p1 (by omega), hy, k _ _ _ (r.erase _) (by have := List.length_eraseIdx_le xs i.toNat; omega) hq⟩
  · exact hm.elim
end
end DL

set_option Elab.async false
set_option linter.all false
set_option maxRecDepth 100000
set_option maxHeartbeats 1000000
/-! DL, part o: places of lists; the law's source of numbers. -/
namespace DL
open PySem PySem.Spec PyProof.Rows L2
section
variable {X : Cx} {S : List Addr} {Ex : L2.St → XK} {W : WX} {st : Stmt} {rest : List Stmt} {u : TSd} {e c k : Expr} {es : List Expr} {te tk : T} {tr : TAd} {pos apos p p2 : Pos} {x : Str}
/-! ### x[k] = e, an owned list -/
def setL (ds : List D) (d : D) (Q : List D → Prop) : D → Prop
  | .int j => match ixN ds.length j with
    | some n => Q (ds.set n d)
    | none => False
  | _ => False
theorem setL.imp {ds : List D} {d : D} {Q Q' : List D → Prop} (h : ∀ ds, Q ds → Q' ds) : ∀ k, setL ds d Q k → setL ds d Q' k := fun k q => by
  cases k <;> first | exact q.elim | skip
  unfold setL at *
  simp only at *
  split at q <;> first | exact h _ q | exact q.elim
@[simp] def sSetI (i : Nat) (te tk : T) : TSd := fun D ρ => ownL i ρ fun _ => te ρ (fun d => tk ρ (fun k => ownL i ρ fun ds => setL ds d (fun ds' => D.nx (putL i ρ ds')) k) fun x => D.ex x ρ) fun x => D.ex x ρ
theorem ds_setI (i : Nat) {px : Pos} (he : DE X S (WE W) e te) (hk : DE X S (WE W) k tk)
    (hN : X.N[i]? = some x := by rfl) (hv : Vis X.env.scope x := by first | exact Or.inl rfl | exact Or.inr (Or.inl rfl) | exact Or.inr (Or.inr rfl)) (hd : (x == ("__debug__" : Str)) = false := by decide) (hcd : (x == ("__classdict__" : Str)) = false := by decide)
    (ha : ∀ v, assign (.Subscript (.Name x px) k p) X.env v = (do
      let ov ← holding [v] (eval (.Name x px) X.env)
      let iv ← holding [v, ov] (eval k X.env)
      standAt p
      holding [v, ov, iv] (setItem ov iv v)
      release [v, ov, iv] []) := by intro _; rfl)
    (hs : swapsWithSole [.Subscript (.Name x px) k p] e pos.line X.env = pure false := by rfl) (hw : swappedStores [.Subscript (.Name x px) k p] e X.env = pure none := by rfl)
    (h1 : (assignEach [.Subscript (.Name x px) k p] X.env).map (·.2) = [assign (.Subscript (.Name x px) k p) X.env] := by rfl) : DS X S W (.Assign [.Subscript (.Name x px) k p] e pos) (sSetI i te tk) := by
  refine ⟨PS.imp (ps_asg he.pe (pg_sub (pv i hN hv hd hcd) hk.pe set_list ha) hs hw h1) fun De σ H ⟨B0, H0, Bk, B, ρ, E, q⟩ => ?_, ⟨fun {D D' ρ} h1 h2 h3 h4 h5 q => ownL.imp (fun _ q => he.mono.r (fun d q => hk.mono.r (fun k q => ownL.imp (fun ds q => setL.imp (fun ds q => h1 _ q) _ q) q) (fun x q => h5 _ _ q) q) (fun x q => h5 _ _ q) q) q⟩⟩
  have q : ownL i ρ fun _ => te ρ (fun d => tk ρ (fun k => ownL i ρ fun ds => setL ds d (fun ds' => (ends X.K S W B0 H0 Bk De).nx (putL i ρ ds')) k) fun x => (ends X.K S W B0 H0 Bk De).ex x ρ) (fun x => (ends X.K S W B0 H0 Bk De).ex x ρ) := q
  obtain ⟨ds, hi, q⟩ := q.is
  obtain ⟨l0, vs, g1, g2, g3, g4⟩ := E.ownL hi
  refine ⟨B, ρ, E.1, E.2.1, he.mono.r (fun d hd v B1 H1 l r => ?_) (fun x q => ex_of E x q) q⟩
  have E1 := E.le l
  refine ⟨.ref l0, g1, B1, ρ, E1.1, E1.2.1, hk.mono.r (fun k hq kv B2 H2 l2 rk => ?_) (fun x q => ex_of E1 x q) hd⟩
  have E2 := E1.le l2
  obtain ⟨ds2, hi2, hq⟩ := hq.is
  rw [hi] at hi2
  cases hi2
  obtain ⟨l', ws, k1, k2, k3, k4⟩ := E2.ownL hi
  rw [g1] at k1
  cases k1
  cases k with
  | int j =>
    have rk : Rp X.K B2 kv (.int j) := rk
    cases rk
    unfold setL at hq
    simp only at hq
    split at hq
    · rename_i n hn
      have r2 : Rp X.K B2 v d := r.mono l2.base
      exact ⟨l0, ws, j, n, rfl, rfl, k2, by rw [k4.length]; exact hn, hq B2 σ _ (E2.poke hi g1 ⟨_, upd_same, by rw [List.length_set]; exact k3, k4.set r2 n⟩)⟩
    · exact hq.elim
  | _ => exact hq.elim
/-! ### the source of numbers -/
def srcR (n : Nat) (j : Int) : Prop := match n with
  | 0 => 0 ≤ j
  | 1 => 0 ≤ j ∧ j ≤ 2 ^ 32
  | 2 => 0 < j ∧ j ≤ 2 ^ 32
  | _ => False
def isSrc (S : List Addr) (i : Nat) (ρ : DEnv) (Q : Prop) : Prop := match ρ[i]? with
  | some (some (.p (.ref a))) => a ∈ S ∧ Q
  | _ => False
theorem isSrc.is {i : Nat} {ρ : DEnv} {Q : Prop} (h : isSrc S i ρ Q) : ∃ a, ρ[i]? = some (some (.p (.ref a))) ∧ a ∈ S ∧ Q := by
  unfold isSrc at h
  split at h
  · rename_i a e; exact ⟨a, e, h⟩
  · exact h.elim
theorem isSrc.imp {i : Nat} {ρ : DEnv} {Q Q' : Prop} (h : Q → Q') (q : isSrc S i ρ Q) : isSrc S i ρ Q' := by
  unfold isSrc at *
  split at q
  · exact ⟨q.1, h q.2⟩
  · exact q.elim
@[simp] def tSrc (S : List Addr) (i n : Nat) : T := fun ρ Q _ => isSrc S i ρ (n < 3 ∧ ∀ j, srcR n j → Q (.int j))
theorem de_src (i n : Nat) {px : Pos} (hk : DE X S Ex k (tK (.int n))) (hs : PlainIx k)
    (hN : X.N[i]? = some x := by rfl) (hv : Vis X.env.scope x := by first | exact Or.inl rfl | exact Or.inr (Or.inl rfl) | exact Or.inr (Or.inr rfl)) (hd : (x == ("__debug__" : Str)) = false := by decide) (hcd : (x == ("__classdict__" : Str)) = false := by decide) :
    DE X S Ex (.Subscript (.Name x px) k p) (tSrc S i n) := by
  refine ⟨PE.imp (pe_ix ix_list (pv i hN hv hd hcd) hk.pe hs) (lift.one fun σ B ρ H Q G SO q => ?_), ⟨fun h _ q => isSrc.imp (fun q => ⟨q.1, fun j hj => h _ (q.2 j hj)⟩) q⟩⟩
  have q : isSrc S i ρ (n < 3 ∧ ∀ j, srcR n j → (fun d => ∀ v B' H', Le S B H B' H' → rP X.K H B' H' v d → Q v H') (.int j)) := q
  obtain ⟨a, hi, ha, hn, q⟩ := q.is
  obtain ⟨v, h1, h2⟩ := SO.at_ i _ hi
  have h2 : Rp X.K B v (.ref a) := h2
  cases h2
  refine ⟨_, h1, B, ρ, G, SO, fun kv B1 H1 l rk => ?_⟩
  have rk : Rp X.K B1 kv (.int n) := rk
  cases rk
  have G1 := l.good G
  obtain ⟨_, x, y, z, e, b1, b2, b3, b4, b5⟩ := G1.src a ha
  match n, hn with
  | 0, _ => exact ⟨a, _, _, .int x, rfl, rfl, SqL.of e, rfl, q x b1 _ B1 H1 l (.int _)⟩
  | 1, _ => exact ⟨a, _, _, .int y, rfl, rfl, SqL.of e, rfl, q y ⟨b2, b3⟩ _ B1 H1 l (.int _)⟩
  | 2, _ => exact ⟨a, _, _, .int z, rfl, rfl, SqL.of e, rfl, q z ⟨b4, b5⟩ _ B1 H1 l (.int _)⟩
/-- the source is written -/
theorem Le.srcW {B H : Hp} (g : Good S B H) {a : Addr} (ha : a ∈ S) {o : HO} (h : SrcOk (upd H a o) a) : Le S B H B (upd H a o) := by
  refine ⟨.refl _, fun b u q => .inl q, fun b u q hs => ?_, fun b u q => ?_, fun c hc => ?_⟩
  · have ne : b ≠ a := fun z => by subst z; exact hs ha
    rw [upd_ne ne]; exact q
  · have ne : b ≠ a := fun z => by subst z; rw [(g.src b ha).1] at q; cases q
    rw [upd_ne ne]; exact g.sub b u q
  · by_cases e : c = a
    · subst e; exact h
    · obtain ⟨_, x, y, z, q, r⟩ := g.src c hc
      exact ⟨x, y, z, by rw [upd_ne e]; exact q, r⟩
@[simp] def sSrcW (S : List Addr) (i n : Nat) (te : T) : TSd := fun D ρ => isSrc S i ρ (te ρ (fun d => match d with
  | .int j => (n < 2 ∧ srcR n j) ∧ D.nx ρ
  | _ => False) fun x => D.ex x ρ)
theorem ds_srcW (i n : Nat) {px : Pos} (he : DE X S (WE W) e te) (hk : DE X S (WE W) k (tK (.int n)))
    (hN : X.N[i]? = some x := by rfl) (hv : Vis X.env.scope x := by first | exact Or.inl rfl | exact Or.inr (Or.inl rfl) | exact Or.inr (Or.inr rfl)) (hd : (x == ("__debug__" : Str)) = false := by decide) (hcd : (x == ("__classdict__" : Str)) = false := by decide)
    (ha : ∀ v, assign (.Subscript (.Name x px) k p) X.env v = (do
      let ov ← holding [v] (eval (.Name x px) X.env)
      let iv ← holding [v, ov] (eval k X.env)
      standAt p
      holding [v, ov, iv] (setItem ov iv v)
      release [v, ov, iv] []) := by intro _; rfl)
    (hs : swapsWithSole [.Subscript (.Name x px) k p] e pos.line X.env = pure false := by rfl) (hw : swappedStores [.Subscript (.Name x px) k p] e X.env = pure none := by rfl)
    (h1 : (assignEach [.Subscript (.Name x px) k p] X.env).map (·.2) = [assign (.Subscript (.Name x px) k p) X.env] := by rfl) : DS X S W (.Assign [.Subscript (.Name x px) k p] e pos) (sSrcW S i n te) := by
  have hm : ∀ {P P' : Prop}, (P → P') → ∀ d : D, (match d with | .int j => (n < 2 ∧ srcR n j) ∧ P | _ => False) → (match d with | .int j => (n < 2 ∧ srcR n j) ∧ P' | _ => False) := fun h d q => by
    cases d <;> first | exact ⟨q.1, h q.2⟩ | exact q.elim
  refine ⟨PS.imp (ps_asg he.pe (pg_sub (pv i hN hv hd hcd) hk.pe set_list ha) hs hw h1) fun De σ H ⟨B0, H0, Bk, B, ρ, E, q⟩ => ?_, ⟨fun {D D' ρ} h1 h2 h3 h4 h5 q => isSrc.imp (fun q => he.mono.r (fun d q => hm (h1 _) d q) (fun x q => h5 _ _ q) q) q⟩⟩
  have q : isSrc S i ρ (te ρ (fun d => match d with | .int j => (n < 2 ∧ srcR n j) ∧ (ends X.K S W B0 H0 Bk De).nx ρ | _ => False) fun x => (ends X.K S W B0 H0 Bk De).ex x ρ) := q
  obtain ⟨a, hi, hS, q⟩ := q.is
  obtain ⟨v0, g1, g2⟩ := E.2.1.at_ i _ hi
  have g2 : Rp X.K B v0 (.ref a) := g2
  cases g2
  refine ⟨B, ρ, E.1, E.2.1, he.mono.r (fun d hd v B1 H1 l r => ?_) (fun x q => ex_of E x q) q⟩
  have E1 := E.le l
  refine ⟨.ref a, g1, B1, ρ, E1.1, E1.2.1, fun kv B2 H2 l2 rk => ?_⟩
  have rk : Rp X.K B2 kv (.int n) := rk
  cases rk
  have E2 := E1.le l2
  cases d with
  | int j =>
    have r : Rp X.K B1 v (.int j) := r
    cases r
    obtain ⟨⟨hn, hj⟩, hd⟩ := hd
    obtain ⟨_, x, y, z, e, b1, b2, b3, b4, b5⟩ := E2.1.src a hS
    match n, hn with
    | 0, _ => exact ⟨a, _, 0, 0, rfl, rfl, e, rfl, hd B2 σ _ (E2.le (Le.srcW E2.1 hS ⟨j, y, z, upd_same, hj, b2, b3, b4, b5⟩))⟩
    | 1, _ => exact ⟨a, _, 1, 1, rfl, rfl, e, rfl, hd B2 σ _ (E2.le (Le.srcW E2.1 hS ⟨x, j, z, upd_same, b1, hj.1, hj.2, b4, b5⟩))⟩
  | _ => exact hd.elim
end
end DL

set_option Elab.async false
set_option linter.all false
set_option maxRecDepth 100000
set_option maxHeartbeats 1000000
/-! DL, part p: an own list becomes the source of numbers; more new objects. -/
namespace DL
open PySem PySem.Spec PyProof.Rows L2
section
variable {K : PySem.W.Frag} {S : List Addr} {B0 H0 Bk B H : Hp} {σ : L2.St} {ρ : DEnv} {a : Addr}
theorem Le.lessS (l : Le (a :: S) B0 H0 B H) (h0 : H0 a = none) : Le S B0 H0 B H :=
  ⟨l.base, l.new, fun b o h hs => l.heap b o h (fun z => by
    rcases List.mem_cons.mp z with e | e
    · subst e; rw [h0] at h; cases h
    · exact hs e), l.sub, fun c hc => l.src c (List.mem_cons_of_mem _ hc)⟩
theorem EnvOk.lessS (E : EnvOk K (a :: S) B0 H0 Bk B H σ ρ) (h0 : H0 a = none) : EnvOk K S B0 H0 Bk B H σ ρ :=
  ⟨⟨E.1.sub, fun c hc => E.1.src c (List.mem_cons_of_mem _ hc)⟩, ⟨E.2.1.len, E.2.1.at_, E.2.1.own, fun i d l h1 h2 z => E.2.1.src i d l h1 h2 (List.mem_cons_of_mem _ z)⟩, E.2.2.1.lessS h0, E.2.2.2.1, E.2.2.2.2⟩
theorem Le.moreS (l : Le S B0 H0 B H) (h : SrcOk H a) : Le (a :: S) B0 H0 B H :=
  ⟨l.base, l.new, fun b o q hs => l.heap b o q fun z => hs (List.mem_cons_of_mem _ z), l.sub, fun c hc => by
    rcases List.mem_cons.mp hc with e | e
    · subst e; exact h
    · exact l.src c e⟩
theorem EnvOk.moreS {i : Nat} {d : D} (E : EnvOk K S B0 H0 Bk B H σ ρ) (h1 : ρ[i]? = some (some (.o d))) (h2 : σ[i]? = some (some (.ref a))) (hs : SrcOk H a) : EnvOk K (a :: S) B0 H0 Bk B H σ (ρ.set i (some (.p (.ref a)))) := by
  obtain ⟨g, s, le, kp, fr⟩ := E
  obtain ⟨v, h3, l', ev, hb, ow0⟩ := s.at_ i _ h1
  rw [h2] at h3
  cases h3
  cases ev
  have hl : i < ρ.length := (List.getElem?_eq_some_iff.mp h1).1
  have get : ∀ j x, (ρ.set i (some (.p (.ref a))))[j]? = some (some x) → (i = j ∧ x = .p (.ref a)) ∨ (i ≠ j ∧ ρ[j]? = some (some x)) := fun j x h => by
    rw [getElem?_set'] at h
    by_cases q : i = j
    · rw [if_pos q, if_pos hl] at h; cases h; exact .inl ⟨q, rfl⟩
    · rw [if_neg q] at h; exact .inr ⟨q, h⟩
  refine ⟨⟨g.sub, fun c hc => ?_⟩, ⟨by rw [List.length_set]; exact s.len, fun j x h => ?_, fun j k f f' m q1 q2 q3 q4 => ?_, fun j f m q1 q2 => ?_⟩, le.moreS hs, kp, fun j f m q1 q2 => ?_⟩
  · rcases List.mem_cons.mp hc with e | e
    · subst e; exact ⟨hb, hs⟩
    · exact g.src c e
  · rcases get j x h with ⟨rfl, rfl⟩ | ⟨ne, h'⟩
    · exact ⟨_, h2, .ref⟩
    · exact s.at_ j x h'
  · rcases get j _ q1 with ⟨rfl, e⟩ | ⟨nj, q1'⟩
    · cases e
    rcases get k _ q2 with ⟨rfl, e⟩ | ⟨nk, q2'⟩
    · cases e
    exact s.own j k f f' m q1' q2' q3 q4
  · rcases get j _ q1 with ⟨rfl, e⟩ | ⟨nj, q1'⟩
    · cases e
    intro z
    rcases List.mem_cons.mp z with e | e
    · subst e; exact nj (s.own i j d f m h1 q1' h2 q2)
    · exact s.src j f m q1' q2 e
  · rcases get j _ q1 with ⟨rfl, e⟩ | ⟨nj, q1'⟩
    · cases e
    exact fr j f m q1' q2
end
section
variable {X : Cx} {S : List Addr} {Ex : L2.St → XK} {W : WX} {st : Stmt} {rest : List Stmt} {e c k : Expr} {es : List Expr} {te tk : T} {tr : TAd} {pos apos p p2 : Pos} {x : Str}
@[simp] def sSrc (i : Nat) (u : Addr → TSd) : TSd := fun D ρ => match ρ[i]? with
  | some (some (.o (.lst [.int x, .int y, .int z]))) => (0 ≤ x ∧ 0 ≤ y ∧ y ≤ 2 ^ 32 ∧ 0 < z ∧ z ≤ 2 ^ 32) ∧ ∀ a, u a D (ρ.set i (some (.p (.ref a))))
  | _ => False
theorem dss_src (i : Nat) {u : Addr → TSd} (h : ∀ a, DSs X (a :: S) W rest (u a)) : DSs X S W rest (sSrc i u) := by
  refine ⟨⟨fun pins s σ H De I q => ?_⟩, ⟨fun {D D' ρ} h1 h2 h3 h4 h5 q => ?_⟩⟩
  · obtain ⟨B0, H0, Bk, B, ρ, E, q⟩ := q
    unfold sSrc at q
    split at q
    · rename_i x y z hi
      obtain ⟨hxyz, q⟩ := q
      obtain ⟨l, vs, g1, g2, g3, g4⟩ := E.ownL hi
      have h0 := E.2.2.2.2 i _ l hi g1
      have hs : SrcOk H l := by
        cases g4 with
        | cons r1 t => cases t with
          | cons r2 t => cases t with
            | cons r3 t => cases t; cases r1; cases r2; cases r3; exact ⟨x, y, z, g2, hxyz⟩
      refine (h l).ps.run pins s σ H De I ⟨B0, H0, Bk, B, _, E.moreS hi g1 hs, ?_⟩
      refine (h l).mono.r (D := ends X.K S W B0 H0 Bk De) (fun ρ q B σ H E => q B σ H (E.lessS h0)) (fun r q v B H le ok => q v B H (le.lessS h0) ok) (fun ρ q B σ H E => q B σ H (E.lessS h0)) (fun ρ q B σ H E => q B σ H (E.lessS h0)) (fun x ρ q od B σ H E a => q od B σ H (E.lessS h0) a) (q l)
    · exact q.elim
  · unfold sSrc at *
    split at q
    · exact ⟨q.1, fun a => (h a).mono.r h1 h2 h3 h4 h5 (q.2 a)⟩
    · exact q.elim
end
end DL

set_option Elab.async false
set_option linter.all false
set_option maxRecDepth 100000
set_option maxHeartbeats 1000000
/-! DL, part q: sorted tuples that start with unlike texts. -/
namespace DL
open PySem PySem.Spec PyProof.Rows L2
/-- a tuple that starts with the text n -/
def IsRow (h : Heap) (v : Value) (n : Str) : Prop := ∃ (a : Addr) (o : Obj) (t : Tok) (r : List Value) (c : Nat), v = .ref a ∧ h.get? a = some o ∧ o.cls = .type "tuple" ∧ o.data = .seq (Value.str n t :: r).toArray c
theorem IsRow.keeps {h h' : Heap} {v : Value} {n : Str} (p : IsRow h v n) (k : ∀ b o, h.get? b = some o → o.cls = .type "tuple" → h'.get? b = some o) : IsRow h' v n := by
  obtain ⟨a, o, t, r, c, e, ho, hc, hd⟩ := p
  exact ⟨a, o, t, r, c, e, k _ _ ho hc, hc, hd⟩
def sltB (a b : Str) : Bool := decide (a.cps.toList < b.cps.toList)
theorem swo_slt {α : Type} (k : α → Str) : SrtO.Swo fun v u => sltB (k v) (k u) := by
  refine ⟨fun x y h => ?_, fun x y z h1 h2 => ?_⟩
  · unfold sltB at *
    rw [decide_eq_true_eq] at h
    rw [decide_eq_false_iff_not]
    exact fun z => absurd (List.lt_trans h z) (List.lt_irrefl _)
  · unfold sltB at *
    rw [decide_eq_false_iff_not] at *
    rw [List.not_lt] at *
    exact List.le_trans h1 h2
section
open SrtO Srt
variable {prog : Program} {w : World} {A : Around} {E : Value → Shared → Prop} {s : Shared}
theorem lex_self {b : Bool} {Q : Bool → Shared → Prop} (q : Q false s) : ∀ (l : List Value) (i : Nat), PySem.W.KatLex prog w A b false Q (l.zip l) i s
  | [], i => PySem.W.kat_nil q
  | v :: l, i => PySem.W.kat_cons (SeqAt.EqAt.same v prog w _ _ (PySem.W.kat_go (fun _ => PySem.W.kat_yes (lex_self q l (i + 1))) fun e => absurd e (by decide)))
theorem row_cmp {vs : List Value} {k : Value → Str} (hp : ∀ v ∈ vs, IsRow s.heap v (k v)) (inj : ∀ v ∈ vs, ∀ u ∈ vs, k v = k u → v = u) : Cmp prog w A s (tuples' true) (fun p => p.1 ∈ vs) (lt2 fun v u => sltB (k v) (k u)) := by
  intro p q hm hm'
  show wpAny (model prog w) A (keyLt' (tuples' true) p.1 q.1) (fun r s' => s' = s ∧ r = sltB (k p.1) (k q.1)) (fun _ _ => False) s
  by_cases e : k p.1 = k q.1
  · have e2 := inj _ hm _ hm' e
    rw [← e2]
    obtain ⟨a, o, t, r, c, ea, ho, hc, hd⟩ := hp _ hm
    have hf : sltB (k p.1) (k p.1) = false := by unfold sltB; rw [decide_eq_false_iff_not]; exact List.lt_irrefl _
    rw [hf, ea]
    refine PySem.W.kat_lt ho hd ho hd ?_
    have hz : decide ((Value.str (k p.1) t :: r).toArray.size < (Value.str (k p.1) t :: r).toArray.size) = false := decide_eq_false (Nat.lt_irrefl _)
    rw [hz]
    exact lex_self ⟨rfl, rfl⟩ _ 0
  · obtain ⟨a, o, t, r, c, ea, ho, hc, hd⟩ := hp _ hm
    obtain ⟨a', o', t', r', c', ea', ho', hc', hd'⟩ := hp _ hm'
    generalize k p.1 = x at *
    generalize k q.1 = y at *
    rw [ea, ea']
    refine PySem.W.kat_lt ho hd ho' hd' ?_
    refine PySem.W.kat_cons (SeqAt.EqAt.str_str _ t _ t' prog w _ _ ?_)
    have hb : (x == y) = false := by simpa using e
    rw [hb]
    exact PySem.W.kat_no (oneLt_str ⟨rfl, rfl⟩)
theorem row_firsts {h : Heap} : ∀ {vs : List Value}, (∀ v ∈ vs, ∃ n, IsRow h v n) → ∃ fs : List Value, PySem.W.KatTups h vs fs ∧ fs.length = vs.length ∧ ∀ f ∈ fs, ∃ x t, f = Value.str x t
  | [], _ => ⟨[], PySem.W.KatTups.nil, rfl, fun _ hm => by simp at hm⟩
  | v :: vs, hp => by
    obtain ⟨fs, h1, h2, h3⟩ := row_firsts (vs := vs) fun v' hm => hp v' (List.mem_cons_of_mem _ hm)
    obtain ⟨n, a, o, t, r, c, e, ho, hc, hd⟩ := hp v (List.mem_cons_self ..)
    subst e
    refine ⟨.str n t :: fs, PySem.W.KatTups.cons ho hc hd rfl h1, by simp [h2], fun f hm => ?_⟩
    rcases List.mem_cons.mp hm with e | hm
    · exact ⟨n, t, e⟩
    · exact h3 f hm
theorem rows_sortable {a : Addr} {vs : List Value} {k : Value → Str} (h0 : 0 < vs.length) (hp : ∀ v ∈ vs, IsRow s.heap v (k v)) (inj : ∀ v ∈ vs, ∀ u ∈ vs, k v = k u → v = u) (ha : ∀ o, s.heap.get? a = some o → o.cls ≠ .type "tuple") : SortableO prog w A s a vs fun v u => sltB (k v) (k u) := by
  intro h' keep
  have hp' : ∀ v ∈ vs, IsRow h' v (k v) := fun v hm => (hp v hm).keeps fun b o e c => keep b o (fun z => by subst z; exact ha o e c) e
  obtain ⟨fs, h1, h2, h3⟩ := row_firsts fun v hm => ⟨_, hp' v hm⟩
  refine ⟨tuples' true, fun Q E hq => ?_, row_cmp hp' inj⟩
  refine PySem.W.kat_kind (T := .type "str") h1 (by omega) (fun f hm => ?_) (by rfl) ?_
  · obtain ⟨x, t, e⟩ := h3 f hm
    rw [e]
    exact PySem.W.Looks.now
  · have e : (Value.type "str" != Value.type "tuple") = true := by first | decide +kernel | rfl | decide
    rw [e]; exact hq
theorem sorted_rows {l : Addr} {vs : List Value} {k : Value → Str} {Q : Value → Shared → Prop} (hl : s.heap.IsList l vs.toArray) (hz : vs.length ≤ sizeLine) (hp : ∀ v ∈ vs, IsRow s.heap v (k v)) (inj : ∀ v ∈ vs, ∀ u ∈ vs, k v = k u → v = u)
    (h : ∀ (h' : Heap) (d : Addr) (out : List Value), Srtd (fun v u => sltB (k v) (k u)) out → out.Perm vs → (∀ b o, s.heap.get? b = some o → h'.get? b = some o) → s.heap.objs.size ≤ d → (∃ n, h'.get? d = some (seqObj "list" out.toArray n)) → Q (.ref d) { s with heap := h' }) :
    wpAny (model prog w) A (call (.builtin "sorted") [.ref l]) Q E s := by
  refine sorted_ord (swo_slt k) hl hz (fun h2 h₁ a ha kk => rows_sortable (s := { s with heap := h₁ }) (by omega) (fun v hm => (hp v hm).keeps fun b o e _ => (kk b o e).2) inj fun o e c => ?_) fun out hs hb => h _ _ out hs hb.perm (fun b o e => sortedAll_old e) (Nat.le_succ _) (sortedAll_at s.heap vs out.toArray)
  have e' : some o = some (seqObj "list" vs.toArray 0) := e.symm.trans ha
  cases e'
  exact absurd (Value.type.inj c) (by decide)
end
/-! ### over data -/
def rowN : D → Str
  | .tup (.str n :: _) => n
  | _ => ""
def isRow : D → Bool
  | .tup (.str _ :: _) => true
  | _ => false
def sortTD : List D → (D → Prop) → Prop
  | [.lst xs], Q => (xs.length ≤ sizeLine ∧ xs.all isRow = true ∧ (xs.map rowN).Nodup) ∧ ∀ ys : List D, ys.Perm xs → ys.Pairwise (fun a b => sltB (rowN b) (rowN a) = false) → Q (.lst ys)
  | _, _ => False
theorem sortTD.mono : MonoL sortTD := ⟨fun {ds Q Q'} h q => by
  unfold sortTD at *
  split at q
  · exact ⟨q.1, fun ys h1 h2 => h _ (q.2 ys h1 h2)⟩
  · exact q.elim⟩
def keyV (K : PySem.W.Frag) (H : Hp) (h : Heap) : Value → Str
  | .ref a => match h.get? a with
    | some o => match o.data with
      | .seq arr _ => match arr.toList with
        | .str n _ :: _ => n
        | _ => ""
      | _ => ""
    | none => ""
  | _ => ""
theorem keyV_row {K : PySem.W.Frag} {H : Hp} {h : Heap} {v : Value} {n : Str} (r : IsRow h v n) : keyV K H h v = n := by
  obtain ⟨a, o, t, r, c, rfl, ho, hc, hd⟩ := r
  unfold keyV
  simp [ho, hd]
theorem nodup_inj {α β : Type} (f : α → β) : ∀ {xs : List α}, (xs.map f).Nodup → ∀ x ∈ xs, ∀ y ∈ xs, f x = f y → x = y
  | [], _, _, h, _, _, _ => nomatch h
  | a :: xs, nd, x, hx, y, hy, e => by
    rw [List.map_cons, List.nodup_cons] at nd
    rcases List.mem_cons.mp hx with e1 | h1 <;> rcases List.mem_cons.mp hy with e2 | h2
    · rw [e1, e2]
    · subst e1; exact absurd (List.mem_map.mpr ⟨y, h2, e.symm⟩) nd.1
    · subst e2; exact absurd (List.mem_map.mpr ⟨x, h1, e⟩) nd.1
    · exact nodup_inj f nd.2 x h1 y h2 e
theorem perm_lift {α β : Type} (f : α → β) {l m : List β} (h : l.Perm m) : ∀ {Z : List α}, m = Z.map f → ∃ Z' : List α, Z'.Perm Z ∧ Z'.map f = l := by
  induction h with
  | nil => intro Z e; exact ⟨Z, .refl _, e.symm⟩
  | cons x p ih =>
    intro Z e
    cases Z with
    | nil => cases e
    | cons z Z =>
      rw [List.map_cons, List.cons.injEq] at e
      obtain ⟨Z', h1, h2⟩ := ih e.2
      exact ⟨z :: Z', h1.cons z, by rw [List.map_cons, h2, e.1]⟩
  | swap x y l =>
    intro Z e
    match Z, e with
    | z1 :: z2 :: Z, e =>
      simp only [List.map_cons, List.cons.injEq] at e
      exact ⟨z2 :: z1 :: Z, .swap _ _ _, by simp [e.1, e.2.1, e.2.2]⟩
  | trans p1 p2 ih1 ih2 =>
    intro Z e
    obtain ⟨Z1, h1, h2⟩ := ih2 e
    obtain ⟨Z2, h3, h4⟩ := ih1 h2.symm
    exact ⟨Z2, h3.trans h1, h4⟩
theorem zipped {K : PySem.W.Frag} {B : Hp} : ∀ {vs : List V} {us : List Value} {ds : List D}, Vals vs us → RpA K B vs ds → ∃ Z : List (Value × V × D), Z.map (·.1) = us ∧ Z.map (·.2.1) = vs ∧ Z.map (·.2.2) = ds ∧ ∀ z ∈ Z, RelV z.2.1 z.1 ∧ Rp K B z.2.1 z.2.2
  | _, _, _, .nil, .nil => ⟨[], rfl, rfl, rfl, fun _ h => nomatch h⟩
  | v :: vs, u :: us, d :: ds, .cons r t, .cons r' t' => by
    obtain ⟨Z, h1, h2, h3, h4⟩ := zipped t t'
    refine ⟨(u, v, d) :: Z, by simp [h1], by simp [h2], by simp [h3], fun z hz => ?_⟩
    rcases List.mem_cons.mp hz with e | e
    · subst e; exact ⟨r, r'⟩
    · exact h4 z e
theorem unzipped {K : PySem.W.Frag} {B : Hp} : ∀ {Z : List (Value × V × D)}, (∀ z ∈ Z, RelV z.2.1 z.1 ∧ Rp K B z.2.1 z.2.2) → Vals (Z.map (·.2.1)) (Z.map (·.1)) ∧ RpA K B (Z.map (·.2.1)) (Z.map (·.2.2))
  | [], _ => ⟨.nil, .nil⟩
  | z :: Z, h => by
    obtain ⟨h1, h2⟩ := unzipped fun y hy => h y (List.mem_cons_of_mem _ hy)
    have := h z (List.mem_cons_self ..)
    exact ⟨.cons this.1 h1, .cons this.2 h2⟩
section
variable {X : Cx} {S : List Addr}
theorem cd_sortT : CallD X S (.builtin "sorted") (rF X.K) sortTD := by
  intro pins s σ H vs us Q I r h
  obtain ⟨B, ds, G, ha, q⟩ := h
  unfold sortTD at q
  split at q
  · rename_i xs
    obtain ⟨⟨hz, hr, nd⟩, q⟩ := q
    cases ha with
    | @cons v0 _ _ _ hv t =>
      cases t
      have hv : At X.K S B H v0 (.lst xs) := hv
      obtain ⟨a, ws, rfl, ⟨h1, h2, h3⟩, h4⟩ := hv
      obtain ⟨its, rv, hl, hz2⟩ := I.list (SqL.of h1)
      obtain ⟨u, rfl, ru⟩ := vals1 r
      obtain rfl : u = Value.ref a := ru
      obtain ⟨Z, z1, z2, z3, z4⟩ := zipped rv h4
      have row : ∀ z ∈ Z, IsRow s.heap z.1 (rowN z.2.2) := fun z hm => by
        have hd : z.2.2 ∈ xs := by rw [← z3]; exact List.mem_map.mpr ⟨z, hm, rfl⟩
        have hq := List.all_eq_true.mp hr _ hd
        obtain ⟨r1, r2⟩ := z4 z hm
        obtain ⟨u, v, d⟩ := z
        simp only at *
        unfold isRow at hq
        split at hq
        · rename_i n rest
          cases r2 with
          | @tup b vs' _ hb hlen rr =>
            cases r1
            cases rr with
            | @cons v1 vs1 _ _ q1 q2 =>
              cases q1
              obtain ⟨its2, rv2, ⟨o, e1, e2, n2, e3⟩, _⟩ := I.tuple (G.sub.sqT hb)
              cases rv2 with
              | cons x1 x2 =>
                obtain ⟨tk, rfl⟩ := x1
                exact ⟨b, o, tk, _, n2, rfl, e1, e2, e3⟩
        · cases hq
      have ndZ : (Z.map fun z => rowN z.2.2).Nodup := by rw [← z3, List.map_map] at nd; exact nd
      have key : ∀ z ∈ Z, keyV X.K H s.heap z.1 = rowN z.2.2 := fun z hm => keyV_row (row z hm)
      refine sorted_rows (k := keyV X.K H s.heap) hl.isList (by rw [← rv.length]; exact hz2) (fun v hv => ?_) (fun v hv u hu e => ?_) fun h' d out h1' h2' kp hd hn => ?_
      · rw [← z1] at hv
        obtain ⟨z, hm, rfl⟩ := List.mem_map.mp hv
        rw [key z hm]; exact row z hm
      · rw [← z1] at hv hu
        obtain ⟨z, hm, rfl⟩ := List.mem_map.mp hv
        obtain ⟨y, hm', rfl⟩ := List.mem_map.mp hu
        rw [key z hm, key y hm'] at e
        rw [nodup_inj (fun z : Value × V × D => rowN z.2.2) ndZ z hm y hm' e]
      · obtain ⟨Z', p1, p2⟩ := perm_lift (fun z : Value × V × D => z.1) h2' z1.symm
        obtain ⟨u1, u2⟩ := unzipped (K := X.K) (B := B) fun z hm => z4 z (p1.mem_iff.mp hm)
        rw [p2] at u1
        obtain ⟨n, hn⟩ := hn
        have hlen : (Z'.map (·.2.1)).length ≤ sizeLine := by rw [(p1.map (fun z : Value × V × D => z.2.1)).length_eq, z2]; exact h3
        have hp := I.hok.fresh hd
        refine ⟨.ref d, upd H d (.lst (Z'.map (·.2.1))), I.laid (t' := s.toks) kp hd ⟨hlen, out, n, u1, hn⟩, rfl, q (Z'.map (·.2.2)) (by rw [← z3]; exact p1.map _) ?_ _ B _ (Le.beside G hp) ⟨d, rfl, hp, G.bnone hp, _, upd_same, hlen, u2⟩⟩
        rw [List.pairwise_map]
        rw [← p2] at h1'
        have h1' : (Z'.map (·.1)).Pairwise (fun a b => sltB (keyV X.K H s.heap b) (keyV X.K H s.heap a) = false) := h1'
        rw [List.pairwise_map] at h1'
        refine List.Pairwise.imp_of_mem (fun {z y} hz hy e => ?_) h1'
        rw [key z (p1.mem_iff.mp hz), key y (p1.mem_iff.mp hy)] at e
        exact e
  · exact q.elim
end
end DL

set_option Elab.async false
set_option linter.all false
set_option maxRecDepth 100000
set_option maxHeartbeats 1000000
/-! DL, part r: an own list lent to a call; joined lists; dicts written; several new objects at once. -/
namespace DL
open PySem PySem.Spec PyProof.Rows L2
section
variable {X : Cx} {S : List Addr} {Ex : L2.St → XK} {W : WX} {st : Stmt} {rest : List Stmt} {u : TSd} {e a b c k : Expr} {es : List Expr} {te ta tb tk tv : T} {tr : TAd} {pos apos p p2 : Pos} {x : Str}
/-! ### lent -/
mutual
def D.flat : D → Bool
  | .lst _ => false | .dct _ => false | .obj _ _ _ => false
  | .tup xs => flatA xs
  | _ => true
def flatA : List D → Bool
  | [] => true
  | x :: xs => x.flat && flatA xs
end
mutual
theorem Rp.drop {K : PySem.W.Frag} {B : Hp} {l : Addr} {o : HO} (hl : B l = some o) (ho : ∀ vs, o ≠ .tup vs) : ∀ {d : D} {v : V}, d.flat = true → Rp K B v d → Rp K (fun b => if b = l then none else B b) v d
  | .non, _, _, .non => .non
  | .bl _, _, _, .bl b => .bl b
  | .int _, _, _, .int b => .int b
  | .str _, _, _, .str b => .str b
  | .ref _, _, _, .ref => .ref
  | .tup xs, _, hf, .tup h1 h2 h3 => by
    refine .tup ?_ h2 (RpA.dropL hl ho (by simpa [D.flat] using hf) h3)
    rcases h1 with h1 | h1
    · refine .inl ?_
      rw [if_neg]
      · exact h1
      · intro z; subst z; rw [hl] at h1; cases h1; exact ho _ rfl
    · exact .inr h1
  | .lst _, _, hf, _ => by simp [D.flat] at hf
  | .dct _, _, hf, _ => by simp [D.flat] at hf
  | .obj _ _ _, _, hf, _ => by simp [D.flat] at hf
theorem RpA.dropL {K : PySem.W.Frag} {B : Hp} {l : Addr} {o : HO} (hl : B l = some o) (ho : ∀ vs, o ≠ .tup vs) : ∀ {ds : List D} {vs : List V}, flatA ds = true → RpA K B vs ds → RpA K (fun b => if b = l then none else B b) vs ds
  | [], _, _, .nil => .nil
  | d :: ds, _, hf, .cons h1 h2 => by
    have hf : (d.flat && flatA ds) = true := hf
    rw [Bool.and_eq_true] at hf
    exact .cons (Rp.drop hl ho hf.1 h1) (RpA.dropL hl ho hf.2 h2)
end
def tLend (i : Nat) (t : T) : T := fun ρ Q _ => match ρ[i]? with
  | some (some (.o d)) => t (ρ.set i (some (.p d))) (fun r => r.flat = true ∧ Q r) NoE
  | _ => False
theorem tLend.mono {i : Nat} {t : T} (m : Mono t) : Mono (tLend i t) := ⟨fun h _ q => by
  unfold tLend at *
  split at q
  · exact m.r (fun r q => ⟨q.1, h _ q.2⟩) (fun _ z => z) q
  · exact q.elim⟩
theorem SlotsOk.lend {K : PySem.W.Frag} {B H : Hp} {σ : L2.St} {ρ : DEnv} (g : Good S B H) (s : SlotsOk K S B H σ ρ) {i : Nat} {d : D} (h : ρ[i]? = some (some (.o d))) :
    ∃ l o, B l = none ∧ H l = some o ∧ l ∉ S ∧ (∀ vs, o ≠ .tup vs) ∧ Good S (upd B l o) H ∧ SlotsOk K S (upd B l o) H σ (ρ.set i (some (.p d))) := by
  obtain ⟨v, h1, l, rfl, hb, ow⟩ := s.at_ i _ h
  have hS := s.src i d l h h1
  have hl : i < ρ.length := (List.getElem?_eq_some_iff.mp h).1
  have core : ∀ o, H l = some o → (∀ vs, o ≠ .tup vs) → Rp K (upd B l o) (.ref l) d → ∃ l o, B l = none ∧ H l = some o ∧ l ∉ S ∧ (∀ vs, o ≠ .tup vs) ∧ Good S (upd B l o) H ∧ SlotsOk K S (upd B l o) H σ (ρ.set i (some (.p d))) := fun o ho hn rp => by
    have kp : Keep B (upd B l o) := fun b u z => by rw [upd_ne (ne_of_none z hb)]; exact z
    have get : ∀ j x, (ρ.set i (some (.p d)))[j]? = some (some x) → (i = j ∧ x = .p d) ∨ (i ≠ j ∧ ρ[j]? = some (some x)) := fun j x h => by
      rw [getElem?_set'] at h
      by_cases q : i = j
      · rw [if_pos q, if_pos hl] at h; cases h; exact .inl ⟨q, rfl⟩
      · rw [if_neg q] at h; exact .inr ⟨q, h⟩
    refine ⟨l, o, hb, ho, hS, hn, ⟨fun b u q => ?_, fun a ha => ⟨?_, (g.src a ha).2⟩⟩, ⟨by rw [List.length_set]; exact s.len, fun j x h' => ?_, fun j k f f' m q1 q2 q3 q4 => ?_, fun j f m q1 q2 => ?_⟩⟩
    · by_cases e : b = l
      · subst e; rw [upd_same] at q; cases q; exact .inl ho
      · rw [upd_ne e] at q; exact g.sub b u q
    · rw [upd_ne (neS ha hS)]; exact (g.src a ha).1
    · rcases get j x h' with ⟨rfl, rfl⟩ | ⟨ne, h2⟩
      · exact ⟨_, h1, rp⟩
      · obtain ⟨w, q1, q2⟩ := s.at_ j x h2
        refine ⟨w, q1, ?_⟩
        cases x with
        | p f => exact Rp.mono kp q2
        | o f =>
          obtain ⟨m, rfl, hm, owm⟩ := q2
          have nm : m ≠ l := fun z => by subst z; exact ne (s.own i j d f m h h2 h1 q1)
          exact ⟨m, rfl, by rw [upd_ne nm]; exact hm, owm.mono kp fun u q => q⟩
    · rcases get j _ q1 with ⟨rfl, e⟩ | ⟨nj, q1'⟩
      · cases e
      rcases get k _ q2 with ⟨rfl, e⟩ | ⟨nk, q2'⟩
      · cases e
      exact s.own j k f f' m q1' q2' q3 q4
    · rcases get j _ q1 with ⟨rfl, e⟩ | ⟨nj, q1'⟩
      · cases e
      exact s.src j f m q1' q2
  cases d with
  | lst ds =>
    obtain ⟨vs, h3, h4, h5⟩ := ow
    exact core _ h3 (fun _ z => by cases z) (.lst upd_same h4 (h5.mono fun b u z => by rw [upd_ne (ne_of_none z hb)]; exact z))
  | dct ds =>
    obtain ⟨vs, h3, h4, h5⟩ := ow
    exact core _ h3 (fun _ z => by cases z) (.dct upd_same h4 (h5.mono fun b u z => by rw [upd_ne (ne_of_none z hb)]; exact z))
  | _ => exact ow.elim
theorem de_lend (i : Nat) (h : DE X S Ex e te) : DE X S Ex e (tLend i te) := by
  refine ⟨PE.imp h.pe fun σ H Q ⟨B, ρ, G, SO, q⟩ => ?_, tLend.mono h.mono⟩
  unfold tLend at q
  split at q
  · rename_i d hd
    obtain ⟨l, o, hb, hH, hS, ho, G1, SO1⟩ := SlotsOk.lend G SO hd
    refine ⟨_, _, G1, SO1, h.mono.r (fun r hr v B2 H2 le rp => ?_) (fun x z => z.elim) q⟩
    obtain ⟨hf, hq⟩ := hr
    have hl2 : B2 l = some o := le.base l o upd_same
    refine hq v (fun b => if b = l then none else B2 b) H2 ⟨fun b u z => ?_, fun b u z => ?_, le.heap, fun b u z => ?_, le.src⟩ (Rp.drop hl2 ho hf rp)
    · have ne : b ≠ l := ne_of_none z hb
      show (if b = l then none else B2 b) = some u
      rw [if_neg ne]
      exact le.base b u (by rw [upd_ne ne]; exact z)
    · by_cases e : b = l
      · subst e; have z : (if b = b then none else B2 b) = some u := z; rw [if_pos rfl] at z; cases z
      · have z : (if b = l then none else B2 b) = some u := z
        rw [if_neg e] at z
        have := le.new b u z
        rwa [upd_ne e] at this
    · by_cases e : b = l
      · subst e; have z : (if b = b then none else B2 b) = some u := z; rw [if_pos rfl] at z; cases z
      · have z : (if b = l then none else B2 b) = some u := z
        rw [if_neg e] at z
        exact le.sub b u z
  · exact q.elim
/-! ### joined lists -/
def catD : D → D → (D → Prop) → Prop
  | .lst xs, .lst ys, Q => xs.length + ys.length ≤ sizeLine ∧ Q (.lst (xs ++ ys))
  | _, _, _ => False
theorem catD.mono : MonoR catD := ⟨fun {x y Q Q'} h q => by cases x <;> cases y <;> first | exact q.elim | exact ⟨q.1, h _ q.2⟩⟩
@[simp] def tCatF (ta tb : T) : T := tBin catD ta tb
theorem df_cat {pos : Pos} (ha : DB X S Ex a ta) (hb : DB X S Ex b tb) : DF X S Ex (.BinOp a .Add b pos) (tCatF ta tb) := by
  refine ⟨PE.imp (pe_op (opF_cat (S := S)) ha.pe hb.pe) (lift.one fun σ B ρ H Q G SO q => ?_), tBin.mono catD.mono ha.mono hb.mono⟩
  refine lift2 ha.mono hb.mono G SO q fun B1 H1 B2 H2 v w x y l1 r1 l2 r2 p => ?_
  cases x with
  | lst xs =>
    cases y with
    | lst ys =>
      refine ⟨B2, xs, ys, l2.good (l1.good G), At.le r1 l2, r2, p.1, fun l B' H' le h1 h2 ow => p.2 _ B' H' ((l1.trans l2).trans le) ⟨l, rfl, (l1.trans l2).old h1, h2, ow⟩⟩
    | _ => exact p.elim
  | _ => exact p.elim
/-! ### x[k] = e, an owned dict -/
def ownD (i : Nat) (ρ : DEnv) (Q : List (Key × D) → Prop) : Prop := match ρ[i]? with
  | some (some (.o (.dct ds))) => Q ds
  | _ => False
theorem ownD.imp {i : Nat} {ρ : DEnv} {Q Q' : List (Key × D) → Prop} (h : ∀ ds, Q ds → Q' ds) (q : ownD i ρ Q) : ownD i ρ Q' := by
  unfold ownD at *
  split at q
  · exact h _ q
  · exact q.elim
theorem ownD.is {i : Nat} {ρ : DEnv} {Q : List (Key × D) → Prop} (q : ownD i ρ Q) : ∃ ds, ρ[i]? = some (some (.o (.dct ds))) ∧ Q ds := by
  unfold ownD at q
  split at q
  · rename_i ds e; exact ⟨ds, e, q⟩
  · exact q.elim
def putD (i : Nat) (ρ : DEnv) (ds : List (Key × D)) : DEnv := ρ.set i (some (.o (.dct ds)))
def setD (ds : List (Key × D)) (d : D) (Q : List (Key × D) → Prop) (k : D) : Prop := match keyD k with
  | some j => ds.length < sizeLine ∧ Q (pk ds j d)
  | none => False
theorem setD.imp {ds : List (Key × D)} {d : D} {Q Q' : List (Key × D) → Prop} (h : ∀ ds, Q ds → Q' ds) (k : D) (q : setD ds d Q k) : setD ds d Q' k := by
  unfold setD at *
  split at q
  · exact ⟨q.1, h _ q.2⟩
  · exact q.elim
@[simp] def sDPut (i : Nat) (te tk : T) : TSd := fun D ρ => ownD i ρ fun _ => te ρ (fun d => tk ρ (fun k => ownD i ρ fun ds => setD ds d (fun ds' => D.nx (putD i ρ ds')) k) fun x => D.ex x ρ) fun x => D.ex x ρ
theorem EnvOk.ownD {K : PySem.W.Frag} {B0 H0 Bk B H : Hp} {σ : L2.St} {ρ : DEnv} (E : EnvOk K S B0 H0 Bk B H σ ρ) {i : Nat} {ds : List (Key × D)} (h : ρ[i]? = some (some (.o (.dct ds)))) :
    ∃ l vs, σ[i]? = some (some (.ref l)) ∧ H l = some (.dK vs) ∧ vs.length ≤ sizeLine ∧ RpK K B vs ds := by
  obtain ⟨v, h1, l, rfl, _, vs, h2, h3, h4⟩ := E.2.1.at_ i _ h
  exact ⟨l, vs, h1, h2, h3, h4⟩
theorem keyD_kV {K : PySem.W.Frag} {B : Hp} {v : V} {d : D} {k : Key} (h : Rp K B v d) (e : keyD d = some k) : v = kV k := by
  cases d with
  | int i => cases h; cases e; rfl
  | str x => cases h; cases e; rfl
  | _ => cases e
theorem ds_dput (i : Nat) {px : Pos} (hu : X.A.units + 100 < cLine) (he : DE X S (WE W) e te) (hk : DE X S (WE W) k tk)
    (hN : X.N[i]? = some x := by rfl) (hv : Vis X.env.scope x := by first | exact Or.inl rfl | exact Or.inr (Or.inl rfl) | exact Or.inr (Or.inr rfl)) (hd : (x == ("__debug__" : Str)) = false := by decide) (hcd : (x == ("__classdict__" : Str)) = false := by decide)
    (hs : swapsWith e (some (.Subscript (.Name x px) k p)) pos.line X.env = pure false := by rfl) : DS X S W (.Assign [.Subscript (.Name x px) k p] e pos) (sDPut i te tk) := by
  refine ⟨PS.imp (ps_dput (by omega) (pv i hN hv hd hcd) hk.pe he.pe hs) fun De σ H ⟨B0, H0, Bk, B, ρ, E, q⟩ => ?_, ⟨fun {D D' ρ} h1 h2 h3 h4 h5 q => ownD.imp (fun _ q => he.mono.r (fun d q => hk.mono.r (fun k q => ownD.imp (fun ds q => setD.imp (fun ds q => h1 _ q) _ q) q) (fun x q => h5 _ _ q) q) (fun x q => h5 _ _ q) q) q⟩⟩
  have q : DL.ownD i ρ fun _ => te ρ (fun d => tk ρ (fun k => DL.ownD i ρ fun ds => setD ds d (fun ds' => (ends X.K S W B0 H0 Bk De).nx (putD i ρ ds')) k) fun x => (ends X.K S W B0 H0 Bk De).ex x ρ) (fun x => (ends X.K S W B0 H0 Bk De).ex x ρ) := q
  obtain ⟨ds, hi, q⟩ := q.is
  obtain ⟨l0, vs, g1, g2, g3, g4⟩ := E.ownD hi
  refine ⟨B, ρ, E.1, E.2.1, he.mono.r (fun d hd v B1 H1 l r => ?_) (fun x q => ex_of E x q) q⟩
  have E1 := E.le l
  refine ⟨.ref l0, g1, B1, ρ, E1.1, E1.2.1, hk.mono.r (fun k hq kv B2 H2 l2 rk => ?_) (fun x q => ex_of E1 x q) hd⟩
  have E2 := E1.le l2
  obtain ⟨ds2, hi2, hq⟩ := hq.is
  rw [hi] at hi2
  cases hi2
  obtain ⟨l', ws, k1, k2, k3, k4⟩ := E2.ownD hi
  rw [g1] at k1
  cases k1
  unfold setD at hq
  split at hq
  · rename_i j hj
    have rk : Rp X.K B2 kv k := rk
    have ek := keyD_kV rk hj
    subst ek
    have r2 : Rp X.K B2 v d := r.mono l2.base
    have hl : ws.length < sizeLine := by rw [k4.length]; exact hq.1
    have hl2 : (putK ws j v).length ≤ sizeLine := by have := length_putK ws j v; omega
    exact ⟨l0, _, rfl, DPut.k k2 hl, hq.2 B2 σ _ (E2.poke hi g1 ⟨_, upd_same, hl2, k4.put r2⟩)⟩
  · exact hq.elim
/-! ### {k: v} -/
def tDict1V (tk tv : TE) : TE := fun σ H Q => ∀ p, H p = none → tk σ (upd H p (.dK [])) fun y H1 => tv σ H1 fun z H2 => ∃ key, y = kV key ∧ H2 p = some (.dK []) ∧ Q (.ref p) (upd H2 p (.dK [(key, z)]))
theorem pe_dict1 {k v : Expr} {tk tv : TE} (hk : PE X k tk) (hv : PE X v tv)
    (hshape : (evalEachOpt [some k] X.env).zip ((evalEach [v] X.env).map fun v => do let x ← v; standAt pos; pure x) = [(some (eval k X.env), do let x ← eval v X.env; standAt pos; pure x)] := by rfl) : PE X (.Dict [some k] [v] pos) (tDict1V tk tv) := by
  refine ⟨fun pins s σ H Q I h => ?_⟩
  have hp : H s.heap.objs.size = none := I.hok.fresh (Nat.le_refl _)
  have I0 : Inv X pins σ (upd H s.heap.objs.size (.dK [])) { s with heap := s.heap.push { cls := .type "dict", data := .dict #[] } } :=
    I.laid (a := s.heap.objs.size) (o := .dK []) (t' := s.toks) (fun _ _ q => Heap.get?_push_of_some _ q) (Nat.le_refl _) (dk_empty s.heap I.big)
  refine wpAny_Dict_pairs (knd := mixKind X.prog X.w) (pairs := [(eval k X.env, do let x ← eval v X.env; standAt pos; pure x)]) hshape (by simp) (by simp) ?_
  refine evalPairs_cons (thn (hk.run pins _ σ _ _ I0 (h _ hp)) fun kv s1 ⟨y, H1, I1, r1, q1⟩ => ?_)
  refine wpAny_bind (thn (hv.run pins s1 σ H1 _ I1 q1) fun vv s2 ⟨z, H2, I2, r2, key, ey, hH, q2⟩ => ?_)
  subst ey
  refine wpAny_bind (wpAny_standAt (wpAny_pure (evalPairs_nil ?_)))
  obtain ⟨z0, hd, vs, rel, dd⟩ := dk_of I2.hok hH
  have ev : vs = [] := by cases rel; rfl
  subst ev
  refine ⟨[(key, vv)], ⟨kV_is r1, rfl, trivial⟩, dd, fun h' dd' hs => ?_⟩
  have he : ∃ q, h'.get? s.heap.objs.size = some q := let ⟨q, _, _, hq, _⟩ := dd'; ⟨q, hq⟩
  refine ⟨.ref s.heap.objs.size, _, d_write (t' := s2.toks + 1) I2 (by rw [hH]; exact True.intro) hs he (dk_new (kvs := [(key, z)]) (by simp [sizeLine]) hd ?_ dd'), rfl, q2⟩
  exact KV.put .nil key r2
@[simp] def tDict1 (tk tv : T) : T := fun ρ Q E => tk ρ (fun y => tv ρ (fun z => match keyD y with
  | some k => Q (.dct [(k, z)])
  | none => False) E) E
theorem dict1_mono {Q Q' : D → Prop} {z : D} (h : ∀ d, Q d → Q' d) (y : D) (q : match keyD y with | some k => Q (.dct [(k, z)]) | none => False) : match keyD y with | some k => Q' (.dct [(k, z)]) | none => False := by
  split at q
  · exact h _ q
  · exact q.elim
theorem df_dict1 {v : Expr} (hk : DE X S Ex k tk) (hv : DE X S Ex v tv)
    (hshape : (evalEachOpt [some k] X.env).zip ((evalEach [v] X.env).map fun v => do let x ← v; standAt pos; pure x) = [(some (eval k X.env), do let x ← eval v X.env; standAt pos; pure x)] := by rfl) : DF X S Ex (.Dict [some k] [v] pos) (tDict1 tk tv) := by
  refine ⟨PE.imp (pe_dict1 hk.pe hv.pe hshape) (lift.one fun σ B ρ H Q G SO q => ?_), ⟨fun h he q => hk.mono.r (fun y q => hv.mono.r (fun z q => dict1_mono h y q) he q) he q⟩⟩
  intro p hp
  have bp := G.bnone hp
  have l0 : Le S B H B (upd H p (.dK [])) := Le.beside G hp
  have G0 := l0.good G
  have hS : p ∉ S := fun z => by
    obtain ⟨_, a, b, c, e, _⟩ := G.src p z
    rw [hp] at e; cases e
  refine ⟨B, ρ, G0, SO.le l0, hk.mono.r (fun y hy kv B1 H1 l1 r1 => ?_) (fun x z => ExW.le l0 x z) q⟩
  refine ⟨B1, ρ, l1.good G0, (SO.le l0).le l1, hv.mono.r (fun z hz vv B2 H2 l2 r2 => ?_) (fun x z => ExW.le l1 x (ExW.le l0 x z)) hy⟩
  split at hz
  · rename_i j hj
    have r1 : Rp X.K B1 kv y := r1
    have ek := keyD_kV r1 hj
    have l := (l0.trans l1).trans l2
    have h2p : H2 p = some (.dK []) := (l1.trans l2).heap p _ upd_same hS
    have b2p : B2 p = none := by
      cases q : B2 p with
      | none => rfl
      | some o =>
        rcases (l1.trans l2).new p o q with e | e
        · rw [bp] at e; cases e
        · rw [upd_same] at e; cases e
    exact ⟨j, ek, h2p, hz _ B2 _ (Le.poke' l hp b2p hS) ⟨p, rfl, hp, b2p, _, upd_same, by simp [sizeLine], .cons r2 .nil⟩⟩
  · exact hz.elim
/-! ### a, b, .. = new or plain values -/
abbrev TMd := DEnv → (List Sl → Prop) → (Exn → Prop) → Prop
inductive SlA (K : PySem.W.Frag) (B H : Hp) : List Addr → List V → List Sl → Prop where
  | nil : SlA K B H [] [] []
  | p {L : List Addr} {v : V} {vs : List V} {d : D} {ss : List Sl} : Rp K B v d → SlA K B H L vs ss → SlA K B H L (v :: vs) (.p d :: ss)
  | o {L : List Addr} {l : Addr} {vs : List V} {d : D} {ss : List Sl} : B l = none → OwnAt K B H l d → l ∉ L → SlA K B H L vs ss → SlA K B H (l :: L) (.ref l :: vs) (.o d :: ss)
theorem SlA.length {K : PySem.W.Frag} {B H : Hp} : ∀ {L : List Addr} {vs : List V} {ss : List Sl}, SlA K B H L vs ss → vs.length = ss.length
  | _, _, _, .nil => rfl
  | _, _, _, .p _ t => congrArg (· + 1) (SlA.length t)
  | _, _, _, .o _ _ _ t => congrArg (· + 1) (SlA.length t)
theorem SlA.heap {K : PySem.W.Frag} {B H H' : Hp} : ∀ {L : List Addr} {vs : List V} {ss : List Sl}, (∀ l ∈ L, ∀ u, H l = some u → H' l = some u) → SlA K B H L vs ss → SlA K B H' L vs ss
  | _, _, _, _, .nil => .nil
  | _, _, _, h, .p r t => .p r (SlA.heap h t)
  | l :: _, _ :: _, _ :: _, h, .o b ow n t => .o b (ow.mono (.refl _) (h l (List.mem_cons_self ..))) n (SlA.heap (fun m hm => h m (List.mem_cons_of_mem _ hm)) t)
structure MonoM' (t : TMd) : Prop where
  r : ∀ {ρ : DEnv} {Q Q' : List Sl → Prop} {E E' : Exn → Prop}, (∀ d, Q d → Q' d) → (∀ x, E x → E' x) → t ρ Q E → t ρ Q' E'
def liftM (K : PySem.W.Frag) (S : List Addr) (Ex : L2.St → XK) (t : TMd) : TA := fun σ H Q => ∃ B ρ, Good S B H ∧ SlotsOk K S B H σ ρ ∧
  t ρ (fun ss => ∀ L vs B' H', Le S B H B' H' → (∀ l ∈ L, H l = none) → SlA K B' H' L vs ss → Q vs H') (ExW K S (Ex σ) B H)
structure DM (X : Cx) (S : List Addr) (Ex : L2.St → XK) (es : List Expr) (t : TMd) : Prop where
  pa : PA X es (liftM X.K S Ex t)
  mono : MonoM' t
@[simp] def tMN : TMd := fun _ Q _ => Q []
@[simp] def tMP (ta : T) (tr : TMd) : TMd := fun ρ Q E => ta ρ (fun x => tr ρ (fun xs => Q (.p x :: xs)) E) E
@[simp] def tMO (ta : T) (tr : TMd) : TMd := fun ρ Q E => ta ρ (fun x => tr ρ (fun xs => Q (.o x :: xs)) E) E
theorem dm_nil : DM X S Ex [] tMN := ⟨PA.imp pa_nil fun σ H Q ⟨B, ρ, G, SO, q⟩ => q [] [] B H G.le (fun _ h => nomatch h) .nil, ⟨fun h _ q => h _ q⟩⟩
theorem dm_p {tr : TMd} (h : DE X S Ex e te) (k : DM X S Ex es tr) (hs : starEach (e :: es) X.env = (false, eval e X.env) :: starEach es X.env := by rfl) : DM X S Ex (e :: es) (tMP te tr) := by
  refine ⟨PA.imp (pa_cons h.pe k.pa hs) fun σ H Q ⟨B, ρ, G, SO, q⟩ => ?_, ⟨fun h' he q => h.mono.r (fun x q => k.mono.r (fun xs q => h' _ q) he q) he q⟩⟩
  refine ⟨B, ρ, G, SO, h.mono.r (fun x hx v B1 H1 l1 r1 => ?_) (fun _ z => z) q⟩
  refine ⟨B1, ρ, l1.good G, SO.le l1, k.mono.r (fun ss hq L vs B2 H2 l2 fr sl => ?_) (fun x z => ExW.le l1 x z) hx⟩
  have r1 : Rp X.K B1 v x := r1
  exact hq L _ B2 H2 (l1.trans l2) (fun l hl => l1.old (fr l hl)) (.p (r1.mono l2.base) sl)
theorem dm_o {tr : TMd} (h : DF X S Ex e te) (k : DM X S Ex es tr) (hs : starEach (e :: es) X.env = (false, eval e X.env) :: starEach es X.env := by rfl) : DM X S Ex (e :: es) (tMO te tr) := by
  refine ⟨PA.imp (pa_cons h.pe k.pa hs) fun σ H Q ⟨B, ρ, G, SO, q⟩ => ?_, ⟨fun h' he q => h.mono.r (fun x q => k.mono.r (fun xs q => h' _ q) he q) he q⟩⟩
  refine ⟨B, ρ, G, SO, h.mono.r (fun x hx v B1 H1 l1 r1 => ?_) (fun _ z => z) q⟩
  refine ⟨B1, ρ, l1.good G, SO.le l1, k.mono.r (fun ss hq L vs B2 H2 l2 fr sl => ?_) (fun x z => ExW.le l1 x z) hx⟩
  obtain ⟨l, rfl, h0, hb, ow⟩ := r1
  have hH : ∃ u, H1 l = some u := by
    cases x with
    | lst ds => obtain ⟨vs, z, _⟩ := ow; exact ⟨_, z⟩
    | dct ds => obtain ⟨vs, z, _⟩ := ow; exact ⟨_, z⟩
    | _ => exact ow.elim
  obtain ⟨u, hu⟩ := hH
  have hS : l ∉ S := fun z => by
    obtain ⟨_, a, b, c, e, _⟩ := G.src l z
    rw [h0] at e; cases e
  refine hq (l :: L) _ B2 H2 (l1.trans l2) (fun m hm => ?_) (.o ?_ (ow.mono l2.base fun u q => l2.heap l u q hS) (fun z => by have := fr l z; rw [hu] at this; cases this) sl)
  · rcases List.mem_cons.mp hm with e | e
    · subst e; exact h0
    · exact l1.old (fr m e)
  · cases q : B2 l with
    | none => rfl
    | some o =>
      rcases l2.new l o q with e | e
      · rw [hb] at e; cases e
      · rw [hu] at e; cases e
@[simp] def setM : DEnv → List Nat → List Sl → DEnv
  | ρ, i :: is, s :: ss => setM (ρ.set i (some s)) is ss
  | ρ, _, _ => ρ
theorem setM_env {K : PySem.W.Frag} {B0 H0 Bk B H : Hp} {k : L2.St → Hp → Prop} {ρ' : DEnv} : ∀ {is : List Nat} {L : List Addr} {vs : List V} {ss : List Sl} {σ : L2.St} {ρ : DEnv}, is.length = ss.length → EnvOk K S B0 H0 Bk B H σ ρ → SlA K B H L vs ss → (∀ l ∈ L, H0 l = none ∧ l ∉ S) →
    (∀ l ∈ L, ∀ (j : Nat) (f : D), ρ[j]? = some (some (.o f)) → σ[j]? ≠ some (some (.ref l))) → setM ρ is ss = ρ' → (∀ σ', EnvOk K S B0 H0 Bk B H σ' ρ' → k σ' H) → gsOf K (is.map .n) vs σ H k
  | [], _, _, _, σ, ρ, hl, E, .nil, _, _, e, hk => ⟨rfl, hk σ (by rw [← e]; exact E)⟩
  | _ :: _, _, [], [], _, _, hl, _, _, _, _, _, _ => absurd hl (by simp)
  | i :: is, L, v :: vs, .p d :: ss, σ, ρ, hl, E, .p r t, h0, ap, e, hk => by
    refine ⟨v, vs, rfl, ?_⟩
    refine setM_env (is := is) (by simpa using hl) (E.setP r) t h0 (fun l hl j f q1 q2 => ?_) e hk
    rw [getElem?_set'] at q1 q2
    by_cases c : i = j
    · rw [if_pos c] at q1; split at q1 <;> cases q1
    · rw [if_neg c] at q1 q2; exact ap l hl j f q1 q2
  | i :: is, _ :: L, _, .o d :: ss, σ, ρ, hl, E, .o (l := l) hb ow nl t, h0, ap, e, hk => by
    refine ⟨_, _, rfl, ?_⟩
    have hl0 := h0 l (List.mem_cons_self ..)
    refine setM_env (is := is) (by simpa using hl) (E.setO hl0.1 hb ow (fun j f q => ap l (List.mem_cons_self ..) j f q) hl0.2) t (fun m hm => h0 m (List.mem_cons_of_mem _ hm)) (fun m hm j f q1 q2 => ?_) e hk
    rw [getElem?_set'] at q1 q2
    by_cases c : i = j
    · rw [if_pos c] at q1 q2
      split at q2
      · cases q2; exact nl hm
      · cases q2
    · rw [if_neg c] at q1 q2; exact ap m (List.mem_cons_of_mem _ hm) j f q1 q2
@[simp] def sTupM (is : List Nat) (tr : TMd) : TSd := fun D ρ => tr ρ (fun ss => (is.length = ss.length ∧ ss.length ≤ sizeLine) ∧ D.nx (setM ρ is ss)) fun x => D.ex x ρ
theorem ds_tupM (is : List Nat) {tgs : List Expr} {kt : Nat} {pt : Pos} {k2 pt2} {tr : TMd} (ha : DM X S (WE W) es tr) (hg : DG X (.Tuple tgs kt pt) (.t (is.map .n)))
    (hs : swapsWithSole [.Tuple tgs kt pt] (.Tuple es k2 pt2) pos.line X.env = pure false := by rfl) (hw : swappedStores [.Tuple tgs kt pt] (.Tuple es k2 pt2) X.env = pure none := by rfl)
    (h1 : (assignEach [.Tuple tgs kt pt] X.env).map (·.2) = [assign (.Tuple tgs kt pt) X.env] := by rfl) : DS X S W (.Assign [.Tuple tgs kt pt] (.Tuple es k2 pt2) pos) (sTupM is tr) := by
  refine ⟨PS.imp (ps_asg (pe_tup ha.pa) hg hs hw h1) fun De σ H ⟨B0, H0, Bk, B, ρ, E, q⟩ => ?_, ⟨fun {D D' ρ} h1 h2 h3 h4 h5 q => ha.mono.r (fun d q => ⟨q.1, h1 _ q.2⟩) (fun x q => h5 _ _ q) q⟩⟩
  refine ⟨B, ρ, E.1, E.2.1, ha.mono.r (fun ss hq L vs B1 H1 le fr sl => ?_) (fun x q => ex_of E x q) q⟩
  have hlen := sl.length
  refine ⟨by rw [hlen]; exact hq.1.2, fun p hp => ?_⟩
  have E1 := E.le le
  have E2 := E1.le (Le.beside E1.1 hp (o := .tup vs))
  have sl2 : SlA X.K B1 (upd H1 p (.tup vs)) L vs ss := sl.heap fun l hl u q => by rw [upd_ne (ne_of_none q hp)]; exact q
  refine ⟨p, vs, rfl, .inl (.inl upd_same), by rw [hlen, List.length_map]; exact hq.1.1.symm, ?_⟩
  refine setM_env hq.1.1 E2 sl2 (fun l hl => ?_) (fun l hl j f q1 q2 => ?_) rfl fun σ' E' => hq.2 B1 σ' _ E'
  · have h0 := fr l hl
    refine ⟨E.2.2.1.old h0, fun z => ?_⟩
    obtain ⟨_, a, b, c, e, _⟩ := E.1.src l z
    rw [h0] at e; cases e
  · obtain ⟨v, h3, l', ev, hb, ow⟩ := E.2.1.at_ j _ q1
    rw [q2] at h3; cases h3; cases ev
    have h0 := fr l hl
    cases f with
    | lst ds => obtain ⟨vs, z, _⟩ := ow; rw [h0] at z; cases z
    | dct ds => obtain ⟨vs, z, _⟩ := ow; rw [h0] at z; cases z
    | _ => exact ow.elim
end
end DL

set_option Elab.async false
set_option linter.all false
set_option maxRecDepth 100000
set_option maxHeartbeats 4000000
/-! DL, part s: sets of texts out of lists. -/
namespace DL
open PySem PySem.Spec PyProof.Rows L2
theorem strs_at : ∀ {us : List Value} {xs : List Str}, StrsAre us xs → ∀ (i : Nat) (v : Value), us[i]? = some v → ∃ x t, xs[i]? = some x ∧ v = .str x t
  | _, _, .nil, i, v, h => by simp at h
  | _, _, .cons x t r, 0, v, h => by
    simp at h
    exact ⟨x, t, rfl, h.symm⟩
  | _, _, .cons x t r, i + 1, v, h => by
    simp only [List.getElem?_cons_succ] at h ⊢
    exact strs_at r i v h
/-- the payload holds the texts l, each once, and can be walked -/
structure TS (P : Program) (w : World) (D : Froz.SD) (l : List Str) : Prop where
  ok : Froz.TxOk P w D l
  ris : Ris D.2.2.place.toList
  led : w.params.followText "set-order" = true ∨ D.2.2.led = true
  nd : l.Nodup
section
variable {P : Program} {w : World} {A : Around} {E : Value → Shared → Prop} {s : Shared}
theorem TS.new {led : Bool} (h : w.params.followText "set-order" = true ∨ led = true) : TS P w (#[], 0, .fresh 0 0 led) [] where
  ok := Froz.TxOk.nil rfl
  ris := by show Ris (#[] : Array Nat).toList; exact List.Pairwise.nil
  led := h
  nd := .nil
theorem tail_ris {ep : Nat} {es : Array (Int × Value)} {t : SetTable} {b : Bool} (h : Ris t.place.toList) : Ris (Froz.tailTx ep es t b).2.2.place.toList := by
  unfold Froz.tailTx
  split
  · exact relayAll_ris ..
  · exact h
theorem tail_led {ep : Nat} {es : Array (Int × Value)} {t : SetTable} {b : Bool} : (Froz.tailTx ep es t b).2.2.led = t.led := by
  unfold Froz.tailTx
  split
  · exact relayAll_led ..
  · rfl
theorem off_place (t : SetTable) : (if t.plain = true then { t with plain := false } else t).place = t.place := by split <;> rfl
theorem off_led (t : SetTable) : (if t.plain = true then { t with plain := false } else t).led = t.led := by split <;> rfl
theorem TS.add {D : Froz.SD} {l : List Str} {k : Str} (u : Tok) (T : TS P w D l) (hk : k ∉ l) : TS P w (Froz.addTx (hashStr w k) (.str k u) D) (k :: l) := by
  obtain ⟨es, ep, t⟩ := D
  refine ⟨Froz.add_ok (k := k) u T.ok, ?_, ?_, List.nodup_cons.mpr ⟨hk, T.nd⟩⟩
  · unfold Froz.addTx
    refine tail_ris ?_
    rw [off_place]
    exact layNew_ris t es (hashStr w k) (.str k u) T.ris
  · unfold Froz.addTx
    rw [tail_led, off_led]
    have := layNew_led t es (hashStr w k) (.str k u)
    simp only at this ⊢
    rw [this]
    exact T.led
/-- a text that is in already -/
theorem add_old {a : Addr} {T : String} {D : Froz.SD} {l : List Str} {k : Str} {u : Tok} {Q : Bool → Shared → Prop} (ho : s.heap.get? a = some (Froz.sObj T D)) (F : Froz.TxOk P w D l) (hk : k ∈ l) (hb : l.length < scanBound) (h : Q false s) :
    wpAny (model P w) A (setAddHashed a (.str k u) (hashStr w k)) Q E s := by
  obtain ⟨es, ep, t⟩ := D
  have hf : t.fits es.size = true := F.fit
  have hel : ElemsOf (strKind P w) es.toList := F.el
  have hsz : es.size = l.length := F.sz
  have hkey : (strKind P w).is k (.str k u) = true := Froz.is_str k u
  obtain ⟨e, he, ek⟩ := (F.mem k).mp hk
  have hd : (Froz.sObj T (es, ep, t)).data = .set es ep t := rfl
  unfold setAddHashed setAddHashedIn
  refine wpAny_holding (wpAny_bind (wpAny_setState_of ho hd hf ?_))
  dsimp only
  rw [byScan_of rfl (show es.size < scanBound by omega) hel]
  simp only [↓reduceIte]
  unfold setAddByScan
  refine wpAny_bind (wpAny_bind (wpAny_rule (wpAny_bind (wpAny_setScan_of (knd := strKind P w) (k := k) hkey ho hd hf hel ?_))))
  cases hr : List.findIdx? (fun e => (strKind P w).is k e.2) es.toList with
  | none =>
    have := List.findIdx?_eq_none_iff.mp hr e he
    rw [ek] at this; cases this
  | some j => exact wpAny_pure (wpAny_pure h)
end
def dedR (acc : List Str) (v : Str) : List Str := if acc.contains v then acc else v :: acc
def ded (xs : List Str) : List Str := xs.foldl dedR []
theorem ded_take (xs : List Str) (i : Nat) (v : Str) (h : xs[i]? = some v) : ded (xs.take (i + 1)) = dedR (ded (xs.take i)) v := by
  unfold ded
  rw [List.take_succ, h, List.foldl_append]
  rfl
theorem ded_le (xs : List Str) : ∀ i, (ded (xs.take i)).length ≤ i
  | 0 => by simp [ded]
  | i + 1 => by
    have ih := ded_le xs i
    cases h : xs[i]? with
    | none =>
      have : xs.take (i + 1) = xs.take i := by rw [List.take_succ, h]; simp
      rw [this]; omega
    | some v =>
      rw [ded_take xs i v h]
      unfold dedR
      split
      · omega
      · simp; omega
section
variable {P : Program} {w : World} {A : Around} {R : Result → Shared → Prop} {I : Addr} {fp wr : List Addr} {G : Array GenState → Array GenState → Prop} {n : Nat} {Pv : Nat → Value → Prop} {St : Nat → Shared → Prop}
/-- the set at a holds the texts l -/
def SetAtT (P : Program) (w : World) (h : Heap) (a : Addr) (l : List Str) : Prop := ∃ D, h.get? a = some (Froz.sObj "set" D) ∧ TS P w D l
/-- the set takes each text of the walk -/
theorem fill_set (W : WalksS P w A.in1 I fp wr G n Pv St) (a : Addr) (hf : a ∉ fp) (xs : List Str) (hx : ∀ i v, Pv i v → ∃ x t, xs[i]? = some x ∧ v = .str x t) (room : n + 1 < scanBound) :
    ∀ (k i : Nat) (s : Shared), n - i = k → i ≤ n → St i s → SetAtT P w s.heap a (ded (xs.take i)) →
      (∀ s', Moved (a :: wr) G s s' → SetAtT P w s'.heap a (ded (xs.take n)) → R (.ok (.ret .none)) s') →
      codeAny (model P w) A (.builtin "set.update.loop" ⟨[.ref a, .ref I], []⟩) R s := by
  have nw : a ∉ wr := fun z => hf (W.sub _ z)
  have up : ∀ b ∈ wr, b ∈ a :: wr := fun b z => List.mem_cons_of_mem _ z
  have still : ∀ {s s' : Shared} {l : List Str}, Moved wr G s s' → SetAtT P w s.heap a l → SetAtT P w s'.heap a l := fun hm ⟨D, ho, t⟩ => ⟨D, hm.heap a _ nw ho, t⟩
  intro k
  induction k with
  | zero =>
    intro i s hk hi hst hS hR
    obtain rfl : i = n := by omega
    refine codeAny_builtin PyProof.Rows.F.entry_set_update_loop ?_
    rw [Around.under_plainId PyProof.Rows.F.plain_set_update_loop _]
    show wpAny _ A.in1 (pyNext (.ref I) >>= _) _ _ s
    exact wpAny_bind (W.done s _ _ hst fun s' hm => wpAny_pure (hR s' (hm.mono up) (still hm hS)))
  | succ k ih =>
    intro i s hk hi hst hS hR
    have lt : i < n := by omega
    refine codeAny_builtin PyProof.Rows.F.entry_set_update_loop ?_
    rw [Around.under_plainId PyProof.Rows.F.plain_set_update_loop _]
    show wpAny _ A.in1 (pyNext (.ref I) >>= _) _ _ s
    refine wpAny_bind (W.item i s _ _ lt hst fun v s' hP hst' hm => ?_)
    obtain ⟨x, t, ex, rfl⟩ := hx i v hP
    obtain ⟨D, ho, T⟩ := still hm hS
    show wpAny _ A.in1 (holding [Value.str x t] (setAdd a (.str x t)) >>= _) _ _ s'
    refine wpAny_bind (wpAny_holding ?_)
    unfold setAdd
    refine wpAny_holding (wpAny_bind ((PySem.strKind P w).pyHash (k := x) (strKind_is _ _ _ _) ?_))
    have hlen := ded_le xs i
    have fin : ∀ h' : Heap, Heap.SameBut a s'.heap h' → SetAtT P w h' a (ded (xs.take (i + 1))) → codeAny (model P w) A (.builtin "set.update.loop" ⟨[.ref a, .ref I], []⟩) R { s' with heap := h', toks := s'.toks + 1 } := fun h' sb hS3 => by
      refine ih (i + 1) _ (by omega) lt (W.frame _ s' _ _ hst' (Nat.le_succ _) fun b hb o e => ?_) hS3 fun s'' m2 hS4 => ?_
      · rw [sb.2 b fun z : b = a => hf (by rw [← z]; exact hb)]; exact e
      · refine hR s'' (Moved.trans W.gtrans ((hm.mono up).then_heap (Nat.le_succ _) fun b o hb e => ?_) m2) hS4
        rw [sb.2 b fun z : b = a => hb (by rw [z]; exact List.mem_cons_self)]; exact e
    by_cases hin : x ∈ ded (xs.take i)
    · refine add_old (s := { s' with toks := s'.toks + 1 }) ho T.ok hin (by omega) ?_
      refine wpAny_pure ⟨plainId_quiet PyProof.Rows.F.plain_set_update_loop _, fin s'.heap (Heap.SameBut.refl a _) ⟨D, ho, ?_⟩⟩
      rw [ded_take xs i x ex]
      unfold dedR
      rw [if_pos (List.contains_iff_mem.mpr hin)]
      exact T
    · refine Froz.add_x (s := { s' with toks := s'.toks + 1 }) ho T.ok hin (by omega) ?_
      refine wpAny_pure ⟨plainId_quiet PyProof.Rows.F.plain_set_update_loop _, fin _ (Heap.SameBut.update s'.heap a _) ⟨_, Froz.get_upd _ ho rfl, ?_⟩⟩
      rw [ded_take xs i x ex]
      unfold dedR
      rw [if_neg fun z => hin (List.contains_iff_mem.mp z)]
      exact T.add t hin
end
/-- a set as it is made -/
abbrev set0 (w : World) : Obj := { cls := .type "set", dict := none, data := .set #[] 0 (.fresh 0 0 (!w.params.followText "set-order")) }
section
variable {P : Program} {w : World} {A : Around} {E : Value → Shared → Prop} {s : Shared}
theorem make_set {l : Addr} {items : Array Value} {xs : List Str} {Q : Value → Shared → Prop} (hh : A.handled = none) (hl : s.heap.IsList l items) (hi : StrsAre items.toList xs) (room : items.size + 1 < scanBound)
    (h : ∀ (h' : Heap) (tk : Nat), SetAtT P w h' s.heap.objs.size (ded xs) → (∀ b o, s.heap.get? b = some o → h'.get? b = some o) → Q (.ref s.heap.objs.size) { s with heap := h', toks := tk }) :
    wpAny (model P w) A (call (.type "set") [.ref l]) Q E s := by
  have hxl : xs.length = items.size := by
    have q := StrsAre.length hi
    rw [Array.length_toList] at q; exact q.symm
  have hm := PySem.F.called_set.mro
  obtain ⟨c, tl, hmro⟩ := hm
  have m1 := PySem.F.called_set.made; have m2 := PySem.F.called_set.sub
  have m3 := PySem.F.called_set.notType; have m4 := PySem.F.called_set.canCreate
  have m5 := PySem.F.typeCall_set_1 (.ref l)
  refine wpAny_call (codeAny_of_tree ?_)
  show wpAny _ _ (callAny (.type "set") _) _ _ _
  refine wpAny_pure ⟨Code.quiet_builtin _ (by decide +kernel), codeAny_builtin PySem.F.entry_type_call (by
    rw [Around.under_plain (weight_type_call_type "set" [.ref l] []) rfl]
    repeat (any_goals (first | assumption | wp_step))
    refine codeAny_mono (code_set_led1 (.ref l) (E := E) (Q₁ := fun o s₁ => o = .ref s.heap.objs.size ∧ s₁ = { s with heap := s.heap.push (set0 w) }) ⟨rfl, rfl⟩) fun r s₁ hr => ?_
    match r, hr with
    | .error e, hr => exact hr
    | .ok (.ret o), hr =>
      obtain ⟨rfl, rfl⟩ := hr
      have at0 : (s.heap.push (set0 w)).get? s.heap.objs.size = some (set0 w) := Heap.get?_push_size _ rfl
      have ty : Shared.TypeIs { s with heap := s.heap.push (set0 w) } (.ref s.heap.objs.size) "set" := ⟨_, at0, rfl⟩
      have i1 := PySem.F.called_set.init.lookup; have i2 := PySem.F.called_set.init.bind (.ref s.heap.objs.size)
      repeat (any_goals (first | assumption | wp_step))
      refine codeAny_mono (codeAny_call_builtin (R := wants (fun r s₂ => r = .none ∧ ∃ h' tk, s₂ = { s with heap := h', toks := tk } ∧ SetAtT P w h' s.heap.objs.size (ded xs) ∧ ∀ b o, s.heap.get? b = some o → h'.get? b = some o) E)
        PySem.F.called_set.init.plain PySem.F.entry_set_init (check_set_init_1 ty ?_)) fun r₂ s₂ hr₂ => ?_
      · obtain ⟨⟨oc, od, oda, os⟩, hol, hcl, nl, hdl⟩ := hl
        simp only at hcl hdl
        subst hcl; subst hdl
        have at1 : (s.heap.push (set0 w)).get? l = some { cls := .type "list", dict := od, data := .seq items nl, slots := os } := Heap.get?_push_of_some _ hol
        have n1 := PySem.F.sub_list_set; have n2 := PySem.F.sub_list_frozenset
        have n3 : (Value.type "list" == Value.type "dict") = false := by decide
        have l1 : (s.heap.push (set0 w)).IsList l items := ⟨_, at1, rfl, nl, rfl⟩
        unfold Builtin.«set.__init__» noKeywords Builtin.Frozenset.updateFrom
        generalize hPI : pyIter = PI
        wp_walk
        subst hPI
        refine wpAny_pyIter_list l1 (wpAny_bind (wpAny_runValue ?_))
        have sz : (s.heap.push (set0 w)).objs.size = s.heap.objs.size + 1 := Heap.size_push ..
        have below := Heap.lt_size hol
        have h3 : A.in1.in1.in1.handled = none := by simp [hh]
        have ne1 : l ≠ (s.heap.push (set0 w)).objs.size := by rw [sz]; exact Nat.ne_of_lt (Nat.lt_succ_of_lt below)
        have out : s.heap.objs.size ∉ [(s.heap.push (set0 w)).objs.size, l] := by
          rw [sz]
          intro z
          rcases List.mem_cons.mp z with z | z
          · exact absurd z (Nat.ne_of_lt (Nat.lt_succ_self _))
          · exact absurd (List.mem_singleton.mp z).symm (Nat.ne_of_lt below)
        refine fill_set ((Walks.list h3 _ l ne1 items).toS) s.heap.objs.size out xs (fun i v hv => strs_at hi i v (by rw [Array.getElem?_toList]; exact hv)) room (items.size - 0) 0 _ (by omega) (Nat.zero_le _) ⟨⟨_, Heap.get?_push_size _ rfl, rfl, rfl⟩, l1.push _⟩
          ⟨(#[], 0, .fresh 0 0 (!w.params.followText "set-order")), Heap.get?_push_of_some _ at0, TS.new (by cases w.params.followText "set-order" <;> simp)⟩ fun s' hm hS => ?_
        obtain ⟨h', g', d', tk', os'⟩ := s'
        have e1 : g' = s.gens := hm.gens
        have e2 : d' = s.drawn := hm.drawn
        have e3 : os' = s.os := hm.os
        subst e1; subst e2; subst e3
        show wpAny _ _ _ _ _ _
        refine wpAny_pure ?_
        show wpAny _ _ (ret Value.none) _ _ _
        rw [← hxl, List.take_length] at hS
        refine wpAny_pure ⟨rfl, h', tk', rfl, hS, fun b o e => hm.heap b o (fun z => ?_) (Heap.get?_push_of_some _ (Heap.get?_push_of_some _ e))⟩
        have lb := Heap.lt_size e
        rcases List.mem_cons.mp z with z | z
        · exact absurd z (Nat.ne_of_lt lb)
        · have := List.mem_singleton.mp z
          rw [sz] at this
          exact absurd this (Nat.ne_of_lt (Nat.lt_succ_of_lt lb))
      · match r₂, hr₂ with
        | .error e, hr₂ => exact hr₂
        | .ok (.ret r), hr₂ =>
          obtain ⟨rfl, h', tk, rfl, hS, hk⟩ := hr₂
          repeat (any_goals (first | assumption | wp_step))
          exact h _ _ hS hk)⟩
end
end DL

set_option Elab.async false
set_option linter.all false
set_option maxRecDepth 100000
set_option maxHeartbeats 2000000
/-! DL, part t: len(set(xs)), sorted(set(xs)) of texts. -/
namespace DL
open PySem PySem.Spec PyProof.Rows L2
theorem perm_of_sub : ∀ {l ks : List Str}, l.Nodup → (∀ x ∈ l, x ∈ ks) → ks.length = l.length → ks.Perm l
  | [], ks, _, _, h => by rw [List.eq_nil_of_length_eq_zero h]
  | x :: l, ks, nd, hs, h => by
    rw [List.nodup_cons] at nd
    have hx := hs x (List.mem_cons_self ..)
    have p := List.perm_cons_erase hx
    refine p.trans ((perm_of_sub nd.2 (fun y hy => ?_) ?_).cons x)
    · have hy' := hs y (List.mem_cons_of_mem _ hy)
      have ne : y ≠ x := fun e => nd.1 (e ▸ hy)
      exact (List.mem_erase_of_ne ne).mpr hy'
    · rw [List.length_erase_of_mem hx, h]; simp
def keyS : Value → Str
  | .str x _ => x
  | _ => ""
theorem is_str_of {P : Program} {w : World} {k : Str} {v : Value} (h : (strKind P w).is k v = true) : ∃ t, v = .str k t := by
  cases v <;> first
    | (have h' : (_ == k) = true := h; exact ⟨_, by rw [beq_iff_eq.mp h']⟩)
    | (have h' : (k == _) = true := h; exact ⟨_, by rw [beq_iff_eq.mp h']⟩)
    | cases h
theorem strs_keyS : ∀ {vs : List Value}, (∀ v ∈ vs, ∃ k t, v = Value.str k t) → StrsAre vs (vs.map keyS)
  | [], _ => .nil
  | v :: vs, h => by
    obtain ⟨k, t, rfl⟩ := h v (List.mem_cons_self ..)
    exact .cons k t (strs_keyS fun u hu => h u (List.mem_cons_of_mem _ hu))
section
variable {P : Program} {w : World} {A : Around} {E : Value → Shared → Prop} {s : Shared}
theorem sorted_setS {a : Addr} {l : List Str} {Q : Value → Shared → Prop} (h : SetAtT P w s.heap a l) (hh : A.handled = none) (h64 : l.length < 64)
    (hQ : ∀ s' p (out : Array Value) (c : Nat) (ys : List Str), (∀ b o, s.heap.get? b = some o → s'.heap.get? b = some o) → s'.gens = s.gens → s'.os = s.os → s.heap.objs.size ≤ p →
      s'.heap.get? p = some (seqObj "list" out c) → StrsAre out.toList ys → ys.Perm l → sortedS ys = true → Q (.ref p) s') : wpAny (model P w) A (call (.builtin "sorted") [.ref a]) Q E s := by
  obtain ⟨⟨es, ep, t⟩, ho, T⟩ := h
  have sz : es.size = l.length := T.ok.sz
  have hb : es.size < scanBound := by unfold scanBound; omega
  refine Calls.call_function_entry kind_sorted plain_sorted entry_sorted (args_sorted1 _) ?_
  unfold Builtin.«sorted»
  refine wpAny_bind (m := checkCount "sorted" 1 1 _) (wpAny_pure (wpAny_bind (collect_set (A := A.in1) hh ⟨_, ho, rfl, rfl⟩ T.ok.fit hb T.ris T.led fun s1 vs k1 hz g1 o1 pm => ?_)))
  have vl : vs.length = l.length := by rw [pm.length_eq, List.length_map, Array.length_toList]; exact sz
  have vstr : ∀ v ∈ vs, ∃ k t, v = Value.str k t := fun v hv => by
    obtain ⟨e, he, q⟩ := List.mem_map.mp (pm.mem_iff.mp hv)
    obtain ⟨⟨k, hk, _⟩, _⟩ := T.ok.el e he
    obtain ⟨t, e2⟩ := is_str_of hk
    exact ⟨k, t, by rw [← q]; exact e2⟩
  have hS := strs_keyS vstr
  have pk : (vs.map keyS).Perm l := perm_of_sub T.nd (fun x hx => by
    obtain ⟨e, he, q⟩ := (T.ok.mem x).mp hx
    obtain ⟨t, e2⟩ := is_str_of q
    exact List.mem_map.mpr ⟨e.2, pm.mem_iff.mpr (List.mem_map.mpr ⟨e, he, rfl⟩), by rw [e2]; rfl⟩) (by rw [List.length_map, vl])
  refine wpAny_bind (wpAny_newList ?_ (by rw [vl, sizeLine_eq]; omega))
  have oL : (s1.heap.push (seqObj "list" vs.toArray 0)).get? s1.heap.objs.size = some (seqObj "list" vs.toArray 0) := Heap.get?_push_size _ rfl
  refine wpAny_bind (wpAny_holding (wpAny_call_entry slot_list_sort ⟨_, oL, rfl⟩ entry_list_sort
    (list_sort_treeK strKind_oneLt oL hS.keysOf (fun v₁ v₂ rest e => keyKind_strs (by rw [← e]; exact hS)) (by rw [vl]; exact h64) fun st' hp hs => ?_) (args_list_sort _)))
  obtain ⟨ys, y1, y2, y3⟩ := sorted_out_str hS hp hs
  obtain ⟨c, hc⟩ := sortedHeap_at (vs := vs) (out := (arrOf st').map (·.2)) oL
  refine ⟨_, rfl, wpAny_pure ⟨_, rfl, hQ _ s1.heap.objs.size _ c ys (fun b u e => ?_) g1 o1 hz hc y1 (y2.trans pk) y3⟩⟩
  have q := k1 b u e
  have below := Heap.lt_size q
  show (sortedHeap (s1.heap.push (seqObj "list" vs.toArray 0)) s1.heap.objs.size vs _).get? b = some u
  rw [sortedHeap_old (Nat.ne_of_lt below) (by rw [size_push']; exact Nat.lt_succ_of_lt below)]
  exact Heap.get?_push_of_some _ q
end
theorem boot_sorted' : bootBuiltins ("sorted" : Str) = some (.builtin "sorted") := by decide +kernel
section
variable {X : Cx} {S : List Addr} {Ex : L2.St → XK} {a : Expr} {ta : TE} {tb : T} {p p2 q pos : Pos}
def tSetV (K : PySem.W.Frag) (ta : TE) (R : List Str → Hp → VK → Prop) : TE := fun σ H Q => ta σ H fun x H1 => ∃ l, ∃ xs : List Str, x = .ref l ∧ SqL K H1 l (xs.map V.str) ∧ xs.length + 1 < scanBound ∧ R xs H1 Q
theorem set_size {P : Program} {w : World} {D : Froz.SD} {l : List Str} (T : TS P w D l) : D.1.size = l.length := T.ok.sz
theorem pe_onSet {x : Str} {id : String} {R : List Str → Hp → VK → Prop} (hg : Gl X x) (hm : X.mg x = none) (hv : bootBuiltins x = some (.builtin id)) (hg2 : Gl X "set") (hm2 : X.mg "set" = none) (hc : X.calm = true) (ha : PE X a ta) (hn : x ≠ "__name__") (hdb : (x == ("__debug__" : Str)) = false)
    (run : ∀ {pins : List (Addr × Obj)} {σ : L2.St} {s : Shared} {H : Hp} {Q : VK} {d : Addr} {xs : List Str}, Inv X pins σ H s → SetAtT X.prog X.w s.heap d (ded xs) → (ded xs).length ≤ xs.length → xs.length + 1 < scanBound → R xs H Q →
      wpAny (model X.prog X.w) X.A (call (.builtin id) [.ref d]) (EP X pins σ Q) X.xe s)
    (na : starEach [a] X.env = (false, eval a X.env) :: starEach [] X.env := by rfl) : PE X (.Call (.Name x p) [.Call (.Name "set" p2) [a] [] q] [] pos) (tSetV X.K ta R) := by
  refine ⟨fun pins s σ H Q I h => ?_⟩
  refine Call_ (ld_blt I hg hm hv ?_ hn hdb)
  refine PyProof.Rows.callWith_builtin1 (PyProof.Rows.args_cons ?_ rfl) rfl rfl
  refine Call_ (ld_blt I hg2 hm2 boot_set ?_)
  refine PyProof.Rows.callWith_type1 (PyProof.Rows.args_cons (thn (ha.run pins s σ H _ I h) fun v s1 ⟨x, H1, I1, r1, q1⟩ => PyProof.Rows.args_nil ?_) na) na rfl
  obtain ⟨l, xs, rfl, hq, hb, q1⟩ := q1
  cases r1
  obtain ⟨its, r, pl, hz⟩ := I1.list hq
  have hl : its.length = xs.length := by rw [← r.length, List.length_map]
  refine make_set (I1.ok.hd hc) pl.isList (xs := xs) (by simpa using strsAre_of r) (by rw [List.size_toArray, hl]; exact hb) fun h' tk hS hk => PyProof.Rows.args_nil ?_
  have hd := ded_le xs xs.length
  rw [List.take_length] at hd
  exact run (I1.kept (t' := tk) hk) hS hd hb q1
theorem pe_lenSetT (hg : Gl X "len") (hm : X.mg "len" = none) (hg2 : Gl X "set") (hm2 : X.mg "set" = none) (hc : X.calm = true) (ha : PE X a ta) (na : starEach [a] X.env = (false, eval a X.env) :: starEach [] X.env := by rfl) :
    PE X (.Call (.Name "len" p) [.Call (.Name "set" p2) [a] [] q] [] pos) (tSetV X.K ta fun xs H Q => Q (.int (ded xs).length) H) := by
  refine pe_onSet hg hm boot_len hg2 hm2 hc ha (by decide) (by decide) (fun {pins σ s H Q d xs} I hS hd hb h => ?_) na
  obtain ⟨D, ho, T⟩ := hS
  have e := set_size T
  have hs : scanBound = 4096 := rfl
  refine call_len_set ho ⟨rfl, rfl, rfl⟩ rfl T.ok.fit (by rw [e]; omega) ⟨.int (ded xs).length, H, I.tok _, ⟨_, by rw [e]⟩, h⟩
theorem pe_sortedSetT (hg : Gl X "sorted") (hm : X.mg "sorted" = none) (hg2 : Gl X "set") (hm2 : X.mg "set" = none) (hc : X.calm = true) (ha : PE X a ta) (na : starEach [a] X.env = (false, eval a X.env) :: starEach [] X.env := by rfl) :
    PE X (.Call (.Name "sorted" p) [.Call (.Name "set" p2) [a] [] q] [] pos) (tSetV X.K ta fun xs H Q => xs.length < 64 ∧ ∀ ys d, ys.Perm (ded xs) → sortedS ys = true → H d = none → Q (.ref d) (upd H d (.lst (ys.map V.str)))) := by
  refine pe_onSet hg hm boot_sorted' hg2 hm2 hc ha (by decide) (by decide) (fun {pins σ s H Q d xs} I hS hd hb h => ?_) na
  refine sorted_setS hS (I.ok.hd hc) (by omega) fun s' p out c ys k1 g1 o1 hz hc' y1 y2 y3 => ?_
  have hlen : (ys.map V.str).length ≤ sizeLine := by
    rw [List.length_map, y2.length_eq]
    have : sizeLine = 16777216 := rfl
    omega
  have hn : H p = none := I.hok.fresh hz
  have J : Inv X pins σ (upd H p (.lst (ys.map V.str))) { s with heap := s'.heap, gens := s'.gens, drawn := s'.drawn, toks := s'.toks } :=
    I.call (ch := []) (Un.laid k1 hz hn) (I.hok.laid k1 hz ⟨hlen, out.toList, c, vals_of_strs y1, by rw [Array.toArray_toList]; exact hc'⟩) (by rw [g1]; exact I.bare) (fun _ z => nomatch z)
  have e : s' = { s with heap := s'.heap, gens := s'.gens, drawn := s'.drawn, toks := s'.toks } := by
    cases s'; cases s; cases o1; rfl
  rw [e]
  exact ⟨.ref p, _, J, rfl, h.2 ys p y2 y3 hn⟩
/-! over data -/
def strsD (Q : List Str → Prop) : D → Prop
  | .lst xs => match strsOf xs with
    | some ss => ss.length < 60 ∧ Q ss
    | none => False
  | _ => False
theorem strsD.imp {Q Q' : List Str → Prop} (h : ∀ ss, Q ss → Q' ss) : ∀ d, strsD Q d → strsD Q' d := fun d q => by
  cases d <;> first | exact q.elim | skip
  unfold strsD at *
  simp only at *
  split at q
  · exact ⟨q.1, h _ q.2⟩
  · exact q.elim
@[simp] def tLenSet (t : T) : T := fun ρ Q E => t ρ (strsD fun ss => Q (.int (ded ss).length)) E
@[simp] def tSortedSet (t : T) : T := fun ρ Q E => t ρ (strsD fun ss => ∀ ys : List Str, ys.Perm (ded ss) → sortedS ys = true → Q (.lst (ys.map D.str))) E
theorem At.strs {B H : Hp} {v : V} {d : D} {Q : List Str → Prop} (r : At X.K S B H v d) (q : strsD Q d) : ∃ l ss, v = .ref l ∧ SqL X.K H l (ss.map V.str) ∧ ss.length < 60 ∧ Q ss := by
  cases d with
  | lst xs =>
    unfold strsD at q
    simp only at q
    split at q
    · rename_i ss hb
      obtain ⟨a, vs, e1, e2, r2⟩ := r.lst
      rw [strsOf_rp hb r2] at e2
      exact ⟨a, ss, e1, SqL.of e2, q⟩
    · exact q.elim
  | _ => exact q.elim
theorem de_lenSet (C : Cd X Ex) (hg : Gl X "len") (hm : X.mg "len" = none) (hg2 : Gl X "set") (hm2 : X.mg "set" = none) (ha : DB X S Ex a tb) (na : starEach [a] X.env = (false, eval a X.env) :: starEach [] X.env := by rfl) :
    DE X S Ex (.Call (.Name "len" p) [.Call (.Name "set" p2) [a] [] q] [] pos) (tLenSet tb) := by
  refine ⟨PE.imp (pe_lenSetT hg hm hg2 hm2 C.calm ha.pe na) (lift.one fun σ B ρ H Q G SO q => ?_), ⟨fun h he q => ha.mono.r (strsD.imp fun ss q => h _ q) he q⟩⟩
  refine ⟨B, ρ, G, SO, ha.mono.r (fun d hd v B1 H1 l r => ?_) (fun _ z => z) q⟩
  obtain ⟨b, ss, e1, e2, e3, q⟩ := At.strs r hd
  exact ⟨b, ss, e1, e2, by unfold scanBound; omega, q _ B1 H1 l (.int _)⟩
theorem df_sortedSet (C : Cd X Ex) (hg : Gl X "sorted") (hm : X.mg "sorted" = none) (hg2 : Gl X "set") (hm2 : X.mg "set" = none) (ha : DB X S Ex a tb) (na : starEach [a] X.env = (false, eval a X.env) :: starEach [] X.env := by rfl) :
    DF X S Ex (.Call (.Name "sorted" p) [.Call (.Name "set" p2) [a] [] q] [] pos) (tSortedSet tb) := by
  refine ⟨PE.imp (pe_sortedSetT hg hm hg2 hm2 C.calm ha.pe na) (lift.one fun σ B ρ H Q G SO q => ?_), ⟨fun h he q => ha.mono.r (strsD.imp fun ss q ys h1 h2 => h _ (q ys h1 h2)) he q⟩⟩
  refine ⟨B, ρ, G, SO, ha.mono.r (fun d hd v B1 H1 l r => ?_) (fun _ z => z) q⟩
  have G1 := l.good G
  obtain ⟨b, ss, e1, e2, e3, q⟩ := At.strs r hd
  have hd := ded_le ss ss.length
  rw [List.take_length] at hd
  have hs : sizeLine = 16777216 := rfl
  exact ⟨b, ss, e1, e2, by unfold scanBound; omega, by omega, fun ys d h1 h2 hp => q ys h1 h2 _ B1 _ (l.trans (Le.beside G1 hp)) ⟨d, rfl, l.old hp, G1.bnone hp, _, upd_same, by rw [List.length_map, h1.length_eq]; omega, rpA_strs ys⟩⟩
end
end DL

set_option Elab.async false
set_option linter.all false
set_option maxRecDepth 100000
set_option maxHeartbeats 2000000
/-! DL, part u: [::-1], list * int, slice store. -/
namespace DL
open PySem PySem.Spec PyProof.Rows L2
theorem adj_rev (n : Nat) : Builtin.Slice.sliceAdjust none none (-1) (n : Int) = ((n : Int) - 1, -1) := by
  simp [Builtin.Slice.sliceAdjust]
theorem places_rev (n : Nat) : Builtin.Slice.slicePlaces ((n : Int) - 1) (-1) (-1) = n := by
  simp [Builtin.Slice.slicePlaces] <;> omega
theorem fm_congr {α β : Type} {f g : α → Option β} : ∀ {l : List α}, (∀ x ∈ l, f x = g x) → l.filterMap f = l.filterMap g
  | [], _ => rfl
  | x :: l, h => by
    rw [List.filterMap_cons, List.filterMap_cons, h x (List.mem_cons_self ..), fm_congr fun y hy => h y (List.mem_cons_of_mem _ hy)]
theorem pick_rev (xs : Array Value) : ((List.range xs.size).filterMap fun (m : Nat) => xs[(((xs.size : Int) - 1) + (m : Int) * (-1)).toNat]?).toArray = xs.toList.reverse.toArray := by
  have e : ((List.range xs.size).filterMap fun (m : Nat) => xs[(((xs.size : Int) - 1) + (m : Int) * (-1)).toNat]?) = ((List.range xs.size).map fun k => xs.size - 1 - k).filterMap (xs[·]?) := by
    rw [List.filterMap_map]
    refine fm_congr fun m hm => ?_
    have := List.mem_range.mp hm
    show _ = xs[xs.size - 1 - m]?
    congr 1
    omega
  rw [e, ← PySem.W.krv_sliceRange]
  have h := PySem.W.krv_pick xs
  unfold slicePick at h
  rw [PySem.W.krv_bounds] at h
  exact h
section
variable {prog : Program} {w : World} {A : Around} {E : Value → Shared → Prop} {s : Shared}
theorem tup_rev {t sl : Addr} {items : Array Value} {vs : Value} {Q : Value → Shared → Prop} (ht : IsTup s.heap t items) (hs : s.heap.IsSliceOf sl .none .none vs) (ps : IsPart vs (some (-1))) (hz : items.size ≤ sizeLine)
    (h : Q (.ref s.heap.objs.size) { s with heap := s.heap.push { cls := .type "tuple", data := .seq items.toList.reverse.toArray } }) : wpAny (model prog w) A (getItem (.ref t) (.ref sl)) Q E s := by
  have fits : sizeOk (.seq items.toList.reverse.toArray) := by
    show items.toList.reverse.toArray.size ≤ sizeLine
    rw [List.size_toArray, List.length_reverse, Array.length_toList]; exact hz
  obtain ⟨os, hos, hcs, hds⟩ := id hs
  have ty : s.TypeIs (.ref sl) "slice" := ⟨os, hos, hcs⟩
  unfold getItem
  try with_reducible refine wpAny_holding ?_
  first | refine wpAny_bind (wpAny_pure ?_) | skip
  refine wpAny_bind (wpAny_sequenceKey ht.typeIs (by decide) (wpAny_bind (wpAny_callSpecial?_slot (name := Str.ofString "__getitem__") ht.typeIs PyProof.Rows.slot_tuple_getitem
    (wpAny_call_entry PyProof.Rows.slot_tuple_getitem ht.typeIs entry_tuple_getitem ?_ (args_tuple_getitem _ _)))))
  show wpAny _ _ (Builtin.Tuple.tupleItemsOf (.ref t) >>= _) _ _ s
  refine wpAny_bind (tupleItemsOf_ ht (wpAny_bind (wpAny_typeOf ty ?_)))
  rw [if_pos (by decide)]
  refine wpAny_bind ?_
  unfold Builtin.Slice.sliceApplied Builtin.Slice.sliceFields
  refine wpAny_bind (wpAny_bind (wpAny_field hos hds (x := .none) rfl (wpAny_bind (wpAny_field hos hds (x := .none) rfl (wpAny_bind (wpAny_field hos hds (x := vs) rfl (wpAny_pure ?_)))))))
  refine wpAny_bind (HT.slicePart_ ps ?_)
  show wpAny _ _ (if ((-1 : Int) == 0) = true then _ else _) _ _ s
  rw [if_neg (by decide)]
  refine wpAny_bind (HT.slicePart_ .none (wpAny_bind (HT.slicePart_ .none (wpAny_bind (wpAny_pure ?_)))))
  show wpAny _ _ (match Builtin.Slice.sliceAdjust none none (-1) (items.size : Int) with | (lo, hi) => pure (lo, (-1 : Int), Builtin.Slice.slicePlaces lo hi (-1))) _ _ s
  rw [adj_rev]
  show wpAny _ _ (pure (((items.size : Int) - 1), (-1 : Int), Builtin.Slice.slicePlaces ((items.size : Int) - 1) (-1) (-1))) _ _ s
  rw [places_rev]
  refine wpAny_pure ?_
  have hno : ¬ ((((items.size : Int) - 1) == 0 && (-1 : Int) == 1 && items.size == items.size) = true) := by simp
  show wpAny _ _ (if (((items.size : Int) - 1) == 0 && (-1 : Int) == 1 && items.size == items.size) = true then _ else _) _ _ s
  rw [if_neg hno, pick_rev]
  first
    | exact wpAny_bind (m := Builtin.Tuple.tupleExact _) (wpAny_newObj_type (wpAny_pure ⟨_, rfl, wpAny_pure h⟩) fits)
    | exact wpAny_bind (wpAny_bind (m := Builtin.Tuple.tupleExact _) (wpAny_newObj_type (wpAny_pure ⟨_, rfl, wpAny_pure h⟩) fits))
    | exact wpAny_bind (wpAny_bind (m := Builtin.Tuple.tupleExact _) (wpAny_newObj_type (wpAny_pure (wpAny_pure ⟨_, rfl, wpAny_pure h⟩)) fits))
end
section
variable {X : Cx} {S : List Addr} {Ex : L2.St → XK} {W : WX} {e a b : Expr} {te ta tb : T}
def tRevV (K : PySem.W.Frag) (te : TE) : TE := fun σ H Q => te σ H fun x H1 => (∃ a xs, x = .ref a ∧ SqL K H1 a xs ∧ ∀ p, H1 p = none → Q (.ref p) (upd H1 p (.lst xs.reverse))) ∨
  ∃ a xs, x = .ref a ∧ SqT K H1 a xs ∧ ∀ p, H1 p = none → Q (.ref p) (upd H1 p (.tup xs.reverse))
theorem pe_revV {e : Expr} {te : TE} {k : Nat} {p1 p2 p3 pos : Pos} (he : PE X e te) : PE X (.Subscript e (.Slice none none (some (.UnaryOp .USub (.Constant (.int 1) k p1) p2)) p3) pos) (tRevV X.K te) := by
  refine ⟨fun pins s σ H Q I h => ?_⟩
  refine Subscript_ (thn (he.run pins s σ H _ I h) fun v s1 ⟨x, H1, I1, r1, q1⟩ => ?_)
  have neg1 : PO X (some (.UnaryOp .USub (.Constant (.int 1) k p1) p2)) (tPart (tUn (rU fun i => .int (-i)) (tC (.int 1)))) := po_some (pe_un un_neg pe_int)
  refine wpAny_Slice (thn (po_none.run pins s1 σ H1 (fun o H2 => o = none ∧ H2 = H1) I1 ⟨rfl, rfl⟩) fun vl s2 ⟨l, H2, I2, pl, el, e2⟩ => thn (po_none.run pins s2 σ H2 (fun o H3 => o = none ∧ H3 = H2) I2 ⟨rfl, rfl⟩) fun vu s3 ⟨u, H3, I3, pu, eu, e3⟩ =>
    thn (neg1.run pins s3 σ H3 (fun o H4 => o = some (-1) ∧ H4 = H3) I3 ⟨1, rfl, -1, rfl, rfl, rfl⟩) fun vs s4 ⟨o, H4, I4, ps, eo, e4⟩ => ?_)
  subst el e2 eu e3 eo e4
  cases pl; cases pu
  have I5 : Inv X pins σ H4 { s4 with heap := s4.heap.push { cls := .type "slice", data := .fields #[.none, .none, vs] } } := I4.kept (t' := s4.toks) fun b ob q => Heap.get?_push_of_some _ q
  have sl := Heap.IsSliceOf.new s4.heap .none .none vs
  rcases q1 with ⟨a, xs, ex, hx, q⟩ | ⟨a, xs, ex, hx, q⟩
  · subst ex
    cases r1
    obtain ⟨its, r, ht, hz⟩ := I5.list hx
    have hl := r.length
    show wpAny (model X.prog X.w) X.A (subscriptTail e (.Slice none none (some (.UnaryOp .USub (.Constant (.int 1) k p1) p2)) p3) (.ref a) (.ref s4.heap.objs.size)) (EP X pins σ Q) X.xe _
    refine tail_any (ops := [.ref a, .ref s4.heap.objs.size]) ht.isList.typeIs (PySem.slot_list_getitem.lookup) (wpAny_getItem_list_slice ht.isList sl .none .none ps (by decide) ?_ (by rw [List.size_toArray]; omega)) (by with_unfolding_all rfl)
    rw [PySem.W.krv_pick]
    exact ⟨.ref _, _, I5.laid (t' := s4.toks) (o := .lst xs.reverse) (fun b ob q => Heap.get?_push_of_some _ q) (Nat.le_refl _) ⟨by rw [List.length_reverse]; exact hz, _, 0, r.reverse, Heap.get?_push_size _ rfl⟩, rfl, q _ (I5.hok.fresh (Nat.le_refl _))⟩
  · subst ex
    cases r1
    obtain ⟨its, r, ht, hz⟩ := I5.tuple hx
    have hl := r.length
    show wpAny (model X.prog X.w) X.A (subscriptTail e (.Slice none none (some (.UnaryOp .USub (.Constant (.int 1) k p1) p2)) p3) (.ref a) (.ref s4.heap.objs.size)) (EP X pins σ Q) X.xe _
    refine tail_any (ops := [.ref a, .ref s4.heap.objs.size]) ht.typeIs (PyProof.Rows.slot_tuple_getitem.lookup) (tup_rev ht sl ps (by rw [List.size_toArray]; omega) ?_) (by with_unfolding_all rfl)
    exact ⟨.ref _, _, I5.laid (t' := s4.toks) (o := .tup xs.reverse) (fun b ob q => Heap.get?_push_of_some _ q) (Nat.le_refl _) ⟨by rw [List.length_reverse]; exact hz, _, r.reverse, IsTup.new _ _⟩, rfl, q _ (I5.hok.fresh (Nat.le_refl _))⟩
@[simp] def revD (Q : D → Prop) : D → Prop
  | .lst xs => Q (.lst xs.reverse)
  | .tup xs => Q (.tup xs.reverse)
  | _ => False
theorem revD.imp {Q Q' : D → Prop} (h : ∀ d, Q d → Q' d) : ∀ d, revD Q d → revD Q' d := fun d q => by cases d <;> first | exact h _ q | exact q.elim
@[simp] def tRevD (ta : T) : T := fun ρ Q E => ta ρ (revD Q) E
theorem RpA.rev {K : PySem.W.Frag} {B : Hp} : ∀ {vs : List V} {ds : List D}, RpA K B vs ds → RpA K B vs.reverse ds.reverse
  | _, _, .nil => .nil
  | _, _, .cons h t => by
    rw [List.reverse_cons, List.reverse_cons]
    exact RpA.append (RpA.rev t) (.cons h .nil)
theorem de_rev {k : Nat} {p1 p2 p3 pos : Pos} (ha : DB X S Ex a ta) : DE X S Ex (.Subscript a (.Slice none none (some (.UnaryOp .USub (.Constant (.int 1) k p1) p2)) p3) pos) (tRevD ta) := by
  refine ⟨PE.imp (pe_revV ha.pe) (lift.one fun σ B ρ H Q G SO q => ?_), ⟨fun h he q => ha.mono.r (revD.imp h) he q⟩⟩
  refine ⟨B, ρ, G, SO, ha.mono.r (fun x hx v B1 H1 l r => ?_) (fun _ z => z) q⟩
  have G1 := l.good G
  have r1 : At X.K S B1 H1 v x := r
  have kp : ∀ {p o}, H1 p = none → Keep B1 (upd B1 p o) := fun hp b u z => by rw [upd_ne (ne_of_none z (G1.bnone hp))]; exact z
  cases x with
  | lst xs =>
    obtain ⟨a, vs, e, ⟨e1, e2, e3⟩, r2⟩ := r1
    exact .inl ⟨a, vs, e, SqL.of e1, fun p hp => hx _ _ _ (l.trans (Le.laid G1 hp)) (.lst upd_same (by rw [List.length_reverse]; exact e3) (r2.rev.mono (kp hp)))⟩
  | tup xs =>
    have r1 : Rp X.K B1 v (.tup xs) := r1
    cases r1 with
    | tup hb hlen r2 => exact .inr ⟨_, _, rfl, G1.sub.sqT hb, fun p hp => hx _ _ _ (l.trans (Le.laid G1 hp)) (.tup (.inl upd_same) (by rw [List.length_reverse]; exact hlen) (r2.rev.mono (kp hp)))⟩
  | _ => exact hx.elim
/-! ### list * int -/
def repD : D → D → (D → Prop) → Prop
  | .lst xs, .int k, Q => (0 ≤ k ∧ k ≤ 1000 ∧ xs.length ≤ 1000) ∧ Q (.lst (List.replicate k.toNat xs).flatten)
  | _, _, _ => False
theorem repD.mono : MonoR repD := ⟨fun {x y Q Q'} h q => by cases x <;> cases y <;> first | exact q.elim | exact ⟨q.1, h _ q.2⟩⟩
theorem RpA.rep {K : PySem.W.Frag} {B : Hp} {vs : List V} {ds : List D} (r : RpA K B vs ds) : ∀ n : Nat, RpA K B (List.replicate n vs).flatten (List.replicate n ds).flatten
  | 0 => .nil
  | n + 1 => by
    rw [List.replicate_succ, List.replicate_succ, List.flatten_cons, List.flatten_cons]
    exact r.append (RpA.rep r n)
theorem opd_rep : OpD X S (binaryOp .Mult) repD := OpR.imp op_rep fun x y H Q h => by
  obtain ⟨B, dx, dy, G, hx, hy, q⟩ := h
  cases dx with
  | lst xs =>
    cases dy with
    | int k =>
      cases hy
      obtain ⟨a, vs, e, ⟨e1, e2, e3⟩, r2⟩ := hx
      have hl := r2.length
      obtain ⟨⟨k0, k1, xl⟩, q⟩ := q
      have hs : sizeLine = 16777216 := rfl
      have h1 : vs.length * k.toNat ≤ 1000 * 1000 := Nat.mul_le_mul (by omega) (by omega)
      have len : (List.replicate k.toNat vs).flatten.length ≤ sizeLine := by
        simp only [List.length_flatten, List.map_replicate, List.sum_replicate_nat]
        rw [Nat.mul_comm]; omega
      refine ⟨a, k, vs, e, rfl, e1, by omega, by omega, by omega, fun p hp => q _ _ _ (Le.laid G hp) (.lst upd_same len ((r2.rep _).mono fun b u z => by rw [upd_ne (ne_of_none z (G.bnone hp))]; exact z))⟩
    | _ => exact q.elim
  | _ => exact q.elim
end
end DL

set_option Elab.async false
set_option linter.all false
set_option maxRecDepth 100000
set_option maxHeartbeats 2000000
/-! DL, part v: x[a:c] = a list, the end may lie beyond. -/
namespace DL
open PySem PySem.Spec PyProof.Rows L2
theorem cut_bounds {a c n : Nat} (h : a ≤ min c n) : sliceBounds (some (a : Int)) (some (c : Int)) none n = ((a : Int), ((min c n : Nat) : Int), 1) := by
  have h1 : ¬ ((a : Int) < 0) := by omega
  have h2 : ¬ ((c : Int) < 0) := by omega
  simp only [sliceBounds, Option.getD_none, h1, h2, if_false, show (1 : Int) > 0 by decide, if_true]
  refine Prod.ext ?_ (Prod.ext ?_ rfl)
  · show max 0 (min (a : Int) (n : Int)) = a; omega
  · show max 0 (min (c : Int) (n : Int)) = ((min c n : Nat) : Int); omega
section
variable {prog : Program} {w : World} {A : Around} {E : Value → Shared → Prop} {s : Shared}
theorem store_slice {l b sl : Addr} {items new : Array Value} {n n2 : Nat} {vl vu : Value} {a c d : Nat} {Q : Unit → Shared → Prop} (e : s.heap.get? l = some { cls := .type "list", data := .seq items n }) (e2 : s.heap.get? b = some { cls := .type "list", data := .seq new n2 })
    (hne : l ≠ b) (hs : s.heap.IsSliceOf sl vl vu .none) (pl : IsPart vl (some (a : Int))) (pu : IsPart vu (some (c : Int))) (hd : d = min c items.size) (had : a ≤ d) (hsz : items.size + new.size ≤ sizeLine)
    (h : Q () { s with heap := s.heap.update l (Obj.mapSeq fun xs => xs.extract 0 a ++ new ++ xs.extract d xs.size) }) : wpAny (model prog w) A (setItem (.ref l) (.ref sl) (.ref b)) Q E s := by
  have tl : s.heap.IsList l items := PySem.IsL.isList e; have tb : s.heap.IsList b new := PySem.IsL.isList e2
  obtain ⟨os, hos, hcs, hds⟩ := id hs
  have ts : s.TypeIs (.ref sl) "slice" := ⟨os, hos, hcs⟩
  have ns : ¬ ((rawPart none == rawInt 0) = true) := Bool.false_ne_true
  have two : Builtin.List.listSameRef (.ref l) (.ref b) = false := beq_eq_false_iff_ne.mpr hne
  have mx : (max (a : Int) (d : Int)).toNat = d := by omega
  have fits : ((fun xs : Array Value => xs.extract 0 a ++ new ++ xs.extract d xs.size) items).size ≤ sizeLine + 1 := by simp only [Array.size_append, Array.size_extract]; omega
  have bd := cut_bounds (a := a) (c := c) (n := items.size) (by omega)
  rw [← hd] at bd
  unfold setItem
  try with_reducible refine wpAny_holding ?_
  first | refine wpAny_bind (wpAny_pure ?_) | skip
  refine wpAny_bind (wpAny_sequenceKey tl.typeIs (by decide) (wpAny_bind (wpAny_callSpecial?_slot (name := Str.ofString "__setitem__") tl.typeIs slot_list_setitem
    (wpAny_call_entry slot_list_setitem tl.typeIs entry_list_setitem ?_ (args_list_setitem _ _ _)))))
  show wpAny _ _ (Builtin.List.listSubscript? (.ref sl) >>= _) _ _ s
  refine wpAny_bind ?_
  unfold Builtin.List.listSubscript?
  refine wpAny_bind (wpAny_specialOf ts slice_no_index ?_)
  simp only [Option.isNone_none, if_true]
  refine wpAny_pure ?_
  show wpAny _ _ (typeOf (.ref sl) >>= _) _ _ s
  refine wpAny_bind (wpAny_typeOf ts ?_)
  first | rw [if_neg (by decide)] | refine PySem.W.KFB.if_not (by decide) ?_
  rw [listSliceParts_eq]
  refine wpAny_bind (wpAny_bind (wpAny_field hos hds (x := .none) rfl (wpAny_bind (wpAny_listPart .none ?_))))
  rw [if_neg ns]
  refine wpAny_bind (wpAny_field hos hds (x := vl) rfl (wpAny_bind (wpAny_listPart pl (wpAny_bind (wpAny_field hos hds (x := vu) rfl (wpAny_bind (wpAny_listPart pu (wpAny_pure ?_))))))))
  first | simp only [two, Bool.false_eq_true, if_false] | refine PySem.W.KFB.if_not two ?_ | (dsimp only; rw [if_neg (by rw [two]; exact Bool.false_ne_true)])
  refine wpAny_bind (m := Builtin.List.listAllItems (.ref b) "must assign iterable to extended slice") ?_
  unfold Builtin.List.listAllItems
  refine wpAny_bind (wpAny_typeOf tb.typeIs ?_)
  first | refine PySem.W.KFB.if_so (by decide) ?_ | rw [if_pos (by decide)] | simp only [beq_self_eq_true, Bool.true_or, if_true]
  unfold Builtin.List.listItems
  refine wpAny_bind (wpAny_seqItems e2 rfl (wpAny_pure (wpAny_bind (wpAny_bind (wpAny_seqItems e rfl (wpAny_pure ?_))))))
  refine wpAny_bind (wpAny_of_eq ((sliceIndices_raw (some (a : Int)) (some (c : Int)) none items.size (by simp)).trans (congrArg (pure : Int × Int × Int → Sem (Int × Int × Int)) bd)) ?_)
  show wpAny _ _ (if ((1 : Int) == 1) = true then _ else _) _ _ s
  rw [if_pos (by decide)]
  refine wpAny_bind (wpAny_rule ?_)
  first | simp only [notLongL hsz, Bool.false_eq_true, if_false] | refine PySem.W.KFB.if_not (notLongL hsz) ?_
  first | refine wpAny_bind (wpAny_pure ?_) | skip
  show wpAny _ _ (updateSeq l (fun xs => xs.extract 0 ((a : Int)).toNat ++ new ++ xs.extract (max (a : Int) (d : Int)).toNat xs.size) >>= _) _ _ s
  rw [mx, Int.toNat_natCast]
  refine wpAny_bind (wpAny_updateSeq (hz := Nat.le_trans (Nat.le_add_right _ _) hsz) (_hz' := fits) e rfl (wpAny_bind (wpAny_letGo ?_)))
  first | exact wpAny_bind (wpAny_pure (wpAny_pure ⟨.none, rfl, wpAny_pure h⟩)) | exact wpAny_pure ⟨.none, rfl, wpAny_pure h⟩
end
section
variable {X : Cx} {S : List Addr} {Ex : L2.St → XK} {W : WX} {e : Expr} {te : T} {pos p p2 : Pos} {x : Str}
def gSl (i : Nat) (tl th : TO) : TG := fun v σ H Q => ∃ l, σ[i]? = some (some (.ref l)) ∧ tl σ H fun lo H1 => th σ H1 fun hi H2 => ∃ b xs ys, ∃ a c : Nat, v = .ref b ∧ lo = some (a : Int) ∧ hi = some (c : Int) ∧ H2 l = some (.lst xs) ∧ H2 b = some (.lst ys) ∧ l ≠ b ∧
  a ≤ min c xs.length ∧ xs.length + ys.length ≤ sizeLine ∧ Q σ (upd H2 l (.lst (xs.take a ++ ys ++ xs.drop (min c xs.length))))
theorem pg_slice (i : Nat) {px : Pos} {lo hi : Option Expr} {tl th : TO} (hl : PO X lo tl) (hh : PO X hi th) (hN : X.N[i]? = some x) (hv : Vis X.env.scope x) (hd : (x == ("__debug__" : Str)) = false) (hcd : (x == ("__classdict__" : Str)) = false)
    (ha : ∀ v, assign (.Subscript (.Name x px) (.Slice lo hi none p2) p) X.env v = (do
      let ov ← holding [v] (eval (.Name x px) X.env)
      let iv ← holding [v, ov] (eval (.Slice lo hi none p2) X.env)
      standAt p
      holding [v, ov, iv] (setItem ov iv v)
      release [iv, v, ov] []) := by intro _; rfl) : PG X (.Subscript (.Name x px) (.Slice lo hi none p2) p) (gSl i tl th) := by
  refine ⟨fun pins s σ H v u Q I r h => ?_⟩
  obtain ⟨l, g1, h⟩ := h
  rw [ha]
  refine wpAny_bind (wpAny_holding (thn ((pv (pos := px) i hN hv hd hcd).run pins s σ H (fun o H1 => o = .ref l ∧ H1 = H) I ⟨_, g1, rfl, rfl⟩) fun ov s1 ⟨o, H1, I1, r1, eo, eH⟩ => ?_))
  subst eo eH
  cases r1
  refine wpAny_bind (wpAny_holding (wpAny_Slice (thn (hl.run pins s1 σ H1 _ I1 h) fun vl s2 ⟨lo', H2, I2, pl, q2⟩ => thn (hh.run pins s2 σ H2 _ I2 q2) fun vu s3 ⟨hi', H3, I3, pu, q3⟩ => ?_)))
  rw [evalPart_none]
  refine wpAny_pure (wpAny_bind (wpAny_standAt (wpAny_bind (wpAny_holding ?_))))
  obtain ⟨b, xs, ys, a, c, rfl, rfl, rfl, k1, k2, ne, hac, hsz, q⟩ := q3
  have I4 : Inv X pins σ H3 { s3 with heap := s3.heap.push { cls := .type "slice", data := .fields #[vl, vu, .none] } } := I3.kept (t' := s3.toks) fun b ob q => Heap.get?_push_of_some _ q
  cases r
  obtain ⟨z, its, n, rr, hl', e1⟩ := I4.lstM k1
  obtain ⟨z2, its2, n2, rr2, hl2, e2⟩ := I4.lstM k2
  refine store_slice (d := min c xs.length) e1 e2 ne (Heap.IsSliceOf.new ..) pl pu (by rw [List.size_toArray, hl']) hac (by rw [List.size_toArray, List.size_toArray]; omega) (wpAny_release ⟨σ, _, ?_, q⟩)
  refine I4.lset (its' := its.take a ++ its2 ++ its.drop (min c xs.length)) (t' := s3.toks) k1 e1 ?_ (Vals.append (Vals.append (rr.take _) rr2) (rr.drop _)) ?_
  · exact splice_eq its its2 a (min c xs.length)
  · rw [List.length_append, List.length_append, List.length_take, List.length_drop]; omega
def spl (ds : List D) (d : D) (a c : Int) (Q : List D → Prop) : Prop := match d with
  | .lst ys => (0 ≤ a ∧ 0 ≤ c ∧ a.toNat ≤ min c.toNat ds.length ∧ ds.length + ys.length ≤ sizeLine) ∧ Q (ds.take a.toNat ++ ys ++ ds.drop (min c.toNat ds.length))
  | _ => False
theorem spl.imp {ds : List D} {d : D} {a c : Int} {Q Q' : List D → Prop} (h : ∀ ds, Q ds → Q' ds) (q : spl ds d a c Q) : spl ds d a c Q' := by
  unfold spl at *
  split at q
  · exact ⟨q.1, h _ q.2⟩
  · exact q.elim
@[simp] def soI (Q : Int → Prop) : Option Int → Prop
  | some a => Q a
  | none => False
theorem soI.imp {Q Q' : Int → Prop} (h : ∀ d, Q d → Q' d) : ∀ o, soI Q o → soI Q' o := fun o q => by cases o <;> first | exact h _ q | exact q.elim
@[simp] def sSetSl (i : Nat) (te : T) (tl th : TOd) : TSd := fun D ρ => ownL i ρ fun _ => te ρ (fun d => tl ρ (soI fun a => th ρ (soI fun c => ownL i ρ fun ds => spl ds d a c fun ds' => D.nx (putL i ρ ds')) fun x => D.ex x ρ) fun x => D.ex x ρ) fun x => D.ex x ρ
theorem ds_setSl (i : Nat) {px : Pos} {lo hi : Option Expr} {tl th : TOd} (he : DE X S (WE W) e te) (hl : DO X S (WE W) lo tl) (hh : DO X S (WE W) hi th)
    (hN : X.N[i]? = some x := by rfl) (hv : Vis X.env.scope x := by first | exact Or.inl rfl | exact Or.inr (Or.inl rfl) | exact Or.inr (Or.inr rfl)) (hd : (x == ("__debug__" : Str)) = false := by decide) (hcd : (x == ("__classdict__" : Str)) = false := by decide)
    (ha : ∀ v, assign (.Subscript (.Name x px) (.Slice lo hi none p2) p) X.env v = (do
      let ov ← holding [v] (eval (.Name x px) X.env)
      let iv ← holding [v, ov] (eval (.Slice lo hi none p2) X.env)
      standAt p
      holding [v, ov, iv] (setItem ov iv v)
      release [iv, v, ov] []) := by intro _; rfl)
    (hs : swapsWithSole [.Subscript (.Name x px) (.Slice lo hi none p2) p] e pos.line X.env = pure false := by rfl) (hw : swappedStores [.Subscript (.Name x px) (.Slice lo hi none p2) p] e X.env = pure none := by rfl)
    (h1 : (assignEach [.Subscript (.Name x px) (.Slice lo hi none p2) p] X.env).map (·.2) = [assign (.Subscript (.Name x px) (.Slice lo hi none p2) p) X.env] := by rfl) : DS X S W (.Assign [.Subscript (.Name x px) (.Slice lo hi none p2) p] e pos) (sSetSl i te tl th) := by
  refine ⟨PS.imp (ps_asg he.pe (pg_slice i hl.po hh.po hN hv hd hcd ha) hs hw h1) fun De σ H ⟨B0, H0, Bk, B, ρ, E, q⟩ => ?_,
    ⟨fun {D D' ρ} h1 h2 h3 h4 h5 q => ownL.imp (fun _ q => he.mono.r (fun d q => hl.mono.r (fun a q => soI.imp (fun a q => hh.mono.r (fun c q => soI.imp (fun c q => ownL.imp (fun ds q => spl.imp (fun ds q => h1 _ q) q) q) _ q) (fun x q => h5 _ _ q) q) _ q) (fun x q => h5 _ _ q) q) (fun x q => h5 _ _ q) q) q⟩⟩
  have q : ownL i ρ fun _ => te ρ (fun d => tl ρ (soI fun a => th ρ (soI fun c => ownL i ρ fun ds => spl ds d a c fun ds' => (ends X.K S W B0 H0 Bk De).nx (putL i ρ ds')) fun x => (ends X.K S W B0 H0 Bk De).ex x ρ) fun x => (ends X.K S W B0 H0 Bk De).ex x ρ) fun x => (ends X.K S W B0 H0 Bk De).ex x ρ := q
  obtain ⟨ds, hi0, q⟩ := q.is
  obtain ⟨l0, vs, g1, g2, g3, g4⟩ := E.ownL hi0
  refine ⟨B, ρ, E.1, E.2.1, he.mono.r (fun d hd v B1 H1 l r => ?_) (fun x q => ex_of E x q) q⟩
  have E1 := E.le l
  refine ⟨l0, g1, B1, ρ, E1.1, E1.2.1, hl.mono.r (fun lo' hlo B2 H2 l2 => ?_) (fun x q => ex_of E1 x q) hd⟩
  have E2 := E1.le l2
  cases lo' with
  | none => exact hlo.elim
  | some a =>
    have hlo : th ρ (soI fun c => ownL i ρ fun ds => spl ds d a c fun ds' => (ends X.K S W B0 H0 Bk De).nx (putL i ρ ds')) (fun x => (ends X.K S W B0 H0 Bk De).ex x ρ) := hlo
    refine ⟨B2, ρ, E2.1, E2.2.1, hh.mono.r (fun hi' hhi B3 H3 l3 => ?_) (fun x q => ex_of E2 x q) hlo⟩
    have E3 := E2.le l3
    cases hi' with
    | none => exact hhi.elim
    | some c =>
      obtain ⟨ds2, hi2, hq⟩ := ownL.is (show ownL i ρ _ from hhi)
      rw [hi0] at hi2
      cases hi2
      obtain ⟨l', ws, k1, k2, k3, k4⟩ := E3.ownL hi0
      rw [g1] at k1
      cases k1
      have r3 : Rp X.K B3 v d := Rp.mono (l2.base.trans l3.base) r
      unfold spl at hq
      split at hq
      · rename_i ys
        obtain ⟨⟨a0, c0, hac, hsz⟩, hq⟩ := hq
        cases r3 with
        | @lst b us _ hb hlen r4 =>
          obtain ⟨a, rfl⟩ := Int.eq_ofNat_of_zero_le a0
          obtain ⟨c, rfl⟩ := Int.eq_ofNat_of_zero_le c0
          simp only [Int.toNat_natCast] at hac hq
          have wl := k4.length
          have ul := r4.length
          have ne : l0 ≠ b := fun z => by
            subst z
            obtain ⟨v, z1, l', z2, z3, _⟩ := E3.2.1.at_ i _ hi0
            rw [g1] at z1; cases z1; cases z2
            rw [hb] at z3; cases z3
          refine ⟨b, ws, us, a, c, rfl, rfl, rfl, k2, (E3.1.sub _ _ hb).lst, ne, by rw [wl]; exact hac, by rw [wl, ul]; exact hsz, ?_⟩
          have rr := ((k4.take a).append r4).append (k4.drop (min c ws.length))
          rw [← wl] at hq
          refine hq B3 σ _ (E3.poke hi0 g1 ⟨_, upd_same, ?_, rr⟩)
          rw [List.length_append, List.length_append, List.length_take, List.length_drop]; omega
      · exact hq.elim
end
end DL

set_option Elab.async false
set_option linter.all false
set_option maxRecDepth 100000
set_option maxHeartbeats 2000000
/-! DL, part w: the script. -/
namespace DL
open PySem PySem.Spec PyProof.Rows L2
section
variable {X : Cx} {S : List Addr} {Ex : L2.St → XK} {W : WX} {e a b k : Expr} {te ta tk : T} {pos p p2 : Pos} {x : Str}
theorem KLs.sq {K : PySem.W.Frag} {B H : Hp} {a : Addr} {ns : List Int} (s : Sub B H) (h : KLs K B a ns) : SqL K H a (ns.map V.int) := by
  rcases h with ⟨o, h⟩ | h
  · rcases s _ _ h with q | ⟨ob, kvs, e, _⟩
    · exact .inl (.inr ⟨o, q⟩)
    · cases e
  · exact .inr h
def isScr (i : Nat) (ρ : DEnv) (Q : Addr → List Int → Prop) : Prop := ∃ a ns, ρ[i]? = some (some (.p (scrD a ns))) ∧ Q a ns
theorem slot_scr {K : PySem.W.Frag} {B H : Hp} {σ : L2.St} {ρ : DEnv} {i : Nat} {a : Addr} {ns : List Int} (G : Good S B H) (SO : SlotsOk K S B H σ ρ) (h : ρ[i]? = some (some (.p (scrD a ns)))) : σ[i]? = some (some (.ref a)) ∧ SqL K H a (ns.map V.int) := by
  obtain ⟨v, h1, h2⟩ := SO.at_ i _ h
  have h2 : Rp K B v (scrD a ns) := h2
  generalize hd : scrD a ns = d at h2
  cases h2 with
  | scr hk =>
    rename_i a' ns'
    simp only [scrD, D.obj.injEq, List.cons.injEq, Prod.mk.injEq, D.lst.injEq, and_true, true_and] at hd
    obtain ⟨rfl, hn⟩ := hd
    have : ns = ns' := by
      have h := List.map_inj_right (f := D.int) (fun x y e => by cases e; rfl) |>.mp hn
      exact h
    subst this
    exact ⟨h1, hk.sq G.sub⟩
  | obj h0 _ _ _ =>
    simp only [scrD, D.obj.injEq] at hd
    exact absurd hd.2.1.symm h0
  | _ => cases hd
@[simp] def tLenScr (i : Nat) : T := fun ρ Q _ => isScr i ρ fun _ ns => ns.length ≤ sizeLine ∧ Q (.int ns.length)
theorem de_lenScr (i : Nat) {px : Pos} (hg : Gl X "len") (hm : X.mg "len" = none)
    (hN : X.N[i]? = some x := by rfl) (hv : Vis X.env.scope x := by first | exact Or.inl rfl | exact Or.inr (Or.inl rfl) | exact Or.inr (Or.inr rfl)) (hd : (x == ("__debug__" : Str)) = false := by decide) (hcd : (x == ("__classdict__" : Str)) = false := by decide)
    (he : starEach [.Name x px] X.env = (false, eval (.Name x px) X.env) :: starEach [] X.env := by rfl) (hpl : (backTo pos (starEach [] X.env)).any (·.1) = false := by rfl) : DE X S Ex (.Call (.Name "len" p) [.Name x px] [] pos) (tLenScr i) := by
  refine ⟨PE.imp (pe_callB call_len hg hm boot_len (pa_cons (pv i hN hv hd hcd) pa_nil he) (by decide) (by decide) he hpl) (lift.one fun σ B ρ H Q G SO q => ?_), ⟨fun h _ ⟨a, ns, e, l, q⟩ => ⟨a, ns, e, l, h _ q⟩⟩⟩
  obtain ⟨a, ns, hi, hl, q⟩ := q
  obtain ⟨h1, h2⟩ := slot_scr G SO hi
  refine ⟨_, h1, V.ref a, (ns.map V.int).length, rfl, .inl ⟨_, h2, rfl⟩, ?_⟩
  rw [List.length_map]
  exact q _ B H G.le (.int _)
@[simp] def ixS (ns : List Int) (Q : D → Prop) : D → Prop
  | .int j => match atI ns j with
    | some n => Q (.int n)
    | none => False
  | _ => False
theorem ixS.imp {ns : List Int} {Q Q' : D → Prop} (h : ∀ d, Q d → Q' d) : ∀ d, ixS ns Q d → ixS ns Q' d := fun d q => by
  cases d <;> first | exact q.elim | skip
  unfold ixS at *
  simp only at *
  split at q
  · exact h _ q
  · exact q.elim
@[simp] def tIxScr (i : Nat) (tk : T) : T := fun ρ Q E => isScr i ρ fun _ ns => tk ρ (ixS ns Q) E
theorem de_ixScr (i : Nat) {px : Pos} (hk : DE X S Ex k tk) (hs : PlainIx k)
    (hN : X.N[i]? = some x := by rfl) (hv : Vis X.env.scope x := by first | exact Or.inl rfl | exact Or.inr (Or.inl rfl) | exact Or.inr (Or.inr rfl)) (hd : (x == ("__debug__" : Str)) = false := by decide) (hcd : (x == ("__classdict__" : Str)) = false := by decide) :
    DE X S Ex (.Subscript (.Name x px) k p) (tIxScr i tk) := by
  refine ⟨PE.imp (pe_ix ix_list (pv i hN hv hd hcd) hk.pe hs) (lift.one fun σ B ρ H Q G SO q => ?_), ⟨fun h he ⟨a, ns, e, q⟩ => ⟨a, ns, e, hk.mono.r (fun d q => ixS.imp h d q) he q⟩⟩⟩
  obtain ⟨a, ns, hi, q⟩ := q
  obtain ⟨h1, h2⟩ := slot_scr G SO hi
  refine ⟨_, h1, B, ρ, G, SO, hk.mono.r (fun d hd v B1 H1 l r => ?_) (fun _ z => z) q⟩
  have s2 := (slot_scr (l.good G) (SO.le l) hi).2
  cases d with
  | int j =>
    have r : Rp X.K B1 v (.int j) := r
    cases r
    have hd : ixS ns _ (.int j) := hd
    unfold ixS at hd
    simp only at hd
    split at hd
    · rename_i n hn
      refine ⟨a, _, j, .int n, rfl, rfl, s2, ?_, hd _ B1 H1 l (.int _)⟩
      unfold atI at hn ⊢
      rw [List.length_map]
      cases hx : ixN ns.length j with
      | none => rw [hx] at hn; cases hn
      | some m =>
        rw [hx] at hn
        show (ns.map V.int)[m]? = _
        have hn : ns[m]? = some n := hn
        rw [List.getElem?_map, hn]; rfl
    · exact hd.elim
  | _ => exact hd.elim
end
end DL

set_option Elab.async false
set_option linter.all false
set_option maxRecDepth 100000
set_option maxHeartbeats 1000000
/-! DL, part x: a, *b = e; is of bools; * of tuples. -/
namespace DL
open PySem PySem.Spec PySem.W PyProof.Rows L2
section
variable {prog : Program} {w : World} {A : Around} {E : Value → Shared → Prop} {s : Shared}
theorem star_draw {it l : Addr} {items : Array Value} {i : Nat} {T : String} {St : Nat → Heap → Prop} {Q : List Value → Shared → Prop} (first : List Value) {n : Nat} (hn : n = i + 1) (hf : first.length = i)
    (hTm : T = "str_ascii_iterator" ∨ T = "str_iterator" ∨ T = "list_iterator" ∨ T = "tuple_iterator") (Wk : Walks prog w A.in1 it [it, l] [it] items.size (fun i v => items[i]? = some v) St)
    (hT : ∀ i (u : Shared), St i u.heap → u.TypeIs (.ref it) T) (hk : i ≤ items.size) (hst : St i s.heap) (hI : it < s.heap.objs.size) (hax : l < s.heap.objs.size) (hz : items.size ≤ sizeLine)
    (hQ : ∀ (h' : Heap) (tk : Tok), (∀ b o, b ≠ it → s.heap.get? b = some o → h'.get? b = some o) → Q (first ++ [.ref h'.objs.size]) { s with heap := h'.push { cls := .type "list", data := .seq (items.toList.drop i).toArray }, toks := tk }) :
    wpAny (model prog w) A (do
      let rest ← holding first (collect (.ref it))
      let after := n - 1 - i
      if rest.length < after then
        rule "unpack.star.too-few"
        raiseError "ValueError" s!"not enough values to unpack (expected at least {n - 1}, got {i + rest.length})"
      let mid := rest.length - after
      return first ++ [← newList (rest.take mid)] ++ rest.drop mid) Q E s := by
  refine wpAny_bind (wpAny_holding (kun_collect hTm Wk hT hk hst hI hax (fun h₂ tk hk => ?_) hz))
  have e : n - 1 - i = 0 := by omega
  show wpAny _ _ (if (items.toList.drop i).length < n - 1 - i then _ else _) _ _ _
  rw [if_neg (by rw [e]; omega)]
  show wpAny _ _ (newList ((items.toList.drop i).take ((items.toList.drop i).length - (n - 1 - i))) >>= fun d => pure (first ++ [d] ++ (items.toList.drop i).drop ((items.toList.drop i).length - (n - 1 - i)))) _ _ _
  rw [e, Nat.sub_zero, List.take_length, List.drop_length]
  refine wpAny_bind (wpAny_newList (wpAny_pure ?_) (by rw [List.length_drop, Array.length_toList]; omega))
  rw [List.append_nil]
  exact hQ h₂ tk hk
theorem star_tup {l : Addr} {items : Array Value} {n i : Nat} {Q : List Value → Shared → Prop} (hl : IsTup s.heap l items) (hh : A.handled = none) (hn : n = i + 1) (hi : i ≤ items.size) (hz : items.size ≤ sizeLine)
    (hQ : ∀ (h' : Heap) (tk : Tok), (∀ b o, s.heap.get? b = some o → h'.get? b = some o) → Q (items.toList.take i ++ [.ref h'.objs.size]) { s with heap := h'.push { cls := .type "list", data := .seq (items.toList.drop i).toArray }, toks := tk }) :
    wpAny (model prog w) A (unpackItems (.ref l) n (some i)) Q E s := by
  have hlt : l ≠ s.heap.objs.size := by obtain ⟨o, ho, _⟩ := hl; exact Nat.ne_of_lt (Heap.lt_size ho)
  unfold unpackItems
  refine wpAny_bind ?_
  unfold notIterableAtAll
  refine wpAny_bind (wpAny_specialOf hl.typeIs slot_tuple_iter.lookup ?_)
  refine wpAny_pure ?_
  simp only [Bool.false_eq_true, if_false]
  refine wpAny_bind (wpAny_holding (iter_tuple hl ?_))
  refine wpAny_bind (wpAny_holding (draw_tuple hlt i 0 _ _ ⟨_, Heap.get?_push_size _ rfl, rfl, rfl⟩ (hl.push _) (by omega) fun h₁ hit₁ hs₁ => ?_))
  have hl₁ : IsTup h₁ l items := (hl.push _).extBut hs₁.extBut hlt
  rw [Nat.zero_add] at hit₁
  have hit₁' := hit₁
  obtain ⟨oi, hoi, _⟩ := hit₁'
  have hl₁' := hl₁
  obtain ⟨ol, hol, _⟩ := hl₁'
  rw [List.drop_zero]
  have hfl : (items.toList.take i).length = i := by rw [List.length_take, Array.length_toList]; omega
  rw [if_neg (show ¬ ((items.toList.take i).length < i) by rw [hfl]; omega)]
  refine star_draw (s := { s with heap := h₁ }) (items.toList.take i) hn hfl (T := "tuple_iterator") (.inr (.inr (.inr rfl))) (Walks.tuple (A := A.in1) hh s.heap.objs.size l hlt items) (fun j u st => st.1.typeIs) hi ⟨hit₁, hl₁⟩ (Heap.lt_size hoi) (Heap.lt_size hol) hz fun h₂ tk hk => hQ h₂ tk fun b o e => ?_
  have hb : b ≠ s.heap.objs.size := Nat.ne_of_lt (Heap.lt_size e)
  exact hk b o hb (hs₁.extBut b o hb (Heap.get?_push_of_some _ e))
theorem star_lst {l : Addr} {items : Array Value} {n i : Nat} {Q : List Value → Shared → Prop} (hl : s.heap.IsList l items) (hh : A.handled = none) (hn : n = i + 1) (hi : i ≤ items.size) (hz : items.size ≤ sizeLine)
    (hQ : ∀ (h' : Heap) (tk : Tok), (∀ b o, s.heap.get? b = some o → h'.get? b = some o) → Q (items.toList.take i ++ [.ref h'.objs.size]) { s with heap := h'.push { cls := .type "list", data := .seq (items.toList.drop i).toArray }, toks := tk }) :
    wpAny (model prog w) A (unpackItems (.ref l) n (some i)) Q E s := by
  have hlt : l ≠ s.heap.objs.size := by obtain ⟨o, ho, _⟩ := hl; exact Nat.ne_of_lt (Heap.lt_size ho)
  unfold unpackItems
  refine wpAny_bind ?_
  unfold notIterableAtAll
  refine wpAny_bind (wpAny_specialOf hl.typeIs slot_list_iter.lookup ?_)
  refine wpAny_pure ?_
  simp only [Bool.false_eq_true, if_false]
  refine wpAny_bind (wpAny_holding (wpAny_pyIter_list hl ?_))
  refine wpAny_bind (wpAny_holding (kun_draw hlt i 0 _ _ ⟨_, Heap.get?_push_size _ rfl, rfl, rfl⟩ (hl.push _) (by omega) fun h₁ hit₁ hs₁ => ?_))
  have hl₁ : h₁.IsList l items := (hl.push _).extBut hs₁.extBut hlt
  rw [Nat.zero_add] at hit₁
  have hit₁' := hit₁
  obtain ⟨oi, hoi, _⟩ := hit₁'
  have hl₁' := hl₁
  obtain ⟨ol, hol, _⟩ := hl₁'
  rw [List.drop_zero]
  have hfl : (items.toList.take i).length = i := by rw [List.length_take, Array.length_toList]; omega
  rw [if_neg (show ¬ ((items.toList.take i).length < i) by rw [hfl]; omega)]
  refine star_draw (s := { s with heap := h₁ }) (items.toList.take i) hn hfl (T := "list_iterator") (.inr (.inr (.inl rfl))) (Walks.list (A := A.in1) hh s.heap.objs.size l hlt items) (fun j u st => st.1.typeIs) hi ⟨hit₁, hl₁⟩ (Heap.lt_size hoi) (Heap.lt_size hol) hz fun h₂ tk hk => hQ h₂ tk fun b o e => ?_
  have hb : b ≠ s.heap.objs.size := Nat.ne_of_lt (Heap.lt_size e)
  exact hk b o hb (hs₁.extBut b o hb (Heap.get?_push_of_some _ e))
end
/-- (a, .., *b) = a tuple or a list -/
def gStar (K : PySem.W.Frag) (i : Nat) (t : TGs) : TG := fun v σ H Q => ∃ a xs, v = .ref a ∧ (SqT K H a xs ∨ SqL K H a xs) ∧ i ≤ xs.length ∧ ∀ p, H p = none → t (xs.take i ++ [.ref p]) σ (upd H p (.lst (xs.drop i))) Q
section
variable {X : Cx} {S : List Addr} {W : WX} {e : Expr} {te : T} {pos : Pos}
theorem pg_star {es : List Expr} {k : Nat} {t : TGs} (i : Nat) (hc : X.calm = true) (h : PGs X es t)
    (hn : (assignEach es X.env).length = i + 1 := by rfl) (hst : (assignEach es X.env).findIdx? (·.1) = some i := by rfl) : PG X (.Tuple es k pos) (gStar X.K i t) := by
  refine ⟨fun pins s σ H v u Q I r hw => ?_⟩
  obtain ⟨a, xs, e1, hq, hl, hw⟩ := hw
  subst e1
  cases r
  have fin : ∀ (its : List Value) (h' : Heap) (tk : Tok), Vals xs its → xs.length ≤ sizeLine → (∀ b o, s.heap.get? b = some o → h'.get? b = some o) →
      wpAny (model X.prog X.w) X.A (assignInOrder ((assignEach es X.env).map (·.2)) (its.take i ++ [.ref h'.objs.size])) (fun _ s' => ∃ σ' H', Inv X pins σ' H' s' ∧ Q σ' H') X.xe { s with heap := h'.push { cls := .type "list", data := .seq (its.drop i).toArray }, toks := tk } := fun its h' tk rv hz hk => by
    have I1 : Inv X pins σ H { s with heap := h', toks := tk } := I.kept hk
    have hf : H h'.objs.size = none := I1.hok.fresh (Nat.le_refl _)
    have I2 : Inv X pins σ (upd H h'.objs.size (.lst (xs.drop i))) { s with heap := h'.push { cls := .type "list", data := .seq (its.drop i).toArray }, toks := tk } :=
      I1.laid (t' := tk) (fun b u e => Heap.get?_push_of_some _ e) (Nat.le_refl _) ⟨by rw [List.length_drop]; omega, its.drop i, 0, rv.drop i, Heap.get?_push_size _ rfl⟩
    exact h.run pins _ σ _ _ _ Q I2 ((rv.take i).append (.cons (show RelV (.ref h'.objs.size) (Value.ref h'.objs.size) from rfl) .nil)) (hw _ hf)
  rw [PyProof.Rows.assign_Tuple]
  refine wpAny_bind (wpAny_standAt ?_)
  unfold unpack
  rw [hn, hst]
  rcases hq with hq | hq
  · obtain ⟨its, rv, ht, hz⟩ := I.tuple hq
    have hsz : its.toArray.size = xs.length := by simp [rv.length]
    exact wpAny_bind (wpAny_holding (star_tup ht (I.ok.hd hc) rfl (by omega) (by omega) fun h' tk hk => by simpa using fin its h' tk rv hz hk))
  · obtain ⟨its, rv, pl, hz⟩ := I.list hq
    have hsz : its.toArray.size = xs.length := by simp [rv.length]
    exact wpAny_bind (wpAny_holding (star_lst pl.isList (I.ok.hd hc) rfl (by omega) (by omega) fun h' tk hk => by simpa using fin its h' tk rv hz hk))
theorem pgs_starName {x : Str} {p p2 : Pos} {g : TG} (h : PG X (.Name x p) g) (hs : (assignEach [.Starred (.Name x p) p2] X.env).map (·.2) = [assign (.Name x p) X.env] := by rfl) : PGs X [.Starred (.Name x p) p2] (gCons g gNil) := by
  refine ⟨fun pins s σ H vs us Q I r h1 => ?_⟩
  obtain ⟨v, vr, e1, h1⟩ := h1
  subst e1
  cases r with
  | cons r rr =>
    rw [hs]
    refine assignInOrder_cons (thn (h.run pins s σ H _ _ _ I r h1) fun _ s1 ⟨σ1, H1, I1, q1⟩ => ?_)
    obtain ⟨e2, q1⟩ := q1
    subst e2
    cases rr
    exact assignInOrder_nil ⟨σ1, H1, I1, q1⟩
theorem dgs_star {x : Str} {p p2 : Pos} {τ : Tgt} (h : DG X (.Name x p) τ) (hs : (assignEach [.Starred (.Name x p) p2] X.env).map (·.2) = [assign (.Name x p) X.env] := by rfl) : DGs X [.Starred (.Name x p) p2] [τ] := pgs_starName h hs
@[simp] def starD (i : Nat) (Q : List D → Prop) : D → Prop
  | .tup xs => i ≤ xs.length ∧ Q (xs.take i ++ [.lst (xs.drop i)])
  | .lst xs => i ≤ xs.length ∧ Q (xs.take i ++ [.lst (xs.drop i)])
  | _ => False
theorem starD.imp {i : Nat} {Q Q' : List D → Prop} (h : ∀ b, Q b → Q' b) : ∀ d, starD i Q d → starD i Q' d := fun d q => by
  cases d <;> first | exact ⟨q.1, h _ q.2⟩ | exact q.elim
@[simp] def sStar (te : T) (i : Nat) (τs : List Tgt) : TSd := fun D ρ => te ρ (starD i fun xs => match asgs τs xs ρ with | some ρ' => D.nx ρ' | none => False) fun x => D.ex x ρ
theorem asgs_env {K : PySem.W.Frag} {B0 H0 Bk B H : Hp} {σ : L2.St} {ρ : DEnv} {τs : List Tgt} {ds : List D} {vs : List V} {ρ' : DEnv} (e : EnvOk K S B0 H0 Bk B H σ ρ) (r : RpA K B vs ds) (h : asgs τs ds ρ = some ρ') {k : L2.St → Hp → Prop} (hk : ∀ σ', EnvOk K S B0 H0 Bk B H σ' ρ' → k σ' H) : gsOf K τs vs σ H k := by
  refine asgs_ok τs ds vs σ ρ ρ' e.1 e.2.1 r h k fun σ' s2 hw => hk σ' ⟨e.1, s2, e.2.2.1, e.2.2.2.1, fun i f l h1 h2 => ?_⟩
  obtain ⟨h3, h4⟩ := asgs_own (P := fun _ => True) τs ds ρ ρ' h i f h1
  refine e.2.2.2.2 i f l h3 ?_
  have hq : (wipe σ' (varss τs))[i]? = (wipe σ (varss τs))[i]? := by rw [hw (varss τs) fun _ z => z]
  rw [wipe_get, wipe_get, if_neg (fun z => h4 z.1), if_neg (fun z => h4 z.1)] at hq
  rw [← hq]; exact h2
theorem ds_star (i : Nat) {τs : List Tgt} {tgs : List Expr} {k : Nat} {tp : Pos} (C : Cd X (WE W)) (he : DE X S (WE W) e te) (hg : DGs X tgs τs)
    (hn : (assignEach tgs X.env).length = i + 1 := by rfl) (hst : (assignEach tgs X.env).findIdx? (·.1) = some i := by rfl)
    (hs : swapsWithSole [.Tuple tgs k tp] e pos.line X.env = pure false := by rfl) (hw : swappedStores [.Tuple tgs k tp] e X.env = pure none := by rfl)
    (h1 : (assignEach [.Tuple tgs k tp] X.env).map (·.2) = [assign (.Tuple tgs k tp) X.env] := by rfl) : DS X S W (.Assign [.Tuple tgs k tp] e pos) (sStar te i τs) := by
  refine ⟨PS.imp (ps_asg he.pe (pg_star i C.calm hg hn hst) hs hw h1) fun De σ H ⟨B0, H0, Bk, B, ρ, E, q⟩ => ?_, ⟨fun {D D' ρ} h1 h2 h3 h4 h5 q => he.mono.r (starD.imp fun xs q => ?_) (fun x q => h5 _ _ q) q⟩⟩
  · refine ⟨B, ρ, E.1, E.2.1, he.mono.r (fun d hd v B1 H1 l r => ?_) (fun x q => ex_of E x q) q⟩
    have E1 := E.le l
    have go : ∀ (a : Addr) (vs : List V) (ds : List D), (SqT X.K H1 a vs ∨ SqL X.K H1 a vs) → RpA X.K B1 vs ds → vs.length ≤ sizeLine → i ≤ ds.length → (match asgs τs (ds.take i ++ [.lst (ds.drop i)]) ρ with | some ρ' => (ends X.K S W B0 H0 Bk De).nx ρ' | none => False) → gStar X.K i (gsOf X.K τs) (.ref a) σ H1 De.nx := fun a vs ds hq ra hz hi hd => by
      refine ⟨a, vs, rfl, hq, by rw [ra.length]; exact hi, fun p hp => ?_⟩
      have l2 := Le.laid (o := .lst (vs.drop i)) E1.1 hp
      have E2 := E1.le l2
      have rl : Rp X.K (upd B1 p (.lst (vs.drop i))) (.ref p) (.lst (ds.drop i)) := .lst upd_same (by rw [List.length_drop]; omega) ((ra.drop i).mono l2.base)
      split at hd
      · rename_i ρ' ea
        exact asgs_env E2 (((ra.take i).mono l2.base).append (.cons rl .nil)) ea fun σ' E3 => hd _ σ' _ E3
      · exact hd.elim
    cases d with
    | tup ds =>
      have hz := Rp.lenT r
      obtain ⟨a, vs, rfl, hq, ra⟩ := (Rp.at r E1.1).tup E1.1.sub
      exact go a vs ds (.inl hq) ra (by rw [ra.length]; exact hz) hd.1 hd.2
    | lst ds =>
      have ra := Rp.at r E1.1
      have hz := ra.len
      obtain ⟨a, vs, rfl, hq, ra⟩ := ra.lst
      exact go a vs ds (.inr (SqL.of hq)) ra (by rw [ra.length]; exact hz) hd.1 hd.2
    | _ => exact hd.elim
  · split at q
    · exact h1 _ q
    · exact q.elim
/-! ### is of bools -/
@[simp] def isBD : D → D → (D → Prop) → Prop
  | .bl a, .bl b, Q => Q (.bl (a == b))
  | _, _, _ => False
@[simp] def notBD : D → D → (D → Prop) → Prop
  | .bl a, .bl b, Q => Q (.bl (!(a == b)))
  | _, _, _ => False
theorem isBD.mono : MonoR isBD := ⟨fun {x y Q Q'} h q => by cases x <;> cases y <;> first | exact q.elim | exact h _ q⟩
theorem notBD.mono : MonoR notBD := ⟨fun {x y Q Q'} h q => by cases x <;> cases y <;> first | exact q.elim | exact h _ q⟩
theorem dec_beq (a b : Bool) : decide (a = b) = (a == b) := by cases a <;> cases b <;> rfl
theorem opd_isB : OpD X S (compareOp .Is) isBD := OpR.imp op_isBl fun x y H Q h => by
  obtain ⟨B, dx, dy, G, hx, hy, q⟩ := h
  cases dx <;> cases dy <;> first
    | exact q.elim
    | (cases hx; cases hy; refine ⟨_, _, rfl, rfl, ?_⟩; rw [dec_beq]; exact q _ B H G.le (.bl _))
theorem opd_notB : OpD X S (compareOp .IsNot) notBD := OpR.imp op_notBl fun x y H Q h => by
  obtain ⟨B, dx, dy, G, hx, hy, q⟩ := h
  cases dx <;> cases dy <;> first
    | exact q.elim
    | (cases hx; cases hy; refine ⟨_, _, rfl, rfl, ?_⟩; rw [dec_beq]; exact q _ B H G.le (.bl _))
/-! ### a, b, c = x, y, z -/
@[simp] def sPar3 (i j l : Nat) (tr : TAd) : TSd := fun D ρ => tr ρ (fun ds => match ds with | [a, b, c] => D.nx (((ρ.set i (some (.p a))).set j (some (.p b))).set l (some (.p c))) | _ => False) fun x => D.ex x ρ
theorem ds_par3 {i j l : Nat} {x y z : Str} {a b c : Expr} {tr : TAd} {px py pz pt : Pos} {kt k2 pt2} (C : Cd X (WE W)) (hi : X.N[i]? = some x) (hj : X.N[j]? = some y) (hl : X.N[l]? = some z) (hij : i ≠ j) (hil : i ≠ l) (hjl : j ≠ l)
    (hx : X.env.scope.names.lookup x = some .local) (hy : X.env.scope.names.lookup y = some .local) (hz : X.env.scope.names.lookup z = some .local) (ha : DA X S (WE W) [a, b, c] tr)
    (hw : swappedStores [.Tuple [.Name x px, .Name y py, .Name z pz] kt pt] (.Tuple [a, b, c] k2 pt2) X.env = pure (some [x, y, z]))
    (hs : swapsWithSole [.Tuple [.Name x px, .Name y py, .Name z pz] kt pt] (.Tuple [a, b, c] k2 pt2) pos.line X.env = pure false := by rfl) :
    DS X S W (.Assign [.Tuple [.Name x px, .Name y py, .Name z pz] kt pt] (.Tuple [a, b, c] k2 pt2) pos) (sPar3 i j l tr) := by
  refine ⟨PS.imp (ps_par3 C.calm C.nd hi hj hl hij hil hjl hx hy hz ha.pa hw hs) fun D σ H ⟨B0, H0, Bk, B, ρ, E, q⟩ => ?_, ⟨fun {D D' ρ} h1 h2 h3 h4 h5 q => ha.mono.r (fun ds q => ?_) (fun x q => h5 _ _ q) q⟩⟩
  · refine ⟨B, ρ, E.1, E.2.1, ha.mono.r (fun ds hd vs B1 H1 l r => ?_) (fun x q => ex_of E x q) q⟩
    split at hd
    · cases r with | cons r1 r2 =>
      cases r2 with | cons r2 r3 =>
      cases r3 with | cons r3 r4 =>
      cases r4
      exact ⟨_, _, _, rfl, hd B1 _ H1 ((((E.le l).setP r1).setP r2).setP r3)⟩
    · exact hd.elim
  · split at q
    · exact h1 _ q
    · exact q.elim
/-! ### tuple * int -/
def repTD : D → D → (D → Prop) → Prop
  | .tup xs, .int k, Q => (xs ≠ [] ∧ 2 ≤ k ∧ k ≤ 1000 ∧ xs.length ≤ 1000) ∧ Q (.tup (List.replicate k.toNat xs).flatten)
  | _, _, _ => False
theorem repTD.mono : MonoR repTD := ⟨fun {x y Q Q'} h q => by cases x <;> cases y <;> first | exact q.elim | exact ⟨q.1, h _ q.2⟩⟩
theorem flat_len {α : Type} (xs : List α) : ∀ n : Nat, (List.replicate n xs).flatten.length = n * xs.length
  | 0 => by simp
  | n + 1 => by rw [List.replicate_succ, List.flatten_cons, List.length_append, flat_len xs n, Nat.succ_mul]; omega
theorem opd_repT : OpD X S (binaryOp .Mult) repTD := OpR.imp op_repT fun x y H Q h => by
  obtain ⟨B, dx, dy, G, hx, hy, q⟩ := h
  cases dx with
  | tup ds =>
    cases dy with
    | int k =>
      cases hy
      obtain ⟨⟨h1, h2, h3, h4⟩, q⟩ := q
      obtain ⟨a, vs, rfl, e, r⟩ := hx.tup G.sub
      refine ⟨a, k, vs, rfl, rfl, e, fun z => h1 ?_, h2, h3, by rw [r.length]; exact h4, fun p hp => ?_⟩
      · subst z; cases r; rfl
      · have hz : (List.replicate k.toNat vs).flatten.length ≤ sizeLine := by
          rw [flat_len, r.length]
          have : k.toNat * ds.length ≤ 1000 * 1000 := Nat.mul_le_mul (by omega) h4
          have hs : sizeLine = 16777216 := rfl
          omega
        exact q _ _ _ (Le.laid G hp) (.tup (.inl upd_same) hz ((r.rep k.toNat).mono (Le.laid (o := .tup (List.replicate k.toNat vs).flatten) G hp).base))
    | _ => exact q.elim
  | _ => cases dy <;> exact q.elim
end
end DL

set_option Elab.async false
set_option linter.all false
set_option maxRecDepth 100000
set_option maxHeartbeats 1000000
/-! DL, part y: sorted(t), len(set(t)) of a tuple of texts; specs in one shape; narrow data. -/
namespace DL
open PySem PySem.Spec PySem.W PyProof.Rows L2
section
variable {P : Program} {w : World} {A : Around} {E : Value → Shared → Prop} {s : Shared}
theorem sorted_tupS {a : Addr} {items : Array Value} {l : List Str} {Q : Value → Shared → Prop} (h : IsTup s.heap a items) (hi : StrsAre items.toList l) (h64 : l.length < 64)
    (hQ : ∀ (h1 h' : Heap) p (out : Array Value) (c : Nat) (ys : List Str), (∀ b o, s.heap.get? b = some o → h1.get? b = some o) → (∀ b o, h1.get? b = some o → h'.get? b = some o) → h1.objs.size ≤ p →
      h'.get? p = some (seqObj "list" out c) → StrsAre out.toList ys → ys.Perm l → sortedS ys = true → Q (.ref p) { s with heap := h' }) : wpAny (model P w) A (call (.builtin "sorted") [.ref a]) Q E s := by
  have sz : items.size = l.length := by have := hi.length; rwa [Array.length_toList] at this
  obtain ⟨o, ho, hc, n, hd⟩ := h
  refine Calls.call_function_entry kind_sorted plain_sorted entry_sorted (args_sorted1 _) ?_
  unfold Builtin.«sorted»
  refine wpAny_bind (m := checkCount "sorted" 1 1 _) (wpAny_pure (wpAny_bind (wpAny_collect_seq (A := A.in1) a (T := "tuple") (.inr rfl) ho hc hd (fun h1 k1 => ?_) (by rw [sizeLine_eq]; omega))))
  refine wpAny_bind (wpAny_newList ?_ (by rw [Array.length_toList, sizeLine_eq]; omega))
  have oL : (h1.push (seqObj "list" items.toList.toArray 0)).get? h1.objs.size = some (seqObj "list" items.toList.toArray 0) := Heap.get?_push_size _ rfl
  refine wpAny_bind (wpAny_holding (wpAny_call_entry slot_list_sort ⟨_, oL, rfl⟩ entry_list_sort
    (list_sort_treeK strKind_oneLt oL hi.keysOf (fun v₁ v₂ rest e => keyKind_strs (by rw [← e]; exact hi)) (by rw [Array.length_toList, sz]; exact h64) fun st' hp hs => ?_) (args_list_sort _)))
  obtain ⟨ys, y1, y2, y3⟩ := sorted_out_str hi hp hs
  obtain ⟨c, hc⟩ := sortedHeap_at (vs := items.toList) (out := (arrOf st').map (·.2)) oL
  refine ⟨_, rfl, wpAny_pure ⟨_, rfl, hQ h1 _ h1.objs.size _ c ys k1 (fun b u q => ?_) (Nat.le_refl _) hc y1 y2 y3⟩⟩
  have below := Heap.lt_size q
  show (sortedHeap (h1.push (seqObj "list" items.toList.toArray 0)) h1.objs.size items.toList _).get? b = some u
  rw [sortedHeap_old (Nat.ne_of_lt below) (by rw [size_push']; exact Nat.lt_succ_of_lt below)]
  exact Heap.get?_push_of_some _ q
theorem make_setT {l : Addr} {items : Array Value} {xs : List Str} {Q : Value → Shared → Prop} (hh : A.handled = none) (hl : IsTup s.heap l items) (hi : StrsAre items.toList xs) (room : items.size + 1 < scanBound)
    (h : ∀ (h' : Heap) (tk : Nat), SetAtT P w h' s.heap.objs.size (ded xs) → (∀ b o, s.heap.get? b = some o → h'.get? b = some o) → Q (.ref s.heap.objs.size) { s with heap := h', toks := tk }) :
    wpAny (model P w) A (call (.type "set") [.ref l]) Q E s := by
  have hxl : xs.length = items.size := by
    have q := StrsAre.length hi
    rw [Array.length_toList] at q; exact q.symm
  have hm := PySem.F.called_set.mro
  obtain ⟨c, tl, hmro⟩ := hm
  have m1 := PySem.F.called_set.made; have m2 := PySem.F.called_set.sub
  have m3 := PySem.F.called_set.notType; have m4 := PySem.F.called_set.canCreate
  have m5 := PySem.F.typeCall_set_1 (.ref l)
  refine wpAny_call (codeAny_of_tree ?_)
  show wpAny _ _ (callAny (.type "set") _) _ _ _
  refine wpAny_pure ⟨Code.quiet_builtin _ (by decide +kernel), codeAny_builtin PySem.F.entry_type_call (by
    rw [Around.under_plain (weight_type_call_type "set" [.ref l] []) rfl]
    repeat (any_goals (first | assumption | wp_step))
    refine codeAny_mono (code_set_led1 (.ref l) (E := E) (Q₁ := fun o s₁ => o = .ref s.heap.objs.size ∧ s₁ = { s with heap := s.heap.push (set0 w) }) ⟨rfl, rfl⟩) fun r s₁ hr => ?_
    match r, hr with
    | .error e, hr => exact hr
    | .ok (.ret o), hr =>
      obtain ⟨rfl, rfl⟩ := hr
      have at0 : (s.heap.push (set0 w)).get? s.heap.objs.size = some (set0 w) := Heap.get?_push_size _ rfl
      have ty : Shared.TypeIs { s with heap := s.heap.push (set0 w) } (.ref s.heap.objs.size) "set" := ⟨_, at0, rfl⟩
      have i1 := PySem.F.called_set.init.lookup; have i2 := PySem.F.called_set.init.bind (.ref s.heap.objs.size)
      repeat (any_goals (first | assumption | wp_step))
      refine codeAny_mono (codeAny_call_builtin (R := wants (fun r s₂ => r = .none ∧ ∃ h' tk, s₂ = { s with heap := h', toks := tk } ∧ SetAtT P w h' s.heap.objs.size (ded xs) ∧ ∀ b o, s.heap.get? b = some o → h'.get? b = some o) E)
        PySem.F.called_set.init.plain PySem.F.entry_set_init (check_set_init_1 ty ?_)) fun r₂ s₂ hr₂ => ?_
      · have hl0 := hl
        obtain ⟨⟨oc, od, oda, os⟩, hol, hcl, nl, hdl⟩ := hl
        simp only at hcl hdl
        subst hcl; subst hdl
        have at1 : (s.heap.push (set0 w)).get? l = some { cls := .type "tuple", dict := od, data := .seq items nl, slots := os } := Heap.get?_push_of_some _ hol
        have n1 := PySem.F.sub_tuple_set; have n2 := PySem.F.sub_tuple_frozenset
        have n3 : (Value.type "tuple" == Value.type "dict") = false := by decide
        have l1 : IsTup (s.heap.push (set0 w)) l items := hl0.push _
        unfold Builtin.«set.__init__» noKeywords Builtin.Frozenset.updateFrom
        generalize hPI : pyIter = PI
        wp_walk
        subst hPI
        refine iter_tuple l1 (wpAny_bind (wpAny_runValue ?_))
        have sz : (s.heap.push (set0 w)).objs.size = s.heap.objs.size + 1 := Heap.size_push ..
        have below := Heap.lt_size hol
        have h3 : A.in1.in1.in1.handled = none := by simp [hh]
        have ne1 : l ≠ (s.heap.push (set0 w)).objs.size := by rw [sz]; exact Nat.ne_of_lt (Nat.lt_succ_of_lt below)
        have out : s.heap.objs.size ∉ [(s.heap.push (set0 w)).objs.size, l] := by
          rw [sz]
          intro z
          rcases List.mem_cons.mp z with z | z
          · exact absurd z (Nat.ne_of_lt (Nat.lt_succ_self _))
          · exact absurd (List.mem_singleton.mp z).symm (Nat.ne_of_lt below)
        refine fill_set ((Walks.tuple h3 _ l ne1 items).toS) s.heap.objs.size out xs (fun i v hv => strs_at hi i v (by rw [Array.getElem?_toList]; exact hv)) room (items.size - 0) 0 _ (by omega) (Nat.zero_le _) ⟨⟨_, Heap.get?_push_size _ rfl, rfl, rfl⟩, l1.push _⟩
          ⟨(#[], 0, .fresh 0 0 (!w.params.followText "set-order")), Heap.get?_push_of_some _ at0, TS.new (by cases w.params.followText "set-order" <;> simp)⟩ fun s' hm hS => ?_
        obtain ⟨h', g', d', tk', os'⟩ := s'
        have e1 : g' = s.gens := hm.gens
        have e2 : d' = s.drawn := hm.drawn
        have e3 : os' = s.os := hm.os
        subst e1; subst e2; subst e3
        show wpAny _ _ _ _ _ _
        refine wpAny_pure ?_
        show wpAny _ _ (ret Value.none) _ _ _
        rw [← hxl, List.take_length] at hS
        refine wpAny_pure ⟨rfl, h', tk', rfl, hS, fun b o e => hm.heap b o (fun z => ?_) (Heap.get?_push_of_some _ (Heap.get?_push_of_some _ e))⟩
        have lb := Heap.lt_size e
        rcases List.mem_cons.mp z with z | z
        · exact absurd z (Nat.ne_of_lt lb)
        · have := List.mem_singleton.mp z
          rw [sz] at this
          exact absurd this (Nat.ne_of_lt (Nat.lt_succ_of_lt lb))
      · match r₂, hr₂ with
        | .error e, hr₂ => exact hr₂
        | .ok (.ret r), hr₂ =>
          obtain ⟨rfl, h', tk, rfl, hS, hk⟩ := hr₂
          repeat (any_goals (first | assumption | wp_step))
          exact h _ _ hS hk)⟩
end
section
variable {X : Cx} {S : List Addr} {Ex : L2.St → XK} {a : Expr} {ta : TE} {tb : T} {p p2 q pos : Pos}
def tSetVT (K : PySem.W.Frag) (ta : TE) (R : List Str → Hp → VK → Prop) : TE := fun σ H Q => ta σ H fun x H1 => ∃ l, ∃ xs : List Str, x = .ref l ∧ SqT K H1 l (xs.map V.str) ∧ xs.length + 1 < scanBound ∧ R xs H1 Q
theorem pe_onSetTup {x : Str} {id : String} {R : List Str → Hp → VK → Prop} (hg : Gl X x) (hm : X.mg x = none) (hv : bootBuiltins x = some (.builtin id)) (hg2 : Gl X "set") (hm2 : X.mg "set" = none) (hc : X.calm = true) (ha : PE X a ta) (hn : x ≠ "__name__") (hdb : (x == ("__debug__" : Str)) = false)
    (run : ∀ {pins : List (Addr × Obj)} {σ : L2.St} {s : Shared} {H : Hp} {Q : VK} {d : Addr} {xs : List Str}, Inv X pins σ H s → SetAtT X.prog X.w s.heap d (ded xs) → (ded xs).length ≤ xs.length → xs.length + 1 < scanBound → R xs H Q →
      wpAny (model X.prog X.w) X.A (call (.builtin id) [.ref d]) (EP X pins σ Q) X.xe s)
    (na : starEach [a] X.env = (false, eval a X.env) :: starEach [] X.env := by rfl) : PE X (.Call (.Name x p) [.Call (.Name "set" p2) [a] [] q] [] pos) (tSetVT X.K ta R) := by
  refine ⟨fun pins s σ H Q I h => ?_⟩
  refine Call_ (ld_blt I hg hm hv ?_ hn hdb)
  refine PyProof.Rows.callWith_builtin1 (PyProof.Rows.args_cons ?_ rfl) rfl rfl
  refine Call_ (ld_blt I hg2 hm2 boot_set ?_)
  refine PyProof.Rows.callWith_type1 (PyProof.Rows.args_cons (thn (ha.run pins s σ H _ I h) fun v s1 ⟨x, H1, I1, r1, q1⟩ => PyProof.Rows.args_nil ?_) na) na rfl
  obtain ⟨l, xs, rfl, hq, hb, q1⟩ := q1
  cases r1
  obtain ⟨its, r, pl, hz⟩ := I1.tuple hq
  have hl : its.length = xs.length := by rw [← r.length, List.length_map]
  refine make_setT (I1.ok.hd hc) pl (xs := xs) (by simpa using strsAre_of r) (by rw [List.size_toArray, hl]; exact hb) fun h' tk hS hk => PyProof.Rows.args_nil ?_
  have hd := ded_le xs xs.length
  rw [List.take_length] at hd
  exact run (I1.kept (t' := tk) hk) hS hd hb q1
theorem pe_lenSetTup (hg : Gl X "len") (hm : X.mg "len" = none) (hg2 : Gl X "set") (hm2 : X.mg "set" = none) (hc : X.calm = true) (ha : PE X a ta) (na : starEach [a] X.env = (false, eval a X.env) :: starEach [] X.env := by rfl) :
    PE X (.Call (.Name "len" p) [.Call (.Name "set" p2) [a] [] q] [] pos) (tSetVT X.K ta fun xs H Q => Q (.int (ded xs).length) H) := by
  refine pe_onSetTup hg hm boot_len hg2 hm2 hc ha (by decide) (by decide) (fun {pins σ s H Q d xs} I hS hd hb h => ?_) na
  obtain ⟨D, ho, T⟩ := hS
  have e := set_size T
  have hs : scanBound = 4096 := rfl
  refine call_len_set ho ⟨rfl, rfl, rfl⟩ rfl T.ok.fit (by rw [e]; omega) ⟨.int (ded xs).length, H, I.tok _, ⟨_, by rw [e]⟩, h⟩
/-- a tuple of texts -/
def strsT (Q : List Str → Prop) : D → Prop
  | .tup xs => match strsOf xs with
    | some ss => ss.length < 60 ∧ Q ss
    | none => False
  | _ => False
theorem strsT.imp {Q Q' : List Str → Prop} (h : ∀ ss, Q ss → Q' ss) : ∀ d, strsT Q d → strsT Q' d := fun d q => by
  cases d <;> first | exact q.elim | skip
  unfold strsT at *
  simp only at *
  split at q
  · exact ⟨q.1, h _ q.2⟩
  · exact q.elim
@[simp] def tLenSetT (t : T) : T := fun ρ Q E => t ρ (strsT fun ss => Q (.int (ded ss).length)) E
theorem de_lenSetT (C : Cd X Ex) (hg : Gl X "len") (hm : X.mg "len" = none) (hg2 : Gl X "set") (hm2 : X.mg "set" = none) (ha : DB X S Ex a tb) (na : starEach [a] X.env = (false, eval a X.env) :: starEach [] X.env := by rfl) :
    DE X S Ex (.Call (.Name "len" p) [.Call (.Name "set" p2) [a] [] q] [] pos) (tLenSetT tb) := by
  refine ⟨PE.imp (pe_lenSetTup hg hm hg2 hm2 C.calm ha.pe na) (lift.one fun σ B ρ H Q G SO q => ?_), ⟨fun h he q => ha.mono.r (strsT.imp fun ss q => h _ q) he q⟩⟩
  refine ⟨B, ρ, G, SO, ha.mono.r (fun d hd v B1 H1 l r => ?_) (fun _ z => z) q⟩
  cases d with
  | tup xs =>
    unfold strsT at hd
    simp only at hd
    split at hd
    · rename_i ss hb
      obtain ⟨a, vs, e1, e2, r2⟩ := r.tup (l.good G).sub
      rw [strsOf_rp hb r2] at e2
      exact ⟨a, ss, e1, e2, by unfold scanBound; have := hd.1; omega, hd.2 _ B1 H1 l (.int _)⟩
    · exact hd.elim
  | _ => exact hd.elim
/-- sorted of a tuple of texts -/
def sortUD : List D → (D → Prop) → Prop
  | [.tup xs], Q => match strsOf xs with
    | some ss => ss.length < 64 ∧ ∀ ys : List Str, ys.Perm ss → sortedS ys = true → Q (.lst (ys.map D.str))
    | none => False
  | _, _ => False
theorem sortUD.mono : MonoL sortUD := ⟨fun {ds Q Q'} h q => by unfold sortUD at *; (repeat' (split at q)) <;> first | exact q.elim | exact ⟨q.1, fun m h1 h2 => h _ (q.2 m h1 h2)⟩⟩
theorem cr_sortedU : CallR X (.builtin "sorted") (fun xs H Q => ∃ (a : Addr) (ss : List Str), xs = [.ref a] ∧ SqT X.K H a (ss.map V.str) ∧ ss.length < 64 ∧ ∀ (ys : List Str) (p : Addr), ys.Perm ss → sortedS ys = true → H p = none → Q (.ref p) (upd H p (.lst (ys.map V.str)))) := by
  intro pins s σ H vs us Q I r h
  obtain ⟨a, xs, rfl, hs, h64, q⟩ := h
  obtain ⟨its, rv, ht, _⟩ := I.tuple hs
  rw [Vals.ref1 r]
  have hi : StrsAre its.toArray.toList xs := by simpa using strsAre_of rv
  refine sorted_tupS ht hi h64 fun h1 h' p out c ys k1 k2 hp hg y1 y2 y3 => ?_
  have I1 : Inv X pins σ H { s with heap := h1 } := I.kept (t' := s.toks) k1
  have hlen : (ys.map V.str).length ≤ sizeLine := by rw [List.length_map, y2.length_eq]; exact small64 h64
  exact ⟨.ref p, upd H p (.lst (ys.map V.str)), I1.laid (t' := s.toks) k2 hp ⟨hlen, out.toList, c, vals_of_strs y1, hg⟩, rfl, q ys p y2 y3 (I1.hok.fresh hp)⟩
theorem cd_sortedU : CallD X S (.builtin "sorted") (rF X.K) sortUD := CallR.imp cr_sortedU fun xs H Q h => by
  obtain ⟨B, ds, G, ha, q⟩ := h
  unfold sortUD at q
  split at q
  · rename_i ds'
    split at q
    · rename_i ss hb
      cases ha with
      | cons h t =>
        cases t
        obtain ⟨a, vs, rfl, e, r⟩ := At.tup G.sub h
        rw [strsOf_rp hb r] at e
        exact ⟨a, ss, rfl, e, q.1, fun ys p h1 h2 hp => q.2 ys h1 h2 _ B _ (Le.beside G hp) ⟨p, rfl, hp, G.bnone hp, _, upd_same, by rw [List.length_map, h1.length_eq]; exact small64 q.1, rpA_strs ys⟩⟩
    · exact q.elim
  · exact q.elim
end
/-! ### specs in one shape -/
/-- f of x, where pre stands -/
def spO {α : Type} (args : α → List D) (pre : List Addr → α → Prop) (res : α → D) : Spec := fun S ds Q _ => ∃ x, ds = args x ∧ pre S x ∧ Q (res x)
theorem spO.mono {α : Type} {args : α → List D} {pre : List Addr → α → Prop} {res : α → D} : MonoS (spO args pre res) := ⟨fun h _ ⟨x, e, o, q⟩ => ⟨x, e, o, h _ q⟩⟩
theorem spO.len {α : Type} {args : α → List D} {pre : List Addr → α → Prop} {res : α → D} {n : Nat} (h : ∀ x, (args x).length = n) : ∀ S ds Q E, spO args pre res S ds Q E → ds.length = n := fun _ _ _ _ ⟨x, e, _⟩ => by rw [e]; exact h x
/-- any result of res -/
def spR {α : Type} (args : α → List D) (pre : List Addr → α → Prop) (res : α → D → Prop) : Spec := fun S ds Q _ => ∃ x, ds = args x ∧ pre S x ∧ ∀ d, res x d → Q d
theorem spR.mono {α : Type} {args : α → List D} {pre : List Addr → α → Prop} {res : α → D → Prop} : MonoS (spR args pre res) := ⟨fun h _ ⟨x, e, o, q⟩ => ⟨x, e, o, fun d z => h _ (q d z)⟩⟩
theorem spR.len {α : Type} {args : α → List D} {pre : List Addr → α → Prop} {res : α → D → Prop} {n : Nat} (h : ∀ x, (args x).length = n) : ∀ S ds Q E, spR args pre res S ds Q E → ds.length = n := fun _ _ _ _ ⟨x, e, _⟩ => by rw [e]; exact h x
/-! ### narrow data: no list of more than 50 things -/
mutual
@[simp] def D.nar : D → Bool
  | .lst xs => decide (xs.length ≤ 50) && narA xs
  | .tup xs => decide (xs.length ≤ 50) && narA xs
  | _ => true
@[simp] def narA : List D → Bool
  | [] => true
  | x :: xs => x.nar && narA xs
end
theorem narA_iff (xs : List D) : narA xs = true ↔ ∀ x ∈ xs, x.nar = true := by
  induction xs with
  | nil => simp
  | cons y ys ih => simp only [narA, Bool.and_eq_true, ih, List.mem_cons, forall_eq_or_imp]
theorem okA_iff (xs : List D) : okA xs = true ↔ ∀ x ∈ xs, x.ok = true := by
  induction xs with
  | nil => simp
  | cons y ys ih => simp only [okA, Bool.and_eq_true, ih, List.mem_cons, forall_eq_or_imp]
/-! ### types -/
def D.isBl : D → Bool
  | .bl _ => true
  | _ => false
def D.isTp : D → Bool
  | .tup _ => true
  | _ => false
def D.isSt : D → Bool
  | .str _ => true
  | _ => false
theorem isi_bl {d : D} (h : d.ok = true) {Q : D → Prop} : isiD isBool d Q ↔ Q (.bl d.isBl) := by cases d <;> first | (simp at h; done) | simp [isBool, D.isBl]
theorem isi_tp {d : D} (h : d.ok = true) {Q : D → Prop} : isiD isTup d Q ↔ Q (.bl d.isTp) := by cases d <;> first | (simp at h; done) | simp [isTup, D.isTp]
theorem isi_st {d : D} (h : d.ok = true) {Q : D → Prop} : isiD isStr d Q ↔ Q (.bl d.isSt) := by cases d <;> first | (simp at h; done) | simp [isStr, D.isSt]
end DL

set_option Elab.async false
set_option linter.all false
set_option maxRecDepth 100000
set_option maxHeartbeats 1000000
/-! DL, part z: raise C('..'), try .. except. -/
namespace DL
open PySem PySem.Spec PySem.W PyProof.Rows L2
/-- an error class of the text, without __init__ -/
structure ExF (K : PySem.W.Frag) (mg : Str → Option Value) (n : Str) : Prop where
  g : mg n = some (.ref (He.ga K n))
  x : PySem.W.excIn K (He.ga K n) He.veBase "ValueError.__new__" = true
  k : PySem.W.keepIn K (.ref (He.ga K n)) = true
  b : PySem.W.subIn K (.ref (He.ga K n)) (.type "BaseException") = some true
  t : PySem.W.typeIn K (.ref (He.ga K n)) = some (.type "type")
section
variable {X : Cx} {S : List Addr} {W : WX} {pos : Pos}
theorem ds_raiseC {c m : Str} {j : Nat} {p p2 p3 : Pos} (C : Cd X (WE W)) (tk : L2N.Takes X W) (F : ExF X.K X.mg c) (hg : Gl X c) (hdb : (c == ("__debug__" : Str)) = false := by decide) :
    DS X S W (.Raise (some (.Call (.Name c p) [.Constant (.str m) j p2] [] p3)) none pos) (sRaise c) :=
  ds_raise C.calm tk (L2N.pmk_own PySem.F.excBase_ValueError F.x F.g F.k (raises_own F.b F.t) hg hdb) fun _ _ _ q => q
/-- a class of errors, its base -/
def isA (a b : Str) : Bool := a == b || b == ("BoxError" : Str)
@[simp] def hdl (cls : List Str) : List (Str × TSd) → Exn → DEnds → DEnv → Prop
  | [], x, D, ρ => D.ex x ρ
  | (c, t) :: r, x, D, ρ => x.1 ∈ cls ∧ (match isA x.1 c with | true => t { D with ex := fun _ _ => False } ρ | false => hdl cls r x D ρ)
@[simp] def sTry (cls : List Str) (tb : TSd) (l : List (Str × TSd)) : TSd := fun D ρ => tb { D with ex := fun x ρ' => hdl cls l x D ρ' } ρ
abbrev W0 : WX := fun _ _ _ _ => False
/-- the clauses -/
inductive HdD (X : Cx) (S : List Addr) (cls : List Str) : List ExceptHandler → List (Str × TSd) → Prop
  | nil : HdD X S cls [] []
  | cons {c : Str} {t : TSd} {b₀ : Stmt} {suite : List Stmt} {np pos' : Pos} {hds : List ExceptHandler} {l : List (Str × TSd)} (F : ExF X.K X.mg c) (hem : ∀ a ∈ cls, PySem.W.exmOne X.K (.ref (He.ga X.K a)) (.ref (He.ga X.K c)) = some (isA a c)) (hg : Gl X c) (hdb : (c == ("__debug__" : Str)) = false)
      (hsu : ∀ (a : Addr) (oe : Obj) (pn : List (Addr × Obj)), DSs (X.suite a ((a, oe) :: pn)) S W0 (b₀ :: suite) t) (r : HdD X S cls hds l) : HdD X S cls (.ExceptHandler (some (.Name c np)) none (b₀ :: suite) pos' :: hds) ((c, t) :: l)
def hdlV (X : Cx) (S : List Addr) : List (Str × TSd) → List (Value × (Addr → Value → Option Addr → L2.TS))
  | [] => []
  | (c, t) :: r => (.ref (He.ga X.K c), fun _ _ _ => liftS X.K S W0 t) :: hdlV X S r
theorem HdD.ok {cls : List Str} {hds : List ExceptHandler} {l : List (Str × TSd)} (h : HdD X S cls hds l) : L2N.HdsOk X hds (hdlV X S l) := by
  induction h with
  | nil => exact .nil
  | cons F hem hg hdb hsu r ih => exact .cons ⟨hg, hdb, .inl F.g⟩ (fun a oe cls d pn _ _ => (hsu a oe pn).ps) ih
theorem HdD.mono {cls : List Str} {hds : List ExceptHandler} {l : List (Str × TSd)} (h : HdD X S cls hds l) : ∀ {D D' : DEnds} {x : Exn} {ρ : DEnv}, (∀ ρ, D.nx ρ → D'.nx ρ) → (∀ d, D.rt d → D'.rt d) → (∀ ρ, D.bk ρ → D'.bk ρ) → (∀ ρ, D.ct ρ → D'.ct ρ) → (∀ x ρ, D.ex x ρ → D'.ex x ρ) → hdl cls l x D ρ → hdl cls l x D' ρ := by
  induction h with
  | nil => intro D D' x ρ h1 h2 h3 h4 h5 q; exact h5 _ _ q
  | @cons c t b₀ suite np pos' hds l F hem hg hdb hsu r ih =>
    intro D D' x ρ h1 h2 h3 h4 h5 q
    refine ⟨q.1, ?_⟩
    have q2 := q.2
    cases e : isA x.1 c
    · rw [e] at q2
      exact ih h1 h2 h3 h4 h5 q2
    · rw [e] at q2
      have m := (hsu 0 X.s_0.heap.objs.toList.head! []).mono
      exact m.r (D := { D with ex := fun _ _ => False }) (D' := { D' with ex := fun _ _ => False }) h1 h2 h3 h4 (fun _ _ z => z) q2
theorem HdD.run {cls : List Str} {hds : List ExceptHandler} {l : List (Str × TSd)} (h : HdD X S cls hds l) {De : Ends} {B0 H0 Bk : Hp} : ∀ (x : Exn) (ρ : DEnv), hdl cls l x (ends X.K S W B0 H0 Bk De) ρ →
    (ends X.K S (wMany X.K W De (hdlV X S l)) B0 H0 Bk De).ex x ρ := by
  induction h with
  | nil => intro x ρ q; exact q
  | @cons c t b₀ suite np pos' hds l F hem hg hdb hsu r ih =>
    intro x ρ q od B σ H E a
    obtain ⟨q1, q2⟩ := q
    refine ⟨isA x.1 c, hem _ q1, fun hb _ _ => ?_, fun hb => ?_⟩
    · rw [hb] at q2
      have m := (hsu 0 X.s_0.heap.objs.toList.head! []).mono
      exact ⟨B0, H0, Bk, B, ρ, E, m.r (D := { ends X.K S W B0 H0 Bk De with ex := fun _ _ => False }) (D' := ends X.K S W0 B0 H0 Bk De) (fun _ z => z) (fun _ z => z) (fun _ z => z) (fun _ z => z) (fun _ _ z => z.elim) q2⟩
    · rw [hb] at q2
      exact ih x ρ q2 od B σ H E a
theorem cd_tr {W' : WX} {pn : List (Addr × Obj)} {xe : Value → Shared → Prop} (C : Cd X (WE W)) (tk : L2N.Takes (X.tr pn xe) W') : Cd (X.tr pn xe) (WE W') :=
  ⟨C.calm, C.hu, fun σ => L2N.passAt tk σ, C.nd⟩
theorem ds_try {cls : List Str} {tb : TSd} {l : List (Str × TSd)} {body : List Stmt} {h₀ : ExceptHandler} {hds : List ExceptHandler} (C : Cd X (WE W)) (hs : X.stack = X.env :: X.outer) (hf : X.env.frame = some X.env.locals) (tk : L2N.Takes X W)
    (hb : ∀ (W' : WX) (pn : List (Addr × Obj)) (xe : Value → Shared → Prop), L2N.Takes (X.tr pn xe) W' → Cd (X.tr pn xe) (WE W') → DSs (X.tr pn xe) S W' body tb)
    (hh : HdD X S cls (h₀ :: hds) l) : DS X S W (.Try body (h₀ :: hds) [] [] pos) (sTry cls tb l) := by
  have hm : MonoSt tb := (hb W X.pn X.xe tk C).mono
  refine ⟨PS.imp (L2N.ps_try_many hs hf tk (tb := fun W' => liftS X.K S W' tb) (fun W' pn xe tk' _ => (hb W' pn xe tk' (cd_tr C tk')).ps) hh.ok) fun De σ H ⟨B0, H0, Bk, B, ρ, E, q⟩ => ?_, ⟨fun {D D' ρ} h1 h2 h3 h4 h5 q => ?_⟩⟩
  · refine ⟨B0, H0, Bk, B, ρ, E, ?_⟩
    exact hm.r (D := { ends X.K S W B0 H0 Bk De with ex := fun x ρ' => hdl cls l x (ends X.K S W B0 H0 Bk De) ρ' }) (fun _ z => z) (fun _ z => z) (fun _ z => z) (fun _ z => z) (fun x ρ z => hh.run x ρ z) q
  · exact hm.r (D := { D with ex := fun x ρ' => hdl cls l x D ρ' }) (D' := { D' with ex := fun x ρ' => hdl cls l x D' ρ' }) h1 h2 h3 h4 (fun x ρ z => hh.mono h1 h2 h3 h4 h5 z) q
end
/-! ### [f, g][i](e, ..) -/
section
variable {X : Cx} {S : List Addr} {Ex : L2.St → XK} {fe e i : Expr} {es : List Expr} {ti : T} {tr : TAd} {pos : Pos}
/-- f is a def of the text -/
structure FnAt (X : Cx) (f : Addr) (sp : Sp) (n : Nat) : Prop where
  ex : ∃ (k : Nat) (fd : FuncData) (ps : List Str), FnOk X.prog X.w X.K X.mg X.base (L2N.CX X.prog X.w) k f fd ps sp ∧ Room k X.A ∧ PySem.W.keepIn X.K (.ref f) = true ∧ Binds X.K fd ps []
def tCallE (X : Cx) (Ex : L2.St → XK) (tf : TE) (t : TA) : TE := fun σ H Q => tf σ H fun v H1 => ∃ f sp, v = .ref f ∧ FnAt X f sp 0 ∧ t σ H1 fun vs H2 => sp vs H2 Q (Ex σ)
theorem pe_callE {tf : TE} {t : TA} (hx : ∀ σ, PassesAt (L2N.CX X.prog X.w) X σ (Ex σ)) (hf : PE X fe tf) (ha : PA X (e :: es) t)
    (ht : eval (.Call fe (e :: es) [] pos) X.env = (do callWith pos (← eval fe X.env) [] (backTo pos (starEach (e :: es) X.env)) (backToKw pos (keywordEach [] X.env))) := by rfl)
    (he : starEach (e :: es) X.env = (false, eval e X.env) :: starEach es X.env := by rfl) (hpl : (backTo pos (starEach es X.env)).any (·.1) = false := by rfl) : PE X (.Call fe (e :: es) [] pos) (tCallE X Ex tf t) := by
  refine ⟨fun pins s σ H Q I h => ?_⟩
  refine Call_ (thn (hf.run pins s σ H _ I h) fun u s1 ⟨y, H1, I1, ry, f, sp, ey, F, q⟩ => ?_) ht
  subst ey
  obtain rfl : u = Value.ref f := ry
  obtain ⟨k, fd, ps, F, hr, hk, hb⟩ := F.ex
  refine PySem.W.callWith_K (h₀ := X.base) I.ok.mod.kin hk (thn (ha.run pos pins s1 σ H1 _ I1 q) fun us s2 ⟨vs, H2, I2, r, q2⟩ => ⟨I2.kIn, ?_⟩) he hpl
  exact run_fnS F hr hb (hx σ) I2 r q2
/-- the functions' names, their specs, by turns -/
@[simp] def tCallL (S : List Addr) (sps : List Spec) (ti : T) (tr : TAd) : T := fun ρ Q E => ti ρ (fun d => match d with
  | .int i => (match atI sps i with
    | some sp => tr ρ (fun ds => sp S ds Q E) E
    | none => False)
  | _ => False) E
/-- names of defs as values -/
inductive FnL (X : Cx) : List Expr → List Addr → List Spec → Prop where
  | nil : FnL X [] [] []
  | cons {x : Str} {p : Pos} {k : Nat} {ps : List Str} {sp : Spec} {es : List Expr} {as : List Addr} {sps : List Spec} {f : Addr} {fd : FuncData} (F : FnOk X.prog X.w X.K X.mg X.base (L2N.CX X.prog X.w) k f fd ps (spD X.K sp)) (hm : X.mg x = some (.ref f)) (hk : PySem.W.keepIn X.K (.ref f) = true) (hb : Binds X.K fd ps [])
      (ms : MonoS sp) (hr : Room k X.A) (hg : Gl X x) (hdb : (x == ("__debug__" : Str)) = false) (hs : starEach (.Name x p :: es) X.env = (false, eval (.Name x p) X.env) :: starEach es X.env) (r : FnL X es as sps) : FnL X (.Name x p :: es) (f :: as) (sp :: sps)
theorem FnL.da {es : List Expr} {as : List Addr} {sps : List Spec} (h : FnL X es as sps) : ∃ tr : TAd, DA X S Ex es tr ∧ ∀ ρ Q E, Q (as.map D.ref) → tr ρ Q E := by
  induction h with
  | nil => exact ⟨tN, da_nil, fun _ _ _ q => q⟩
  | @cons x p k ps sp es as sps f fd F hm hk hb ms hr hg hdb hs r ih =>
    obtain ⟨tr, h1, h2⟩ := ih
    exact ⟨_, da_cons (de_glob hg hm (v := .ref f) rfl (fun _ => .ref) hdb) h1 hs, fun ρ Q E q => h2 _ _ _ q⟩
theorem FnL.at {es : List Expr} {as : List Addr} {sps : List Spec} (h : FnL X es as sps) : ∀ (i : Nat) (sp : Spec), sps[i]? = some sp → ∃ f, as[i]? = some f ∧ FnAt X f (spD X.K sp) 0 ∧ MonoS sp := by
  induction h with
  | nil => intro i sp e; cases i <;> cases e
  | @cons x p k ps sp0 es as sps f fd F hm hk hb ms hr hg hdb hs r ih =>
    intro i sp e
    cases i with
    | zero =>
      cases e
      exact ⟨f, rfl, ⟨k, fd, ps, F, hr, hk, hb⟩, ms⟩
    | succ i => exact ih i sp e
theorem FnL.len {es : List Expr} {as : List Addr} {sps : List Spec} (h : FnL X es as sps) : as.length = sps.length := by
  induction h with
  | nil => rfl
  | cons _ _ _ _ _ _ _ _ _ _ ih => simp [ih]
theorem FnL.ms {es : List Expr} {as : List Addr} {sps : List Spec} (h : FnL X es as sps) : ∀ sp ∈ sps, MonoS sp := fun sp hs => by
  obtain ⟨i, hi, e⟩ := List.mem_iff_getElem.mp hs
  obtain ⟨_, _, _, m⟩ := h.at i sp (by rw [List.getElem?_eq_getElem hi, e])
  exact m
theorem tCallL.mono {sps : List Spec} (ms : ∀ sp ∈ sps, MonoS sp) (mi : Mono ti) (mr : MonoA tr) : Mono (tCallL S sps ti tr) := ⟨fun h he q => mi.r (fun d q => by
  cases d <;> first | exact q.elim | skip
  simp only at q ⊢
  split at q
  · rename_i sp e
    have hm : sp ∈ sps := by
      unfold atI at e
      obtain ⟨j, _, e⟩ := Option.bind_eq_some_iff.mp e
      exact List.mem_of_getElem? e
    exact mr.r (fun ds q => (ms sp hm).r h he q) he q
  · exact q.elim) he q⟩
theorem atI_map {α β : Type} (f : α → β) (xs : List α) (i : Int) : atI (xs.map f) i = (atI xs i).map f := by
  unfold atI
  rw [List.length_map]
  cases ixN xs.length i with
  | none => rfl
  | some j => simp
theorem fnl_nil : ∃ as, FnL X [] as [] := ⟨[], .nil⟩
theorem fnl_cons {x : Str} {p : Pos} {k : Nat} {ps : List Str} {sp : Spec} {es : List Expr} {sps : List Spec} (F : Def X.prog X.w X.K X.mg X.base x k ps sp) (ms : MonoS sp) (hr : Room k X.A) (hg : Gl X x) (r : ∃ as, FnL X es as sps) (hdb : (x == ("__debug__" : Str)) = false := by decide)
    (hs : starEach (.Name x p :: es) X.env = (false, eval (.Name x p) X.env) :: starEach es X.env := by rfl) : ∃ as, FnL X (.Name x p :: es) as (sp :: sps) := by
  obtain ⟨f, fd, F, hm, hk, hb⟩ := F.ex
  obtain ⟨as, r⟩ := r
  exact ⟨f :: as, .cons F hm hk hb ms hr hg hdb hs r⟩
theorem de_callL {fs : List Expr} {sps : List Spec} {lp sp_ : Pos} (C : Cd X Ex) (h : ∃ as, FnL X fs as sps) (hz : sps.length ≤ sizeLine) (hi : DE X S Ex i ti) (hr : DA X S Ex (e :: es) tr) (hix : PlainIx i)
    (ht : eval (.Call (.Subscript (.List fs lp) i sp_) (e :: es) [] pos) X.env = (do callWith pos (← eval (.Subscript (.List fs lp) i sp_) X.env) [] (backTo pos (starEach (e :: es) X.env)) (backToKw pos (keywordEach [] X.env))) := by rfl)
    (he : starEach (e :: es) X.env = (false, eval e X.env) :: starEach es X.env := by rfl) (hpl : (backTo pos (starEach es X.env)).any (·.1) = false := by rfl) :
    DE X S Ex (.Call (.Subscript (.List fs lp) i sp_) (e :: es) [] pos) (tCallL S sps ti tr) := by
  obtain ⟨as, h⟩ := h
  obtain ⟨tl, hl1, hl2⟩ := h.da (S := S) (Ex := Ex)
  have hfe : DE X S Ex (.Subscript (.List fs lp) i sp_) (tBin ixD (tLstD tl) ti) := de_ix C.hu (DE.b (DF.de (df_lst hl1))) hi hix
  refine ⟨PE.imp (pe_callE C.pass hfe.pe hr.pa ht he hpl) (lift.one fun σ B ρ H Q G SO q => ?_), tCallL.mono h.ms hi.mono hr.mono⟩
  refine ⟨B, ρ, G, SO, ?_⟩
  show tBin ixD (tLstD tl) ti ρ _ _
  refine hl2 _ _ _ ⟨by rw [List.length_map, h.len]; exact hz, ?_⟩
  refine hi.mono.r (fun d hd => ?_) (fun _ z => z) q
  cases d with
  | int j =>
    simp only at hd
    split at hd
    · rename_i sp e1
      obtain ⟨n, hn, e2⟩ : ∃ n, ixN sps.length j = some n ∧ sps[n]? = some sp := by
        unfold atI at e1
        exact Option.bind_eq_some_iff.mp e1
      obtain ⟨f, hf, hF, ms⟩ := h.at n sp e2
      have e3 : atI (as.map D.ref) j = some (.ref f) := by
        unfold atI
        rw [List.length_map, h.len, hn]
        simp [hf]
      show ixD (.lst (as.map D.ref)) (.int j) _
      simp only [ixD, e3]
      intro v B1 H1 l r
      cases r
      refine ⟨f, spD X.K sp, rfl, hF, B1, ρ, l.good G, SO.le l, hr.mono.r (fun ds hds vs B2 H2 l2 ra => ?_) (fun x z => ExW.le l x z) hd⟩
      exact ⟨S, B2, ds, l2.good (l.good G), ra, ms.r (fun d hd v B3 H3 l3 r3 => hd v B3 H3 ((l.trans l2).trans l3) r3) (fun x z => ExW.le (l.trans l2) x z) hds⟩
    · exact hd.elim
  | _ => exact hd.elim
end
/-- f of x, or an error -/
def spE {α : Type} (args : α → List D) (pre : List Addr → α → Prop) (res : α → Except Str D) : Spec := fun S ds Q E => ∃ x, ds = args x ∧ pre S x ∧ (match res x with | .ok d => Q d | .error c => E (c, []))
theorem spE.mono {α : Type} {args : α → List D} {pre : List Addr → α → Prop} {res : α → Except Str D} : MonoS (spE args pre res) := ⟨fun h he ⟨x, e, o, q⟩ => ⟨x, e, o, by
  cases hr : res x with
  | ok d => rw [hr] at q; exact h _ q
  | error c => rw [hr] at q; exact he _ q⟩⟩
theorem spE.len {α : Type} {args : α → List D} {pre : List Addr → α → Prop} {res : α → Except Str D} {n : Nat} (h : ∀ x, (args x).length = n) : ∀ S ds Q E, spE args pre res S ds Q E → ds.length = n := fun _ _ _ _ ⟨x, e, _⟩ => by rw [e]; exact h x
/-- any statement, where nothing leads -/
theorem ds_never {X : Cx} {S : List Addr} {W : WX} {st : Stmt} : DS X S W st (fun _ _ => False) := ⟨⟨fun _ _ _ _ _ _ h => by obtain ⟨_, _, _, _, _, _, h⟩ := h; exact h.elim⟩, ⟨fun _ _ _ _ _ q => q⟩⟩
theorem dss_never {X : Cx} {S : List Addr} {W : WX} {st : List Stmt} : DSs X S W st (fun _ _ => False) := ⟨⟨fun _ _ _ _ _ _ h => by obtain ⟨_, _, _, _, _, _, h⟩ := h; exact h.elim⟩, ⟨fun _ _ _ _ _ q => q⟩⟩
end DL

set_option Elab.async false
set_option linter.all false
set_option maxRecDepth 100000
set_option maxHeartbeats 1000000
/-! a, b = [], x -/
namespace DL
open PySem PySem.Spec PySem.W PyProof.Rows L2
theorem tk_of {P : Program} {w : World} {K : PySem.W.Frag} {mg : Str → Option Value} {base : Heap} {N : List Str} {qual : Str} {scope : Scope} {f : Addr} {cdv : Value} {A : Around} {outer : List Env} {s : Shared} {H : Hp} {E : XK} :
    L2N.Takes (cxD P w K mg base N qual scope f cdv A outer s H E) (wE E) := L2N.takes_of rfl rfl rfl rfl
section
variable {X : Cx} {S : List Addr} {W : WX} {pos : Pos} {es : List Expr}
theorem setM_ap {K : PySem.W.Frag} {B0 H0 Bk B H B1 H1 : Hp} {σ : L2.St} {ρ : DEnv} {L : List Addr} (E : EnvOk K S B0 H0 Bk B H σ ρ) (fr : ∀ l ∈ L, H l = none) :
    (∀ l ∈ L, H0 l = none ∧ l ∉ S) ∧ (∀ l ∈ L, ∀ (j : Nat) (f : D), ρ[j]? = some (some (.o f)) → σ[j]? ≠ some (some (.ref l))) := by
  refine ⟨fun l hl => ?_, fun l hl j f q1 q2 => ?_⟩
  · have h0 := fr l hl
    refine ⟨E.2.2.1.old h0, fun z => ?_⟩
    obtain ⟨_, a, b, c, e, _⟩ := E.1.src l z
    rw [h0] at e; cases e
  · obtain ⟨v, h3, l', ev, hb, ow⟩ := E.2.1.at_ j _ q1
    rw [q2] at h3; cases h3; cases ev
    have h0 := fr l hl
    cases f with
    | lst ds => obtain ⟨vs, z, _⟩ := ow; rw [h0] at z; cases z
    | dct ds => obtain ⟨vs, z, _⟩ := ow; rw [h0] at z; cases z
    | _ => exact ow.elim
theorem ds_parM {i j : Nat} {x y : Str} {a b : Expr} {tr : TMd} {px py pt : Pos} {kt k2 pt2} (C : Cd X (WE W)) (hi : X.N[i]? = some x) (hj : X.N[j]? = some y) (hij : i ≠ j)
    (hx : X.env.scope.names.lookup x = some .local) (hy : X.env.scope.names.lookup y = some .local) (ha : DM X S (WE W) [a, b] tr)
    (hw : swappedStores [.Tuple [.Name x px, .Name y py] kt pt] (.Tuple [a, b] k2 pt2) X.env = pure (some [x, y]))
    (hs : swapsWithSole [.Tuple [.Name x px, .Name y py] kt pt] (.Tuple [a, b] k2 pt2) pos.line X.env = pure false := by rfl) :
    DS X S W (.Assign [.Tuple [.Name x px, .Name y py] kt pt] (.Tuple [a, b] k2 pt2) pos) (sTupM [i, j] tr) := by
  refine ⟨PS.imp (ps_par C.calm C.nd hi hj hij hx hy ha.pa hw hs) fun D σ H ⟨B0, H0, Bk, B, ρ, E, q⟩ => ?_, ⟨fun {D D' ρ} h1 h2 h3 h4 h5 q => ha.mono.r (fun d q => ⟨q.1, h1 _ q.2⟩) (fun x q => h5 _ _ q) q⟩⟩
  refine ⟨B, ρ, E.1, E.2.1, ha.mono.r (fun ss hq L vs B1 H1 le fr sl => ?_) (fun x q => ex_of E x q) q⟩
  have ap := setM_ap (B1 := B1) (H1 := H1) E fr
  obtain ⟨v, vs', e1, v2, vs2, e2, e3, hk⟩ := setM_env (is := [i, j]) hq.1.1 (E.le le) sl ap.1 ap.2 rfl fun σ' E' => hq.2 B1 σ' _ E'
  exact ⟨v, v2, by rw [e1, e2, e3], hk⟩
theorem ds_par3M {i j l : Nat} {x y z : Str} {a b c : Expr} {tr : TMd} {px py pz pt : Pos} {kt k2 pt2} (C : Cd X (WE W)) (hi : X.N[i]? = some x) (hj : X.N[j]? = some y) (hl : X.N[l]? = some z) (hij : i ≠ j) (hil : i ≠ l) (hjl : j ≠ l)
    (hx : X.env.scope.names.lookup x = some .local) (hy : X.env.scope.names.lookup y = some .local) (hz : X.env.scope.names.lookup z = some .local) (ha : DM X S (WE W) [a, b, c] tr)
    (hw : swappedStores [.Tuple [.Name x px, .Name y py, .Name z pz] kt pt] (.Tuple [a, b, c] k2 pt2) X.env = pure (some [x, y, z]))
    (hs : swapsWithSole [.Tuple [.Name x px, .Name y py, .Name z pz] kt pt] (.Tuple [a, b, c] k2 pt2) pos.line X.env = pure false := by rfl) :
    DS X S W (.Assign [.Tuple [.Name x px, .Name y py, .Name z pz] kt pt] (.Tuple [a, b, c] k2 pt2) pos) (sTupM [i, j, l] tr) := by
  refine ⟨PS.imp (ps_par3 C.calm C.nd hi hj hl hij hil hjl hx hy hz ha.pa hw hs) fun D σ H ⟨B0, H0, Bk, B, ρ, E, q⟩ => ?_, ⟨fun {D D' ρ} h1 h2 h3 h4 h5 q => ha.mono.r (fun d q => ⟨q.1, h1 _ q.2⟩) (fun x q => h5 _ _ q) q⟩⟩
  refine ⟨B, ρ, E.1, E.2.1, ha.mono.r (fun ss hq L vs B1 H1 le fr sl => ?_) (fun x q => ex_of E x q) q⟩
  have ap := setM_ap (B1 := B1) (H1 := H1) E fr
  obtain ⟨v, vs', e1, v2, vs2, e2, v3, vs3, e3, e4, hk⟩ := setM_env (is := [i, j, l]) hq.1.1 (E.le le) sl ap.1 ap.2 rfl fun σ' E' => hq.2 B1 σ' _ E'
  exact ⟨v, v2, v3, by rw [e1, e2, e3, e4], hk⟩
end
end DL

set_option Elab.async false
set_option linter.all false
set_option maxRecDepth 100000
set_option maxHeartbeats 1000000
/-! return of an owned list -/
namespace DL
open PySem PySem.Spec PySem.W PyProof.Rows L2
section
variable {X : Cx} {S : List Addr} {W : WX} {pos p : Pos}
@[simp] def sRetO (i : Nat) : TSd := fun D ρ => match ρ[i]? with
  | some (some (.o d)) => D.rt (.f d)
  | _ => False
theorem ds_retO (i : Nat) {x : Str} (hN : X.N[i]? = some x := by rfl) (hv : Vis X.env.scope x := by first | exact Or.inl rfl | exact Or.inr (Or.inl rfl) | exact Or.inr (Or.inr rfl)) (hd : (x == ("__debug__" : Str)) = false := by decide)
    (hcd : (x == ("__classdict__" : Str)) = false := by decide) : DS X S W (.Return (some (.Name x p)) pos) (sRetO i) := by
  refine ⟨PS.imp (ps_ret (pv i hN hv hd hcd)) fun D σ H ⟨B0, H0, Bk, B, ρ, E, q⟩ => ?_, ⟨fun {D D' ρ} h1 h2 h3 h4 h5 q => ?_⟩⟩
  · unfold sRetO at q
    split at q
    · rename_i d e
      obtain ⟨v, h1, l, rfl, hb, ow⟩ := E.2.1.at_ i _ e
      exact ⟨_, h1, q (.ref l) B H E.2.2.1 ⟨l, rfl, E.2.2.2.2 i d l e h1, hb, ow⟩⟩
    · exact q.elim
  · unfold sRetO at *
    split at q
    · exact h2 _ q
    · exact q.elim
end
end DL

set_option Elab.async false
set_option linter.all false
set_option maxRecDepth 100000
set_option maxHeartbeats 1000000
/-! zip of two lists or of two tuples -/
namespace DL
open PySem PySem.Spec PySem.W PyProof.Rows L2 RZ
section
variable {X : Cx} {S : List Addr} {Ex : L2.St → XK} {tr : TAd} {e e2 : Expr} {pos p : Pos}
@[simp] def zipA (Q : List D → Prop) : List D → Prop
  | [.lst xs, .lst ys] => Q (zipL xs ys)
  | [.tup xs, .tup ys] => Q (zipL xs ys)
  | _ => False
theorem zipA.imp {Q Q' : List D → Prop} (h : ∀ b, Q b → Q' b) : ∀ d, zipA Q d → zipA Q' d := fun d q => by
  unfold zipA at *
  split at q
  · exact h _ q
  · exact h _ q
  · exact q.elim
@[simp] def tZipA (tr : TAd) : TAd := fun ρ Q E => tr ρ (zipA Q) E
theorem wk_zT {K : PySem.W.Frag} {a b : Addr} {vs ws : List V} {ds es : List D} {B H : Hp} (g : Good S B H) (h : SqT K H a vs) (r : RpA K B vs ds) (h' : SqT K H b ws) (r' : RpA K B ws es) : Wk K S (ItzT K a b) (zipL ds es) B H := by
  refine fun i => ⟨fun d hd => ?_, fun hi => ⟨vs, ws, h, h', ?_⟩⟩
  · obtain ⟨x, y, hx, hy, rfl⟩ := zipL_get hd
    obtain ⟨v, hv, rv⟩ := r.get hx
    obtain ⟨w, hw, rw'⟩ := r'.get hy
    refine ⟨⟨vs, ws, v, w, h, h', hv, hw⟩, fun u H' q => ?_⟩
    obtain ⟨T, x2, y2, rfl, hT, rfl, hx2, hy2⟩ := q
    have e1 := hx2 vs h
    have e2 := hy2 ws h'
    rw [hv] at e1; cases e1
    rw [hw] at e2; cases e2
    refine ⟨_, Le.laid g hT, .tup (.inl upd_same) (by rw [sizeLine_eq]; exact (by decide : 2 ≤ 16777216)) ?_⟩
    have k : Keep B (upd B T (.tup [v, w])) := fun b u z => by rw [upd_ne (ne_of_none z (g.bnone hT))]; exact z
    exact .cons (rv.mono k) (.cons (rw'.mono k) .nil)
  · rw [r.length, r'.length]
    simp only [zipL, List.length_map, List.length_zip] at hi
    omega
theorem dib_zipA {elts : List Expr} {kk : Nat} {tpos : Pos} (hg : Gl X "zip") (hm : X.mg "zip" = none) (ha : DAB X S Ex [e, e2] tr)
    (hs : starEach [e, e2] X.env = (false, eval e X.env) :: starEach [e2] X.env := by rfl) (hpl : (backTo pos (starEach [e2] X.env)).any (·.1) = false := by rfl) : DIB X S Ex (.Tuple elts kk tpos) (.Call (.Name "zip" p) [e, e2] [] pos) (tZipA tr) := by
  refine ⟨PI.imp (pi_zipA hg hm ha.pa hs hpl) fun σ H Q ⟨B, ρ, G, SO, q⟩ => ?_, ⟨fun h he q => ha.mono.r (zipA.imp h) he q⟩⟩
  refine ⟨B, ρ, G, SO, ha.mono.r (fun ds hd vs B1 H1 l1 r1 => ?_) (fun _ z => z) q⟩
  unfold zipA at hd
  split at hd
  · rename_i xs ys
    cases r1 with | cons h1 h2 =>
    cases h2 with | cons h2 h3 =>
    cases h3
    have hz := h1.len
    have k1 := h1
    have k2 := h2
    obtain ⟨a, vs, rfl, e1, r⟩ := h1.lst
    obtain ⟨b, ws, rfl, e2, r'⟩ := h2.lst
    refine ⟨a, b, vs, ws, rfl, .inl ⟨SqL.of e1, SqL.of e2, hd _ B1 H1 l1 ⟨?_, fun B2 H2 l2 g => ?_⟩⟩⟩
    · simp only [zipL, List.length_map, List.length_zip]; omega
    · obtain ⟨a', vs', ea, e3, r3⟩ := (k1.le l2).lst
      obtain ⟨b', ws', eb, e4, r4⟩ := (k2.le l2).lst
      cases ea; cases eb
      exact wk_z g e3 r3 e4 r4
  · rename_i xs ys
    cases r1 with | cons h1 h2 =>
    cases h2 with | cons h2 h3 =>
    cases h3
    have G1 := l1.good G
    have h1 : Rp X.K B1 _ (.tup xs) := h1
    have h2 : Rp X.K B1 _ (.tup ys) := h2
    have hz := Rp.lenT h1
    cases h1 with
    | @tup a vs _ q1 _ r =>
    cases h2 with
    | @tup b ws _ q2 _ r' =>
    refine ⟨a, b, vs, ws, rfl, .inr ⟨G1.sub.sqT q1, G1.sub.sqT q2, hd _ B1 H1 l1 ⟨?_, fun B2 H2 l2 g => ?_⟩⟩⟩
    · simp only [zipL, List.length_map, List.length_zip]; omega
    · exact wk_zT g (g.sub.sqT (q1.imp (l2.base _ _) id)) (r.mono l2.base) (g.sub.sqT (q2.imp (l2.base _ _) id)) (r'.mono l2.base)
  · exact hd.elim
end
end DL

set_option Elab.async false
set_option linter.all false
set_option maxRecDepth 100000
set_option maxHeartbeats 2000000
/-! zip while an error is handled: its end -/
namespace HZ
open PySem PySem.Spec PyProof.Rows L2 HotX L2H
section
variable {prog : Program} {w : World} {A : Around} {E : Value → Shared → Prop} {s : Shared}
/-- the end of a list's iterator, an error being handled -/
theorem next_end {q l x1 : Addr} {n : Nat} {vs : Array Value} {R : Value → Shared → Prop} (hot : HotAt A x1 s.heap) (hx1 : x1 ≠ q)
    (hq : s.heap.IsListIter q l n) (hv : s.heap.IsList l vs) (hn : vs[n]? = none)
    (k : ∀ g e, Heap.ExtBut q s.heap g → (∃ o, g.get? e = some o ∧ o.cls = .type "StopIteration") → E (.ref e) { s with heap := g }) :
    wpAny (model prog w) A (Builtin.SmallTypes.nextOf (.ref q)) R E s := by
  have hq0 := hq
  obtain ⟨oq, gq, cq, dq⟩ := hq
  obtain ⟨ov, gv, _, nv, dv⟩ := hv
  obtain ⟨hh, o1, f1, g1, d1, n1⟩ := hot
  unfold Builtin.SmallTypes.nextOf
  refine wpAny_bind (wpAny_callSpecial?_slot (name := Str.ofString "__next__") hq0.typeIs slot_listiter_next (wpAny_call_entry slot_listiter_next hq0.typeIs entry_listiter_next ?_ (args_listiter_next _)))
  show wpAny _ _ (field (.ref q) 0 >>= _) _ _ s
  refine wpAny_bind (wpAny_field gq dq (x := .ref l) rfl ?_)
  show wpAny _ _ (if (Value.ref l == Value.none) = true then _ else _) _ _ s
  rw [show (Value.ref l == Value.none) = false from rfl, if_neg Bool.false_ne_true]
  show wpAny _ _ (field (.ref q) 1 >>= _) _ _ s
  refine wpAny_bind (wpAny_field gq dq (x := .int n 0) rfl ?_)
  show wpAny _ _ (seqItems? (.ref l) >>= _) _ _ s
  refine wpAny_bind (wpAny_seqItems gv dv ?_)
  simp only [Int.toNat_natCast, hn]
  refine wpAny_bind (wpAny_rule (wpAny_bind (wpAny_setField gq dq (by simp) ?_)))
  show wpAny _ _ (newExc (.type "StopIteration") [] >>= _) _ _ _
  refine wpAny_bind ?_
  simp only [newExc, newTuple]
  refine wpAny_bind (wpAny_newObj_type ?_ (by size_fits))
  refine wpAny_bind (m := firstArgMember _ _) (wpAny_of_eq (a := Value.none) (by first | rfl | (simp only [firstArgMember]; rfl)) ?_)
  refine wpAny_newObj_type ?_ (by size_fits)
  have g1' := (Heap.get?_update_other s.heap (Obj.mapFields (·.setIfInBounds 0 Value.none)) hx1.symm).trans g1
  refine raiseNew_hot ⟨hh, o1, f1, Heap.get?_push_of_some _ (Heap.get?_push_of_some _ g1'), d1, n1⟩ (Nat.ne_of_lt (Heap.lt_size (Heap.get?_push_of_some _ g1'))) (Heap.get?_push_size _ rfl) rfl (by first | (simp; done) | (simp; omega) | (simp only [Array.size_append]; simp; omega)) ?_
  refine k _ _ (fun c o hc gc => ?_) ⟨_, Heap.get?_update_self _ (Heap.get?_push_size _ rfl) rfl, rfl⟩
  have gc' := Heap.get?_push_of_some { cls := .type "tuple", data := .seq ([] : List Value).toArray } ((Heap.get?_update_other s.heap (Obj.mapFields (·.setIfInBounds 0 Value.none)) (Ne.symm hc)).trans gc)
  rw [Heap.get?_update_other _ _ (Nat.ne_of_gt (Heap.lt_size gc'))]
  exact Heap.get?_push_of_some _ gc'
/-- the end of a tuple's iterator, an error being handled -/
theorem tup_end {q l x1 : Addr} {n : Nat} {vs : Array Value} {R : Option Value → Shared → Prop} (hot : HotAt A x1 s.heap) (hx1 : x1 ≠ q) (hq : IsTupIter s.heap q l n) (hv : IsTup s.heap l vs) (hn : vs[n]? = none)
    (k : ∀ g, Heap.ExtBut q s.heap g → R none { s with heap := g }) : wpAny (model prog w) A (pyNext (.ref q)) R E s := by
  have ty := hq.typeIs
  obtain ⟨oq, gq, cq, dq⟩ := hq
  obtain ⟨ov, gv, _, nv, dv⟩ := hv
  obtain ⟨hh, o1, f1, g1, d1, n1⟩ := hot
  unfold pyNext
  refine wpAny_bind (wpAny_attempt (wpAny_callSpecial?_slot (name := Str.ofString "__next__") ty slot_tupleiter_next (wpAny_call_entry slot_tupleiter_next ty entry_tupleiter_next ?_ (args_tupleiter_next _))))
  show wpAny _ _ (field (.ref q) 0 >>= _) _ _ s
  refine wpAny_bind (wpAny_field gq dq (x := .ref l) rfl ?_)
  show wpAny _ _ (if (Value.ref l == Value.none) = true then _ else _) _ _ s
  rw [show (Value.ref l == Value.none) = false from rfl, if_neg Bool.false_ne_true]
  show wpAny _ _ (field (.ref q) 1 >>= _) _ _ s
  refine wpAny_bind (wpAny_field gq dq (x := .int n 0) rfl ?_)
  show wpAny _ _ (seqItems? (.ref l) >>= _) _ _ s
  refine wpAny_bind (wpAny_seqItems gv dv ?_)
  simp only [Int.toNat_natCast, hn]
  refine wpAny_bind (wpAny_rule (wpAny_bind (wpAny_setField gq dq (by simp) ?_)))
  show wpAny _ _ (newExc (.type "StopIteration") [] >>= _) _ _ _
  refine wpAny_bind ?_
  simp only [newExc, newTuple]
  refine wpAny_bind (wpAny_newObj_type ?_ (by size_fits))
  refine wpAny_bind (m := firstArgMember _ _) (wpAny_of_eq (a := Value.none) (by first | rfl | (simp only [firstArgMember]; rfl)) ?_)
  refine wpAny_newObj_type ?_ (by size_fits)
  have g1' := (Heap.get?_update_other s.heap (Obj.mapFields (·.setIfInBounds 0 Value.none)) hx1.symm).trans g1
  refine raiseNew_hot ⟨hh, o1, f1, Heap.get?_push_of_some _ (Heap.get?_push_of_some _ g1'), d1, n1⟩ (Nat.ne_of_lt (Heap.lt_size (Heap.get?_push_of_some _ g1'))) (Heap.get?_push_size _ rfl) rfl (by first | (simp; done) | (simp; omega) | (simp only [Array.size_append]; simp; omega)) ?_
  refine wpAny_bind (wpAny_isInstance (T := "StopIteration") (b := true) ⟨_, Heap.get?_update_self _ (Heap.get?_push_size _ rfl) rfl, rfl⟩ isSubtype_stop (wpAny_pure (k _ fun c o hc gc => ?_)))
  have gc' := Heap.get?_push_of_some { cls := .type "tuple", data := .seq ([] : List Value).toArray } ((Heap.get?_update_other s.heap (Obj.mapFields (·.setIfInBounds 0 Value.none)) (Ne.symm hc)).trans gc)
  rw [Heap.get?_update_other _ _ (Nat.ne_of_gt (Heap.lt_size gc'))]
  exact Heap.get?_push_of_some _ gc'
/-- (a, b, ..) = a tuple, an error being handled -/
theorem assign_hot {env : Env} {elts : List Expr} {kk : Nat} {pos : Pos} {t x1 : Addr} {vs : Array Value} {R : Unit → Shared → Prop} (hot : HotAt A x1 s.heap) (ht : IsTup s.heap t vs) (hn : (assignEach elts env).length = vs.size) (hst : (assignEach elts env).findIdx? (·.1) = none)
    (k : ∀ g, Heap.ExtBut s.heap.objs.size s.heap g → wpAny (model prog w) A (assignInOrder ((assignEach elts env).map (·.2)) vs.toList) R E { s with heap := g }) : wpAny (model prog w) A (assign (.Tuple elts kk pos) env (.ref t)) R E s := by
  have apart : t ≠ s.heap.objs.size := by obtain ⟨o, ho, _⟩ := ht; exact Nat.ne_of_lt (Heap.lt_size ho)
  obtain ⟨hh, o1, f1, g1, rest⟩ := hot
  have apart1 : x1 ≠ s.heap.objs.size := Nat.ne_of_lt (Heap.lt_size g1)
  rw [assign_Tuple]
  refine wpAny_bind (wpAny_standAt ?_)
  unfold unpack
  rw [hn, hst]
  refine wpAny_bind (wpAny_holding ?_)
  unfold unpackItems notIterableAtAll
  refine wpAny_bind (wpAny_bind (wpAny_specialOf ht.typeIs slot_tuple_iter.lookup (wpAny_pure ?_)))
  simp only [Bool.false_eq_true, if_false]
  refine wpAny_bind (wpAny_holding (iter_tuple ht (wpAny_bind (wpAny_holding (draw_tuple apart vs.size 0 _ _ ⟨_, Heap.get?_push_size _ rfl, rfl, rfl⟩ (ht.push _) (by omega) fun g itg sg => ?_)))))
  rw [List.drop_zero, List.take_of_length_le (by simp), if_neg (by simp)]
  refine wpAny_bind (wpAny_holding (tup_end ⟨hh, o1, f1, sg.extBut _ _ apart1 (Heap.get?_push_of_some _ g1), rest⟩ apart1 itg ((ht.push _).extBut sg.extBut apart) (by simp) fun f ef => ?_))
  simp only [Option.isSome_none, Bool.false_eq_true, if_false]
  exact wpAny_pure (k f fun c o hc y => ef c o hc (sg.extBut c o hc (Heap.get?_push_of_some _ y)))
/-- the heap's other things -/
def Kept4 (z t q r : Addr) (h g : Heap) : Prop := ∀ c o, c ≠ z → c ≠ t → c ≠ q → c ≠ r → h.get? c = some o → g.get? c = some o
theorem HotAt.to {x1 : Addr} {h g : Heap} (hot : HotAt A x1 h) (k : ∀ o, h.get? x1 = some o → g.get? x1 = some o) : HotAt A x1 g := by
  obtain ⟨hh, o1, f1, g1, r⟩ := hot
  exact ⟨hh, o1, f1, k _ g1, r⟩
theorem zip_end {z ti t q r l m x1 : Addr} {i j : Nat} {us vs : Array Value} {u v : Value} {R : Fin → Shared → Prop} (hot : HotAt A x1 s.heap) (nx : x1 ≠ z ∧ x1 ≠ t ∧ x1 ≠ q ∧ x1 ≠ r) (D : ZipApart z ti t q r l m)
    (hz : IsZip s.heap z ti t .none) (hti : IsPair s.heap ti (.ref q) (.ref r)) (ht : IsPair s.heap t u v) (hq : s.heap.IsListIter q l i) (hr : s.heap.IsListIter r m j)
    (hl : s.heap.IsList l us) (hm : s.heap.IsList m vs) (stop : us[i]? = none ∨ vs[j]? = none)
    (k : ∀ g e, Kept4 z t q r s.heap g → (∃ o, g.get? e = some o ∧ o.cls = .type "StopIteration") → E (.ref e) { s with heap := g }) :
    wpAny (model prog w) A (Builtin.«zip.__next__» ⟨[.ref z], []⟩) R E s := by
  obtain ⟨nz, nt, nq, nr⟩ := nx
  -- the last step: the zip is marked, the error goes on
  have last : ∀ {h1 : Heap} {e : Addr}, Kept4 z t q r s.heap h1 → IsZip h1 z ti t .ellipsis → (∃ o, h1.get? e = some o ∧ o.cls = .type "StopIteration") →
      ∀ g, Heap.SameBut z h1 g → E (.ref e) { s with heap := g } := fun {h1 e} kp hz1 he g sb => by
    obtain ⟨o, ge, ce⟩ := he
    have ne : e ≠ z := fun x => by
      rw [x, hz1] at ge
      cases ge
      exact absurd ce (by simp)
    exact k g e (fun c o a b c' d y => sb.extBut _ _ a (kp c o a b c' d y)) ⟨o, sb.extBut _ _ ne ge, ce⟩
  show wpAny _ _ (field (.ref z) 2 >>= _) _ _ _
  refine wpAny_bind (wpAny_field hz rfl (x := .bool false) rfl ?_)
  show wpAny _ _ (field (.ref z) 3 >>= _) _ _ _
  refine wpAny_bind (wpAny_field hz rfl (x := .ref ti) rfl (wpAny_bind (wpAny_seqItems hti rfl ?_)))
  show wpAny _ _ (Builtin.SmallTypes.ownedTupleIsFree (.ref z) >>= _) _ _ _
  unfold Builtin.SmallTypes.ownedTupleIsFree
  refine wpAny_bind (wpAny_bind (wpAny_field hz rfl (x := .none) rfl (wpAny_pure ?_)))
  simp only [if_true]
  refine wpAny_bind (wpAny_rule (wpAny_bind (wpAny_field hz rfl (x := .ref t) rfl (wpAny_bind (wpAny_setField_rec hz (by simp) fun a za sa => ?_)))))
  have za : IsZip a z ti t .ellipsis := za
  have ka : Kept4 z t q r s.heap a := fun c o c1 _ _ _ y => sa.extBut _ _ c1 y
  refine wpAny_bind ?_
  simp only [List.zipIdx_cons, List.zipIdx_nil, List.forIn_cons, List.forIn_nil]
  refine wpAny_bind (wpAny_bind (wpAny_onRaise ?_))
  show wpAny _ _ (Builtin.SmallTypes.nextOf (.ref q) >>= _) _ _ _
  have qa := hq.extBut sa.extBut D.i1z
  have la := hl.extBut sa.extBut D.l1z
  cases hi : us[i]? with
  | none =>
    refine wpAny_bind (next_end (HotAt.to hot fun o y => sa.extBut _ _ nz y) nq qa la hi fun b e sb he => ?_)
    exact wpAny_setField_rec (sb _ _ D.i1z.symm za) (by simp) fun g _ sg => last (fun c o c1 c2 c3 c4 y => sb _ _ c3 (ka c o c1 c2 c3 c4 y)) (sb _ _ D.i1z.symm za) he g sg
  | some x =>
    have hj : vs[j]? = none := stop.elim (fun h => by rw [hi] at h; cases h) id
    refine wpAny_bind (wpAny_nextOf_list_item qa la hi fun b qb sb => wpAny_pure ?_)
    have tb : IsPair b t u v := sb.extBut _ _ D.TOi1 (sa.extBut _ _ D.TOz ht)
    refine wpAny_bind (wpAny_seqItems tb rfl (wpAny_bind (wpAny_updateSeq_pair tb fun c tc sc => wpAny_bind (wpAny_letGo (wpAny_pure ?_)))))
    refine wpAny_bind (wpAny_bind (wpAny_onRaise ?_))
    show wpAny _ _ (Builtin.SmallTypes.nextOf (.ref r) >>= _) _ _ _
    have kc : Kept4 z t q r s.heap c := fun d o d1 d2 d3 d4 y => sc.extBut _ _ d2 (sb.extBut _ _ d3 (sa.extBut _ _ d1 y))
    have zc : IsZip c z ti t .ellipsis := sc.extBut _ _ D.TOz.symm (sb.extBut _ _ D.i1z.symm za)
    refine wpAny_bind (next_end (HotAt.to hot fun o y => kc _ o nz nt nq nr y) nr (((hr.extBut sa.extBut D.i2z).extBut sb.extBut D.i12.symm).extBut sc.extBut D.TOi2.symm)
      (((hm.extBut sa.extBut D.l2z).extBut sb.extBut D.l2i1).extBut sc.extBut D.l2TO) hj fun d e sd he => ?_)
    exact wpAny_setField_rec (sd _ _ D.i2z.symm zc) (by simp) fun g _ sg => last (fun c' o c1 c2 c3 c4 y => sd _ _ c4 (kc c' o c1 c2 c3 c4 y)) (sd _ _ D.i2z.symm zc) he g sg
theorem py_end {z ti t q r l m x1 : Addr} {i j : Nat} {us vs : Array Value} {u v : Value} {R : Option Value → Shared → Prop} (hot : HotAt A x1 s.heap) (nx : x1 ≠ z ∧ x1 ≠ t ∧ x1 ≠ q ∧ x1 ≠ r) (D : ZipApart z ti t q r l m)
    (hz : IsZip s.heap z ti t .none) (hti : IsPair s.heap ti (.ref q) (.ref r)) (ht : IsPair s.heap t u v) (hq : s.heap.IsListIter q l i) (hr : s.heap.IsListIter r m j)
    (hl : s.heap.IsList l us) (hm : s.heap.IsList m vs) (stop : us[i]? = none ∨ vs[j]? = none) (k : ∀ g, Kept4 z t q r s.heap g → R none { s with heap := g }) : wpAny (model prog w) A (pyNext (.ref z)) R E s := by
  have ty : s.TypeIs (.ref z) "zip" := ⟨_, hz, rfl⟩
  unfold pyNext
  refine wpAny_bind (wpAny_attempt (wpAny_callSpecial?_slot (name := Str.ofString "__next__") ty F.slot_zip_next (wpAny_call_entry F.slot_zip_next ty F.entry_zip_next
    (zip_end (A := A.in1) hot nx D hz hti ht hq hr hl hm stop fun g e kg ⟨o, ge, ce⟩ => ?_) (F.args_zip_next_1 _))))
  exact wpAny_bind (wpAny_isInstance (T := "StopIteration") (b := true) ⟨o, ge, ce⟩ isSubtype_stop (wpAny_pure (k _ kg)))
end
/-- where the zip stands at turn i -/
def ZAt (z ti t q r a b : Addr) (i : Nat) (h : Heap) : Prop := IsZip h z ti t .none ∧ IsPair h ti (.ref q) (.ref r) ∧ (∃ x y, IsPair h t x y) ∧ h.IsListIter q a i ∧ h.IsListIter r b i
abbrev zfp (z ti t q r : Addr) : List Addr := [z, ti, t, q, r]
section
variable {X : Cx} {elts : List Expr} {kk : Nat} {tpos : Pos}
theorem zip_step {pins : List (Addr × Obj)} {s : Shared} {σ : L2.St} {H : Hp} {E : Value → Shared → Prop} {z ti t q r a b : Addr} {i : Nat} (D : ZipApart z ti t q r a b) (I : Inv X pins σ H s) (fp : ∀ c ∈ zfp z ti t q r, FpOk X pins H c) (st : ZAt z ti t q r a b i s.heap) (go : (Itz X.K a b).go i H) :
    wpAny (model X.prog X.w) X.A (pyNext (.ref z)) (fun o s1 => ∃ u, o = some u ∧ wpAny (model X.prog X.w) X.A (letOwnedTupleGo (.Tuple elts kk tpos) (.ref z) u)
      (fun _ s2 => ∃ x G, Inv X pins σ G s2 ∧ RelV x u ∧ (Itz X.K a b).yld i H x G ∧ ZAt z ti t q r a b (i + 1) s2.heap ∧ ∀ c ∈ zfp z ti t q r, G c = none) E s1) E s := by
  obtain ⟨hz, hti, ⟨_, _, ht⟩, hq, hr⟩ := st
  obtain ⟨us, vs, u, v, qu, qv, eu, ev⟩ := go
  obtain ⟨iu, ru, pu, _⟩ := I.list qu
  obtain ⟨iv, rv, pv, _⟩ := I.list qv
  obtain ⟨wu, gu, lu⟩ := ru.get eu
  obtain ⟨wv, gv, lv⟩ := rv.get ev
  have old : ∀ {c : Addr} {o : Obj}, s.heap.get? c = some o → s.heap.objs.size ≠ c := fun y => Nat.ne_of_gt (Heap.lt_size y)
  have isOld : ∀ c ∈ zfp z ti t q r, s.heap.objs.size ≠ c := fun c hc => by
    obtain ⟨o, y, _⟩ := (turn_zip (P := X.prog) (w := X.w) (K := X.K) (elts := elts) (kk := kk) (tpos := tpos) D).obj i s.heap ⟨hz, hti, ⟨_, _, ht⟩, hq, hr⟩ c hc
    exact old y
  refine wpAny_pyNext_zip_item D hz hti ht hq hr pu.isList pv.isList (x := wu) (y := wv) (by simpa using gu) (by simpa using gv) fun g zg tg qg rg pg ng kg => ⟨_, rfl, wpAny_letOwnedTupleGo_zip (s := { s with heap := g }) zg fun f zf sf => ?_⟩
  have pf : f.get? s.heap.objs.size = some { cls := .type "tuple", data := .seq #[wu, wv] } := (sf.2 _ (isOld z (by simp))).trans pg
  have kept : ∀ c o, c ∉ zfp z ti t q r → s.heap.get? c = some o → f.get? c = some o := fun c o nc y => by
    have m : ∀ d ∈ zfp z ti t q r, c ≠ d := fun d hd e => nc (e ▸ hd)
    exact (sf.2 c (m z (by simp))).trans (kg c o (m z (by simp)) (m t (by simp)) (m q (by simp)) (m r (by simp)) y)
  refine ⟨.ref s.heap.objs.size, upd H s.heap.objs.size (.tup [u, v]), I.turnedNew (t' := s.toks) (ch := zfp z ti t q r) kept fp (Nat.le_refl _) ⟨by show 2 ≤ sizeLine; decide, [wu, wv], .cons lu (.cons lv .nil), ⟨_, pf, rfl, _, rfl⟩⟩, rfl,
    ⟨_, u, v, rfl, I.hok.fresh (Nat.le_refl _), rfl, fun _ h => by rw [I.list_inj h qu]; exact eu, fun _ h => by rw [I.list_inj h qv]; exact ev⟩, ?_, fun c hc => ?_⟩
  · exact ⟨zf, (sf.2 _ D.TIz).trans (kg _ _ D.TIz D.TITO D.TIi1 D.TIi2 hti), ⟨_, _, (sf.2 _ D.TOz).trans tg⟩, qg.at fun o y => (sf.2 _ D.i1z).trans y, rg.at fun o y => (sf.2 _ D.i2z).trans y⟩
  · rw [upd_ne (isOld c hc).symm]
    exact (fp c hc).1
theorem zip_stop {pins : List (Addr × Obj)} {s : Shared} {σ : L2.St} {H : Hp} {E : Value → Shared → Prop} {z ti t q r a b x1 : Addr} {i : Nat} (D : ZipApart z ti t q r a b) (hot : HotAt X.A x1 s.heap) (nx : x1 ∉ zfp z ti t q r) (I : Inv X pins σ H s) (fp : ∀ c ∈ zfp z ti t q r, FpOk X pins H c)
    (st : ZAt z ti t q r a b i s.heap) (stop : (Itz X.K a b).stop i H) : wpAny (model X.prog X.w) X.A (pyNext (.ref z)) (fun o s1 => o = none ∧ Inv X pins σ H s1) E s := by
  obtain ⟨hz, hti, ⟨_, _, ht⟩, hq, hr⟩ := st
  obtain ⟨us, vs, qu, qv, hd⟩ := stop
  obtain ⟨iu, ru, pu, _⟩ := I.list qu
  obtain ⟨iv, rv, pv, _⟩ := I.list qv
  have nu := ru.length
  have nv := rv.length
  have m : ∀ d ∈ zfp z ti t q r, x1 ≠ d := fun d hd e => nx (e ▸ hd)
  refine py_end hot ⟨m z (by simp), m t (by simp), m q (by simp), m r (by simp)⟩ D hz hti ht hq hr pu.isList pv.isList (hd.imp (fun h => by simp; omega) fun h => by simp; omega) fun g kg => ⟨rfl, ?_⟩
  exact I.turnedL (t' := s.toks) (ch := zfp z ti t q r) (fun c o nc y => kg c o (fun e => nc (by simp [e])) (fun e => nc (by simp [e])) (fun e => nc (by simp [e])) (fun e => nc (by simp [e])) y) fp
/-- the core of it -/
theorem lcZ_core {pins : List (Addr × Obj)} {s : Shared} {σ : L2.St} {H : Hp} {Q : VK} {e e2 : Expr} {ta : TA} {p pz pos pos' : Pos} {elt : Expr} {ifs : List Expr} {scope : Scope} {own : List (Str × Nat)} {gs : TGs} {n : Nat} {tt : TT} {te : TE} {use : Option (Value → Sem Unit)} {Qf : Value → Shared → Prop}
    (hot : HotC X) (hN : X.N.Nodup) (I : Inv X pins σ H s) (hg0 : Gl X "zip") (hm : X.mg "zip" = none) (ha : PA X [e, e2] ta) (ok : BlkOk X.N X.env.scope scope own)
    (hg : ∀ (s : Shared) (H : Hp) (C : Addr) (cl : List (Str × Addr)) (fp : List Addr), PGs (X.blk s H scope (compEnvC scope cl C X.env) fp) elts gs)
    (hgn : ∀ (C : Addr) (cl : List (Str × Addr)), (assignEach elts (compEnvC scope cl C X.env)).length = n) (hgs : ∀ (C : Addr) (cl : List (Str × Addr)), (assignEach elts (compEnvC scope cl C X.env)).findIdx? (·.1) = none)
    (ht : ∀ (s : Shared) (H : Hp) (C : Addr) (cl : List (Str × Addr)) (fp : List Addr), PTs (X.blk s H scope (compEnvC scope cl C X.env) fp) ifs tt)
    (he : ∀ (s : Shared) (H : Hp) (C : Addr) (cl : List (Str × Addr)) (fp : List Addr), PE (X.blk s H scope (compEnvC scope cl C X.env) fp) elt te)
    (hs : starEach [e, e2] X.env = (false, eval e X.env) :: starEach [e2] X.env) (hpl : (backTo pz (starEach [e2] X.env)).any (·.1) = false)
    (hf : ∀ x, foldedSetIterable (.Call (.Name "zip" p) [e, e2] [] pz) X.env x = pure x) (h : tLc (iZip X.K ta) (gTup X.K n gs) tt te (own.map (·.2)) σ H Q)
    (fin : ∀ D C s' m H', Inv X pins σ H' s' → Q (.ref D) H' → s'.heap.Ns C m → FpOk X pins H' C → compPost (model X.prog X.w) X.A X.xe use Qf (.ref D) C (.ok .next) s') :
    wpAny (model X.prog X.w) X.A (comprehension (.ListComp elt [⟨.Tuple elts kk tpos, .Call (.Name "zip" p) [e, e2] [] pz, ifs, 0⟩] scope pos) scope X.env pos' (newList []) false (eval (.Call (.Name "zip" p) [e, e2] [] pz) X.env) use) Qf X.xe s := by
  have clo : ∀ y ∈ scope.names, y.2 = .free → ∃ c, X.env.cells.lookup y.1 = some c := fun y hy ey => I.ok.has _ (ok.free y hy ey)
  refine wpAny_comprehension_free (use := use) rfl hf (closure_ok clo) ok.kind (fun y hy ey => by rw [ok.uniq y hy, ey]) ?_
  refine Call_ (ld_blt I hg0 hm PyProof.Rows.boot_zip (PyProof.Rows.callWith_type1 (thn (ha.run pz pins s σ H _ I h) fun ws s1 hw => ?_) hs hpl))
  obtain ⟨_, H1, I1, rw1, a, b, xs, ys, rfl, qa, qb, q⟩ := hw
  obtain ⟨ia, ra, pa, _⟩ := I1.list qa
  obtain ⟨ib, rb, pb, _⟩ := I1.list qb
  cases rw1 with | cons r1 rw1 =>
  cases rw1 with | cons r2 rw1 =>
  cases rw1
  cases r1
  cases r2
  refine call_zip_2 pa.isList pb.isList fun h2 hz hti htp hq hr _ k2 => wpAny_pyIter_zip hz ?_
  have D := PySem.W.ktu_apart s1.heap.objs.size a b pa.lt pb.lt
  have I2 : Inv X pins σ H1 { s1 with heap := h2 } := I1.kept (t' := s1.toks) k2
  have st2 : ZAt _ _ _ _ _ a b 0 h2 := ⟨hz, hti, ⟨_, _, htp⟩, hq, hr⟩
  have fresh : ∀ c ∈ zfp (s1.heap.objs.size + 4) (s1.heap.objs.size + 2) (s1.heap.objs.size + 3) s1.heap.objs.size (s1.heap.objs.size + 1), FpOk X pins H1 c ∧ c < h2.objs.size := fun c hc => by
    have le : s1.heap.objs.size ≤ c ∧ c < h2.objs.size := by
      rw [‹h2.objs.size = _›]
      simp only [zfp, List.mem_cons, List.not_mem_nil, or_false] at hc
      rcases hc with rfl | rfl | rfl | rfl | rfl
      · exact ⟨Nat.le_add_right _ _, Nat.add_lt_add_left (by decide) _⟩
      · exact ⟨Nat.le_add_right _ _, Nat.add_lt_add_left (by decide) _⟩
      · exact ⟨Nat.le_add_right _ _, Nat.add_lt_add_left (by decide) _⟩
      · exact ⟨Nat.le_refl _, Nat.lt_add_of_pos_right (by decide)⟩
      · exact ⟨Nat.le_add_right _ _, Nat.add_lt_add_left (by decide) _⟩
    exact ⟨I1.fpOk le.1 (I1.hok.fresh le.1), le.2⟩
  generalize s1.heap.objs.size + 4 = z at hz D st2 fresh ⊢
  generalize s1.heap.objs.size + 2 = ti at hz hti D st2 fresh ⊢
  generalize s1.heap.objs.size + 3 = t at hz htp D st2 fresh ⊢
  generalize s1.heap.objs.size + 1 = r at hti hr D st2 fresh ⊢
  generalize s1.heap.objs.size = q1 at hti hq D st2 fresh ⊢
  generalize hfp : zfp z ti t q1 r = fp at fresh
  clear hz hti htp hq hr
  generalize hs2 : ({ s1 with heap := h2 } : Shared) = s2 at I2 ⊢
  have e2 : s2.heap = h2 := by rw [← hs2]
  rw [← e2] at st2 fresh
  clear hs2 e2 k2 I1
  refine wpAny_newObj_type (newEnv_comp ?_) (by show 0 ≤ sizeLine; decide)
  -- the new list L, the state s3 that has it
  have newL : H1 s2.heap.objs.size = none := I2.hok.fresh (Nat.le_refl _)
  obtain ⟨W, ⟨m0, w0⟩, turn⟩ := q _ newL
  have I3 : Inv X pins σ (upd H1 s2.heap.objs.size (.lst [])) { s2 with heap := s2.heap.push { cls := .type "list", data := .seq ([] : List Value).toArray } } :=
    I2.laid (t' := s2.toks) (fun c o y => Heap.get?_push_of_some _ y) (Nat.le_refl _) ⟨Nat.zero_le _, [], 0, .nil, Heap.get?_push_size _ rfl⟩
  have up : ∀ c o, s2.heap.get? c = some o → (s2.heap.push { cls := .type "list", data := .seq ([] : List Value).toArray }).get? c = some o := fun c o y => Heap.get?_push_of_some _ y
  have T := turn_zip (P := X.prog) (w := X.w) (K := X.K) (elts := elts) (kk := kk) (tpos := tpos) D
  have st3 : ZAt z ti t q1 r a b 0 (s2.heap.push { cls := .type "list", data := .seq ([] : List Value).toArray }) := T.keep 0 _ _ st2 fun c _ o y => up c o y
  have fp3 : ∀ c ∈ fp, FpOk X pins (upd H1 s2.heap.objs.size (.lst [])) c ∧ c < (s2.heap.push { cls := .type "list", data := .seq ([] : List Value).toArray }).objs.size := fun c hc => by
    obtain ⟨⟨n0, rest⟩, lt⟩ := fresh c hc
    exact ⟨⟨by rw [upd_ne (Nat.ne_of_lt lt)]; exact n0, rest⟩, by rw [Heap.size_push]; exact Nat.lt_succ_of_lt lt⟩
  generalize upd H1 s2.heap.objs.size (.lst []) = H3 at I3 fp3 w0
  generalize s2.heap.objs.size = L at I3 turn ⊢
  generalize hs3 : ({ s2 with heap := s2.heap.push { cls := .type "list", data := .seq ([] : List Value).toArray } } : Shared) = s3 at I3 ⊢
  have e3 : s3.heap = s2.heap.push { cls := .type "list", data := .seq ([] : List Value).toArray } := by rw [← hs3]
  rw [← e3] at st3 fp3
  clear hs3 e3 up st2 fresh newL I2
  -- the error that is handled stands in s3
  obtain ⟨px, ⟨hh, fv, dfv, nfv⟩, hpx⟩ := hot
  obtain ⟨gx, nx, lx, fx, _⟩ := I3.pin px (List.mem_append_left _ hpx)
  have xfp : px.1 ∉ fp := fun hc => (fp3 _ hc).1.2.2.2.2.2 px (List.mem_append_left _ hpx) rfl
  have xfs : px.1 ∉ frs X.stack := fun hc => (List.mem_cons.mp (I3.stkSub _ hc)).elim lx fx
  have I4 := block_start I3 ok hN fp3
  have pg := hg s3 H3 s3.heap.objs.size (cellsFrom (s3.heap.objs.size + 1) scope.names (cloFrom X.env.cells scope.names [])) fp
  have pt := ht s3 H3 s3.heap.objs.size (cellsFrom (s3.heap.objs.size + 1) scope.names (cloFrom X.env.cells scope.names [])) fp
  have pe := he s3 H3 s3.heap.objs.size (cellsFrom (s3.heap.objs.size + 1) scope.names (cloFrom X.env.cells scope.names [])) fp
  show codeAny _ _ (.compStart _ 0 (.ref z) (.ref L) (compEnvC scope (cellsFrom (s3.heap.objs.size + 1) scope.names (cloFrom X.env.cells scope.names [])) s3.heap.objs.size X.env)) (compPost (model X.prog X.w) X.A X.xe use _ (.ref L) s3.heap.objs.size) { s3 with heap := pushCells (s3.heap.push { cls := .type "dict", data := .dict #[] }) scope.names }
  have st4 : ZAt z ti t q1 r a b 0 (pushCells (s3.heap.push { cls := .type "dict", data := .dict #[] }) scope.names) := T.keep 0 _ _ st3 fun c _ o y => pushCells_keeps _ _ _ _ (Heap.get?_push_of_some _ y)
  have hgn' := hgn s3.heap.objs.size (cellsFrom (s3.heap.objs.size + 1) scope.names (cloFrom X.env.cells scope.names []))
  have hgs' := hgs s3.heap.objs.size (cellsFrom (s3.heap.objs.size + 1) scope.names (cloFrom X.env.cells scope.names []))
  generalize hce : compEnvC scope (cellsFrom (s3.heap.objs.size + 1) scope.names (cloFrom X.env.cells scope.names [])) s3.heap.objs.size X.env = ce at I4 pg pt pe hgn' hgs' ⊢
  have cL : ce.locals = s3.heap.objs.size := by rw [← hce]; rfl
  generalize hs4 : ({ s3 with heap := pushCells (s3.heap.push { cls := .type "dict", data := .dict #[] }) scope.names } : Shared) = s4 at I4 ⊢
  have e4 : s4.heap = pushCells (s3.heap.push { cls := .type "dict", data := .dict #[] }) scope.names := by rw [← hs4]
  rw [← e4] at st4
  clear hce hs4 e4
  subst hfp
  have own' : ∀ {τ : L2.St} {G : Hp} {f : Shared}, Inv (X.blk s3 H3 scope ce (zfp z ti t q1 r)) [] τ G f → (∀ c ∈ zfp z ti t q1 r, G c = none) → ∀ c ∈ zfp z ti t q1 r, FpOk (X.blk s3 H3 scope ce (zfp z ti t q1 r)) [] G c := fun J n c hc =>
    ⟨n c hc, (J.ok.exf c hc).1, J.ok.exfs c hc, .inl hc, fun y d ed => (J.ok.exf c hc).2 y d ed, fun _ hp => absurd hp (by simp)⟩
  have loop : codeAny (model X.prog X.w) X.A (.compLoop (.ListComp elt [⟨.Tuple elts kk tpos, .Call (.Name "zip" p) [e, e2] [] pz, ifs, 0⟩] scope pos) 0 (.ref z) (.ref L) ce) (compPost (model X.prog X.w) X.A X.xe use Qf (.ref L) s3.heap.objs.size) s4 := by
    refine compLoop_any (fun n f => ∃ i G, Inv (X.blk s3 H3 scope ce (zfp z ti t q1 r)) [] (wipe σ (own.map (·.2))) G f ∧ ZAt z ti t q1 r a b i f.heap ∧ (∀ c ∈ zfp z ti t q1 r, G c = none) ∧ W i n G) ?_ m0 ⟨0, H3, I4, st4, fun c hc => (fp3 c hc).1.1, w0⟩
    rintro nn0 f ⟨i, G, J, st, nn, wi⟩
    rcases turn i nn0 G wi with ⟨stop, qq⟩ | ⟨go, Nx, hNx, step⟩
    · have hot' : HotAt X.A px.1 f.heap := ⟨hh, px.2, fv, J.base.keep _ _ gx nx xfs xfp, dfv, nfv⟩
      refine thnF (zip_stop (X := X.blk s3 H3 scope ce (zfp z ti t q1 r)) (E := fun _ _ => False) D hot' xfp J (own' J nn) st stop) fun o f1 ⟨eo, J1⟩ => ?_
      subst eo
      have I1 : Inv X pins σ G f1 := I3.call' (ch := zfp z ti t q1 r) J1.os J1.base J1.hok J1.bare fun c hc => ⟨(fp3 c hc).1.2.2.2.1, (fp3 c hc).1.2.1, (fp3 c hc).1.2.2.2.2.1, (fp3 c hc).1.2.2.2.2.2⟩
      have nC : G s3.heap.objs.size = none := by
        have fr : G ce.locals = none := J1.free
        rw [cL] at fr; exact fr
      obtain ⟨mm, ns, _⟩ := J1.loc
      have ns : f1.heap.Ns ce.locals mm := ns
      rw [cL] at ns
      exact fin L s3.heap.objs.size f1 mm G I1 qq ns (I3.fpOk (Nat.le_refl _) nC)
    · refine thnF (zip_step (X := X.blk s3 H3 scope ce (zfp z ti t q1 r)) (elts := elts) (kk := kk) (tpos := tpos) (E := fun _ _ => False) D J (own' J nn) st go) fun o f1 ⟨u, eo, hu⟩ => ?_
      subst eo
      refine thnF hu fun _ f2 ⟨x, G2, J2, rx, yx, st2, n2⟩ => ?_
      have J2' := J2.pinned (own' J2 n2) (T.obj _ _ st2)
      obtain ⟨tp, tv, ex, sq, ln, gq⟩ := step x G2 yx
      subst ex
      cases rx
      obtain ⟨its, rv, itp, _⟩ := J2'.tuple sq
      have hot2 : HotAt X.A px.1 f2.heap := ⟨hh, px.2, fv, J2.base.keep _ _ gx nx xfs xfp, dfv, nfv⟩
      have un := assign_hot (prog := X.prog) (w := X.w) (env := ce) (elts := elts) (kk := kk) (pos := tpos) (E := fun _ _ => False) hot2 itp (by rw [hgn']; simp [← ln, rv.length]) hgs' fun g eg =>
        pg.run _ { f2 with heap := g } _ G2 tv _ _ (J2'.kept (t' := f2.toks) fun c o y => eg c o (Nat.ne_of_lt (Heap.lt_size y)) y) (by simpa using rv) gq
      refine thnF un fun _ f3 ⟨σ3, G3, J3, w3, q3⟩ => ?_
      refine thnF (pt.run _ f3 σ3 G3 _ J3 q3) fun bb f4 ⟨G4, J4, q4⟩ => ?_
      have back : ∀ {f' : Shared} {G' : Hp}, Inv (X.blk s3 H3 scope ce (zfp z ti t q1 r)) ([] ++ pinsAt (zfp z ti t q1 r) f2.heap) σ3 G' f' → Nx G' → ∃ m, m < nn0 ∧ ∃ i G, Inv (X.blk s3 H3 scope ce (zfp z ti t q1 r)) [] (wipe σ (own.map (·.2))) G f' ∧ ZAt z ti t q1 r a b i f'.heap ∧ (∀ c ∈ zfp z ti t q1 r, G c = none) ∧ W i m G := fun {f' G'} J' hn => by
        obtain ⟨m', lt, w'⟩ := hNx G' hn
        have held : ∀ c ∈ zfp z ti t q1 r, ∀ o, f2.heap.get? c = some o → f'.heap.get? c = some o ∧ G' c = none := fun c hc o y => by
          have := J'.pin (c, o) (List.mem_append_right _ (List.mem_append_right _ (mem_pinsAt hc y)))
          exact ⟨this.1, this.2.1⟩
        refine ⟨m', lt, i + 1, G', (J'.unpinned (pins := [])).weak (by rw [← w3, wipe_length]) (fun j v y => ?_), T.keep _ _ _ st2 fun c hc o y => (held c hc o y).1, fun c hc => ?_, w'⟩
        · rw [← w3] at y
          exact (wipe_some y).1
        · obtain ⟨o, y, _⟩ := T.obj _ _ st2 c hc
          exact (held c hc o y).2
      cases bb with
      | false => exact back J4 q4
      | true =>
        refine thnF (pe.run _ f4 σ3 G4 _ J4 q4) fun v f5 ⟨yv, G5, J5, r5, acc, hL, hlen, hn⟩ => ?_
        exact app_ok (X := X.blk s3 H3 scope ce (zfp z ti t q1 r)) J5 hL hlen r5 fun f6 J6 => back J6 hn
  exact codeAny_compStart_list loop (T.self X.A 0 _ _ _ st4 loop)
/-- [elt for .. in zip(e, e2) if ..] while an error is handled -/
theorem pe_lcZ {e e2 : Expr} {ta : TA} {p pz pos : Pos} {elt : Expr} {ifs : List Expr} {scope : Scope} {own : List (Str × Nat)} {gs : TGs} {n : Nat} {tt : TT} {te : TE} (hot : HotC X) (hN : X.N.Nodup) (hg0 : Gl X "zip") (hm : X.mg "zip" = none) (ha : PA X [e, e2] ta) (ok : BlkOk X.N X.env.scope scope own)
    (hg : ∀ (s : Shared) (H : Hp) (C : Addr) (cl : List (Str × Addr)) (fp : List Addr), PGs (X.blk s H scope (compEnvC scope cl C X.env) fp) elts gs)
    (hgn : ∀ (C : Addr) (cl : List (Str × Addr)), (assignEach elts (compEnvC scope cl C X.env)).length = n) (hgs : ∀ (C : Addr) (cl : List (Str × Addr)), (assignEach elts (compEnvC scope cl C X.env)).findIdx? (·.1) = none)
    (ht : ∀ (s : Shared) (H : Hp) (C : Addr) (cl : List (Str × Addr)) (fp : List Addr), PTs (X.blk s H scope (compEnvC scope cl C X.env) fp) ifs tt)
    (he : ∀ (s : Shared) (H : Hp) (C : Addr) (cl : List (Str × Addr)) (fp : List Addr), PE (X.blk s H scope (compEnvC scope cl C X.env) fp) elt te)
    (hs : starEach [e, e2] X.env = (false, eval e X.env) :: starEach [e2] X.env) (hpl : (backTo pz (starEach [e2] X.env)).any (·.1) = false) (hf : ∀ x, foldedSetIterable (.Call (.Name "zip" p) [e, e2] [] pz) X.env x = pure x) :
    PE X (.ListComp elt [⟨.Tuple elts kk tpos, .Call (.Name "zip" p) [e, e2] [] pz, ifs, 0⟩] scope pos) (tLc (iZip X.K ta) (gTup X.K n gs) tt te (own.map (·.2))) := by
  refine ⟨fun pins s σ H Q I h => ?_⟩
  rw [eval_ListComp]
  refine lcZ_core hot hN I hg0 hm ha ok hg hgn hgs ht he hs hpl hf h fun L C s' m G J qq ns fp => ⟨m, ns, fun h' sb => ?_⟩
  obtain ⟨f0, f1, f2, f3, f4, f5⟩ := fp
  exact ⟨.ref L, G, J.turned (t' := s'.toks) (fun c o hb y => (sb.2 c hb).trans y) f0 f1 f3 f4 f5, rfl, qq⟩
/-- x = [elt for .. in zip(e, e2) if ..] on one line, x a local -/
theorem ps_setZ {i : Nat} {y : Str} {py spos : Pos} {e e2 : Expr} {ta : TA} {p pz pos : Pos} {elt : Expr} {ifs : List Expr} {scope : Scope} {own : List (Str × Nat)} {gs : TGs} {n : Nat} {tt : TT} {te : TE} (hot : HotC X) (hN : X.N.Nodup) (hy : X.N[i]? = some y) (hyl : X.env.scope.names.lookup y = some .local)
    (hsw : swapsWith (.ListComp elt [⟨.Tuple elts kk tpos, .Call (.Name "zip" p) [e, e2] [] pz, ifs, 0⟩] scope pos) (some (.Name y py)) spos.line X.env = pure true) (hg0 : Gl X "zip") (hm : X.mg "zip" = none) (ha : PA X [e, e2] ta) (ok : BlkOk X.N X.env.scope scope own)
    (hg : ∀ (s : Shared) (H : Hp) (C : Addr) (cl : List (Str × Addr)) (fp : List Addr), PGs (X.blk s H scope (compEnvC scope cl C X.env) fp) elts gs)
    (hgn : ∀ (C : Addr) (cl : List (Str × Addr)), (assignEach elts (compEnvC scope cl C X.env)).length = n) (hgs : ∀ (C : Addr) (cl : List (Str × Addr)), (assignEach elts (compEnvC scope cl C X.env)).findIdx? (·.1) = none)
    (ht : ∀ (s : Shared) (H : Hp) (C : Addr) (cl : List (Str × Addr)) (fp : List Addr), PTs (X.blk s H scope (compEnvC scope cl C X.env) fp) ifs tt)
    (he : ∀ (s : Shared) (H : Hp) (C : Addr) (cl : List (Str × Addr)) (fp : List Addr), PE (X.blk s H scope (compEnvC scope cl C X.env) fp) elt te)
    (hs : starEach [e, e2] X.env = (false, eval e X.env) :: starEach [e2] X.env) (hpl : (backTo pz (starEach [e2] X.env)).any (·.1) = false) (hf : ∀ x, foldedSetIterable (.Call (.Name "zip" p) [e, e2] [] pz) X.env x = pure x) :
    PS X (.Assign [.Name y py] (.ListComp elt [⟨.Tuple elts kk tpos, .Call (.Name "zip" p) [e, e2] [] pz, ifs, 0⟩] scope pos) spos) (tAsg (tLc (iZip X.K ta) (gTup X.K n gs) tt te (own.map (·.2))) (gName i)) := by
  refine ⟨fun pins s σ H D I h => ?_⟩
  rw [exec_Assign_Name_used _ _ _ _ hsw]
  refine wpAny_bind (wpAny_standAt (wpAny_bind (wpAny_bind (thn (lcZ_core (use := some (assign (.Name y py) X.env)) (Qf := fun _ f => SP X pins D .next f) hot hN I hg0 hm ha ok hg hgn hgs ht he hs hpl hf (show tLc (iZip X.K ta) (gTup X.K n gs) tt te (own.map (·.2)) σ H fun x G => gName i x σ G D.nx from h) fun L C s' m G J qq ns fp => ?_) fun _ _ q => wpAny_pure (wpAny_pure q)))))
  show wpAny _ _ (assign (.Name y py) X.env (.ref L)) _ _ _
  refine wpAny_assign_Name (store_ok2 (v := V.ref L) J hN hy (.inl hyl) rfl (fun f J2 ⟨a, sb, ha⟩ => ?_) (.inr hyl))
  obtain ⟨f0, f1, f2, f3, f4, f5⟩ := fp
  have ne : C ≠ a := ha.elim (fun z => z ▸ f1) fun z => fun q => f4 y a z q.symm
  exact ⟨m, ns.sameBut sb ne, fun h' sb' => ⟨_, G, J2.turned (t' := f.toks) (fun c o hb y => (sb'.2 c hb).trans y) f0 f1 f3 f4 f5, qq⟩⟩
end
end HZ

set_option Elab.async false
set_option linter.all false
set_option maxRecDepth 100000
set_option maxHeartbeats 2000000
/-! DL: a def called while an error is handled -/
namespace DL
open PySem PySem.Spec PySem.W PyProof.Rows L2 L2H HotX HZ
/-- what a def does that is called while p, an error, is handled -/
structure FnP (P : Program) (w : World) (K : PySem.W.Frag) (mg : Str → Option Value) (base : Heap) (X : CXT) (k : Nat) (f : Addr) (fd : FuncData) (ps : List Str) (p : Addr × Obj) (sp : Sp) : Prop where
  len : ∀ vs H Q E, sp vs H Q E → vs.length = ps.length
  run : ∀ (A : Around) (outer : List Env) (s : Shared) (H : Hp) (args : Args) (us : List Value) (vs : List V) (Q : VK) (E : XK), RoomH k A → Hot1 A p → PinOk outer H s p → Env0 P w K mg base A outer s H →
    BindsTo s fd args (ps.zip us) → Vals vs us → sp vs H Q E → codeAny (model P w) A (.call (.ref f) args) (CR X outer P w H s Q E) s
section
variable {P : Program} {w : World} {K : PySem.W.Frag} {mg : Str → Option Value} {base : Heap} {x qual : Str} {params : Arguments} {body : List Stmt} {scope : Scope} {kws : List (Str × V)} {dvs : List V} {f : Addr} {fd : FuncData} {N ps : List Str} {k : Nat} {p : Addr × Obj}
theorem fn_P {X : CXT} {sp : Sp} (F : FunD K x qual params body scope dvs kws f fd) (SC : FnScope N ps scope) (len : ∀ vs H Q E, sp vs H Q E → vs.length = ps.length)
    (hb : ∀ (cdv : Value) (A : Around) (outer : List Env) (s : Shared) (H : Hp) (vs : List V) (Q : VK) (E : XK), Hot1 A p → RoomH k (A.deeper (envOfC qual scope s.heap.objs.size f cdv)) → sp vs H Q E →
      ∃ t, PSs (cxH X P w K mg base N qual scope f cdv A outer s H E p) body t ∧ t { nx := fun _ G => Q .non G, rt := Q } (L2.start N vs) H) : FnP P w K mg base X (k + 1) f fd ps p sp := by
  obtain ⟨_, _, _, _, _, _, _, cdv, _, _, rfl, lk, hcd, _, _⟩ := F.ex
  refine ⟨len, fun A outer s H args us vs Q E room hot pin e0 bnd rel h => ?_⟩
  have inK : K.In s.heap := e0.mod.kin.keeps fun b o y => (e0.bs b o y).1
  have kinds : ∀ y ∈ ps.zip us, scope.names.lookup y.1 = some .local ∨ (scope.names.lookup y.1 = some .cell ∧ ((cellsFrom (s.heap.objs.size + 1) scope.names []).lookup y.1).isSome = true) := fun y hy =>
    (SC.par y.1 (List.of_mem_zip (a := y.1) (b := y.2) hy).1).imp id fun c => ⟨c, PySem.W.cellsFrom_some _ _ _ (.inl c)⟩
  refine codeAny_call_function room.depth (inK _ _ lk) rfl SC.co SC.gen rfl (PySem.W.codeRec_of inK hcd) (bnd _ _ _ _ (wpAny_newFunctionEnv_cells SC.kind kinds fun env he s1 ic => ?_))
  subst he
  refine ⟨(e0.mod.nolimit.keeps fun b o y => (e0.bs b o y).1).keeps ic.toInCall.keep, codeAny_func ?_⟩
  obtain ⟨t, bt, q⟩ := hb cdv A outer s H vs Q E hot (room.deeper _) h
  refine wpAny_mono (bt.run [] s1 _ H _ (inv_startH SC pin e0 (len _ _ _ _ h) rel ic) q) (fun fl s' done => ?_) fun _ _ z => z
  cases fl with
  | ret u => obtain ⟨v, _, G, J, rv, qv⟩ := done; exact ⟨v, G, J.os, J.bare, J.base, J.hok, rv, qv⟩
  | next => obtain ⟨_, G, J, qv⟩ := done; exact ⟨V.non, G, J.os, J.bare, J.base, J.hok, rfl, qv⟩
  | brk => obtain ⟨_, _, _, z⟩ := done; exact z.elim
  | cont => obtain ⟨_, _, _, z⟩ := done; exact z.elim
theorem fn_DP {sp : Spec} {t : List Addr → TSd} (F : FunD K x qual params body scope dvs kws f fd) (SC : FnScope N ps scope) (len : ∀ S ds Q E, sp S ds Q E → ds.length = ps.length)
    (hb : ∀ (cdv : Value) (A : Around) (outer : List Env) (s : Shared) (H : Hp) (E : XK) (S : List Addr), Hot1 A p → RoomH k (A.deeper (envOfC qual scope s.heap.objs.size f cdv)) →
      DSs (cxH (L2N.CX P w) P w K mg base N qual scope f cdv A outer s H E p) S (wE E) body (t S))
    (pure : ∀ S ds Q E, sp S ds Q E → t S { nx := fun _ => Q .non, rt := ptR Q, ex := fun x _ => E x } (start0 N ds)) : FnP P w K mg base (L2N.CX P w) (k + 1) f fd ps p (spD K sp) := by
  refine fn_P F SC (fun vs H Q E h => ?_) (fun cdv A outer s H vs Q E hot hr h => ?_)
  · obtain ⟨S, B, ds, _, r, h⟩ := h
    rw [r.length]
    exact len S ds _ _ h
  · obtain ⟨S, B, ds, G, r, h⟩ := h
    have b := hb cdv A outer s H E S hot hr
    refine ⟨_, b.ps, B, H, B, B, _, ⟨G, start_ok r, G.le, .refl _, fun i d l h1 h2 => ?_⟩, ?_⟩
    · obtain ⟨v, h3, l', _, _, ow⟩ := (start_ok (K := K) (S := S) (B := B) (H := H) (N := N) r).at_ i _ h1
      exfalso
      unfold start0 at h1
      rw [List.getElem?_append] at h1
      split at h1
      · rw [List.getElem?_map] at h1
        cases q : ds[i]? <;> rw [q] at h1 <;> cases h1
      · rw [List.getElem?_replicate] at h1
        split at h1 <;> cases h1
    · exact b.mono.r (D := { nx := fun _ => _, rt := _, ex := fun x _ => _ }) (fun ρ q B' σ' H' E' => q .non B' H' E'.2.2.1 .non) (fun d q v B' H' l r => match d, q, r with | .p _, q, r => q v B' H' l r) (fun _ z => z.elim) (fun _ z => z.elim) (fun x ρ q od B' σ' H' E' a => q od B' H' E'.2.2.1 a) (pure S ds _ _ h)
/-- a def of the text, called while p is handled -/
structure DefP (P : Program) (w : World) (K : PySem.W.Frag) (mg : Str → Option Value) (base : Heap) (name : Str) (k : Nat) (ps : List Str) (p : Addr × Obj) (sp : Spec) : Prop where
  ex : ∃ (f : Addr) (fd : FuncData), FnP P w K mg base (L2N.CX P w) k f fd ps p (spD K sp) ∧ mg name = some (.ref f) ∧ PySem.W.keepIn K (.ref f) = true ∧ Binds K fd ps []
end
section
variable {X : Cx} {S : List Addr} {Ex : L2.St → XK} {W : WX} {e e2 : Expr} {es : List Expr} {te : T} {tr : TAd} {pos : Pos} {k i : Nat} {x n : Str} {p : Addr × Obj} {ps : List Str}
theorem pe_callP {f : Addr} {fd : FuncData} {sp : Sp} {E : L2.St → XK} {t : TA} {q : Pos} (F : FnP X.prog X.w X.K X.mg X.base (L2N.CX X.prog X.w) k f fd ps p sp) (room : RoomH k X.A) (hot : Hot1 X.A p) (hp : p ∈ X.pn) (hg : Gl X x) (hm : X.mg x = some (.ref f)) (hk : PySem.W.keepIn X.K (.ref f) = true) (hb : Binds X.K fd ps [])
    (hx : ∀ σ, PassesAt (L2N.CX X.prog X.w) X σ (E σ)) (ha : PA X (e :: es) t) (hdb : (x == ("__debug__" : Str)) = false := by decide) (he : starEach (e :: es) X.env = (false, eval e X.env) :: starEach es X.env := by rfl) (hpl : (backTo pos (starEach es X.env)).any (·.1) = false := by rfl) :
    PE X (.Call (.Name x q) (e :: es) [] pos) (tCallS sp E t) := by
  refine ⟨fun pins s σ H Q I h => wpAny_Call_Name_kw (ld_glob I hg hm (PySem.W.callWith_K (h₀ := X.base) I.ok.mod.kin hk (thn (ha.run pos pins s σ H _ I h) fun us s1 ⟨vs, H1, I1, r, q⟩ => ⟨I1.kIn, ?_⟩) he hpl) hdb)⟩
  have hl : us.length = ps.length := by rw [← r.length]; exact F.len _ _ _ _ q
  have b := hb s1 us I1.kIn (by rw [List.append_nil]; exact hl)
  rw [List.append_nil] at b
  obtain ⟨g1, g2, g3, g4, g5⟩ := I1.pin p (List.mem_append_left _ hp)
  refine wpAny_call (codeAny_mono (F.run X.A X.stack s1 H1 ⟨us, []⟩ us vs Q (E σ) room hot ⟨g1, g2, fun hm => (List.mem_cons.mp (I1.stkSub p.1 hm)).elim g3 g4, g5⟩ I1.env0 b r q) fun rr s' hq => ?_)
  cases rr with
  | error er => exact hx σ pins H1 s1 er s' I1 hq
  | ok fl =>
    cases fl with
    | ret u => exact I1.after hq
    | next => exact hq.elim
    | brk => exact hq.elim
    | cont => exact hq.elim
theorem de_callP {sp : Spec} {q : Pos} (F : DefP X.prog X.w X.K X.mg X.base x k ps p sp) (ms : MonoS sp) (room : RoomH k X.A) (hot : Hot1 X.A p) (hp : p ∈ X.pn) (hg : Gl X x) (h : DA X S E0x (e :: es) tr) (hdb : (x == ("__debug__" : Str)) = false := by decide)
    (he : starEach (e :: es) X.env = (false, eval e X.env) :: starEach es X.env := by rfl) (hpl : (backTo pos (starEach es X.env)).any (·.1) = false := by rfl) : DE X S E0x (.Call (.Name x q) (e :: es) [] pos) (tFn S sp tr) := by
  obtain ⟨f, fd, F, hm, hk, hb⟩ := F.ex
  refine ⟨PE.imp (pe_callP (E := E0x) F room hot hp hg hm hk hb (fun σ pins H s er s' I hh => by obtain ⟨_, _, _, _, _, _, _, _, _, _, _, _, z⟩ := hh; exact z.elim) h.pa hdb he hpl) (lift.one fun σ B ρ H Q G SO q => ?_), ⟨fun h' he' q => h.mono.r (fun ds q => ms.r h' he' q) he' q⟩⟩
  refine ⟨B, ρ, G, SO, h.mono.r (fun ds hd vs B' H' l r => ?_) (fun _ z => z) q⟩
  exact ⟨S, B', ds, l.good G, r, ms.r (fun d hd v B2 H2 l2 r2 => hd v B2 H2 (l.trans l2) r2) (fun x z => ExW.le l x z) hd⟩
/-- a name's store, calm or not -/
theorem ds_setN {y : Str} {pos' : Pos} (nd : X.N.Nodup) (hi : X.N[i]? = some y) (hx : Loc X.env.scope y) (he : DE X S (WE W) e te) (hs : swapsWith e (some (.Name y pos')) pos.line X.env = pure false := by rfl) (hf : X.fn y = true ∨ X.env.scope.names.lookup y = some .local := by first | exact Or.inr rfl | exact Or.inl rfl) :
    DS X S W (.Assign [.Name y pos'] e pos) (sAsg te (.n i)) :=
  ⟨PS.imp (ps_set nd hi hx he.pe hs hf) fun D σ H ⟨B0, H0, Bk, B, ρ, E, q⟩ => ⟨B, ρ, E.1, E.2.1, he.mono.r (fun d hd v B1 H1 l r => hd B1 _ H1 ((E.le l).setP r)) (fun x q => ex_of E x q) q⟩,
    ⟨fun {D D' ρ} h1 h2 h3 h4 h5 q => he.mono.r (fun d q => h1 _ q) (fun x q => h5 _ _ q) q⟩⟩
/-- isinstance(e, C), e the error that is handled -/
theorem call_isP {D : Addr} (C : ExcC X.K D) (hp : p ∈ X.pn) (hz : Zc (.ref D) none p.2) (hf : ∃ vs, p.2.data = .fields vs) : CallR X (.builtin "isinstance") (rIsE X.K D p.1) := by
  rintro pins s σ H xs us Q I r ⟨c, cv, b, rfl, hcv, ek, q⟩
  cases r with | cons r1 r =>
  cases r with | cons r2 r =>
  cases r
  cases r1
  have e2 := hcv _ r2
  subst e2
  have g := (I.pin p (List.mem_append_left _ hp)).1
  obtain ⟨vs, dv⟩ := hf
  obtain ⟨a, oc, od, oda, osl⟩ := p
  obtain ⟨z1, z2⟩ := hz
  dsimp only at z1 z2 dv
  subst z1 z2 dv
  exact PySem.W.kia_one (PySem.W.handS_kitx_exc C.hg C.hk C.hs C.hd C.ha C.hn C.ht C.hm) I.kIn ⟨g, rfl, rfl, trivial⟩ ek (fun z => nomatch z) fun tk => ⟨.bl b, H, I.kept (t' := tk) fun _ _ z => z, rfl, q⟩
@[simp] def tIsE (i : Nat) (a : Addr) (b : Bool) : T := fun ρ Q _ => ρ[i]? = some (some (.p (.ref a))) ∧ Q (.bl b)
theorem de_isE {D : Addr} {y : Str} {cv : Value} {c : V} {b : Bool} {p1 p2 p3 : Pos} (C : ExcC X.K D) (hp : p ∈ X.pn) (hz : Zc (.ref D) none p.2) (hf : ∃ vs, p.2.data = .fields vs) (pc : PE X (.Name y p2) (tC c)) (hcv : ∀ u, RelV c u → u = cv) (ek : PySem.W.kitOne X.K (.ref D) cv = some b)
    (hg : Gl X "isinstance") (hm : X.mg "isinstance" = none) (hN : X.N[i]? = some n) (hv : Vis X.env.scope n) (hd : (n == ("__debug__" : Str)) = false := by decide) (hcd : (n == ("__classdict__" : Str)) = false := by decide)
    (hs : starEach [.Name n p1, .Name y p2] X.env = (false, eval (.Name n p1) X.env) :: starEach [.Name y p2] X.env := by rfl) (hpl : (backTo pos (starEach [.Name y p2] X.env)).any (·.1) = false := by rfl) :
    DE X S Ex (.Call (.Name "isinstance" p3) [.Name n p1, .Name y p2] [] pos) (tIsE i p.1 b) := by
  refine ⟨PE.imp (pe_callB (call_isP C hp hz hf) hg hm (by decide +kernel) (pa_cons (pv i hN hv hd hcd) (pa_cons pc pa_nil) hs) (by decide) (by decide) hs hpl) (lift.one fun σ B ρ H Q G SO q => ?_), ⟨fun h _ q => ⟨q.1, h _ q.2⟩⟩⟩
  obtain ⟨h1, q⟩ := q
  obtain ⟨v, h2, r⟩ := SO.at_ i _ h1
  cases r
  exact ⟨_, h2, c, cv, b, rfl, hcv, ek, q _ B H G.le (.bl _)⟩
/-- y = [.. for .. in zip(..) if ..] on one line, while an error is handled -/
theorem ds_lcZ {elt : Expr} {elts : List Expr} {kk : Nat} {tpos p0 pz py spos : Pos} {y : Str} {ifs : List Expr} {scope : Scope} {own : List (Str × Nat)} {τs : List Tgt} {tt : TB} (hot : HotC X) (nd : X.N.Nodup) (hy : X.N[i]? = some y) (hyl : X.env.scope.names.lookup y = some .local)
    (hsw : swapsWith (.ListComp elt [⟨.Tuple elts kk tpos, .Call (.Name "zip" p0) [e, e2] [] pz, ifs, 0⟩] scope pos) (some (.Name y py)) spos.line X.env = pure true) (hg0 : Gl X "zip") (hm : X.mg "zip" = none) (ha : DAB X S (WE W) [e, e2] tr) (ok : BlkOk X.N X.env.scope scope own) (hv : ∀ i ∈ vars (.t τs), i ∈ own.map (·.2))
    (hg : ∀ (s : Shared) (H : Hp) (C : Addr) (cl : List (Str × Addr)) (fp : List Addr), DGs (X.blk s H scope (compEnvC scope cl C X.env) fp) elts τs) (ht : ∀ (s : Shared) (H : Hp) (C : Addr) (cl : List (Str × Addr)) (fp : List Addr), DTs (X.blk s H scope (compEnvC scope cl C X.env) fp) S E0x ifs tt)
    (he : ∀ (s : Shared) (H : Hp) (C : Addr) (cl : List (Str × Addr)) (fp : List Addr), DE (X.blk s H scope (compEnvC scope cl C X.env) fp) S E0x elt te)
    (hgn : ∀ (C : Addr) (cl : List (Str × Addr)), (assignEach elts (compEnvC scope cl C X.env)).length = τs.length := by intros; rfl) (hgs : ∀ (C : Addr) (cl : List (Str × Addr)), (assignEach elts (compEnvC scope cl C X.env)).findIdx? (·.1) = none := by intros; rfl)
    (hs : starEach [e, e2] X.env = (false, eval e X.env) :: starEach [e2] X.env := by rfl) (hpl : (backTo pz (starEach [e2] X.env)).any (·.1) = false := by rfl) (hf : ∀ x, foldedSetIterable (.Call (.Name "zip" p0) [e, e2] [] pz) X.env x = pure x := by intro _; rfl) :
    DS X S W (.Assign [.Name y py] (.ListComp elt [⟨.Tuple elts kk tpos, .Call (.Name "zip" p0) [e, e2] [] pz, ifs, 0⟩] scope pos) spos) (sAsg (tComp (.t τs) tt te (own.map (·.2)) (tZip tr)) (.n i)) := by
  have mt : MonoB tt := (ht X.s_0 X.H_0 0 [] []).mono
  have me : Mono te := (he X.s_0 X.H_0 0 [] []).mono
  suffices h : DS X S W (.Assign [.Name y py] (.ListComp elt [⟨.Tuple elts kk tpos, .Call (.Name "zip" p0) [e, e2] [] pz, ifs, 0⟩] scope pos) spos) (sOwn (tComp (.t τs) tt te (own.map (·.2)) (tZip tr)) i) from
    ds_plain h ⟨fun h he' q => ha.mono.r (zipD.imp fun ds q => compD.imp mt me (fun ys q => h _ q) q) he' q⟩ (List.getElem?_eq_some_iff.mp hy).1
  refine ⟨PS.imp (ps_setZ (gs := gsOf X.K τs) (n := τs.length) (tt := liftT X.K S E0x tt) (te := lift X.K S E0x (rP X.K) te) hot nd hy hyl hsw hg0 hm ha.pa ok hg hgn hgs (fun s H C cl fp => (ht s H C cl fp).pts) (fun s H C cl fp => (he s H C cl fp).pe) hs hpl hf) fun De σ H ⟨B0, H0, Bk, B, ρ, E, q⟩ => ?_,
    ⟨fun {D D' ρ} h1 h2 h3 h4 h5 q => ha.mono.r (zipD.imp fun ds q => compD.imp mt me (fun ys q => h1 _ q) q) (fun x q => h5 _ _ q) q⟩⟩
  refine ⟨B, ρ, E.1, E.2.1, ha.mono.r (fun ds hd vs B1 H1 l1 r1 => ?_) (fun x q => ex_of E x q) q⟩
  unfold zipD at hd
  split at hd
  · rename_i xs ys
    cases r1 with | cons h1 r1 =>
    cases r1 with | cons h2 r1 =>
    cases r1
    have hz := h1.len
    have k1 := h1
    have k2 := h2
    obtain ⟨a, us, rfl, e1, ru⟩ := h1.lst
    obtain ⟨b, ws, rfl, e2', rw'⟩ := h2.lst
    refine ⟨a, b, us, ws, rfl, SqL.of e1, SqL.of e2', fun D0 hD => ?_⟩
    exact comp_core (J := Itz X.K a b) mt me hv (l1.good E.1) (E.2.1.le l1) ⟨by simp only [zipL, List.length_map, List.length_zip]; omega, fun B2 H2 l2 g => by
      obtain ⟨a', us', ea, e3, r3⟩ := (k1.le l2).lst
      obtain ⟨b', ws', eb, e4, r4⟩ := (k2.le l2).lst
      cases ea; cases eb
      exact wk_z g e3 r3 e4 r4⟩ hD hd fun B2 H2 ys' ws' l2 hb hw hl r hq => own_fin E hq (l1.trans l2) ⟨D0, rfl, l1.old hD, hb, ws', hw, hl, r⟩
  · exact hd.elim
end
/-! ### try: .. except C as n: .. -/
def asNx (i : Nat) (D : DEnds) : DEnds := { nx := fun ρ2 => D.nx (ρ2.set i none), rt := D.rt, bk := fun ρ2 => D.bk (ρ2.set i none), ct := fun ρ2 => D.ct (ρ2.set i none), ex := fun _ _ => False }
def asEx (cls : List Str) (c : Str) (i : Nat) (ts : Addr → Str → TSd) (D : DEnds) : DEnds := { D with ex := fun x ρ' => x.1 ∈ cls ∧ (match isA x.1 c with
    | true => x.2 = [] ∧ ∀ a, ts a x.1 (asNx i D) (ρ'.set i (some (.p (.ref a))))
    | false => D.ex x ρ') }
@[simp] def sTryAs (cls : List Str) (c : Str) (i : Nat) (tb : TSd) (ts : Addr → Str → TSd) : TSd := fun D ρ => tb (asEx cls c i ts D) ρ
section
variable {X : Cx} {S : List Addr} {W : WX} {pos : Pos}
theorem set_none {α : Type} {l : List (Option α)} {i j : Nat} {x : α} (h : (l.set i none)[j]? = some (some x)) : i ≠ j ∧ l[j]? = some (some x) := by
  rw [getElem?_set'] at h
  by_cases q : i = j
  · rw [if_pos q] at h
    split at h <;> cases h
  · rw [if_neg q] at h; exact ⟨q, h⟩
theorem EnvOk.gone {K : PySem.W.Frag} {B0 H0 Bk B H : Hp} {σ : L2.St} {ρ : DEnv} (e : EnvOk K S B0 H0 Bk B H σ ρ) (i : Nat) : EnvOk K S B0 H0 Bk B H (σ.set i none) (ρ.set i none) := by
  obtain ⟨g, s, le, kp, fr⟩ := e
  refine ⟨g, ⟨by rw [List.length_set, List.length_set]; exact s.len, fun j x h => ?_, fun j m d f l h1 h2 h3 h4 => ?_, fun j d l h1 h2 => ?_⟩, le, kp, fun j d l h1 h2 => ?_⟩
  · obtain ⟨ne, h⟩ := set_none h
    obtain ⟨v, h2, r⟩ := s.at_ j x h
    exact ⟨v, by rw [getElem?_set', if_neg ne]; exact h2, r⟩
  · exact s.own j m d f l (set_none h1).2 (set_none h2).2 (set_none h3).2 (set_none h4).2
  · exact s.src j d l (set_none h1).2 (set_none h2).2
  · exact fr j d l (set_none h1).2 (set_none h2).2
theorem ds_tryAs {cls : List Str} {c n : Str} {i : Nat} {tb : TSd} {ts : Addr → Str → TSd} {body suite : List Stmt} {b₀ : Stmt} {np pos' : Pos} (C : Cd X (WE W)) (hs : X.stack = X.env :: X.outer) (hf : X.env.frame = some X.env.locals) (tk : L2N.Takes X W)
    (F : X.mg c = some (.ref (He.ga X.K c))) (em : ∀ a ∈ cls, PySem.W.exmOne X.K (.ref (He.ga X.K a)) (.ref (He.ga X.K c)) = some (isA a c)) (hg : Gl X c) (hdb : (c == ("__debug__" : Str)) = false) (hi : X.N[i]? = some n) (hln : X.env.kindOf n = some .local)
    (hb : ∀ (W' : WX) (pn : List (Addr × Obj)) (xe : Value → Shared → Prop), L2N.Takes (X.tr pn xe) W' → Cd (X.tr pn xe) (WE W') → DSs (X.tr pn xe) S W' body tb)
    (hsu : ∀ (x : Str) (a : Addr) (oe : Obj) (pn : List (Addr × Obj)), x ∈ cls → L2N.Zn (.ref (He.ga X.K x)) none oe → (∃ vs, oe.data = .fields vs) → DSs (X.suite a ((a, oe) :: pn)) S W0 (b₀ :: suite) (ts a x)) :
    DS X S W (.Try body [.ExceptHandler (some (.Name c np)) (some n) (b₀ :: suite) pos'] [] [] pos) (sTryAs cls c i tb ts) := by
  have hm : MonoSt tb := (hb W X.pn X.xe tk C).mono
  have sm : ∀ x ∈ cls, ∀ a, MonoSt (ts a x) := fun x hx a => (hsu x a { cls := .ref (He.ga X.K x), dict := none, data := .fields #[.none, .none, .none], slots := #[] } [] hx ⟨rfl, rfl, fun vs e => by cases e; rfl⟩ ⟨_, rfl⟩).mono
  refine ⟨PS.imp (L2N.ps_try_as hs hf C.nd hi hln ⟨hg, hdb, .inl F⟩ tk (tb := fun W' => liftS X.K S W' tb) (ts := fun a cv d D σ H => ∃ x, x ∈ cls ∧ cv = .ref (He.ga X.K x) ∧ d = none ∧ liftS X.K S W0 (ts a x) D σ H)
    (fun W' pn xe tk' _ => (hb W' pn xe tk' (cd_tr C tk')).ps) (fun a oe cv d pn hz hfd => ⟨fun pins s σ H D I ⟨x, hx, e1, e2, h⟩ => ?_⟩)) fun De σ H ⟨B0, H0, Bk, B, ρ, E, q⟩ => ?_, ⟨fun {D D' ρ} h1 h2 h3 h4 h5 q => ?_⟩⟩
  · subst e1 e2
    exact (hsu x a oe pn hx hz hfd).ps.run pins s σ H D I h
  · refine ⟨B0, H0, Bk, B, ρ, E, hm.r (D := asEx cls c i ts (ends X.K S W B0 H0 Bk De)) (fun _ z => z) (fun _ z => z) (fun _ z => z) (fun _ z => z) (fun x ρ' z => ?_) q⟩
    obtain ⟨hx, z⟩ := z
    intro od B' σ' H' E' at'
    refine ⟨isA x.1 c, em _ hx, fun hb1 a ha => ?_, fun hb0 => ?_⟩
    · rw [hb1] at z
      obtain ⟨hx2, z⟩ := z
      rw [hx2] at at'
      refine ⟨x.1, hx, rfl, at', B0, H0, Bk, B', _, E'.setP .ref, (sm x.1 hx a).r (D := asNx i (ends X.K S W B0 H0 Bk De)) (fun ρ2 h B2 σ2 H2 E2 => h B2 _ H2 (E2.gone i)) (fun _ z => z) (fun ρ2 h B2 σ2 H2 E2 => h B2 _ H2 (E2.gone i)) (fun ρ2 h B2 σ2 H2 E2 => h B2 _ H2 (E2.gone i)) (fun _ _ z => z.elim) (z a)⟩
    · rw [hb0] at z
      exact z od B' σ' H' E' at'
  · refine hm.r (D := asEx cls c i ts D) (D' := asEx cls c i ts D') h1 h2 h3 h4 (fun x ρ' z => ⟨z.1, ?_⟩) q
    have z2 := z.2
    cases e : isA x.1 c
    · rw [e] at z2
      exact h5 _ _ z2
    · rw [e] at z2
      exact ⟨z2.1, fun a => (sm x.1 z.1 a).r (D := asNx i D) (D' := asNx i D') (fun _ h => h1 _ h) h2 (fun _ h => h3 _ h) (fun _ h => h4 _ h) (fun _ _ z => z) (z2.2 a)⟩
end
end DL

set_option Elab.async false
set_option linter.all false
set_option maxRecDepth 100000
set_option maxHeartbeats 2000000
/-! DL: x.split(y) -/
namespace DL
open PySem PySem.Spec PySem.W PyProof.Rows L2
section
variable {X : Cx} {S : List Addr} {Ex : L2.St → XK} {o e : Expr} {to te : T} {apos cp : Pos}
def splitD (Q : D → Prop) (a : Str) : D → Prop
  | .str b => ((b.length == 0) = false ∧ a.length + 2 ≤ sizeLine ∧ (Txt.split a b).length ≤ sizeLine) ∧ Q (.lst ((Txt.split a b).map D.str))
  | _ => False
theorem splitD.imp {Q Q' : D → Prop} (h : ∀ d, Q d → Q' d) {a : Str} : ∀ y, splitD Q a y → splitD Q' a y := fun y q => by
  cases y with
  | str b => exact ⟨q.1, h _ q.2⟩
  | _ => exact q.elim
def strD (F : Str → Prop) : D → Prop
  | .str a => F a
  | _ => False
theorem strD.imp {F F' : Str → Prop} (h : ∀ a, F a → F' a) : ∀ d, strD F d → strD F' d := fun d q => by
  cases d with
  | str a => exact h _ q
  | _ => exact q.elim
@[simp] def tSplit (to te : T) : T := fun ρ Q E => to ρ (strD fun a => te ρ (splitD Q a) E) E
theorem rpa_strs {K : PySem.W.Frag} {B : Hp} : ∀ xs : List Str, RpA K B (xs.map V.str) (xs.map D.str)
  | [] => .nil
  | x :: xs => .cons (.str x) (rpa_strs xs)
theorem df_split (ho : DB X S Ex o to) (he : DE X S Ex e te) (hbase : attributeBase o "split" X.env (eval o X.env) = eval o X.env := by rfl)
    (hfew : ((backTo cp (starEach [e] X.env)).all (fun x => !x.1) && (backToKw cp (keywordEach [] X.env)).all (fun x => x.1.isSome)
      && decide ([e].length + ([] : List Keyword).length + (if ([] : List Keyword).isEmpty then 0 else 1) < 30)) = true := by rfl)
    (hline : (apos.endLine == cp.line) = true := by rfl) (hs : starEach [e] X.env = (false, eval e X.env) :: starEach [] X.env := by rfl) (hpl : (backTo cp (starEach [] X.env)).any (·.1) = false := by rfl) :
    DF X S Ex (.Call (.Attribute o "split" apos) [e] [] cp) (tSplit to te) := by
  refine ⟨PE.imp (pe_bm PySem.F.plainAttrs_str PySem.F.slot_str_split PySem.F.type_str_split mt_split ho.pe (pa_cons he.pe pa_nil hs) hbase hfew hline hs hpl) (lift.one fun σ B ρ H Q G SO q => ?_), ⟨fun h hx q => ho.mono.r (strD.imp fun a q => he.mono.r (splitD.imp h) hx q) hx q⟩⟩
  refine ⟨B, ρ, G, SO, ho.mono.r (fun x hx v B1 H1 l1 r1 => ?_) (fun _ z => z) q⟩
  cases x with
  | str a =>
    cases r1
    refine ⟨rfl, ?_⟩
    refine ⟨B1, ρ, l1.good G, SO.le l1, he.mono.r (fun y hy u B2 H2 l2 r2 => ?_) (fun x z => ExW.le l1 x z) hx⟩
    cases y with
    | str b =>
      cases r2
      obtain ⟨⟨h1, h2, h3⟩, hq⟩ := hy
      refine ⟨a, b, rfl, rfl, h1, h2, fun p hp => ?_⟩
      have l := l1.trans l2
      have G2 := l.good G
      exact hq _ B2 _ (l.trans (Le.beside G2 hp)) ⟨p, rfl, l.old hp, G2.bnone hp, _, upd_same, by rw [List.length_map]; exact h3, rpa_strs _⟩
    | _ => exact hy.elim
  | _ => exact hx.elim
end
end DL

set_option Elab.async false
set_option linter.all false
set_option maxRecDepth 100000
set_option maxHeartbeats 2000000
/-! DL: what is asked of an error that is handled -/
namespace DL
open PySem PySem.Spec PySem.W PyProof.Rows L2 L2H
/-- the context: p, of the class c, is handled -/
structure HX (X : Cx) (p : Addr × Obj) (c : Str) : Prop where
  hot : Hot1 X.A p
  hp : p ∈ X.pn
  nd : X.N.Nodup
  z : L2N.Zn (.ref (He.ga X.K c)) none p.2
  f : ∃ vs, p.2.data = .fields vs
theorem HX.c {X : Cx} {p : Addr × Obj} {c : Str} (h : HX X p c) : HotC X := ⟨p, h.hot, h.hp⟩
theorem hot_of {A : Around} {a : Addr} {oe : Obj} {cv : Value} {d : Option Addr} (z : L2N.Zn cv d oe) (f : ∃ vs, oe.data = .fields vs) : Hot1 (A.mark (some (.ref a))) (a, oe) := by
  obtain ⟨vs, e⟩ := f
  exact ⟨rfl, vs, e, z.2.2 vs e⟩
section
variable {X : Cx} {S : List Addr} {Ex : L2.St → XK} {p : Addr × Obj} {c d n : Str} {i : Nat} {p1 p2 p3 pos : Pos}
theorem is_own (H : HX X p c) (g : X.mg d = some (.ref (He.ga X.K d))) (ec : ExcC X.K (He.ga X.K c)) (ek : PySem.W.kitOne X.K (.ref (He.ga X.K c)) (.ref (He.ga X.K d)) = some (isA c d)) (hm : X.mg "isinstance" = none) (hN : X.N[i]? = some n) (hg2 : Gl X d := by rfl) (hg : Gl X "isinstance" := by rfl)
    (hv : Vis X.env.scope n := by first | exact Or.inl rfl | exact Or.inr (Or.inl rfl) | exact Or.inr (Or.inr rfl)) (hdb : (d == ("__debug__" : Str)) = false := by decide) (hd : (n == ("__debug__" : Str)) = false := by decide) (hcd : (n == ("__classdict__" : Str)) = false := by decide)
    (hs : starEach [.Name n p1, .Name d p2] X.env = (false, eval (.Name n p1) X.env) :: starEach [.Name d p2] X.env := by rfl) (hpl : (backTo pos (starEach [.Name d p2] X.env)).any (·.1) = false := by rfl) :
    DE X S Ex (.Call (.Name "isinstance" p3) [.Name n p1, .Name d p2] [] pos) (tIsE i p.1 (isA c d)) :=
  de_isE (c := .ref (He.ga X.K d)) ec H.hp ⟨H.z.1, H.z.2.1⟩ H.f (pe_glob hg2 g (show RelV (.ref (He.ga X.K d)) (.ref (He.ga X.K d)) from rfl) hdb) (fun u r => r) ek hg hm hN hv hd hcd hs hpl
theorem is_blt {ty : String} (H : HX X p c) (g : X.mg d = none) (hb : bootBuiltins d = some (.type ty)) (ec : ExcC X.K (He.ga X.K c)) {b : Bool} (ek : PySem.W.kitOne X.K (.ref (He.ga X.K c)) (.type ty) = some b) (hm : X.mg "isinstance" = none) (hN : X.N[i]? = some n) (hg2 : Gl X d := by rfl) (hg : Gl X "isinstance" := by rfl)
    (hv : Vis X.env.scope n := by first | exact Or.inl rfl | exact Or.inr (Or.inl rfl) | exact Or.inr (Or.inr rfl)) (hnn : d ≠ "__name__" := by decide) (hdb : (d == ("__debug__" : Str)) = false := by decide) (hd : (n == ("__debug__" : Str)) = false := by decide) (hcd : (n == ("__classdict__" : Str)) = false := by decide)
    (hs : starEach [.Name n p1, .Name d p2] X.env = (false, eval (.Name n p1) X.env) :: starEach [.Name d p2] X.env := by rfl) (hpl : (backTo pos (starEach [.Name d p2] X.env)).any (·.1) = false := by rfl) :
    DE X S Ex (.Call (.Name "isinstance" p3) [.Name n p1, .Name d p2] [] pos) (tIsE i p.1 b) :=
  de_isE (c := .ty ty) ec H.hp ⟨H.z.1, H.z.2.1⟩ H.f (pe_bltn (v := .ty ty) hg2 g hb rfl hnn hdb) (fun u r => r) ek hg hm hN hv hd hcd hs hpl
end
/-- what the world says of a class of errors -/
def excB (K : PySem.W.Frag) (D : Addr) : Bool :=
  decide (PySem.W.findIn K (.ref D) "__getattribute__" = some (some (.builtin "BaseException.__getattribute__"))) && (decide (PySem.W.findIn K (.ref D) "__getattr__" = some none) && (decide (PySem.W.subIn K (.ref D) (.type "BaseException") = some true) && (PySem.W.hasDictIn K D &&
  (decide (PySem.W.findIn K (.ref D) "__class__" = some (some (.builtin "object.__class__"))) && (decide (PySem.W.specialIn K (.builtin "object.__class__") "__get__" = some (some (.builtin "getset_descriptor.__get__"))) && (decide (PySem.W.takesIn K (.builtin "object.__class__") = some true) && decide (PySem.W.mroIn K D (.type "object") = some true)))))))
theorem excB_ok {K : PySem.W.Frag} {D : Addr} (h : excB K D = true) : ExcC K D := by
  unfold excB at h
  simp only [Bool.and_eq_true, decide_eq_true_eq] at h
  obtain ⟨h1, h2, h3, h4, h5, h6, h7, h8⟩ := h
  exact ⟨h1, h2, h3, h4, h5, h6, h7, h8⟩
def errB (K : PySem.W.Frag) (cs ns : List Str) : Bool := cs.all fun c => excB K (He.ga K c) && (decide (PySem.W.kitOne K (.ref (He.ga K c)) (.type "ValueError") = some true) && ns.all fun d => decide (PySem.W.kitOne K (.ref (He.ga K c)) (.ref (He.ga K d)) = some (isA c d)))
theorem errB_ok {K : PySem.W.Frag} {cs ns : List Str} (h : errB K cs ns = true) : ∀ c ∈ cs, ExcC K (He.ga K c) ∧ PySem.W.kitOne K (.ref (He.ga K c)) (.type "ValueError") = some true ∧ ∀ d ∈ ns, PySem.W.kitOne K (.ref (He.ga K c)) (.ref (He.ga K d)) = some (isA c d) := fun c hc => by
  have := List.all_eq_true.mp h c hc
  simp only [Bool.and_eq_true, decide_eq_true_eq, List.all_eq_true] at this
  exact ⟨excB_ok this.1, this.2.1, this.2.2⟩
end DL

set_option Elab.async false
set_option linter.all false
set_option maxRecDepth 100000
set_option maxHeartbeats 1000000
/-! the boxes' functions, plain -/
namespace DL.TB
open PySem PySem.Spec PyProof.Rows L2
abbrev Row := Str × Option Str × Str
def oD : Option Str → D
  | none => .non
  | some x => .str x
def rowD (r : Row) : D := .tup [.str r.1, oD r.2.1, .str r.2.2]
def boxesD (rows : List Row) : D := .tup (rows.map rowD)
def c_ROLES : D := .tup [.str "plain", .str "door", .str "slot"]
def c_MOST_BOXES : D := .int 8
def nameC (c : Nat) : Bool := decide (97 ≤ c) && decide (c ≤ 122)
def nameS (s : Str) : Bool := decide (1 ≤ s.length) && (decide (s.length ≤ 8) && s.cps.toList.all nameC)
def isNameB : D → Bool
  | .str s => nameS s
  | _ => false
def roleS (s : Str) : Bool := (["plain", "door", "slot"] : List Str).contains s
def isRoleB : D → Bool
  | .str s => roleS s
  | _ => false
def isBoxB : D → Bool
  | .tup [a, b, c] => isNameB a && ((b.isN || isNameB b) && isRoleB c)
  | _ => false
def slt (a b : Str) : Bool := decide (a.cps.toList < b.cps.toList)
def rising (ns : List Str) : Bool := (ns.zip ns.tail).all fun p => slt p.1 p.2

def sp_is_name : Spec := fun _ ds Q _ => ∃ d, ds = [d] ∧ d.ok = true ∧ Q (.bl (isNameB d))
def sqD (l : Bool) (xs : List Str) : D := match l with
  | true => .lst (xs.map D.str)
  | false => .tup (xs.map D.str)
def sp_is_one_of : Spec := fun _ ds Q _ => ∃ (d : D) (xs : List Str) (l : Bool), ds = [d, sqD l xs] ∧ d.ok = true ∧ okA (xs.map D.str) = true ∧ Q (.bl (match d with | .str s => xs.contains s | _ => false))
def sp_is_rising : Spec := fun _ ds Q _ => ∃ (xs : List Str) (l : Bool), ds = [sqD l xs] ∧ xs.length ≤ sizeLine ∧ Q (.bl (rising xs))
def sp_is_box : Spec := fun _ ds Q _ => ∃ d, ds = [d] ∧ d.ok = true ∧ Q (.bl (isBoxB d))
theorem ms_is_name : MonoS sp_is_name := ⟨fun h _ ⟨d, e, o, q⟩ => ⟨d, e, o, h _ q⟩⟩
theorem ms_is_one_of : MonoS sp_is_one_of := ⟨fun h _ ⟨d, xs, l, e, o, o2, q⟩ => ⟨d, xs, l, e, o, o2, h _ q⟩⟩
theorem ms_is_rising : MonoS sp_is_rising := ⟨fun h _ ⟨d, l, e, o, q⟩ => ⟨d, l, e, o, h _ q⟩⟩
theorem ms_is_box : MonoS sp_is_box := ⟨fun h _ ⟨d, e, o, q⟩ => ⟨d, e, o, h _ q⟩⟩
theorem len_is_name : ∀ S ds Q E, sp_is_name S ds Q E → ds.length = 1 := fun _ _ _ _ ⟨_, e, _⟩ => by rw [e]; rfl
theorem len_is_one_of : ∀ S ds Q E, sp_is_one_of S ds Q E → ds.length = 2 := fun _ _ _ _ ⟨_, _, _, e, _⟩ => by rw [e]; rfl
theorem len_is_rising : ∀ S ds Q E, sp_is_rising S ds Q E → ds.length = 1 := fun _ _ _ _ ⟨_, _, e, _⟩ => by rw [e]; rfl
theorem len_is_box : ∀ S ds Q E, sp_is_box S ds Q E → ds.length = 1 := fun _ _ _ _ ⟨_, e, _⟩ => by rw [e]; rfl
def b_is_name (S : List Addr) : TSd := (sRet (tAndE (tIsi isStr (tO 0)) (tAndE (tChn leD leD (tK (.int 1)) (tCl lenD (tCs (tO 0) tN)) (tK (.int 8))) (tCl allD (tCs (tComp (.n 1) tYesD (tChn leD leD (tK (.str "a")) (tO 1) (tK (.str "z"))) [1] (tItems (tO 0))) tN)))))

def b_is_one_of (S : List Addr) : TSd := (sRet (tAndE (tIsi isStr (tO 0)) (tBin inD (tO 0) (tO 1))))

def b_is_rising (S : List Addr) : TSd := (sRet (tCl allD (tCs (tComp (.t [(.n 1), (.n 2)]) tYesD (tBin ltD (tO 1) (tO 2)) [1, 2] (tZipA (tCs (tO 0) (tCs (tSlD (tO 0) (tOSo (tK (.int 1))) tONo) tN)))) tN)))

def b_is_box (S : List Addr) : TSd := (sSeq (sIf (tOrT (tNotT (tTru (tIsi isTup (tO 0)))) (tOrT (tIsB (tBin neD (tCl lenD (tCs (tO 0) tN)) (tK (.int 3)))) (tNotT (tTru (tFn S sp_is_name (tCs (tBin ixD (tO 0) (tK (.int 0))) tN))))))
  (sRet (tK (.bl false)))
  sNext)
  (sRet (tAndE (tOrE (tBin isND (tBin ixD (tO 0) (tK (.int 1))) (tK .non)) (tFn S sp_is_name (tCs (tBin ixD (tO 0) (tK (.int 1))) tN))) (tFn S sp_is_one_of (tCs (tBin ixD (tO 0) (tK (.int 2))) (tCs (tK c_ROLES) tN))))))

theorem blsOf_maps {α : Type} (f : α → Bool) (xs : List α) : blsOf (xs.map fun x => D.bl (f x)) = some (xs.map f) := by
  have := blsOf_map (xs.map f)
  rwa [List.map_map] at this
theorem str1_le (c : Nat) : (!decide ((⟨#[c]⟩ : Str).cps.toList < ("a" : Str).cps.toList) && !decide (("z" : Str).cps.toList < (⟨#[c]⟩ : Str).cps.toList)) = nameC c := by
  have e1 : ("a" : Str).cps.toList = [97] := by decide +kernel
  have e2 : ("z" : Str).cps.toList = [122] := by decide +kernel
  rw [e1, e2]
  show (!decide ([c] < [97]) && !decide ([122] < [c])) = nameC c
  unfold nameC
  have h1 : ([c] < [97]) ↔ c < 97 := by simp [List.cons_lt_cons_iff]
  have h2 : ([122] < [c]) ↔ 122 < c := by simp [List.cons_lt_cons_iff]
  simp only [h1, h2]
  by_cases c1 : c < 97 <;> by_cases c2 : 122 < c <;> simp [c1, c2] <;> omega
theorem chain_b {Q : D → Prop} {b c : Bool} : Q (.bl (b && c)) → match b with
    | true => Q (.bl c)
    | false => Q (.bl false) := by cases b <;> exact fun q => by simpa using q
theorem pure_is_name : ∀ S ds Q E, sp_is_name S ds Q E → b_is_name S { nx := fun _ => Q .non, rt := ptR Q, ex := fun x _ => E x } (start0 ["value", "sign"] ds) := by
  rintro S _ Q E ⟨d, rfl, ho, q⟩
  unfold b_is_name
  cases d with
  | str s =>
    have hl : s.length ≤ sizeLine := by simp at ho; exact ho.2
    have q : Q (.bl (decide (1 ≤ s.length) && (decide (s.length ≤ 8) && s.cps.toList.all nameC))) := q
    simp [isStr, hl]
    have e1 : decide ((1 : Int) ≤ s.length) = decide (1 ≤ s.length) := by apply decide_eq_decide.mpr; omega
    have e2 : decide ((s.length : Int) ≤ 8) = decide (s.length ≤ 8) := by apply decide_eq_decide.mpr; omega
    rw [e1, e2]
    cases h1 : decide (1 ≤ s.length)
    · simpa [h1] using q
    · cases h2 : decide (s.length ≤ 8)
      · simpa [h1, h2] using q
      · refine compD_map (fun c => .str ⟨#[c]⟩) (fun c => .bl (nameC c)) _ (fun c _ => ⟨_, rfl, fun Q q => ?_⟩) ?_
        · simp [wipeD]
          have := str1_le c
          rw [← this] at q
          exact chain_b q
        · rw [blsOf_maps]
          simpa [h1, h2, List.all_map] using q
  | _ => first | (simp at ho; done) | simpa [isStr, isNameB] using q
theorem okA_strs (xs : List Str) : okA (xs.map D.str) = true ↔ ∀ x ∈ xs, (D.str x).ok = true := by
  induction xs with
  | nil => simp
  | cons x xs ih => simp [ih, -D.ok]
theorem inB_strs (s : Str) (xs : List Str) : inB (.str s) (xs.map D.str) = xs.contains s := by
  induction xs with
  | nil => rfl
  | cons x xs ih =>
    unfold inB at ih ⊢
    rw [List.map_cons, List.any_cons, ih, List.contains_cons]
    rw [show (D.str x).eqv (.str s) = (s == x) from by simp; exact BEq.comm]
theorem pure_is_one_of : ∀ S ds Q E, sp_is_one_of S ds Q E → b_is_one_of S { nx := fun _ => Q .non, rt := ptR Q, ex := fun x _ => E x } (start0 ["value", "names"] ds) := by
  rintro S _ Q E ⟨d, xs, l, rfl, ho, ho2, q⟩
  unfold b_is_one_of
  cases d with
  | str s =>
    simp only [D.ok] at ho
    cases l <;> (simp [isStr, ho2, D.isIn, inB_strs, sqD]; simp at ho; simpa [ho] using q)
  | _ => first | (simp at ho; done) | simpa [isStr] using q
theorem zip_go (xs : List Str) (ys : List Str) : zipL (xs.map D.str) (ys.map D.str) = (xs.zip ys).map fun p => .tup [.str p.1, .str p.2] := by
  unfold zipL
  rw [List.zip_map, List.map_map]
  rfl
theorem cut_tail (xs : List D) : cut xs (some 1) none = xs.tail := by
  unfold cut
  cases xs with
  | nil => rfl
  | cons x xs =>
    have h : HT.sIx (xs.length + 1) 0 (some 1) = 1 := by simp [HT.sIx] <;> omega
    have h2 : HT.sIx (xs.length + 1) (xs.length + 1) none = xs.length + 1 := by simp [HT.sIx]
    simp [h, h2]
theorem pure_is_rising : ∀ S ds Q E, sp_is_rising S ds Q E → b_is_rising S { nx := fun _ => Q .non, rt := ptR Q, ex := fun x _ => E x } (start0 ["names", "one", "other"] ds) := by
  rintro S _ Q E ⟨xs, l, rfl, ho, q⟩
  unfold b_is_rising
  cases l <;>
  · simp [cut_tail, sqD]
    rw [← List.map_tail, zip_go]
    refine compD_map _ (fun p => .bl (slt p.1 p.2)) _ (fun c _ => ⟨_, rfl, fun Q q => ?_⟩) ?_
    · simpa [wipeD, slt] using q
    · rw [blsOf_maps]
      simpa [rising, List.all_map] using q
theorem is_roles (s : Str) : (["plain", "door", "slot"] : List Str).contains s = roleS s := rfl
theorem pure_is_box : ∀ S ds Q E, sp_is_box S ds Q E → b_is_box S { nx := fun _ => Q .non, rt := ptR Q, ex := fun x _ => E x } (start0 ["value"] ds) := by
  rintro S _ Q E ⟨d, rfl, ho, q⟩
  unfold b_is_box
  cases d with
  | tup xs =>
    by_cases h3 : xs.length = 3
    · match xs, h3 with
      | [a, b, c], _ =>
        have ha : a.ok = true ∧ b.ok = true ∧ c.ok = true := by simpa using ho
        simp [isTup, sp_is_name, ha]
        cases h1 : isNameB a
        · simpa [isBoxB, h1] using q
        · simp [sp_is_name, ha]
          have fin : (b.isN || isNameB b) = true → sp_is_one_of S [c, c_ROLES] Q (fun x => E x) := fun hk => by
            refine ⟨c, ["plain", "door", "slot"], false, rfl, ha.2.2, by decide +kernel, ?_⟩
            rw [show isBoxB (.tup [a, b, c]) = (isNameB a && ((b.isN || isNameB b) && isRoleB c)) from rfl, h1, hk] at q
            cases c <;> exact q
          cases hb : b.isN
          · cases h2 : isNameB b
            · rw [show isBoxB (.tup [a, b, c]) = (isNameB a && ((b.isN || isNameB b) && isRoleB c)) from rfl, h1, hb, h2] at q
              exact q
            · exact fin (by simp [h2])
          · exact fin (by simp [hb])
    · have : isBoxB (.tup xs) = false := by
        match xs, h3 with
        | [], _ => rfl
        | [_], _ => rfl
        | [_, _], _ => rfl
        | [_, _, _], h => exact absurd rfl h
        | _ :: _ :: _ :: _ :: _, _ => rfl
      rw [this] at q
      have h4 : ((xs.length : Int) == 3) = false := by simp; omega
      simp [isTup, h4, q]
  | _ => first | (simp at ho; done) | simpa [isTup, isBoxB] using q
end DL.TB

set_option Elab.async false
set_option linter.all false
set_option maxRecDepth 100000
set_option maxHeartbeats 1000000
/-! the boxes' functions, plain: trees -/
namespace DL.TB
open PySem PySem.Spec PyProof.Rows L2
def undersK (rows : List Row) : List (Key × D) := rows.map fun r => (.inr r.1, oD r.2.1)
def rolesK (rows : List Row) : List (Key × D) := rows.map fun r => (.inr r.1, .str r.2.2)
def names (rows : List Row) : List Str := rows.map (·.1)
structure RowsOk (rows : List Row) : Prop where
  len : rows.length ≤ 60
  nd : (names rows).Nodup
  ok : ∀ r ∈ rows, (D.str r.1).ok = true ∧ (oD r.2.1).ok = true ∧ (D.str r.2.2).ok = true
def find (rows : List Row) (n : Str) : Option Row := rows.find? fun r => r.1 == n
/-- the first door from b upward -/
def doorF (rows : List Row) : Nat → Option Str → Option (Option Str)
  | _, none => some none
  | 0, some _ => none
  | k + 1, some n => match find rows n with
    | none => none
    | some r => if r.2.2 == ("door" : Str) then some (some n) else doorF rows k r.2.1
def up (rows : List Row) (n : Str) : Str := match find rows n with
  | some (_, some u, _) => u
  | _ => n
def climb (rows : List Row) : Nat → Str → Str
  | 0, n => n
  | k + 1, n => climb rows k (up rows n)
def tops (rows : List Row) : List Str := (rows.filter fun r => r.2.1.isNone && r.2.2 == ("plain" : Str)).map (·.1)
def isTree (rows : List Row) : Bool :=
  (decide ((tops rows).length = 1) && decide ((rows.filter fun r => r.2.1.isNone).length = 1)) &&
  ((rows.all fun r => match r.2.1 with | none => true | some u => (names rows).contains u) && 
  (names rows).all fun n => climb rows rows.length n == (tops rows).headD "")
def sp_unders_of : Spec := fun _ ds Q _ => ∃ rows, ds = [boxesD rows] ∧ RowsOk rows ∧ Q (.dct (undersK rows))
def sp_roles_of : Spec := fun _ ds Q _ => ∃ rows, ds = [boxesD rows] ∧ RowsOk rows ∧ Q (.dct (rolesK rows))
def sp_is_tree : Spec := fun _ ds Q _ => ∃ rows, ds = [boxesD rows] ∧ RowsOk rows ∧ Q (.bl (isTree rows))
def sp_door_above : Spec := fun _ ds Q _ => ∃ rows b k r, ds = [.dct (undersK rows), .dct (rolesK rows), oD b] ∧ RowsOk rows ∧ doorF rows k b = some r ∧ Q (oD r)
theorem ms_unders_of : MonoS sp_unders_of := ⟨fun h _ ⟨d, e, o, q⟩ => ⟨d, e, o, h _ q⟩⟩
theorem ms_roles_of : MonoS sp_roles_of := ⟨fun h _ ⟨d, e, o, q⟩ => ⟨d, e, o, h _ q⟩⟩
theorem ms_is_tree : MonoS sp_is_tree := ⟨fun h _ ⟨d, e, o, q⟩ => ⟨d, e, o, h _ q⟩⟩
theorem ms_door_above : MonoS sp_door_above := ⟨fun h _ ⟨d, b, k, r, e, o, o2, q⟩ => ⟨d, b, k, r, e, o, o2, h _ q⟩⟩
theorem len_unders_of : ∀ S ds Q E, sp_unders_of S ds Q E → ds.length = 1 := fun _ _ _ _ ⟨_, e, _⟩ => by rw [e]; rfl
theorem len_roles_of : ∀ S ds Q E, sp_roles_of S ds Q E → ds.length = 1 := fun _ _ _ _ ⟨_, e, _⟩ => by rw [e]; rfl
theorem len_is_tree : ∀ S ds Q E, sp_is_tree S ds Q E → ds.length = 1 := fun _ _ _ _ ⟨_, e, _⟩ => by rw [e]; rfl
theorem len_door_above : ∀ S ds Q E, sp_door_above S ds Q E → ds.length = 3 := fun _ _ _ _ ⟨_, _, _, _, e, _⟩ => by rw [e]; rfl
def b_unders_of (S : List Addr) : TSd := (sRet (tDcD (.t [(.n 1), (.n 2), (.n 3)]) tYesD (tV 1) (tV 2) [1, 2, 3] (tItems (tO 0))))

def b_roles_of (S : List Addr) : TSd := (sRet (tDcD (.t [(.n 1), (.n 2), (.n 3)]) tYesD (tV 1) (tV 3) [1, 2, 3] (tItems (tO 0))))

def b_is_tree (S : List Addr) : TSd := (sSeq (sAsg (tFn S sp_unders_of (tCs (tV 0) tN)) (.n 1))
  (sSeq (sAsg (tComp (.t [(.n 3), (.n 6), (.n 7)]) (tAndT (tIsB (tBin isND (tO 6) (tK .non))) (tIsB (tBin eqD (tO 7) (tK (.str "plain"))))) (tV 3) [3, 6, 7] (tItems (tO 0))) (.n 2))
  (sSeq (sIf (tOrT (tIsB (tBin neD (tCl lenD (tCs (tO 2) tN)) (tK (.int 1)))) (tIsB (tBin neD (tCl lenD (tCs (tCompK 1 (.n 3) (tIsB (tBin isND (tBin ixD (tO 1) (tV 3)) (tK .non))) (tK (.int 1)) [3]) tN)) (tK (.int 1)))))
  (sRet (tK (.bl false)))
  sNext)
  (sSeq (sIf (tNotT (tTru (tCl allD (tCs (tComp (.t [(.n 3), (.n 6), (.n 7)]) tYesD (tOrE (tBin isND (tO 6) (tK .non)) (tBin inD (tO 6) (tO 1))) [3, 6, 7] (tItems (tO 0))) tN))))
  (sRet (tK (.bl false)))
  sNext)
  (sSeq (sForK 1 (.n 3)
  (sSeq (sAsg (tV 3) (.n 4))
  (sSeq (sFor (tRng1 (tCs (tCl lenD (tCs (tO 0) tN)) tN)) (.n 5)
  (sAsg (tIte (tIsB (tBin isND (tBin ixD (tO 1) (tV 4)) (tK .non))) (tV 4) (tBin ixD (tO 1) (tV 4))) (.n 4)))
  (sIf (tIsB (tBin neD (tO 4) (tBin ixD (tO 2) (tK (.int 0)))))
  (sRet (tK (.bl false)))
  sNext))))
  (sRet (tK (.bl true))))))))

def b_door_above (S : List Addr) : TSd := (sSeq (sAsg (tV 2) (.n 3))
  (sSeq (sWhile (tAndT (tIsB (tBin notND (tO 3) (tK .non))) (tIsB (tBin neD (tBin ixD (tO 1) (tV 3)) (tK (.str "door")))))
  (sAsg (tBin ixD (tO 0) (tV 3)) (.n 3)))
  (sRet (tV 3))))

theorem pk_new {kds : List (Key × D)} {k : Key} {v : D} (h : k ∉ kds.map (·.1)) : pk kds k v = kds ++ [(k, v)] := by
  unfold pk
  rw [if_neg]
  intro z
  rw [List.any_eq_true] at z
  obtain ⟨x, hx, e⟩ := z
  exact h (List.mem_map.mpr ⟨x, hx, by simpa using e⟩)
theorem dcD_go {α : Type} {τ : Tgt} {tk tv : T} {ρ : DEnv} (f : α → D) (p : α → Key) (g : α → D) : ∀ (xs : List α) (acc : List (Key × D)) {Q : List (Key × D) → Prop},
    (∀ x ∈ xs, ∃ ρ' y, asg τ (f x) ρ = some ρ' ∧ keyD y = some (p x) ∧ (∀ Q, Q y → tk ρ' Q NoE) ∧ (∀ Q, Q (g x) → tv ρ' Q NoE)) → ((acc.map (·.1)) ++ xs.map p).Nodup → Q (acc ++ xs.map fun x => (p x, g x)) →
    dcD τ tYesD tk tv (xs.map f) ρ acc Q
  | [], acc, Q, _, _, q => by simpa [dcD] using q
  | x :: xs, acc, Q, h, nd, q => by
    obtain ⟨ρ', y, e, ek, h1, h2⟩ := h x (List.mem_cons_self ..)
    simp only [List.map_cons, dcD, e, tYesD]
    refine h1 _ (h2 _ ?_)
    simp only [ek]
    have hn : p x ∉ acc.map (·.1) := fun z => by
      rw [List.nodup_append] at nd
      exact nd.2.2 _ z _ (by simp) rfl
    rw [pk_new hn]
    refine dcD_go f p g xs _ (fun y hy => h y (List.mem_cons_of_mem _ hy)) (by simpa using nd) (by simpa using q)
theorem nd_keys {rows : List Row} (h : (names rows).Nodup) : (rows.map fun r => (Sum.inr r.1 : Key)).Nodup := by
  have e : (rows.map fun r => (Sum.inr r.1 : Key)) = (names rows).map Sum.inr := by simp [names]
  rw [e]
  exact List.Pairwise.map _ (fun a b hab => by simpa using hab) h
theorem pure_unders_of : ∀ S ds Q E, sp_unders_of S ds Q E → b_unders_of S { nx := fun _ => Q .non, rt := ptR Q, ex := fun x _ => E x } (start0 ["boxes", "name", "under", "role"] ds) := by
  rintro S _ Q E ⟨rows, rfl, ho, q⟩
  unfold b_unders_of
  simp [boxesD]
  exact dcD_go rowD (fun r => .inr r.1) (fun r => oD r.2.1) rows [] (fun r hr => ⟨_, .str r.1, rfl, rfl, fun Q q => by simpa using q, fun Q q => by simpa using q⟩) (nd_keys ho.nd) q
theorem pure_roles_of : ∀ S ds Q E, sp_roles_of S ds Q E → b_roles_of S { nx := fun _ => Q .non, rt := ptR Q, ex := fun x _ => E x } (start0 ["boxes", "name", "under", "role"] ds) := by
  rintro S _ Q E ⟨rows, rfl, ho, q⟩
  unfold b_roles_of
  simp [boxesD]
  exact dcD_go rowD (fun r => .inr r.1) (fun r => .str r.2.2) rows [] (fun r hr => ⟨_, .str r.1, rfl, rfl, fun Q q => by simpa using q, fun Q q => by simpa using q⟩) (nd_keys ho.nd) q
theorem lk_map (rows : List Row) (g : Row → D) (n : Str) : lk (rows.map fun r => ((Sum.inr r.1 : Key), g r)) (.inr n) = (find rows n).map g := by
  unfold lk find
  induction rows with
  | nil => rfl
  | cons r rows ih =>
    by_cases h : r.1 = n
    · simp [h]
    · have h2 : (r.1 == n) = false := by simpa using h
      simp only [List.map_cons, List.find?_cons, h2]
      simpa [h] using ih
theorem doorF_up {rows : List Row} : ∀ {k : Nat} {b : Option Str} {r : Option Str}, doorF rows k b = some r → doorF rows (k + 1) b = some r
  | k, none, r, h => by cases k <;> simpa [doorF] using h
  | 0, some n, r, h => by simp [doorF] at h
  | k + 1, some n, r, h => by
    rw [doorF] at h ⊢
    cases hf : find rows n with
    | none => rw [hf] at h; cases h
    | some q =>
      rw [hf] at h
      simp only at h ⊢
      split at h
      · rename_i hq; rw [if_pos hq]; exact h
      · rename_i hq; rw [if_neg hq]; exact doorF_up h
theorem pure_door_above : ∀ S ds Q E, sp_door_above S ds Q E → b_door_above S { nx := fun _ => Q .non, rt := ptR Q, ex := fun x _ => E x } (start0 ["unders", "roles", "box", "here"] ds) := by
  rintro S _ Q E ⟨rows, b, k, r, rfl, ho, hd, q⟩
  unfold b_door_above
  simp [sWhile]
  refine ⟨k + 1, whileD_rule (fun m ρ => ∃ c, ρ = [some (.p (.dct (undersK rows))), some (.p (.dct (rolesK rows))), some (.p (oD b)), some (.p (oD c))] ∧ doorF rows m c = some r) (fun n ρ hI N hN => ?_) k _ ⟨b, rfl, hd⟩⟩
  · obtain ⟨c, rfl, hc⟩ := hI
    cases c with
    | none =>
      have : r = none := by cases n <;> simpa [doorF] using hc.symm
      subst this
      simpa [oD] using q
    | some m =>
      cases n with
      | zero => simp [doorF] at hc
      | succ n =>
        rw [doorF] at hc
        cases hf : find rows m with
        | none => rw [hf] at hc; cases hc
        | some rw_ =>
          rw [hf] at hc
          simp only at hc
          have l1 : lk (rolesK rows) (.inr m) = some (.str rw_.2.2) := by unfold rolesK; rw [lk_map, hf]; rfl
          have l2 : lk (undersK rows) (.inr m) = some (oD rw_.2.1) := by unfold undersK; rw [lk_map, hf]; rfl
          have hr : rw_ ∈ rows := List.mem_of_find?_eq_some hf
          have ok3 := (ho.ok _ hr).2.2
          simp only [D.ok] at ok3
          simp [oD, l1, l2]
          simp at ok3
          refine ⟨⟨ok3, by decide +kernel⟩, ?_⟩
          cases hq : rw_.2.2 == Str.ofString "door"
          · rw [hq] at hc
            exact hN n _ rfl ⟨rw_.2.1, rfl, by simpa using hc⟩
          · rw [hq] at hc
            have : some m = r := by simpa using hc
            subst this
            exact q
theorem intsOf_len (n : Nat) : True := trivial
theorem climb_in {rows : List Row} (h : (rows.all fun r => match r.2.1 with | none => true | some u => (names rows).contains u) = true) {n : Str} (hn : n ∈ names rows) :
    ∃ r, find rows n = some r ∧ up rows n ∈ names rows ∧ (r.2.1 = none ∧ up rows n = n ∨ r.2.1 = some (up rows n)) := by
  obtain ⟨r0, hr0, rfl⟩ := List.mem_map.mp hn
  have : (find rows r0.1).isSome := by
    unfold find
    rw [List.find?_isSome]
    exact ⟨r0, hr0, by simp⟩
  obtain ⟨r, hf⟩ := Option.isSome_iff_exists.mp this
  have hr : r ∈ rows := List.mem_of_find?_eq_some hf
  have hr1 : r.1 = r0.1 := by have := List.find?_some hf; simpa using this
  refine ⟨r, hf, ?_⟩
  unfold up
  rw [hf]
  obtain ⟨a, u, c⟩ := r
  cases u with
  | none => exact ⟨hn, .inl ⟨rfl, rfl⟩⟩
  | some u =>
    refine ⟨?_, .inr rfl⟩
    have := List.all_eq_true.mp h _ hr
    simpa using this
theorem find_of {rows : List Row} {n : Str} (h : n ∈ names rows) : ∃ r, find rows n = some r := by
  obtain ⟨r0, hr0, rfl⟩ := List.mem_map.mp h
  have : (find rows r0.1).isSome := by
    unfold find
    rw [List.find?_isSome]
    exact ⟨r0, hr0, by simp⟩
  exact Option.isSome_iff_exists.mp this
theorem find_self : ∀ {rows : List Row}, (names rows).Nodup → ∀ {r : Row}, r ∈ rows → find rows r.1 = some r
  | [], _, _, h => nomatch h
  | a :: rows, nd, r, h => by
    unfold find
    rw [List.find?_cons]
    rw [names, List.map_cons, List.nodup_cons] at nd
    rcases List.mem_cons.mp h with e | h'
    · subst e; simp
    · have : (a.1 == r.1) = false := by
        rw [beq_eq_false_iff_ne]
        intro e
        exact nd.1 (e ▸ List.mem_map.mpr ⟨r, h', rfl⟩)
      rw [this]
      exact find_self nd.2 h'
theorem keys_unders (rows : List Row) : (undersK rows).map (fun p => kD p.1) = rows.map fun r => D.str r.1 := by
  simp [undersK, kD, Function.comp_def]
theorem lk_unders (rows : List Row) (n : Str) : lk (undersK rows) (.inr n) = (find rows n).map fun r => oD r.2.1 := lk_map rows _ n
theorem lk_roles (rows : List Row) (n : Str) : lk (rolesK rows) (.inr n) = (find rows n).map fun r => D.str r.2.2 := lk_map rows _ n
theorem mem_lk (rows : List Row) (n : Str) : (lk (undersK rows) (.inr n)).isSome = (names rows).contains n := by
  rw [lk_unders]
  rw [Bool.eq_iff_iff]
  simp [find, names]
theorem pure_is_tree : ∀ S ds Q E, sp_is_tree S ds Q E → b_is_tree S { nx := fun _ => Q .non, rt := ptR Q, ex := fun x _ => E x } (start0 ["boxes", "unders", "tops", "name", "here", "turn", "under", "role"] ds) := by
  rintro S _ Q E ⟨rows, rfl, ho, q⟩
  unfold b_is_tree
  simp [sp_unders_of]
  refine ⟨rows, rfl, ho, ?_⟩
  rw [boxesD]
  simp
  refine compD_go rowD (fun r => r.2.1.isNone && r.2.2 == ("plain" : Str)) (fun r => .str r.1) rows (fun r hr => ⟨_, rfl, fun Q q => ?_, fun _ Q q => ?_⟩) ?_
  · have := (ho.ok _ hr).2.2
    simp at this
    cases hu : r.2.1 <;> simp [hu, oD, wipeD] at q ⊢
    · exact ⟨⟨this, by decide +kernel⟩, q⟩
    · exact q
  · simpa using q
  have et : (rows.filter fun r => r.2.1.isNone && r.2.2 == Str.ofString "plain").map (fun r => D.str r.1) = (tops rows).map D.str := by simp [tops]
  rw [et, keys_unders]
  have e1 : ∀ n : Nat, ((n : Int) == 1) = decide (n = 1) := fun n => by
    by_cases h : n = 1
    · simp [h]
    · have : ¬ ((n : Int) = 1) := by omega
      simp [h, this]
  simp [e1]
  cases h1 : decide ((tops rows).length = 1)
  · simpa [isTree, h1] using q
  simp
  refine compD_go (fun r : Row => D.str r.1) (fun r => r.2.1.isNone) (fun _ => .int 1) rows (fun r hr => ⟨_, rfl, fun Q q => ?_, fun _ Q q => q⟩) ?_
  · simp [lk_unders, find_self ho.nd hr]
    cases hu : r.2.1 <;> simpa [hu, oD] using q
  simp
  cases h2 : decide ((rows.filter fun r => r.2.1.isNone).length = 1)
  · simpa [isTree, h1, h2] using q
  simp
  refine compD_map rowD (fun r => .bl (match r.2.1 with | none => true | some u => (names rows).contains u)) rows (fun r hr => ⟨_, rfl, fun Q q => ?_⟩) ?_
  · cases hu : r.2.1 <;> simp [hu, oD, D.isIn] at q ⊢
    · exact q
    · rw [mem_lk]; simpa using q
  rw [blsOf_maps]
  simp only
  rw [List.all_map]
  cases h3 : rows.all (id ∘ fun r => match r.2.1 with | none => true | some u => (names rows).contains u)
  · have : isTree rows = false := by
      unfold isTree; rw [show (rows.all fun r => match r.2.1 with | none => true | some u => (names rows).contains u) = false from h3]; simp
    rw [this] at q
    simpa using q
  simp
  have hT : isTree rows = (names rows).all fun n => climb rows rows.length n == (tops rows).headD "" := by
    unfold isTree; rw [show (rows.all fun r => match r.2.1 with | none => true | some u => (names rows).contains u) = true from h3, h1, h2]; simp
  obtain ⟨top, ht⟩ : ∃ top, tops rows = [top] := by
    have := of_decide_eq_true h1
    match tops rows, this with
    | [a], _ => exact ⟨a, rfl⟩
  rw [hT, ht] at q
  rw [ht]
  refine forD_rule (fun ds ρ => ∃ (ns : List Str) (x3 x4 x5 : Option Sl), ds = ns.map D.str ∧ ρ = [some (.p (.tup (rows.map rowD))), some (.p (.dct (undersK rows))), some (.p (.lst [.str top])), x3, x4, x5, none, none] ∧ (∀ n ∈ ns, n ∈ names rows) ∧ Q (.bl (ns.all fun n => climb rows rows.length n == top)))
    (fun d rest ρ hI => ?_) (fun ρ hI => ?_) _ _ ⟨names rows, none, none, none, by simp [names], rfl, fun _ h => h, q⟩
  · obtain ⟨ns, x3, x4, x5, e, rfl, hin, q⟩ := hI
    cases ns with
    | nil => cases e
    | cons n ns =>
      cases e
      refine ⟨_, rfl, fun N hN => ?_⟩
      simp
      refine ⟨⟨by have := ho.len; omega, by have := ho.len; simp [sizeLine]; omega⟩, ?_⟩
      have okn : ∀ m ∈ names rows, (D.str m).ok = true := fun m hm => by
        obtain ⟨r, hr, rfl⟩ := List.mem_map.mp hm
        exact (ho.ok _ hr).1
      have htop : top ∈ names rows := by
        have : top ∈ tops rows := by rw [ht]; exact List.mem_singleton_self _
        obtain ⟨r, hr, rfl⟩ := List.mem_map.mp this
        exact List.mem_map.mpr ⟨r, (List.mem_filter.mp hr).1, rfl⟩
      have hn : n ∈ names rows := hin n (List.mem_cons_self ..)
      refine forD_rule (fun ds ρ => ∃ (h : Str) (x5 : Option Sl), ρ = [some (.p (.tup (rows.map rowD))), some (.p (.dct (undersK rows))), some (.p (.lst [.str top])), some (.p (.str n)), some (.p (.str h)), x5, none, none] ∧ h ∈ names rows ∧ climb rows ds.length h = climb rows rows.length n)
        (fun d rest ρ hI => ?_) (fun ρ hI => ?_) _ _ ⟨n, x5, rfl, hn, by simp [rngL]⟩
      · obtain ⟨h, x5, rfl, hh, hc⟩ := hI
        refine ⟨_, rfl, fun N2 hN2 => ?_⟩
        obtain ⟨r, hf, hu, hcase⟩ := climb_in (rows := rows) (by exact h3) hh
        have hc' : climb rows rest.length (up rows h) = climb rows rows.length n := hc
        simp [lk_unders, hf]
        rcases hcase with ⟨e1, e2⟩ | e1
        · rw [e2] at hc'
          simp [e1, oD]
          exact hN2 _ ⟨h, _, rfl, hh, hc'⟩
        · simp [e1, oD]
          exact hN2 _ ⟨up rows h, _, rfl, hu, hc'⟩
      · obtain ⟨h, x5, rfl, hh, hc⟩ := hI
        have hc : h = climb rows rows.length n := hc
        have o1 := okn h hh
        have o2 := okn top htop
        simp at o1 o2
        simp [o1, o2]
        rw [List.all_cons, ← hc] at q
        cases hb : h == top
        · rw [hb] at q; simpa using q
        · rw [hb] at q
          exact hN _ ⟨ns, _, _, _, rfl, rfl, fun m hm => hin m (List.mem_cons_of_mem _ hm), by simpa using q⟩
  · obtain ⟨ns, x3, x4, x5, e, rfl, hin, q⟩ := hI
    cases ns with
    | nil => simpa using q
    | cons => cases e
end DL.TB

set_option Elab.async false
set_option linter.all false
set_option maxRecDepth 100000
set_option maxHeartbeats 1000000
/-! the boxes' functions, plain: houses -/
namespace DL.TB
open PySem PySem.Spec PyProof.Rows L2
theorem slt_trans {a b c : Str} (h : slt a b = true) (h' : slt b c = true) : slt a c = true := by
  unfold slt at *
  simp only [decide_eq_true_eq] at *
  exact List.lt_trans h h'
theorem slt_irrefl (a : Str) : slt a a = false := by
  unfold slt
  simp only [decide_eq_false_iff_not]
  exact List.lt_irrefl _
theorem str_ext {a b : Str} (h : a.cps.toList = b.cps.toList) : a = b := by
  cases a; cases b
  simp only [Str.mk.injEq]
  exact Array.toList_inj.mp h
theorem slt_tri {a b : Str} (h : slt a b = false) (h' : slt b a = false) : a = b := by
  unfold slt at *
  simp only [decide_eq_false_iff_not] at *
  exact str_ext (List.le_antisymm (by simpa using h') (by simpa using h))
theorem rising_pw : ∀ {ns : List Str}, rising ns = true → ns.Pairwise (fun a b => slt a b = true)
  | [], _ => .nil
  | [a], _ => by simp
  | a :: b :: r, h => by
    have h' : slt a b = true ∧ rising (b :: r) = true := by simpa [rising] using h
    have ih := rising_pw h'.2
    refine List.pairwise_cons.mpr ⟨fun x hx => ?_, ih⟩
    rcases List.mem_cons.mp hx with e | e
    · subst e; exact h'.1
    · exact slt_trans h'.1 ((List.pairwise_cons.mp ih).1 x e)
theorem pw_rising : ∀ {ns : List Str}, ns.Pairwise (fun a b => slt a b = true) → rising ns = true
  | [], _ => rfl
  | [a], _ => rfl
  | a :: b :: r, h => by
    have h' := List.pairwise_cons.mp h
    have := pw_rising h'.2
    show (slt a b && rising (b :: r)) = true
    rw [this, h'.1 b (List.mem_cons_self ..)]; rfl
theorem rising_nodup {ns : List Str} (h : rising ns = true) : ns.Nodup := (rising_pw h).imp fun {a b} h e => by subst e; rw [slt_irrefl] at h; cases h
theorem sortedS_pw : ∀ {ns : List Str}, sortedS ns = true → ns.Pairwise (fun a b => slt b a = false)
  | [], _ => .nil
  | [a], _ => by simp
  | a :: b :: r, h => by
    have h' : slt b a = false ∧ sortedS (b :: r) = true := by
      have h : (!ltCps b.cps.toList a.cps.toList && risingS b r) = true := h
      rw [ltCps_eq] at h
      simpa [slt, sortedS] using h
    have ih := sortedS_pw h'.2
    refine List.pairwise_cons.mpr ⟨fun x hx => ?_, ih⟩
    rcases List.mem_cons.mp hx with e | e
    · subst e; exact h'.1
    · have h2 := (List.pairwise_cons.mp ih).1 x e
      cases h3 : slt x a
      · rfl
      · cases h4 : slt a b
        · have := slt_tri h4 h'.1
          subst this; rw [h2] at h3; exact h3.symm
        · have := slt_trans h3 h4; rw [h2] at this; cases this
theorem rising_sorted {xs ys : List Str} (p : ys.Perm xs) (h : sortedS ys = true) : rising ys = decide xs.Nodup := by
  cases hr : rising ys
  · symm
    rw [decide_eq_false_iff_not]
    intro nd
    have nd' : ys.Nodup := p.nodup_iff.mpr nd
    have pw := sortedS_pw h
    have : ys.Pairwise (fun a b => slt a b = true) := (pw.and nd').imp fun {a b} ⟨h1, h2⟩ => by
      cases h3 : slt a b
      · exact absurd (slt_tri h3 h1) h2
      · rfl
    rw [pw_rising this] at hr; cases hr
  · symm
    rw [decide_eq_true_eq]
    exact p.nodup_iff.mp (rising_nodup hr)
/-! trees -/
def hosts (rows : List Row) : List (Option Str) := (rows.filter fun r => r.2.2 == ("door" : Str)).map (·.2.1)
def houseOf (rows : List Row) (n : Str) : Option Str := (doorF rows (rows.length + 1) (some n)).getD none
def doors (rows : List Row) : List (Option Str) := (rows.filter fun r => r.2.2 == ("slot" : Str)).map fun r => houseOf rows r.1
def rightHouses (rows : List Row) : Bool := decide (hosts rows).Nodup && (!(doors rows).contains none && decide (doors rows).Nodup)
theorem tree_parts {rows : List Row} (h : isTree rows = true) : (tops rows).length = 1 ∧ (rows.filter fun r => r.2.1.isNone).length = 1 ∧ (rows.all fun r => match r.2.1 with | none => true | some u => (names rows).contains u) = true ∧
    ∀ n ∈ names rows, climb rows rows.length n = (tops rows).headD "" := by
  unfold isTree at h
  simp only [Bool.and_eq_true, decide_eq_true_eq] at h
  refine ⟨h.1.1, h.1.2, h.2.1, fun n hn => ?_⟩
  have := List.all_eq_true.mp h.2.2 n hn
  simpa using this
theorem tree_none {rows : List Row} (h : isTree rows = true) : ∀ r ∈ rows, r.2.1 = none → r.2.2 = "plain" := by
  obtain ⟨h1, h2, _⟩ := tree_parts h
  intro r hr hn
  have e : tops rows = ((rows.filter fun r => r.2.1.isNone).filter fun r => r.2.2 == ("plain" : Str)).map (·.1) := by
    rw [List.filter_filter]; unfold tops; congr 2; funext r; rw [Bool.and_comm]
  have hl : ((rows.filter fun r => r.2.1.isNone).filter fun r => r.2.2 == ("plain" : Str)).length = (rows.filter fun r => r.2.1.isNone).length := by
    rw [h2, ← h1, e, List.length_map]
  have := List.length_filter_eq_length_iff.mp hl r (List.mem_filter.mpr ⟨hr, by simp [hn]⟩)
  simpa using this
theorem top_find {rows : List Row} (nd : (names rows).Nodup) (h : isTree rows = true) : ∃ r, find rows ((tops rows).headD "") = some r ∧ r.2.1 = none := by
  obtain ⟨h1, _⟩ := tree_parts h
  match ht : tops rows, h1 with
  | [a], _ =>
    have : a ∈ tops rows := by rw [ht]; exact List.mem_singleton_self _
    obtain ⟨r, hr, rfl⟩ := List.mem_map.mp this
    have hr := List.mem_filter.mp hr
    refine ⟨r, find_self nd hr.1, ?_⟩
    have := hr.2
    simp at this
    exact this.1
theorem doorF_ok {rows : List Row} (nd : (names rows).Nodup) (h : isTree rows = true) : ∀ (k : Nat) {n : Str}, n ∈ names rows → climb rows k n = (tops rows).headD "" → ∃ r, doorF rows (k + 1) (some n) = some r
  | 0, n, hn, hc => by
    obtain ⟨r, hf, hr⟩ := top_find nd h
    rw [← hc] at hf
    have hf : find rows n = some r := hf
    rw [doorF, hf]
    simp only
    split
    · exact ⟨_, rfl⟩
    · rw [hr]; exact ⟨none, rfl⟩
  | k + 1, n, hn, hc => by
    obtain ⟨r, hf, hu, hcase⟩ := climb_in (tree_parts h).2.2.1 hn
    rw [doorF, hf]
    simp only
    split
    · exact ⟨_, rfl⟩
    · rcases hcase with ⟨e, _⟩ | e
      · rw [e]; exact ⟨none, rfl⟩
      · rw [e]; exact doorF_ok nd h k hu hc
theorem houseOf_eq {rows : List Row} (nd : (names rows).Nodup) (h : isTree rows = true) {n : Str} (hn : n ∈ names rows) : doorF rows (rows.length + 1) (some n) = some (houseOf rows n) := by
  obtain ⟨r, hr⟩ := doorF_ok nd h rows.length hn ((tree_parts h).2.2.2 n hn)
  unfold houseOf
  rw [hr]; rfl
def sp_has_right_houses : Spec := fun _ ds Q _ => ∃ rows, ds = [boxesD rows] ∧ RowsOk rows ∧ isTree rows = true ∧ Q (.bl (rightHouses rows))
theorem ms_has_right_houses : MonoS sp_has_right_houses := ⟨fun h _ ⟨d, e, o, o2, q⟩ => ⟨d, e, o, o2, h _ q⟩⟩
theorem len_has_right_houses : ∀ S ds Q E, sp_has_right_houses S ds Q E → ds.length = 1 := fun _ _ _ _ ⟨_, e, _⟩ => by rw [e]; rfl
def b_has_right_houses (S : List Addr) : TSd := (sSeq (sAsg (tTupD (tCs (tFn S sp_unders_of (tCs (tV 0) tN)) (tCs (tFn S sp_roles_of (tCs (tV 0) tN)) tN))) (.t [(.n 3), (.n 4)]))
  (sSeq (sAsg (tCl sortD (tCs (tComp (.t [(.n 5), (.n 6), (.n 7)]) (tIsB (tBin eqD (tO 7) (tK (.str "door")))) (tV 6) [5, 6, 7] (tItems (tO 0))) tN)) (.n 1))
  (sSeq (sAsg (tComp (.t [(.n 5), (.n 6), (.n 7)]) (tIsB (tBin eqD (tO 7) (tK (.str "slot")))) (tFn S sp_door_above (tCs (tV 3) (tCs (tV 4) (tCs (tV 5) tN)))) [5, 6, 7] (tItems (tO 0))) (.n 2))
  (sRet (tAndE (tFn S sp_is_rising (tCs (tV 1) tN)) (tAndE (tBin notInD (tK .non) (tO 2)) (tFn S sp_is_rising (tCs (tCl sortD (tCs (tO 2) tN)) tN))))))))

theorem strsOf_map (ss : List Str) : strsOf (ss.map D.str) = some ss := by
  induction ss with
  | nil => rfl
  | cons b bs ih => simp [strsOf, ih]
theorem sortD_strs {ss : List Str} {Q : D → Prop} (h : ss.length < 64) (q : ∀ ys : List Str, ys.Perm ss → sortedS ys = true → Q (.lst (ys.map D.str))) : sortD [.lst (ss.map D.str)] Q := by
  simp only [sortD, strsOf_map]
  exact ⟨h, q⟩
theorem all_some {α : Type} : ∀ {xs : List (Option α)}, none ∉ xs → ∃ ys : List α, xs = ys.map some
  | [], _ => ⟨[], rfl⟩
  | none :: xs, h => absurd (List.mem_cons_self ..) h
  | some x :: xs, h => by
    obtain ⟨ys, rfl⟩ := all_some (xs := xs) fun z => h (List.mem_cons_of_mem _ z)
    exact ⟨x :: ys, rfl⟩
theorem nodup_some (ys : List Str) : (ys.map some).Nodup ↔ ys.Nodup := by
  constructor
  · intro h; exact (List.pairwise_map.mp h).imp fun h e => h (by rw [e])
  · intro h; exact List.pairwise_map.mpr (h.imp fun h e => h (by simpa using e))
theorem oD_some (ys : List Str) : (ys.map some).map oD = ys.map D.str := by simp [oD, Function.comp_def]
theorem okA_oD {xs : List (Option Str)} (h : ∀ x, some x ∈ xs → (D.str x).ok = true) : okA (xs.map oD) = true := by
  induction xs with
  | nil => rfl
  | cons x xs ih =>
    have i2 := ih fun y hy => h y (List.mem_cons_of_mem _ hy)
    cases x with
    | none => simpa [oD] using i2
    | some x =>
      have := h x (List.mem_cons_self ..)
      show ((D.str x).ok && okA (xs.map oD)) = true
      rw [this, i2]; rfl
theorem inB_none (xs : List (Option Str)) : inB .non (xs.map oD) = xs.contains none := by
  induction xs with
  | nil => rfl
  | cons x xs ih =>
    unfold inB at ih ⊢
    rw [List.map_cons, List.any_cons, ih, List.contains_cons]
    cases x <;> rfl
theorem doorF_mem {rows : List Row} : ∀ {k : Nat} {b : Option Str} {x : Str}, doorF rows k b = some (some x) → x ∈ names rows
  | k, none, x, h => by cases k <;> simp [doorF] at h
  | 0, some n, x, h => by simp [doorF] at h
  | k + 1, some n, x, h => by
    rw [doorF] at h
    cases hf : find rows n with
    | none => rw [hf] at h; cases h
    | some r =>
      rw [hf] at h
      simp only at h
      split at h
      · obtain rfl : n = x := by simpa using h
        have h1 := List.mem_of_find?_eq_some hf
        have h2 := List.find?_some hf
        have : r.1 = n := by simpa using h2
        exact List.mem_map.mpr ⟨r, h1, this⟩
      · exact doorF_mem h
theorem names_ok {rows : List Row} (ho : RowsOk rows) : ∀ m ∈ names rows, (D.str m).ok = true := fun m hm => by
  obtain ⟨r, hr, rfl⟩ := List.mem_map.mp hm
  exact (ho.ok _ hr).1
theorem houseOf_mem {rows : List Row} (nd : (names rows).Nodup) (h : isTree rows = true) {n x : Str} (hn : n ∈ names rows) (hx : houseOf rows n = some x) : x ∈ names rows := by
  have := houseOf_eq nd h hn
  rw [hx] at this
  exact doorF_mem this
theorem pure_has_right_houses : ∀ S ds Q E, sp_has_right_houses S ds Q E → b_has_right_houses S { nx := fun _ => Q .non, rt := ptR Q, ex := fun x _ => E x } (start0 ["boxes", "hosts", "doors", "unders", "roles", "name", "under", "role"] ds) := by
  rintro S _ Q E ⟨rows, rfl, ho, ht, q⟩
  unfold b_has_right_houses
  simp [sp_unders_of, sp_roles_of]
  refine ⟨rows, rfl, ho, rows, rfl, ho, by simp [sizeLine], ?_⟩
  rw [boxesD]
  simp
  refine compD_go rowD (fun r => r.2.2 == ("door" : Str)) (fun r => oD r.2.1) rows (fun r hr => ⟨_, rfl, fun Q q => ?_, fun _ Q q => ?_⟩) ?_
  · have := (ho.ok _ hr).2.2
    simp at this
    simp [wipeD]
    exact ⟨⟨this, by decide +kernel⟩, q⟩
  · simpa using q
  have hlen := ho.len
  obtain ⟨hs, hhs⟩ : ∃ hs : List Str, hosts rows = hs.map some := by
    refine all_some fun z => ?_
    obtain ⟨r, hr, e⟩ := List.mem_map.mp z
    have hr := List.mem_filter.mp hr
    have h2 := tree_none ht r hr.1 e
    have h3 := hr.2
    rw [h2] at h3
    exact absurd h3 (by decide +kernel)
  have hl1 : hs.length ≤ rows.length := by
    have : hs.length = (hosts rows).length := by rw [hhs, List.length_map]
    rw [this, hosts, List.length_map]; exact List.length_filter_le ..
  have e1 : (rows.filter fun r => r.2.2 == ("door" : Str)).map (fun r => oD r.2.1) = hs.map D.str := by
    rw [← oD_some, ← hhs, hosts, List.map_map]; rfl
  rw [e1]
  refine sortD_strs (by omega) fun ys hp hy => ?_
  refine compD_go rowD (fun r => r.2.2 == ("slot" : Str)) (fun r => oD (houseOf rows r.1)) rows (fun r hr => ⟨_, rfl, fun Q q => ?_, fun _ Q q => ?_⟩) ?_
  · have := (ho.ok _ hr).2.2
    simp at this
    simp [wipeD]
    exact ⟨⟨this, by decide +kernel⟩, q⟩
  · simp [wipeD]
    exact ⟨rows, some r.1, _, _, rfl, ho, houseOf_eq ho.nd ht (List.mem_map.mpr ⟨r, hr, rfl⟩), q⟩
  have e2 : (rows.filter fun r => r.2.2 == ("slot" : Str)).map (fun r => oD (houseOf rows r.1)) = (doors rows).map oD := by rw [doors, List.map_map]; rfl
  rw [e2]
  refine ⟨ys, true, rfl, by rw [hp.length_eq]; simp [sizeLine]; omega, ?_⟩
  have e3 : rising ys = decide (hosts rows).Nodup := by
    rw [rising_sorted hp hy, hhs]; exact decide_eq_decide.mpr (nodup_some hs).symm
  rw [e3]
  cases h1 : decide (hosts rows).Nodup
  · simpa [rightHouses, h1] using q
  simp
  have okd : okA ((doors rows).map oD) = true := okA_oD fun x hx => by
    obtain ⟨r, hr, e⟩ := List.mem_map.mp hx
    have hr := (List.mem_filter.mp hr).1
    exact names_ok ho _ (houseOf_mem ho.nd ht (List.mem_map.mpr ⟨r, hr, rfl⟩) e)
  rw [if_pos okd, inB_none]
  · simp only
    cases h2 : (doors rows).contains none
    · simp
      obtain ⟨dd, hd⟩ : ∃ hs : List Str, doors rows = hs.map some := all_some fun z => by
        rw [List.contains_iff_mem.mpr z] at h2; cases h2
      have hl2 : dd.length ≤ rows.length := by
        have : dd.length = (doors rows).length := by rw [hd, List.length_map]
        rw [this, doors, List.length_map]; exact List.length_filter_le ..
      rw [hd, oD_some]
      refine sortD_strs (by omega) fun zs hp hz => ?_
      refine ⟨zs, true, rfl, by rw [hp.length_eq]; simp [sizeLine]; omega, ?_⟩
      have e4 : rising zs = decide (doors rows).Nodup := by
        rw [rising_sorted hp hz, hd]; exact decide_eq_decide.mpr (nodup_some dd).symm
      rw [e4]
      rw [rightHouses, h1, h2] at q
      simpa using q
    · rw [rightHouses, h1, h2] at q
      simpa using q
/-! boxes -/
def rowOf : D → Option Row
  | .tup [.str a, .non, .str c] => some (a, none, c)
  | .tup [.str a, .str b, .str c] => some (a, some b, c)
  | _ => none
def rowsOf : List D → Option (List Row)
  | [] => some []
  | d :: ds => (rowOf d).bind fun r => (rowsOf ds).map (r :: ·)
def isBoxesB : D → Bool
  | .tup xs => decide (1 ≤ xs.length) && (decide (xs.length ≤ 8) && (xs.all isBoxB && match rowsOf xs with
    | some rows => rising (names rows) && (isTree rows && rightHouses rows)
    | none => false))
  | _ => false
theorem rowOf_eq {d : D} {r : Row} (h : rowOf d = some r) : d = rowD r := by
  unfold rowOf at h
  split at h <;> first | (cases h; rfl) | cases h
theorem rowsOf_eq : ∀ {xs : List D} {rows : List Row}, rowsOf xs = some rows → xs = rows.map rowD
  | [], rows, h => by cases h; rfl
  | d :: ds, rows, h => by
    rw [rowsOf] at h
    obtain ⟨r, hr, h⟩ := Option.bind_eq_some_iff.mp h
    obtain ⟨rs, hrs, rfl⟩ := Option.map_eq_some_iff.mp h
    rw [List.map_cons, ← rowOf_eq hr, ← rowsOf_eq hrs]
theorem isBox_row {d : D} (h : isBoxB d = true) : ∃ r, rowOf d = some r := by
  unfold isBoxB at h
  split at h
  · rename_i a b c
    simp only [Bool.and_eq_true, Bool.or_eq_true] at h
    obtain ⟨h1, h2, h3⟩ := h
    cases a <;> first | cases h1 | skip
    cases c <;> first | cases h3 | skip
    cases b <;> first | exact ⟨_, rfl⟩ | (rcases h2 with h2 | h2 <;> cases h2)
  · cases h
theorem isBoxes_rows : ∀ {xs : List D}, xs.all isBoxB = true → ∃ rows, rowsOf xs = some rows
  | [], _ => ⟨[], rfl⟩
  | d :: ds, h => by
    rw [List.all_cons, Bool.and_eq_true] at h
    obtain ⟨r, hr⟩ := isBox_row h.1
    obtain ⟨rs, hrs⟩ := isBoxes_rows h.2
    exact ⟨r :: rs, by rw [rowsOf, hr, hrs]; rfl⟩
theorem okA_mem {xs : List D} (h : okA xs = true) : ∀ x ∈ xs, x.ok = true := by
  induction xs with
  | nil => intro _ h; cases h
  | cons y ys ih =>
    have h : (y.ok && okA ys) = true := h
    rw [Bool.and_eq_true] at h
    intro x hx
    rcases List.mem_cons.mp hx with e | e
    · rw [e]; exact h.1
    · exact ih h.2 x e
def sp_is_boxes : Spec := fun _ ds Q _ => ∃ d, ds = [d] ∧ d.ok = true ∧ Q (.bl (isBoxesB d))
theorem ms_is_boxes : MonoS sp_is_boxes := ⟨fun h _ ⟨d, e, o, q⟩ => ⟨d, e, o, h _ q⟩⟩
theorem len_is_boxes : ∀ S ds Q E, sp_is_boxes S ds Q E → ds.length = 1 := fun _ _ _ _ ⟨_, e, _⟩ => by rw [e]; rfl
def b_is_boxes (S : List Addr) : TSd := (sSeq (sIf (tOrT (tNotT (tTru (tIsi isTup (tO 0)))) (tNotT (tIsB (tChn leD leD (tK (.int 1)) (tCl lenD (tCs (tO 0) tN)) (tK c_MOST_BOXES)))))
  (sRet (tK (.bl false)))
  sNext)
  (sSeq (sIf (tNotT (tTru (tCl allD (tCs (tComp (.n 1) tYesD (tFn S sp_is_box (tCs (tV 1) tN)) [1] (tItems (tO 0))) tN))))
  (sRet (tK (.bl false)))
  sNext)
  (sRet (tAndE (tFn S sp_is_rising (tCs (tComp (.n 1) tYesD (tBin ixD (tO 1) (tK (.int 0))) [1] (tItems (tO 0))) tN)) (tAndE (tFn S sp_is_tree (tCs (tV 0) tN)) (tFn S sp_has_right_houses (tCs (tV 0) tN)))))))

theorem pure_is_boxes : ∀ S ds Q E, sp_is_boxes S ds Q E → b_is_boxes S { nx := fun _ => Q .non, rt := ptR Q, ex := fun x _ => E x } (start0 ["value", "row"] ds) := by
  rintro S _ Q E ⟨d, rfl, ho, q⟩
  unfold b_is_boxes
  cases d with
  | tup xs =>
    have okx := okA_mem (xs := xs) ho
    simp [isTup, c_MOST_BOXES]
    have e1 : decide ((1 : Int) ≤ xs.length) = decide (1 ≤ xs.length) := by apply decide_eq_decide.mpr; omega
    have e2 : decide ((xs.length : Int) ≤ 8) = decide (xs.length ≤ 8) := by apply decide_eq_decide.mpr; omega
    rw [e1, e2]
    cases h1 : decide (1 ≤ xs.length)
    · simpa [isBoxesB, h1] using q
    cases h2 : decide (xs.length ≤ 8)
    · simpa [isBoxesB, h1, h2] using q
    simp
    refine compD_map' (fun d => .bl (isBoxB d)) xs (fun d hd => ⟨_, rfl, fun Q q => ⟨d, rfl, okx d hd, q⟩⟩) ?_
    rw [blsOf_maps]
    simp only
    rw [List.all_map]
    cases h3 : xs.all (id ∘ isBoxB)
    · rw [isBoxesB, h1, h2, show xs.all isBoxB = false from h3] at q
      simpa using q
    simp
    obtain ⟨rows, hr⟩ := isBoxes_rows h3
    rw [isBoxesB, h1, h2, show xs.all isBoxB = true from h3, hr] at q
    have e := rowsOf_eq hr
    subst e
    refine compD_map rowD (fun r => .str r.1) rows (fun r hr => ⟨_, rfl, fun Q q => by simpa [rowD] using q⟩) ?_
    have hl : rows.length ≤ 8 := by simpa using of_decide_eq_true h2
    refine ⟨names rows, true, by simp [names, sqD], by simp [names, sizeLine]; omega, ?_⟩
    cases h4 : rising (names rows)
    · simpa [h4] using q
    have ok : RowsOk rows := ⟨by omega, rising_nodup h4, fun r hr => by
      have := okx _ (List.mem_map.mpr ⟨r, hr, rfl⟩)
      simp only [rowD, D.ok, okA, Bool.and_eq_true] at this
      exact ⟨by simpa using this.1, this.2.1, by simpa using this.2.2.1⟩⟩
    refine ⟨rows, rfl, ok, ?_⟩
    cases h5 : isTree rows
    · simpa [h4, h5] using q
    refine ⟨rows, rfl, ok, h5, ?_⟩
    simpa [h4, h5] using q
  | _ => first | (simp at ho; done) | simpa [isTup, isBoxesB] using q
end DL.TB

set_option Elab.async false
set_option linter.all false
set_option maxRecDepth 100000
set_option maxHeartbeats 1000000
/-! the law's helpers, plain -/
namespace DL.TB
open PySem PySem.Spec PyProof.Rows L2
def sp__law_pick : Spec := fun S ds Q _ => ∃ (a : Addr) (n : Int), ds = [.ref a, .int n] ∧ a ∈ S ∧ 0 < n ∧ n ≤ 2 ^ 20 ∧ ∀ i : Int, 0 ≤ i → i < n → Q (.int i)
theorem ms__law_pick : MonoS sp__law_pick := ⟨fun h _ ⟨a, n, e, o, o1, o2, q⟩ => ⟨a, n, e, o, o1, o2, fun i h1 h2 => h _ (q i h1 h2)⟩⟩
theorem len__law_pick : ∀ S ds Q E, sp__law_pick S ds Q E → ds.length = 2 := fun _ _ _ _ ⟨_, _, e, _⟩ => by rw [e]; rfl
def b__law_pick (S : List Addr) : TSd := (sSeq (sIf (tIsB (tBin gtD (tSrc S 0 0) (tK (.int 0))))
  (sSeq (sAsg (tBin modD (tCl intDD (tCs (tSrc S 0 0) tN)) (tO 1)) (.n 2))
  (sSeq (sSrcW S 0 0 (tBin fdivD (tSrc S 0 0) (tO 1)))
  (sRet (tV 2))))
  sNext)
  (sSeq (sSrcW S 0 1 (tBin addD (tBin modD (tCl intDD (tCs (tBin mulD (tSrc S 0 1) (tK (.int 48271))) tN)) (tSrc S 0 2)) (tK (.int 1))))
  (sRet (tBin modD (tCl intDD (tCs (tBin fdivD (tBin modD (tCl intDD (tCs (tBin mulD (tSrc S 0 1) (tSrc S 0 1)) tN)) (tK (.int 2147483423))) (tK (.int 7))) tN)) (tO 1)))))

theorem pure__law_pick : ∀ S ds Q E, sp__law_pick S ds Q E → b__law_pick S { nx := fun _ => Q .non, rt := ptR Q, ex := fun x _ => E x } (start0 ["source", "limit", "drawn"] ds) := by
  rintro S _ Q E ⟨a, n, rfl, ha, h0, h1, q⟩
  unfold b__law_pick
  simp [isSrc, ha]
  intro j hj
  cases hd : decide (0 < j)
  · intro y hy
    refine ⟨.inr ⟨by omega, by omega⟩, fun z hz => ⟨hz.1, ⟨by have := Int.emod_nonneg (y * 48271) (show z ≠ 0 by have := hz.1; omega); omega, by have := Int.emod_lt_of_pos (y * 48271) hz.1; have := hz.2; omega⟩, fun y1 h1 y2 h2 => ⟨.inl ⟨by have := h1.1; omega, by have := h1.2; omega⟩, ⟨by omega, by omega⟩, h0, q _ (Int.emod_nonneg _ (by omega)) (Int.emod_lt_of_pos _ h0)⟩⟩⟩
  · intro x hx
    exact ⟨h0, fun y hy => ⟨⟨h0, by omega⟩, Int.ediv_nonneg hy (by omega), q _ (Int.emod_nonneg _ (by omega)) (Int.emod_lt_of_pos _ h0)⟩⟩
def sp__law_source : Spec := fun _ ds Q _ => ∃ (b : Addr) (sc : List Int) (k : Nat), ds = [scrD b sc, .int k] ∧ (k ≤ 1000 ∧ sc.length ≤ 63) ∧ ∀ x y z : Int, 0 ≤ x → 0 ≤ y → y ≤ 2 ^ 32 → 0 < z → z ≤ 2 ^ 32 → Q (.lst [.int x, .int y, .int z])
theorem ms__law_source : MonoS sp__law_source := ⟨fun h _ ⟨b, a, n, e, o, q⟩ => ⟨b, a, n, e, o, fun x y z h1 h2 h3 h4 h5 => h _ (q x y z h1 h2 h3 h4 h5)⟩⟩
theorem len__law_source : ∀ S ds Q E, sp__law_source S ds Q E → ds.length = 2 := fun _ _ _ _ ⟨_, _, _, e, _⟩ => by rw [e]; rfl
def b__law_source (S : List Addr) : TSd := (sSeq (sAsg (tK (.int 0)) (.n 2))
  (sSeq (sIf (tIsB (tBin ltD (tO 1) (tLenScr 0)))
  (sAsg (tIxScr 0 (tV 1)) (.n 2))
  sNext)
  (sSeq (sAsg (tLstD (tCs (tK (.int 2147483647)) (tCs (tK (.int 2147483629)) (tCs (tK (.int 2147483587)) (tCs (tK (.int 2147483579)) (tCs (tK (.int 2147483563)) (tCs (tK (.int 2147483549)) (tCs (tK (.int 2147483543)) (tCs (tK (.int 2147483497)) tN))))))))) (.n 3))
  (sSeq (sAsg (tBin modD (tCl intDD (tCs (tBin mulD (tBin addD (tBin modD (tCl intDD (tCs (tO 2) tN)) (tK (.int 2147483489))) (tK (.int 1))) (tBin addD (tK (.int 48271)) (tBin mulD (tK (.int 2)) (tO 1)))) tN)) (tK (.int 2147483489))) (.n 4))
  (sSeq (sAsg (tBin addD (tBin addD (tBin modD (tCl intDD (tCs (tBin mulD (tO 4) (tO 4)) tN)) (tK (.int 2147483477))) (tO 1)) (tK (.int 1))) (.n 4))
  (sSeq (sIf (tIsB (tBin geD (tO 2) (tBin powD (tK (.int 10)) (tK (.int 18)))))
  (sRetF (tLstD (tCs (tV 2) (tCs (tV 4) (tCs (tBin ixD (tO 3) (tBin modD (tCl intDD (tCs (tO 1) tN)) (tK (.int 8)))) tN)))))
  sNext)
  (sRetF (tLstD (tCs (tK (.int 0)) (tCs (tV 4) (tCs (tBin ixD (tO 3) (tBin modD (tCl intDD (tCs (tO 1) tN)) (tK (.int 8)))) tN)))))))))))

theorem pure__law_source : ∀ S ds Q E, sp__law_source S ds Q E → b__law_source S { nx := fun _ => False, rt := frR Q, ex := fun x _ => E x } (start0 ["script", "k", "cell", "primes", "seed"] ds) := by
  rintro S _ Q E ⟨b, sc, k, rfl, ⟨hk, hsl⟩, q⟩
  unfold b__law_source
  have hp : ∃ z : Int, atI [D.int 2147483647, D.int 2147483629, D.int 2147483587, D.int 2147483579, D.int 2147483563, D.int 2147483549, D.int 2147483543, D.int 2147483497] ((k : Int) % 8) = some (.int z) ∧ 0 < z ∧ z ≤ 2 ^ 32 := by
    have h8 : (k : Int) % 8 = ((k % 8 : Nat) : Int) := by omega
    rw [h8, atI_nat]
    have : k % 8 < 8 := Nat.mod_lt _ (by omega)
    match k % 8, this with
    | 0, _ | 1, _ | 2, _ | 3, _ | 4, _ | 5, _ | 6, _ | 7, _ => exact ⟨_, rfl, by decide, by decide⟩
  obtain ⟨z, hz, hz1, hz2⟩ := hp
  have hs : sizeLine = 16777216 := rfl
  have fin : ∀ c : Int, ∀ sd : Int, sd = (c % 2147483489 + 1) * (48271 + 2 * (k : Int)) % 2147483489 → ∀ s2 : Int, s2 = sd * sd % 2147483477 + k + 1 → 0 ≤ s2 ∧ s2 ≤ 2 ^ 32 := fun c sd e s2 e2 => by omega
  have m1 : ∀ c : Int, CMul (c % 2147483489 + 1) (48271 + 2 * (k : Int)) := fun c => .inr ⟨by omega, by omega⟩
  have m2 : ∀ c : Int, CMul (c % 2147483489) (c % 2147483489) := fun c => .inr ⟨by omega, by omega⟩
  have m3 : CMul 2 (k : Int) := .inl ⟨by omega, by omega⟩
  have m4 : CPow 10 18 := ⟨by omega, by omega, by decide⟩
  have e1 : decide ((k : Int) < sc.length) = decide (k < sc.length) := by apply decide_eq_decide.mpr; omega
  have ha0 : ∀ hk' : k < sc.length, atI sc (k : Int) = some sc[k] := fun hk' => by rw [atI_nat, List.getElem?_eq_getElem hk']
  simp
  refine ⟨b, sc, rfl, by omega, ?_⟩
  cases h : decide (k < sc.length)
  · simp [h, m3, m4, hz]
    refine ⟨by omega, .inl ⟨by omega, by omega⟩, m2 _, by omega, q _ _ _ (by omega) (by omega) (by omega) hz1 hz2⟩
  · have hk' := of_decide_eq_true h
    simp only
    refine ⟨b, sc, rfl, ?_⟩
    simp [ha0 hk', m1, m2, m3, m4, hz]
    refine ⟨by omega, ?_⟩
    have f := fin sc[k] _ rfl _ rfl
    cases hc : decide (1000000000000000000 ≤ sc[k])
    · exact ⟨by omega, q _ _ _ (by omega) f.1 f.2 hz1 hz2⟩
    · have := of_decide_eq_true hc
      exact ⟨by omega, q _ _ _ (by omega) f.1 f.2 hz1 hz2⟩
end DL.TB

set_option Elab.async false
set_option linter.all false
set_option maxRecDepth 100000
set_option maxHeartbeats 1000000
/-! the law's helpers, plain: drawn values -/
namespace DL.TB
open PySem PySem.Spec PyProof.Rows L2
/-- the source is a of S, and the draw is below n -/
theorem pick {S : List Addr} {a : Addr} {n : Int} {Q : D → Prop} {E : Exn → Prop} (ha : a ∈ S) (h0 : 0 < n) (h1 : n ≤ 2 ^ 20) (q : ∀ i : Int, 0 ≤ i → i < n → Q (.int i)) : sp__law_pick S [.ref a, .int n] Q E := ⟨a, n, rfl, ha, h0, h1, q⟩
def sqv (l : Bool) (xs : List D) : D := match l with
  | true => .lst xs
  | false => .tup xs
def sp__law_chosen : Spec := fun S ds Q _ => ∃ (a : Addr) (xs : List D) (l : Bool), ds = [.ref a, sqv l xs] ∧ a ∈ S ∧ 0 < xs.length ∧ xs.length ≤ 2 ^ 20 ∧ ∀ x ∈ xs, Q x
theorem ms__law_chosen : MonoS sp__law_chosen := ⟨fun h _ ⟨a, xs, l, e, o, o1, o2, q⟩ => ⟨a, xs, l, e, o, o1, o2, fun x hx => h _ (q x hx)⟩⟩
theorem len__law_chosen : ∀ S ds Q E, sp__law_chosen S ds Q E → ds.length = 2 := fun _ _ _ _ ⟨_, _, _, e, _⟩ => by rw [e]; rfl
def b__law_chosen (S : List Addr) : TSd := (sRet (tBin ixD (tO 1) (tFn S sp__law_pick (tCs (tV 0) (tCs (tCl lenD (tCs (tO 1) tN)) tN)))))

theorem atI_some {α : Type} {xs : List α} {i : Int} (h0 : 0 ≤ i) (h1 : i < xs.length) : ∃ x ∈ xs, atI xs i = some x := by
  have e : i = ((i.toNat : Nat) : Int) := by omega
  have h : i.toNat < xs.length := by omega
  rw [e, atI_nat, List.getElem?_eq_getElem h]
  exact ⟨_, List.getElem_mem h, rfl⟩
theorem pure__law_chosen : ∀ S ds Q E, sp__law_chosen S ds Q E → b__law_chosen S { nx := fun _ => Q .non, rt := ptR Q, ex := fun x _ => E x } (start0 ["source", "some"] ds) := by
  rintro S _ Q E ⟨a, xs, l, rfl, ha, h0, h1, q⟩
  unfold b__law_chosen
  cases l
  · simp [sqv]
    refine pick ha (by omega) (by omega) fun i h2 h3 => ?_
    obtain ⟨x, hx, e⟩ := atI_some (xs := xs) h2 (by omega)
    simp [e]
    exact q x hx
  · simp [sqv]
    refine pick ha (by omega) (by omega) fun i h2 h3 => ?_
    obtain ⟨x, hx, e⟩ := atI_some (xs := xs) h2 (by omega)
    simp [e]
    exact q x hx
theorem chosen {S : List Addr} {a : Addr} {xs : List D} {Q : D → Prop} (l : Bool) (ha : a ∈ S) (h0 : 0 < xs.length) (h1 : xs.length ≤ 2 ^ 20) (q : ∀ x ∈ xs, Q x) : ∃ (a' : Addr) (ys : List D) (l' : Bool), [D.ref a, sqv l xs] = [.ref a', sqv l' ys] ∧ a' ∈ S ∧ 0 < ys.length ∧ ys.length ≤ 2 ^ 20 ∧ ∀ x ∈ ys, Q x :=
  ⟨a, xs, l, rfl, ha, h0, h1, q⟩
/-- what is drawn -/
def AnyV (n : Nat) (d : D) : Prop := d.ok = true ∧ d.dep ≤ n ∧ d.nar = true
def anyC : List D := [.int 0, .int (-1), .int 1, .bl true, .bl false, .non, .str "", .str "a", .str "ab", .str "red", .str "a b", .str "abcdefghi", .int 2, .int 3, .int (-7), .str "<", .int 100000000000, .int 8, .tup [], .lst [], .tup [.int 0, .int 1]]
theorem anyC_ok {n : Nat} : ∀ x ∈ anyC, AnyV (n + 1) x := fun x hx => by
  have h : (anyC.all fun x => x.ok && (decide (x.dep ≤ 1) && x.nar)) = true := by decide +kernel
  have := List.all_eq_true.mp h x hx
  rw [Bool.and_eq_true, Bool.and_eq_true, decide_eq_true_eq] at this
  exact ⟨this.1, by have := this.2.1; omega, this.2.2⟩
theorem anyA {n : Nat} : ∀ {ys : List D}, (∀ y ∈ ys, AnyV n y) → okA ys = true ∧ depA ys ≤ n ∧ narA ys = true
  | [], _ => ⟨rfl, Nat.zero_le _, rfl⟩
  | y :: ys, h => by
    obtain ⟨h1, h2, h4⟩ := anyA (ys := ys) fun z hz => h z (List.mem_cons_of_mem _ hz)
    have h3 := h y (List.mem_cons_self ..)
    refine ⟨by show (y.ok && okA ys) = true; rw [h3.1, h1]; rfl, ?_, by show (y.nar && narA ys) = true; rw [h3.2.2, h4]; rfl⟩
    show max y.dep (depA ys) ≤ n
    have := h3.2.1
    omega
def anyStrs : List Str := ["", "a", "ab", "red", "a b", "abcdefghi", "<"]
mutual
/-- all strings in it are among those that are drawn -/
def wdB : D → Bool
  | .str s => anyStrs.contains s
  | .lst xs => wdA xs
  | .tup xs => wdA xs
  | _ => true
def wdA : List D → Bool
  | [] => true
  | x :: xs => wdB x && wdA xs
end
theorem wdA_iff (xs : List D) : wdA xs = true ↔ ∀ x ∈ xs, wdB x = true := by
  induction xs with
  | nil => simp [wdA]
  | cons y ys ih => simp only [wdA, Bool.and_eq_true, ih, List.mem_cons, forall_eq_or_imp]
def Wd (d : D) : Prop := wdB d = true
theorem Wd.str {d : D} (h : Wd d) : ∀ s, d = .str s → s ∈ anyStrs := fun s e => by
  subst e
  exact List.contains_iff_mem.mp h
theorem anyC_wd : ∀ x ∈ anyC, Wd x := fun x hx => by
  have h : (anyC.all wdB) = true := by decide +kernel
  exact List.all_eq_true.mp h x hx
def sp__law_any_value (n : Nat) : Spec := fun S ds Q _ => match n with
  | 0 => False
  | n + 1 => ∃ (a : Addr) (m : Nat), ds = [.ref a, .int m] ∧ a ∈ S ∧ m ≤ n ∧ ∀ d, AnyV (m + 1) d → Wd d → Q d
theorem never__law_any_value : ∀ S ds Q E, ¬ sp__law_any_value 0 S ds Q E := fun _ _ _ _ h => h
theorem ms__law_any_value (n : Nat) : MonoS (sp__law_any_value n) := ⟨fun {S ds Q Q' E E'} h _ q => by
  cases n with
  | zero => exact q
  | succ n =>
    obtain ⟨a, m, e, o, o1, q⟩ := q
    exact ⟨a, m, e, o, o1, fun x hx hw => h _ (q x hx hw)⟩⟩
theorem len__law_any_value (n : Nat) : ∀ S ds Q E, sp__law_any_value n S ds Q E → ds.length = 2 := fun _ _ _ _ h => by
  cases n with
  | zero => exact h.elim
  | succ n => obtain ⟨_, _, e, _⟩ := h; rw [e]; rfl
def b__law_any_value (n : Nat) (S : List Addr) : TSd := (sSeq (sAsg (tFn S sp__law_pick (tCs (tV 0) (tCs (tK (.int 9)) tN))) (.n 2))
  (sSeq (sIf (tOrT (tIsB (tBin ltD (tO 2) (tK (.int 6)))) (tIsB (tBin eqD (tO 1) (tK (.int 0)))))
  (sSeq (sAsg (tLstD (tCs (tK (.int 0)) (tCs (tNegE (tK (.int 1))) (tCs (tK (.int 1)) (tCs (tK (.bl true)) (tCs (tK (.bl false)) (tCs (tK .non) (tCs (tK (.str "")) (tCs (tK (.str "a")) (tCs (tK (.str "ab")) (tCs (tK (.str "red")) (tCs (tK (.str "a b")) (tCs (tK (.str "abcdefghi")) (tCs (tK (.int 2)) (tCs (tK (.int 3)) (tCs (tNegE (tK (.int 7))) (tCs (tK (.str "<")) (tCs (tBin powD (tK (.int 10)) (tK (.int 11))) (tCs (tK (.int 8)) tN))))))))))))))))))) (.n 4))
  (sRet (tBin ixD (tBin addD (tO 4) (tLstD (tCs (tTupD tN) (tCs (tLstD tN) (tCs (tTupD (tCs (tK (.int 0)) (tCs (tK (.int 1)) tN))) tN))))) (tFn S sp__law_pick (tCs (tV 0) (tCs (tK (.int 21)) tN))))))
  sNext)
  (sSeq (sAsg (tComp (.n 5) tYesD (tFn S (sp__law_any_value n) (tCs (tV 0) (tCs (tBin subD (tO 1) (tK (.int 1))) tN))) [5] (tRng1 (tCs (tFn S sp__law_pick (tCs (tV 0) (tCs (tK (.int 6)) tN))) tN))) (.n 3))
  (sRet (tBin ixD (tLstD (tCs (tV 3) (tCs (tCl tupleD (tCs (tO 3) tN)) (tCs (tCl tupleD (tCs (tO 3) tN)) tN)))) (tBin subD (tO 2) (tK (.int 6))))))))

theorem pure__law_any_value (n : Nat) : ∀ S ds Q E, sp__law_any_value (n + 1) S ds Q E → b__law_any_value n S { nx := fun _ => Q .non, rt := ptR Q, ex := fun x _ => E x } (start0 ["source", "depth", "kind", "some", "items", "k"] ds) := by
  rintro S _ Q E ⟨a, m, rfl, ha, hm, q⟩
  unfold b__law_any_value
  simp
  have hs : sizeLine = 16777216 := rfl
  have fin : ∀ (Q' : D → Prop), (∀ x ∈ anyC, Q' x) → sp__law_pick S [.ref a, .int 21] (fun y => ixD (.lst anyC) y Q') (fun x => E x) := fun Q' h => pick ha (by omega) (by omega) fun i h2 h3 => by
    obtain ⟨x, hx, e⟩ := atI_some (xs := anyC) h2 (by have : anyC.length = 21 := rfl; omega)
    simp [e]
    exact h x hx
  have c1 : CPow 10 11 := ⟨by omega, by omega, by decide⟩
  have hc : CPow 10 11 ∧ 18 ≤ sizeLine ∧ 2 ≤ sizeLine ∧ 3 ≤ sizeLine ∧ 21 ≤ sizeLine ∧ sp__law_pick S [.ref a, .int 21] (fun y => ixD (.lst anyC) y fun d => Q d) (fun x => E x) := ⟨c1, by omega, by omega, by omega, by omega, fin _ fun x hx => q x (anyC_ok x hx) (anyC_wd x hx)⟩
  refine pick ha (by omega) (by omega) fun i h2 h3 => ?_
  simp
  cases h6 : decide (i < 6)
  · cases h7 : (m : Int) == 0
    · simp
      have h6 := of_decide_eq_false h6
      have h7 : ¬ (m : Int) = 0 := by simpa using h7
      refine pick ha (by omega) (by omega) fun j h4 h5 => ?_
      simp
      refine ⟨⟨by omega, by omega, by omega⟩, ?_⟩
      unfold rngL
      refine compD_any _ (fun d => AnyV m d ∧ Wd d) _ (fun k _ => ⟨_, rfl, fun Q hQ => ?_⟩) fun ys hl hyw => ?_
      · simp
        obtain ⟨n, rfl⟩ : ∃ n', n = n' + 1 := ⟨n - 1, by omega⟩
        refine ⟨a, m - 1, ?_, ha, by omega, fun d hd hw => hQ d ⟨?_, hw⟩⟩
        · congr 3; omega
        · have : m - 1 + 1 = m := by omega
          rwa [this] at hd
      · have hy := fun y h => (hyw y h).1
        have wy : wdA ys = true := (wdA_iff ys).mpr fun y h => (hyw y h).2
        obtain ⟨o1, o2, o3⟩ := anyA hy
        have hl5 : ys.length ≤ 50 := by rw [List.length_range] at hl; omega
        have o4 : (decide (ys.length ≤ 50) && narA ys) = true := by rw [o3, decide_eq_true hl5]; rfl
        have r1 : AnyV (m + 1) (.lst ys) := ⟨o1, by show depA ys + 1 ≤ m + 1; omega, o4⟩
        have r2 : AnyV (m + 1) (.tup ys) := ⟨o1, by show depA ys + 1 ≤ m + 1; omega, o4⟩
        obtain h | h | h : i = 6 ∨ i = 7 ∨ i = 8 := by omega
        · subst h; simp; exact ⟨by omega, q _ r1 wy⟩
        · subst h; simp; exact ⟨by omega, q _ r2 wy⟩
        · subst h; simp; exact ⟨by omega, q _ r2 wy⟩
    · exact hc
  · exact hc
end DL.TB

set_option Elab.async false
set_option linter.all false
set_option maxRecDepth 100000
set_option maxHeartbeats 1000000
/-! the law's helpers, plain: mixed lists, drawn boxes -/
namespace DL.TB
open PySem PySem.Spec PyProof.Rows L2
def sp__law_mixed : Spec := fun S ds Q _ => ∃ (a : Addr) (xs : List D), ds = [.ref a, .lst xs] ∧ a ∈ S ∧ xs.length ≤ 1000 ∧ ∀ ys : List D, ys.Perm xs → Q (.lst ys)
theorem ms__law_mixed : MonoS sp__law_mixed := ⟨fun h _ ⟨a, xs, e, o, o1, q⟩ => ⟨a, xs, e, o, o1, fun x hx => h _ (q x hx)⟩⟩
theorem len__law_mixed : ∀ S ds Q E, sp__law_mixed S ds Q E → ds.length = 2 := fun _ _ _ _ ⟨_, _, e, _⟩ => by rw [e]; rfl
def b__law_mixed (S : List Addr) : TSd := (sSeq (sOwn (tLstD tN) 2)
  (sSeq (sFor (tItems (tV 1)) (.n 3)
  (sMeth 2 mIns (tCs (tFn S sp__law_pick (tCs (tV 0) (tCs (tBin addD (tCl lenD (tCs (tO 2) tN)) (tK (.int 1))) tN))) (tCs (tV 3) tN))))
  (sFrz 2 (sRet (tV 2)))))

theorem ins_perm {α : Type} (xs : List α) (i : Nat) (x : α) : (xs.take i ++ [x] ++ xs.drop i).Perm (x :: xs) := by
  have h : (xs.take i ++ [x] ++ xs.drop i).Perm ([x] ++ xs.take i ++ xs.drop i) := List.Perm.append_right _ List.perm_append_comm
  refine h.trans ?_
  rw [List.append_assoc, List.take_append_drop]
  exact .refl _
theorem pure__law_mixed : ∀ S ds Q E, sp__law_mixed S ds Q E → b__law_mixed S { nx := fun _ => Q .non, rt := ptR Q, ex := fun x _ => E x } (start0 ["source", "some", "found", "one"] ds) := by
  rintro S _ Q E ⟨a, xs, rfl, ha, hl, q⟩
  unfold b__law_mixed
  simp
  have hs : sizeLine = 16777216 := rfl
  refine forD_rule (fun ds ρ => ∃ (acc : List D) (x3 : Option Sl), ρ = [some (.p (.ref a)), some (.p (.lst xs)), some (.o (.lst acc)), x3] ∧ (acc ++ ds).Perm xs) (fun d rest ρ hI => ?_) (fun ρ hI => ?_) _ _ ⟨[], none, rfl, .refl _⟩
  · obtain ⟨acc, x3, rfl, hp⟩ := hI
    refine ⟨_, rfl, fun N hN => ?_⟩
    have hlen := hp.length_eq
    simp at hlen
    simp
    refine pick ha (by omega) (by omega) fun i h2 h3 => ?_
    simp [mIns]
    refine ⟨⟨by omega, h2, by omega⟩, hN _ ⟨_, _, rfl, ?_⟩⟩
    refine List.Perm.trans ?_ hp
    have h := ((ins_perm acc i.toNat d).append_right rest)
    simp only [List.append_assoc] at h ⊢
    refine h.trans ?_
    have : (d :: acc ++ rest).Perm (acc ++ d :: rest) := List.perm_middle.symm
    simpa using this
  · obtain ⟨acc, x3, rfl, hp⟩ := hI
    simpa using q acc (by simpa using hp)
def boxNames : List Str := ["a", "b", "c", "d", "e", "fox", "gap", "hut"]
inductive Built : List Row → List Str → List (Str × Option Str) → List Str → Prop where
  | one (n : Str) : n ∈ boxNames → Built [((n, none, "plain") : Row)] [] [(n, none)] []
  | plain {rows : List Row} {hosts : List Str} {houses : List (Str × Option Str)} {slots : List Str} (n u : Str) (h : Option Str) : Built rows hosts houses slots → n ∈ boxNames → n ∉ names rows → (u, h) ∈ houses → Built (rows ++ [((n, some u, "plain") : Row)]) hosts (houses ++ [(n, h)]) slots
  | door {rows : List Row} {hosts : List Str} {houses : List (Str × Option Str)} {slots : List Str} (n u : Str) (h : Option Str) : Built rows hosts houses slots → n ∈ boxNames → n ∉ names rows → (u, h) ∈ houses → u ∉ hosts → Built (rows ++ [((n, some u, "door") : Row)]) (hosts ++ [u]) (houses ++ [(n, some n)]) slots
  | slot {rows : List Row} {hosts : List Str} {houses : List (Str × Option Str)} {slots : List Str} (n u h : Str) : Built rows hosts houses slots → n ∈ boxNames → n ∉ names rows → (u, some h) ∈ houses → h ∉ slots → Built (rows ++ [((n, some u, "slot") : Row)]) hosts (houses ++ [(n, some h)]) (slots ++ [h])
/-- boxes as drawn -/
def Drawn (rows : List Row) : Prop := ∃ b hosts houses slots, Built b hosts houses slots ∧ rows.Perm b ∧ rows.Pairwise (fun r q => slt q.1 r.1 = false) ∧ b.length ≤ 8
def sp__law_drawn_boxes : Spec := fun S ds Q _ => ∃ (a : Addr) (m : Int), ds = [.ref a, .int m] ∧ a ∈ S ∧ 0 < m ∧ m ≤ 8 ∧ ∀ rows, Drawn rows → rows.length ≤ m.toNat → Q (boxesD rows)
theorem ms__law_drawn_boxes : MonoS sp__law_drawn_boxes := ⟨fun h _ ⟨a, m, e, o, o1, o2, q⟩ => ⟨a, m, e, o, o1, o2, fun x hx hl => h _ (q x hx hl)⟩⟩
theorem len__law_drawn_boxes : ∀ S ds Q E, sp__law_drawn_boxes S ds Q E → ds.length = 2 := fun _ _ _ _ ⟨_, _, e, _⟩ => by rw [e]; rfl
def b__law_drawn_boxes_1 (S : List Addr) : TSd := (sSeq (sAsg (tIte (tIsB (tBin eqD (tFn S sp__law_pick (tCs (tV 0) (tCs (tK (.int 3)) tN))) (tK (.int 0)))) (tBin ixD (tBin ixD (tO 4) (tNegE (tK (.int 1)))) (tK (.int 0))) (tLend 4 (tBin ixD (tFn S sp__law_chosen (tCs (tV 0) (tCs (tV 4) tN))) (tK (.int 0))))) (.n 8))
  (sSeq (sPar 9 10 (tCs (tBin ixD (tO 6) (tV 8)) (tCs (tK (.str "plain")) tN)))
  (sSeq (sIf (tAndT (tIsB (tBin notInD (tO 8) (tO 5))) (tIsB (tBin eqD (tFn S sp__law_pick (tCs (tV 0) (tCs (tK (.int 3)) tN))) (tK (.int 0)))))
  (sSeq (sMeth 5 mApp (tCs (tV 8) tN))
  (sPar 9 10 (tCs (tV 3) (tCs (tK (.str "door")) tN))))
  (sIf (tAndT (tIsB (tBin notND (tO 9) (tK .non))) (tAndT (tIsB (tBin notInD (tO 9) (tO 7))) (tIsB (tBin gtD (tFn S sp__law_pick (tCs (tV 0) (tCs (tK (.int 3)) tN))) (tK (.int 0))))))
  (sSeq (sMeth 7 mApp (tCs (tV 9) tN))
  (sAsg (tK (.str "slot")) (.n 10)))
  sNext))
  (sSeq (sDPut 6 (tV 9) (tV 3))
  (sMeth 4 mApp (tCs (tTupD (tCs (tV 3) (tCs (tV 8) (tCs (tV 10) tN)))) tN))))))
def b__law_drawn_boxes (S : List Addr) : TSd := (sSeq (sAsg (tSlD (tFn S sp__law_mixed (tCs (tV 0) (tCs (tLstD (tCs (tK (.str "a")) (tCs (tK (.str "b")) (tCs (tK (.str "c")) (tCs (tK (.str "d")) (tCs (tK (.str "e")) (tCs (tK (.str "fox")) (tCs (tK (.str "gap")) (tCs (tK (.str "hut")) tN))))))))) tN))) tONo (tOSo (tBin addD (tK (.int 1)) (tFn S sp__law_pick (tCs (tV 0) (tCs (tV 1) tN)))))) (.n 2))
  (sSeq (sTupM [4, 5, 6, 7] (tMO (tLstD (tCs (tTupD (tCs (tBin ixD (tO 2) (tK (.int 0))) (tCs (tK .non) (tCs (tK (.str "plain")) tN)))) tN)) (tMO (tLstD tN) (tMO (tDict1 (tBin ixD (tO 2) (tK (.int 0))) (tK .non)) (tMO (tLstD tN) tMN)))))
  (sSeq (sFor (tItems (tSlD (tO 2) (tOSo (tK (.int 1))) tONo)) (.n 3)
  (b__law_drawn_boxes_1 S))
  (sRet (tCl tupleD (tCs (tCl sortTD (tCs (tO 4) tN)) tN))))))

theorem boxNames_ok : ∀ x ∈ boxNames, (D.str x).ok = true := fun x hx => by
  have h : (boxNames.all fun x => (D.str x).ok) = true := by decide +kernel
  exact List.all_eq_true.mp h x hx
structure BuiltOk (rows : List Row) (hosts : List Str) (houses : List (Str × Option Str)) (slots : List Str) : Prop where
  nm : ∀ x ∈ names rows, x ∈ boxNames
  ho : ∀ x ∈ hosts, x ∈ boxNames
  hv : ∀ p ∈ houses, ∀ y, p.2 = some y → y ∈ boxNames
  sl : ∀ x ∈ slots, x ∈ boxNames
  keys : houses.map (·.1) = names rows
  nd : (names rows).Nodup
  hl : hosts.length ≤ rows.length
  sll : slots.length ≤ rows.length
  un : ∀ r ∈ rows, ∀ u, r.2.1 = some u → u ∈ names rows
  ro : ∀ r ∈ rows, r.2.2 ∈ (["plain", "door", "slot"] : List Str)
  pos : 0 < rows.length
  top : ∃ r ∈ rows, r.2.1 = none
theorem names_app (rows : List Row) (r : Row) : names (rows ++ [r]) = names rows ++ [r.1] := by simp [names]
theorem BuiltOk.step {rows : List Row} {hosts hosts' : List Str} {houses : List (Str × Option Str)} {slots slots' : List Str} {n u ro : Str} {hv : Option Str} (b : BuiltOk rows hosts houses slots) (hn : n ∈ boxNames) (hnn : n ∉ names rows) (hu : u ∈ names rows)
    (hr : ro ∈ (["plain", "door", "slot"] : List Str)) (h1 : ∀ x ∈ hosts', x ∈ hosts ∨ x = u) (h1l : hosts'.length ≤ hosts.length + 1) (h2 : ∀ x ∈ slots', x ∈ slots ∨ hv = some x) (h2l : slots'.length ≤ slots.length + 1) (h3 : ∀ y, hv = some y → y ∈ boxNames) :
    BuiltOk (rows ++ [((n, some u, ro) : Row)]) hosts' (houses ++ [(n, hv)]) slots' where
  nm := fun x hx => by
    rw [names_app, List.mem_append] at hx
    rcases hx with e | e
    · exact b.nm x e
    · rw [List.mem_singleton.mp e]; exact hn
  ho := fun x hx => by
    rcases h1 x hx with e | e
    · exact b.ho x e
    · rw [e]; exact b.nm u hu
  hv := fun p hp y hy => by
    rcases List.mem_append.mp hp with e | e
    · exact b.hv p e y hy
    · rw [List.mem_singleton.mp e] at hy; exact h3 y hy
  sl := fun x hx => by
    rcases h2 x hx with e | e
    · exact b.sl x e
    · exact h3 x e
  keys := by rw [List.map_append, b.keys, names_app]; rfl
  nd := by
    rw [names_app, List.nodup_append]
    exact ⟨b.nd, by simp, fun x hx y hy e => hnn (by rw [List.mem_singleton.mp hy] at e; subst e; exact hx)⟩
  hl := by have := b.hl; simp; omega
  sll := by have := b.sll; simp; omega
  un := fun r hr v hv => by
    rw [names_app]
    rcases List.mem_append.mp hr with e | e
    · exact List.mem_append_left _ (b.un r e v hv)
    · rw [List.mem_singleton.mp e] at hv
      cases hv; exact List.mem_append_left _ hu
  ro := fun r hr' => by
    rcases List.mem_append.mp hr' with e | e
    · exact b.ro r e
    · rw [List.mem_singleton.mp e]; exact hr
  pos := by simp
  top := by
    obtain ⟨r, h1, h2⟩ := b.top
    exact ⟨r, List.mem_append_left _ h1, h2⟩
theorem mem_key {houses : List (Str × Option Str)} {p : Str × Option Str} {ns : List Str} (h : houses.map (·.1) = ns) (hp : p ∈ houses) : p.1 ∈ ns := by
  rw [← h]; exact List.mem_map.mpr ⟨p, hp, rfl⟩
theorem Built.ok {rows : List Row} {hosts : List Str} {houses : List (Str × Option Str)} {slots : List Str} (h : Built rows hosts houses slots) : BuiltOk rows hosts houses slots := by
  induction h with
  | one n hn =>
    refine ⟨fun x hx => ?_, fun _ h => (nomatch h), fun p hp y hy => ?_, fun _ h => (nomatch h), rfl, by simp [names], by simp, by simp, fun r hr u hu => ?_, fun r hr => ?_, by simp, ⟨_, List.mem_singleton_self _, rfl⟩⟩
    · have : x = n := by simpa [names] using hx
      rw [this]; exact hn
    · rw [List.mem_singleton.mp hp] at hy; cases hy
    · rw [List.mem_singleton.mp hr] at hu; cases hu
    · rw [List.mem_singleton.mp hr]; simp
  | plain n u h b hn hnn hu ih => exact ih.step hn hnn (mem_key ih.keys hu) (by simp) (fun x hx => .inl hx) (by omega) (fun x hx => .inl hx) (by omega) fun y hy => ih.hv _ hu y hy
  | door n u h b hn hnn hu hx ih =>
    refine ih.step hn hnn (mem_key ih.keys hu) (by simp) (fun x hx => ?_) (by simp) (fun x hx => .inl hx) (by omega) fun y hy => by cases hy; exact hn
    rcases List.mem_append.mp hx with e | e
    · exact .inl e
    · exact .inr (List.mem_singleton.mp e)
  | slot n u h b hn hnn hu hx ih =>
    refine ih.step hn hnn (mem_key ih.keys hu) (by simp) (fun x hx => .inl hx) (by omega) (fun x hx => ?_) (by simp) fun y hy => ih.hv _ hu y hy
    rcases List.mem_append.mp hx with e | e
    · exact .inl e
    · exact .inr (by rw [List.mem_singleton.mp e])
def housesK (houses : List (Str × Option Str)) : List (Key × D) := houses.map fun p => (.inr p.1, oD p.2)
theorem lk_houses (houses : List (Str × Option Str)) (u : Str) (h : u ∈ houses.map (·.1)) : ∃ hv, (u, hv) ∈ houses ∧ lk (housesK houses) (.inr u) = some (oD hv) := by
  induction houses with
  | nil => cases h
  | cons p houses ih =>
    by_cases e : p.1 = u
    · refine ⟨p.2, by rw [← e]; exact List.mem_cons_self .., ?_⟩
      simp [lk, housesK, e]
    · have h' : u ∈ houses.map (·.1) := by
        rcases List.mem_cons.mp h with z | z
        · exact absurd z.symm e
        · exact z
      obtain ⟨hv, h1, h2⟩ := ih h'
      refine ⟨hv, List.mem_cons_of_mem _ h1, ?_⟩
      unfold lk housesK at h2 ⊢
      rw [List.map_cons, List.find?_cons]
      have : decide ((Sum.inr p.1 : Key) = Sum.inr u) = false := by simpa using e
      simp only [this]
      exact h2
theorem cut_take (xs : List D) (i : Int) (h : 0 ≤ i) : cut xs none (some i) = xs.take i.toNat := by
  unfold cut
  have h1 : HT.sIx xs.length 0 none = 0 := rfl
  have h2 : HT.sIx xs.length xs.length (some i) = min i.toNat xs.length := by
    have : ¬ i < 0 := by omega
    show (if i < 0 then (i + (xs.length : Int)).toNat else min i.toNat xs.length) = _
    rw [if_neg this]
  rw [h1, h2]
  simp [List.take_eq_take_iff]
theorem slot_of {xs : List Str} {P : D → Prop} (h : ∀ x ∈ xs, (D.str x).ok = true) : okA (xs.map D.str) = true := (okA_strs xs).mpr h
theorem pure__law_drawn_boxes : ∀ S ds Q E, sp__law_drawn_boxes S ds Q E → b__law_drawn_boxes S { nx := fun _ => Q .non, rt := ptR Q, ex := fun x _ => E x } (start0 ["source", "most", "names", "rows", "hosts", "houses", "slots", "name", "under", "house", "role"] ds) := by
  rintro S _ Q E ⟨a, m, rfl, ha, h0, h1, q⟩
  unfold b__law_drawn_boxes
  have hs : sizeLine = 16777216 := rfl
  simp [sp__law_mixed]
  refine ⟨by omega, a, _, ⟨rfl, rfl⟩, ha, by decide, fun ys hp => ?_⟩
  obtain ⟨ns, hn, rfl⟩ := perm_lift (f := D.str) hp (Z := boxNames) rfl
  have hnl : ns.length = 8 := hn.length_eq
  refine pick ha h0 (by omega) fun i h2 h3 => ?_
  simp
  rw [cut_take _ _ (by omega)]
  obtain ⟨k, hk⟩ : ∃ k : Nat, (1 + i).toNat = k + 1 := ⟨i.toNat, by omega⟩
  rw [hk]
  cases ns with
  | nil => simp at hnl
  | cons n ns =>
    rw [List.map_cons, List.take_succ_cons]
    simp
    refine ⟨by omega, by omega, by omega, ?_⟩
    rw [cut_tail, List.tail_cons, ← List.map_take]
    have hnd : (n :: ns).Nodup := hn.nodup_iff.mpr (by decide +kernel)
    have hnb : ∀ x ∈ n :: ns, x ∈ boxNames := fun x hx => hn.mem_iff.mp hx
    rw [List.nodup_cons] at hnd
    refine forD_rule (fun ds ρ => ∃ (rest : List Str) (nmD : D) (rows : List Row) (hosts : List Str) (houses : List (Str × Option Str)) (slots : List Str) (x3 x8 x9 x10 : Option Sl), ds = rest.map D.str ∧
      ρ = [some (.p (.ref a)), some (.p (.int m)), some (.p nmD), x3, some (.o (.lst (rows.map rowD))), some (.o (.lst (hosts.map D.str))), some (.o (.dct (housesK houses))), some (.o (.lst (slots.map D.str))), x8, x9, x10] ∧
      Built rows hosts houses slots ∧ rest.Nodup ∧ (∀ n ∈ rest, n ∈ boxNames ∧ n ∉ names rows) ∧ rows.length + rest.length ≤ m.toNat) (fun d rest ρ hI => ?_) (fun ρ hI => ?_) _ _
      ⟨ns.take k, _, [((n, none, "plain") : Row)], [], [(n, none)], [], none, none, none, none, rfl, rfl, .one n (hnb n (List.mem_cons_self ..)), hnd.2.sublist (List.take_sublist _ _), fun x hx => ⟨hnb x (List.mem_cons_of_mem _ (List.mem_of_mem_take hx)), fun z => ?_⟩, ?_⟩
    · obtain ⟨rs, nmD, rows, hosts, houses, slots, x3, x8, x9, x10, e, rfl, hb, nd, hm, hl⟩ := hI
      cases rs with
      | nil => cases e
      | cons n2 rs =>
        cases e
        refine ⟨_, rfl, fun N hN => ?_⟩
        have bo := hb.ok
        have hn2 := hm n2 (List.mem_cons_self ..)
        have hrl : (rows.map rowD).length = rows.length := List.length_map ..
        simp only [List.length_cons] at hl
        unfold b__law_drawn_boxes_1
        refine seq_intro fun K1 hK1 => ?_
        have cont : ∀ u ∈ names rows, K1 [some (.p (.ref a)), some (.p (.int m)), some (.p nmD), some (.p (.str n2)), some (.o (.lst (rows.map rowD))), some (.o (.lst (hosts.map D.str))), some (.o (.dct (housesK houses))), some (.o (.lst (slots.map D.str))), some (.p (.str u)), x9, x10] := fun u hu => by
          refine hK1 _ ?_
          obtain ⟨hv, hhv, hlk⟩ := lk_houses houses u (by rw [bo.keys]; exact hu)
          refine seq_intro fun K2 hK2 => ?_
          simp [hlk]
          refine hK2 _ ?_
          refine seq_intro fun K3 hK3 => ?_
          have cont2 : ∀ (hosts' slots' : List Str) (hv' : Option Str) (ro : Str), Built (rows ++ [((n2, some u, ro) : Row)]) hosts' (houses ++ [(n2, hv')]) slots' → K3 [some (.p (.ref a)), some (.p (.int m)), some (.p nmD), some (.p (.str n2)), some (.o (.lst (rows.map rowD))), some (.o (.lst (hosts'.map D.str))), some (.o (.dct (housesK houses))), some (.o (.lst (slots'.map D.str))), some (.p (.str u)), some (.p (oD hv')), some (.p (.str ro))] := fun hosts' slots' hv' ro hB => by
            refine hK3 _ ?_
            refine seq_intro fun K4 hK4 => ?_
            have hkl : (housesK houses).length = rows.length := by
              have := congrArg List.length bo.keys
              simp [names] at this
              simp [housesK, this]
            simp [ownD, setD]
            refine ⟨by omega, ?_⟩
            have hpk : pk (housesK houses) (.inr n2) (oD hv') = housesK (houses ++ [(n2, hv')]) := by
              rw [pk_new]
              · simp [housesK]
              · intro z
                simp only [housesK, List.map_map] at z
                obtain ⟨p, hp, e⟩ := List.mem_map.mp z
                have e : p.1 = n2 := by simpa using e
                exact hn2.2 (by rw [← e]; exact mem_key bo.keys hp)
            rw [hpk]
            refine hK4 _ ?_
            simp [putD, mApp]
            refine ⟨by omega, by omega, hN _ ⟨rs, nmD, rows ++ [((n2, some u, ro) : Row)], hosts', houses ++ [(n2, hv')], slots', some (.p (.str n2)), some (.p (.str u)), some (.p (oD hv')), some (.p (.str ro)), rfl, ?_, hB, (List.nodup_cons.mp nd).2, fun x hx => ⟨(hm x (List.mem_cons_of_mem _ hx)).1, fun z => ?_⟩, by simp; omega⟩⟩
            · simp [rowD, oD]
            · rw [names_app] at z
              rcases List.mem_append.mp z with e | e
              · exact (hm x (List.mem_cons_of_mem _ hx)).2 e
              · rw [List.mem_singleton.mp e] at hx; exact (List.nodup_cons.mp nd).1 hx
          have oku := boxNames_ok u (bo.nm u hu)
          have okh : okA (hosts.map D.str) = true := (okA_strs hosts).mpr fun x hx => boxNames_ok x (bo.ho x hx)
          have oks : okA (slots.map D.str) = true := (okA_strs slots).mpr fun x hx => boxNames_ok x (bo.sl x hx)
          have rest3 : K3 [some (.p (.ref a)), some (.p (.int m)), some (.p nmD), some (.p (.str n2)), some (.o (.lst (rows.map rowD))), some (.o (.lst (hosts.map D.str))), some (.o (.dct (housesK houses))), some (.o (.lst (slots.map D.str))), some (.p (.str u)), some (.p (oD hv)), some (.p (.str "plain"))] := cont2 _ _ _ _ (.plain n2 u hv hb hn2.1 hn2.2 hhv)
          have no3 : ∀ rt bk ct ex, sIf (tAndT (tIsB (tBin notND (tO 9) (tK .non))) (tAndT (tIsB (tBin notInD (tO 9) (tO 7))) (tIsB (tBin gtD (tFn S sp__law_pick (tCs (tV 0) (tCs (tK (.int 3)) tN))) (tK (.int 0))))))
              (sSeq (sMeth 7 mApp (tCs (tV 9) tN)) (sAsg (tK (.str "slot")) (.n 10))) sNext { nx := K3, rt := rt, bk := bk, ct := ct, ex := ex }
              [some (.p (.ref a)), some (.p (.int m)), some (.p nmD), some (.p (.str n2)), some (.o (.lst (rows.map rowD))), some (.o (.lst (hosts.map D.str))), some (.o (.dct (housesK houses))), some (.o (.lst (slots.map D.str))), some (.p (.str u)), some (.p (oD hv)), some (.p (.str "plain"))] := by
            intro rt bk ct ex
            cases hv with
            | none => simpa [oD] using rest3
            | some h =>
              have okh2 := boxNames_ok h (bo.hv _ hhv h rfl)
              simp at okh2
              simp [oD, D.isIn, oks, okh2, inB_strs, -List.contains_eq_mem]
              cases hc : slots.contains h
              · simp
                refine pick ha (by omega) (by omega) fun j j0 j3 => ?_
                simp
                cases hj : decide (0 < j)
                · exact rest3
                · have h1 : slots.length < sizeLine := by have := bo.sll; omega
                  simp [mApp, h1]
                  have := cont2 hosts (slots ++ [h]) (some h) "slot" (.slot n2 u h hb hn2.1 hn2.2 hhv fun z => by rw [List.contains_iff_mem.mpr z] at hc; cases hc)
                  simpa [oD] using this
              · simpa [oD] using rest3
          simp at oku
          have okuu : (D.str u).ok = true := by simpa using oku
          have hin : D.isIn (.str u) (.lst (hosts.map D.str)) = some (hosts.contains u) := by simp [D.isIn, okh, oku, inB_strs, -List.contains_eq_mem]
          generalize (sIf (tAndT (tIsB (tBin notND (tO 9) (tK .non))) (tAndT (tIsB (tBin notInD (tO 9) (tO 7))) (tIsB (tBin gtD (tFn S sp__law_pick (tCs (tV 0) (tCs (tK (.int 3)) tN))) (tK (.int 0))))))
              (sSeq (sMeth 7 mApp (tCs (tV 9) tN)) (sAsg (tK (.str "slot")) (.n 10))) sNext) = B3 at no3 ⊢
          simp [hin, -D.isIn, -List.contains_eq_mem]
          cases hc : hosts.contains u
          · simp
            refine pick ha (by omega) (by omega) fun j j0 j3 => ?_
            simp
            cases hj : j == 0
            · exact no3 _ _ _ _
            · have h1 : hosts.length < sizeLine := by have := bo.hl; omega
              simp [mApp, h1]
              have := cont2 (hosts ++ [u]) slots (some n2) "door" (.door n2 u hv hb hn2.1 hn2.2 hhv fun z => by rw [List.contains_iff_mem.mpr z] at hc; cases hc)
              simpa [oD] using this
          · exact no3 _ _ _ _
        simp
        refine pick ha (by omega) (by omega) fun j j0 j3 => ?_
        simp
        cases hj : j == 0
        · refine ⟨a, rows.map rowD, true, rfl, ha, by have := bo.pos; simpa using this, by simp; omega, fun x hx => ?_⟩
          obtain ⟨r, hr, rfl⟩ := List.mem_map.mp hx
          simp [rowD, D.flat]
          exact cont r.1 (List.mem_map.mpr ⟨r, hr, rfl⟩)
        · have hne : rows ≠ [] := fun z => by have := bo.pos; rw [z] at this; simp at this
          simp [List.getLast?_eq_some_getLast hne, rowD]
          exact cont _ (List.mem_map.mpr ⟨_, List.getLast_mem hne, rfl⟩)
    · obtain ⟨rs, nmD, rows, hosts, houses, slots, x3, x8, x9, x10, e, rfl, hb, nd, hm, hl⟩ := hI
      have bo := hb.ok
      have hrl : (rows.map rowD).length = rows.length := List.length_map ..
      have hrN : (rows.map rowD).map rowN = names rows := by simp [names, rowN, rowD, Function.comp_def]
      simp [sortTD]
      refine ⟨⟨by omega, fun a b c h => rfl, ?_⟩, fun ys hp hpw => ?_⟩
      · have := bo.nd
        rw [← hrN] at this
        simpa using this
      · obtain ⟨zs, hz, rfl⟩ := perm_lift (f := rowD) hp (Z := rows) rfl
        refine q zs ⟨rows, hosts, houses, slots, hb, hz, ?_, by omega⟩ (by rw [hz.length_eq]; omega)
        exact List.pairwise_map.mp hpw
    · have : x = n := by simpa [names] using z
      subst this
      exact hnd.1 (List.mem_of_mem_take hx)
    · simp at hnl ⊢
      omega
end DL.TB

set_option Elab.async false
set_option linter.all false
set_option maxRecDepth 100000
set_option maxHeartbeats 1000000
/-! what is drawn are boxes -/
namespace DL.TB
open PySem PySem.Spec PyProof.Rows L2
theorem find_app {rows : List Row} {r : Row} {n : Str} (h : n ∈ names rows) : find (rows ++ [r]) n = find rows n := by
  obtain ⟨q, hq⟩ := find_of h
  rw [hq]
  unfold find at hq ⊢
  rw [List.find?_append, hq]; rfl
theorem find_new {rows : List Row} {r : Row} (h : r.1 ∉ names rows) : find (rows ++ [r]) r.1 = some r := by
  unfold find
  rw [List.find?_append]
  have : rows.find? (fun q => q.1 == r.1) = none := by
    rw [List.find?_eq_none]
    intro q hq e
    exact h (List.mem_map.mpr ⟨q, hq, by simpa using e⟩)
  rw [this]
  simp
theorem up_app {rows : List Row} {r : Row} {n : Str} (h : n ∈ names rows) : up (rows ++ [r]) n = up rows n := by
  unfold up; rw [find_app h]
theorem up_in {rows : List Row} (hu : ∀ r ∈ rows, ∀ u, r.2.1 = some u → u ∈ names rows) {n : Str} (h : n ∈ names rows) : up rows n ∈ names rows := by
  obtain ⟨q, hq⟩ := find_of h
  unfold up
  rw [hq]
  have hm := List.mem_of_find?_eq_some hq
  obtain ⟨a, u, c⟩ := q
  cases u with
  | none => exact h
  | some u => exact hu _ hm u rfl
theorem climb_app {rows : List Row} {r : Row} (hu : ∀ r ∈ rows, ∀ u, r.2.1 = some u → u ∈ names rows) : ∀ (k : Nat) {n : Str}, n ∈ names rows → climb (rows ++ [r]) k n = climb rows k n
  | 0, _, _ => rfl
  | k + 1, n, h => by
    show climb (rows ++ [r]) k (up (rows ++ [r]) n) = climb rows k (up rows n)
    rw [up_app h]
    exact climb_app hu k (up_in hu h)
theorem climb_fix {rows : List Row} {n : Str} (h : up rows n = n) : ∀ k, climb rows k n = n
  | 0 => rfl
  | k + 1 => by
    show climb rows k (up rows n) = n
    rw [h]; exact climb_fix h k
theorem climb_add {rows : List Row} : ∀ (k m : Nat) (n : Str), climb rows (k + m) n = climb rows m (climb rows k n)
  | 0, m, n => by rw [Nat.zero_add]; rfl
  | k + 1, m, n => by
    rw [Nat.succ_add]
    exact climb_add k m (up rows n)
theorem doorF_app {rows : List Row} {r : Row} (hu : ∀ r ∈ rows, ∀ u, r.2.1 = some u → u ∈ names rows) : ∀ (k : Nat) {b : Option Str}, (∀ n, b = some n → n ∈ names rows) → doorF (rows ++ [r]) k b = doorF rows k b
  | k, none, _ => by cases k <;> rfl
  | 0, some n, _ => rfl
  | k + 1, some n, h => by
    have hn := h n rfl
    obtain ⟨q, hq⟩ := find_of hn
    rw [doorF, doorF, find_app hn, hq]
    simp only
    split
    · rfl
    · refine doorF_app hu k fun m hm => hu _ (List.mem_of_find?_eq_some hq) m hm
/-- what the building keeps -/
structure BuiltT (rows : List Row) (hosts : List Str) (houses : List (Str × Option Str)) (slots : List Str) : Prop where
  top : ∃ n0 rest, rows = ((n0, none, "plain") : Row) :: rest ∧ (∀ r ∈ rest, r.2.1 ≠ none) ∧ ∀ n ∈ names rows, climb rows rows.length n = n0
  ho : (rows.filter fun r => r.2.2 == ("door" : Str)).map (·.2.1) = hosts.map some
  hnd : hosts.Nodup
  hs : ∀ p ∈ houses, doorF rows (rows.length + 1) (some p.1) = some p.2
  sl : (rows.filter fun r => r.2.2 == ("slot" : Str)).map (fun r => (doorF rows (rows.length + 1) (some r.1)).getD none) = slots.map some
  snd : slots.Nodup
theorem BuiltT.step {rows : List Row} {hosts hosts' : List Str} {houses : List (Str × Option Str)} {slots slots' : List Str} {n u ro : Str} {hv hu : Option Str} (b : BuiltOk rows hosts houses slots) (t : BuiltT rows hosts houses slots) (hnn : n ∉ names rows) (hum : (u, hu) ∈ houses)
    (hd : hv = if (ro == ("door" : Str)) = true then some n else hu) (h1 : hosts'.map some = hosts.map some ++ (if (ro == ("door" : Str)) = true then [some u] else [])) (h2 : hosts'.Nodup) (h3 : slots'.map some = slots.map some ++ (if (ro == ("slot" : Str)) = true then [hv] else [])) (h4 : slots'.Nodup) :
    BuiltT (rows ++ [((n, some u, ro) : Row)]) hosts' (houses ++ [(n, hv)]) slots' := by
  have huN : u ∈ names rows := mem_key b.keys hum
  have hl : (rows ++ [((n, some u, ro) : Row)]).length = rows.length + 1 := by simp
  have old : ∀ p ∈ houses, doorF (rows ++ [((n, some u, ro) : Row)]) (rows.length + 1) (some p.1) = some p.2 := fun p hp => by
    rw [doorF_app b.un _ fun m hm => by cases hm; exact mem_key b.keys hp]; exact t.hs p hp
  have dn : doorF (rows ++ [((n, some u, ro) : Row)]) (rows.length + 1 + 1) (some n) = some hv := by
    rw [doorF, find_new (r := (n, some u, ro)) hnn]
    simp only
    rw [hd]
    cases h : ro == ("door" : Str)
    · simp only [Bool.false_eq_true, if_false]
      exact old _ hum
    · simp
  have hE : ∀ m ∈ names rows, doorF (rows ++ [((n, some u, ro) : Row)]) (rows.length + 1 + 1) (some m) = doorF rows (rows.length + 1) (some m) := fun m hm => by
    obtain ⟨p, hp, e⟩ : ∃ p ∈ houses, p.1 = m := by rw [← b.keys] at hm; obtain ⟨p, hp, e⟩ := List.mem_map.mp hm; exact ⟨p, hp, e⟩
    subst e
    rw [t.hs p hp]
    exact doorF_up (old p hp)
  refine ⟨?_, ?_, h2, fun p hp => ?_, ?_, h4⟩
  · obtain ⟨n0, rest, e, hr, hc⟩ := t.top
    refine ⟨n0, rest ++ [(n, some u, ro)], by rw [e]; rfl, fun r hr' => ?_, fun m hm => ?_⟩
    · rcases List.mem_append.mp hr' with z | z
      · exact hr r z
      · rw [List.mem_singleton.mp z]; exact fun z => nomatch z
    · rw [hl]
      have fix : up rows n0 = n0 := by
        have : find rows n0 = some ((n0, none, "plain") : Row) := by
          unfold find; rw [e, List.find?_cons]; simp
        unfold up; rw [this]
      rw [names_app] at hm
      rcases List.mem_append.mp hm with z | z
      · rw [climb_app b.un _ z, climb_add, hc m z]
        exact climb_fix fix 1
      · have z := List.mem_singleton.mp z
        rw [z]
        show climb _ rows.length (up (rows ++ [((n, some u, ro) : Row)]) n) = n0
        have : up (rows ++ [((n, some u, ro) : Row)]) n = u := by unfold up; rw [find_new (r := (n, some u, ro)) hnn]
        rw [this, climb_app b.un _ huN]
        exact hc u huN
  · rw [List.filter_append, List.map_append, t.ho, h1]
    congr 1
    cases h : ro == ("door" : Str) <;> simp [h]
  · rw [hl]
    rcases List.mem_append.mp hp with z | z
    · rw [hE _ (mem_key b.keys z)]; exact t.hs p z
    · rw [List.mem_singleton.mp z]; exact dn
  · rw [hl, List.filter_append, List.map_append, h3, ← t.sl]
    congr 1
    · refine List.map_congr_left fun r hr => ?_
      rw [hE r.1 (List.mem_map.mpr ⟨r, (List.mem_filter.mp hr).1, rfl⟩)]
    · cases h : ro == ("slot" : Str)
      · simp [h]
      · simp [h, dn]
theorem Built.t {rows : List Row} {hosts : List Str} {houses : List (Str × Option Str)} {slots : List Str} (h : Built rows hosts houses slots) : BuiltT rows hosts houses slots := by
  induction h with
  | one n hn =>
    have hf : find [((n, none, "plain") : Row)] n = some ((n, none, "plain") : Row) := by unfold find; rw [List.find?_cons]; simp
    refine ⟨⟨n, [], rfl, fun _ h => (nomatch h), fun m hm => ?_⟩, rfl, .nil, fun p hp => ?_, rfl, .nil⟩
    · have : m = n := by simpa [names] using hm
      subst this
      show up _ m = m
      unfold up; rw [hf]
    · rw [List.mem_singleton.mp hp]
      show doorF _ 2 (some n) = some none
      rw [doorF, hf]
      rfl
  | plain n u h b hn hnn hu ih => exact BuiltT.step b.ok ih hnn hu rfl (by simp [show (("plain" : Str) == ("door" : Str)) = false from by decide +kernel]) ih.hnd (by simp [show (("plain" : Str) == ("slot" : Str)) = false from by decide +kernel]) ih.snd
  | door n u h b hn hnn hu hx ih =>
    refine BuiltT.step b.ok ih hnn hu (by simp) (by simp) ?_ (by simp [show (("door" : Str) == ("slot" : Str)) = false from by decide +kernel]) ih.snd
    rw [List.nodup_append]
    exact ⟨ih.hnd, by simp, fun x hx' y hy e => hx (by rw [List.mem_singleton.mp hy] at e; subst e; exact hx')⟩
  | slot n u h b hn hnn hu hx ih =>
    refine BuiltT.step b.ok ih hnn hu (by simp [show (("slot" : Str) == ("door" : Str)) = false from by decide +kernel]) (by simp [show (("slot" : Str) == ("door" : Str)) = false from by decide +kernel]) ih.hnd (by simp) ?_
    rw [List.nodup_append]
    exact ⟨ih.snd, by simp, fun x hx' y hy e => hx (by rw [List.mem_singleton.mp hy] at e; subst e; exact hx')⟩
/-! the same rows in another order -/
theorem find_perm {rows b : List Row} (p : rows.Perm b) (nd : (names b).Nodup) (n : Str) : find rows n = find b n := by
  have nd' : (names rows).Nodup := (p.map (fun r : Row => r.1)).nodup_iff.mpr nd
  cases h : find b n with
  | none =>
    unfold find at h ⊢
    rw [List.find?_eq_none] at h ⊢
    exact fun r hr => h r (p.mem_iff.mp hr)
  | some r =>
    have hm := List.mem_of_find?_eq_some h
    have e : r.1 = n := by have := List.find?_some h; simpa using this
    rw [← e]
    exact find_self nd' (p.mem_iff.mpr hm)
theorem climb_perm {rows b : List Row} (h : ∀ n, find rows n = find b n) : ∀ (k : Nat) (n : Str), climb rows k n = climb b k n
  | 0, _ => rfl
  | k + 1, n => by
    have e : up rows n = up b n := by unfold up; rw [h]
    show climb rows k (up rows n) = climb b k (up b n)
    rw [e]; exact climb_perm h k _
theorem doorF_perm {rows b : List Row} (h : ∀ n, find rows n = find b n) : ∀ (k : Nat) (o : Option Str), doorF rows k o = doorF b k o
  | k, none => by cases k <;> rfl
  | 0, some _ => rfl
  | k + 1, some n => by
    rw [doorF, doorF, h]
    cases find b n with
    | none => rfl
    | some r =>
      simp only
      split
      · rfl
      · exact doorF_perm h k _
structure GoodRows (rows : List Row) : Prop where
  len : rows.length ≤ 8
  pos : 0 < rows.length
  nm : ∀ r ∈ rows, nameS r.1 = true ∧ (∀ u, r.2.1 = some u → nameS u = true) ∧ roleS r.2.2 = true
  ok : ∀ r ∈ rows, (D.str r.1).ok = true ∧ (oD r.2.1).ok = true ∧ (D.str r.2.2).ok = true
  ris : rising (names rows) = true
  tree : isTree rows = true
  houses : rightHouses rows = true
theorem boxNames_nm : ∀ x ∈ boxNames, nameS x = true := fun x hx => by
  have h : (boxNames.all nameS) = true := by decide +kernel
  exact List.all_eq_true.mp h x hx
theorem Drawn.good {rows : List Row} (h : Drawn rows) : GoodRows rows := by
  obtain ⟨b, hosts, houses, slots, hB, hp, hpw, hl⟩ := h
  have bo := hB.ok
  have bt := hB.t
  have hf := fun n => find_perm hp bo.nd n
  have ndr : (names rows).Nodup := (hp.map (fun r : Row => r.1)).nodup_iff.mpr bo.nd
  have hlen := hp.length_eq
  have mN : ∀ n, n ∈ names rows ↔ n ∈ names b := fun n => (hp.map (fun r : Row => r.1)).mem_iff
  obtain ⟨n0, rest, e0, hr0, hc0⟩ := bt.top
  have fN : b.filter (fun r => r.2.1.isNone) = [((n0, none, "plain") : Row)] := by
    rw [e0, List.filter_cons]
    simp only [Option.isNone_none, if_true]
    congr 1
    rw [List.filter_eq_nil_iff]
    intro r hr
    have := hr0 r hr
    cases hu : r.2.1 with
    | none => exact absurd hu this
    | some => simp
  have fNr : rows.filter (fun r => r.2.1.isNone) = [((n0, none, "plain") : Row)] := by
    have := hp.filter (fun r => r.2.1.isNone)
    rw [fN] at this
    exact List.perm_singleton.mp this
  have tp : tops rows = [n0] := by
    have e : tops rows = ((rows.filter fun r => r.2.1.isNone).filter fun r => r.2.2 == ("plain" : Str)).map (·.1) := by
      rw [List.filter_filter]; unfold tops; congr 2; funext r; rw [Bool.and_comm]
    rw [e, fNr]; rfl
  have tree : isTree rows = true := by
    unfold isTree
    rw [tp, fNr]
    simp only [List.length_singleton, decide_true, Bool.true_and, Bool.and_eq_true, List.headD_cons]
    refine ⟨List.all_eq_true.mpr fun r hr => ?_, List.all_eq_true.mpr fun n hn => ?_⟩
    · cases hu : r.2.1 with
      | none => rfl
      | some u =>
        simp only
        rw [List.contains_iff_mem, mN]
        exact bo.un r (hp.mem_iff.mp hr) u hu
    · rw [climb_perm hf, hlen, hc0 n ((mN n).mp hn)]
      simp
  have hoE : (DL.TB.hosts rows).Perm (hosts.map some) := by
    unfold DL.TB.hosts
    rw [← bt.ho]
    exact (hp.filter _).map _
  have drE : (doors rows).Perm (slots.map some) := by
    unfold doors
    rw [← bt.sl]
    have e : (fun r : Row => houseOf rows r.1) = fun r => (doorF b (b.length + 1) (some r.1)).getD none := by
      funext r; unfold houseOf; rw [doorF_perm hf, hlen]
    rw [e]
    exact (hp.filter _).map _
  have okr : ∀ r ∈ rows, (D.str r.1).ok = true ∧ (oD r.2.1).ok = true ∧ (D.str r.2.2).ok = true := fun r hr => by
    have hr := hp.mem_iff.mp hr
    refine ⟨boxNames_ok _ (bo.nm _ (List.mem_map.mpr ⟨r, hr, rfl⟩)), ?_, ?_⟩
    · cases hu : r.2.1 with
      | none => rfl
      | some u => exact boxNames_ok _ (bo.nm _ (bo.un r hr u hu))
    · have h : (([("plain" : Str), "door", "slot"] : List Str).all fun x => (D.str x).ok) = true := by decide +kernel
      exact List.all_eq_true.mp h _ (bo.ro r hr)
  refine ⟨by omega, by have := bo.pos; omega, fun r hr => ?_, okr, ?_, tree, ?_⟩
  · have hr := hp.mem_iff.mp hr
    refine ⟨boxNames_nm _ (bo.nm _ (List.mem_map.mpr ⟨r, hr, rfl⟩)), fun u hu => boxNames_nm _ (bo.nm _ (bo.un r hr u hu)), ?_⟩
    exact List.contains_iff_mem.mpr (bo.ro r hr)
  · refine pw_rising ?_
    have h1 : (names rows).Pairwise (fun a c => slt c a = false) := List.pairwise_map.mpr hpw
    exact (h1.and ndr).imp fun {x y} ⟨h1, h2⟩ => by
      cases h3 : slt x y
      · exact absurd (slt_tri h3 h1) h2
      · rfl
  · unfold rightHouses
    have n1 : (DL.TB.hosts rows).Nodup := hoE.nodup_iff.mpr ((nodup_some hosts).mpr bt.hnd)
    have n2 : (doors rows).Nodup := drE.nodup_iff.mpr ((nodup_some slots).mpr bt.snd)
    have n3 : (doors rows).contains none = false := by
      cases hc : (doors rows).contains none
      · rfl
      · have := drE.mem_iff.mp (List.contains_iff_mem.mp hc)
        obtain ⟨x, _, e⟩ := List.mem_map.mp this
        cases e
    rw [decide_eq_true n1, decide_eq_true n2, n3]; rfl
theorem rowsOf_map (rows : List Row) : rowsOf (rows.map rowD) = some rows := by
  induction rows with
  | nil => rfl
  | cons r rows ih =>
    rw [List.map_cons, rowsOf, ih]
    obtain ⟨a, u, c⟩ := r
    cases u <;> rfl
theorem isBoxes_iff {rows : List Row} (ok : ∀ r ∈ rows, (D.str r.1).ok = true ∧ (oD r.2.1).ok = true ∧ (D.str r.2.2).ok = true) : isBoxesB (boxesD rows) = true ↔ GoodRows rows := by
  unfold boxesD isBoxesB
  simp only [rowsOf_map]
  simp only [List.length_map, Bool.and_eq_true, decide_eq_true_eq, List.all_map, List.all_eq_true, Function.comp]
  have box : ∀ r : Row, isBoxB (rowD r) = true ↔ nameS r.1 = true ∧ (∀ u, r.2.1 = some u → nameS u = true) ∧ roleS r.2.2 = true := fun r => by
    obtain ⟨a, u, c⟩ := r
    cases u <;> simp [isBoxB, rowD, oD, isNameB, isRoleB, D.isN]
  constructor
  · rintro ⟨h1, h2, h3, h4, h5, h6⟩
    exact ⟨h2, h1, fun r hr => (box r).mp (h3 r hr), ok, h4, h5, h6⟩
  · intro g
    exact ⟨g.pos, g.len, fun r hr => (box r).mpr (g.nm r hr), g.ris, g.tree, g.houses⟩
end DL.TB

set_option Elab.async false
set_option linter.all false
set_option maxRecDepth 100000
set_option maxHeartbeats 1000000
/-! the law's helpers, plain: variants; what good boxes are -/
namespace DL.TB
open PySem PySem.Spec PyProof.Rows L2
def sp__law_is_bool : Spec := fun _ ds Q _ => ∃ b c : Bool, ds = [.bl b, .bl c] ∧ Q (.bl (b == c))
theorem ms__law_is_bool : MonoS sp__law_is_bool := ⟨fun h _ ⟨a, m, e, q⟩ => ⟨a, m, e, h _ q⟩⟩
theorem len__law_is_bool : ∀ S ds Q E, sp__law_is_bool S ds Q E → ds.length = 2 := fun _ _ _ _ ⟨_, _, e, _⟩ => by rw [e]; rfl
def b__law_is_bool (S : List Addr) : TSd := (sRet (tAndE (tIsi isBool (tO 0)) (tBin eqD (tO 0) (tO 1))))

theorem pure__law_is_bool : ∀ S ds Q E, sp__law_is_bool S ds Q E → b__law_is_bool S { nx := fun _ => Q .non, rt := ptR Q, ex := fun x _ => E x } (start0 ["actual", "expected"] ds) := by
  rintro S _ Q E ⟨b, c, rfl, q⟩
  unfold b__law_is_bool
  simpa [isBool] using q
def AllV (n : Nat) (xs : List D) : Prop := ∀ x ∈ xs, AnyV n x
theorem AllV.tup {n : Nat} {xs : List D} (h : AllV n xs) (hl : xs.length ≤ 50) : AnyV (n + 1) (.tup xs) := by
  obtain ⟨h1, h2, h3⟩ := anyA h
  exact ⟨h1, by show depA xs + 1 ≤ n + 1; omega, by show (decide (xs.length ≤ 50) && narA xs) = true; rw [h3, decide_eq_true hl]; rfl⟩
theorem AllV.lst {n : Nat} {xs : List D} (h : AllV n xs) (hl : xs.length ≤ 50) : AnyV (n + 1) (.lst xs) := by
  obtain ⟨h1, h2, h3⟩ := anyA h
  exact ⟨h1, by show depA xs + 1 ≤ n + 1; omega, by show (decide (xs.length ≤ 50) && narA xs) = true; rw [h3, decide_eq_true hl]; rfl⟩
theorem AnyV.up {n m : Nat} {d : D} (h : AnyV n d) (l : n ≤ m) : AnyV m d := ⟨h.1, Nat.le_trans h.2.1 l, h.2.2⟩
theorem AnyV.items {n : Nat} {xs : List D} (h : AnyV (n + 1) (.tup xs)) : AllV n xs := by
  have h1 : okA xs = true := h.1
  have h2 : depA xs + 1 ≤ n + 1 := h.2.1
  have h3 : (decide (xs.length ≤ 50) && narA xs) = true := h.2.2
  rw [Bool.and_eq_true] at h3
  have h4 := (narA_iff xs).mp h3.2
  clear h3
  intro x hx
  refine ⟨okA_mem h1 x hx, ?_, h4 x hx⟩
  clear h h1 h4
  induction xs with
  | nil => cases hx
  | cons y ys ih =>
    have h2 : max y.dep (depA ys) + 1 ≤ n + 1 := h2
    rcases List.mem_cons.mp hx with e | e
    · rw [e]; omega
    · exact ih (by omega) e
def Small : Nat → List D → Prop
  | 0, xs => xs.length ≤ 49
  | m + 1, xs => xs.length ≤ 49 ∧ ∀ ys, .tup ys ∈ xs → Small m ys
theorem Small.len {m : Nat} {xs : List D} (h : Small m xs) : xs.length ≤ 49 := by
  cases m with
  | zero => exact h
  | succ m => exact h.1
theorem ixN_in {n : Nat} {i : Int} (h0 : 0 ≤ i) (h1 : i < n) : ixN n i = some i.toNat := by
  unfold ixN; rw [if_pos h0, if_pos h1]
theorem AllV.set {n : Nat} {xs : List D} (h : AllV n xs) {d : D} (hd : AnyV n d) (i : Nat) : AllV n (xs.set i d) := fun x hx => by
  rcases List.mem_or_eq_of_mem_set hx with e | e
  · exact h x e
  · rw [e]; exact hd
theorem sIf_eqI {j : Nat} {kd c : Int} {t u : TSd} {Dd : DEnds} {ρ : DEnv} (hρ : ρ[j]? = some (some (.p (.int kd)))) (h : kd = c → t Dd ρ) (h' : kd ≠ c → u Dd ρ) : sIf (tIsB (tBin eqD (tO j) (tK (.int c)))) t u Dd ρ := by
  simp only [sIf, tIsB, tBin, tO, hρ, tK, eqD, isB]
  refine ⟨⟨rfl, rfl, Nat.zero_le _⟩, ?_⟩
  simp only [D.eqv]
  by_cases e : kd = c
  · have : (kd == c) = true := by simpa using e
    rw [this]; exact h e
  · have : (kd == c) = false := by simpa using e
    rw [this]; exact h' e
theorem sIf_ltI {j : Nat} {kd c : Int} {t u : TSd} {Dd : DEnds} {ρ : DEnv} (hρ : ρ[j]? = some (some (.p (.int kd)))) (h : kd < c → t Dd ρ) (h' : ¬ kd < c → u Dd ρ) : sIf (tIsB (tBin ltD (tO j) (tK (.int c)))) t u Dd ρ := by
  simp only [sIf, tIsB, tBin, tO, hρ, tK, ltD, cmpD, D.lt, isB]
  by_cases e : kd < c
  · rw [decide_eq_true e]; exact h e
  · rw [decide_eq_false e]; exact h' e
/-- value's items are of depth at most n; so is what is made, or n more m -/
def sp__law_variant (k : Nat) : Spec := fun S ds Q _ => match k with
  | 0 => False
  | k + 1 => ∃ (a : Addr) (m n : Nat) (xs : List D), ds = [.ref a, .tup xs, .int m] ∧ a ∈ S ∧ m ≤ k ∧ 3 ≤ n ∧ Small m xs ∧ AllV n xs ∧ ∀ d, AnyV (n + 1 + m) d → Q d
theorem never__law_variant : ∀ S ds Q E, ¬ sp__law_variant 0 S ds Q E := fun _ _ _ _ h => h
theorem ms__law_variant (n : Nat) : MonoS (sp__law_variant n) := ⟨fun {S ds Q Q' E E'} h _ q => by
  cases n with
  | zero => exact q
  | succ n =>
    obtain ⟨a, m, n, xs, e, o, o1, o2, o3, o4, q⟩ := q
    exact ⟨a, m, n, xs, e, o, o1, o2, o3, o4, fun x hx => h _ (q x hx)⟩⟩
theorem len__law_variant (n : Nat) : ∀ S ds Q E, sp__law_variant n S ds Q E → ds.length = 3 := fun _ _ _ _ h => by
  cases n with
  | zero => exact h.elim
  | succ n => obtain ⟨_, _, _, _, e, _⟩ := h; rw [e]; rfl
def b__law_variant_1 (n : Nat) (S : List Addr) : TSd := (sSeq (sSetI 3 (tFn S (sp__law_variant n) (tCs (tV 0) (tCs (tBin ixD (tO 3) (tV 4)) (tCs (tBin subD (tO 2) (tK (.int 1))) tN)))) (tV 4))
  (sRet (tCl tupleD (tCs (tO 3) tN))))
def b__law_variant_2 (n : Nat) (S : List Addr) : TSd := (sSeq (sAsg (tLstD (tCs (tK (.str "a")) (tCs (tK (.str "b")) (tCs (tK (.str "c")) (tCs (tK (.str "d")) (tCs (tK (.str "top")) (tCs (tK (.str "pop")) (tCs (tK (.str "tap")) (tCs (tK (.str "u")) (tCs (tK (.str "v")) (tCs (tK (.str "w")) (tCs (tK .non) (tCs (tK (.bl true)) (tCs (tK (.bl false)) (tCs (tK (.int 0)) (tCs (tK (.int 1)) (tCs (tK (.str "plain")) (tCs (tK (.str "door")) tN)))))))))))))))))) (.n 6))
  (sSeq (sAsg (tBin addD (tO 6) (tLstD (tCs (tK (.str "slot")) (tCs (tK (.str "stop")) (tCs (tK (.str "halt")) (tCs (tK (.str "bar")) (tCs (tK (.str "on")) (tCs (tK (.str "off")) (tCs (tK (.str "move")) (tCs (tK (.str "send")) (tCs (tK (.str "A")) (tCs (tK (.str "")) (tCs (tK (.str "a1")) tN))))))))))))) (.n 6))
  (sSeq (sAsg (tBin addD (tO 6) (tLstD (tCs (tK (.str "abcdefgh")) (tCs (tK (.str "abcdefghi")) tN)))) (.n 6))
  (sSetI 3 (tFn S sp__law_chosen (tCs (tV 0) (tCs (tV 6) tN))) (tV 4)))))
def b__law_variant (n : Nat) (S : List Addr) : TSd := (sSeq (sOwn (tCl listD (tCs (tO 1) tN)) 3)
  (sSeq (sIf (tIsB (tBin eqD (tO 3) (tLstD tN)))
  (sRet (tTupD (tCs (tFn S (sp__law_any_value 4) (tCs (tV 0) (tCs (tK (.int 1)) tN))) tN)))
  sNext)
  (sSeq (sAsg (tFn S sp__law_pick (tCs (tV 0) (tCs (tCl lenD (tCs (tO 3) tN)) tN))) (.n 4))
  (sSeq (sIf (tAndT (tTru (tIsi isTup (tBin ixD (tO 3) (tV 4)))) (tAndT (tIsB (tBin gtD (tO 2) (tK (.int 0)))) (tIsB (tBin gtD (tFn S sp__law_pick (tCs (tV 0) (tCs (tK (.int 4)) tN))) (tK (.int 0))))))
  (b__law_variant_1 n S)
  sNext)
  (sSeq (sAsg (tFn S sp__law_pick (tCs (tV 0) (tCs (tK (.int 8)) tN))) (.n 5))
  (sSeq (sIf (tIsB (tBin eqD (tO 5) (tK (.int 0))))
  (sMeth 3 mPop (tCs (tV 4) tN))
  (sIf (tIsB (tBin eqD (tO 5) (tK (.int 1))))
  (sMeth 3 mIns (tCs (tV 4) (tCs (tBin ixD (tO 3) (tV 4)) tN)))
  (sIf (tIsB (tBin eqD (tO 5) (tK (.int 2))))
  (sSetSl 3 (tRevD (tSlD (tO 3) (tOSo (tV 4)) (tOSo (tBin addD (tO 4) (tK (.int 2)))))) (tOSo (tV 4)) (tOSo (tBin addD (tO 4) (tK (.int 2)))))
  (sIf (tIsB (tBin eqD (tO 5) (tK (.int 3))))
  (sSetI 3 (tFn S (sp__law_any_value 4) (tCs (tV 0) (tCs (tK (.int 2)) tN))) (tV 4))
  (sIf (tIsB (tBin ltD (tO 5) (tK (.int 6))))
  (b__law_variant_2 n S)
  (sIf (tAndT (tIsB (tBin eqD (tO 5) (tK (.int 6)))) (tTru (tIsi isTup (tBin ixD (tO 3) (tV 4)))))
  (sSetI 3 (tCl listD (tCs (tBin ixD (tO 3) (tV 4)) tN)) (tV 4))
  (sIf (tAndT (tIsB (tBin eqD (tO 5) (tK (.int 7)))) (tTru (tIsi isBool (tBin ixD (tO 3) (tV 4)))))
  (sSetI 3 (tCl intDD (tCs (tBin ixD (tO 3) (tV 4)) tN)) (tV 4))
  (sFrz 3 (sRet (tV 3))))))))))
  (sRet (tCl tupleD (tCs (tO 3) tN)))))))))

theorem pure__law_variant (k : Nat) : ∀ S ds Q E, sp__law_variant (k + 1) S ds Q E → b__law_variant k S { nx := fun _ => Q .non, rt := ptR Q, ex := fun x _ => E x } (start0 ["source", "value", "depth", "items", "at", "kind", "near"] ds) := by
  rintro S _ Q E ⟨a, m, n, xs, rfl, ha, hm, hn, hsm, hx, q⟩
  have hl := hsm.len
  unfold b__law_variant
  have hs : sizeLine = 16777216 := rfl
  refine seq_intro fun K1 hK1 => ?_
  simp
  refine hK1 _ ?_
  refine seq_intro fun K2 hK2 => ?_
  obtain ⟨o1, o2, o3⟩ := anyA hx
  cases xs with
  | nil =>
    simp
    exact ⟨a, 1, rfl, ha, by decide, fun d hd _ => ⟨by omega, q _ (AnyV.up (AllV.tup (n := 2) (fun x hx => by rw [List.mem_singleton.mp hx]; exact hd) (by simp)) (by omega))⟩⟩
  | cons x0 xs0 =>
  generalize hxs : x0 :: xs0 = xs at *
  have hne : D.eqv (.lst xs) (.lst []) = false := by rw [← hxs]; rfl
  have hpos : 0 < xs.length := by rw [← hxs]; simp
  simp only [D.eqv] at hne
  simp [o1, hne]
  refine hK2 _ ?_
  refine seq_intro fun K3 hK3 => ?_
  simp
  refine pick ha (by omega) (by omega) fun i i0 i1 => ?_
  refine hK3 _ ?_
  obtain ⟨x, hxm, hat⟩ := atI_some (xs := xs) i0 i1
  have hix := ixN_in i0 i1
  have ax := hx x hxm
  refine seq_intro fun K4 hK4 => ?_
  have rest : K4 [some (.p (.ref a)), some (.p (.tup xs)), some (.p (.int m)), some (.o (.lst xs)), some (.p (.int i)), none, none] := by
    refine hK4 _ ?_
    refine seq_intro fun K5 hK5 => ?_
    simp
    refine pick ha (by omega) (by omega) fun kd k0 k1 => ?_
    refine hK5 _ ?_
    refine seq_intro fun K6 hK6 => ?_
    have fin : ∀ (items : List D) (x6 : Option Sl), AllV n items → items.length ≤ 50 → K6 [some (.p (.ref a)), some (.p (.tup xs)), some (.p (.int m)), some (.o (.lst items)), some (.p (.int i)), some (.p (.int kd)), x6] := fun items x6 h hl5 => by
      refine hK6 _ ?_
      simp
      exact q _ ((h.tup hl5).up (by omega))
    have near : ∀ rt bk ct ex, b__law_variant_2 k S { nx := K6, rt := rt, bk := bk, ct := ct, ex := ex } [some (.p (.ref a)), some (.p (.tup xs)), some (.p (.int m)), some (.o (.lst xs)), some (.p (.int i)), some (.p (.int kd)), none] := fun rt bk ct ex => by
      unfold b__law_variant_2
      refine seq_intro fun K7 hK7 => ?_
      simp only [sAsg, tLstD, tCs, tK, tN, List.length_cons, List.length_nil, asg]
      refine ⟨by omega, hK7 _ ?_⟩
      refine seq_intro fun K8 hK8 => ?_
      simp only [sAsg, tLstD, tCs, tK, tN, List.length_cons, List.length_nil, asg, tBin, tO, addD, List.set, List.getElem?_cons_succ, List.getElem?_cons_zero]
      refine ⟨by omega, by omega, hK8 _ ?_⟩
      refine seq_intro fun K9 hK9 => ?_
      simp only [sAsg, tLstD, tCs, tK, tN, List.length_cons, List.length_nil, asg, tBin, tO, addD, List.set, List.getElem?_cons_succ, List.getElem?_cons_zero, List.length_append]
      refine ⟨by omega, by omega, hK9 _ ?_⟩
      simp only [sSetI, ownL, tFn, tCs, tV, tN, List.set, List.getElem?_cons_succ, List.getElem?_cons_zero]
      refine ⟨a, _, true, rfl, ha, by simp, by simp, fun y hy => ?_⟩
      have ay : AnyV 0 y := by
        have h : (List.all [D.str "a", .str "b", .str "c", .str "d", .str "top", .str "pop", .str "tap", .str "u", .str "v", .str "w", .non, .bl true, .bl false, .int 0, .int 1, .str "plain", .str "door", .str "slot", .str "stop", .str "halt", .str "bar", .str "on", .str "off", .str "move", .str "send", .str "A", .str "", .str "a1", .str "abcdefgh", .str "abcdefghi"] fun x => x.ok && (decide (x.dep ≤ 0) && x.nar)) = true := by decide +kernel
        have := List.all_eq_true.mp h y hy
        rw [Bool.and_eq_true, Bool.and_eq_true, decide_eq_true_eq] at this
        exact this
      simp only [setL, hix, putL, List.set]
      exact fin _ _ (hx.set (ay.up (by omega)) _) (by rw [List.length_set]; omega)
    refine sIf_eqI rfl (fun h => ?_) fun _ => sIf_eqI rfl (fun h => ?_) fun _ => sIf_eqI rfl (fun h => ?_) fun _ => sIf_eqI rfl (fun h => ?_) fun _ => sIf_ltI rfl (fun h => near _ _ _ _) fun _ => ?_
    · simp [mPop]
      exact ⟨⟨i0, i1⟩, fin _ _ (fun y hy => hx y (List.mem_of_mem_eraseIdx hy)) (by rw [List.length_eraseIdx]; split <;> omega)⟩
    · simp [hat, mIns]
      refine ⟨⟨by omega, i0, by omega⟩, fin _ _ (fun y hy => ?_) (by simp; omega)⟩
      rcases List.mem_append.mp hy with e | e
      · exact hx y (List.mem_of_mem_take e)
      · rcases List.mem_cons.mp e with e | e
        · rw [e]; exact ax
        · exact hx y (List.mem_of_mem_drop e)
    · have hcut : ∀ y ∈ cut xs (some i) (some (i + 2)), y ∈ xs := fun y hy => by
        unfold cut at hy
        exact List.mem_of_mem_drop (List.mem_of_mem_take hy)
      have hcl := cut_len xs (some i) (some (i + 2))
      have hcut2 : (cut xs (some i) (some (i + 2))).length ≤ 2 := by
        unfold cut HT.sIx
        rw [List.length_take]
        have g1 : ¬ i < 0 := by omega
        have g2 : ¬ i + 2 < 0 := by omega
        simp only [g1, g2, if_false]
        omega
      simp only [sSetSl, ownL, tRevD, tSlD, tO, tOSo, tV, tBin, tK, addD, isI, sliceD, revD, soI, List.getElem?_cons_succ, List.getElem?_cons_zero]
      refine ⟨⟨i0, by omega, by omega, by rw [List.length_reverse]; omega⟩, fin _ _ (fun y hy => ?_) (by have hc2 := hcut2; simp only [List.length_append, List.length_reverse, List.length_take, List.length_drop]; omega)⟩
      rcases List.mem_append.mp hy with e | e
      · rcases List.mem_append.mp e with e | e
        · exact hx y (List.mem_of_mem_take e)
        · exact hx y (hcut y (List.mem_reverse.mp e))
      · exact hx y (List.mem_of_mem_drop e)
    · simp [setL, hix]
      refine ⟨a, 2, rfl, ha, by decide, fun d hd _ => ?_⟩
      simp [hix]
      exact fin _ _ (hx.set (hd.up hn) _) (by rw [List.length_set]; omega)
    · have lst := q _ ((AllV.lst hx (by omega)).up (by omega))
      have sev : ∀ kd', kd' = kd → True := fun _ _ => trivial
      obtain h | h : kd = 6 ∨ kd = 7 := by omega
      · subst h
        simp [hat]
        cases x with
        | tup ys =>
          simp [isTup, setL, hix]
          exact fin _ _ (hx.set (⟨ax.1, ax.2⟩ : AnyV n (.lst ys)) _) (by rw [List.length_set]; omega)
        | _ => first | (have := ax.1; simp at this; done) | simpa [isTup] using lst
      · subst h
        simp [hat]
        cases x with
        | bl b =>
          simp [isBool, setL, hix]
          exact fin _ _ (hx.set ⟨rfl, Nat.zero_le _, rfl⟩ _) (by rw [List.length_set]; omega)
        | _ => first | (have := ax.1; simp at this; done) | simpa [isBool] using lst
  simp [hat]
  cases x with
  | tup ys =>
    simp [isTup]
    cases hm0 : decide (0 < m)
    · exact rest
    · have hm0 := of_decide_eq_true hm0
      refine pick ha (by omega) (by omega) fun j j0 j1 => ?_
      simp
      cases hj : decide (0 < j)
      · exact rest
      · simp only
        unfold b__law_variant_1
        simp [hat]
        obtain ⟨k, rfl⟩ : ∃ k', k = k' + 1 := ⟨k - 1, by omega⟩
        obtain ⟨m, rfl⟩ : ∃ m', m = m' + 1 := ⟨m - 1, by omega⟩
        obtain ⟨n, rfl⟩ : ∃ n', n = n' + 1 := ⟨n - 1, by omega⟩
        refine ⟨a, m, n + 1, ys, by congr 3; simp, ha, by omega, hn, hsm.2 ys hxm, fun y hy => (ax.items y hy).up (by omega), fun d hd => ?_⟩
        simp [setL, hix]
        refine q _ ((AllV.tup (n := n + 1 + 1 + m) (AllV.set (n := n + 1 + 1 + m) (fun y hy => (hx y hy).up (by omega)) hd _) (by rw [List.length_set]; omega)).up (by omega))
  | _ => first | (have := ax.1; simp at this; done) | simpa [isTup] using rest
end DL.TB

set_option Elab.async false
set_option linter.all false
set_option maxRecDepth 100000
set_option maxHeartbeats 1000000
/-! the law's helpers, plain: names, rows, doors -/
namespace DL.TB
open PySem PySem.Spec PyProof.Rows L2
def sp__law_is_name : Spec := fun _ ds Q _ => ∃ d, ds = [d] ∧ d.ok = true ∧ Q (.bl (isNameB d))
theorem ms__law_is_name : MonoS sp__law_is_name := ⟨fun h _ ⟨d, e, o, q⟩ => ⟨d, e, o, h _ q⟩⟩
theorem len__law_is_name : ∀ S ds Q E, sp__law_is_name S ds Q E → ds.length = 1 := fun _ _ _ _ ⟨_, e, _⟩ => by rw [e]; rfl
def b__law_is_name (S : List Addr) : TSd := (sSeq (sIf (tOrT (tNotT (tTru (tIsi isStr (tO 0)))) (tOrT (tIsB (tBin ltD (tCl lenD (tCs (tO 0) tN)) (tK (.int 1)))) (tIsB (tBin gtD (tCl lenD (tCs (tO 0) tN)) (tK (.int 8))))))
  (sRet (tK (.bl false)))
  sNext)
  (sRet (tBin eqD (tComp (.n 1) (tIsB (tBin notInD (tO 1) (tK (.str "abcdefghijklmnopqrstuvwxyz")))) (tV 1) [1] (tItems (tO 0))) (tLstD tN))))

def abc : Str := "abcdefghijklmnopqrstuvwxyz"
theorem in_abc (c : Nat) : (!(Builtin.Str.occurrences abc ⟨#[c]⟩ 0 abc.length 1).isEmpty) = nameC c := by
  rw [StrLaws.found_one]
  have e : abc.cps.toList = (List.range 26).map (· + 97) := by decide +kernel
  rw [e]
  unfold nameC
  rw [Bool.eq_iff_iff]
  simp only [decide_eq_true_eq, Bool.and_eq_true, List.mem_map, List.mem_range]
  constructor
  · rintro ⟨k, h1, h2⟩; omega
  · intro h; exact ⟨c - 97, by omega, by omega⟩
theorem okS_one {s : Str} (h : (D.str s).ok = true) {c : Nat} (hc : c ∈ s.cps.toList) : (D.str ⟨#[c]⟩).ok = true := by
  simp only [D.ok, Bool.and_eq_true, decide_eq_true_eq, PyData.strOk] at h ⊢
  have h1 := Array.all_eq_true_iff_forall_mem.mp h.1 c (Array.mem_def.mpr hc)
  refine ⟨?_, by simp [Str.length, sizeLine]⟩
  simpa using h1
theorem pure__law_is_name : ∀ S ds Q E, sp__law_is_name S ds Q E → b__law_is_name S { nx := fun _ => Q .non, rt := ptR Q, ex := fun x _ => E x } (start0 ["value", "sign"] ds) := by
  rintro S _ Q E ⟨d, rfl, ho, q⟩
  unfold b__law_is_name
  cases d with
  | str s =>
    have hl : s.length ≤ sizeLine := by simp at ho; exact ho.2
    have q : Q (.bl (decide (1 ≤ s.length) && (decide (s.length ≤ 8) && s.cps.toList.all nameC))) := q
    simp [isStr, hl]
    have e1 : decide ((s.length : Int) < 1) = !decide (1 ≤ s.length) := by
      by_cases h : 1 ≤ s.length <;> simp [h] <;> omega
    have e2 : decide ((8 : Int) < s.length) = !decide (s.length ≤ 8) := by
      by_cases h : s.length ≤ 8 <;> simp [h] <;> omega
    rw [e1, e2]
    cases h1 : decide (1 ≤ s.length)
    · simpa [h1] using q
    cases h2 : decide (s.length ≤ 8)
    · simpa [h1, h2] using q
    simp only [Bool.not_true]
    refine compD_go (fun c => .str ⟨#[c]⟩) (fun c => !nameC c) (fun c => .str ⟨#[c]⟩) _ (fun c hc => ⟨_, rfl, fun Q q => ?_, fun _ Q q => by simpa [wipeD] using q⟩) ?_
    · have := in_abc c
      unfold abc at this
      simp only [Bool.not_eq_eq_eq_not] at this
      simp [wipeD]
      rw [show (Builtin.Str.occurrences (Str.ofString "abcdefghijklmnopqrstuvwxyz") { cps := #[c] } 0 (Str.ofString "abcdefghijklmnopqrstuvwxyz").length 1).isEmpty = !nameC c from by cases hN : nameC c <;> rw [hN] at this <;> simpa using this]
      simpa using q
    · have hok : okA ((s.cps.toList.filter fun c => !nameC c).map fun c => D.str ⟨#[c]⟩) = true := by
        rw [show ((s.cps.toList.filter fun c => !nameC c).map fun c => D.str ⟨#[c]⟩) = ((s.cps.toList.filter fun c => !nameC c).map fun c => (⟨#[c]⟩ : Str)).map D.str from by rw [List.map_map]; rfl, okA_strs]
        intro x hx
        obtain ⟨c, hc, rfl⟩ := List.mem_map.mp hx
        exact okS_one ho (List.mem_filter.mp hc).1
      refine ⟨hok, ?_⟩
      have : eqvA ((s.cps.toList.filter fun c => !nameC c).map fun c => D.str ⟨#[c]⟩) [] = s.cps.toList.all nameC := by
        cases hf : s.cps.toList.filter fun c => !nameC c with
        | nil =>
          rw [List.filter_eq_nil_iff] at hf
          have : s.cps.toList.all nameC = true := by
            rw [List.all_eq_true]
            exact fun x hx => by simpa using hf x hx
          rw [this]; rfl
        | cons c cs =>
          have hm : c ∈ s.cps.toList.filter fun c => !nameC c := by rw [hf]; exact List.mem_cons_self ..
          have hm := List.mem_filter.mp hm
          have : s.cps.toList.all nameC = false := by
            rw [List.all_eq_false]
            exact ⟨c, hm.1, by simpa using hm.2⟩
          rw [this]; rfl
      rw [this]
      simpa [h1, h2] using q
  | _ => first | (simp at ho; done) | simpa [isStr, isNameB] using q
def sp__law_is_in : Spec := fun _ ds Q _ => ∃ (d : D) (xs : List Str), ds = [d, .lst (xs.map D.str)] ∧ d.ok = true ∧ okA (xs.map D.str) = true ∧ Q (.bl (match d with | .str s => xs.contains s | _ => false))
theorem ms__law_is_in : MonoS sp__law_is_in := ⟨fun h _ ⟨d, xs, e, o, o2, q⟩ => ⟨d, xs, e, o, o2, h _ q⟩⟩
theorem len__law_is_in : ∀ S ds Q E, sp__law_is_in S ds Q E → ds.length = 2 := fun _ _ _ _ ⟨_, _, e, _⟩ => by rw [e]; rfl
def b__law_is_in (S : List Addr) : TSd := (sRet (tAndE (tIsi isStr (tO 0)) (tBin inD (tO 0) (tO 1))))

theorem pure__law_is_in : ∀ S ds Q E, sp__law_is_in S ds Q E → b__law_is_in S { nx := fun _ => Q .non, rt := ptR Q, ex := fun x _ => E x } (start0 ["value", "some"] ds) := by
  rintro S _ Q E ⟨d, xs, rfl, ho, ho2, q⟩
  unfold b__law_is_in
  cases d with
  | str s =>
    simp only [D.ok] at ho
    simp [isStr, ho2, D.isIn, inB_strs]
    simp at ho
    simpa [ho] using q
  | _ => first | (simp at ho; done) | simpa [isStr] using q
def sp__law_is_box : Spec := fun _ ds Q _ => ∃ d, ds = [d] ∧ d.ok = true ∧ Q (.bl (isBoxB d))
theorem ms__law_is_box : MonoS sp__law_is_box := ⟨fun h _ ⟨d, e, o, q⟩ => ⟨d, e, o, h _ q⟩⟩
theorem len__law_is_box : ∀ S ds Q E, sp__law_is_box S ds Q E → ds.length = 1 := fun _ _ _ _ ⟨_, e, _⟩ => by rw [e]; rfl
def b__law_is_box (S : List Addr) : TSd := (sSeq (sIf (tOrT (tNotT (tTru (tIsi isTup (tO 0)))) (tOrT (tIsB (tBin neD (tCl lenD (tCs (tO 0) tN)) (tK (.int 3)))) (tNotT (tTru (tFn S sp__law_is_name (tCs (tBin ixD (tO 0) (tK (.int 0))) tN))))))
  (sRet (tK (.bl false)))
  sNext)
  (sRet (tAndE (tOrE (tBin isND (tBin ixD (tO 0) (tK (.int 1))) (tK .non)) (tFn S sp__law_is_name (tCs (tBin ixD (tO 0) (tK (.int 1))) tN))) (tFn S sp__law_is_in (tCs (tBin ixD (tO 0) (tK (.int 2))) (tCs (tLstD (tCs (tK (.str "plain")) (tCs (tK (.str "door")) (tCs (tK (.str "slot")) tN)))) tN))))))

theorem pure__law_is_box : ∀ S ds Q E, sp__law_is_box S ds Q E → b__law_is_box S { nx := fun _ => Q .non, rt := ptR Q, ex := fun x _ => E x } (start0 ["value"] ds) := by
  rintro S _ Q E ⟨d, rfl, ho, q⟩
  unfold b__law_is_box
  cases d with
  | tup xs =>
    by_cases h3 : xs.length = 3
    · match xs, h3 with
      | [a, b, c], _ =>
        have ha : a.ok = true ∧ b.ok = true ∧ c.ok = true := by simpa using ho
        simp [isTup, sp__law_is_name, ha]
        cases h1 : isNameB a
        · simpa [isBoxB, h1] using q
        · simp [sp__law_is_name, ha]
          have fin : (b.isN || isNameB b) = true → 3 ≤ sizeLine ∧ sp__law_is_in S [c, .lst (List.map D.str ["plain", "door", "slot"])] Q (fun x => E x) := fun hk => by
            refine ⟨by simp [sizeLine], c, ["plain", "door", "slot"], rfl, ha.2.2, by decide +kernel, ?_⟩
            rw [show isBoxB (.tup [a, b, c]) = (isNameB a && ((b.isN || isNameB b) && isRoleB c)) from rfl, h1, hk] at q
            cases c <;> exact q
          cases hb : b.isN
          · cases h2 : isNameB b
            · rw [show isBoxB (.tup [a, b, c]) = (isNameB a && ((b.isN || isNameB b) && isRoleB c)) from rfl, h1, hb, h2] at q
              exact q
            · exact fin (by simp [h2])
          · exact fin (by simp [hb])
    · have : isBoxB (.tup xs) = false := by
        match xs, h3 with
        | [], _ => rfl
        | [_], _ => rfl
        | [_, _], _ => rfl
        | [_, _, _], h => exact absurd rfl h
        | _ :: _ :: _ :: _ :: _, _ => rfl
      rw [this] at q
      have h4 : ((xs.length : Int) == 3) = false := by simp; omega
      simp [isTup, h4, q]
  | _ => first | (simp at ho; done) | simpa [isTup, isBoxB] using q
def sp__law_row : Spec := fun _ ds Q _ => ∃ rows n r, ds = [boxesD rows, .str n] ∧ (∀ r ∈ rows, (D.str r.1).ok = true) ∧ (D.str n).ok = true ∧ find rows n = some r ∧ Q (rowD r)
theorem ms__law_row : MonoS sp__law_row := ⟨fun h _ ⟨a, b, c, e, o, o1, o2, q⟩ => ⟨a, b, c, e, o, o1, o2, h _ q⟩⟩
theorem len__law_row : ∀ S ds Q E, sp__law_row S ds Q E → ds.length = 2 := fun _ _ _ _ ⟨_, _, _, e, _⟩ => by rw [e]; rfl
def b__law_row (S : List Addr) : TSd := (sRet (tBin ixD (tComp (.n 2) (tIsB (tBin eqD (tBin ixD (tO 2) (tK (.int 0))) (tO 1))) (tV 2) [2] (tItems (tO 0))) (tK (.int 0))))

theorem filter_head {rows : List Row} {n : Str} {r : Row} (h : find rows n = some r) : ∃ rest, rows.filter (fun r => r.1 == n) = r :: rest := by
  unfold find at h
  induction rows with
  | nil => cases h
  | cons a rows ih =>
    rw [List.find?_cons] at h
    cases ha : a.1 == n with
    | true =>
      rw [ha] at h
      cases h
      exact ⟨_, List.filter_cons_of_pos ha⟩
    | false =>
      rw [ha] at h
      obtain ⟨rest, hr⟩ := ih h
      exact ⟨rest, by rw [List.filter_cons_of_neg (by simp [ha])]; exact hr⟩
theorem pure__law_row : ∀ S ds Q E, sp__law_row S ds Q E → b__law_row S { nx := fun _ => Q .non, rt := ptR Q, ex := fun x _ => E x } (start0 ["rows", "name", "row"] ds) := by
  rintro S _ Q E ⟨rows, n, r, rfl, ho, hn, hf, q⟩
  unfold b__law_row
  simp [boxesD]
  refine compD_go rowD (fun r => r.1 == n) (fun r => rowD r) rows (fun r hr => ⟨_, rfl, fun Q q => ?_, fun _ Q q => by simpa [wipeD] using q⟩) ?_
  · have := ho r hr
    simp at this hn
    simp [wipeD, rowD, this, hn]
    exact q
  · obtain ⟨rest, hr⟩ := filter_head hf
    rw [hr]
    simpa using q
def sp__law_door : Spec := fun _ ds Q _ => ∃ rows b k r, ds = [boxesD rows, oD b] ∧ RowsOk rows ∧ (∀ n, b = some n → (D.str n).ok = true) ∧ doorF rows k b = some r ∧ Q (oD r)
theorem ms__law_door : MonoS sp__law_door := ⟨fun h _ ⟨d, b, k, r, e, o, o1, o2, q⟩ => ⟨d, b, k, r, e, o, o1, o2, h _ q⟩⟩
theorem len__law_door : ∀ S ds Q E, sp__law_door S ds Q E → ds.length = 2 := fun _ _ _ _ ⟨_, _, _, _, e, _⟩ => by rw [e]; rfl
def b__law_door_1 (S : List Addr) : TSd := (sSeq (sAsg (tFn S sp__law_row (tCs (tV 0) (tCs (tV 2) tN))) (.n 3))
  (sSeq (sIf (tIsB (tBin eqD (tBin ixD (tO 3) (tK (.int 2))) (tK (.str "door"))))
  (sRet (tV 2))
  sNext)
  (sAsg (tBin ixD (tO 3) (tK (.int 1))) (.n 2))))
def b__law_door (S : List Addr) : TSd := (sSeq (sAsg (tV 1) (.n 2))
  (sSeq (sWhile (tIsB (tBin notND (tO 2) (tK .non)))
  (b__law_door_1 S))
  (sRet (tK .non))))

theorem pure__law_door : ∀ S ds Q E, sp__law_door S ds Q E → b__law_door S { nx := fun _ => Q .non, rt := ptR Q, ex := fun x _ => E x } (start0 ["boxes", "box", "here", "row"] ds) := by
  rintro S _ Q E ⟨rows, b, k, r, rfl, ho, hb, hd, q⟩
  unfold b__law_door
  simp
  refine ⟨k + 1, whileD_rule (fun m ρ => ∃ c x3, ρ = [some (.p (boxesD rows)), some (.p (oD b)), some (.p (oD c)), x3] ∧ (∀ n, c = some n → (D.str n).ok = true) ∧ doorF rows m c = some r) (fun n ρ hI N hN => ?_) k _ ⟨b, none, rfl, hb, hd⟩⟩
  obtain ⟨c, x3, rfl, hok, hc⟩ := hI
  cases c with
  | none =>
    have : r = none := by cases n <;> simpa [doorF] using hc.symm
    subst this
    simpa [oD] using q
  | some m =>
    cases n with
    | zero => simp [doorF] at hc
    | succ n =>
      rw [doorF] at hc
      cases hf : find rows m with
      | none => rw [hf] at hc; cases hc
      | some rw_ =>
        rw [hf] at hc
        simp only at hc
        have hr : rw_ ∈ rows := List.mem_of_find?_eq_some hf
        have ok3 := (ho.ok _ hr).2.2
        simp only [D.ok] at ok3
        simp [oD, b__law_door_1]
        refine ⟨rows, m, rw_, rfl, fun r hr => (ho.ok r hr).1, hok m rfl, hf, ?_⟩
        simp [rowD]
        simp at ok3
        refine ⟨⟨ok3, by decide +kernel⟩, ?_⟩
        cases hq : rw_.2.2 == Str.ofString "door"
        · rw [hq] at hc
          refine hN n _ rfl ⟨rw_.2.1, _, rfl, fun u hu => ?_, by simpa using hc⟩
          have := (ho.ok _ hr).2.1
          rw [hu] at this
          exact this
        · rw [hq] at hc
          have : some m = r := by simpa using hc
          subst this
          exact q
end DL.TB

set_option Elab.async false
set_option linter.all false
set_option maxRecDepth 100000
set_option maxHeartbeats 1000000
/-! trees: the law's walk upward and the program's -/
namespace DL.TB
open PySem PySem.Spec PyProof.Rows L2
/-- r's chain ends behind m moves -/
inductive Mv (rows : List Row) : Nat → Row → Prop where
  | z (r : Row) : r.2.1 = none → Mv rows 0 r
  | s (m : Nat) (r r' : Row) (u : Str) : r.2.1 = some u → find rows u = some r' → Mv rows m r' → Mv rows (m + 1) r
theorem Mv.uniq {rows : List Row} {m : Nat} {r : Row} (h : Mv rows m r) : ∀ {k : Nat}, Mv rows k r → m = k := by
  induction h with
  | z r e =>
    intro k h2
    cases h2 with
    | z => rfl
    | s _ _ _ u e2 => rw [e] at e2; cases e2
  | s m r r' u e f h ih =>
    intro k h2
    cases h2 with
    | z _ e2 => rw [e] at e2; cases e2
    | s k _ r2 u2 e2 f2 h2 =>
      rw [e] at e2; cases e2
      rw [f] at f2; cases f2
      rw [ih h2]
theorem find_name {rows : List Row} {n : Str} {r : Row} (h : find rows n = some r) : r ∈ rows ∧ r.1 = n := by
  refine ⟨List.mem_of_find?_eq_some h, ?_⟩
  have := List.find?_some h
  simpa using this
/-- the names on the way -/
theorem Mv.chain {rows : List Row} (nd : (names rows).Nodup) {m : Nat} {r : Row} (h : Mv rows m r) (hr : r ∈ rows) : ∃ l : List Str, l.length = m + 1 ∧ l.Nodup ∧ (∀ n ∈ l, n ∈ names rows) ∧ ∀ n ∈ l, ∃ q k, find rows n = some q ∧ Mv rows k q ∧ k ≤ m := by
  induction h with
  | z r e =>
    refine ⟨[r.1], rfl, by simp, fun n hn => ?_, fun n hn => ?_⟩
    · rw [List.mem_singleton.mp hn]; exact List.mem_map.mpr ⟨r, hr, rfl⟩
    · rw [List.mem_singleton.mp hn]; exact ⟨r, 0, find_self nd hr, .z r e, Nat.le_refl _⟩
  | s m r r' u e f h ih =>
    obtain ⟨l, h1, h2, h3, h4⟩ := ih (find_name f).1
    refine ⟨r.1 :: l, by simp [h1], List.nodup_cons.mpr ⟨fun z => ?_, h2⟩, fun n hn => ?_, fun n hn => ?_⟩
    · obtain ⟨q, k, hq, hk, hkm⟩ := h4 _ z
      rw [find_self nd hr] at hq
      cases hq
      have := (Mv.s m r r' u e f h).uniq hk
      omega
    · rcases List.mem_cons.mp hn with z | z
      · rw [z]; exact List.mem_map.mpr ⟨r, hr, rfl⟩
      · exact h3 n z
    · rcases List.mem_cons.mp hn with z | z
      · rw [z]; exact ⟨r, m + 1, find_self nd hr, .s m r r' u e f h, Nat.le_refl _⟩
      · obtain ⟨q, k, hq, hk, hkm⟩ := h4 n z
        exact ⟨q, k, hq, hk, by omega⟩
theorem nodup_len : ∀ {l ks : List Str}, l.Nodup → (∀ x ∈ l, x ∈ ks) → l.length ≤ ks.length
  | [], _, _, _ => Nat.zero_le _
  | x :: l, ks, nd, hs => by
    rw [List.nodup_cons] at nd
    have hx := hs x (List.mem_cons_self ..)
    have := nodup_len (ks := ks.erase x) nd.2 fun y hy => (List.mem_erase_of_ne fun e : y = x => nd.1 (by rw [← e]; exact hy)).mpr (hs y (List.mem_cons_of_mem _ hy))
    rw [List.length_erase_of_mem hx] at this
    have hp : 0 < ks.length := List.length_pos_of_mem hx
    simp only [List.length_cons]
    omega
theorem Mv.le {rows : List Row} (nd : (names rows).Nodup) {m : Nat} {r : Row} (h : Mv rows m r) (hr : r ∈ rows) : m + 1 ≤ rows.length := by
  obtain ⟨l, h1, h2, h3, _⟩ := h.chain nd hr
  have := nodup_len h2 h3
  have e : (names rows).length = rows.length := List.length_map ..
  omega
/-- at most k moves -/
def chkF (rows : List Row) : Nat → Row → Bool
  | 0, r => r.2.1.isNone
  | k + 1, r => match r.2.1 with
    | none => true
    | some u => match find rows u with
      | none => false
      | some r' => chkF rows k r'
theorem chk_mv {rows : List Row} : ∀ {k : Nat} {r : Row}, chkF rows k r = true ↔ ∃ m, m ≤ k ∧ Mv rows m r
  | 0, r => by
    unfold chkF
    constructor
    · intro h; exact ⟨0, Nat.le_refl _, .z r (by simpa using h)⟩
    · rintro ⟨m, hm, h⟩
      obtain rfl : m = 0 := by omega
      cases h with
      | z _ e => simp [e]
  | k + 1, r => by
    obtain ⟨n, u, ro⟩ := r
    cases u with
    | none => exact ⟨fun _ => ⟨0, Nat.zero_le _, .z _ rfl⟩, fun _ => rfl⟩
    | some u =>
      show (match find rows u with | none => false | some r' => chkF rows k r') = true ↔ _
      cases hf : find rows u with
      | none =>
        constructor
        · intro h; cases h
        · rintro ⟨m, hm, h⟩
          cases h with
          | z _ e => cases e
          | s m _ r' u' e f _ => cases e; rw [hf] at f; cases f
      | some r' =>
        simp only
        rw [chk_mv]
        constructor
        · rintro ⟨m, hm, h⟩; exact ⟨m + 1, by omega, .s m _ r' u rfl hf h⟩
        · rintro ⟨m, hm, h⟩
          cases h with
          | z _ e => cases e
          | s m _ r2 u' e f h => cases e; rw [hf] at f; cases f; exact ⟨m, by omega, h⟩
/-- the rows say what is_tree says -/
theorem tree_chk {rows : List Row} (nd : (names rows).Nodup) (hl : rows.length ≤ 9) (h1 : (tops rows).length = 1) (h2 : (rows.filter fun r => r.2.1.isNone).length = 1) : isTree rows = rows.all (chkF rows 9) := by
  have one : ∀ r ∈ rows, r.2.1 = none → r.1 = (tops rows).headD "" := by
    obtain ⟨a, ha⟩ : ∃ a, (rows.filter fun r => r.2.1.isNone) = [a] := by
      cases hf : rows.filter fun r => r.2.1.isNone with
      | nil => rw [hf] at h2; cases h2
      | cons a l =>
        cases l with
        | nil => exact ⟨a, rfl⟩
        | cons b l => rw [hf] at h2; simp at h2
    have e : tops rows = ((rows.filter fun r => r.2.1.isNone).filter fun r => r.2.2 == ("plain" : Str)).map (·.1) := by
      rw [List.filter_filter]; unfold tops; congr 2; funext r; rw [Bool.and_comm]
    intro r hr hn
    have hm : r ∈ rows.filter fun r => r.2.1.isNone := List.mem_filter.mpr ⟨hr, by simp [hn]⟩
    rw [ha] at hm e
    have er := List.mem_singleton.mp hm
    rw [e] at h1 ⊢
    by_cases hp : a.2.2 == ("plain" : Str)
    · have : [a].filter (fun r : Row => r.2.2 == ("plain" : Str)) = [a] := List.filter_cons_of_pos hp
      rw [this, er]; rfl
    · have : [a].filter (fun r : Row => r.2.2 == ("plain" : Str)) = [] := List.filter_cons_of_neg hp
      rw [this] at h1; cases h1
  rw [Bool.eq_iff_iff]
  constructor
  · intro h
    obtain ⟨_, _, hu, hc⟩ := tree_parts h
    rw [List.all_eq_true]
    intro r hr
    have go : ∀ (k : Nat) (r : Row), r ∈ rows → climb rows k r.1 = (tops rows).headD "" → ∃ m, m ≤ k ∧ Mv rows m r := by
      intro k
      induction k with
      | zero =>
        intro r hr hk
        obtain ⟨q, hq, hn⟩ := top_find nd h
        rw [← hk] at hq
        have hq : find rows r.1 = some q := hq
        rw [find_self nd hr] at hq
        cases hq
        exact ⟨0, Nat.le_refl _, .z r hn⟩
      | succ k ih =>
        intro r hr hk
        cases hn : r.2.1 with
        | none => exact ⟨0, Nat.zero_le _, .z r hn⟩
        | some u =>
          obtain ⟨q, hf, hin, hcase⟩ := climb_in hu (n := r.1) (List.mem_map.mpr ⟨r, hr, rfl⟩)
          rw [find_self nd hr] at hf
          cases hf
          rcases hcase with ⟨e, _⟩ | e
          · rw [hn] at e; cases e
          · rw [hn] at e
            have eu : u = up rows r.1 := by simpa using e
            rw [← eu] at hin
            obtain ⟨r', hr'⟩ := find_of hin
            have fn := find_name hr'
            have hk : climb rows k (up rows r.1) = (tops rows).headD "" := hk
            rw [← eu, ← fn.2] at hk
            obtain ⟨m, hm, hmv⟩ := ih r' fn.1 hk
            exact ⟨m + 1, by omega, .s m r r' u hn hr' hmv⟩
    obtain ⟨m, hm, hmv⟩ := go rows.length r hr (hc r.1 (List.mem_map.mpr ⟨r, hr, rfl⟩))
    exact chk_mv.mpr ⟨m, by omega, hmv⟩
  · intro h
    rw [List.all_eq_true] at h
    unfold isTree
    rw [Bool.and_eq_true, Bool.and_eq_true, Bool.and_eq_true, decide_eq_true_eq, decide_eq_true_eq]
    refine ⟨⟨h1, h2⟩, ?_, ?_⟩
    · rw [List.all_eq_true]
      intro r hr
      obtain ⟨m, hm, hmv⟩ := chk_mv.mp (h r hr)
      cases hmv with
      | z _ e => rw [e]
      | s m _ r' u e f _ =>
        rw [e]
        have fn := find_name f
        simp only
        rw [List.contains_iff_mem]
        exact List.mem_map.mpr ⟨r', fn.1, fn.2⟩
    · rw [List.all_eq_true]
      intro n hn
      obtain ⟨r, hr, rfl⟩ := List.mem_map.mp hn
      obtain ⟨m, hm, hmv⟩ := chk_mv.mp (h r hr)
      have hle := hmv.le nd hr
      have go : ∀ (k m : Nat) (r : Row), r ∈ rows → Mv rows m r → m ≤ k → climb rows k r.1 = (tops rows).headD "" := by
        intro k
        induction k with
        | zero =>
          intro m r hr hmv hm
          obtain rfl : m = 0 := by omega
          cases hmv with
          | z _ e => exact one r hr e
        | succ k ih =>
          intro m r hr hmv hm
          show climb rows k (up rows r.1) = _
          have hup : up rows r.1 = match r.2.1 with | some u => u | none => r.1 := by
            unfold up
            rw [find_self nd hr]
            obtain ⟨a, u, b⟩ := r
            cases u <;> rfl
          rw [hup]
          cases hmv with
          | z _ e => rw [e]; exact ih 0 r hr (.z r e) (Nat.zero_le _)
          | s m _ r' u e f h' =>
            rw [e]
            have fn := find_name f
            have := ih m r' fn.1 h' (by omega)
            rw [fn.2] at this
            exact this
      have := go rows.length m r hr hmv (by omega)
      rw [this]
      simp
end DL.TB

set_option Elab.async false
set_option linter.all false
set_option maxRecDepth 100000
set_option maxHeartbeats 1000000
/-! good boxes by the law -/
namespace DL.TB
open PySem PySem.Spec PyProof.Rows L2
def sp__law_is_good_boxes : Spec := fun _ ds Q _ => ∃ d, ds = [d] ∧ d.ok = true ∧ Q (.bl (isBoxesB d))
theorem ms__law_is_good_boxes : MonoS sp__law_is_good_boxes := ⟨fun h _ ⟨d, e, o, q⟩ => ⟨d, e, o, h _ q⟩⟩
theorem len__law_is_good_boxes : ∀ S ds Q E, sp__law_is_good_boxes S ds Q E → ds.length = 1 := fun _ _ _ _ ⟨_, e, _⟩ => by rw [e]; rfl
def b__law_is_good_boxes_1 (S : List Addr) : TSd := (sSeq (sAsg (tComp (.n 9) (tIsB (tBin eqD (tBin ixD (tO 9) (tK (.int 0))) (tBin ixD (tO 6) (tK (.int 1))))) (tV 9) [9] (tItems (tO 0))) (.n 8))
  (sSeq (sIf (tOrT (tIsB (tBin eqD (tO 8) (tLstD tN))) (tIsB (tBin gtD (tO 7) (tK (.int 8)))))
  (sRet (tK (.bl false)))
  sNext)
  (sAsg (tTupD (tCs (tBin ixD (tO 8) (tK (.int 0))) (tCs (tBin addD (tO 7) (tK (.int 1))) tN))) (.t [(.n 6), (.n 7)]))))
def b__law_is_good_boxes_2 (S : List Addr) : TSd := (sSeq (sAsg (tTupD (tCs (tV 3) (tCs (tK (.int 0)) tN))) (.t [(.n 6), (.n 7)]))
  (sWhile (tIsB (tBin notND (tBin ixD (tO 6) (tK (.int 1))) (tK .non)))
  (b__law_is_good_boxes_1 S)))
def b__law_is_good_boxes (S : List Addr) : TSd := (sSeq (sIf (tOrT (tNotT (tTru (tIsi isTup (tO 0)))) (tOrT (tIsB (tBin ltD (tCl lenD (tCs (tO 0) tN)) (tK (.int 1)))) (tIsB (tBin gtD (tCl lenD (tCs (tO 0) tN)) (tK (.int 8))))))
  (sRet (tK (.bl false)))
  sNext)
  (sSeq (sIf (tIsB (tBin neD (tComp (.n 3) (tNotT (tTru (tFn S sp__law_is_box (tCs (tV 3) tN)))) (tV 3) [3] (tItems (tO 0))) (tLstD tN)))
  (sRet (tK (.bl false)))
  sNext)
  (sSeq (sAsg (tComp (.n 3) tYesD (tBin ixD (tO 3) (tK (.int 0))) [3] (tItems (tO 0))) (.n 1))
  (sSeq (sAsg (tComp (.n 3) (tIsB (tBin isND (tBin ixD (tO 3) (tK (.int 1))) (tK .non))) (tBin ixD (tO 3) (tK (.int 2))) [3] (tItems (tO 0))) (.n 2))
  (sSeq (sIf (tOrT (tIsB (tBin neD (tO 1) (tSortedSet (tO 1)))) (tIsB (tBin neD (tO 2) (tLstD (tCs (tK (.str "plain")) tN)))))
  (sRet (tK (.bl false)))
  sNext)
  (sSeq (sFor (tItems (tV 0)) (.n 3)
  (b__law_is_good_boxes_2 S))
  (sSeq (sAsg (tComp (.n 3) (tIsB (tBin eqD (tBin ixD (tO 3) (tK (.int 2))) (tK (.str "door")))) (tBin ixD (tO 3) (tK (.int 1))) [3] (tItems (tO 0))) (.n 4))
  (sSeq (sAsg (tComp (.n 3) (tIsB (tBin eqD (tBin ixD (tO 3) (tK (.int 2))) (tK (.str "slot")))) (tFn S sp__law_door (tCs (tV 0) (tCs (tBin ixD (tO 3) (tK (.int 0))) tN))) [3] (tItems (tO 0))) (.n 5))
  (sRet (tAndE (tBin eqD (tLenSet (tO 4)) (tCl lenD (tCs (tO 4) tN))) (tAndE (tBin notInD (tK .non) (tO 5)) (tBin eqD (tLenSet (tO 5)) (tCl lenD (tCs (tO 5) tN))))))))))))))

theorem int_lt1 (n : Nat) : decide ((n : Int) < 1) = !decide (1 ≤ n) := by by_cases h : 1 ≤ n <;> simp [h] <;> omega
theorem int_gt8 (n : Nat) : decide ((8 : Int) < n) = !decide (n ≤ 8) := by by_cases h : n ≤ 8 <;> simp [h] <;> omega
theorem okA_of {xs : List D} (h : ∀ x ∈ xs, x.ok = true) : okA xs = true := by
  induction xs with
  | nil => rfl
  | cons x xs ih =>
    show (x.ok && okA xs) = true
    rw [h x (List.mem_cons_self ..), ih fun y hy => h y (List.mem_cons_of_mem _ hy)]; rfl
theorem eqv_nil (xs : List D) : eqvA xs [] = xs.isEmpty := by cases xs <;> rfl
theorem eqv_strs : ∀ (xs ys : List Str), eqvA (xs.map D.str) (ys.map D.str) = decide (xs = ys)
  | [], [] => rfl
  | [], _ :: _ => rfl
  | _ :: _, [] => rfl
  | x :: xs, y :: ys => by
    show ((x == y) && eqvA (xs.map D.str) (ys.map D.str)) = _
    rw [eqv_strs xs ys]
    by_cases h : x = y <;> simp [h]
theorem ded_mem (xs : List Str) : ∀ (acc : List Str) (y : Str), y ∈ xs.foldl dedR acc ↔ y ∈ acc ∨ y ∈ xs := by
  induction xs with
  | nil => intro acc y; simp
  | cons x xs ih =>
    intro acc y
    rw [List.foldl_cons, ih]
    unfold dedR
    split
    · rename_i h
      have h := List.contains_iff_mem.mp h
      constructor
      · rintro (a | a)
        · exact .inl a
        · exact .inr (List.mem_cons_of_mem _ a)
      · rintro (a | a)
        · exact .inl a
        · rcases List.mem_cons.mp a with e | e
          · rw [e]; exact .inl h
          · exact .inr e
    · constructor
      · rintro (a | a)
        · rcases List.mem_cons.mp a with e | e
          · rw [e]; exact .inr (List.mem_cons_self ..)
          · exact .inl e
        · exact .inr (List.mem_cons_of_mem _ a)
      · rintro (a | a)
        · exact .inl (List.mem_cons_of_mem _ a)
        · rcases List.mem_cons.mp a with e | e
          · rw [e]; exact .inl (List.mem_cons_self ..)
          · exact .inr e
theorem ded_nd (xs : List Str) : ∀ (acc : List Str), acc.Nodup → (xs.foldl dedR acc).Nodup := by
  induction xs with
  | nil => intro acc h; exact h
  | cons x xs ih =>
    intro acc h
    rw [List.foldl_cons]
    apply ih
    unfold dedR
    split
    · exact h
    · rename_i hc
      exact List.nodup_cons.mpr ⟨fun z => hc (List.contains_iff_mem.mpr z), h⟩
theorem ded_perm {xs : List Str} (h : xs.Nodup) : xs.Perm (ded xs) := by
  have hd : (ded xs).Nodup := ded_nd xs [] .nil
  have hm : ∀ y, y ∈ ded xs ↔ y ∈ xs := fun y => by unfold ded; rw [ded_mem]; simp
  have l1 := nodup_len h fun y hy => (hm y).mpr hy
  have l2 := nodup_len hd fun y hy => (hm y).mp hy
  exact (perm_of_sub h (fun y hy => (hm y).mpr hy) (by omega)).symm
theorem ded_length (xs : List Str) : (ded xs).length = xs.length ↔ xs.Nodup := by
  constructor
  · intro h
    have hd : (ded xs).Nodup := ded_nd xs [] .nil
    have hm : ∀ y, y ∈ ded xs ↔ y ∈ xs := fun y => by unfold ded; rw [ded_mem]; simp
    exact (perm_of_sub hd (fun y hy => (hm y).mp hy) h.symm).nodup_iff.mpr hd
  · intro h; exact (ded_perm h).length_eq.symm
/-- names == sorted(set(names)) -/
theorem sorted_self {xs ys : List Str} (p : ys.Perm (ded xs)) (h : sortedS ys = true) : decide (xs = ys) = rising xs := by
  cases hr : rising xs
  · rw [decide_eq_false_iff_not]
    intro e
    have nd : ys.Nodup := p.nodup_iff.mpr (ded_nd xs [] .nil)
    have := rising_sorted (.refl ys) h
    rw [decide_eq_true nd, ← e, hr] at this
    cases this
  · rw [decide_eq_true_eq]
    have nd := rising_nodup hr
    have p2 : ys.Perm xs := p.trans (ded_perm nd).symm
    have r2 : rising ys = true := by rw [rising_sorted p2 h]; exact decide_eq_true nd
    have pw1 := rising_pw hr
    have pw2 := rising_pw r2
    exact (List.Perm.eq_of_pairwise (le := fun a b => slt a b = true) (fun a b _ _ h1 h2 => by
      have := slt_trans h1 h2
      rw [slt_irrefl] at this; cases this) pw1 pw2 p2.symm)
theorem oks_some {rows : List Row} (ho : ∀ r ∈ rows, (D.str r.1).ok = true ∧ (oD r.2.1).ok = true ∧ (D.str r.2.2).ok = true) : okA (rows.map rowD) = true := okA_of fun x hx => by
  obtain ⟨r, hr, rfl⟩ := List.mem_map.mp hx
  have h := ho r hr
  show ((D.str r.1).ok && ((oD r.2.1).ok && ((D.str r.2.2).ok && true))) = true
  rw [h.1, h.2.1, h.2.2]; rfl
theorem find_filter {rows : List Row} {u : Str} : (rows.filter fun r => r.1 == u) = [] ↔ find rows u = none := by
  unfold find
  rw [List.find?_eq_none, List.filter_eq_nil_iff]
theorem pure__law_is_good_boxes : ∀ S ds Q E, sp__law_is_good_boxes S ds Q E → b__law_is_good_boxes S { nx := fun _ => Q .non, rt := ptR Q, ex := fun x _ => E x } (start0 ["value", "names", "tops", "row", "hosts", "doors", "here", "steps", "above", "other"] ds) := by
  rintro S _ Q E ⟨d, rfl, ho, q⟩
  unfold b__law_is_good_boxes
  refine seq_intro fun K1 hK1 => ?_
  cases d with
  | tup xs =>
    have okx := okA_mem (xs := xs) ho
    simp [isTup, int_lt1, int_gt8]
    cases h1 : decide (1 ≤ xs.length)
    · simpa [isBoxesB, h1] using q
    cases h2 : decide (xs.length ≤ 8)
    · simpa [isBoxesB, h1, h2] using q
    simp only [Bool.not_true]
    refine hK1 _ ?_
    refine seq_intro fun K2 hK2 => ?_
    simp
    refine compD_go' (fun d => !isBoxB d) (fun d => d) xs (fun d hd => ⟨_, rfl, fun Q q => ⟨d, rfl, okx d hd, by simpa using q⟩, fun _ Q q => by simpa [wipeD] using q⟩) ?_
    rw [List.map_id', eqv_nil]
    refine ⟨okA_of fun x hx => okx x (List.mem_filter.mp hx).1, ?_⟩
    have hall : (xs.filter fun d => !isBoxB d).isEmpty = xs.all isBoxB := by
      rw [Bool.eq_iff_iff, List.isEmpty_iff, List.filter_eq_nil_iff, List.all_eq_true]
      simp
    rw [hall]
    cases h3 : xs.all isBoxB
    · rw [isBoxesB, h1, h2, h3] at q
      simpa using q
    simp only [Bool.not_true]
    refine hK2 _ ?_
    obtain ⟨rows, hr⟩ := isBoxes_rows h3
    rw [isBoxesB, h1, h2, h3, hr] at q
    have e := rowsOf_eq hr
    subst e
    have hl : rows.length ≤ 8 := by simpa using of_decide_eq_true h2
    have rok : ∀ r ∈ rows, (D.str r.1).ok = true ∧ (oD r.2.1).ok = true ∧ (D.str r.2.2).ok = true := fun r hr => by
      have := okx _ (List.mem_map.mpr ⟨r, hr, rfl⟩)
      simp only [rowD, D.ok, okA, Bool.and_eq_true] at this
      exact ⟨by simpa using this.1, this.2.1, by simpa using this.2.2.1⟩
    refine seq_intro fun K3 hK3 => ?_
    simp
    refine compD_map rowD (fun r => .str r.1) rows (fun r hr => ⟨_, rfl, fun Q q => by simpa [rowD, wipeD] using q⟩) ?_
    refine hK3 _ ?_
    refine seq_intro fun K4 hK4 => ?_
    simp
    refine compD_go rowD (fun r => r.2.1.isNone) (fun r => .str r.2.2) rows (fun r hr => ⟨_, rfl, fun Q q => ?_, fun _ Q q => by simpa [rowD, wipeD] using q⟩) ?_
    · simp [rowD, wipeD]
      cases hu : r.2.1 <;> simpa [hu, oD] using q
    refine hK4 _ ?_
    refine seq_intro fun K5 hK5 => ?_
    have en : (rows.map fun r => D.str r.1) = (names rows).map D.str := by simp [names]
    have et : ((rows.filter fun r => r.2.1.isNone).map fun r => D.str r.2.2) = ((rows.filter fun r => r.2.1.isNone).map (·.2.2)).map D.str := by simp
    rw [en, et]
    have hnl : (names rows).length = rows.length := List.length_map ..
    have okn : okA ((names rows).map D.str) = true := (okA_strs _).mpr fun x hx => by
      obtain ⟨r, hr, rfl⟩ := List.mem_map.mp hx; exact (rok r hr).1
    have okt : okA (((rows.filter fun r => r.2.1.isNone).map (·.2.2)).map D.str) = true := (okA_strs _).mpr fun x hx => by
      obtain ⟨r, hr, rfl⟩ := List.mem_map.mp hx; exact (rok r (List.mem_filter.mp hr).1).2.2
    have dep0 : ∀ zs : List Str, depA (zs.map D.str) = 0 := fun zs => by
      induction zs with
      | nil => rfl
      | cons z zs ih => show max 0 (depA (zs.map D.str)) = 0; rw [ih]; rfl
    simp only [sIf, tOrT, tIsB, tBin, tO, tSortedSet, List.getElem?_cons_succ, List.getElem?_cons_zero, strsD, strsOf_map]
    refine ⟨by omega, fun ys p hs => ?_⟩
    have oky : okA (ys.map D.str) = true := (okA_strs _).mpr fun x hx => by
      have := p.mem_iff.mp hx
      rw [show x ∈ ded (names rows) ↔ x ∈ names rows from by unfold ded; rw [ded_mem]; simp] at this
      exact (okA_strs _).mp okn x this
    refine ⟨⟨okn, oky, by show min (depA ((names rows).map D.str) + 1) _ ≤ 64; rw [dep0]; omega⟩, ?_⟩
    have eqn : (D.lst ((names rows).map D.str)).eqv (.lst (ys.map D.str)) = rising (names rows) := by
      show eqvA _ _ = _
      rw [eqv_strs, sorted_self p hs]
    rw [eqn]
    cases h4 : rising (names rows)
    · simpa [h4] using q
    simp only [h4, Bool.true_and] at q
    simp only [isB, Bool.not_true, tLstD, tCs, tK, tN, neD, List.length_cons, List.length_nil]
    refine ⟨by simp [sizeLine], ⟨okt, by decide +kernel, by show min (depA _ + 1) _ ≤ 64; rw [dep0]; omega⟩, ?_⟩
    have eqt : (D.lst (((rows.filter fun r => r.2.1.isNone).map (·.2.2)).map D.str)).eqv (.lst [.str "plain"]) = decide (((rows.filter fun r => r.2.1.isNone).map (·.2.2)) = [("plain" : Str)]) := by
      show eqvA _ (List.map D.str [("plain" : Str)]) = _
      rw [eqv_strs]
    rw [eqt]
    have nd := rising_nodup h4
    have tp : ((rows.filter fun r => r.2.1.isNone).map (·.2.2)) = [("plain" : Str)] ↔ (tops rows).length = 1 ∧ (rows.filter fun r => r.2.1.isNone).length = 1 := by
      have e : tops rows = ((rows.filter fun r => r.2.1.isNone).filter fun r => r.2.2 == ("plain" : Str)).map (·.1) := by
        rw [List.filter_filter]; unfold tops; congr 2; funext r; rw [Bool.and_comm]
      rw [e, List.length_map]
      cases hf : rows.filter fun r => r.2.1.isNone with
      | nil => simp
      | cons a l =>
        cases l with
        | nil =>
          by_cases hp : a.2.2 = "plain"
          · simp [hp]
          · simp [hp]
        | cons b l => simp
    cases h5 : decide (((rows.filter fun r => r.2.1.isNone).map (·.2.2)) = [("plain" : Str)])
    · have : isTree rows = false := by
        cases hT : isTree rows
        · rfl
        · have tq := tree_parts hT
          rw [decide_eq_false_iff_not, tp] at h5
          exact absurd ⟨tq.1, tq.2.1⟩ h5
      rw [this] at q
      simpa using q
    simp only [Bool.not_true]
    refine hK5 _ ?_
    have t12 := tp.mp (of_decide_eq_true h5)
    have hT := tree_chk nd (by omega) t12.1 t12.2
    rw [hT] at q
    have ok : RowsOk rows := ⟨by omega, nd, rok⟩
    generalize (((rows.filter fun r => r.2.1.isNone).map (·.2.2)).map D.str) = TL
    refine seq_intro fun K6 hK6 => ?_
    simp only [sFor, tItems, tV, List.getElem?_cons_zero, itemsD]
    refine forD_rule (fun ds ρ => ∃ (rs : List Row) (x3 x6 x7 x8 : Option Sl), ds = rs.map rowD ∧ ρ = [some (.p (.tup (rows.map rowD))), some (.p (.lst ((names rows).map D.str))), some (.p (.lst TL)), x3, none, none, x6, x7, x8, none] ∧
      (∀ r ∈ rs, r ∈ rows) ∧ (∀ r ∈ rows, r ∈ rs ∨ chkF rows 9 r = true)) (fun d rest ρ hI => ?_) (fun ρ hI => ?_) _ _ ⟨rows, none, none, none, none, rfl, rfl, fun _ h => h, fun _ h => .inl h⟩
    · obtain ⟨rs, x3, x6, x7, x8, e, rfl, hin, hdone⟩ := hI
      cases rs with
      | nil => cases e
      | cons r0 rs =>
        cases e
        refine ⟨_, rfl, fun N hN => ?_⟩
        have hr0 := hin r0 (List.mem_cons_self ..)
        unfold b__law_is_good_boxes_2
        refine seq_intro fun K7 hK7 => ?_
        simp
        refine ⟨by simp [sizeLine], hK7 _ ?_⟩
        have nope : chkF rows 9 r0 = false → Q (.bl false) := fun h => by
          have : rows.all (chkF rows 9) = false := by rw [List.all_eq_false]; exact ⟨r0, hr0, by simp [h]⟩
          rw [this] at q
          simpa using q
        have okay : chkF rows 9 r0 = true → ∀ x6 x7 x8, N [some (.p (.tup (rows.map rowD))), some (.p (.lst ((names rows).map D.str))), some (.p (.lst TL)), some (.p (rowD r0)), none, none, x6, x7, x8, none] := fun h x6 x7 x8 =>
          hN _ ⟨rs, _, x6, x7, x8, rfl, rfl, fun r hr => hin r (List.mem_cons_of_mem _ hr), fun r hr => by
            rcases hdone r hr with z | z
            · rcases List.mem_cons.mp z with z | z
              · rw [z]; exact .inr h
              · exact .inl z
            · exact .inr z⟩
        refine ⟨9 + 1, whileD_rule (fun n ρ => ∃ (r : Row) (x8 : Option Sl), n ≤ 9 ∧ ρ = [some (.p (.tup (rows.map rowD))), some (.p (.lst ((names rows).map D.str))), some (.p (.lst TL)), some (.p (rowD r0)), none, none, some (.p (rowD r)), some (.p (.int (9 - n))), x8, none] ∧
          r ∈ rows ∧ chkF rows n r = chkF rows 9 r0) (fun n ρ hI N2 hN2 => ?_) 9 _ ⟨r0, x8, Nat.le_refl _, by simp, hr0, rfl⟩⟩
        obtain ⟨r, x8, hn9, rfl, hr, hc⟩ := hI
        simp [rowD]
        cases hu : r.2.1 with
        | none =>
          have : chkF rows n r = true := by cases n <;> simp [chkF, hu]
          rw [this] at hc
          simp [oD]
          have := okay hc.symm (some (.p (rowD r))) (some (.p (.int (9 - n)))) x8
          simpa [rowD, oD, hu] using this
        | some u =>
          simp [oD]
          unfold b__law_is_good_boxes_1
          refine seq_intro fun K8 hK8 => ?_
          have oku : (D.str u).ok = true := by have := (rok r hr).2.1; rw [hu] at this; exact this
          simp
          refine compD_go rowD (fun r => r.1 == u) (fun r => rowD r) rows (fun r' hr' => ⟨_, rfl, fun Q q => ?_, fun _ Q q => by simpa [wipeD] using q⟩) ?_
          · have o1 := (rok r' hr').1
            simp at o1 oku
            simp [wipeD, rowD, o1, oku]
            exact q
          refine hK8 _ ?_
          refine seq_intro fun K9 hK9 => ?_
          have okf : okA ((rows.filter fun r => r.1 == u).map rowD) = true := oks_some fun r hr => rok r (List.mem_filter.mp hr).1
          simp only [sIf, tOrT, tIsB, tBin, tO, tLstD, tN, List.getElem?_cons_succ, List.getElem?_cons_zero, eqD, List.set]
          refine ⟨by simp [sizeLine], ⟨okf, rfl, by show min _ (0 + 1) ≤ 64; omega⟩, ?_⟩
          have en : (D.lst ((rows.filter fun r => r.1 == u).map rowD)).eqv (.lst []) = ((rows.filter fun r => r.1 == u).map rowD).isEmpty := eqv_nil _
          rw [en]
          cases hfi : find rows u with
          | none =>
            rw [find_filter.mpr hfi]
            have : chkF rows n r = false := by cases n <;> simp [chkF, hu, hfi]
            rw [this] at hc
            simpa using nope hc.symm
          | some r' =>
            obtain ⟨rest, hrest⟩ := filter_head hfi
            rw [hrest]
            have hr' := (find_name hfi).1
            simp
            cases n with
            | zero =>
              have : chkF rows 0 r = false := by simp [chkF, hu]
              rw [this] at hc
              simpa using nope hc.symm
            | succ n =>
              have hg : decide ((8 : Int) < 9 - ((n + 1 : Nat) : Int)) = false := by rw [decide_eq_false_iff_not]; omega
              have hg2 : decide ((8 : Int) < 9 - ((n : Int) + 1)) = false := by rw [decide_eq_false_iff_not]; omega
              simp only [hg, hg2]
              refine hK9 _ ?_
              simp
              refine ⟨by simp [sizeLine], hN2 n _ rfl ⟨r', some (.p (.lst (rowD r' :: rest.map rowD))), by omega, ?_, hr', ?_⟩⟩
              · have e9 : (9 : Int) - (n + 1) + 1 = 9 - n := by omega
                simp [rowD, oD, e9]
              · rw [← hc]
                simp [chkF, hu, hfi]
    · obtain ⟨rs, x3, x6, x7, x8, e, rfl, hin, hdone⟩ := hI
      cases rs with
      | cons => cases e
      | nil =>
        have hAll : rows.all (chkF rows 9) = true := by
          rw [List.all_eq_true]
          intro r hr
          rcases hdone r hr with z | z
          · cases z
          · exact z
        rw [hAll] at q hT
        simp only [Bool.true_and] at q
        refine hK6 _ ?_
        refine seq_intro fun K7 hK7 => ?_
        simp
        refine compD_go rowD (fun r => r.2.2 == ("door" : Str)) (fun r => oD r.2.1) rows (fun r hr => ⟨_, rfl, fun Q q => ?_, fun _ Q q => by simpa [rowD, wipeD] using q⟩) ?_
        · have := (rok r hr).2.2
          simp at this
          simp [rowD, wipeD]
          exact ⟨⟨this, by decide +kernel⟩, q⟩
        refine hK7 _ ?_
        refine seq_intro fun K8 hK8 => ?_
        simp
        refine compD_go rowD (fun r => r.2.2 == ("slot" : Str)) (fun r => oD (houseOf rows r.1)) rows (fun r hr => ⟨_, rfl, fun Q q => ?_, fun _ Q q => ?_⟩) ?_
        · have := (rok r hr).2.2
          simp at this
          simp [rowD, wipeD]
          exact ⟨⟨this, by decide +kernel⟩, q⟩
        · simp [rowD, wipeD]
          refine ⟨rows, some r.1, _, _, rfl, ok, fun n hn => by cases hn; exact (rok r hr).1, houseOf_eq nd hT (List.mem_map.mpr ⟨r, hr, rfl⟩), q⟩
        refine hK8 _ ?_
        obtain ⟨hs, hhs⟩ : ∃ hs : List Str, hosts rows = hs.map some := by
          refine all_some fun z => ?_
          obtain ⟨r, hr, e⟩ := List.mem_map.mp z
          have hr := List.mem_filter.mp hr
          have h2 := tree_none hT r hr.1 e
          have h3 := hr.2
          rw [h2] at h3
          exact absurd h3 (by decide +kernel)
        have hl1 : hs.length ≤ rows.length := by
          have : hs.length = (hosts rows).length := by rw [hhs, List.length_map]
          rw [this, hosts, List.length_map]; exact List.length_filter_le ..
        have eh : (rows.filter fun r => r.2.2 == ("door" : Str)).map (fun r => oD r.2.1) = hs.map D.str := by
          rw [← oD_some, ← hhs, hosts, List.map_map]; rfl
        have ed : (rows.filter fun r => r.2.2 == ("slot" : Str)).map (fun r => oD (houseOf rows r.1)) = (doors rows).map oD := by rw [doors, List.map_map]; rfl
        have okd : okA ((doors rows).map oD) = true := okA_oD fun x hx => by
          obtain ⟨r, hr, e⟩ := List.mem_map.mp hx
          have hr := (List.mem_filter.mp hr).1
          exact names_ok ok _ (houseOf_mem nd hT (List.mem_map.mpr ⟨r, hr, rfl⟩) e)
        rw [eh, ed]
        have cmp : ∀ zs : List Str, (((ded zs).length : Int) == (zs.length : Int)) = decide zs.Nodup := fun zs => by
          rw [Bool.eq_iff_iff, decide_eq_true_eq, ← ded_length zs, beq_iff_eq]
          constructor <;> intro h <;> omega
        simp only [sRet, tAndE, tBin, tLenSet, tO, tCl, tCs, tN, lenD, List.getElem?_cons_succ, List.getElem?_cons_zero, strsD, strsOf_map, List.set, List.length_map, eqD]
        refine ⟨by omega, ⟨rfl, rfl, Nat.zero_le _⟩, ?_⟩
        simp only [D.eqv, cmp, isB]
        have nhs : decide hs.Nodup = decide (hosts rows).Nodup := by rw [hhs]; exact decide_eq_decide.mpr (nodup_some hs).symm
        rw [nhs]
        cases c1 : decide (hosts rows).Nodup
        · simpa [rightHouses, c1] using q
        have hni : D.isIn .non (.lst ((doors rows).map oD)) = some ((doors rows).contains none) := by
          simp [D.isIn, okd, inB_none]
        simp only [notInD, cmpD, tK, hni, Option.map_some, isB]
        cases c2 : (doors rows).contains none
        · simp only [Bool.not_false]
          obtain ⟨dd, hd⟩ : ∃ hs : List Str, doors rows = hs.map some := all_some fun z => by
            rw [List.contains_iff_mem.mpr z] at c2; cases c2
          have hl2 : dd.length ≤ rows.length := by
            have : dd.length = (doors rows).length := by rw [hd, List.length_map]
            rw [this, doors, List.length_map]; exact List.length_filter_le ..
          have ndd : decide dd.Nodup = decide (doors rows).Nodup := by rw [hd]; exact decide_eq_decide.mpr (nodup_some dd).symm
          rw [hd, oD_some, strsOf_map]
          simp only [List.length_map]
          refine ⟨by omega, ⟨rfl, rfl, Nat.zero_le _⟩, ?_⟩
          simp only [cmp, ndd]
          rw [rightHouses, c1, c2] at q
          simpa using q
        · rw [rightHouses, c1, c2] at q
          simpa using q
  | _ => first | (simp at ho; done) | simpa [isTup, isBoxesB] using q
end DL.TB

set_option Elab.async false
set_option linter.all false
set_option maxRecDepth 100000
set_option maxHeartbeats 1000000
/-! the pages' functions, plain -/
namespace DL.TB
open PySem PySem.Spec PyProof.Rows L2
def c_MOST_SORTS : D := .int 3
def c_MOST_LISTENERS : D := .int 12
def c_MOST_DEEDS : D := .int 3
def stL (xs : List Str) : D := .lst (xs.map D.str)
def okS (xs : List Str) : Prop := okA (xs.map D.str) = true
def inS (xs : List Str) : D → Bool
  | .str s => xs.contains s
  | _ => false
def isSortB : D → Bool
  | .tup [n, a, b, c] => isNameB n && (a.isBl && (b.isBl && c.isBl))
  | _ => false
def deedK (ls ss bs : List Str) (w : Str) (items : List D) (k1 k2 : Bool) : Bool := match k1 with
  | true => (match items with | [a] => inS ls a | _ => false)
  | false => match w == ("move" : Str) with
    | true => (match items with | [a, b] => inS bs a && inS bs b | _ => false)
    | false => match w == ("send" : Str) with
      | true => (match items with | [a, b] => inS ss a && inS bs b | _ => false)
      | false => k2
def isDeedB (ls ss bs : List Str) : D → Bool
  | .tup (.str w :: items) => deedK ls ss bs w items ((["on", "off"] : List Str).contains w) ((["stop", "halt", "bar"] : List Str).contains w && items.isEmpty)
  | _ => false
def deedsB (ls ss bs : List Str) : D → Bool
  | .tup ds => decide (ds.length ≤ 3) && ds.all (isDeedB ls ss bs)
  | _ => false
def isListenerB (ls ss bs : List Str) : D → Bool
  | .tup [n, b, s, e, o, c, ds] => isNameB n && ((inS bs b && inS ss s) && ((e.isBl && (o.isBl && c.isBl)) && deedsB ls ss bs ds))
  | _ => false
def nmOf : D → Option Str
  | .tup (.str s :: _) => if nameS s = true then some s else none
  | _ => none
def namesIn (xs : List D) : List Str := xs.filterMap nmOf
def stOf : D → Option Str
  | .str s => some s
  | _ => none
def isOnB (ls : List Str) : D → Bool
  | .tup xs => xs.all (inS ls) && decide (xs.filterMap stOf).Nodup
  | _ => false
def isPageB : D → Bool
  | .tup [.tup ss, .tup ls, .tup bs, on] => isBoxesB (.tup bs) && ((decide (1 ≤ ss.length) && (decide (ss.length ≤ 3) && ss.all isSortB)) && (decide (ls.length ≤ 12) &&
      (ls.all (isListenerB (namesIn ls) (namesIn ss) (namesIn bs)) && (rising (namesIn ls) && (rising (namesIn ss) && isOnB (namesIn ls) on)))))
  | _ => false
def sp_is_sort : Spec := spO (fun d : D => [d]) (fun _ d => d.ok = true) fun d => .bl (isSortB d)
theorem ms_is_sort : MonoS sp_is_sort := spO.mono
theorem len_is_sort : ∀ S ds Q E, sp_is_sort S ds Q E → ds.length = 1 := spO.len fun _ => rfl
def sp_is_deed : Spec := spO (fun x : D × List Str × List Str × List Str => [x.1, stL x.2.1, stL x.2.2.1, stL x.2.2.2]) (fun _ x => x.1.ok = true ∧ x.1.nar = true ∧ okS x.2.1 ∧ okS x.2.2.1 ∧ okS x.2.2.2) fun x => .bl (isDeedB x.2.1 x.2.2.1 x.2.2.2 x.1)
theorem ms_is_deed : MonoS sp_is_deed := spO.mono
theorem len_is_deed : ∀ S ds Q E, sp_is_deed S ds Q E → ds.length = 4 := spO.len fun _ => rfl
def sp_is_listener : Spec := spO (fun x : D × List Str × List Str × List Str => [x.1, stL x.2.1, stL x.2.2.1, stL x.2.2.2]) (fun _ x => x.1.ok = true ∧ x.1.nar = true ∧ okS x.2.1 ∧ okS x.2.2.1 ∧ okS x.2.2.2) fun x => .bl (isListenerB x.2.1 x.2.2.1 x.2.2.2 x.1)
theorem ms_is_listener : MonoS sp_is_listener := spO.mono
theorem len_is_listener : ∀ S ds Q E, sp_is_listener S ds Q E → ds.length = 4 := spO.len fun _ => rfl
def sp_is_on : Spec := spO (fun x : D × List Str => [x.1, stL x.2]) (fun _ x => x.1.ok = true ∧ x.1.nar = true ∧ okS x.2) fun x => .bl (isOnB x.2 x.1)
theorem ms_is_on : MonoS sp_is_on := spO.mono
theorem len_is_on : ∀ S ds Q E, sp_is_on S ds Q E → ds.length = 2 := spO.len fun _ => rfl
def sp_names_in : Spec := spO (fun x : Bool × List D => [match x.1 with | true => .lst x.2 | false => .tup x.2]) (fun _ x => okA x.2 = true ∧ x.2.length ≤ 50) fun x => stL (namesIn x.2)
theorem ms_names_in : MonoS sp_names_in := spO.mono
theorem len_names_in : ∀ S ds Q E, sp_names_in S ds Q E → ds.length = 1 := spO.len fun _ => rfl
def sp_is_page : Spec := spO (fun d : D => [d]) (fun _ d => d.ok = true ∧ d.nar = true) fun d => .bl (isPageB d)
theorem ms_is_page : MonoS sp_is_page := spO.mono
theorem len_is_page : ∀ S ds Q E, sp_is_page S ds Q E → ds.length = 1 := spO.len fun _ => rfl
def b_is_sort (S : List Addr) : TSd := (sSeq (sIf (tOrT (tNotT (tTru (tIsi isTup (tO 0)))) (tOrT (tIsB (tBin neD (tCl lenD (tCs (tO 0) tN)) (tK (.int 4)))) (tNotT (tTru (tFn S sp_is_name (tCs (tBin ixD (tO 0) (tK (.int 0))) tN))))))
  (sRet (tK (.bl false)))
  sNext)
  (sRet (tCl allD (tCs (tComp (.n 1) tYesD (tIsi isBool (tO 1)) [1] (tItems (tSlD (tO 0) (tOSo (tK (.int 1))) tONo))) tN))))

def b_is_deed (S : List Addr) : TSd := (sSeq (sIf (tOrT (tNotT (tTru (tIsi isTup (tO 0)))) (tOrT (tIsB (tBin eqD (tCl lenD (tCs (tO 0) tN)) (tK (.int 0)))) (tNotT (tTru (tIsi isStr (tBin ixD (tO 0) (tK (.int 0))))))))
  (sRet (tK (.bl false)))
  sNext)
  (sSeq (sStar (tV 0) 1 [(.n 4), (.n 5)])
  (sSeq (sIf (tIsB (tBin inD (tO 4) (tTupD (tCs (tK (.str "on")) (tCs (tK (.str "off")) tN)))))
  (sRet (tAndE (tBin eqD (tCl lenD (tCs (tO 5) tN)) (tK (.int 1))) (tFn S sp_is_one_of (tCs (tBin ixD (tO 5) (tK (.int 0))) (tCs (tV 1) tN)))))
  sNext)
  (sSeq (sIf (tIsB (tBin eqD (tO 4) (tK (.str "move"))))
  (sRet (tAndE (tBin eqD (tCl lenD (tCs (tO 5) tN)) (tK (.int 2))) (tCl allD (tCs (tComp (.n 6) tYesD (tFn S sp_is_one_of (tCs (tV 6) (tCs (tV 3) tN))) [6] (tItems (tO 5))) tN))))
  sNext)
  (sSeq (sIf (tIsB (tBin eqD (tO 4) (tK (.str "send"))))
  (sRet (tAndE (tBin eqD (tCl lenD (tCs (tO 5) tN)) (tK (.int 2))) (tAndE (tFn S sp_is_one_of (tCs (tBin ixD (tO 5) (tK (.int 0))) (tCs (tV 2) tN))) (tFn S sp_is_one_of (tCs (tBin ixD (tO 5) (tK (.int 1))) (tCs (tV 3) tN))))))
  sNext)
  (sRet (tAndE (tBin inD (tO 4) (tTupD (tCs (tK (.str "stop")) (tCs (tK (.str "halt")) (tCs (tK (.str "bar")) tN))))) (tBin eqD (tO 5) (tLstD tN)))))))))

def b_is_listener (S : List Addr) : TSd := (sSeq (sIf (tOrT (tNotT (tTru (tIsi isTup (tO 0)))) (tOrT (tIsB (tBin neD (tCl lenD (tCs (tO 0) tN)) (tK (.int 7)))) (tNotT (tTru (tFn S sp_is_name (tCs (tBin ixD (tO 0) (tK (.int 0))) tN))))))
  (sRet (tK (.bl false)))
  sNext)
  (sSeq (sIf (tOrT (tNotT (tTru (tFn S sp_is_one_of (tCs (tBin ixD (tO 0) (tK (.int 1))) (tCs (tV 3) tN))))) (tNotT (tTru (tFn S sp_is_one_of (tCs (tBin ixD (tO 0) (tK (.int 2))) (tCs (tV 2) tN))))))
  (sRet (tK (.bl false)))
  sNext)
  (sSeq (sIf (tNotT (tTru (tCl allD (tCs (tComp (.n 6) tYesD (tIsi isBool (tO 6)) [6] (tItems (tSlD (tO 0) (tOSo (tK (.int 3))) (tOSo (tK (.int 6)))))) tN))))
  (sRet (tK (.bl false)))
  sNext)
  (sSeq (sAsg (tBin ixD (tO 0) (tK (.int 6))) (.n 4))
  (sSeq (sIf (tOrT (tNotT (tTru (tIsi isTup (tO 4)))) (tIsB (tBin gtD (tCl lenD (tCs (tO 4) tN)) (tK c_MOST_DEEDS))))
  (sRet (tK (.bl false)))
  sNext)
  (sRet (tCl allD (tCs (tComp (.n 5) tYesD (tFn S sp_is_deed (tCs (tV 5) (tCs (tV 1) (tCs (tV 2) (tCs (tV 3) tN))))) [5] (tItems (tO 4))) tN))))))))

def b_is_on (S : List Addr) : TSd := (sSeq (sIf (tOrT (tNotT (tTru (tIsi isTup (tO 0)))) (tNotT (tTru (tCl allD (tCs (tComp (.n 2) tYesD (tFn S sp_is_one_of (tCs (tV 2) (tCs (tV 1) tN))) [2] (tItems (tO 0))) tN)))))
  (sRet (tK (.bl false)))
  sNext)
  (sRet (tFn S sp_is_rising (tCs (tCl sortUD (tCs (tO 0) tN)) tN))))

def b_names_in (S : List Addr) : TSd := (sRet (tComp (.n 1) (tAndT (tTru (tIsi isTup (tO 1))) (tAndT (tIsB (tBin gtD (tCl lenD (tCs (tO 1) tN)) (tK (.int 0)))) (tTru (tFn S sp_is_name (tCs (tBin ixD (tO 1) (tK (.int 0))) tN))))) (tBin ixD (tO 1) (tK (.int 0))) [1] (tItems (tO 0))))

def b_is_page (S : List Addr) : TSd := (sSeq (sIf (tOrT (tNotT (tTru (tIsi isTup (tO 0)))) (tOrT (tIsB (tBin neD (tCl lenD (tCs (tO 0) tN)) (tK (.int 4)))) (tNotT (tTru (tFn S sp_is_boxes (tCs (tBin ixD (tO 0) (tK (.int 2))) tN))))))
  (sRet (tK (.bl false)))
  sNext)
  (sSeq (sAsg (tV 0) (.t [(.n 1), (.n 2), (.n 3), (.n 4)]))
  (sSeq (sIf (tOrT (tNotT (tTru (tIsi isTup (tO 1)))) (tOrT (tNotT (tIsB (tChn leD leD (tK (.int 1)) (tCl lenD (tCs (tO 1) tN)) (tK c_MOST_SORTS)))) (tNotT (tTru (tCl allD (tCs (tComp (.n 8) tYesD (tFn S sp_is_sort (tCs (tV 8) tN)) [8] (tItems (tO 1))) tN))))))
  (sRet (tK (.bl false)))
  sNext)
  (sSeq (sIf (tOrT (tNotT (tTru (tIsi isTup (tO 2)))) (tIsB (tBin gtD (tCl lenD (tCs (tO 2) tN)) (tK c_MOST_LISTENERS))))
  (sRet (tK (.bl false)))
  sNext)
  (sSeq (sAsg (tTupD (tCs (tFn S sp_names_in (tCs (tV 2) tN)) (tCs (tFn S sp_names_in (tCs (tV 1) tN)) (tCs (tFn S sp_names_in (tCs (tV 3) tN)) tN)))) (.t [(.n 5), (.n 6), (.n 7)]))
  (sSeq (sIf (tNotT (tTru (tCl allD (tCs (tComp (.n 8) tYesD (tFn S sp_is_listener (tCs (tV 8) (tCs (tV 5) (tCs (tV 6) (tCs (tV 7) tN))))) [8] (tItems (tO 2))) tN))))
  (sRet (tK (.bl false)))
  sNext)
  (sRet (tAndE (tFn S sp_is_rising (tCs (tV 5) tN)) (tAndE (tFn S sp_is_rising (tCs (tV 6) tN)) (tFn S sp_is_on (tCs (tV 4) (tCs (tV 5) tN))))))))))))

@[simp] theorem ok_int (i : Int) : (D.int i).ok = true := rfl
@[simp] theorem ok_bl (i : Bool) : (D.bl i).ok = true := rfl
@[simp] theorem ok_non : D.non.ok = true := rfl
@[simp] theorem ok_lst (xs : List D) : (D.lst xs).ok = okA xs := rfl
@[simp] theorem ok_tup (xs : List D) : (D.tup xs).ok = okA xs := rfl
@[simp] theorem okA_nil : okA [] = true := rfl
theorem okL2 {a b : D} (h : okA [a, b] = true) : a.ok = true ∧ b.ok = true := by simpa using h
theorem ld_eq (n k : Nat) : ((n : Int) == (k : Int)) = decide (n = k) := by
  by_cases h : n = k
  · simp [h]
  · have : ¬ ((n : Int) = k) := by omega
    simp [h, this]
theorem ld_lt (n k : Nat) : decide ((k : Int) < (n : Int)) = !decide (n ≤ k) := by
  by_cases h : n ≤ k
  · have : ¬ ((k : Int) < n) := by omega
    simp [h, this]
  · have : (k : Int) < n := by omega
    simp [h, this]
theorem ld_le (n k : Nat) : decide ((k : Int) ≤ (n : Int)) = decide (k ≤ n) := decide_eq_decide.mpr (by omega)
theorem all_bl (xs : List D) : (xs.map fun d => D.bl d.isBl) = xs.map (fun d => D.bl d.isBl) := rfl
theorem pure_is_sort : ∀ S ds Q E, sp_is_sort S ds Q E → b_is_sort S { nx := fun _ => Q .non, rt := ptR Q, ex := fun x _ => E x } (start0 ["value", "part"] ds) := by
  rintro S _ Q E ⟨d, rfl, ho, q⟩
  replace q : Q (.bl (isSortB d)) := q
  unfold b_is_sort
  cases d with
  | tup xs =>
    have okx := okA_mem (xs := xs) ho
    by_cases h4 : xs.length = 4
    · match xs, h4 with
      | [n, a, b, c], _ =>
        have hn := okx n (by simp)
        simp [isTup, sp_is_name, hn]
        cases h1 : isNameB n
        · simpa [isSortB, h1] using q
        · simp [cut_tail]
          refine compD_map' (fun d => .bl d.isBl) _ (fun d hd => ⟨_, rfl, fun Q q => ?_⟩) ?_
          · have hd := okx d (List.mem_cons_of_mem _ hd)
            simp [wipeD]
            cases d <;> first | (simp at hd; done) | simpa [isBool, D.isBl] using q
          · rw [blsOf_maps]
            simpa [isSortB, h1] using q
    · have e : isSortB (.tup xs) = false := by
        match xs, h4 with
        | [], _ | [_], _ | [_, _], _ | [_, _, _], _ => rfl
        | [_, _, _, _], h => exact absurd rfl h
        | _ :: _ :: _ :: _ :: _ :: _, _ => rfl
      rw [e] at q
      have h5 : ((xs.length : Int) == 4) = false := by simp; omega
      simp [isTup, h5, q]
  | _ => first | (simp at ho; done) | simpa [isTup, isSortB] using q
theorem okS_mem {xs : List Str} (h : okS xs) : okA (xs.map D.str) = true := h
/-- x in (..), of texts -/
theorem in_tupS {s : Str} {xs : List Str} (h1 : (D.str s).ok = true) (h2 : okS xs) : D.isIn (.str s) (.tup (xs.map D.str)) = some (xs.contains s) := by
  simp only [D.isIn]
  rw [if_pos (by rw [h1, h2]; rfl), inB_strs]
theorem in_lstS {s : Str} {xs : List Str} (h1 : (D.str s).ok = true) (h2 : okS xs) : D.isIn (.str s) (.lst (xs.map D.str)) = some (xs.contains s) := by
  simp only [D.isIn]
  rw [if_pos (by rw [h1, h2]; rfl), inB_strs]
theorem one_of {Q : D → Prop} {d : D} {xs : List Str} (h1 : d.ok = true) (h2 : okS xs) (q : Q (.bl (inS xs d))) : ∃ (d' : D) (ys : List Str) (l : Bool), [d, stL xs] = [d', sqD l ys] ∧ d'.ok = true ∧ okA (ys.map D.str) = true ∧ Q (.bl (match d' with | .str s => ys.contains s | _ => false)) :=
  ⟨d, xs, true, rfl, h1, h2, by cases d <;> exact q⟩
theorem ok_of {d : D} {xs : List D} (h : okA xs = true) (hd : d ∈ xs) : d.ok = true := okA_mem h d hd
theorem pure_is_deed : ∀ S ds Q E, sp_is_deed S ds Q E → b_is_deed S { nx := fun _ => Q .non, rt := ptR Q, ex := fun x _ => E x } (start0 ["value", "listeners", "sorts", "boxes", "word", "items", "item"] ds) := by
  rintro S _ Q E ⟨⟨d, ls, ss, bs⟩, rfl, ⟨ho, hn, o1, o2, o3⟩, q⟩
  replace q : Q (.bl (isDeedB ls ss bs d)) := q
  replace ho : d.ok = true := ho
  unfold b_is_deed
  cases d with
  | tup xs =>
    have okx := okA_mem (xs := xs) ho
    cases xs with
    | nil => simpa [isTup, isDeedB] using q
    | cons x xs =>
      have hx := okx x (List.mem_cons_self ..)
      have h0 : ((xs.length : Int) + 1 == 0) = false := by simp; omega
      cases x with
      | str w =>
        have a1 : okS ["on", "off"] := by show okA _ = true; decide +kernel
        have a2 : okS ["stop", "halt", "bar"] := by show okA _ = true; decide +kernel
        have c1 : (D.str "move").ok = true := by decide +kernel
        have c2 : (D.str "send").ok = true := by decide +kernel
        have l2 : 2 ≤ sizeLine := by decide
        have l3 : 3 ≤ sizeLine := by decide
        obtain ⟨k1, hk1⟩ : ∃ k, (["on", "off"] : List Str).contains w = k := ⟨_, rfl⟩
        obtain ⟨k2, hk2⟩ : ∃ k, (["stop", "halt", "bar"] : List Str).contains w = k := ⟨_, rfl⟩
        have i1 : D.isIn (.str w) (.tup [.str "on", .str "off"]) = some k1 := hk1 ▸ in_tupS hx a1
        have i2 : D.isIn (.str w) (.tup [.str "stop", .str "halt", .str "bar"]) = some k2 := hk2 ▸ in_tupS hx a2
        have okxs : okA xs = true := by simp only [D.ok, okA, Bool.and_eq_true] at ho; exact ho.2
        have em : eqvA xs [] = xs.isEmpty := by cases xs <;> rfl
        simp [isTup, isStr, h0, -D.ok, -okA, -D.isIn, hx, i1, i2, c1, c2, l2, l3, okxs, em]
        simp only [isDeedB, hk1, hk2] at q
        unfold deedK at q
        cases k1
        · simp only at q ⊢
          cases h2 : w == ("move" : Str)
          · simp only [h2] at q ⊢
            cases h3 : w == ("send" : Str)
            · simp only [h3] at q ⊢
              cases k2 <;> simpa using q
            · simp only [h3] at q ⊢
              match xs, q, okx with
              | [], q, _ => exact q
              | [a], q, _ => exact q
              | [a, b], q, okx =>
                refine one_of (okx a (by simp)) o2 ?_
                cases h4 : inS ss a
                · simpa [h4] using q
                · exact one_of (okx b (by simp)) o3 (by simpa [h4] using q)
              | a :: b :: c :: r, q, _ =>
                have e : ((((a :: b :: c :: r).length : Nat) : Int) == 2) = false := by simp; omega
                rw [e]; exact q
          · simp only [h2] at q ⊢
            have e : ((xs.length : Int) == 2) = decide (xs.length = 2) := ld_eq xs.length 2
            rw [e]
            cases h5 : decide (xs.length = 2)
            · have h5 := of_decide_eq_false h5
              match xs, q, h5 with
              | [], q, _ | [_], q, _ => exact q
              | [_, _], _, h => exact absurd rfl h
              | _ :: _ :: _ :: _, q, _ => exact q
            · have h5 := of_decide_eq_true h5
              match xs, q, h5, okx with
              | [a, b], q, _, okx =>
                refine compD_map' (fun d => .bl (inS bs d)) _ (fun d hd => ⟨_, rfl, fun Q q => ?_⟩) ?_
                · simp [wipeD]
                  exact one_of (okx d (List.mem_cons_of_mem _ hd)) o3 q
                · rw [blsOf_maps]
                  simpa using q
        · simp only at q ⊢
          match xs, q, okx with
          | [], q, _ => exact q
          | [a], q, okx => exact one_of (okx a (by simp)) o1 q
          | a :: b :: r, q, _ =>
            have e : ((((a :: b :: r).length : Nat) : Int) == 1) = false := by simp; omega
            rw [e]; exact q
      | _ => first | (simp at hx; done) | simpa [isTup, isStr, isDeedB, h0] using q
  | _ => first | (simp at ho; done) | simpa [isTup, isDeedB] using q
theorem isi_bl' {d : D} (h : d.ok = true) {Q : D → Prop} (q : Q (.bl d.isBl)) : match d.ty.bind isBool with | some b => Q (.bl b) | none => False := by
  cases d <;> first | (simp at h; done) | simpa [isBool, D.isBl] using q
theorem pure_is_listener : ∀ S ds Q E, sp_is_listener S ds Q E → b_is_listener S { nx := fun _ => Q .non, rt := ptR Q, ex := fun x _ => E x } (start0 ["value", "listeners", "sorts", "boxes", "deeds", "deed", "part"] ds) := by
  rintro S _ Q E ⟨⟨d, ls, ss, bs⟩, rfl, ⟨ho, hn, o1, o2, o3⟩, q⟩
  replace q : Q (.bl (isListenerB ls ss bs d)) := q
  replace ho : d.ok = true := ho
  have hnn : d.nar = true := hn
  unfold b_is_listener
  cases d with
  | tup xs =>
    have okx := okA_mem (xs := xs) ho
    by_cases h7 : xs.length = 7
    · match xs, h7 with
      | [n, b, s, e, o, c, ds], _ =>
        have hn := okx n (by simp)
        have hb := okx b (by simp)
        have hs := okx s (by simp)
        have hds := okx ds (by simp)
        have e0 : isListenerB ls ss bs (.tup [n, b, s, e, o, c, ds]) = (isNameB n && ((inS bs b && inS ss s) && ((e.isBl && (o.isBl && c.isBl)) && deedsB ls ss bs ds))) := rfl
        rw [e0] at q
        have c1 : cut [n, b, s, e, o, c, ds] (some 3) (some 6) = [e, o, c] := rfl
        have c2 : atI [n, b, s, e, o, c, ds] 6 = some ds := rfl
        simp [isTup, sp_is_name, hn, -D.ok, -okA]
        cases h1 : isNameB n
        · simpa [h1] using q
        simp [-D.ok, -okA, c1, c2]
        refine one_of hb o3 ?_
        cases h2 : inS bs b
        · simpa [h1, h2] using q
        refine one_of hs o2 ?_
        cases h3 : inS ss s
        · simpa [h1, h2, h3] using q
        show compD _ _ _ _ _ _
        refine compD_map' (fun d => .bl d.isBl) _ (fun d hd => ⟨_, rfl, fun Q q => ?_⟩) ?_
        · have hd := okx d (by simp at hd ⊢; rcases hd with h | h | h <;> simp [h])
          simp [wipeD]
          exact isi_bl' hd q
        rw [blsOf_maps]
        simp only [h1, h2, h3, Bool.true_and] at q
        simp only [List.map_cons, List.map_nil, List.all_cons, List.all_nil, id, Bool.and_true]
        cases h4 : (e.isBl && (o.isBl && c.isBl))
        · simpa [h4] using q
        simp only [h4, Bool.true_and, Bool.not_true] at q ⊢
        cases ds with
        | tup zs =>
          have okz := okA_mem (xs := zs) hds
          have narz : ∀ d ∈ zs, d.nar = true := by
            have := (narA_iff _).mp (by simp only [D.nar, Bool.and_eq_true] at hnn; exact hnn.2) (.tup zs) (by simp)
            simp only [D.nar, Bool.and_eq_true] at this
            exact (narA_iff _).mp this.2
          have l3 : decide ((3 : Int) < (zs.length : Int)) = !decide (zs.length ≤ 3) := ld_lt zs.length 3
          simp [c_MOST_DEEDS, isTup, l3]
          cases h5 : decide (zs.length ≤ 3)
          · simpa [deedsB, h5] using q
          simp only [Bool.not_true]
          refine compD_map' (fun d => .bl (isDeedB ls ss bs d)) _ (fun d hd => ⟨_, rfl, fun Q q => ?_⟩) ?_
          · simp [wipeD]
            exact ⟨⟨d, ls, ss, bs⟩, rfl, ⟨okz d hd, narz d hd, o1, o2, o3⟩, q⟩
          · rw [blsOf_maps]
            simpa [deedsB, h5, List.all_map] using q
        | _ => first | (simp at hds; done) | simpa [isTup, deedsB] using q
    · have e : isListenerB ls ss bs (.tup xs) = false := by
        match xs, h7 with
        | [], _ | [_], _ | [_, _], _ | [_, _, _], _ | [_, _, _, _], _ | [_, _, _, _, _], _ | [_, _, _, _, _, _], _ => rfl
        | [_, _, _, _, _, _, _], h => exact absurd rfl h
        | _ :: _ :: _ :: _ :: _ :: _ :: _ :: _ :: _, _ => rfl
      rw [e] at q
      have h5 : ((xs.length : Int) == 7) = false := by simp; omega
      simp [isTup, h5, q]
  | _ => first | (simp at ho; done) | simpa [isTup, isListenerB] using q
theorem strs_all {ls : List Str} : ∀ {xs : List D}, xs.all (inS ls) = true → strsOf xs = some (xs.filterMap stOf) ∧ xs = (xs.filterMap stOf).map D.str
  | [], _ => ⟨rfl, rfl⟩
  | x :: xs, h => by
    rw [List.all_cons, Bool.and_eq_true] at h
    obtain ⟨h1, h2⟩ := strs_all h.2
    cases x <;> first | cases h.1 | skip
    refine ⟨?_, ?_⟩
    · show (strsOf xs).map _ = _
      rw [h1]; rfl
    · rw [List.filterMap_cons]
      show _ = D.str _ :: _
      rw [← h2]
theorem pure_is_on : ∀ S ds Q E, sp_is_on S ds Q E → b_is_on S { nx := fun _ => Q .non, rt := ptR Q, ex := fun x _ => E x } (start0 ["value", "names", "name"] ds) := by
  rintro S _ Q E ⟨⟨d, ls⟩, rfl, ⟨ho, hn, o1⟩, q⟩
  replace q : Q (.bl (isOnB ls d)) := q
  replace ho : d.ok = true := ho
  replace hn : d.nar = true := hn
  unfold b_is_on
  cases d with
  | tup xs =>
    have okx := okA_mem (xs := xs) ho
    have hl : xs.length ≤ 50 := by simp only [D.nar, Bool.and_eq_true, decide_eq_true_eq] at hn; exact hn.1
    simp [isTup, -D.ok, -okA]
    refine compD_map' (fun d => .bl (inS ls d)) _ (fun d hd => ⟨_, rfl, fun Q q => ?_⟩) ?_
    · simp [wipeD]
      exact one_of (okx d hd) o1 q
    rw [blsOf_maps]
    simp only [List.all_map]
    cases h1 : xs.all (id ∘ inS ls)
    · simpa [isOnB, show xs.all (inS ls) = false from h1] using q
    simp only [Bool.not_true]
    obtain ⟨e1, e2⟩ := strs_all (show xs.all (inS ls) = true from h1)
    rw [isOnB, show xs.all (inS ls) = true from h1, Bool.true_and] at q
    have hl2 : (xs.filterMap stOf).length ≤ xs.length := List.length_filterMap_le ..
    simp only [sortUD, e1]
    refine ⟨by omega, fun ys p hs => ⟨ys, true, rfl, by rw [p.length_eq]; simp [sizeLine]; omega, ?_⟩⟩
    rw [rising_sorted p hs]
    exact q
  | _ => first | (simp at ho; done) | simpa [isTup, isOnB] using q
theorem namesIn_eq (xs : List D) : ((xs.filter fun d => (nmOf d).isSome).map fun d => D.str ((nmOf d).getD "")) = (namesIn xs).map D.str := by
  induction xs with
  | nil => rfl
  | cons x xs ih =>
    unfold namesIn at ih ⊢
    rw [List.filter_cons, List.filterMap_cons]
    cases h : nmOf x with
    | none => simpa using ih
    | some s => simp [h, ih]
theorem pure_names_in : ∀ S ds Q E, sp_names_in S ds Q E → b_names_in S { nx := fun _ => Q .non, rt := ptR Q, ex := fun x _ => E x } (start0 ["value", "row"] ds) := by
  rintro S _ Q E ⟨⟨l, xs⟩, rfl, ⟨ho, hl⟩, q⟩
  replace q : Q (stL (namesIn xs)) := q
  replace ho : okA xs = true := ho
  unfold b_names_in
  have okx := okA_mem ho
  have go : ∀ ρ : DEnv, compD (.n 1) (tAndT (tTru (tIsi isTup (tO 1))) (tAndT (tIsB (tBin gtD (tCl lenD (tCs (tO 1) tN)) (tK (.int 0)))) (tTru (tFn S sp_is_name (tCs (tBin ixD (tO 1) (tK (.int 0))) tN))))) (tBin ixD (tO 1) (tK (.int 0))) xs [ρ[0]?.join, none] fun ys => Q (.lst ys) := fun ρ => by
    refine compD_go' (fun d => (nmOf d).isSome) (fun d => .str ((nmOf d).getD "")) xs (fun d hd => ⟨_, rfl, fun Q q => ?_, fun hp Q q => ?_⟩) ?_
    · have hd := okx d hd
      simp [-D.ok, -okA]
      cases d with
      | tup ys =>
        cases ys with
        | nil => simpa [isTup, nmOf] using q
        | cons y ys =>
          have hy := okA_mem (xs := y :: ys) hd y (List.mem_cons_self ..)
          have g : decide ((0 : Int) < (ys.length : Int) + 1) = true := decide_eq_true (by omega)
          simp [isTup, g, -D.ok, -okA]
          refine ⟨y, rfl, hy, ?_⟩
          cases y with
          | str s => cases h : nameS s <;> simpa [nmOf, isNameB, h] using q
          | _ => simpa [nmOf, isNameB] using q
      | _ => first | (simp at hd; done) | simpa [isTup, nmOf] using q
    · cases d with
      | tup ys =>
        cases ys with
        | nil => cases hp
        | cons y ys =>
          cases y with
          | str s =>
            cases h : nameS s
            · simp [nmOf, h] at hp
            · simpa [nmOf, h] using q
          | _ => cases hp
      | _ => cases hp
    · rw [namesIn_eq]; exact q
  cases l
  · simpa [wipeD] using go [some (.p (.tup xs))]
  · simpa [wipeD] using go [some (.p (.lst xs))]
theorem pure_is_page : ∀ S ds Q E, sp_is_page S ds Q E → b_is_page S { nx := fun _ => Q .non, rt := ptR Q, ex := fun x _ => E x } (start0 ["value", "sorts", "listeners", "boxes", "on", "names", "kinds", "places", "row"] ds) := by
  rintro S _ Q E ⟨d, rfl, ⟨ho, hn⟩, q⟩
  replace q : Q (.bl (isPageB d)) := q
  unfold b_is_page
  cases d with
  | tup xs =>
    have okx := okA_mem (xs := xs) ho
    by_cases h4 : xs.length = 4
    · match xs, h4 with
      | [ss, ls, bs, on], _ =>
        have hs := okx ss (by simp)
        have hl := okx ls (by simp)
        have hb := okx bs (by simp)
        have ho4 := okx on (by simp)
        have nx := (narA_iff _).mp (by simp only [D.nar, Bool.and_eq_true] at hn; exact hn.2)
        have ns := nx ss (by simp)
        have nl := nx ls (by simp)
        have nb := nx bs (by simp)
        have no := nx on (by simp)
        refine seq_intro fun K1 hK1 => ?_
        simp [isTup, -D.ok, -okA]
        refine ⟨bs, rfl, hb, ?_⟩
        cases bs with
        | tup bs =>
          cases h1 : isBoxesB (.tup bs)
          · have : isPageB (.tup [ss, ls, .tup bs, on]) = false := by
              cases ss <;> cases ls <;> first | rfl | simp [isPageB, h1]
            simpa [this] using q
          simp only [truD, Bool.not_true]
          refine hK1 _ ?_
          refine seq_intro fun K2 hK2 => ?_
          simp [-D.ok, -okA]
          refine hK2 _ ?_
          refine seq_intro fun K3 hK3 => ?_
          cases ss with
          | tup ss =>
            have oks := okA_mem (xs := ss) hs
            have e1 : decide ((1 : Int) ≤ (ss.length : Int)) = decide (1 ≤ ss.length) := ld_le ss.length 1
            have e2 : decide ((ss.length : Int) ≤ 3) = decide (ss.length ≤ 3) := decide_eq_decide.mpr (by omega)
            simp [isTup, c_MOST_SORTS, e1, e2, -D.ok, -okA]
            have out : ∀ {b : Bool}, (decide (1 ≤ ss.length) && (decide (ss.length ≤ 3) && ss.all isSortB)) = false → b = false → Q (.bl b) := fun h e => by
              have : isPageB (.tup [.tup ss, ls, .tup bs, on]) = false := by
                cases ls <;> first | rfl | simp only [isPageB, h, h1, Bool.false_and, Bool.and_false, Bool.true_and]
              rw [this] at q; rw [e]; exact q
            cases h2 : decide (1 ≤ ss.length)
            · exact out (by rw [h2]; rfl) rfl
            cases h3 : decide (ss.length ≤ 3)
            · exact out (by rw [h2, h3]; rfl) rfl
            simp only [Bool.not_true]
            refine compD_map' (fun d => .bl (isSortB d)) _ (fun d hd => ⟨_, rfl, fun Q q => ?_⟩) ?_
            · simp [wipeD]
              exact ⟨d, rfl, oks d hd, q⟩
            rw [blsOf_maps]
            simp only [List.all_map]
            cases h5 : ss.all (id ∘ isSortB)
            · exact out (by rw [h2, h3, show ss.all isSortB = false from h5]; rfl) rfl
            simp only [Bool.not_true]
            refine hK3 _ ?_
            refine seq_intro fun K4 hK4 => ?_
            have g1 : (decide (1 ≤ ss.length) && (decide (ss.length ≤ 3) && ss.all isSortB)) = true := by rw [h2, h3, show ss.all isSortB = true from h5]; rfl
            cases ls with
            | tup ls =>
              have okl := okA_mem (xs := ls) hl
              have e3 : decide ((12 : Int) < (ls.length : Int)) = !decide (ls.length ≤ 12) := ld_lt ls.length 12
              simp [isTup, c_MOST_LISTENERS, e3, -D.ok, -okA]
              have ep : isPageB (.tup [.tup ss, .tup ls, .tup bs, on]) = (decide (ls.length ≤ 12) && (ls.all (isListenerB (namesIn ls) (namesIn ss) (namesIn bs)) && (rising (namesIn ls) && (rising (namesIn ss) && isOnB (namesIn ls) on)))) := by
                simp only [isPageB, h1, g1, Bool.true_and]
              rw [ep] at q
              cases h6 : decide (ls.length ≤ 12)
              · simpa [h6] using q
              simp only [h6, Bool.not_true, Bool.true_and] at q ⊢
              refine hK4 _ ?_
              refine seq_intro fun K5 hK5 => ?_
              simp [-D.ok, -okA]
              have len50 : ∀ {xs : List D}, (D.tup xs).nar = true → xs.length ≤ 50 := fun h => by simp only [D.nar, Bool.and_eq_true, decide_eq_true_eq] at h; exact h.1
              have okn : ∀ {xs : List D}, (D.tup xs).ok = true → okS (namesIn xs) := fun {xs} h => by
                refine (okA_strs _).mpr fun s hs => ?_
                obtain ⟨d, hd, e⟩ := List.mem_filterMap.mp hs
                have := okA_mem (xs := xs) h d hd
                cases d with
                | tup ys =>
                  cases ys with
                  | nil => cases e
                  | cons y ys =>
                    cases y with
                    | str z =>
                      simp only [nmOf] at e
                      split at e
                      · cases e; exact okA_mem (xs := D.str s :: ys) this _ (List.mem_cons_self ..)
                      · cases e
                    | _ => cases e
                | _ => cases e
              refine ⟨⟨false, ls⟩, rfl, ⟨hl, len50 nl⟩, ⟨false, ss⟩, rfl, ⟨hs, len50 ns⟩, ⟨false, bs⟩, rfl, ⟨hb, len50 nb⟩, ?_⟩
              refine ⟨by decide, hK5 _ ?_⟩
              refine seq_intro fun K6 hK6 => ?_
              have o1 := okn hl
              have o2 := okn hs
              have o3 := okn hb
              simp [-D.ok, -okA]
              refine compD_map' (fun d => .bl (isListenerB (namesIn ls) (namesIn ss) (namesIn bs) d)) _ (fun d hd => ⟨_, rfl, fun Q q => ?_⟩) ?_
              · simp [wipeD]
                have nld := (narA_iff ls).mp (by simp only [D.nar, Bool.and_eq_true] at nl; exact nl.2) d hd
                exact ⟨⟨d, _, _, _⟩, rfl, ⟨okl d hd, nld, o1, o2, o3⟩, q⟩
              rw [blsOf_maps]
              simp only [List.all_map]
              cases h7 : ls.all (id ∘ isListenerB (namesIn ls) (namesIn ss) (namesIn bs))
              · rw [show ls.all (isListenerB (namesIn ls) (namesIn ss) (namesIn bs)) = false from h7] at q
                simpa using q
              rw [show ls.all (isListenerB (namesIn ls) (namesIn ss) (namesIn bs)) = true from h7] at q
              simp only [Bool.not_true, Bool.true_and] at q ⊢
              refine hK6 _ ?_
              have hnl : ∀ xs : List D, (namesIn xs).length ≤ xs.length := fun xs => List.length_filterMap_le ..
              have l1 := hnl ls; have l2 := hnl ss; have l3 := len50 nl; have l4 := len50 ns
              have hsz : sizeLine = 16777216 := rfl
              simp [-D.ok, -okA]
              refine ⟨namesIn ls, true, rfl, by omega, ?_⟩
              cases h8 : rising (namesIn ls)
              · simpa [h8] using q
              simp only [h8, Bool.true_and] at q
              refine ⟨namesIn ss, true, rfl, by omega, ?_⟩
              cases h9 : rising (namesIn ss)
              · simpa [h9] using q
              simp only [h9, Bool.true_and] at q
              exact ⟨⟨on, namesIn ls⟩, rfl, ⟨ho4, no, o1⟩, q⟩
            | _ => first | (simp at hl; done) | simpa [isTup, isPageB] using q
          | _ => first | (simp at hs; done) | simpa [isTup, isPageB] using q
        | _ => first | (simp at hb; done) | simpa [isBoxesB, isPageB] using q
    · have e : isPageB (.tup xs) = false := by
        unfold isPageB
        split
        · rename_i h
          cases h
          exact absurd rfl h4
        · rfl
      rw [e] at q
      have h5 : ((xs.length : Int) == 4) = false := by simp; omega
      simp [isTup, h5, q]
  | _ => first | (simp at ho; done) | simpa [isTup, isPageB] using q
end DL.TB

set_option Elab.async false
set_option linter.all false
set_option maxRecDepth 100000
set_option maxHeartbeats 1000000
/-! routes, plain -/
namespace DL.TB
open PySem PySem.Spec PyProof.Rows L2
/-! ranks: the next box on the way stands lower -/
inductive Rk (rows : List Row) : Str → Nat → Nat → Prop where
  | top {n m ro : Str} : find rows n = some (m, none, ro) → Rk rows n 0 0
  | step {n m u ro : Str} {d v : Nat} : find rows n = some (m, some u, ro) → Rk rows u d v → Rk rows n (d + 1) (v + (if (ro == ("door" : Str)) = true then 1 else 2) * 3 ^ (8 - d))
theorem Rk.uniq {rows : List Row} {n : Str} {d v : Nat} (h : Rk rows n d v) : ∀ {d' v' : Nat}, Rk rows n d' v' → d = d' ∧ v = v' := by
  induction h with
  | top h =>
    intro d' v' h'
    cases h' with
    | top _ => exact ⟨rfl, rfl⟩
    | step h2 _ => rw [h] at h2; cases h2
  | step h hr ih =>
    intro d' v' h'
    cases h' with
    | top h2 => rw [h] at h2; cases h2
    | step h2 hr2 =>
      rw [h] at h2
      cases h2
      obtain ⟨rfl, rfl⟩ := ih hr2
      exact ⟨rfl, rfl⟩
theorem Rk.ex {rows : List Row} (nd : (names rows).Nodup) (ht : isTree rows = true) : ∀ (k : Nat) {n : Str}, n ∈ names rows → climb rows k n = (tops rows).headD "" → ∃ d v, d ≤ k ∧ Rk rows n d v
  | 0, n, hn, hc => by
    obtain ⟨r, hf, hr⟩ := top_find nd ht
    rw [← hc] at hf
    have hf : find rows n = some r := hf
    obtain ⟨a, u, c⟩ := r
    cases hr
    exact ⟨0, 0, Nat.le_refl _, .top hf⟩
  | k + 1, n, hn, hc => by
    obtain ⟨r, hf, hu, hcase⟩ := climb_in (tree_parts ht).2.2.1 hn
    obtain ⟨a, u, c⟩ := r
    rcases hcase with ⟨e, _⟩ | e
    · cases e
      exact ⟨0, 0, Nat.zero_le _, .top hf⟩
    · obtain ⟨d, v, hd, hr⟩ := Rk.ex nd ht k hu hc
      cases e
      exact ⟨d + 1, _, by omega, .step hf hr⟩
theorem GoodRows.nd {rows : List Row} (g : GoodRows rows) : (names rows).Nodup := rising_nodup g.ris
theorem GoodRows.rok {rows : List Row} (g : GoodRows rows) : RowsOk rows := ⟨by have := g.len; omega, g.nd, g.ok⟩
theorem GoodRows.rk {rows : List Row} (g : GoodRows rows) {n : Str} (hn : n ∈ names rows) : ∃ d v, d ≤ 8 ∧ Rk rows n d v := by
  obtain ⟨d, v, h1, h2⟩ := Rk.ex g.nd g.tree rows.length hn ((tree_parts g.tree).2.2.2 n hn)
  exact ⟨d, v, by have := g.len; omega, h2⟩
theorem pow_step {d : Nat} (h : d < 9) : 3 ^ (9 - d) = 3 * 3 ^ (8 - d) := by
  have e : 9 - d = (8 - d) + 1 := by omega
  rw [e, Nat.pow_succ, Nat.mul_comm]
theorem Rk.bound {rows : List Row} {n : Str} {d v : Nat} (h : Rk rows n d v) : d ≤ 8 → v + 3 ^ (9 - d) ≤ 3 ^ 9 := by
  induction h with
  | top _ => intro _; exact Nat.le_of_eq (Nat.zero_add _)
  | @step n m u ro d v hf hr ih =>
    intro hd
    have ih := ih (by omega)
    rw [pow_step (by omega)] at ih
    have e : 9 - (d + 1) = 8 - d := by omega
    rw [e]
    have : (if (ro == ("door" : Str)) = true then 1 else 2) * 3 ^ (8 - d) ≤ 2 * 3 ^ (8 - d) := Nat.mul_le_mul_right _ (by split <;> omega)
    omega
/-- below a door -/
theorem Rk.under {rows : List Row} {e w : Nat} {dd : Str} (hd : Rk rows dd e w) : ∀ (k : Nat) {s : Str} {e' v' : Nat}, doorF rows k (some s) = some (some dd) → Rk rows s e' v' → e' ≤ 8 → e ≤ e' ∧ w ≤ v' ∧ v' + 3 ^ (9 - e') ≤ w + 3 ^ (9 - e)
  | 0, s, e', v', h, _, _ => by simp [doorF] at h
  | k + 1, s, e', v', h, hs, h8 => by
    rw [doorF] at h
    cases hf : find rows s with
    | none => rw [hf] at h; cases h
    | some r =>
      rw [hf] at h
      simp only at h
      split at h
      · cases h
        obtain ⟨rfl, rfl⟩ := hd.uniq hs
        exact ⟨Nat.le_refl _, Nat.le_refl _, Nat.le_refl _⟩
      · cases hs with
        | top h2 =>
          rw [hf] at h2
          cases h2
          cases k <;> simp [doorF] at h
        | @step _ m u ro d v h2 hr =>
          rw [hf] at h2
          cases h2
          obtain ⟨i1, i2, i3⟩ := Rk.under hd k h hr (by omega)
          rw [pow_step (d := d) (by omega)] at i3
          have e9 : 9 - (d + 1) = 8 - d := by omega
          rw [e9]
          have : (if (ro == ("door" : Str)) = true then 1 else 2) * 3 ^ (8 - d) ≤ 2 * 3 ^ (8 - d) := Nat.mul_le_mul_right _ (by split <;> omega)
          exact ⟨by omega, by omega, by omega⟩
def underOf (rows : List Row) (n : Str) : Option Str := (find rows n).bind (·.2.1)
def roleOf (rows : List Row) (n : Str) : Str := ((find rows n).map (·.2.2)).getD ""
def isSlotOf (rows : List Row) (h : Str) (r : Row) : Bool := r.2.2 == ("slot" : Str) && (match houseOf rows r.1 with | some d => underOf rows d == some h | none => false)
def slotF (rows : List Row) (h : Str) : Option Str := (rows.find? (isSlotOf rows h)).map (·.1)
def nextF (rows : List Row) (n : Str) : Option Str := match find rows n with
  | some r => (match r.2.1 with
    | none => none
    | some u => if (r.2.2 == ("door" : Str)) = true then some u else (match slotF rows u with | some s => some s | none => some u))
  | none => none
theorem doorF_role {rows : List Row} : ∀ {k : Nat} {b : Option Str} {x : Str}, doorF rows k b = some (some x) → ∃ m u, find rows x = some ((m, u, "door") : Row)
  | k, none, x, h => by cases k <;> simp [doorF] at h
  | 0, some n, x, h => by simp [doorF] at h
  | k + 1, some n, x, h => by
    rw [doorF] at h
    cases hf : find rows n with
    | none => rw [hf] at h; cases h
    | some r =>
      rw [hf] at h
      simp only at h
      split at h
      · rename_i hd
        obtain rfl : n = x := by simpa using h
        obtain ⟨m, u, c⟩ := r
        have : c = "door" := by simpa using hd
        subst this
        exact ⟨m, u, hf⟩
      · exact doorF_role h
theorem GoodRows.next {rows : List Row} (g : GoodRows rows) {n m : Str} {d v : Nat} (hn : n ∈ names rows) (h : nextF rows n = some m) (hr : Rk rows n d v) (h8 : d ≤ 8) : m ∈ names rows ∧ ∃ d' v', d' ≤ 8 ∧ Rk rows m d' v' ∧ v' < v := by
  unfold nextF at h
  cases hr with
  | top hf => rw [hf] at h; cases h
  | @step _ a u ro du vu hf hu =>
    rw [hf] at h
    simp only at h
    have hum : u ∈ names rows := by
      have := (tree_parts g.tree).2.2.1
      have := List.all_eq_true.mp this _ (List.mem_of_find?_eq_some hf)
      simpa using this
    have p1 : 0 < 3 ^ (8 - du) := Nat.pow_pos (by omega)
    have up : ∃ d' v', d' ≤ 8 ∧ Rk rows u d' v' ∧ v' < vu + (if (ro == ("door" : Str)) = true then 1 else 2) * 3 ^ (8 - du) := by
      refine ⟨du, vu, by omega, hu, ?_⟩
      have : 1 * 3 ^ (8 - du) ≤ (if (ro == ("door" : Str)) = true then 1 else 2) * 3 ^ (8 - du) := Nat.mul_le_mul_right _ (by split <;> omega)
      omega
    split at h
    · cases h; exact ⟨hum, up⟩
    · rename_i hro
      cases hsl : slotF rows u with
      | none => rw [hsl] at h; cases h; exact ⟨hum, up⟩
      | some s =>
        rw [hsl] at h
        cases h
        unfold slotF at hsl
        obtain ⟨r, hr, e⟩ := Option.map_eq_some_iff.mp hsl
        have hrm := List.mem_of_find?_eq_some hr
        have hp := List.find?_some hr
        unfold isSlotOf at hp
        rw [Bool.and_eq_true] at hp
        have hsm : r.1 ∈ names rows := List.mem_map.mpr ⟨r, hrm, rfl⟩
        subst e
        refine ⟨hsm, ?_⟩
        cases hh : houseOf rows r.1 with
        | none => rw [hh] at hp; cases hp.2
        | some dd =>
          rw [hh] at hp
          have hud : underOf rows dd = some u := by simpa using hp.2
          have hdoor := houseOf_eq g.nd g.tree hsm
          rw [hh] at hdoor
          obtain ⟨m2, u2, hfd⟩ := doorF_role hdoor
          unfold underOf at hud
          rw [hfd] at hud
          have : u2 = some u := hud
          subst this
          have rd : Rk rows dd (du + 1) (vu + 1 * 3 ^ (8 - du)) := by
            have := Rk.step hfd hu
            simpa using this
          obtain ⟨es, vs, he8, hrs⟩ := g.rk hsm
          obtain ⟨i1, i2, i3⟩ := Rk.under rd _ hdoor hrs he8
          have e9 : 9 - (du + 1) = 8 - du := by omega
          rw [e9] at i3
          have p2 : 0 < 3 ^ (9 - es) := Nat.pow_pos (by omega)
          have hro' : (ro == ("door" : Str)) = false := by simpa using hro
          rw [hro']
          refine ⟨es, vs, he8, hrs, ?_⟩
          simp only [Bool.false_eq_true, if_false]
          omega
def maxRk : Nat := 3 ^ 9
def routeF (rows : List Row) (last : Option Str) : Nat → Option Str → List Str
  | _, none => []
  | 0, some _ => []
  | k + 1, some n => n :: routeF rows last k (if some n = last then none else nextF rows n)
def doorsF (rows : List Row) : Nat → Option Str → List Str
  | _, none => []
  | 0, some _ => []
  | k + 1, some d => d :: doorsF rows k (match underOf rows d with | some u => houseOf rows u | none => none)
def seenF (rows : List Row) (ds : List Str) : Nat → Str → Str
  | 0, n => n
  | k + 1, n => match houseOf rows n with
    | some d => if d ∈ ds then n else (match underOf rows d with | some u => seenF rows ds k u | none => n)
    | none => n
def routeOf (rows : List Row) (far : Bool) (t : Str) : List Str := routeF rows (if far = true then none else houseOf rows t) (maxRk + 1) (some t)
def doorsOf (rows : List Row) (b : Str) : List Str := doorsF rows (maxRk + 1) (houseOf rows b)
def seenOf (rows : List Row) (b t : Str) : Str := seenF rows (doorsOf rows b) (maxRk + 1) t
theorem GoodRows.under {rows : List Row} (g : GoodRows rows) {n u : Str} (h : underOf rows n = some u) : u ∈ names rows := by
  unfold underOf at h
  obtain ⟨r, hr, e⟩ := Option.bind_eq_some_iff.mp h
  have := (tree_parts g.tree).2.2.1
  have := List.all_eq_true.mp this _ (List.mem_of_find?_eq_some hr)
  rw [e] at this
  simpa using this
/-- out of the house -/
theorem GoodRows.out {rows : List Row} (g : GoodRows rows) {n d : Str} (hn : n ∈ names rows) (h : houseOf rows n = some d) : d ∈ names rows ∧ ∃ u, underOf rows d = some u ∧ u ∈ names rows ∧ ∀ {e v : Nat}, Rk rows n e v → e ≤ 8 → ∃ e' v', e' ≤ 8 ∧ Rk rows u e' v' ∧ v' < v := by
  have hdoor := houseOf_eq g.nd g.tree hn
  rw [h] at hdoor
  have hdm := doorF_mem hdoor
  refine ⟨hdm, ?_⟩
  obtain ⟨m2, u2, hfd⟩ := doorF_role hdoor
  cases u2 with
  | none =>
    have := tree_none g.tree _ (List.mem_of_find?_eq_some hfd) rfl
    exact absurd (show ("door" : Str) = "plain" from this) (by decide +kernel)
  | some u =>
    have hu : underOf rows d = some u := by unfold underOf; rw [hfd]; rfl
    have hum := g.under hu
    refine ⟨u, hu, hum, fun {e v} hr h8 => ?_⟩
    obtain ⟨eu, vu, hu8, hru⟩ := g.rk hum
    have rd : Rk rows d (eu + 1) (vu + 1 * 3 ^ (8 - eu)) := by
      have := Rk.step hfd hru
      simpa using this
    obtain ⟨i1, i2, i3⟩ := Rk.under rd _ hdoor hr h8
    have p1 : 0 < 3 ^ (8 - eu) := Nat.pow_pos (by omega)
    exact ⟨eu, vu, hu8, hru, by omega⟩
/-- a rank below k -/
def Low (rows : List Row) (k : Nat) (n : Str) : Prop := n ∈ names rows ∧ ∃ e v, e ≤ 8 ∧ Rk rows n e v ∧ v < k
theorem GoodRows.low {rows : List Row} (g : GoodRows rows) {n : Str} (hn : n ∈ names rows) : Low rows (maxRk + 1) n := by
  obtain ⟨e, v, h8, hr⟩ := g.rk hn
  have := hr.bound h8
  have p : 0 < 3 ^ (9 - e) := Nat.pow_pos (by omega)
  exact ⟨hn, e, v, h8, hr, by unfold maxRk; omega⟩
theorem lk_unders_of {rows : List Row} {n : Str} {r : Row} (h : find rows n = some r) : lk (undersK rows) (.inr n) = some (oD r.2.1) := by rw [lk_unders, h]; rfl
theorem lk_roles_of {rows : List Row} {n : Str} {r : Row} (h : find rows n = some r) : lk (rolesK rows) (.inr n) = some (.str r.2.2) := by rw [lk_roles, h]; rfl
theorem find_ok {rows : List Row} (g : GoodRows rows) {n : Str} {r : Row} (h : find rows n = some r) : (D.str r.1).ok = true ∧ (oD r.2.1).ok = true ∧ (D.str r.2.2).ok = true := g.ok r (List.mem_of_find?_eq_some h)
theorem door_abv {rows : List Row} (g : GoodRows rows) {S : List Addr} {n : Str} (hn : n ∈ names rows) {Q : D → Prop} {E : Exn → Prop} (q : Q (oD (houseOf rows n))) : sp_door_above S [.dct (undersK rows), .dct (rolesK rows), .str n] Q E :=
  ⟨rows, some n, _, _, rfl, g.rok, houseOf_eq g.nd g.tree hn, q⟩
@[simp] theorem oD_s (x : Str) : oD (some x) = .str x := rfl
@[simp] theorem oD_n : oD none = .non := rfl
def sp_slot_of_host : Spec := spO (fun x : List Row × Str => [.dct (undersK x.1), .dct (rolesK x.1), .str x.2]) (fun _ x => GoodRows x.1 ∧ (D.str x.2).ok = true) fun x => oD (slotF x.1 x.2)
theorem ms_slot_of_host : MonoS sp_slot_of_host := spO.mono
theorem len_slot_of_host : ∀ S ds Q E, sp_slot_of_host S ds Q E → ds.length = 3 := spO.len fun _ => rfl
def sp_next_of : Spec := spO (fun x : List Row × Str => [.dct (undersK x.1), .dct (rolesK x.1), .str x.2]) (fun _ x => GoodRows x.1 ∧ x.2 ∈ names x.1) fun x => oD (nextF x.1 x.2)
theorem ms_next_of : MonoS sp_next_of := spO.mono
theorem len_next_of : ∀ S ds Q E, sp_next_of S ds Q E → ds.length = 3 := spO.len fun _ => rfl
def sp_route_of : Spec := spO (fun x : List Row × Bool × Str => [boxesD x.1, .bl x.2.1, .str x.2.2]) (fun _ x => GoodRows x.1 ∧ x.2.2 ∈ names x.1) fun x => stL (routeOf x.1 x.2.1 x.2.2)
theorem ms_route_of : MonoS sp_route_of := spO.mono
theorem len_route_of : ∀ S ds Q E, sp_route_of S ds Q E → ds.length = 3 := spO.len fun _ => rfl
def sp_seen_of : Spec := spO (fun x : List Row × Str × Str => [boxesD x.1, .str x.2.1, .str x.2.2]) (fun _ x => GoodRows x.1 ∧ x.2.1 ∈ names x.1 ∧ x.2.2 ∈ names x.1) fun x => .str (seenOf x.1 x.2.1 x.2.2)
theorem ms_seen_of : MonoS sp_seen_of := spO.mono
theorem len_seen_of : ∀ S ds Q E, sp_seen_of S ds Q E → ds.length = 3 := spO.len fun _ => rfl
def b_slot_of_host_1 (S : List Addr) : TSd := (sIf (tAndT (tIsB (tBin eqD (tBin ixD (tO 1) (tV 3)) (tK (.str "slot")))) (tIsB (tBin eqD (tBin ixD (tO 0) (tFn S sp_door_above (tCs (tV 0) (tCs (tV 1) (tCs (tV 3) tN))))) (tO 2))))
  (sRet (tV 3))
  sNext)
def b_slot_of_host (S : List Addr) : TSd := (sSeq (sForK 0 (.n 3)
  (b_slot_of_host_1 S))
  (sRet (tK .non)))

def b_next_of (S : List Addr) : TSd := (sSeq (sAsg (tBin ixD (tO 0) (tV 2)) (.n 3))
  (sSeq (sIf (tOrT (tIsB (tBin isND (tO 3) (tK .non))) (tIsB (tBin eqD (tBin ixD (tO 1) (tV 2)) (tK (.str "door")))))
  (sRet (tV 3))
  sNext)
  (sSeq (sAsg (tFn S sp_slot_of_host (tCs (tV 0) (tCs (tV 1) (tCs (tV 3) tN)))) (.n 4))
  (sRet (tIte (tIsB (tBin isND (tO 4) (tK .non))) (tV 3) (tV 4))))))

def b_route_of_1 (S : List Addr) : TSd := (sSeq (sMeth 4 mApp (tCs (tV 5) tN))
  (sAsg (tIte (tIsB (tBin eqD (tO 5) (tO 3))) (tK .non) (tFn S sp_next_of (tCs (tV 6) (tCs (tV 7) (tCs (tV 5) tN))))) (.n 5)))
def b_route_of (S : List Addr) : TSd := (sSeq (sPar 6 7 (tCs (tFn S sp_unders_of (tCs (tV 0) tN)) (tCs (tFn S sp_roles_of (tCs (tV 0) tN)) tN)))
  (sSeq (sAsg (tIte (tTru (tO 1)) (tK .non) (tFn S sp_door_above (tCs (tV 6) (tCs (tV 7) (tCs (tV 2) tN))))) (.n 3))
  (sSeq (sOwn (tLstD tN) 4)
  (sSeq (sAsg (tV 2) (.n 5))
  (sSeq (sWhile (tIsB (tBin notND (tO 5) (tK .non)))
  (b_route_of_1 S))
  (sFrz 4 (sRet (tV 4))))))))

def b_seen_of_1 (S : List Addr) : TSd := (sSeq (sMeth 3 mApp (tCs (tV 4) tN))
  (sAsg (tFn S sp_door_above (tCs (tV 6) (tCs (tV 7) (tCs (tBin ixD (tO 6) (tV 4)) tN)))) (.n 4)))
def b_seen_of_2 (S : List Addr) : TSd := (sSeq (sAsg (tBin ixD (tO 6) (tV 4)) (.n 5))
  (sAsg (tFn S sp_door_above (tCs (tV 6) (tCs (tV 7) (tCs (tV 5) tN)))) (.n 4)))
def b_seen_of (S : List Addr) : TSd := (sSeq (sPar 6 7 (tCs (tFn S sp_unders_of (tCs (tV 0) tN)) (tCs (tFn S sp_roles_of (tCs (tV 0) tN)) tN)))
  (sSeq (sOwn (tLstD tN) 3)
  (sSeq (sAsg (tFn S sp_door_above (tCs (tV 6) (tCs (tV 7) (tCs (tV 1) tN)))) (.n 4))
  (sSeq (sWhile (tIsB (tBin notND (tO 4) (tK .non)))
  (b_seen_of_1 S))
  (sSeq (sAsg (tV 2) (.n 5))
  (sSeq (sAsg (tFn S sp_door_above (tCs (tV 6) (tCs (tV 7) (tCs (tV 5) tN)))) (.n 4))
  (sSeq (sWhile (tAndT (tIsB (tBin notND (tO 4) (tK .non))) (tIsB (tBin notInD (tO 4) (tO 3))))
  (b_seen_of_2 S))
  (sRet (tV 5)))))))))

theorem slot_door {rows : List Row} (g : GoodRows rows) {r : Row} (hr : r ∈ rows) (hs : (r.2.2 == ("slot" : Str)) = true) : ∃ d, houseOf rows r.1 = some d := by
  have h := g.houses
  unfold rightHouses at h
  simp only [Bool.and_eq_true, Bool.not_eq_true'] at h
  cases hh : houseOf rows r.1 with
  | some d => exact ⟨d, rfl⟩
  | none =>
    have : none ∈ doors rows := List.mem_map.mpr ⟨r, List.mem_filter.mpr ⟨hr, hs⟩, hh⟩
    rw [List.contains_iff_mem.mpr this] at h
    exact absurd h.2.1 (by simp)
theorem pure_slot_of_host : ∀ S ds Q E, sp_slot_of_host S ds Q E → b_slot_of_host S { nx := fun _ => Q .non, rt := ptR Q, ex := fun x _ => E x } (start0 ["unders", "roles", "host", "name"] ds) := by
  rintro S _ Q E ⟨⟨rows, h⟩, rfl, ⟨g, hok⟩, q⟩
  replace q : Q (oD (slotF rows h)) := q
  replace g : GoodRows rows := g
  replace hok : (D.str h).ok = true := hok
  unfold b_slot_of_host
  have cs : (D.str "slot").ok = true := by decide +kernel
  simp [-D.ok, -okA, keys_unders]
  refine forD_rule (fun ds ρ => ∃ (rs : List Row) (x3 : Option Sl), ds = rs.map (fun r => D.str r.1) ∧ ρ = [some (.p (.dct (undersK rows))), some (.p (.dct (rolesK rows))), some (.p (.str h)), x3] ∧ (∀ r ∈ rs, r ∈ rows) ∧ slotF rows h = (rs.find? (isSlotOf rows h)).map (·.1)) (fun d rest ρ hI => ?_) (fun ρ hI => ?_) _ _
    ⟨rows, none, rfl, rfl, fun _ h => h, rfl⟩
  · obtain ⟨rs, x3, e, rfl, hin, hE⟩ := hI
    cases rs with
    | nil => cases e
    | cons r rs =>
      cases e
      refine ⟨_, rfl, fun N hN => ?_⟩
      have hr := hin r (List.mem_cons_self ..)
      have hf := find_self g.nd hr
      have ok3 := (g.ok r hr).2.2
      unfold b_slot_of_host_1
      simp [-D.ok, -okA, lk_roles_of hf, ok3, cs]
      have skip : isSlotOf rows h r = false → ∀ x3, N [some (.p (.dct (undersK rows))), some (.p (.dct (rolesK rows))), some (.p (.str h)), x3] := fun hf x3 => hN _ ⟨rs, x3, rfl, rfl, fun r hr => hin r (List.mem_cons_of_mem _ hr), by rw [hE, List.find?_cons, hf]⟩
      cases hs : r.2.2 == ("slot" : Str)
      · exact skip (by unfold isSlotOf; rw [hs]; rfl) _
      · obtain ⟨dd, hdd⟩ := slot_door g hr hs
        have hrm : r.1 ∈ names rows := List.mem_map.mpr ⟨r, hr, rfl⟩
        simp only
        refine door_abv g (S := S) hrm ?_
        rw [hdd]
        obtain ⟨hdm, u, hu, hum, _⟩ := g.out hrm hdd
        obtain ⟨rd, hrd⟩ := find_of hdm
        have ru : rd.2.1 = some u := by unfold underOf at hu; rw [hrd] at hu; exact hu
        have oku := names_ok g.rok u hum
        simp [-D.ok, -okA, lk_unders_of hrd, ru, oku, hok]
        cases hc : u == h
        · exact skip (by unfold isSlotOf; rw [hs, hdd]; simp only [hu]; simpa using hc) _
        · have : isSlotOf rows h r = true := by unfold isSlotOf; rw [hs, hdd]; simp only [hu]; simpa using hc
          rw [hE, List.find?_cons, this] at q
          exact q
  · obtain ⟨rs, x3, e, rfl, hin, hE⟩ := hI
    cases rs with
    | cons => cases e
    | nil =>
      rw [hE] at q
      simpa using q
theorem pure_next_of : ∀ S ds Q E, sp_next_of S ds Q E → b_next_of S { nx := fun _ => Q .non, rt := ptR Q, ex := fun x _ => E x } (start0 ["unders", "roles", "box", "under", "slot"] ds) := by
  rintro S _ Q E ⟨⟨rows, n⟩, rfl, ⟨g, hn⟩, q⟩
  replace q : Q (oD (nextF rows n)) := q
  replace g : GoodRows rows := g
  replace hn : n ∈ names rows := hn
  unfold b_next_of
  obtain ⟨r, hf⟩ := find_of hn
  have ok := find_ok g hf
  have cs : (D.str "door").ok = true := by decide +kernel
  unfold nextF at q
  rw [hf] at q
  simp only at q
  simp [-D.ok, -okA, lk_unders_of hf, lk_roles_of hf, ok, cs]
  cases hu : r.2.1 with
  | none =>
    rw [hu] at q
    simpa using q
  | some u =>
    rw [hu] at q
    simp only at q
    simp only [oD, isN_str]
    cases hd : r.2.2 == ("door" : Str)
    · rw [if_neg (by rw [hd]; decide)] at q
      simp only
      refine ⟨⟨rows, u⟩, rfl, ⟨g, by have := ok.2.1; rw [hu] at this; exact this⟩, ?_⟩
      cases hsl : slotF rows u with
      | none => rw [hsl] at q; simpa [hsl] using q
      | some s => rw [hsl] at q; simpa [hsl] using q
    · rw [if_pos hd] at q
      simpa using q
theorem pure_route_of : ∀ S ds Q E, sp_route_of S ds Q E → b_route_of S { nx := fun _ => Q .non, rt := ptR Q, ex := fun x _ => E x } (start0 ["boxes", "far", "target", "last", "found", "here", "unders", "roles"] ds) := by
  rintro S _ Q E ⟨⟨rows, far, t⟩, rfl, ⟨g, ht⟩, q⟩
  replace q : Q (stL (routeOf rows far t)) := q
  replace g : GoodRows rows := g
  replace ht : t ∈ names rows := ht
  unfold b_route_of
  have hs : sizeLine = 16777216 := rfl
  refine seq_intro fun K1 hK1 => ?_
  simp [-D.ok, -okA]
  refine ⟨rows, rfl, g.rok, rows, rfl, g.rok, hK1 _ ?_⟩
  refine seq_intro fun K2 hK2 => ?_
  have rest : ∀ last : Option Str, (∀ x, last = some x → x ∈ names rows) → last = (if far = true then none else houseOf rows t) → K2 [some (.p (boxesD rows)), some (.p (.bl far)), some (.p (.str t)), some (.p (oD last)), none, none, some (.p (.dct (undersK rows))), some (.p (.dct (rolesK rows)))] := fun last hlm hl => by
    refine hK2 _ ?_
    have q : Q (stL (routeF rows last (maxRk + 1) (some t))) := by rw [hl]; exact q
    simp [-D.ok, -okA, sWhile]
    refine ⟨maxRk + 1 + 1, whileD_rule (fun k ρ => ∃ (here : Option Str) (accD : List D) (acc : List Str), ρ = [some (.p (boxesD rows)), some (.p (.bl far)), some (.p (.str t)), some (.p (oD last)), some (.o (.lst accD)), some (.p (oD here)), some (.p (.dct (undersK rows))), some (.p (.dct (rolesK rows)))] ∧
      accD = acc.map D.str ∧ acc ++ routeF rows last k here = routeF rows last (maxRk + 1) (some t) ∧ (∀ n, here = some n → Low rows k n) ∧ accD.length + k ≤ maxRk + 1) (fun k ρ hI N hN => ?_) (maxRk + 1) _ ⟨some t, [], [], rfl, rfl, rfl, fun n hn => by cases hn; exact g.low ht, by simp⟩⟩
    obtain ⟨here, accD, acc, rfl, eA, hE, hlow, hlen⟩ := hI
    cases here with
    | none =>
      have e : routeF rows last k none = [] := by cases k <;> rfl
      rw [e, List.append_nil] at hE
      rw [← hE] at q
      simp [-D.ok, -okA]
      rw [eA]
      exact q
    | some n =>
      obtain ⟨hnm, e0, v0, h8, hrk, hv⟩ := hlow n rfl
      cases k with
      | zero => omega
      | succ k =>
        have okn := names_ok g.rok n hnm
        have okl : (oD last).ok = true := by
          cases last with
          | none => rfl
          | some x => exact names_ok g.rok x (hlm x rfl)
        unfold b_route_of_1
        simp [-D.ok, -okA, -D.eqv, mApp]
        refine ⟨by unfold maxRk at hlen; omega, ⟨okn, okl⟩, ?_⟩
        have hq : (D.str n).eqv (oD last) = decide (some n = last) := by
          cases last with
          | none => rfl
          | some x => show (n == x) = _; by_cases h : n = x <;> simp [h]
        rw [hq]
        rw [routeF] at hE
        cases hc : decide (some n = last)
        · have hc := of_decide_eq_false hc
          rw [if_neg hc] at hE
          refine ⟨⟨rows, n⟩, rfl, ⟨g, hnm⟩, ?_⟩
          refine hN k _ rfl ⟨nextF rows n, _, acc ++ [n], rfl, by rw [eA, List.map_append]; rfl, by rw [List.append_assoc]; exact hE, fun m hm => ?_, by simp; omega⟩
          obtain ⟨hmm, d', v', d8, hr', hlt⟩ := g.next hnm hm hrk h8
          exact ⟨hmm, d', v', d8, hr', by omega⟩
        · have hc := of_decide_eq_true hc
          rw [if_pos hc] at hE
          refine hN k _ rfl ⟨none, _, acc ++ [n], rfl, by rw [eA, List.map_append]; rfl, by rw [List.append_assoc]; exact hE, fun m hm => (nomatch hm), by simp; omega⟩
  simp [-D.ok, -okA]
  cases far
  · simp only
    refine door_abv g (S := S) ht ?_
    exact rest _ (fun x hx => houseOf_mem g.nd g.tree ht hx) (by simp)
  · exact rest none (fun x hx => nomatch hx) (by simp)
theorem pure_seen_of : ∀ S ds Q E, sp_seen_of S ds Q E → b_seen_of S { nx := fun _ => Q .non, rt := ptR Q, ex := fun x _ => E x } (start0 ["boxes", "box", "target", "doors", "door", "seen", "unders", "roles"] ds) := by
  rintro S _ Q E ⟨⟨rows, b, t⟩, rfl, ⟨g, hb, ht⟩, q⟩
  replace q : Q (.str (seenOf rows b t)) := q
  replace g : GoodRows rows := g
  replace hb : b ∈ names rows := hb
  replace ht : t ∈ names rows := ht
  unfold b_seen_of
  have hs : sizeLine = 16777216 := rfl
  refine seq_intro fun K1 hK1 => ?_
  simp [-D.ok, -okA]
  refine ⟨rows, rfl, g.rok, rows, rfl, g.rok, hK1 _ ?_⟩
  refine seq_intro fun K2 hK2 => ?_
  simp [-D.ok, -okA]
  refine hK2 _ ?_
  refine seq_intro fun K3 hK3 => ?_
  simp [-D.ok, -okA]
  refine door_abv g (S := S) hb ?_
  refine hK3 _ ?_
  refine seq_intro fun K4 hK4 => ?_
  simp only [sWhile]
  refine ⟨maxRk + 1 + 1, whileD_rule (fun k ρ => ∃ (door : Option Str) (accD : List D) (acc : List Str), ρ = [some (.p (boxesD rows)), some (.p (.str b)), some (.p (.str t)), some (.o (.lst accD)), some (.p (oD door)), none, some (.p (.dct (undersK rows))), some (.p (.dct (rolesK rows)))] ∧
      accD = acc.map D.str ∧ acc ++ doorsF rows k door = doorsOf rows b ∧ (∀ d, door = some d → ∃ n, houseOf rows n = some d ∧ Low rows k n) ∧ accD.length + k ≤ maxRk + 1 ∧ ∀ d ∈ acc, d ∈ names rows) (fun k ρ hI N hN => ?_) (maxRk + 1) _
      ⟨houseOf rows b, [], [], rfl, rfl, rfl, fun d hd => ⟨b, hd, g.low hb⟩, by simp, fun _ h => nomatch h⟩⟩
  obtain ⟨door, accD, acc, rfl, eA, hE, hlow, hlen, hacc⟩ := hI
  cases door with
  | some d =>
    obtain ⟨n, hnd, hnm, e0, v0, h8, hrk, hv⟩ := hlow d rfl
    cases k with
    | zero => omega
    | succ k =>
      obtain ⟨hdm, u, hu, hum, hlt⟩ := g.out hnm hnd
      obtain ⟨e', v', e8, hr', hlt⟩ := hlt hrk h8
      obtain ⟨rd, hrd⟩ := find_of hdm
      have ru : rd.2.1 = some u := by unfold underOf at hu; rw [hrd] at hu; exact hu
      unfold b_seen_of_1
      simp [-D.ok, -okA, mApp, lk_unders_of hrd, ru]
      refine ⟨by unfold maxRk at hlen; omega, door_abv g (S := S) hum ?_⟩
      rw [doorsF, hu] at hE
      refine hN k _ rfl ⟨houseOf rows u, _, acc ++ [d], rfl, by rw [eA, List.map_append]; rfl, by rw [List.append_assoc]; exact hE, fun x hx => ⟨u, hx, hum, e', v', e8, hr', by omega⟩, by simp; omega, fun x hx => by
        rcases List.mem_append.mp hx with z | z
        · exact hacc x z
        · rw [List.mem_singleton.mp z]; exact hdm⟩
  | none =>
    have e : doorsF rows k none = [] := by cases k <;> rfl
    rw [e, List.append_nil] at hE
    simp only [tIsB, tBin, tO, tK, notND, List.getElem?_cons_succ, List.getElem?_cons_zero, isB, oD, isN_non, Bool.not_true]
    refine hK4 _ ?_
    have okds : okA accD = true := by
      rw [eA]; exact (okA_strs _).mpr fun x hx => names_ok g.rok x (hacc x hx)
    clear hK1 hK2 hK3 hK4 hlow hN
    refine seq_intro fun K5 hK5 => ?_
    simp [-D.ok, -okA]
    refine hK5 _ ?_
    refine seq_intro fun K6 hK6 => ?_
    simp [-D.ok, -okA]
    refine door_abv g (S := S) ht ?_
    refine hK6 _ ?_
    refine seq_intro fun K7 hK7 => ?_
    simp only [sWhile]
    refine ⟨maxRk + 1 + 1, whileD_rule (fun k ρ => ∃ (n : Str), ρ = [some (.p (boxesD rows)), some (.p (.str b)), some (.p (.str t)), some (.o (.lst accD)), some (.p (oD (houseOf rows n))), some (.p (.str n)), some (.p (.dct (undersK rows))), some (.p (.dct (rolesK rows)))] ∧
        seenF rows acc k n = seenOf rows b t ∧ Low rows k n) (fun k ρ hI N hN => ?_) (maxRk + 1) _ ⟨t, rfl, by unfold seenOf; rw [hE], g.low ht⟩⟩
    obtain ⟨n, rfl, hE2, hnm, e0, v0, h8, hrk, hv⟩ := hI
    have fin : seenF rows acc k n = n → K7 [some (.p (boxesD rows)), some (.p (.str b)), some (.p (.str t)), some (.o (.lst accD)), some (.p (oD (houseOf rows n))), some (.p (.str n)), some (.p (.dct (undersK rows))), some (.p (.dct (rolesK rows)))] := fun h => by
      refine hK7 _ ?_
      rw [← hE2, h] at q
      simpa using q
    cases k with
    | zero => omega
    | succ k =>
      rw [seenF] at hE2 fin
      cases hh : houseOf rows n with
      | none =>
        rw [hh] at fin
        simp only [tAndT, tIsB, tBin, tO, tK, notND, List.getElem?_cons_succ, List.getElem?_cons_zero, isB, oD, isN_non, Bool.not_true]
        exact fin rfl
      | some d =>
        rw [hh] at fin hE2
        obtain ⟨hdm, u, hu, hum, hlt⟩ := g.out hnm hh
        obtain ⟨e', v', e8, hr', hlt⟩ := hlt hrk h8
        obtain ⟨rd, hrd⟩ := find_of hdm
        have ru : rd.2.1 = some u := by unfold underOf at hu; rw [hrd] at hu; exact hu
        have okd := names_ok g.rok d hdm
        have hin : D.isIn (.str d) (.lst accD) = some (acc.contains d) := by
          rw [eA]; exact in_lstS okd (by rw [eA] at okds; exact okds)
        simp only [tAndT, tIsB, tBin, tO, tK, notND, List.getElem?_cons_succ, List.getElem?_cons_zero, isB, oD, isN_str, Bool.not_false, notInD, cmpD, hin, Option.map_some]
        simp only [hu] at hE2 fin
        cases hc : acc.contains d
        · have hc' : ¬ d ∈ acc := fun z => by rw [List.contains_iff_mem.mpr z] at hc; cases hc
          rw [if_neg hc'] at hE2
          unfold b_seen_of_2
          simp [-D.ok, -okA, lk_unders_of hrd, ru]
          refine door_abv g (S := S) hum ?_
          exact hN k _ rfl ⟨u, rfl, hE2, hum, e', v', e8, hr', by omega⟩
        · simp only [Bool.not_true]
          exact fin (if_pos (List.contains_iff_mem.mp hc))
end DL.TB

set_option Elab.async false
set_option linter.all false
set_option maxRecDepth 100000
set_option maxHeartbeats 1000000
/-! the calls on boxes, plain -/
namespace DL.TB
open PySem PySem.Spec PyProof.Rows L2
theorem isBl_eq {d : D} (h : d.isBl = true) : ∃ b, d = .bl b := by
  cases d <;> first | cases h; done | exact ⟨_, rfl⟩
theorem isBoxes_good {d : D} (h : isBoxesB d = true) (ok : d.ok = true) : ∃ rows, d = boxesD rows ∧ GoodRows rows := by
  have h' := h
  cases d with
  | tup xs =>
    simp only [isBoxesB] at h
    cases hr : rowsOf xs with
    | none => rw [hr] at h; simp at h
    | some rows =>
      have e := rowsOf_eq hr
      subst e
      refine ⟨rows, rfl, (isBoxes_iff (fun r hr => ?_)).mp h'⟩
      have := okA_mem ((ok_tup _).symm.trans ok) (rowD r) (List.mem_map.mpr ⟨r, hr, rfl⟩)
      have := okA_mem ((ok_tup _).symm.trans this)
      exact ⟨this _ (by simp [rowD]), this _ (by simp [rowD]), this _ (by simp [rowD])⟩
  | _ => simp [isBoxesB] at h
def boxE (rows : List Row) (v : D) (k : Str → Except Str D) : Except Str D := match v with
  | .str n => if (names rows).contains n = true then k n else .error "InvalidBox"
  | _ => .error "InvalidBox"
def boxesE (d : D) (k : List Row → Except Str D) : Except Str D := match isBoxesB d with
  | true => (match d with | .tup xs => (match rowsOf xs with | some rows => k rows | none => .ok .non) | _ => .ok .non)
  | false => .error "InvalidBoxes"
theorem boxesE_good {rows : List Row} (g : GoodRows rows) (k : List Row → Except Str D) : boxesE (boxesD rows) k = k rows := by
  unfold boxesE
  rw [(isBoxes_iff g.ok).mpr g]
  simp only [boxesD, rowsOf_map]
def sp_require_boxes : Spec := spE (fun d : D => [d]) (fun _ d => d.ok = true) fun d => match isBoxesB d with | true => .ok .non | false => .error "InvalidBoxes"
theorem ms_require_boxes : MonoS sp_require_boxes := spE.mono
theorem len_require_boxes : ∀ S ds Q E, sp_require_boxes S ds Q E → ds.length = 1 := spE.len fun _ => rfl
def sp_require_box : Spec := spE (fun x : List Row × D => [boxesD x.1, x.2]) (fun _ x => GoodRows x.1 ∧ x.2.ok = true) fun x => boxE x.1 x.2 fun _ => .ok .non
theorem ms_require_box : MonoS sp_require_box := spE.mono
theorem len_require_box : ∀ S ds Q E, sp_require_box S ds Q E → ds.length = 2 := spE.len fun _ => rfl
def sp_house_of : Spec := spE (fun x : D × D => [x.1, x.2]) (fun _ x => x.1.ok = true ∧ x.2.ok = true) fun x => boxesE x.1 fun rows => boxE rows x.2 fun n => .ok (oD (houseOf rows n))
theorem ms_house_of : MonoS sp_house_of := spE.mono
theorem len_house_of : ∀ S ds Q E, sp_house_of S ds Q E → ds.length = 2 := spE.len fun _ => rfl
def sp_next_box : Spec := spE (fun x : D × D => [x.1, x.2]) (fun _ x => x.1.ok = true ∧ x.2.ok = true) fun x => boxesE x.1 fun rows => boxE rows x.2 fun n => .ok (oD (nextF rows n))
theorem ms_next_box : MonoS sp_next_box := spE.mono
theorem len_next_box : ∀ S ds Q E, sp_next_box S ds Q E → ds.length = 2 := spE.len fun _ => rfl
def dBl : D → Bool
  | .bl b => b
  | _ => false
def sortE (d : D) (k : Bool → Except Str D) : Except Str D := match isSortB d with
  | true => (match d with | .tup [_, _, .bl b, _] => k b | _ => .ok .non)
  | false => .error "InvalidSort"
def sp_route : Spec := spE (fun x : D × D × D => [x.1, x.2.1, x.2.2]) (fun _ x => x.1.ok = true ∧ x.2.1.ok = true ∧ x.2.2.ok = true) fun x => boxesE x.1 fun rows => sortE x.2.1 fun far => boxE rows x.2.2 fun n => .ok (stL (routeOf rows far n))
theorem ms_route : MonoS sp_route := spE.mono
theorem len_route : ∀ S ds Q E, sp_route S ds Q E → ds.length = 3 := spE.len fun _ => rfl
def sp_seen_target : Spec := spE (fun x : D × D × D => [x.1, x.2.1, x.2.2]) (fun _ x => x.1.ok = true ∧ x.2.1.ok = true ∧ x.2.2.ok = true) fun x => boxesE x.1 fun rows => boxE rows x.2.1 fun b => boxE rows x.2.2 fun t => .ok (.str (seenOf rows b t))
theorem ms_seen_target : MonoS sp_seen_target := spE.mono
theorem len_seen_target : ∀ S ds Q E, sp_seen_target S ds Q E → ds.length = 3 := spE.len fun _ => rfl
def b_require_boxes (S : List Addr) : TSd := (sIf (tNotT (tTru (tFn S sp_is_boxes (tCs (tV 0) tN))))
  (sRaise "InvalidBoxes")
  sNext)

def b_require_box (S : List Addr) : TSd := (sIf (tNotT (tTru (tFn S sp_is_one_of (tCs (tV 1) (tCs (tComp (.n 2) tYesD (tBin ixD (tO 2) (tK (.int 0))) [2] (tItems (tO 0))) tN)))))
  (sRaise "InvalidBox")
  sNext)

def b_house_of (S : List Addr) : TSd := (sSeq (sDrop (tFn S sp_require_boxes (tCs (tV 0) tN)))
  (sSeq (sDrop (tFn S sp_require_box (tCs (tV 0) (tCs (tV 1) tN))))
  (sRet (tFn S sp_door_above (tCs (tFn S sp_unders_of (tCs (tV 0) tN)) (tCs (tFn S sp_roles_of (tCs (tV 0) tN)) (tCs (tV 1) tN)))))))

def b_next_box (S : List Addr) : TSd := (sSeq (sDrop (tFn S sp_require_boxes (tCs (tV 0) tN)))
  (sSeq (sDrop (tFn S sp_require_box (tCs (tV 0) (tCs (tV 1) tN))))
  (sRet (tFn S sp_next_of (tCs (tFn S sp_unders_of (tCs (tV 0) tN)) (tCs (tFn S sp_roles_of (tCs (tV 0) tN)) (tCs (tV 1) tN)))))))

def b_route (S : List Addr) : TSd := (sSeq (sDrop (tFn S sp_require_boxes (tCs (tV 0) tN)))
  (sSeq (sIf (tNotT (tTru (tFn S sp_is_sort (tCs (tV 1) tN))))
  (sRaise "InvalidSort")
  sNext)
  (sSeq (sDrop (tFn S sp_require_box (tCs (tV 0) (tCs (tV 2) tN))))
  (sRet (tFn S sp_route_of (tCs (tV 0) (tCs (tBin ixD (tO 1) (tK (.int 2))) (tCs (tV 2) tN))))))))

def b_seen_target (S : List Addr) : TSd := (sSeq (sDrop (tFn S sp_require_boxes (tCs (tV 0) tN)))
  (sSeq (sDrop (tFn S sp_require_box (tCs (tV 0) (tCs (tV 1) tN))))
  (sSeq (sDrop (tFn S sp_require_box (tCs (tV 0) (tCs (tV 2) tN))))
  (sRet (tFn S sp_seen_of (tCs (tV 0) (tCs (tV 1) (tCs (tV 2) tN))))))))

@[simp] def RE (Q : D → Prop) (E : Exn → Prop) (r : Except Str D) : Prop := match r with
  | .ok d => Q d
  | .error c => E (c, [])
theorem c_reqBoxes {S : List Addr} {d : D} (ok : d.ok = true) {k : List Row → Except Str D} {Q : D → Prop} {E : Exn → Prop} {R : Prop} (q : RE Q E (boxesE d k)) (h : ∀ rows, d = boxesD rows → GoodRows rows → RE Q E (k rows) → R) : sp_require_boxes S [d] (fun _ => R) E := by
  refine ⟨d, rfl, ok, ?_⟩
  cases hb : isBoxesB d
  · simp only [boxesE, hb] at q
    simp only [hb]
    exact q
  · obtain ⟨rows, rfl, g⟩ := isBoxes_good hb ok
    rw [boxesE_good g] at q
    simp only [hb]
    exact h rows rfl g q
theorem c_reqBox {S : List Addr} {rows : List Row} (g : GoodRows rows) {v : D} (ok : v.ok = true) {k : Str → Except Str D} {Q : D → Prop} {E : Exn → Prop} {R : Prop} (q : RE Q E (boxE rows v k)) (h : ∀ n, v = .str n → n ∈ names rows → RE Q E (k n) → R) : sp_require_box S [boxesD rows, v] (fun _ => R) E := by
  refine ⟨(rows, v), rfl, ⟨g, ok⟩, ?_⟩
  cases v with
  | str n =>
    simp only [boxE] at q ⊢
    cases hc : (names rows).contains n
    · rw [hc] at q; exact q
    · rw [hc] at q; exact h n rfl (List.contains_iff_mem.mp hc) q
  | _ => exact q
theorem pure_require_boxes : ∀ S ds Q E, sp_require_boxes S ds Q E → b_require_boxes S { nx := fun _ => Q .non, rt := ptR Q, ex := fun x _ => E x } (start0 ["value"] ds) := by
  rintro S _ Q E ⟨d, rfl, hok, q⟩
  unfold b_require_boxes
  simp [-D.ok, -okA]
  refine ⟨d, rfl, hok, ?_⟩
  cases h : isBoxesB d
  · simp only [h] at q; exact q
  · simp only [h] at q; exact q
theorem pure_require_box : ∀ S ds Q E, sp_require_box S ds Q E → b_require_box S { nx := fun _ => Q .non, rt := ptR Q, ex := fun x _ => E x } (start0 ["boxes", "value", "row"] ds) := by
  rintro S _ Q E ⟨⟨rows, d⟩, rfl, ⟨g, hok⟩, q⟩
  replace q : RE Q E (boxE rows d fun _ => .ok .non) := q
  replace g : GoodRows rows := g
  unfold b_require_box
  simp [-D.ok, -okA, -RE]
  show compD _ _ _ (rows.map rowD) _ _
  refine compD_map rowD (fun r => .str r.1) rows (fun r hr => ⟨_, rfl, fun Q q => by simpa [rowD] using q⟩) ?_
  refine ⟨d, names rows, true, by simp [sqD, names], hok, (okA_strs _).mpr fun x hx => names_ok g.rok x hx, ?_⟩
  cases d with
  | str n =>
    simp only [boxE] at q ⊢
    cases hc : (names rows).contains n
    · rw [hc] at q; exact q
    · rw [hc] at q; exact q
  | _ => exact q
theorem pure_house_of : ∀ S ds Q E, sp_house_of S ds Q E → b_house_of S { nx := fun _ => Q .non, rt := ptR Q, ex := fun x _ => E x } (start0 ["boxes", "box"] ds) := by
  rintro S _ Q E ⟨⟨d, v⟩, rfl, ⟨okd, okv⟩, q⟩
  replace q : RE Q E (boxesE d fun rows => boxE rows v fun n => .ok (oD (houseOf rows n))) := q
  unfold b_house_of
  refine seq_intro fun K1 hK1 => ?_
  simp [-D.ok, -okA]
  refine c_reqBoxes okd q fun rows e g q2 => ?_
  subst e
  refine hK1 _ ?_
  refine seq_intro fun K2 hK2 => ?_
  simp [-D.ok, -okA]
  refine c_reqBox g okv q2 fun n e hn q3 => ?_
  subst e
  refine hK2 _ ?_
  simp [-D.ok, -okA]
  exact ⟨rows, rfl, g.rok, rows, rfl, g.rok, door_abv g hn q3⟩
theorem pure_next_box : ∀ S ds Q E, sp_next_box S ds Q E → b_next_box S { nx := fun _ => Q .non, rt := ptR Q, ex := fun x _ => E x } (start0 ["boxes", "box"] ds) := by
  rintro S _ Q E ⟨⟨d, v⟩, rfl, ⟨okd, okv⟩, q⟩
  replace q : RE Q E (boxesE d fun rows => boxE rows v fun n => .ok (oD (nextF rows n))) := q
  unfold b_next_box
  refine seq_intro fun K1 hK1 => ?_
  simp [-D.ok, -okA]
  refine c_reqBoxes okd q fun rows e g q2 => ?_
  subst e
  refine hK1 _ ?_
  refine seq_intro fun K2 hK2 => ?_
  simp [-D.ok, -okA]
  refine c_reqBox g okv q2 fun n e hn q3 => ?_
  subst e
  refine hK2 _ ?_
  simp [-D.ok, -okA]
  exact ⟨rows, rfl, g.rok, rows, rfl, g.rok, ⟨rows, n⟩, rfl, ⟨g, hn⟩, q3⟩
theorem pure_seen_target : ∀ S ds Q E, sp_seen_target S ds Q E → b_seen_target S { nx := fun _ => Q .non, rt := ptR Q, ex := fun x _ => E x } (start0 ["boxes", "box", "target"] ds) := by
  rintro S _ Q E ⟨⟨d, v, w⟩, rfl, ⟨okd, okv, okw⟩, q⟩
  replace q : RE Q E (boxesE d fun rows => boxE rows v fun b => boxE rows w fun t => .ok (.str (seenOf rows b t))) := q
  unfold b_seen_target
  refine seq_intro fun K1 hK1 => ?_
  simp [-D.ok, -okA]
  refine c_reqBoxes okd q fun rows e g q2 => ?_
  subst e
  refine hK1 _ ?_
  refine seq_intro fun K2 hK2 => ?_
  simp [-D.ok, -okA]
  refine c_reqBox g okv q2 fun n e hn q3 => ?_
  subst e
  refine hK2 _ ?_
  refine seq_intro fun K3 hK3 => ?_
  simp [-D.ok, -okA]
  refine c_reqBox g okw q3 fun m e hm q4 => ?_
  subst e
  refine hK3 _ ?_
  simp [-D.ok, -okA]
  exact ⟨⟨rows, n, m⟩, rfl, ⟨g, hn, hm⟩, q4⟩
theorem pure_route : ∀ S ds Q E, sp_route S ds Q E → b_route S { nx := fun _ => Q .non, rt := ptR Q, ex := fun x _ => E x } (start0 ["boxes", "sort", "box"] ds) := by
  rintro S _ Q E ⟨⟨d, v, w⟩, rfl, ⟨okd, okv, okw⟩, q⟩
  replace okv : v.ok = true := okv
  replace q : RE Q E (boxesE d fun rows => sortE v fun far => boxE rows w fun n => .ok (stL (routeOf rows far n))) := q
  unfold b_route
  refine seq_intro fun K1 hK1 => ?_
  simp [-D.ok, -okA]
  refine c_reqBoxes okd q fun rows e g q2 => ?_
  subst e
  refine hK1 _ ?_
  refine seq_intro fun K2 hK2 => ?_
  simp [-D.ok, -okA]
  refine ⟨v, rfl, okv, ?_⟩
  cases hs : isSortB v
  · simp only [sortE, hs] at q2
    show truD _ (.bl (isSortB v))
    rw [hs]
    simpa using q2
  · obtain ⟨a, f1, f2, f3, rfl⟩ : ∃ a f1 f2 f3, v = .tup [a, .bl f1, .bl f2, .bl f3] := by
      unfold isSortB at hs
      split at hs
      · rename_i n a b c
        simp only [Bool.and_eq_true] at hs
        obtain ⟨_, h1, h2, h3⟩ := hs
        obtain ⟨a1, rfl⟩ := isBl_eq h1
        obtain ⟨a2, rfl⟩ := isBl_eq h2
        obtain ⟨a3, rfl⟩ := isBl_eq h3
        exact ⟨_, _, _, _, rfl⟩
      · cases hs
    simp only [sortE, hs] at q2
    show truD _ (.bl (isSortB _))
    rw [hs]
    refine hK2 _ ?_
    refine seq_intro fun K3 hK3 => ?_
    simp [-D.ok, -okA]
    refine c_reqBox g okw q2 fun n e hn q3 => ?_
    subst e
    refine hK3 _ ?_
    simp [-D.ok, -okA]
    exact ⟨⟨rows, f2, n⟩, rfl, ⟨g, hn⟩, q3⟩
end DL.TB

set_option Elab.async false
set_option linter.all false
set_option maxRecDepth 100000
set_option maxHeartbeats 1000000
/-! facts about routes -/
namespace DL.TB
open PySem PySem.Spec PyProof.Rows L2
open Classical in
/-- the rank -/
noncomputable def rv (rows : List Row) (n : Str) : Nat := if h : ∃ v d, Rk rows n d v then h.choose else 0
theorem rv_eq {rows : List Row} {n : Str} {d v : Nat} (h : Rk rows n d v) : rv rows n = v := by
  have e : ∃ v d, Rk rows n d v := ⟨v, d, h⟩
  unfold rv
  rw [dif_pos e]
  obtain ⟨d', hd⟩ := e.choose_spec
  exact (hd.uniq h).2
theorem Low.lt {rows : List Row} {k : Nat} {n : Str} (h : Low rows k n) : rv rows n < k := by
  obtain ⟨_, e, v, _, hr, hv⟩ := h
  rw [rv_eq hr]; exact hv
theorem Low.of {rows : List Row} (g : GoodRows rows) {k : Nat} {n : Str} (hn : n ∈ names rows) (h : rv rows n < k) : Low rows k n := by
  obtain ⟨e, v, h8, hr⟩ := g.rk hn
  rw [rv_eq hr] at h
  exact ⟨hn, e, v, h8, hr, h⟩
theorem GoodRows.rmax {rows : List Row} (g : GoodRows rows) {n : Str} (hn : n ∈ names rows) : rv rows n < maxRk + 1 := (g.low hn).lt
theorem GoodRows.nxt {rows : List Row} (g : GoodRows rows) {n m : Str} (hn : n ∈ names rows) (h : nextF rows n = some m) : m ∈ names rows ∧ rv rows m < rv rows n := by
  obtain ⟨e, v, h8, hr⟩ := g.rk hn
  obtain ⟨hm, e', v', _, hr', hlt⟩ := g.next hn h hr h8
  rw [rv_eq hr, rv_eq hr']
  exact ⟨hm, hlt⟩
theorem house_door {rows : List Row} {d : Str} {m : Str} {u : Option Str} (h : find rows d = some ((m, u, "door") : Row)) : houseOf rows d = some d := by
  unfold houseOf
  rw [doorF, h]
  simp
theorem GoodRows.home {rows : List Row} (g : GoodRows rows) {n d : Str} (hn : n ∈ names rows) (h : houseOf rows n = some d) :
    d ∈ names rows ∧ houseOf rows d = some d ∧ ∃ u m, find rows d = some ((m, some u, "door") : Row) ∧ underOf rows d = some u ∧ u ∈ names rows ∧ rv rows u < rv rows n ∧ rv rows d ≤ rv rows n ∧ rv rows u < rv rows d := by
  obtain ⟨hd, u, hu, hum, hlt⟩ := g.out hn h
  have hdoor := houseOf_eq g.nd g.tree hn
  rw [h] at hdoor
  obtain ⟨m2, u2, hfd⟩ := doorF_role hdoor
  have hhd := house_door hfd
  have : u2 = some u := by unfold underOf at hu; rw [hfd] at hu; exact hu
  subst this
  obtain ⟨e, v, h8, hr⟩ := g.rk hn
  obtain ⟨e', v', h8', hr', hlt⟩ := hlt hr h8
  obtain ⟨ed, vd, hd8, hrd⟩ := g.rk hd
  obtain ⟨hd2, u3, hu3, hum3, hlt3⟩ := g.out hd hhd
  rw [hu] at hu3
  cases hu3
  obtain ⟨e3, v3, _, hr3, hlt3⟩ := hlt3 hrd hd8
  obtain ⟨rfl, rfl⟩ := hr'.uniq hr3
  obtain ⟨_, i2, _⟩ := Rk.under hrd _ hdoor hr h8
  refine ⟨hd, hhd, u, m2, hfd, hu, hum, ?_, ?_, ?_⟩
  · rw [rv_eq hr, rv_eq hr']; exact hlt
  · rw [rv_eq hr, rv_eq hrd]; exact i2
  · rw [rv_eq hr', rv_eq hrd]; exact hlt3
/-- chains -/
theorem GoodRows.chain_up {rows : List Row} (g : GoodRows rows) : ∀ (k k' : Nat) {n : Str}, n ∈ names rows → rv rows n < k → k ≤ k' → doorsF rows k' (houseOf rows n) = doorsF rows k (houseOf rows n)
  | 0, _, _, _, h, _ => absurd h (Nat.not_lt_zero _)
  | k + 1, 0, _, _, _, h => absurd h (by omega)
  | k + 1, k' + 1, n, hn, h, hk => by
    cases hh : houseOf rows n with
    | none => rfl
    | some d =>
      obtain ⟨hd, _, u, m, hf, hu, hum, h1, _, _⟩ := g.home hn hh
      rw [doorsF, doorsF, hu]
      simp only
      rw [g.chain_up k k' hum (by omega) (by omega)]
theorem chain_none {rows : List Row} {n : Str} (h : houseOf rows n = none) : doorsOf rows n = [] := by unfold doorsOf; rw [h]; rfl
theorem GoodRows.chain_some {rows : List Row} (g : GoodRows rows) {n d u : Str} (hn : n ∈ names rows) (h : houseOf rows n = some d) (hu : underOf rows d = some u) : doorsOf rows n = d :: doorsOf rows u := by
  obtain ⟨hd, _, u', m, hf, hu', hum, h1, _, _⟩ := g.home hn h
  rw [hu] at hu'
  cases hu'
  unfold doorsOf
  rw [h, doorsF, hu]
  simp only
  have := g.rmax hn
  rw [g.chain_up maxRk (maxRk + 1) hum (by omega) (by omega)]
theorem GoodRows.ind {rows : List Row} {P : Str → Prop} (h : ∀ n ∈ names rows, (∀ m ∈ names rows, rv rows m < rv rows n → P m) → P n) : ∀ n ∈ names rows, P n := by
  have : ∀ k n, n ∈ names rows → rv rows n < k → P n := fun k => by
    induction k with
    | zero => intro n _ h; omega
    | succ k ih => intro n hn hk; exact h n hn fun m hm hlt => ih m hm (by omega)
  exact fun n hn => this _ n hn (Nat.lt_succ_self _)
theorem GoodRows.chain_rv {rows : List Row} (g : GoodRows rows) {d : Str} : ∀ n ∈ names rows, d ∈ doorsOf rows n → d ∈ names rows ∧ rv rows d ≤ rv rows n := GoodRows.ind fun n hn ih h => by
  cases hh : houseOf rows n with
  | none => rw [chain_none hh] at h; cases h
  | some x =>
    obtain ⟨hd, _, u, m, hf, hu, hum, h1, h2, _⟩ := g.home hn hh
    rw [g.chain_some hn hh hu] at h
    rcases List.mem_cons.mp h with e | h
    · subst e; exact ⟨hd, h2⟩
    · have := ih u hum h1 h
      exact ⟨this.1, by omega⟩
theorem GoodRows.door_next {rows : List Row} (g : GoodRows rows) {n m d : Str} (hn : n ∈ names rows) (h : nextF rows n = some m) (hd : d ∈ doorsOf rows n) (ne : n ≠ d) : d ∈ doorsOf rows m := by
  unfold nextF at h
  obtain ⟨r, hf⟩ := find_of hn
  rw [hf] at h
  simp only at h
  obtain ⟨a, u, ro⟩ := r
  cases u with
  | none => cases h
  | some u =>
    have hu : underOf rows n = some u := by unfold underOf; rw [hf]; rfl
    have hum := g.under hu
    simp only at h
    cases hr : ro == ("door" : Str)
    · rw [if_neg (by rw [hr]; decide)] at h
      -- the house of n is the house of u
      have e : houseOf rows n = houseOf rows u := by
        have h1 := houseOf_eq g.nd g.tree hn
        have h2 := houseOf_eq g.nd g.tree hum
        rw [doorF, hf] at h1
        simp only [hr] at h1
        have h1 : doorF rows rows.length (some u) = some (houseOf rows n) := by simpa using h1
        have h3 := doorF_up h1
        rw [h2] at h3
        exact (Option.some.inj h3).symm
      have eC : doorsOf rows n = doorsOf rows u := by unfold doorsOf; rw [e]
      rw [eC] at hd
      cases hs : slotF rows u with
      | none => rw [hs] at h; cases h; exact hd
      | some s =>
        rw [hs] at h
        cases h
        unfold slotF at hs
        obtain ⟨r, hr, e⟩ := Option.map_eq_some_iff.mp hs
        have hrm := List.mem_of_find?_eq_some hr
        have hp := List.find?_some hr
        unfold isSlotOf at hp
        rw [Bool.and_eq_true] at hp
        subst e
        have hsm : r.1 ∈ names rows := List.mem_map.mpr ⟨r, hrm, rfl⟩
        cases hh : houseOf rows r.1 with
        | none => rw [hh] at hp; cases hp.2
        | some dd =>
          rw [hh] at hp
          have hud : underOf rows dd = some u := by simpa using hp.2
          rw [g.chain_some hsm hh hud]
          exact List.mem_cons_of_mem _ hd
    · rw [if_pos hr] at h
      cases h
      have : ro = "door" := by simpa using hr
      subst this
      rw [g.chain_some hn (house_door hf) hu] at hd
      rcases List.mem_cons.mp hd with e | hd
      · exact absurd e.symm ne
      · exact hd
theorem GoodRows.stop {rows : List Row} (g : GoodRows rows) {n : Str} (hn : n ∈ names rows) (h : nextF rows n = none) : n = (tops rows).headD "" ∧ doorsOf rows n = [] := by
  obtain ⟨r, hf⟩ := find_of hn
  have hr := List.mem_of_find?_eq_some hf
  have e1 : r.1 = n := by have := List.find?_some hf; simpa using this
  unfold nextF at h
  rw [hf] at h
  simp only at h
  have hu : r.2.1 = none := by
    cases hu : r.2.1 with
    | none => rfl
    | some u => rw [hu] at h; simp only at h; split at h <;> try cases h
                split at h <;> cases h
  have hp := tree_none g.tree r hr hu
  obtain ⟨t1, _⟩ := tree_parts g.tree
  have ht : n ∈ tops rows := List.mem_map.mpr ⟨r, List.mem_filter.mpr ⟨hr, by simp [hu, hp]⟩, e1⟩
  refine ⟨?_, ?_⟩
  · match hl : tops rows, t1 with
    | [a], _ => rw [hl] at ht; exact List.mem_singleton.mp ht
  · refine chain_none ?_
    unfold houseOf
    rw [doorF, hf]
    simp only [hu]
    rw [hp]
    cases hl : rows.length with
    | zero => have := g.pos; omega
    | succ k =>
      have : ¬ (Str.ofString "plain" = Str.ofString "door") := by decide +kernel
      simp [doorF, this]
/-- routes -/
theorem GoodRows.route_up {rows : List Row} (g : GoodRows rows) {last : Option Str} : ∀ (k k' : Nat) {n : Str}, n ∈ names rows → rv rows n < k → k ≤ k' → routeF rows last k' (some n) = routeF rows last k (some n)
  | 0, _, _, _, h, _ => absurd h (Nat.not_lt_zero _)
  | k + 1, 0, _, _, _, h => absurd h (by omega)
  | k + 1, k' + 1, n, hn, h, hk => by
    rw [routeF, routeF]
    split
    · cases k <;> cases k' <;> rfl
    · cases hh : nextF rows n with
      | none => cases k <;> cases k' <;> rfl
      | some m =>
        have := g.nxt hn hh
        rw [g.route_up k k' this.1 (by omega) (by omega)]
/-- the boxes on the way from n, to last -/
def way (rows : List Row) (last : Option Str) (n : Str) : List Str := routeF rows last (maxRk + 1) (some n)
theorem GoodRows.way_last {rows : List Row} {n : Str} : way rows (some n) n = [n] := by
  unfold way; rw [routeF, if_pos rfl]; rfl
theorem GoodRows.way_end {rows : List Row} {last : Option Str} {n : Str} (h : nextF rows n = none) : way rows last n = [n] := by
  unfold way
  rw [routeF, h]
  split <;> rfl
theorem GoodRows.way_next {rows : List Row} (g : GoodRows rows) {last : Option Str} {n m : Str} (hn : n ∈ names rows) (hl : some n ≠ last) (h : nextF rows n = some m) : way rows last n = n :: way rows last m := by
  unfold way
  rw [routeF, if_neg hl, h]
  have h1 := g.nxt hn h
  have h2 := g.rmax hn
  rw [g.route_up maxRk (maxRk + 1) h1.1 (by omega) (by omega)]
structure FarOk (rows : List Row) (n : Str) (w : List Str) : Prop where
  hd : ∃ t, w = n :: t ∧ (∀ x ∈ t, rv rows x < rv rows n) ∧ (∀ m t', t = m :: t' → way rows none m = t)
  inn : ∀ x ∈ w, x ∈ names rows
  nd : w.Nodup
  last : w.getLast? = some ((tops rows).headD "")
  nxt : w.tail.map D.str ++ [D.non] = w.map fun x => oD (nextF rows x)
end DL.TB
namespace DL.TB
open PySem PySem.Spec PyProof.Rows L2
theorem GoodRows.far {rows : List Row} (g : GoodRows rows) : ∀ n ∈ names rows, FarOk rows n (way rows none n) := GoodRows.ind fun n hn ih => by
  cases h : nextF rows n with
  | none =>
    rw [GoodRows.way_end h]
    obtain ⟨e, _⟩ := g.stop hn h
    exact ⟨⟨[], rfl, fun _ h => (nomatch h), fun _ _ h => (nomatch h)⟩, fun x hx => by rw [List.mem_singleton.mp hx]; exact hn, by simp, by rw [← e]; rfl, by simp [h]⟩
  | some m =>
    rw [g.way_next hn (by simp) h]
    obtain ⟨hm, hlt⟩ := g.nxt hn h
    obtain ⟨⟨t, e, ht, _⟩, hi, hnd, hl, hx⟩ := ih m hm hlt
    rw [e] at hi hnd hl hx ⊢
    have lt : ∀ x ∈ m :: t, rv rows x < rv rows n := fun x hx => by
      rcases List.mem_cons.mp hx with e | hx
      · rw [e]; exact hlt
      · have := ht x hx; omega
    refine ⟨⟨m :: t, rfl, lt, fun m' t' e' => ?_⟩, fun x hx => ?_, List.nodup_cons.mpr ⟨fun hc => by have := lt n hc; omega, hnd⟩, ?_, ?_⟩
    · cases e'; exact e
    · rcases List.mem_cons.mp hx with e | hx
      · rw [e]; exact hn
      · exact hi x hx
    · rw [List.getLast?_cons_cons]; exact hl
    · rw [List.tail_cons, List.map_cons, List.map_cons, h]
      rw [List.tail_cons] at hx
      rw [List.cons_append, hx]
      rfl
structure NearOk (rows : List Row) (d n : Str) (w : List Str) : Prop where
  pre : ∃ post, way rows none n = w ++ post ∧ ∀ x ∈ post, rv rows x < rv rows d
  last : w.getLast? = some d
  inn : ∀ x ∈ w, d ∈ doorsOf rows x
theorem GoodRows.near {rows : List Row} (g : GoodRows rows) {d : Str} : ∀ n ∈ names rows, d ∈ doorsOf rows n → NearOk rows d n (way rows (some d) n) := GoodRows.ind fun n hn ih hd => by
  by_cases e : n = d
  · subst e
    rw [GoodRows.way_last]
    obtain ⟨⟨t, e, ht, _⟩, _⟩ := g.far n hn
    exact ⟨⟨t, by rw [e]; rfl, ht⟩, rfl, fun x hx => by rw [List.mem_singleton.mp hx]; exact hd⟩
  · cases h : nextF rows n with
    | none => obtain ⟨_, e2⟩ := g.stop hn h; rw [e2] at hd; cases hd
    | some m =>
      rw [g.way_next hn (by simpa using e) h]
      obtain ⟨hm, hlt⟩ := g.nxt hn h
      obtain ⟨⟨post, ep, hp⟩, hl, hi⟩ := ih m hm hlt (g.door_next hn h hd e)
      refine ⟨⟨post, by rw [g.way_next hn (by simp) h, ep]; rfl, hp⟩, ?_, fun x hx => ?_⟩
      · cases hw : way rows (some d) m with
        | nil => rw [hw] at hl; cases hl
        | cons a b => rw [hw] at hl; rw [List.getLast?_cons_cons]; exact hl
      · rcases List.mem_cons.mp hx with e | hx
        · rw [e]; exact hd
        · exact hi x hx
theorem GoodRows.home_chain {rows : List Row} (g : GoodRows rows) {n d : Str} (hn : n ∈ names rows) (h : houseOf rows n = some d) : d ∈ doorsOf rows n := by
  obtain ⟨hd, _, u, m, hf, hu, hum, h1, h2, _⟩ := g.home hn h
  rw [g.chain_some hn h hu]
  exact List.mem_cons_self ..
/-- seen -/
theorem GoodRows.seen {rows : List Row} (g : GoodRows rows) {ds : List Str} : ∀ (k : Nat) {n : Str}, n ∈ names rows → rv rows n < k →
    seenF rows ds k n ∈ names rows ∧ rv rows (seenF rows ds k n) ≤ rv rows n ∧ (∀ d, houseOf rows (seenF rows ds k n) = some d → d ∈ ds) ∧ (∀ d, houseOf rows n = some d → d ∉ ds → seenF rows ds k n ≠ n)
  | 0, _, _, h => absurd h (Nat.not_lt_zero _)
  | k + 1, n, hn, hk => by
    rw [seenF]
    cases hh : houseOf rows n with
    | none => exact ⟨hn, Nat.le_refl _, fun d hd => by simp only [hh] at hd; (try cases hd), fun d hd => by cases hd⟩
    | some d =>
      obtain ⟨hd, _, u, m, hf, hu, hum, h1, h2, _⟩ := g.home hn hh
      simp only [hu]
      by_cases hc : d ∈ ds
      · rw [if_pos hc]
        exact ⟨hn, Nat.le_refl _, fun d' hd' => by rw [hh] at hd'; cases hd'; exact hc, fun d' hd' hx => by cases hd'; exact absurd hc hx⟩
      · rw [if_neg hc]
        obtain ⟨i1, i2, i3, _⟩ := g.seen k hum (by omega)
        exact ⟨i1, by omega, i3, fun d' hd' hx e => by rw [e] at i2; omega⟩
theorem seen_stay {rows : List Row} {b t : Str} (h : ∀ d, houseOf rows t = some d → d ∈ doorsOf rows b) : seenOf rows b t = t := by
  unfold seenOf
  rw [seenF]
  cases hh : houseOf rows t with
  | none => rfl
  | some d => simp only; rw [if_pos (h d hh)]
theorem GoodRows.seenOk {rows : List Row} (g : GoodRows rows) {b t : Str} (ht : t ∈ names rows) : seenOf rows b t ∈ names rows ∧ (∀ d, houseOf rows (seenOf rows b t) = some d → d ∈ doorsOf rows b) ∧ (seenOf rows b t = t ↔ ∀ d, houseOf rows t = some d → d ∈ doorsOf rows b) := by
  obtain ⟨i1, i2, i3, i4⟩ := g.seen (ds := doorsOf rows b) (maxRk + 1) ht (g.rmax ht)
  refine ⟨i1, i3, fun e d hd => ?_, seen_stay⟩
  refine Classical.byContradiction fun hc => ?_
  exact i4 d hd hc e
end DL.TB

set_option Elab.async false
set_option linter.all false
set_option maxRecDepth 100000
set_option maxHeartbeats 1000000
/-! the law's own pages, plain -/
namespace DL.TB
open PySem PySem.Spec PyProof.Rows L2
def Deep (d : D) : Prop := d.ok = true ∧ d.nar = true ∧ d.dep ≤ 60
def sp__law_is_good_sort : Spec := spO (fun d : D => [d]) (fun _ d => d.ok = true) fun d => .bl (isSortB d)
theorem ms__law_is_good_sort : MonoS sp__law_is_good_sort := spO.mono
theorem len__law_is_good_sort : ∀ S ds Q E, sp__law_is_good_sort S ds Q E → ds.length = 1 := spO.len fun _ => rfl
def sp__law_firsts : Spec := spO (fun x : List D => [.tup x]) (fun _ x => okA x = true ∧ x.length ≤ 50) fun x => stL (namesIn x)
theorem ms__law_firsts : MonoS sp__law_firsts := spO.mono
theorem len__law_firsts : ∀ S ds Q E, sp__law_firsts S ds Q E → ds.length = 1 := spO.len fun _ => rfl
def sp__law_is_good_deed : Spec := spO (fun x : D × List Str × List Str × List Str => [x.1, stL x.2.1, stL x.2.2.1, stL x.2.2.2]) (fun _ x => Deep x.1 ∧ okS x.2.1 ∧ okS x.2.2.1 ∧ okS x.2.2.2) fun x => .bl (isDeedB x.2.1 x.2.2.1 x.2.2.2 x.1)
theorem ms__law_is_good_deed : MonoS sp__law_is_good_deed := spO.mono
theorem len__law_is_good_deed : ∀ S ds Q E, sp__law_is_good_deed S ds Q E → ds.length = 4 := spO.len fun _ => rfl
def sp__law_is_good_listener : Spec := spO (fun x : D × List Str × List Str × List Str => [x.1, stL x.2.1, stL x.2.2.1, stL x.2.2.2]) (fun _ x => Deep x.1 ∧ okS x.2.1 ∧ okS x.2.2.1 ∧ okS x.2.2.2) fun x => .bl (isListenerB x.2.1 x.2.2.1 x.2.2.2 x.1)
theorem ms__law_is_good_listener : MonoS sp__law_is_good_listener := spO.mono
theorem len__law_is_good_listener : ∀ S ds Q E, sp__law_is_good_listener S ds Q E → ds.length = 4 := spO.len fun _ => rfl
def sp__law_is_good_on : Spec := spO (fun x : D × List Str => [x.1, stL x.2]) (fun _ x => x.1.ok = true ∧ x.1.nar = true ∧ okS x.2) fun x => .bl (isOnB x.2 x.1)
theorem ms__law_is_good_on : MonoS sp__law_is_good_on := spO.mono
theorem len__law_is_good_on : ∀ S ds Q E, sp__law_is_good_on S ds Q E → ds.length = 2 := spO.len fun _ => rfl
def sp__law_is_good_page : Spec := spO (fun d : D => [d]) (fun _ d => Deep d) fun d => .bl (isPageB d)
theorem ms__law_is_good_page : MonoS sp__law_is_good_page := spO.mono
theorem len__law_is_good_page : ∀ S ds Q E, sp__law_is_good_page S ds Q E → ds.length = 1 := spO.len fun _ => rfl
def b__law_is_good_sort (S : List Addr) : TSd := (sSeq (sIf (tOrT (tNotT (tTru (tIsi isTup (tO 0)))) (tOrT (tIsB (tBin neD (tCl lenD (tCs (tO 0) tN)) (tK (.int 4)))) (tNotT (tTru (tFn S sp__law_is_name (tCs (tBin ixD (tO 0) (tK (.int 0))) tN))))))
  (sRet (tK (.bl false)))
  sNext)
  (sRet (tBin eqD (tComp (.n 1) (tNotT (tTru (tIsi isBool (tO 1)))) (tV 1) [1] (tItems (tSlD (tO 0) (tOSo (tK (.int 1))) tONo))) (tLstD tN))))

def b__law_firsts (S : List Addr) : TSd := (sRet (tComp (.n 1) (tAndT (tTru (tIsi isTup (tO 1))) (tAndT (tIsB (tBin neD (tO 1) (tTupD tN))) (tTru (tFn S sp__law_is_name (tCs (tBin ixD (tO 1) (tK (.int 0))) tN))))) (tBin ixD (tO 1) (tK (.int 0))) [1] (tItems (tO 0))))

def b__law_is_good_deed (S : List Addr) : TSd := (sSeq (sIf (tOrT (tNotT (tTru (tIsi isTup (tO 0)))) (tOrT (tIsB (tBin eqD (tO 0) (tTupD tN))) (tNotT (tTru (tIsi isStr (tBin ixD (tO 0) (tK (.int 0))))))))
  (sRet (tK (.bl false)))
  sNext)
  (sSeq (sIf (tIsB (tBin inD (tO 0) (tLstD (tCs (tTupD (tCs (tK (.str "stop")) tN)) (tCs (tTupD (tCs (tK (.str "halt")) tN)) (tCs (tTupD (tCs (tK (.str "bar")) tN)) tN))))))
  (sRet (tK (.bl true)))
  sNext)
  (sSeq (sIf (tIsB (tBin inD (tBin ixD (tO 0) (tK (.int 0))) (tLstD (tCs (tK (.str "on")) (tCs (tK (.str "off")) tN)))))
  (sRet (tAndE (tBin eqD (tCl lenD (tCs (tO 0) tN)) (tK (.int 2))) (tFn S sp__law_is_in (tCs (tBin ixD (tO 0) (tK (.int 1))) (tCs (tV 1) tN)))))
  sNext)
  (sSeq (sIf (tOrT (tIsB (tBin notInD (tBin ixD (tO 0) (tK (.int 0))) (tLstD (tCs (tK (.str "move")) (tCs (tK (.str "send")) tN))))) (tIsB (tBin neD (tCl lenD (tCs (tO 0) tN)) (tK (.int 3)))))
  (sRet (tK (.bl false)))
  sNext)
  (sSeq (sAsg (tIte (tIsB (tBin eqD (tBin ixD (tO 0) (tK (.int 0))) (tK (.str "move")))) (tV 3) (tV 2)) (.n 4))
  (sRet (tAndE (tFn S sp__law_is_in (tCs (tBin ixD (tO 0) (tK (.int 1))) (tCs (tV 4) tN))) (tFn S sp__law_is_in (tCs (tBin ixD (tO 0) (tK (.int 2))) (tCs (tV 3) tN))))))))))

def b__law_is_good_listener (S : List Addr) : TSd := (sSeq (sIf (tOrT (tNotT (tTru (tIsi isTup (tO 0)))) (tOrT (tIsB (tBin neD (tCl lenD (tCs (tO 0) tN)) (tK (.int 7)))) (tNotT (tTru (tFn S sp__law_is_name (tCs (tBin ixD (tO 0) (tK (.int 0))) tN))))))
  (sRet (tK (.bl false)))
  sNext)
  (sSeq (sIf (tOrT (tNotT (tTru (tFn S sp__law_is_in (tCs (tBin ixD (tO 0) (tK (.int 1))) (tCs (tV 3) tN))))) (tNotT (tTru (tFn S sp__law_is_in (tCs (tBin ixD (tO 0) (tK (.int 2))) (tCs (tV 2) tN))))))
  (sRet (tK (.bl false)))
  sNext)
  (sSeq (sIf (tIsB (tBin neD (tComp (.n 5) (tNotT (tTru (tIsi isBool (tO 5)))) (tV 5) [5] (tItems (tSlD (tO 0) (tOSo (tK (.int 3))) (tOSo (tK (.int 6)))))) (tLstD tN)))
  (sRet (tK (.bl false)))
  sNext)
  (sSeq (sAsg (tBin ixD (tO 0) (tK (.int 6))) (.n 4))
  (sSeq (sIf (tOrT (tNotT (tTru (tIsi isTup (tO 4)))) (tIsB (tBin gtD (tCl lenD (tCs (tO 4) tN)) (tK (.int 3)))))
  (sRet (tK (.bl false)))
  sNext)
  (sRet (tBin eqD (tComp (.n 6) (tNotT (tTru (tFn S sp__law_is_good_deed (tCs (tV 6) (tCs (tV 1) (tCs (tV 2) (tCs (tV 3) tN))))))) (tV 6) [6] (tItems (tO 4))) (tLstD tN))))))))

def b__law_is_good_on (S : List Addr) : TSd := (sSeq (sIf (tOrT (tNotT (tTru (tIsi isTup (tO 0)))) (tIsB (tBin neD (tComp (.n 2) (tNotT (tTru (tFn S sp__law_is_in (tCs (tV 2) (tCs (tV 1) tN))))) (tV 2) [2] (tItems (tO 0))) (tLstD tN))))
  (sRet (tK (.bl false)))
  sNext)
  (sRet (tBin eqD (tLenSetT (tO 0)) (tCl lenD (tCs (tO 0) tN)))))

def b__law_is_good_page_1 (S : List Addr) : TSd := (sIf (tNotT (tTru (tFn S sp__law_is_good_listener (tCs (tV 2) (tCs (tV 4) (tCs (tV 3) (tCs (tV 1) tN)))))))
  (sRet (tK (.bl false)))
  sNext)
def b__law_is_good_page (S : List Addr) : TSd := (sSeq (sIf (tOrT (tNotT (tTru (tIsi isTup (tO 0)))) (tOrT (tIsB (tBin neD (tCl lenD (tCs (tO 0) tN)) (tK (.int 4)))) (tNotT (tTru (tFn S sp__law_is_good_boxes (tCs (tBin ixD (tO 0) (tK (.int 2))) tN))))))
  (sRet (tK (.bl false)))
  sNext)
  (sSeq (sIf (tOrT (tNotT (tTru (tIsi isTup (tBin ixD (tO 0) (tK (.int 0)))))) (tOrT (tIsB (tBin ltD (tCl lenD (tCs (tBin ixD (tO 0) (tK (.int 0))) tN)) (tK (.int 1)))) (tIsB (tBin gtD (tCl lenD (tCs (tBin ixD (tO 0) (tK (.int 0))) tN)) (tK (.int 3))))))
  (sRet (tK (.bl false)))
  sNext)
  (sSeq (sIf (tOrT (tNotT (tTru (tIsi isTup (tBin ixD (tO 0) (tK (.int 1)))))) (tIsB (tBin gtD (tCl lenD (tCs (tBin ixD (tO 0) (tK (.int 1))) tN)) (tK (.int 12)))))
  (sRet (tK (.bl false)))
  sNext)
  (sSeq (sPar 3 4 (tCs (tFn S sp__law_firsts (tCs (tBin ixD (tO 0) (tK (.int 0))) tN)) (tCs (tFn S sp__law_firsts (tCs (tBin ixD (tO 0) (tK (.int 1))) tN)) tN)))
  (sSeq (sAsg (tFn S sp__law_firsts (tCs (tBin ixD (tO 0) (tK (.int 2))) tN)) (.n 1))
  (sSeq (sIf (tOrT (tIsB (tBin neD (tO 3) (tSortedSet (tO 3)))) (tIsB (tBin neD (tO 4) (tSortedSet (tO 4)))))
  (sRet (tK (.bl false)))
  sNext)
  (sSeq (sIf (tIsB (tBin neD (tComp (.n 2) (tNotT (tTru (tFn S sp__law_is_good_sort (tCs (tV 2) tN)))) (tV 2) [2] (tItems (tBin ixD (tO 0) (tK (.int 0))))) (tLstD tN)))
  (sRet (tK (.bl false)))
  sNext)
  (sSeq (sFor (tItems (tBin ixD (tO 0) (tK (.int 1)))) (.n 2)
  (b__law_is_good_page_1 S))
  (sRet (tFn S sp__law_is_good_on (tCs (tBin ixD (tO 0) (tK (.int 3))) (tCs (tV 4) tN))))))))))))

theorem filt_eq (p : D → Bool) (xs : List D) : eqvA (xs.filter fun d => !p d) [] = xs.all p := by
  have h : (xs.filter fun d => !p d).isEmpty = xs.all p := by
    rw [Bool.eq_iff_iff, List.isEmpty_iff, List.filter_eq_nil_iff, List.all_eq_true]; simp
  rw [← h]; cases xs.filter fun d => !p d <;> rfl
theorem okA_filt {p : D → Bool} {xs : List D} (h : okA xs = true) : okA (xs.filter p) = true := (okA_iff _).mpr fun x hx => (okA_iff xs).mp h x (List.mem_filter.mp hx).1
theorem notbl {d : D} (h : d.ok = true) {Q : Bool → Prop} (q : Q (!d.isBl)) : match d.ty.bind isBool with | some b => Q (!b) | none => False := by
  cases d <;> first | (simp at h; done) | simpa [isBool, D.isBl] using q
theorem pure__law_is_good_sort : ∀ S ds Q E, sp__law_is_good_sort S ds Q E → b__law_is_good_sort S { nx := fun _ => Q .non, rt := ptR Q, ex := fun x _ => E x } (start0 ["value", "part"] ds) := by
  rintro S _ Q E ⟨d, rfl, ho, q⟩
  replace q : Q (.bl (isSortB d)) := q
  unfold b__law_is_good_sort
  cases d with
  | tup xs =>
    have okx := okA_mem (xs := xs) ho
    by_cases h4 : xs.length = 4
    · match xs, h4 with
      | [n, a, b, c], _ =>
        have hn := okx n (by simp)
        simp [isTup, sp__law_is_name, hn]
        cases h1 : isNameB n
        · simpa [isSortB, h1] using q
        · simp [cut_tail]
          refine compD_go' (fun d => !d.isBl) (fun d => d) _ (fun d hd => ⟨_, rfl, fun Q q => ?_, fun _ Q q => by simpa [wipeD] using q⟩) ?_
          · have hd := okx d (List.mem_cons_of_mem _ hd)
            simp [wipeD]
            cases d <;> first | (simp at hd; done) | simpa [isBool, D.isBl] using q
          · rw [List.map_id', filt_eq]
            refine ⟨okA_filt ((okA_iff _).mpr fun x hx => okx x (List.mem_cons_of_mem _ hx)), ?_⟩
            simpa [isSortB, h1] using q
    · have e : isSortB (.tup xs) = false := by
        match xs, h4 with
        | [], _ | [_], _ | [_, _], _ | [_, _, _], _ => rfl
        | [_, _, _, _], h => exact absurd rfl h
        | _ :: _ :: _ :: _ :: _ :: _, _ => rfl
      rw [e] at q
      have h5 : ((xs.length : Int) == 4) = false := by simp; omega
      simp [isTup, h5, q]
  | _ => first | (simp at ho; done) | simpa [isTup, isSortB] using q
theorem pure__law_firsts : ∀ S ds Q E, sp__law_firsts S ds Q E → b__law_firsts S { nx := fun _ => Q .non, rt := ptR Q, ex := fun x _ => E x } (start0 ["rows", "row"] ds) := by
  rintro S _ Q E ⟨xs, rfl, ⟨ho, hl⟩, q⟩
  replace q : Q (stL (namesIn xs)) := q
  replace ho : okA xs = true := ho
  unfold b__law_firsts
  have okx := okA_mem ho
  simp [wipeD, -D.ok, -okA]
  refine compD_go' (fun d => (nmOf d).isSome) (fun d => .str ((nmOf d).getD "")) xs (fun d hd => ⟨_, rfl, fun Q q => ?_, fun hp Q q => ?_⟩) ?_
  · have hd := okx d hd
    simp [-D.ok, -okA]
    cases d with
    | tup ys =>
      cases ys with
      | nil => simpa [isTup, nmOf] using q
      | cons y ys =>
        have hy := okA_mem (xs := y :: ys) hd y (List.mem_cons_self ..)
        have he : (D.tup (y :: ys)).eqv (.tup []) = false := rfl
        have hd' : okA (y :: ys) = true := hd
        simp [isTup, -D.ok, -okA, hd']
        refine ⟨y, rfl, hy, ?_⟩
        cases y with
        | str s => cases h : nameS s <;> simpa [nmOf, isNameB, h] using q
        | _ => simpa [nmOf, isNameB] using q
    | _ => first | (simp at hd; done) | simpa [isTup, nmOf] using q
  · cases d with
    | tup ys =>
      cases ys with
      | nil => cases hp
      | cons y ys =>
        cases y with
        | str s =>
          cases h : nameS s
          · simp [nmOf, h] at hp
          · simpa [nmOf, h] using q
        | _ => cases hp
    | _ => cases hp
  · rw [namesIn_eq]; exact q
theorem inB_deeds (w : Str) (items : List D) : inB (.tup (.str w :: items)) [.tup [.str "stop"], .tup [.str "halt"], .tup [.str "bar"]] = ((["stop", "halt", "bar"] : List Str).contains w && items.isEmpty) := by
  unfold inB
  simp only [List.any_cons, List.any_nil, Bool.or_false]
  cases items with
  | nil =>
    have e : ∀ a : Str, (D.tup [.str a]).eqv (.tup [.str w]) = (w == a) := fun a => by
      show ((a == w) && true) = _
      rw [Bool.and_true]; exact BEq.comm
    rw [e, e, e]
    simp only [List.contains_cons, List.contains_nil, Bool.or_false, List.isEmpty_nil, Bool.and_true]
  | cons x xs =>
    have e : ∀ a : Str, (D.tup [.str a]).eqv (.tup (.str w :: x :: xs)) = false := fun a => by
      show ((a == w) && false) = _
      rw [Bool.and_false]
    rw [e, e, e]
    simp only [List.isEmpty_cons, Bool.and_false, Bool.or_false]
theorem law_in {Q : D → Prop} {d : D} {xs : List Str} (h1 : d.ok = true) (h2 : okS xs) (q : Q (.bl (inS xs d))) : ∃ (d' : D) (ys : List Str), [d, stL xs] = [d', .lst (ys.map D.str)] ∧ d'.ok = true ∧ okA (ys.map D.str) = true ∧ Q (.bl (match d' with | .str s => ys.contains s | _ => false)) :=
  ⟨d, xs, rfl, h1, h2, by cases d <;> exact q⟩
theorem Deep.item {xs : List D} (h : Deep (.tup xs)) {d : D} (hd : d ∈ xs) : Deep d := by
  obtain ⟨h1, h2, h3⟩ := h
  have h2 : (decide (xs.length ≤ 50) && narA xs) = true := h2
  rw [Bool.and_eq_true] at h2
  refine ⟨okA_mem (xs := xs) h1 d hd, (narA_iff xs).mp h2.2 d hd, ?_⟩
  have h3 : depA xs + 1 ≤ 60 := h3
  have : ∀ (ys : List D), d ∈ ys → d.dep ≤ depA ys := fun ys => by
    induction ys with
    | nil => intro h; cases h
    | cons y ys ih =>
      intro h
      show d.dep ≤ max y.dep (depA ys)
      rcases List.mem_cons.mp h with e | e
      · rw [e]; omega
      · have := ih e; omega
  have := this xs hd
  omega
theorem Deep.len {xs : List D} (h : Deep (.tup xs)) : xs.length ≤ 50 := by
  have h2 : (decide (xs.length ≤ 50) && narA xs) = true := h.2.1
  rw [Bool.and_eq_true, decide_eq_true_eq] at h2
  exact h2.1
theorem pure__law_is_good_deed : ∀ S ds Q E, sp__law_is_good_deed S ds Q E → b__law_is_good_deed S { nx := fun _ => Q .non, rt := ptR Q, ex := fun x _ => E x } (start0 ["value", "names", "sorts", "places", "some"] ds) := by
  rintro S _ Q E ⟨⟨d, ls, ss, bs⟩, rfl, ⟨hd, o1, o2, o3⟩, q⟩
  replace q : Q (.bl (isDeedB ls ss bs d)) := q
  replace hd : Deep d := hd
  have ho := hd.1
  unfold b__law_is_good_deed
  cases d with
  | tup xs =>
    have okx := okA_mem (xs := xs) ho
    cases xs with
    | nil => simpa [isTup, isDeedB] using q
    | cons x xs =>
      have hx := okx x (List.mem_cons_self ..)
      have okall : okA (x :: xs) = true := ho
      cases x with
      | str w =>
        refine seq_intro fun K1 hK1 => ?_
        simp [isTup, isStr, -D.ok, -okA, okall]
        refine hK1 _ ?_
        have c1 : (D.str "move").ok = true := by decide +kernel
        have l1 : 1 ≤ sizeLine := by decide
        have l2 : 2 ≤ sizeLine := by decide
        have l3 : 3 ≤ sizeLine := by decide
        obtain ⟨k1, hk1⟩ : ∃ k, (["on", "off"] : List Str).contains w = k := ⟨_, rfl⟩
        obtain ⟨k2, hk2⟩ : ∃ k, (["stop", "halt", "bar"] : List Str).contains w = k := ⟨_, rfl⟩
        obtain ⟨k3, hk3⟩ : ∃ k, (["move", "send"] : List Str).contains w = k := ⟨_, rfl⟩
        have i1 : D.isIn (.str w) (.lst [.str "on", .str "off"]) = some k1 := hk1 ▸ in_lstS (xs := ["on", "off"]) hx (by show okA _ = true; decide +kernel)
        have i3 : D.isIn (.str w) (.lst [.str "move", .str "send"]) = some k3 := hk3 ▸ in_lstS (xs := ["move", "send"]) hx (by show okA _ = true; decide +kernel)
        have i2 : D.isIn (.tup (.str w :: xs)) (.lst [.tup [.str "stop"], .tup [.str "halt"], .tup [.str "bar"]]) = some (k2 && xs.isEmpty) := by
          simp only [D.isIn]
          rw [if_pos, inB_deeds, hk2]
          rw [show (D.tup (.str w :: xs)).ok = true from ho, show okA [D.tup [.str "stop"], .tup [.str "halt"], .tup [.str "bar"]] = true from by decide +kernel, decide_eq_true (show (D.tup (.str w :: xs)).dep ≤ 64 from Nat.le_trans hd.2.2 (by omega))]
          rfl
        refine seq_intro fun K2 hK2 => ?_
        simp [-D.ok, -okA, -D.isIn, i2, l1, l3]
        cases h2 : (k2 && xs.isEmpty)
        · refine hK2 _ ?_
          have q' : Q (.bl (deedK ls ss bs w xs k1 false)) := by
            simp only [isDeedB, hk1, hk2, h2] at q; exact q
          unfold deedK at q'
          have e2 : ((xs.length : Int) + 1 == 2) = decide (xs.length = 1) := by
            rw [← ld_eq xs.length 1, Bool.eq_iff_iff]; simp; omega
          have e3 : ((xs.length : Int) + 1 == 3) = decide (xs.length = 2) := by
            rw [← ld_eq xs.length 2, Bool.eq_iff_iff]; simp; omega
          refine seq_intro fun K3 hK3 => ?_
          simp [-D.ok, -okA, -D.isIn, i1, l2, e2]
          cases k1
          · simp only at q' ⊢
            refine hK3 _ ?_
            simp [-D.ok, -okA, -D.isIn, i3, l2, e3, c1, hx]
            have hk3' : k3 = (w == ("move" : Str) || w == ("send" : Str)) := by rw [← hk3]; simp only [List.contains_cons, List.contains_nil, Bool.or_false]
            cases h6 : w == ("move" : Str)
            · simp only [h6, Bool.false_or] at q' hk3'
              rw [hk3']
              cases h7 : w == ("send" : Str)
              · simpa [h7] using q'
              · simp only [h7] at q'
                match xs, q', okx with
                | [], q', _ | [_], q', _ => simpa using q'
                | [a, b], q', okx =>
                  simp [h6]
                  refine law_in (okx a (by simp)) o2 ?_
                  cases h8 : inS ss a
                  · simpa [h8] using q'
                  · exact law_in (okx b (by simp)) o3 (by simpa [h8] using q')
                | _ :: _ :: _ :: _, q', _ => simpa using q'
            · simp only [h6, Bool.true_or] at q' hk3'
              rw [hk3']
              match xs, q', okx with
              | [], q', _ | [_], q', _ => simpa using q'
              | [a, b], q', okx =>
                simp [h6]
                refine law_in (okx a (by simp)) o3 ?_
                cases h8 : inS bs a
                · simpa [h8] using q'
                · exact law_in (okx b (by simp)) o3 (by simpa [h8] using q')
              | _ :: _ :: _ :: _, q', _ => simpa using q'
          · simp only at q' ⊢
            match xs, q', okx with
            | [], q', _ => simpa using q'
            | [a], q', okx => exact law_in (okx a (by simp)) o1 q'
            | _ :: _ :: _, q', _ => simpa using q'
        · have h2' : k2 = true ∧ xs = [] := by
            rw [Bool.and_eq_true] at h2
            refine ⟨h2.1, ?_⟩
            cases xs with
            | nil => rfl
            | cons => cases h2.2
          obtain ⟨rfl, rfl⟩ := h2'
          have : isDeedB ls ss bs (.tup [.str w]) = true := by
            have hm : w ∈ (["stop", "halt", "bar"] : List Str) := List.contains_iff_mem.mp hk2
            simp only [List.mem_cons, List.not_mem_nil, or_false] at hm
            rcases hm with rfl | rfl | rfl <;> rfl
          rw [this] at q
          exact q
      | _ => first | (simp at hx; done) | simpa [isTup, isStr, isDeedB, okall, -okA] using q
  | _ => first | (simp at ho; done) | simpa [isTup, isDeedB] using q
theorem pure__law_is_good_listener : ∀ S ds Q E, sp__law_is_good_listener S ds Q E → b__law_is_good_listener S { nx := fun _ => Q .non, rt := ptR Q, ex := fun x _ => E x } (start0 ["value", "names", "sorts", "places", "deeds", "part", "deed"] ds) := by
  rintro S _ Q E ⟨⟨d, ls, ss, bs⟩, rfl, ⟨hD, o1, o2, o3⟩, q⟩
  replace q : Q (.bl (isListenerB ls ss bs d)) := q
  replace hD : Deep d := hD
  have ho := hD.1
  unfold b__law_is_good_listener
  cases d with
  | tup xs =>
    have okx := okA_mem (xs := xs) ho
    by_cases h7 : xs.length = 7
    · match xs, h7 with
      | [n, b, s, e, o, c, ds], _ =>
        have hn := okx n (by simp)
        have hb := okx b (by simp)
        have hs := okx s (by simp)
        have hds := okx ds (by simp)
        have e0 : isListenerB ls ss bs (.tup [n, b, s, e, o, c, ds]) = (isNameB n && ((inS bs b && inS ss s) && ((e.isBl && (o.isBl && c.isBl)) && deedsB ls ss bs ds))) := rfl
        rw [e0] at q
        have c1 : cut [n, b, s, e, o, c, ds] (some 3) (some 6) = [e, o, c] := rfl
        have c2 : atI [n, b, s, e, o, c, ds] 6 = some ds := rfl
        simp [isTup, sp__law_is_name, hn, -D.ok, -okA]
        cases h1 : isNameB n
        · simpa [h1] using q
        simp [-D.ok, -okA, c1, c2]
        refine law_in hb o3 ?_
        cases h2 : inS bs b
        · simpa [h1, h2] using q
        refine law_in hs o2 ?_
        cases h3 : inS ss s
        · simpa [h1, h2, h3] using q
        show compD _ _ _ _ _ _
        refine compD_go' (fun d => !d.isBl) (fun d => d) _ (fun d hd => ⟨_, rfl, fun Q q => ?_, fun _ Q q => by simpa [wipeD] using q⟩) ?_
        · have hd := okx d (by simp at hd ⊢; rcases hd with h | h | h <;> simp [h])
          simp [wipeD]
          cases d <;> first | (simp at hd; done) | simpa [isBool, D.isBl] using q
        rw [List.map_id', filt_eq]
        refine ⟨okA_filt ((okA_iff _).mpr fun x hx => okx x (by simp at hx ⊢; rcases hx with h | h | h <;> simp [h])), ?_⟩
        simp only [h1, h2, h3, Bool.true_and] at q
        have h4' : [e, o, c].all D.isBl = (e.isBl && (o.isBl && c.isBl)) := by simp only [List.all_cons, List.all_nil, Bool.and_true]
        rw [h4']
        cases h4 : (e.isBl && (o.isBl && c.isBl))
        · simpa [h4] using q
        simp only [h4, Bool.true_and, Bool.not_true] at q ⊢
        have hDd := hD.item (d := ds) (by simp)
        cases ds with
        | tup zs =>
          have okz := okA_mem (xs := zs) hds
          have l3 : decide ((3 : Int) < (zs.length : Int)) = !decide (zs.length ≤ 3) := ld_lt zs.length 3
          simp [isTup, l3, -D.ok, -okA]
          cases h5 : decide (zs.length ≤ 3)
          · simpa [deedsB, h5] using q
          simp only [Bool.not_true]
          refine compD_go' (fun d => !isDeedB ls ss bs d) (fun d => d) _ (fun d hd => ⟨_, rfl, fun Q q => ?_, fun _ Q q => by simpa [wipeD] using q⟩) ?_
          · simp [wipeD]
            exact ⟨⟨d, ls, ss, bs⟩, rfl, ⟨hDd.item hd, o1, o2, o3⟩, by simpa using q⟩
          · rw [List.map_id', filt_eq]
            refine ⟨okA_filt hds, ?_⟩
            simpa [deedsB, h5, List.all_map] using q
        | _ => first | (simp at hds; done) | simpa [isTup, deedsB] using q
    · have e : isListenerB ls ss bs (.tup xs) = false := by
        match xs, h7 with
        | [], _ | [_], _ | [_, _], _ | [_, _, _], _ | [_, _, _, _], _ | [_, _, _, _, _], _ | [_, _, _, _, _, _], _ => rfl
        | [_, _, _, _, _, _, _], h => exact absurd rfl h
        | _ :: _ :: _ :: _ :: _ :: _ :: _ :: _ :: _, _ => rfl
      rw [e] at q
      have h5 : ((xs.length : Int) == 7) = false := by simp; omega
      simp [isTup, h5, q]
  | _ => first | (simp at ho; done) | simpa [isTup, isListenerB] using q
theorem ded_len (zs : List Str) : (((ded zs).length : Int) == (zs.length : Int)) = decide zs.Nodup := by
  rw [Bool.eq_iff_iff, decide_eq_true_eq, ← ded_length zs, beq_iff_eq]
  constructor <;> intro h <;> omega
theorem pure__law_is_good_on : ∀ S ds Q E, sp__law_is_good_on S ds Q E → b__law_is_good_on S { nx := fun _ => Q .non, rt := ptR Q, ex := fun x _ => E x } (start0 ["value", "names", "name"] ds) := by
  rintro S _ Q E ⟨⟨d, ls⟩, rfl, ⟨ho, hn, o1⟩, q⟩
  replace q : Q (.bl (isOnB ls d)) := q
  replace ho : d.ok = true := ho
  replace hn : d.nar = true := hn
  unfold b__law_is_good_on
  cases d with
  | tup xs =>
    have okx := okA_mem (xs := xs) ho
    have hl : xs.length ≤ 50 := by simp only [D.nar, Bool.and_eq_true, decide_eq_true_eq] at hn; exact hn.1
    refine seq_intro fun K1 hK1 => ?_
    simp [isTup, -D.ok, -okA]
    refine compD_go' (fun d => !inS ls d) (fun d => d) _ (fun d hd => ⟨_, rfl, fun Q q => ?_, fun _ Q q => by simpa [wipeD] using q⟩) ?_
    · simp [wipeD]
      exact law_in (okx d hd) o1 (by simpa using q)
    rw [List.map_id', filt_eq]
    refine ⟨okA_filt ho, ?_⟩
    cases h1 : xs.all (inS ls)
    · simpa [isOnB, h1] using q
    simp only [Bool.not_true]
    refine hK1 _ ?_
    obtain ⟨e1, e2⟩ := strs_all h1
    rw [isOnB, h1, Bool.true_and] at q
    have hl2 : (xs.filterMap stOf).length ≤ xs.length := List.length_filterMap_le ..
    have hl3 : xs.length = (xs.filterMap stOf).length := by
      have := congrArg List.length e2
      rwa [List.length_map] at this
    simp [-D.ok, -okA, strsT, e1]
    refine ⟨by omega, ?_⟩
    rw [hl3, ded_len]
    exact q
  | _ => first | (simp at ho; done) | simpa [isTup, isOnB] using q
theorem okS_names {xs : List D} (h : okA xs = true) : okS (namesIn xs) := by
  refine (okA_strs _).mpr fun s hs => ?_
  obtain ⟨d, hd, e⟩ := List.mem_filterMap.mp hs
  have := okA_mem (xs := xs) h d hd
  cases d with
  | tup ys =>
    cases ys with
    | nil => cases e
    | cons y ys =>
      cases y with
      | str z =>
        simp only [nmOf] at e
        split at e
        · cases e; exact okA_mem (xs := D.str s :: ys) this _ (List.mem_cons_self ..)
        · cases e
      | _ => cases e
  | _ => cases e
theorem names_len (xs : List D) : (namesIn xs).length ≤ xs.length := List.length_filterMap_le ..
theorem depA_strs (zs : List Str) : depA (zs.map D.str) = 0 := by
  induction zs with
  | nil => rfl
  | cons z zs ih => show max 0 (depA (zs.map D.str)) = 0; rw [ih]; rfl
/-- xs != sorted(set(xs)) -/
theorem ne_sorted {i : Nat} {xs : List Str} {ρ : DEnv} {Q : Bool → Prop} {E : Exn → Prop} (hi : ρ[i]? = some (some (.p (stL xs)))) (ho : okS xs) (hl : xs.length < 60) (q : Q (!rising xs)) : tIsB (tBin neD (tO i) (tSortedSet (tO i))) ρ Q E := by
  simp only [tIsB, tBin, tO, tSortedSet, hi, stL, strsD, strsOf_map]
  refine ⟨hl, fun ys p hs => ?_⟩
  have oky : okA (ys.map D.str) = true := (okA_strs _).mpr fun x hx => by
    have := p.mem_iff.mp hx
    rw [show x ∈ ded xs ↔ x ∈ xs from by unfold ded; rw [ded_mem]; simp] at this
    exact (okA_strs _).mp ho x this
  refine ⟨⟨ho, oky, by show min (depA _ + 1) _ ≤ 64; rw [depA_strs]; omega⟩, ?_⟩
  have e : (D.lst (xs.map D.str)).eqv (.lst (ys.map D.str)) = rising xs := by
    show eqvA _ _ = _
    rw [eqv_strs, sorted_self p hs]
  rw [e]
  exact q
theorem pure__law_is_good_page : ∀ S ds Q E, sp__law_is_good_page S ds Q E → b__law_is_good_page S { nx := fun _ => Q .non, rt := ptR Q, ex := fun x _ => E x } (start0 ["value", "places", "row", "sorts", "names"] ds) := by
  rintro S _ Q E ⟨d, rfl, hD, q⟩
  replace q : Q (.bl (isPageB d)) := q
  replace hD : Deep d := hD
  have ho := hD.1
  unfold b__law_is_good_page
  cases d with
  | tup xs =>
    have okx := okA_mem (xs := xs) ho
    by_cases h4 : xs.length = 4
    · match xs, h4 with
      | [ss, ls, bs, on], _ =>
        have hs := okx ss (by simp)
        have hl := okx ls (by simp)
        have hb := okx bs (by simp)
        have ho4 := okx on (by simp)
        have ds := hD.item (d := ss) (by simp)
        have dl := hD.item (d := ls) (by simp)
        have db := hD.item (d := bs) (by simp)
        have dn := hD.item (d := on) (by simp)
        refine seq_intro fun K1 hK1 => ?_
        simp [isTup, -D.ok, -okA]
        refine ⟨bs, rfl, hb, ?_⟩
        cases bs with
        | tup bs =>
          cases h1 : isBoxesB (.tup bs)
          · have : isPageB (.tup [ss, ls, .tup bs, on]) = false := by
              cases ss <;> cases ls <;> first | rfl | simp [isPageB, h1]
            simpa [this] using q
          simp only [truD, Bool.not_true]
          refine hK1 _ ?_
          refine seq_intro fun K2 hK2 => ?_
          cases ss with
          | tup ss =>
            have oks := okA_mem (xs := ss) hs
            have out : ∀ {b : Bool}, (decide (1 ≤ ss.length) && decide (ss.length ≤ 3)) = false → b = false → Q (.bl b) := fun {b} h e => by
              have : isPageB (.tup [.tup ss, ls, .tup bs, on]) = false := by
                cases ls <;> first | rfl | (simp only [isPageB, h1, ← Bool.and_assoc, h, Bool.false_and, Bool.and_false, Bool.true_and])
              rw [this] at q; rw [e]; exact q
            have e1 : decide ((ss.length : Int) < 1) = !decide (1 ≤ ss.length) := int_lt1 ss.length
            have e2 : decide ((3 : Int) < (ss.length : Int)) = !decide (ss.length ≤ 3) := ld_lt ss.length 3
            simp [isTup, e1, e2, -D.ok, -okA]
            cases h2 : decide (1 ≤ ss.length)
            · exact out (by rw [h2]; rfl) rfl
            cases h3 : decide (ss.length ≤ 3)
            · exact out (by rw [h2, h3]; rfl) rfl
            simp only [Bool.not_true]
            refine hK2 _ ?_
            refine seq_intro fun K3 hK3 => ?_
            cases ls with
            | tup ls =>
              have okl := okA_mem (xs := ls) hl
              have e3 : decide ((12 : Int) < (ls.length : Int)) = !decide (ls.length ≤ 12) := ld_lt ls.length 12
              simp [isTup, e3, -D.ok, -okA]
              have ep : isPageB (.tup [.tup ss, .tup ls, .tup bs, on]) = (ss.all isSortB && (decide (ls.length ≤ 12) && (ls.all (isListenerB (namesIn ls) (namesIn ss) (namesIn bs)) && (rising (namesIn ls) && (rising (namesIn ss) && isOnB (namesIn ls) on))))) := by
                simp only [isPageB, h1, h2, h3, Bool.true_and]
              rw [ep] at q
              cases h6 : decide (ls.length ≤ 12)
              · simpa [h6] using q
              simp only [h6, Bool.not_true, Bool.true_and] at q ⊢
              refine hK3 _ ?_
              refine seq_intro fun K4 hK4 => ?_
              have g0 : ∀ {a b c d : D}, atI [a, b, c, d] 0 = some a := rfl
              have g1 : ∀ {a b c d : D}, atI [a, b, c, d] 1 = some b := rfl
              have g2 : ∀ {a b c d : D}, atI [a, b, c, d] 2 = some c := rfl
              simp [-D.ok, -okA, g0, g1, g2]
              refine ⟨ss, rfl, ⟨hs, ds.len⟩, ls, rfl, ⟨hl, dl.len⟩, ?_⟩
              refine hK4 _ ?_
              refine seq_intro fun K5 hK5 => ?_
              simp [-D.ok, -okA, g0, g1, g2]
              refine ⟨bs, rfl, ⟨hb, db.len⟩, ?_⟩
              refine hK5 _ ?_
              refine seq_intro fun K6 hK6 => ?_
              have o1 := okS_names (xs := ls) hl
              have o2 := okS_names (xs := ss) hs
              have o3 := okS_names (xs := bs) hb
              have l1 := names_len ls; have l2 := names_len ss; have l3 := dl.len; have l4 := ds.len
              simp only [sIf, tOrT]
              refine ne_sorted rfl o2 (by omega) ?_
              cases h8 : rising (namesIn ss)
              · simpa [h8] using q
              simp only [Bool.not_true]
              refine ne_sorted rfl o1 (by omega) ?_
              cases h9 : rising (namesIn ls)
              · simpa [h9] using q
              simp only [h8, h9, Bool.true_and, Bool.not_true] at q ⊢
              refine hK6 _ ?_
              refine seq_intro fun K7 hK7 => ?_
              simp [-D.ok, -okA, g0, g1, g2]
              refine compD_go' (fun d => !isSortB d) (fun d => d) _ (fun d hd => ⟨_, rfl, fun Q q => ?_, fun _ Q q => by simpa [wipeD] using q⟩) ?_
              · simp [wipeD]
                exact ⟨d, rfl, oks d hd, by simpa using q⟩
              rw [List.map_id', filt_eq]
              refine ⟨okA_filt hs, ?_⟩
              cases h5 : ss.all isSortB
              · simpa [h5] using q
              simp only [h5, Bool.true_and, Bool.not_true] at q ⊢
              refine hK7 _ ?_
              refine seq_intro fun K8 hK8 => ?_
              simp [-D.ok, -okA, g0, g1, g2]
              refine forD_rule (fun rs ρ => ∃ x2, ρ = [some (.p (.tup [.tup ss, .tup ls, .tup bs, on])), some (.p (stL (namesIn bs))), x2, some (.p (stL (namesIn ss))), some (.p (stL (namesIn ls)))] ∧
                (∀ d ∈ rs, d ∈ ls) ∧ ls.all (isListenerB (namesIn ls) (namesIn ss) (namesIn bs)) = rs.all (isListenerB (namesIn ls) (namesIn ss) (namesIn bs))) (fun d rest ρ hI => ?_) (fun ρ hI => ?_) _ _ ⟨none, rfl, fun _ h => h, rfl⟩
              · obtain ⟨x2, rfl, hin, hall⟩ := hI
                refine ⟨_, rfl, fun N hN => ?_⟩
                unfold b__law_is_good_page_1
                simp [-D.ok, -okA]
                refine ⟨⟨d, _, _, _⟩, rfl, ⟨dl.item (hin d (List.mem_cons_self ..)), o1, o2, o3⟩, ?_⟩
                show (truD _ (D.bl (isListenerB (namesIn ls) (namesIn ss) (namesIn bs) d)))
                rw [List.all_cons] at hall
                cases h7 : isListenerB (namesIn ls) (namesIn ss) (namesIn bs) d
                · rw [h7] at hall
                  simpa [hall] using q
                · rw [h7] at hall
                  simp only [truD, Bool.not_true]
                  exact hN _ ⟨_, rfl, fun e he => hin e (List.mem_cons_of_mem _ he), by simpa using hall⟩
              · obtain ⟨x2, rfl, hin, hall⟩ := hI
                refine hK8 _ ?_
                have g3 : ∀ {a b c d : D}, atI [a, b, c, d] 3 = some d := rfl
                simp [-D.ok, -okA, g3]
                rw [hall] at q
                exact ⟨⟨on, namesIn ls⟩, rfl, ⟨ho4, dn.2.1, o1⟩, by simpa using q⟩
            | _ => first | (simp at hl; done) | simpa [isTup, isPageB] using q
          | _ => first | (simp at hs; done) | simpa [isTup, isPageB] using q
        | _ => first | (simp at hb; done) | simpa [isBoxesB, isPageB] using q
    · have e : isPageB (.tup xs) = false := by
        unfold isPageB
        split
        · rename_i h
          cases h
          exact absurd rfl h4
        · rfl
      rw [e] at q
      have h5 : ((xs.length : Int) == 4) = false := by simp; omega
      simp [isTup, h5, q]
  | _ => first | (simp at ho; done) | simpa [isTup, isPageB] using q
end DL.TB

set_option Elab.async false
set_option linter.all false
set_option maxRecDepth 100000
set_option maxHeartbeats 1000000
/-! drawn pages -/
namespace DL.TB
open PySem PySem.Spec PyProof.Rows L2
abbrev SortR := Str × Bool × Bool × Bool
def srtD (s : SortR) : D := .tup [.str s.1, .bl s.2.1, .bl s.2.2.1, .bl s.2.2.2]
def sortsD (ss : List SortR) : D := .tup (ss.map srtD)
def sortNames : List Str := ["pop", "tap", "zip"]
def DrawnSorts (m : Nat) (ss : List SortR) : Prop := ∃ k, k < m ∧ ss.map (·.1) = sortNames.take (k + 1)
inductive Deed where
  | stop | halt | bar | on (n : Str) | off (n : Str) | move (b u : Str) | send (s b : Str)
  deriving DecidableEq
def Deed.word : Deed → Str
  | .stop => "stop" | .halt => "halt" | .bar => "bar" | .on _ => "on" | .off _ => "off" | .move _ _ => "move" | .send _ _ => "send"
def deedD : Deed → D
  | .stop => .tup [.str "stop"] | .halt => .tup [.str "halt"] | .bar => .tup [.str "bar"] | .on n => .tup [.str "on", .str n] | .off n => .tup [.str "off", .str n]
  | .move b u => .tup [.str "move", .str b, .str u] | .send s b => .tup [.str "send", .str s, .str b]
structure LRow where
  name : Str
  box : Str
  sort : Str
  early : Bool
  once : Bool
  calm : Bool
  deeds : List Deed
  deriving DecidableEq
def lrD (l : LRow) : D := .tup [.str l.name, .str l.box, .str l.sort, .bl l.early, .bl l.once, .bl l.calm, .tup (l.deeds.map deedD)]
structure Page where
  sorts : List SortR
  ls : List LRow
  boxes : List Row
  on : List Str
def pageD (p : Page) : D := .tup [sortsD p.sorts, .tup (p.ls.map lrD), boxesD p.boxes, .tup (p.on.map D.str)]
def DeedIn (ns ss bs : List Str) : Deed → Prop
  | .on n => n ∈ ns | .off n => n ∈ ns | .move b u => b ∈ bs ∧ u ∈ bs | .send s b => s ∈ ss ∧ b ∈ bs | _ => True
def lNames : List Str := ["j", "k", "lo", "m", "n", "oak", "p", "q", "r", "s", "t", "ux"]
def allWords : List Str := ["stop", "halt", "bar", "on", "off", "move", "send"]
structure DrawnL (ns ss bs ws : List Str) (l : LRow) : Prop where
  box : l.box ∈ bs
  sort : l.sort ∈ ss
  len : l.deeds.length ≤ 3
  deeds : ∀ d ∈ l.deeds, DeedIn ns ss bs d ∧ d.word ∈ ws
structure DrawnLs (m : Nat) (ss bs ws : List Str) (ls : List LRow) : Prop where
  nm : ∃ k, k ≤ m ∧ ls.map (·.name) = lNames.take k
  row : ∀ l ∈ ls, DrawnL (ls.map (·.name)) ss bs ws l
structure DrawnPage (mb ml : Nat) (ws : List Str) (p : Page) : Prop where
  ss : DrawnSorts 2 p.sorts
  bs : Drawn p.boxes
  bl : p.boxes.length ≤ mb
  ls : DrawnLs ml (p.sorts.map (·.1)) (names p.boxes) ws p.ls
  ond : p.on.Nodup
  onm : ∀ x ∈ p.on, x ∈ p.ls.map (·.name)
def sp__law_drawn_sorts : Spec := spR (fun x : Addr × Nat => [.ref x.1, .int x.2]) (fun S x => x.1 ∈ S ∧ 0 < x.2 ∧ x.2 ≤ 3) fun x d => ∃ ss, DrawnSorts x.2 ss ∧ d = sortsD ss
def sp__law_drawn_deed : Spec := spR (fun x : Addr × Str × List Str × List SortR × List Row => [.ref x.1, .str x.2.1, stL x.2.2.1, sortsD x.2.2.2.1, boxesD x.2.2.2.2])
  (fun S x => x.1 ∈ S ∧ x.2.1 ∈ allWords ∧ (0 < x.2.2.1.length ∧ x.2.2.1.length ≤ 50) ∧ (0 < x.2.2.2.1.length ∧ x.2.2.2.1.length ≤ 50) ∧ (0 < x.2.2.2.2.length ∧ x.2.2.2.2.length ≤ 50)) fun x d => ∃ e : Deed, DeedIn x.2.2.1 (x.2.2.2.1.map (·.1)) (names x.2.2.2.2) e ∧ e.word = x.2.1 ∧ d = deedD e
def sp__law_drawn_listeners : Spec := spR (fun x : Addr × List SortR × List Row × Nat × List Str => [.ref x.1, sortsD x.2.1, boxesD x.2.2.1, .int x.2.2.2.1, stL x.2.2.2.2])
  (fun S x => x.1 ∈ S ∧ (0 < x.2.1.length ∧ x.2.1.length ≤ 50) ∧ (0 < x.2.2.1.length ∧ x.2.2.1.length ≤ 50) ∧ x.2.2.2.1 ≤ 12 ∧ (∀ w ∈ x.2.2.2.2, w ∈ allWords) ∧ x.2.2.2.2.length ≤ 50) fun x d => ∃ ls, DrawnLs x.2.2.2.1 (x.2.1.map (·.1)) (names x.2.2.1) x.2.2.2.2 ls ∧ d = .tup (ls.map lrD)
def sp__law_drawn_on : Spec := spR (fun x : Addr × List Str => [.ref x.1, stL x.2]) (fun S x => x.1 ∈ S ∧ x.2.Nodup ∧ x.2.length ≤ 50) fun x d => ∃ on : List Str, on.Nodup ∧ (∀ y ∈ on, y ∈ x.2) ∧ d = .tup (on.map D.str)
def sp__law_drawn_page : Spec := spR (fun x : Addr × Nat × Nat × List Str => [.ref x.1, .lst [.int x.2.1, .int x.2.2.1], stL x.2.2.2])
  (fun S x => x.1 ∈ S ∧ (0 < x.2.1 ∧ x.2.1 ≤ 8) ∧ x.2.2.1 ≤ 12 ∧ (∀ w ∈ x.2.2.2, w ∈ allWords) ∧ x.2.2.2.length ≤ 50) fun x d => ∃ p, DrawnPage x.2.1 x.2.2.1 x.2.2.2 p ∧ d = pageD p
theorem ms__law_drawn_sorts : MonoS sp__law_drawn_sorts := spR.mono
theorem len__law_drawn_sorts : ∀ S ds Q E, sp__law_drawn_sorts S ds Q E → ds.length = 2 := spR.len fun _ => rfl
theorem ms__law_drawn_deed : MonoS sp__law_drawn_deed := spR.mono
theorem len__law_drawn_deed : ∀ S ds Q E, sp__law_drawn_deed S ds Q E → ds.length = 5 := spR.len fun _ => rfl
theorem ms__law_drawn_listeners : MonoS sp__law_drawn_listeners := spR.mono
theorem len__law_drawn_listeners : ∀ S ds Q E, sp__law_drawn_listeners S ds Q E → ds.length = 5 := spR.len fun _ => rfl
theorem ms__law_drawn_on : MonoS sp__law_drawn_on := spR.mono
theorem len__law_drawn_on : ∀ S ds Q E, sp__law_drawn_on S ds Q E → ds.length = 2 := spR.len fun _ => rfl
theorem ms__law_drawn_page : MonoS sp__law_drawn_page := spR.mono
theorem len__law_drawn_page : ∀ S ds Q E, sp__law_drawn_page S ds Q E → ds.length = 3 := spR.len fun _ => rfl
def b__law_drawn_sorts_1 (S : List Addr) : TSd := (sSeq (sPar 4 5 (tCs (tBin gtD (tFn S sp__law_pick (tCs (tV 0) (tCs (tK (.int 4)) tN))) (tK (.int 0))) (tCs (tBin gtD (tFn S sp__law_pick (tCs (tV 0) (tCs (tK (.int 3)) tN))) (tK (.int 0))) tN)))
  (sMeth 2 mApp (tCs (tTupD (tCs (tV 3) (tCs (tV 4) (tCs (tV 5) (tCs (tBin gtD (tFn S sp__law_pick (tCs (tV 0) (tCs (tK (.int 3)) tN))) (tK (.int 0))) tN))))) tN)))
def b__law_drawn_sorts (S : List Addr) : TSd := (sSeq (sOwn (tLstD tN) 2)
  (sSeq (sFor (tItems (tSlD (tLstD (tCs (tK (.str "pop")) (tCs (tK (.str "tap")) (tCs (tK (.str "zip")) tN)))) tONo (tOSo (tBin addD (tK (.int 1)) (tFn S sp__law_pick (tCs (tV 0) (tCs (tV 1) tN))))))) (.n 3)
  (b__law_drawn_sorts_1 S))
  (sRet (tCl tupleD (tCs (tO 2) tN)))))

def b__law_drawn_deed (S : List Addr) : TSd := (sSeq (sIf (tIsB (tBin inD (tO 1) (tLstD (tCs (tK (.str "on")) (tCs (tK (.str "off")) tN)))))
  (sRet (tTupD (tCs (tV 1) (tCs (tFn S sp__law_chosen (tCs (tV 0) (tCs (tV 2) tN))) tN))))
  sNext)
  (sSeq (sIf (tIsB (tBin eqD (tO 1) (tK (.str "move"))))
  (sRet (tTupD (tCs (tV 1) (tCs (tBin ixD (tFn S sp__law_chosen (tCs (tV 0) (tCs (tV 4) tN))) (tK (.int 0))) (tCs (tBin ixD (tFn S sp__law_chosen (tCs (tV 0) (tCs (tV 4) tN))) (tK (.int 0))) tN)))))
  sNext)
  (sSeq (sIf (tIsB (tBin eqD (tO 1) (tK (.str "send"))))
  (sRet (tTupD (tCs (tV 1) (tCs (tBin ixD (tFn S sp__law_chosen (tCs (tV 0) (tCs (tV 3) tN))) (tK (.int 0))) (tCs (tBin ixD (tFn S sp__law_chosen (tCs (tV 0) (tCs (tV 4) tN))) (tK (.int 0))) tN)))))
  sNext)
  (sRet (tTupD (tCs (tV 1) tN))))))

def b__law_drawn_listeners_1 (S : List Addr) : TSd := (sMeth 8 mApp (tCs (tFn S sp__law_drawn_deed (tCs (tV 0) (tCs (tFn S sp__law_chosen (tCs (tV 0) (tCs (tV 4) tN))) (tCs (tV 5) (tCs (tV 1) (tCs (tV 2) tN)))))) tN))
def b__law_drawn_listeners_2 (S : List Addr) : TSd := (sSeq (sOwn (tLstD tN) 8)
  (sSeq (sFor (tRng1 (tCs (tBin mulD (tBin ixD (tLstD (tCs (tK (.int 0)) (tCs (tK (.int 0)) (tCs (tK (.int 1)) (tCs (tK (.int 1)) (tCs (tK (.int 2)) (tCs (tK (.int 3)) tN))))))) (tFn S sp__law_pick (tCs (tV 0) (tCs (tK (.int 6)) tN)))) (tCl intDD (tCs (tBin neD (tO 4) (tLstD tN)) tN))) tN)) (.n 9)
  (b__law_drawn_listeners_1 S))
  (sSeq (sAsg (tTupD (tCs (tBin eqD (tFn S sp__law_pick (tCs (tV 0) (tCs (tK (.int 3)) tN))) (tK (.int 0))) (tCs (tBin eqD (tFn S sp__law_pick (tCs (tV 0) (tCs (tK (.int 4)) tN))) (tK (.int 0))) (tCs (tBin eqD (tFn S sp__law_pick (tCs (tV 0) (tCs (tK (.int 4)) tN))) (tK (.int 0))) tN)))) (.n 10))
  (sSeq (sAsg (tBin ixD (tFn S sp__law_chosen (tCs (tV 0) (tCs (tV 2) tN))) (tK (.int 0))) (.n 11))
  (sSeq (sAsg (tBin ixD (tFn S sp__law_chosen (tCs (tV 0) (tCs (tV 1) tN))) (tK (.int 0))) (.n 12))
  (sMeth 6 mApp (tCs (tBin addD (tBin addD (tTupD (tCs (tV 7) (tCs (tV 11) (tCs (tV 12) tN)))) (tO 10)) (tTupD (tCs (tCl tupleD (tCs (tO 8) tN)) tN))) tN)))))))
def b__law_drawn_listeners (S : List Addr) : TSd := (sSeq (sAsg (tSlD (tLstD (tCs (tK (.str "j")) (tCs (tK (.str "k")) (tCs (tK (.str "lo")) (tCs (tK (.str "m")) (tCs (tK (.str "n")) (tCs (tK (.str "oak")) (tCs (tK (.str "p")) (tCs (tK (.str "q")) (tCs (tK (.str "r")) (tCs (tK (.str "s")) (tCs (tK (.str "t")) (tCs (tK (.str "ux")) tN))))))))))))) tONo (tOSo (tFn S sp__law_pick (tCs (tV 0) (tCs (tBin addD (tO 3) (tK (.int 1))) tN))))) (.n 5))
  (sSeq (sOwn (tLstD tN) 6)
  (sSeq (sFor (tItems (tV 5)) (.n 7)
  (b__law_drawn_listeners_2 S))
  (sRet (tCl tupleD (tCs (tO 6) tN))))))

def b__law_drawn_on (S : List Addr) : TSd := (sRet (tCl tupleD (tCs (tComp (.n 2) (tIsB (tBin gtD (tFn S sp__law_pick (tCs (tV 0) (tCs (tK (.int 5)) tN))) (tK (.int 0)))) (tV 2) [2] (tItems (tFn S sp__law_mixed (tCs (tV 0) (tCs (tV 1) tN))))) tN)))

def b__law_drawn_page (S : List Addr) : TSd := (sSeq (sPar 4 5 (tCs (tFn S sp__law_drawn_sorts (tCs (tV 0) (tCs (tK (.int 2)) tN))) (tCs (tFn S sp__law_drawn_boxes (tCs (tV 0) (tCs (tBin ixD (tO 1) (tK (.int 0))) tN))) tN)))
  (sSeq (sAsg (tFn S sp__law_drawn_listeners (tCs (tV 0) (tCs (tV 4) (tCs (tV 5) (tCs (tBin ixD (tO 1) (tK (.int 1))) (tCs (tV 2) tN)))))) (.n 3))
  (sRet (tTupD (tCs (tV 4) (tCs (tV 3) (tCs (tV 5) (tCs (tFn S sp__law_drawn_on (tCs (tV 0) (tCs (tComp (.n 6) tYesD (tBin ixD (tO 6) (tK (.int 0))) [6] (tItems (tO 3))) tN))) tN))))))))

theorem compD_sub {α : Type} {τ : Tgt} {tt : TB} {te : T} {ρ : DEnv} (f : α → D) : ∀ (xs : List α) {Q : List D → Prop},
    (∀ x ∈ xs, ∃ ρ', asg τ (f x) ρ = some ρ' ∧ (∀ Q : Bool → Prop, (∀ b, Q b) → tt ρ' Q NoE) ∧ (∀ Q : D → Prop, Q (f x) → te ρ' Q NoE)) → (∀ ys : List α, ys.Sublist xs → Q (ys.map f)) → compD τ tt te (xs.map f) ρ Q
  | [], Q, _, q => q [] (.refl _)
  | x :: xs, Q, h, q => by
    obtain ⟨ρ', e, h1, h2⟩ := h x (List.mem_cons_self ..)
    simp only [List.map_cons, compD, e]
    refine h1 _ fun b => ?_
    cases b with
    | true => exact h2 _ (compD_sub f xs (fun y hy => h y (List.mem_cons_of_mem _ hy)) fun ys hs => by simpa using q (x :: ys) (hs.cons₂ x))
    | false => exact compD_sub f xs (fun y hy => h y (List.mem_cons_of_mem _ hy)) fun ys hs => q ys (hs.cons x)
theorem pure__law_drawn_sorts : ∀ S ds Q E, sp__law_drawn_sorts S ds Q E → b__law_drawn_sorts S { nx := fun _ => Q .non, rt := ptR Q, ex := fun x _ => E x } (start0 ["source", "most", "found", "name", "rises", "far"] ds) := by
  rintro S _ Q E ⟨⟨a, m⟩, rfl, ⟨ha, h0, h1⟩, q⟩
  replace q : ∀ ss, DrawnSorts m ss → Q (sortsD ss) := fun ss h => q _ ⟨ss, h, rfl⟩
  replace ha : a ∈ S := ha
  replace h0 : 0 < m := h0
  replace h1 : m ≤ 3 := h1
  unfold b__law_drawn_sorts
  have hs : sizeLine = 16777216 := rfl
  simp [-D.ok, -okA]
  refine ⟨by omega, pick ha (by omega) (by omega) fun i i0 i1 => ?_⟩
  simp [-D.ok, -okA]
  rw [cut_take _ _ (by omega)]
  have hk : (1 + i).toNat = i.toNat + 1 := by omega
  rw [hk]
  have ek : ([D.str "pop", .str "tap", .str "zip"] : List D).take (i.toNat + 1) = (sortNames.take (i.toNat + 1)).map D.str := by rw [List.map_take]; rfl
  rw [ek]
  refine forD_rule (fun ds ρ => ∃ (rest : List Str) (accD : List D) (acc : List SortR) (x3 x4 x5 : Option Sl), ds = rest.map D.str ∧ ρ = [some (.p (.ref a)), some (.p (.int m)), some (.o (.lst accD)), x3, x4, x5] ∧ accD = acc.map srtD ∧ acc.map (·.1) ++ rest = sortNames.take (i.toNat + 1)) (fun d rest ρ hI => ?_) (fun ρ hI => ?_) _ _
    ⟨_, [], [], none, none, none, rfl, rfl, rfl, rfl⟩
  · obtain ⟨rs, accD, acc, x3, x4, x5, e, rfl, eA, hE⟩ := hI
    cases rs with
    | nil => cases e
    | cons n rs =>
      cases e
      refine ⟨_, rfl, fun N hN => ?_⟩
      unfold b__law_drawn_sorts_1
      have hl : accD.length ≤ 3 := by
        have := congrArg List.length hE
        simp [sortNames] at this
        rw [eA, List.length_map]; omega
      simp [-D.ok, -okA]
      refine pick ha (by omega) (by omega) fun j j0 j1 => ?_
      simp [-D.ok, -okA]
      refine pick ha (by omega) (by omega) fun j2 j20 j21 => ?_
      simp [-D.ok, -okA]
      refine pick ha (by omega) (by omega) fun j3 j30 j31 => ?_
      simp [-D.ok, -okA, mApp]
      exact ⟨by omega, by omega, hN _ ⟨rs, _, acc ++ [(n, decide (0 < j), decide (0 < j2), decide (0 < j3))], _, _, _, rfl, rfl, by rw [eA, List.map_append]; rfl, by simpa using hE⟩⟩
  · obtain ⟨rs, accD, acc, x3, x4, x5, e, rfl, eA, hE⟩ := hI
    cases rs with
    | cons => cases e
    | nil =>
      simp [-D.ok, -okA]
      have := q acc ⟨i.toNat, by omega, by simpa using hE⟩
      rw [eA]; exact this
theorem chosenRow {S : List Addr} {a : Addr} {rows : List Row} {Q : D → Prop} (ha : a ∈ S) (h0 : 0 < rows.length) (h1 : rows.length ≤ 50) (q : ∀ r ∈ rows, Q (rowD r)) : ∃ (a' : Addr) (ys : List D) (l' : Bool), [D.ref a, boxesD rows] = [.ref a', sqv l' ys] ∧ a' ∈ S ∧ 0 < ys.length ∧ ys.length ≤ 2 ^ 20 ∧ ∀ x ∈ ys, Q x :=
  ⟨a, rows.map rowD, false, rfl, ha, by rw [List.length_map]; exact h0, by rw [List.length_map]; omega, fun x hx => by obtain ⟨r, hr, rfl⟩ := List.mem_map.mp hx; exact q r hr⟩
theorem chosenSort {S : List Addr} {a : Addr} {ss : List SortR} {Q : D → Prop} (ha : a ∈ S) (h0 : 0 < ss.length) (h1 : ss.length ≤ 50) (q : ∀ r ∈ ss, Q (srtD r)) : ∃ (a' : Addr) (ys : List D) (l' : Bool), [D.ref a, sortsD ss] = [.ref a', sqv l' ys] ∧ a' ∈ S ∧ 0 < ys.length ∧ ys.length ≤ 2 ^ 20 ∧ ∀ x ∈ ys, Q x :=
  ⟨a, ss.map srtD, false, rfl, ha, by rw [List.length_map]; exact h0, by rw [List.length_map]; omega, fun x hx => by obtain ⟨r, hr, rfl⟩ := List.mem_map.mp hx; exact q r hr⟩
theorem chosenStr {S : List Addr} {a : Addr} {ss : List Str} {Q : D → Prop} (ha : a ∈ S) (h0 : 0 < ss.length) (h1 : ss.length ≤ 50) (q : ∀ r ∈ ss, Q (.str r)) : ∃ (a' : Addr) (ys : List D) (l' : Bool), [D.ref a, stL ss] = [.ref a', sqv l' ys] ∧ a' ∈ S ∧ 0 < ys.length ∧ ys.length ≤ 2 ^ 20 ∧ ∀ x ∈ ys, Q x :=
  ⟨a, ss.map D.str, true, rfl, ha, by rw [List.length_map]; exact h0, by rw [List.length_map]; omega, fun x hx => by obtain ⟨r, hr, rfl⟩ := List.mem_map.mp hx; exact q r hr⟩
theorem pure__law_drawn_deed : ∀ S ds Q E, sp__law_drawn_deed S ds Q E → b__law_drawn_deed S { nx := fun _ => Q .non, rt := ptR Q, ex := fun x _ => E x } (start0 ["source", "word", "names", "sorts", "boxes"] ds) := by
  rintro S _ Q E ⟨⟨a, w, ns, ss, bs⟩, rfl, ⟨ha, hw, ⟨n0, n1⟩, ⟨s0, s1⟩, ⟨b0, b1⟩⟩, q⟩
  replace q : ∀ e : Deed, DeedIn ns (ss.map (·.1)) (names bs) e → e.word = w → Q (deedD e) := fun e h1 h2 => q _ ⟨e, h1, h2, rfl⟩
  replace ha : a ∈ S := ha
  replace hw : w ∈ allWords := hw
  replace n0 : 0 < ns.length := n0
  replace n1 : ns.length ≤ 50 := n1
  replace s0 : 0 < ss.length := s0
  replace s1 : ss.length ≤ 50 := s1
  replace b0 : 0 < bs.length := b0
  replace b1 : bs.length ≤ 50 := b1
  unfold b__law_drawn_deed
  have hs : sizeLine = 16777216 := rfl
  have hwok : ∀ w ∈ allWords, (D.str w).ok = true := fun w hw => by
    have h : (allWords.all fun w => (D.str w).ok) = true := by decide +kernel
    exact List.all_eq_true.mp h w hw
  have hx := hwok w hw
  have c1 : (D.str "move").ok = true := by decide +kernel
  have c2 : (D.str "send").ok = true := by decide +kernel
  have l1 : 1 ≤ sizeLine := by decide
  have l2 : 2 ≤ sizeLine := by decide
  have l3 : 3 ≤ sizeLine := by decide
  obtain ⟨k1, hk1⟩ : ∃ k, (["on", "off"] : List Str).contains w = k := ⟨_, rfl⟩
  have i1 : D.isIn (.str w) (.lst [.str "on", .str "off"]) = some k1 := hk1 ▸ in_lstS (xs := ["on", "off"]) hx (by show okA _ = true; decide +kernel)
  have rowM : ∀ {r : Row}, r ∈ bs → r.1 ∈ names bs := fun hr => List.mem_map.mpr ⟨_, hr, rfl⟩
  have srtM : ∀ {r : SortR}, r ∈ ss → r.1 ∈ ss.map (·.1) := fun hr => List.mem_map.mpr ⟨_, hr, rfl⟩
  simp [-D.ok, -okA, -D.isIn, i1, l1, l2, l3, c1, c2, hx]
  cases k1
  · simp only
    have hno : w ≠ "on" ∧ w ≠ "off" := by
      simp only [List.contains_cons, List.contains_nil, Bool.or_false, Bool.or_eq_false_iff, beq_eq_false_iff_ne] at hk1; exact hk1
    cases h1 : w == ("move" : Str)
    · simp only
      have h1 := beq_eq_false_iff_ne.mp h1
      cases h2 : w == ("send" : Str)
      · simp only
        have h2 := beq_eq_false_iff_ne.mp h2
        simp only [allWords, List.mem_cons, List.not_mem_nil, or_false] at hw
        rcases hw with rfl | rfl | rfl | rfl | rfl | rfl | rfl
        · exact q .stop trivial rfl
        · exact q .halt trivial rfl
        · exact q .bar trivial rfl
        · exact absurd rfl hno.1
        · exact absurd rfl hno.2
        · exact absurd rfl h1
        · exact absurd rfl h2
      · have h2 : w = "send" := by simpa using h2
        subst h2
        refine chosenSort ha s0 s1 fun s hs => ?_
        simp [srtD, -D.ok, -okA]
        refine chosenRow ha b0 b1 fun r hr => ?_
        simp [rowD, -D.ok, -okA]
        exact q (.send s.1 r.1) ⟨srtM hs, rowM hr⟩ rfl
    · have h1 : w = "move" := by simpa using h1
      subst h1
      refine chosenRow ha b0 b1 fun s hs => ?_
      simp [rowD, -D.ok, -okA]
      refine chosenRow ha b0 b1 fun r hr => ?_
      simp [rowD, -D.ok, -okA]
      exact q (.move s.1 r.1) ⟨rowM hs, rowM hr⟩ rfl
  · simp only
    refine chosenStr ha n0 n1 fun n hn => ?_
    have hm : w ∈ (["on", "off"] : List Str) := List.contains_iff_mem.mp hk1
    simp only [List.mem_cons, List.not_mem_nil, or_false] at hm
    rcases hm with rfl | rfl
    · exact q (.on n) hn rfl
    · exact q (.off n) hn rfl
theorem okS_words {ws : List Str} (h : ∀ w ∈ ws, w ∈ allWords) : okS ws := (okA_strs _).mpr fun x hx => by
  have h2 : (allWords.all fun w => (D.str w).ok) = true := by decide +kernel
  exact List.all_eq_true.mp h2 x (h x hx)
theorem eqv_nilS (ws : List Str) : (D.lst (ws.map D.str)).eqv (.lst []) = ws.isEmpty := by cases ws <;> rfl
theorem pure__law_drawn_listeners : ∀ S ds Q E, sp__law_drawn_listeners S ds Q E → b__law_drawn_listeners S { nx := fun _ => Q .non, rt := ptR Q, ex := fun x _ => E x } (start0 ["source", "sorts", "boxes", "most", "words", "names", "found", "name", "deeds", "turn", "truths", "box", "sort"] ds) := by
  rintro S _ Q E ⟨⟨a, ss, bs, m, ws⟩, rfl, ⟨ha, ⟨s0, s1⟩, ⟨b0, b1⟩, hm, hw, hwl⟩, q⟩
  replace q : ∀ ls, DrawnLs m (ss.map (·.1)) (names bs) ws ls → Q (.tup (ls.map lrD)) := fun ls h => q _ ⟨ls, h, rfl⟩
  replace ha : a ∈ S := ha
  replace s0 : 0 < ss.length := s0
  replace s1 : ss.length ≤ 50 := s1
  replace b0 : 0 < bs.length := b0
  replace b1 : bs.length ≤ 50 := b1
  replace hm : m ≤ 12 := hm
  replace hw : ∀ w ∈ ws, w ∈ allWords := hw
  replace hwl : ws.length ≤ 50 := hwl
  have okw := okS_words hw
  unfold b__law_drawn_listeners
  have hs : sizeLine = 16777216 := rfl
  refine seq_intro fun K1 hK1 => ?_
  simp [-D.ok, -okA]
  refine ⟨by omega, pick ha (by omega) (by omega) fun i i0 i1 => ?_⟩
  simp [-D.ok, -okA]
  rw [cut_take _ _ (by omega)]
  have ek : ([D.str "j", .str "k", .str "lo", .str "m", .str "n", .str "oak", .str "p", .str "q", .str "r", .str "s", .str "t", .str "ux"] : List D).take i.toNat = (lNames.take i.toNat).map D.str := by rw [List.map_take]; rfl
  rw [ek]
  obtain ⟨nms, hnms⟩ : ∃ nms, lNames.take i.toNat = nms := ⟨_, rfl⟩
  rw [hnms]
  have hnl : nms.length ≤ 12 := by rw [← hnms, List.length_take]; exact Nat.min_le_right ..
  refine hK1 _ ?_
  refine seq_intro fun K2 hK2 => ?_
  simp [-D.ok, -okA]
  refine hK2 _ ?_
  refine seq_intro fun K3 hK3 => ?_
  simp [-D.ok, -okA]
  refine forD_rule (fun ds ρ => ∃ (rest : List Str) (accD : List D) (acc : List LRow) (x7 x8 x9 x10 x11 x12 : Option Sl), ds = rest.map D.str ∧
    ρ = [some (.p (.ref a)), some (.p (sortsD ss)), some (.p (boxesD bs)), some (.p (.int m)), some (.p (stL ws)), some (.p (stL nms)), some (.o (.lst accD)), x7, x8, x9, x10, x11, x12] ∧ accD = acc.map lrD ∧
    acc.map (·.name) ++ rest = nms ∧ ∀ l ∈ acc, DrawnL nms (ss.map (·.1)) (names bs) ws l) (fun d rest ρ hI => ?_) (fun ρ hI => ?_) _ _
    ⟨nms, [], [], none, none, none, none, none, none, rfl, rfl, rfl, rfl, fun _ h => nomatch h⟩
  · obtain ⟨rs, accD, acc, x7, x8, x9, x10, x11, x12, e, rfl, eA, hE, hR⟩ := hI
    cases rs with
    | nil => cases e
    | cons n rs =>
      cases e
      refine ⟨_, rfl, fun N hN => ?_⟩
      unfold b__law_drawn_listeners_2
      have hl : accD.length ≤ 12 := by
        have := congrArg List.length hE
        simp at this
        rw [eA, List.length_map]; omega
      have npos : 0 < nms.length := by
        have := congrArg List.length hE
        simp at this; omega
      refine seq_intro fun K4 hK4 => ?_
      simp [-D.ok, -okA]
      refine hK4 _ ?_
      refine seq_intro fun K5 hK5 => ?_
      have turns : ∀ (x : Int), x ∈ ([0, 0, 1, 1, 2, 3] : List Int) → 0 ≤ x ∧ x ≤ 3 := fun x hx => by
        simp only [List.mem_cons, List.not_mem_nil, or_false] at hx; omega
      have loop : ∀ c : Nat, c ≤ 3 → (ws = [] → c = 0) → forD (.n 9) (b__law_drawn_listeners_1 S) (rngL 0 c) { nx := K5, rt := ptR Q, ex := fun x _ => E x, bk := K3, ct := N } [some (.p (.ref a)), some (.p (sortsD ss)), some (.p (boxesD bs)), some (.p (.int m)), some (.p (stL ws)), some (.p (stL nms)), some (.o (.lst accD)), some (.p (.str n)), some (.o (.lst [])), x9, x10, x11, x12] := fun c hc hc0 => by
        refine forD_rule (fun ds ρ => ∃ (dD : List D) (dl : List Deed) (x9 : Option Sl), ρ = [some (.p (.ref a)), some (.p (sortsD ss)), some (.p (boxesD bs)), some (.p (.int m)), some (.p (stL ws)), some (.p (stL nms)), some (.o (.lst accD)), some (.p (.str n)), some (.o (.lst dD)), x9, x10, x11, x12] ∧
          dD = dl.map deedD ∧ dl.length + ds.length = c ∧ ∀ d ∈ dl, DeedIn nms (ss.map (·.1)) (names bs) d ∧ d.word ∈ ws) (fun d rest ρ hI => ?_) (fun ρ hI => ?_) _ _ ⟨[], [], x9, rfl, rfl, by simp [rngL], fun _ h => nomatch h⟩
        · obtain ⟨dD, dl, x9, rfl, eD, hc2, hd⟩ := hI
          refine ⟨_, rfl, fun N2 hN2 => ?_⟩
          have wpos : 0 < ws.length := by
            rcases Nat.eq_zero_or_pos ws.length with z | z
            · have := hc0 (List.eq_nil_of_length_eq_zero z)
              simp at hc2; omega
            · exact z
          unfold b__law_drawn_listeners_1
          simp [-D.ok, -okA]
          refine chosenStr ha wpos hwl fun w hww => ?_
          refine ⟨⟨a, w, nms, ss, bs⟩, rfl, ⟨ha, hw w hww, ⟨npos, by show nms.length ≤ 50; omega⟩, ⟨s0, s1⟩, ⟨b0, b1⟩⟩, fun d hd2 => ?_⟩
          obtain ⟨e, he1, he2, rfl⟩ := hd2
          have hdl : dD.length ≤ 3 := by
            simp at hc2
            rw [eD, List.length_map]; omega
          simp [mApp]
          exact ⟨by omega, hN2 _ ⟨_, dl ++ [e], _, rfl, by rw [eD, List.map_append]; rfl, by simp at hc2 ⊢; omega, fun d hd3 => by
            rcases List.mem_append.mp hd3 with z | z
            · exact hd d z
            · rw [List.mem_singleton.mp z]
              exact ⟨he1, by rw [he2]; exact hww⟩⟩⟩
        · obtain ⟨dD, dl, x9, rfl, eD, hc2, hd⟩ := hI
          refine hK5 _ ?_
          have hdl : dl.length ≤ 3 := by simp at hc2; omega
          have hdD : dD.length ≤ 3 := by rw [eD, List.length_map]; exact hdl
          refine seq_intro fun K6 hK6 => ?_
          simp [-D.ok, -okA]
          refine pick ha (by omega) (by omega) fun t1 t10 t11 => ?_
          simp [-D.ok, -okA]
          refine pick ha (by omega) (by omega) fun t2 t20 t21 => ?_
          simp [-D.ok, -okA]
          refine pick ha (by omega) (by omega) fun t3 t30 t31 => ?_
          simp [-D.ok, -okA]
          refine ⟨by omega, hK6 _ ?_⟩
          refine seq_intro fun K7 hK7 => ?_
          simp [-D.ok, -okA]
          refine chosenRow ha b0 b1 fun r hr => ?_
          simp [rowD, -D.ok, -okA]
          refine hK7 _ ?_
          refine seq_intro fun K8 hK8 => ?_
          simp [-D.ok, -okA]
          refine chosenSort ha s0 s1 fun s hs => ?_
          simp [srtD, -D.ok, -okA]
          refine hK8 _ ?_
          simp [-D.ok, -okA, mApp]
          refine ⟨by omega, by omega, by omega, by omega, by omega, hN _ ⟨rs, _, acc ++ [⟨n, r.1, s.1, t1 == 0, t2 == 0, t3 == 0, dl⟩], _, _, _, _, _, _, rfl, rfl, ?_, ?_, fun l hl => ?_⟩⟩
          · rw [eA, eD, List.map_append]; rfl
          · rw [List.map_append]; simpa using hE
          · rcases List.mem_append.mp hl with z | z
            · exact hR l z
            · rw [List.mem_singleton.mp z]
              exact ⟨List.mem_map.mpr ⟨r, hr, rfl⟩, List.mem_map.mpr ⟨s, hs, rfl⟩, hdl, hd⟩
      have okW : (stL ws).ok = true := okw
      have dpW : min (stL ws).dep 1 ≤ 64 := by omega
      simp [-D.ok, -okA, okW, dpW]
      refine ⟨by omega, pick ha (by omega) (by omega) fun k0 k00 k01 => ?_⟩
      obtain ⟨x, hx, hxe⟩ : ∃ x, x ∈ ([0, 0, 1, 1, 2, 3] : List Int) ∧ atI [D.int 0, .int 0, .int 1, .int 1, .int 2, .int 3] k0 = some (.int x) := by
        obtain ⟨d, hd, e⟩ := atI_some (xs := [D.int 0, .int 0, .int 1, .int 1, .int 2, .int 3]) k00 (by simpa using k01)
        simp only [List.mem_cons, List.not_mem_nil, or_false] at hd
        rcases hd with rfl | rfl | rfl | rfl | rfl | rfl <;> exact ⟨_, by simp, e⟩
      have hx3 := turns x hx
      have en : (stL ws).eqv (.lst []) = ws.isEmpty := eqv_nilS ws
      simp [-D.ok, -okA, hxe, en]
      have hb : ∀ b : Bool, bI b = 0 ∨ bI b = 1 := fun b => by cases b <;> simp [bI]
      cases hwe : ws.isEmpty
      · have e1 : bI true = 1 := rfl
        simp only [Bool.not_false, e1, Int.mul_one]
        exact ⟨.inl ⟨by omega, by omega⟩, ⟨by omega, by omega, by omega⟩, loop x.toNat (by omega) fun z => by rw [z] at hwe; cases hwe⟩
      · have e1 : bI false = 0 := rfl
        simp only [Bool.not_true, e1, Int.mul_zero]
        exact ⟨.inl ⟨by omega, by omega⟩, ⟨by omega, by omega, by omega⟩, loop 0 (by omega) fun _ => rfl⟩
  · obtain ⟨rs, accD, acc, x7, x8, x9, x10, x11, x12, e, rfl, eA, hE, hR⟩ := hI
    cases rs with
    | cons => cases e
    | nil =>
      refine hK3 _ ?_
      simp [-D.ok, -okA]
      rw [eA]
      have hE : acc.map (·.name) = nms := by simpa using hE
      refine q acc ⟨⟨i.toNat, by omega, by rw [hE, hnms]⟩, fun l hl => ?_⟩
      rw [hE]; exact hR l hl
theorem pure__law_drawn_on : ∀ S ds Q E, sp__law_drawn_on S ds Q E → b__law_drawn_on S { nx := fun _ => Q .non, rt := ptR Q, ex := fun x _ => E x } (start0 ["source", "names", "name"] ds) := by
  rintro S _ Q E ⟨⟨a, ns⟩, rfl, ⟨ha, nd, hl⟩, q⟩
  replace q : ∀ on : List Str, on.Nodup → (∀ y ∈ on, y ∈ ns) → Q (.tup (on.map D.str)) := fun on h1 h2 => q _ ⟨on, h1, h2, rfl⟩
  replace ha : a ∈ S := ha
  replace nd : ns.Nodup := nd
  replace hl : ns.length ≤ 50 := hl
  unfold b__law_drawn_on
  simp [-D.ok, -okA]
  refine ⟨a, ns.map D.str, rfl, ha, by rw [List.length_map]; omega, fun ys hp => ?_⟩
  obtain ⟨zs, hz, rfl⟩ := perm_lift (f := D.str) hp (Z := ns) rfl
  simp [-D.ok, -okA]
  refine compD_sub D.str zs (fun x hx => ⟨_, rfl, fun Q q => ?_, fun Q q => by simpa [wipeD] using q⟩) fun on hs => ?_
  · simp [wipeD]
    exact pick ha (by omega) (by omega) fun i i0 i1 => by simpa using q _
  · exact q on ((hz.nodup_iff.mpr nd).sublist hs) fun y hy => hz.mem_iff.mp (hs.subset hy)
theorem DrawnSorts.pos {m : Nat} {ss : List SortR} (h : DrawnSorts m ss) : 0 < ss.length ∧ ss.length ≤ 3 := by
  obtain ⟨k, h1, h2⟩ := h
  have := congrArg List.length h2
  simp [sortNames] at this
  omega
theorem Drawn.pos {rows : List Row} (h : Drawn rows) : 0 < rows.length ∧ rows.length ≤ 8 := by
  obtain ⟨b, hosts, houses, slots, hb, hp, _, hl⟩ := h
  have := hb.ok.pos
  rw [hp.length_eq]; omega
theorem lNames_nd : lNames.Nodup := by decide +kernel
theorem pure__law_drawn_page : ∀ S ds Q E, sp__law_drawn_page S ds Q E → b__law_drawn_page S { nx := fun _ => Q .non, rt := ptR Q, ex := fun x _ => E x } (start0 ["source", "most", "words", "rows", "sorts", "boxes", "row"] ds) := by
  rintro S _ Q E ⟨⟨a, mb, ml, ws⟩, rfl, ⟨ha, ⟨b0, b1⟩, l1, hw, hwl⟩, q⟩
  replace q : ∀ p, DrawnPage mb ml ws p → Q (pageD p) := fun p h => q _ ⟨p, h, rfl⟩
  replace ha : a ∈ S := ha
  replace b0 : 0 < mb := b0
  replace b1 : mb ≤ 8 := b1
  replace l1 : ml ≤ 12 := l1
  replace hw : ∀ w ∈ ws, w ∈ allWords := hw
  replace hwl : ws.length ≤ 50 := hwl
  unfold b__law_drawn_page
  have hs : sizeLine = 16777216 := rfl
  refine seq_intro fun K1 hK1 => ?_
  simp [-D.ok, -okA]
  refine ⟨⟨a, 2⟩, rfl, ⟨ha, by show 0 < 2; omega, by show 2 ≤ 3; omega⟩, fun d hd => ?_⟩
  obtain ⟨ss, hss, rfl⟩ := hd
  refine ⟨a, mb, rfl, ha, by omega, by omega, fun rows hd hrl => ?_⟩
  refine hK1 _ ?_
  have sp := hss.pos
  have rp := hd.pos
  refine seq_intro fun K2 hK2 => ?_
  simp [-D.ok, -okA]
  refine ⟨⟨a, ss, rows, ml, ws⟩, rfl, ⟨ha, ⟨sp.1, by show ss.length ≤ 50; omega⟩, ⟨rp.1, by show rows.length ≤ 50; omega⟩, l1, hw, hwl⟩, fun d hls => ?_⟩
  obtain ⟨ls, hls, rfl⟩ := hls
  refine hK2 _ ?_
  have hls : DrawnLs ml (ss.map (·.1)) (names rows) ws ls := hls
  obtain ⟨k, hk1, hk2⟩ := hls.nm
  have nnd : (ls.map (·.name)).Nodup := by rw [hk2]; exact lNames_nd.sublist (List.take_sublist _ _)
  have nl : (ls.map (·.name)).length ≤ 12 := by rw [hk2, List.length_take]; exact Nat.min_le_right ..
  simp [-D.ok, -okA]
  refine compD_map lrD (fun l => .str l.name) ls (fun l hl => ⟨_, rfl, fun Q q => by simpa [lrD, wipeD] using q⟩) ?_
  have e : (ls.map fun l => D.str l.name) = (ls.map (·.name)).map D.str := by rw [List.map_map]; rfl
  rw [e]
  refine ⟨⟨a, ls.map (·.name)⟩, rfl, ⟨ha, nnd, by show (ls.map (·.name)).length ≤ 50; omega⟩, fun d hd2 => ?_⟩
  obtain ⟨on, o1, o2, rfl⟩ := hd2
  exact ⟨by omega, q ⟨ss, ls, rows, on⟩ ⟨hss, hd, by simpa using hrl, hls, o1, o2⟩⟩
end DL.TB

set_option Elab.async false
set_option linter.all false
set_option maxRecDepth 100000
set_option maxHeartbeats 1000000
/-! drawn pages as values, plain -/
namespace DL.TB
open PySem PySem.Spec PyProof.Rows L2
theorem AllV.cut {n : Nat} {xs : List D} (h : AllV n xs) (lo hi : Option Int) : AllV n (cut xs lo hi) := fun y hy => by
  unfold DL.cut at hy
  exact h y (List.mem_of_mem_drop (List.mem_of_mem_take hy))
theorem AllV.app {n : Nat} {xs ys : List D} (h : AllV n xs) (h' : AllV n ys) : AllV n (xs ++ ys) := fun y hy => (List.mem_append.mp hy).elim (h y) (h' y)
theorem AllV.nil {n : Nat} : AllV n [] := fun _ h => nomatch h
theorem AllV.cons {n : Nat} {x : D} {xs : List D} (h : AnyV n x) (h' : AllV n xs) : AllV n (x :: xs) := fun y hy => (List.mem_cons.mp hy).elim (fun e => e ▸ h) (h' y)
theorem AllV.up {n m : Nat} {xs : List D} (h : AllV n xs) (l : n ≤ m) : AllV m xs := fun y hy => (h y hy).up l
theorem AnyV.str {x : Str} (h : (D.str x).ok = true) : AnyV 0 (.str x) := ⟨h, Nat.le_refl _, rfl⟩
theorem AnyV.bl {x : Bool} : AnyV 0 (.bl x) := ⟨rfl, Nat.le_refl _, rfl⟩
theorem AnyV.t {n : Nat} {xs : List D} (h : AllV n xs) (hl : xs.length ≤ 50 := by simp) : AnyV (n + 1) (.tup xs) := h.tup hl
theorem AnyV.deep {n : Nat} {d : D} (h : AnyV n d) (hn : n ≤ 60) : Deep d := ⟨h.1, h.2.2, Nat.le_trans h.2.1 hn⟩
theorem allv_map {α : Type} {n : Nat} {f : α → D} {xs : List α} (h : ∀ x ∈ xs, AnyV n (f x)) : AllV n (xs.map f) := fun d hd => by
  obtain ⟨x, hx, rfl⟩ := List.mem_map.mp hd; exact h x hx
theorem lNames_ok : ∀ x ∈ lNames, (D.str x).ok = true := fun x hx => by
  have h : (lNames.all fun x => (D.str x).ok) = true := by decide +kernel
  exact List.all_eq_true.mp h x hx
theorem sortNames_ok : ∀ x ∈ sortNames, (D.str x).ok = true := fun x hx => by
  have h : (sortNames.all fun x => (D.str x).ok) = true := by decide +kernel
  exact List.all_eq_true.mp h x hx
theorem Drawn.oks {rows : List Row} (h : Drawn rows) : ∀ r ∈ rows, (D.str r.1).ok = true ∧ (oD r.2.1).ok = true ∧ (D.str r.2.2).ok = true := fun r hr => by
  obtain ⟨b, hosts, houses, slots, hB, hp, _, hl⟩ := h
  have bo := hB.ok
  have hr := hp.mem_iff.mp hr
  refine ⟨boxNames_ok _ (bo.nm _ (List.mem_map.mpr ⟨r, hr, rfl⟩)), ?_, ?_⟩
  · cases hu : r.2.1 with
    | none => rfl
    | some u => exact boxNames_ok _ (bo.nm _ (bo.un r hr u hu))
  · have h : (([("plain" : Str), "door", "slot"] : List Str).all fun x => (D.str x).ok) = true := by decide +kernel
    exact List.all_eq_true.mp h _ (bo.ro r hr)
theorem oD_any {u : Option Str} (h : (oD u).ok = true) : AnyV 0 (oD u) := by
  cases u with
  | none => exact ⟨rfl, Nat.le_refl _, rfl⟩
  | some u => exact .str h
theorem row_any {r : Row} (h : (D.str r.1).ok = true ∧ (oD r.2.1).ok = true ∧ (D.str r.2.2).ok = true) : AnyV 1 (rowD r) :=
  .t (.cons (.str h.1) (.cons (oD_any h.2.1) (.cons (.str h.2.2) .nil)))
/-- what is drawn is narrow -/
structure PageV (p : Page) : Prop where
  ss : AllV 1 (p.sorts.map srtD)
  ls : AllV 3 (p.ls.map lrD)
  bs : AllV 1 (p.boxes.map rowD)
  on : AllV 0 (p.on.map D.str)
  sl : p.sorts.length ≤ 3
  s0 : 0 < p.sorts.length
  ll : p.ls.length ≤ 12
  bl : p.boxes.length ≤ 8
  b0 : 0 < p.boxes.length
  ol : p.on.length ≤ 12
theorem DrawnPage.v {mb ml : Nat} {ws : List Str} {p : Page} (h : DrawnPage mb ml ws p) : PageV p := by
  have sp := h.ss.pos
  have bp := h.bs.pos
  obtain ⟨k, hk, hk2⟩ := h.ss
  obtain ⟨kl, hl, hl2⟩ := h.ls.nm
  have sn : ∀ x ∈ p.sorts.map (·.1), (D.str x).ok = true := fun x hx => sortNames_ok x (by rw [hk2] at hx; exact List.mem_of_mem_take hx)
  have ln : ∀ x ∈ p.ls.map (·.name), (D.str x).ok = true := fun x hx => lNames_ok x (by rw [hl2] at hx; exact List.mem_of_mem_take hx)
  have bn : ∀ x ∈ names p.boxes, (D.str x).ok = true := fun x hx => by
    obtain ⟨r, hr, rfl⟩ := List.mem_map.mp hx; exact (h.bs.oks r hr).1
  have lll : p.ls.length ≤ 12 := by
    have := congrArg List.length hl2
    rw [List.length_map, List.length_take] at this
    have e : lNames.length = 12 := rfl
    omega
  have wok : ∀ x : Str, x ∈ allWords → (D.str x).ok = true := fun x hx => by
    have h2 : (allWords.all fun w => (D.str w).ok) = true := by decide +kernel
    exact List.all_eq_true.mp h2 x hx
  refine ⟨allv_map fun s hs => ?_, allv_map fun l hl => ?_, allv_map fun r hr => row_any (h.bs.oks r hr), allv_map fun x hx => .str (ln x (h.onm x hx)), sp.2, sp.1, lll, bp.2, bp.1, ?_⟩
  · exact .t (.cons (.str (sn _ (List.mem_map.mpr ⟨s, hs, rfl⟩))) (.cons .bl (.cons .bl (.cons .bl .nil))))
  · have r := h.ls.row l hl
    have dv : AllV 1 (l.deeds.map deedD) := allv_map fun d hd => by
      have hd := (r.deeds d hd).1
      cases d with
      | stop => exact .t (.cons (.str (wok _ (by decide +kernel))) .nil)
      | halt => exact .t (.cons (.str (wok _ (by decide +kernel))) .nil)
      | bar => exact .t (.cons (.str (wok _ (by decide +kernel))) .nil)
      | on n => exact .t (.cons (.str (wok _ (by decide +kernel))) (.cons (.str (ln _ hd)) .nil))
      | off n => exact .t (.cons (.str (wok _ (by decide +kernel))) (.cons (.str (ln _ hd)) .nil))
      | move b u => exact .t (.cons (.str (wok _ (by decide +kernel))) (.cons (.str (bn _ hd.1)) (.cons (.str (bn _ hd.2)) .nil)))
      | send s b => exact .t (.cons (.str (wok _ (by decide +kernel))) (.cons (.str (sn _ hd.1)) (.cons (.str (bn _ hd.2)) .nil)))
    have dt : AnyV 2 (.tup (l.deeds.map deedD)) := dv.tup (by rw [List.length_map]; have := r.len; omega)
    exact AllV.tup (n := 2) (.cons ((AnyV.str (ln _ (List.mem_map.mpr ⟨l, hl, rfl⟩))).up (by omega)) (.cons ((AnyV.str (bn _ r.box)).up (by omega)) (.cons ((AnyV.str (sn _ r.sort)).up (by omega)) (.cons (AnyV.bl.up (by omega)) (.cons (AnyV.bl.up (by omega)) (.cons (AnyV.bl.up (by omega)) (.cons dt .nil))))))) (by simp)
  · have nd : (p.ls.map (·.name)).Nodup := by rw [hl2]; exact lNames_nd.sublist (List.take_sublist _ _)
    have := h.ond.length_le_of_subset h.onm
    rw [List.length_map] at this
    omega
theorem gs_ne {ρ : DEnv} {i j : Nat} {v : Option Sl} (h : i ≠ j) : (ρ.set i v)[j]? = ρ[j]? := List.getElem?_set_ne h
theorem gs_eq {ρ : DEnv} {i : Nat} {v : Option Sl} (h : i < ρ.length) : (ρ.set i v)[i]? = some v := List.getElem?_set_self h
theorem rngK (n : Nat) : rngL 0 n = (List.range n).map fun i => D.int ((i : Nat) : Int) := by
  unfold rngL
  exact List.map_congr_left fun i _ => by simp
theorem mm (n c : Nat) (h : n ≤ 63) (hc : c ≤ 63) : (-4611686018427387904 ≤ mxI 6 (mnI c n) ∧ mxI 6 (mnI c n) < 4611686018427387904 ∧ mxI 6 (mnI c n) ≤ (sizeLine : Int)) ∧ (mxI 6 (mnI c n)).toNat ≤ 63 := by
  have hs : (sizeLine : Int) = 16777216 := rfl
  simp only [mxI, mnI]
  split <;> (try split) <;> omega
theorem PageV.any {p : Page} (h : PageV p) : AllV 4 [D.tup (p.sorts.map srtD), .tup (p.ls.map lrD), .tup (p.boxes.map rowD), .tup (p.on.map D.str)] :=
  .cons ((h.ss.tup (by rw [List.length_map]; have := h.sl; omega)).up (by omega)) (.cons (h.ls.tup (by rw [List.length_map]; have := h.ll; omega)) (.cons ((h.bs.tup (by rw [List.length_map]; have := h.bl; omega)).up (by omega)) (.cons ((h.on.tup (by rw [List.length_map]; have := h.ol; omega)).up (by omega)) .nil)))
mutual
/-- no list of more than 49 things -/
def n49D : D → Bool
  | .lst xs => decide (xs.length ≤ 49) && n49A xs
  | .tup xs => decide (xs.length ≤ 49) && n49A xs
  | _ => true
def n49A : List D → Bool
  | [] => true
  | x :: xs => n49D x && n49A xs
end
theorem n49A_iff (xs : List D) : n49A xs = true ↔ ∀ x ∈ xs, n49D x = true := by
  induction xs with
  | nil => simp [n49A]
  | cons y ys ih => simp only [n49A, Bool.and_eq_true, ih, List.mem_cons, forall_eq_or_imp]
theorem n49_small : ∀ (m : Nat) {xs : List D}, n49D (D.tup xs) = true → Small m xs
  | 0, xs, h => by simp only [n49D, Bool.and_eq_true, decide_eq_true_eq] at h; exact h.1
  | m + 1, xs, h => by
    have h' := h
    simp only [n49D, Bool.and_eq_true, decide_eq_true_eq] at h'
    exact ⟨h'.1, fun ys hy => n49_small m ((n49A_iff xs).mp h'.2 _ hy)⟩
theorem n49_map {α : Type} {f : α → D} {xs : List α} (hl : xs.length ≤ 49) (h : ∀ x ∈ xs, n49D (f x) = true) : n49D (D.tup (xs.map f)) = true := by
  simp only [n49D, Bool.and_eq_true, decide_eq_true_eq, List.length_map]
  exact ⟨hl, (n49A_iff _).mpr fun d hd => by obtain ⟨x, hx, rfl⟩ := List.mem_map.mp hd; exact h x hx⟩
theorem small_page {p : Page} (h : PageV p) (hd : ∀ l ∈ p.ls, l.deeds.length ≤ 3) : Small 4 [sortsD p.sorts, .tup (p.ls.map lrD), boxesD p.boxes, .tup (p.on.map D.str)] := by
  refine n49_small 4 ?_
  have h1 : n49D (sortsD p.sorts) = true := n49_map (by have := h.sl; omega) fun s _ => rfl
  have h2 : n49D (D.tup (p.ls.map lrD)) = true := n49_map (by have := h.ll; omega) fun l hl => by
    have : n49D (D.tup (l.deeds.map deedD)) = true := n49_map (by have := hd l hl; omega) fun d _ => by cases d <;> rfl
    simp [lrD, n49D, n49A, this]
    simpa [n49D] using this
  have h3 : n49D (boxesD p.boxes) = true := n49_map (by have := h.bl; omega) fun r _ => by
    obtain ⟨a, u, c⟩ := r
    cases u <;> rfl
  have h4 : n49D (D.tup (p.on.map D.str)) = true := n49_map (by have := h.ol; omega) fun s _ => rfl
  simp only [n49D, n49A, Bool.and_eq_true] at h1 h2 h3 h4 ⊢
  simp only [sortsD, boxesD, n49D, Bool.and_eq_true] at h1 h3 ⊢
  exact ⟨by simp, ⟨h1, h2, h3, h4, trivial⟩⟩
end DL.TB

set_option Elab.async false
set_option linter.all false
set_option maxRecDepth 100000
set_option maxHeartbeats 1000000
/-! states of pages, plain -/
namespace DL.TB
open PySem PySem.Spec PyProof.Rows L2
def kinds (rows : List Row) : List (Str × Str) := rows.map fun r => (r.1, r.2.2)
def lnames (p : Page) : List Str := p.ls.map (·.name)
def snames (p : Page) : List Str := p.sorts.map (·.1)
/-- a page -/
structure GoodP (p : Page) : Prop where
  isP : isPageB (pageD p) = true
  ok : (pageD p).ok = true
  nar : (pageD p).nar = true
  bs : GoodRows p.boxes
  lnm : ∀ l ∈ p.ls, nameS l.name = true
  lnd : (lnames p).Nodup
  onm : ∀ x ∈ p.on, x ∈ lnames p
  ond : p.on.Nodup
  ll : p.ls.length ≤ 12
  snm : ∀ s ∈ p.sorts, nameS s.1 = true
  snd : (snames p).Nodup
  sl : p.sorts.length ≤ 3
  row : ∀ l ∈ p.ls, l.box ∈ names p.boxes ∧ l.sort ∈ snames p ∧ l.deeds.length ≤ 3 ∧ ∀ d ∈ l.deeds, DeedIn (lnames p) (snames p) (names p.boxes) d
/-- a page, or what is none -/
abbrev PA := Page ⊕ D
def paD : PA → D
  | .inl p => pageD p
  | .inr d => d
def PaOk : PA → Prop
  | .inl p => GoodP p
  | .inr d => d.ok = true ∧ d.nar = true ∧ isPageB d = false
def isStateB (p : Page) : D → Bool
  | .tup [.tup bs, on] => isBoxesB (.tup bs) && ((match rowsOf bs with | some rows => decide (kinds rows = kinds p.boxes) | none => false) && isOnB (lnames p) on)
  | _ => false
structure StOk (p : Page) (rows : List Row) (on : List Str) : Prop where
  good : GoodRows rows
  kin : kinds rows = kinds p.boxes
  nd : on.Nodup
  onm : ∀ x ∈ on, x ∈ lnames p
def stD (rows : List Row) (on : List Str) : D := .tup [boxesD rows, .tup (on.map D.str)]
def moveR (rows : List Row) (b u : Str) : List Row := rows.map fun r => (r.1, if r.1 = b then some u else r.2.1, r.2.2)
def movedR (rows : List Row) (b u : Str) : List Row := if isBoxesB (boxesD (moveR rows b u)) = true then moveR rows b u else rows
def sp_require_page : Spec := spE (fun x : PA => [paD x]) (fun _ x => PaOk x) fun x => match x with | .inl _ => .ok .non | .inr _ => .error "InvalidPage"
theorem ms_require_page : MonoS sp_require_page := spE.mono
theorem len_require_page : ∀ S ds Q E, sp_require_page S ds Q E → ds.length = 1 := spE.len fun _ => rfl
def sp_listener_names : Spec := spO (fun p : Page => [pageD p]) (fun _ p => GoodP p) fun p => stL (lnames p)
theorem ms_listener_names : MonoS sp_listener_names := spO.mono
theorem len_listener_names : ∀ S ds Q E, sp_listener_names S ds Q E → ds.length = 1 := spO.len fun _ => rfl
def sp_is_state_of : Spec := spO (fun x : Page × D => [pageD x.1, x.2]) (fun _ x => GoodP x.1 ∧ x.2.ok = true ∧ x.2.nar = true) fun x => .bl (isStateB x.1 x.2)
theorem ms_is_state_of : MonoS sp_is_state_of := spO.mono
theorem len_is_state_of : ∀ S ds Q E, sp_is_state_of S ds Q E → ds.length = 2 := spO.len fun _ => rfl
def sp_is_state : Spec := spE (fun x : PA × D => [paD x.1, x.2]) (fun _ x => PaOk x.1 ∧ x.2.ok = true ∧ x.2.nar = true) fun x => match x.1 with | .inl p => .ok (.bl (isStateB p x.2)) | .inr _ => .error "InvalidPage"
theorem ms_is_state : MonoS sp_is_state := spE.mono
theorem len_is_state : ∀ S ds Q E, sp_is_state S ds Q E → ds.length = 2 := spE.len fun _ => rfl
def sp__law_moved : Spec := spO (fun x : List Row × Str × Str => [boxesD x.1, .str x.2.1, .str x.2.2]) (fun _ x => GoodRows x.1 ∧ x.2.1 ∈ names x.1 ∧ x.2.2 ∈ names x.1) fun x => boxesD (movedR x.1 x.2.1 x.2.2)
theorem ms__law_moved : MonoS sp__law_moved := spO.mono
theorem len__law_moved : ∀ S ds Q E, sp__law_moved S ds Q E → ds.length = 3 := spO.len fun _ => rfl
def sp__law_drawn_state : Spec := spR (fun x : Addr × Page => [.ref x.1, pageD x.2]) (fun S x => x.1 ∈ S ∧ GoodP x.2) fun x d => ∃ rows on, StOk x.2 rows on ∧ d = stD rows on
theorem ms__law_drawn_state : MonoS sp__law_drawn_state := spR.mono
theorem len__law_drawn_state : ∀ S ds Q E, sp__law_drawn_state S ds Q E → ds.length = 2 := spR.len fun _ => rfl
def b_require_page (S : List Addr) : TSd := (sIf (tNotT (tTru (tFn S sp_is_page (tCs (tV 0) tN))))
  (sRaise "InvalidPage")
  sNext)

def b_listener_names (S : List Addr) : TSd := (sRet (tComp (.n 1) tYesD (tBin ixD (tO 1) (tK (.int 0))) [1] (tItems (tBin ixD (tO 0) (tK (.int 1))))))

def b_is_state_of (S : List Addr) : TSd := (sSeq (sIf (tOrT (tNotT (tTru (tIsi isTup (tO 1)))) (tOrT (tIsB (tBin neD (tCl lenD (tCs (tO 1) tN)) (tK (.int 2)))) (tNotT (tTru (tFn S sp_is_boxes (tCs (tBin ixD (tO 1) (tK (.int 0))) tN))))))
  (sRet (tK (.bl false)))
  sNext)
  (sSeq (sAsg (tBin eqD (tComp (.t [(.n 3), (.n 4), (.n 5)]) tYesD (tTupD (tCs (tV 3) (tCs (tV 5) tN))) [3, 4, 5] (tItems (tBin ixD (tO 1) (tK (.int 0))))) (tComp (.t [(.n 3), (.n 4), (.n 5)]) tYesD (tTupD (tCs (tV 3) (tCs (tV 5) tN))) [3, 4, 5] (tItems (tBin ixD (tO 0) (tK (.int 2)))))) (.n 2))
  (sRet (tAndE (tV 2) (tFn S sp_is_on (tCs (tBin ixD (tO 1) (tK (.int 1))) (tCs (tFn S sp_listener_names (tCs (tV 0) tN)) tN)))))))

def b_is_state (S : List Addr) : TSd := (sSeq (sDrop (tFn S sp_require_page (tCs (tV 0) tN)))
  (sRet (tFn S sp_is_state_of (tCs (tV 0) (tCs (tV 1) tN)))))

def b__law_moved (S : List Addr) : TSd := (sSeq (sAsg (tCl tupleD (tCs (tComp (.n 4) tYesD (tTupD (tCs (tBin ixD (tO 4) (tK (.int 0))) (tCs (tIte (tIsB (tBin eqD (tBin ixD (tO 4) (tK (.int 0))) (tO 1))) (tV 2) (tBin ixD (tO 4) (tK (.int 1)))) (tCs (tBin ixD (tO 4) (tK (.int 2))) tN)))) [4] (tItems (tO 0))) tN)) (.n 3))
  (sRet (tIte (tTru (tFn S sp_is_boxes (tCs (tV 3) tN))) (tV 3) (tV 0))))

def b__law_drawn_state_1 (S : List Addr) : TSd := (sAsg (tFn S sp__law_moved (tCs (tV 2) (tCs (tBin ixD (tFn S sp__law_chosen (tCs (tV 0) (tCs (tV 2) tN))) (tK (.int 0))) (tCs (tBin ixD (tFn S sp__law_chosen (tCs (tV 0) (tCs (tV 2) tN))) (tK (.int 0))) tN)))) (.n 2))
def b__law_drawn_state (S : List Addr) : TSd := (sSeq (sAsg (tBin ixD (tO 1) (tK (.int 2))) (.n 2))
  (sSeq (sFor (tRng1 (tCs (tFn S sp__law_pick (tCs (tV 0) (tCs (tK (.int 3)) tN))) tN)) (.n 3)
  (b__law_drawn_state_1 S))
  (sRet (tTupD (tCs (tV 2) (tCs (tFn S sp__law_drawn_on (tCs (tV 0) (tCs (tComp (.n 4) tYesD (tBin ixD (tO 4) (tK (.int 0))) [4] (tItems (tBin ixD (tO 1) (tK (.int 1))))) tN))) tN))))))

theorem namesIn_ls {p : Page} (h : ∀ l ∈ p.ls, nameS l.name = true) : namesIn (p.ls.map lrD) = lnames p := by
  unfold namesIn lnames
  rw [List.filterMap_map]
  generalize p.ls = ls at h
  induction ls with
  | nil => rfl
  | cons l ls ih =>
    have e : (nmOf ∘ lrD) l = some l.name := by show (if nameS l.name = true then some l.name else none) = _; rw [if_pos (h l (List.mem_cons_self ..))]
    rw [List.filterMap_cons, e, List.map_cons]
    simp only
    rw [ih fun x hx => h x (List.mem_cons_of_mem _ hx)]
theorem namesIn_ss {ss : List SortR} (h : ∀ s ∈ ss, nameS s.1 = true) : namesIn (ss.map srtD) = ss.map (·.1) := by
  unfold namesIn
  rw [List.filterMap_map]
  induction ss with
  | nil => rfl
  | cons l ls ih =>
    have e : (nmOf ∘ srtD) l = some l.1 := by show (if nameS l.1 = true then some l.1 else none) = _; rw [if_pos (h l (List.mem_cons_self ..))]
    rw [List.filterMap_cons, e, List.map_cons]
    simp only
    rw [ih fun x hx => h x (List.mem_cons_of_mem _ hx)]
theorem namesIn_bs {rows : List Row} (h : ∀ r ∈ rows, nameS r.1 = true) : namesIn (rows.map rowD) = names rows := by
  unfold namesIn names
  rw [List.filterMap_map]
  induction rows with
  | nil => rfl
  | cons l ls ih =>
    have e : (nmOf ∘ rowD) l = some l.1 := by show (if nameS l.1 = true then some l.1 else none) = _; rw [if_pos (h l (List.mem_cons_self ..))]
    rw [List.filterMap_cons, e, List.map_cons]
    simp only
    rw [ih fun x hx => h x (List.mem_cons_of_mem _ hx)]
theorem inS_all {xs ys : List Str} (h : ∀ x ∈ xs, x ∈ ys) : (xs.map D.str).all (inS ys) = true := by
  rw [List.all_eq_true]
  intro d hd
  obtain ⟨x, hx, rfl⟩ := List.mem_map.mp hd
  exact List.contains_iff_mem.mpr (h x hx)
theorem stOf_map (xs : List Str) : (xs.map D.str).filterMap stOf = xs := by
  rw [List.filterMap_map]
  induction xs with
  | nil => rfl
  | cons x xs ih => rw [List.filterMap_cons]; show x :: _ = _; rw [ih]
theorem lNames_name : ∀ x ∈ lNames, nameS x = true := fun x hx => by
  have h : (lNames.all nameS) = true := by decide +kernel
  exact List.all_eq_true.mp h x hx
theorem sortNames_name : ∀ x ∈ sortNames, nameS x = true := fun x hx => by
  have h : (sortNames.all nameS) = true := by decide +kernel
  exact List.all_eq_true.mp h x hx
theorem rising_l (k : Nat) : rising (lNames.take k) = true := by
  have h : ((List.range 13).all fun k => rising (lNames.take k)) = true := by decide +kernel
  by_cases hk : k ≤ 12
  · exact List.all_eq_true.mp h k (List.mem_range.mpr (by omega))
  · rw [List.take_of_length_le (by show 12 ≤ k; omega)]
    exact List.all_eq_true.mp h 12 (by decide)
theorem rising_s (k : Nat) : rising (sortNames.take k) = true := by
  have h : ((List.range 4).all fun k => rising (sortNames.take k)) = true := by decide +kernel
  by_cases hk : k ≤ 3
  · exact List.all_eq_true.mp h k (List.mem_range.mpr (by omega))
  · rw [List.take_of_length_le (by show 3 ≤ k; omega)]
    exact List.all_eq_true.mp h 3 (by decide)
theorem isSort_of {s : SortR} (h : nameS s.1 = true) : isSortB (srtD s) = true := by
  show (nameS s.1 && (true && (true && true))) = true
  rw [h]; rfl
theorem inS_of {xs : List Str} {x : Str} (h : x ∈ xs) : inS xs (.str x) = true := List.contains_iff_mem.mpr h
theorem isDeed_of {ls ss bs : List Str} {d : Deed} (h : DeedIn ls ss bs d) : isDeedB ls ss bs (deedD d) = true := by
  cases d with
  | stop => rfl
  | halt => rfl
  | bar => rfl
  | on n => exact inS_of (xs := ls) h
  | off n => exact inS_of (xs := ls) h
  | move b u =>
    show (inS bs (.str b) && inS bs (.str u)) = true
    rw [inS_of h.1, inS_of h.2]; rfl
  | send s b =>
    show (inS ss (.str s) && inS bs (.str b)) = true
    rw [inS_of h.1, inS_of h.2]; rfl
theorem isListener_of {ls ss bs : List Str} {l : LRow} (hn : nameS l.name = true) (hb : l.box ∈ bs) (hs : l.sort ∈ ss) (hl : l.deeds.length ≤ 3) (hd : ∀ d ∈ l.deeds, DeedIn ls ss bs d) : isListenerB ls ss bs (lrD l) = true := by
  show (nameS l.name && ((inS bs (.str l.box) && inS ss (.str l.sort)) && ((true && (true && true)) && (decide ((l.deeds.map deedD).length ≤ 3) && (l.deeds.map deedD).all (isDeedB ls ss bs))))) = true
  rw [hn, inS_of hb, inS_of hs, List.length_map, decide_eq_true hl, List.all_map]
  have : l.deeds.all (isDeedB ls ss bs ∘ deedD) = true := List.all_eq_true.mpr fun d hx => isDeed_of (hd d hx)
  rw [this]; rfl
theorem isOn_of {ls xs : List Str} (hm : ∀ x ∈ xs, x ∈ ls) (hd : xs.Nodup) : isOnB ls (.tup (xs.map D.str)) = true := by
  show ((xs.map D.str).all (inS ls) && decide ((xs.map D.str).filterMap stOf).Nodup) = true
  rw [inS_all hm, stOf_map, decide_eq_true hd]; rfl
theorem DrawnPage.good {mb ml : Nat} {ws : List Str} {p : Page} (h : DrawnPage mb ml ws p) : GoodP p := by
  have v := h.v
  obtain ⟨k, hk, hk2⟩ := h.ss
  obtain ⟨kl, hl, hl2⟩ := h.ls.nm
  have gb := h.bs.good
  have ln : ∀ l ∈ p.ls, nameS l.name = true := fun l hx => lNames_name _ (List.mem_of_mem_take (i := kl) (by rw [← hl2]; exact List.mem_map.mpr ⟨l, hx, rfl⟩))
  have sn : ∀ s ∈ p.sorts, nameS s.1 = true := fun s hx => sortNames_name _ (List.mem_of_mem_take (i := k + 1) (by rw [← hk2]; exact List.mem_map.mpr ⟨s, hx, rfl⟩))
  have bn : ∀ r ∈ p.boxes, nameS r.1 = true := fun r hr => (gb.nm r hr).1
  have nd : (lnames p).Nodup := by unfold lnames; rw [hl2]; exact lNames_nd.sublist (List.take_sublist _ _)
  have snd : (snames p).Nodup := by unfold snames; rw [hk2]; exact (show sortNames.Nodup by decide +kernel).sublist (List.take_sublist _ _)
  have row : ∀ l ∈ p.ls, l.box ∈ names p.boxes ∧ l.sort ∈ snames p ∧ l.deeds.length ≤ 3 ∧ ∀ d ∈ l.deeds, DeedIn (lnames p) (snames p) (names p.boxes) d := fun l hx => by
    have r := h.ls.row l hx
    exact ⟨r.box, r.sort, r.len, fun d hd => (r.deeds d hd).1⟩
  have any := AllV.tup v.any (by simp)
  refine ⟨?_, any.1, any.2.2, gb, ln, nd, h.onm, h.ond, v.ll, sn, snd, v.sl, row⟩
  have e1 : namesIn (p.ls.map lrD) = lnames p := namesIn_ls ln
  have e2 : namesIn (p.sorts.map srtD) = snames p := namesIn_ss sn
  have e3 : namesIn (p.boxes.map rowD) = names p.boxes := namesIn_bs bn
  show (isBoxesB (boxesD p.boxes) && ((decide (1 ≤ (p.sorts.map srtD).length) && (decide ((p.sorts.map srtD).length ≤ 3) && (p.sorts.map srtD).all isSortB)) && (decide ((p.ls.map lrD).length ≤ 12) &&
      ((p.ls.map lrD).all (isListenerB (namesIn (p.ls.map lrD)) (namesIn (p.sorts.map srtD)) (namesIn (p.boxes.map rowD))) && (rising (namesIn (p.ls.map lrD)) && (rising (namesIn (p.sorts.map srtD)) && isOnB (namesIn (p.ls.map lrD)) (.tup (p.on.map D.str)))))))) = true
  rw [e1, e2, e3, (isBoxes_iff gb.ok).mpr gb, List.length_map, List.length_map, decide_eq_true (show 1 ≤ p.sorts.length from v.s0), decide_eq_true v.sl, decide_eq_true v.ll, isOn_of (ls := lnames p) h.onm h.ond]
  have a1 : (p.sorts.map srtD).all isSortB = true := by
    rw [List.all_map]; exact List.all_eq_true.mpr fun s hx => isSort_of (sn s hx)
  have a2 : (p.ls.map lrD).all (isListenerB (lnames p) (snames p) (names p.boxes)) = true := by
    rw [List.all_map]; exact List.all_eq_true.mpr fun l hx => by
      obtain ⟨h1, h2, h3, h4⟩ := row l hx
      exact isListener_of (ln l hx) h1 h2 h3 h4
  have r1 : rising (lnames p) = true := by unfold lnames; rw [hl2]; exact rising_l _
  have r2 : rising (snames p) = true := by unfold snames; rw [hk2]; exact rising_s _
  rw [a1, a2, r1, r2]; rfl
theorem pure_require_page : ∀ S ds Q E, sp_require_page S ds Q E → b_require_page S { nx := fun _ => Q .non, rt := ptR Q, ex := fun x _ => E x } (start0 ["value"] ds) := by
  rintro S _ Q E ⟨x, rfl, hx, q⟩
  unfold b_require_page
  cases x with
  | inl p =>
    have g : GoodP p := hx
    simp [-D.ok, -okA]
    refine ⟨pageD p, rfl, ⟨g.ok, g.nar⟩, ?_⟩
    simp only [g.isP]
    exact q
  | inr d =>
    obtain ⟨h1, h2, h3⟩ : d.ok = true ∧ d.nar = true ∧ isPageB d = false := hx
    simp [-D.ok, -okA]
    refine ⟨d, rfl, ⟨h1, h2⟩, ?_⟩
    simp only [h3]
    exact q
theorem pure_listener_names : ∀ S ds Q E, sp_listener_names S ds Q E → b_listener_names S { nx := fun _ => Q .non, rt := ptR Q, ex := fun x _ => E x } (start0 ["page", "row"] ds) := by
  rintro S _ Q E ⟨p, rfl, g, q⟩
  unfold b_listener_names
  simp [-D.ok, -okA, pageD]
  refine compD_map lrD (fun l => .str l.name) p.ls (fun l hl => ⟨_, rfl, fun Q q => by simpa [lrD, wipeD] using q⟩) ?_
  have e : (p.ls.map fun l => D.str l.name) = (lnames p).map D.str := by unfold lnames; rw [List.map_map]; rfl
  rw [e]
  exact q
def kindD (k : Str × Str) : D := .tup [.str k.1, .str k.2]
theorem eqv_kinds : ∀ (xs ys : List (Str × Str)), eqvA (xs.map kindD) (ys.map kindD) = decide (xs = ys)
  | [], [] => rfl
  | [], _ :: _ => rfl
  | _ :: _, [] => rfl
  | x :: xs, y :: ys => by
    show (((x.1 == y.1) && ((x.2 == y.2) && true)) && eqvA (xs.map kindD) (ys.map kindD)) = _
    rw [eqv_kinds xs ys]
    obtain ⟨a, b⟩ := x
    obtain ⟨c, d⟩ := y
    by_cases h1 : a = c <;> by_cases h2 : b = d <;> by_cases h3 : xs = ys <;> simp [h1, h2, h3]
theorem kinds_okA {xs : List (Str × Str)} (h : ∀ k ∈ xs, (D.str k.1).ok = true ∧ (D.str k.2).ok = true) : okA (xs.map kindD) = true := okA_of fun d hd => by
  obtain ⟨k, hk, rfl⟩ := List.mem_map.mp hd
  have := h k hk
  show okA [D.str k.1, .str k.2] = true
  refine okA_of fun d hd => ?_
  simp only [List.mem_cons, List.not_mem_nil, or_false] at hd
  rcases hd with rfl | rfl
  · exact this.1
  · exact this.2
theorem dep_kinds (xs : List (Str × Str)) : (D.lst (xs.map kindD)).dep ≤ 2 := by
  have : depA (xs.map kindD) ≤ 1 := by
    induction xs with
    | nil => decide
    | cons x xs ih =>
      show max (kindD x).dep (depA (xs.map kindD)) ≤ 1
      have : (kindD x).dep = 1 := rfl
      omega
  show depA (xs.map kindD) + 1 ≤ 2
  omega
theorem kindsD (rows : List Row) : (rows.map fun r => D.tup [.str r.1, .str r.2.2]) = (kinds rows).map kindD := by unfold kinds; rw [List.map_map]; rfl
theorem kinds_ok {rows : List Row} (g : GoodRows rows) : okA ((kinds rows).map kindD) = true := kinds_okA fun k hk => by
  obtain ⟨r, hr, rfl⟩ := List.mem_map.mp hk
  have := g.ok r hr
  exact ⟨this.1, this.2.2⟩
theorem GoodP.lns {p : Page} (g : GoodP p) : okS (lnames p) := (okA_strs _).mpr fun x hx => by
  obtain ⟨l, hl, rfl⟩ := List.mem_map.mp hx
  have h1 := okA_mem (xs := [sortsD p.sorts, .tup (p.ls.map lrD), boxesD p.boxes, .tup (p.on.map D.str)]) g.ok (.tup (p.ls.map lrD)) (by simp)
  have h2 := okA_mem (xs := p.ls.map lrD) h1 (lrD l) (List.mem_map.mpr ⟨l, hl, rfl⟩)
  exact okA_mem (xs := [.str l.name, .str l.box, .str l.sort, .bl l.early, .bl l.once, .bl l.calm, .tup (l.deeds.map deedD)]) h2 (.str l.name) (by simp)
theorem len2 {xs : List D} : ((xs.length : Int) == 2) = decide (xs.length = 2) := ld_eq xs.length 2
theorem pure_is_state_of : ∀ S ds Q E, sp_is_state_of S ds Q E → b_is_state_of S { nx := fun _ => Q .non, rt := ptR Q, ex := fun x _ => E x } (start0 ["page", "value", "same", "name", "under", "role"] ds) := by
  rintro S _ Q E ⟨⟨p, d⟩, rfl, ⟨g, ho, hn⟩, q⟩
  replace q : Q (.bl (isStateB p d)) := q
  replace g : GoodP p := g
  replace ho : d.ok = true := ho
  replace hn : d.nar = true := hn
  unfold b_is_state_of
  refine seq_intro fun K1 hK1 => ?_
  cases d with
  | tup xs =>
    have okx := okA_mem (xs := xs) ho
    by_cases h2 : xs.length = 2
    · match xs, h2 with
      | [b, on], _ =>
        have hb := okx b (by simp)
        have hon := okx on (by simp)
        have nron : on.nar = true := by
          simp only [D.nar, Bool.and_eq_true] at hn
          exact (narA_iff _).mp hn.2 on (by simp)
        simp [isTup, -D.ok, -okA]
        refine ⟨b, rfl, hb, ?_⟩
        cases h1 : isBoxesB b
        · have e : isStateB p (.tup [b, on]) = false := by
            cases b with
            | tup bs => show (isBoxesB (.tup bs) && _) = false; rw [h1]; rfl
            | _ => rfl
          rw [e] at q
          simpa using q
        · obtain ⟨rows, rfl, gr⟩ := isBoxes_good h1 hb
          have e : isStateB p (.tup [boxesD rows, on]) = (decide (kinds rows = kinds p.boxes) && isOnB (lnames p) on) := by
            show (isBoxesB (boxesD rows) && ((match rowsOf (rows.map rowD) with | some rows => decide (kinds rows = kinds p.boxes) | none => false) && isOnB (lnames p) on)) = _
            rw [h1, rowsOf_map]; rfl
          rw [e] at q
          refine hK1 _ ?_
          refine seq_intro fun K2 hK2 => ?_
          simp [-D.ok, -okA, -eqD, boxesD, pageD]
          refine compD_map rowD (fun r => .tup [.str r.1, .str r.2.2]) rows (fun r hr => ⟨_, rfl, fun Q q => by simpa [wipeD] using ⟨by decide, q⟩⟩) ?_
          rw [kindsD]
          refine compD_map rowD (fun r => .tup [.str r.1, .str r.2.2]) p.boxes (fun r hr => ⟨_, rfl, fun Q q => by simpa [wipeD] using ⟨by decide, q⟩⟩) ?_
          rw [kindsD]
          refine ⟨⟨kinds_ok gr, kinds_ok g.bs, by have := dep_kinds (kinds rows); omega⟩, ?_⟩
          rw [show (D.lst ((kinds rows).map kindD)).eqv (.lst ((kinds p.boxes).map kindD)) = decide (kinds rows = kinds p.boxes) from eqv_kinds _ _]
          refine hK2 _ ?_
          cases hk : decide (kinds rows = kinds p.boxes)
          · rw [hk] at q
            simpa using q
          · rw [hk] at q
            simp [-D.ok, -okA]
            refine ⟨p, rfl, g, ⟨on, lnames p⟩, rfl, ⟨hon, nron, g.lns⟩, ?_⟩
            simpa using q
    · have e : isStateB p (.tup xs) = false := by
        unfold isStateB
        split
        · rename_i h; cases h; exact absurd rfl h2
        · rfl
      rw [e] at q
      have h5 : ((xs.length : Int) == 2) = false := by simp; omega
      simp [isTup, h5, q]
  | _ => first | (simp at ho; done) | simpa [isTup, isStateB] using q
theorem pure_is_state : ∀ S ds Q E, sp_is_state S ds Q E → b_is_state S { nx := fun _ => Q .non, rt := ptR Q, ex := fun x _ => E x } (start0 ["page", "value"] ds) := by
  rintro S _ Q E ⟨⟨x, d⟩, rfl, ⟨hx, ho, hn⟩, q⟩
  unfold b_is_state
  refine seq_intro fun K1 hK1 => ?_
  cases x with
  | inl p =>
    have g : GoodP p := hx
    replace q : Q (.bl (isStateB p d)) := q
    simp [-D.ok, -okA]
    refine ⟨.inl p, rfl, g, hK1 _ ?_⟩
    simp [-D.ok, -okA]
    exact ⟨⟨p, d⟩, rfl, ⟨g, ho, hn⟩, q⟩
  | inr y =>
    simp [-D.ok, -okA]
    exact ⟨.inr y, rfl, hx, q⟩
theorem GoodRows.roles {rows : List Row} (g : GoodRows rows) : ∀ r ∈ rows, (D.str r.1).ok = true := fun r hr => (g.ok r hr).1
theorem kinds_move (rows : List Row) (b u : Str) : kinds (moveR rows b u) = kinds rows := by unfold kinds moveR; rw [List.map_map]; rfl
theorem kinds_moved (rows : List Row) (b u : Str) : kinds (movedR rows b u) = kinds rows := by
  unfold movedR; split
  · exact kinds_move rows b u
  · rfl
theorem names_kinds {rows rows' : List Row} (h : kinds rows = kinds rows') : names rows = names rows' := by
  have := congrArg (List.map (·.1)) h
  unfold kinds at this
  rw [List.map_map, List.map_map] at this
  exact this
theorem move_ok {rows : List Row} (g : GoodRows rows) {b u : Str} (hu : u ∈ names rows) : ∀ r ∈ moveR rows b u, (D.str r.1).ok = true ∧ (oD r.2.1).ok = true ∧ (D.str r.2.2).ok = true := fun r hr => by
  obtain ⟨r0, h0, rfl⟩ := List.mem_map.mp hr
  have := g.ok r0 h0
  refine ⟨this.1, ?_, this.2.2⟩
  show (oD (if r0.1 = b then some u else r0.2.1)).ok = true
  split
  · exact names_ok g.rok u hu
  · exact this.2.1
theorem GoodRows.moved {rows : List Row} (g : GoodRows rows) {b u : Str} (hu : u ∈ names rows) : GoodRows (movedR rows b u) := by
  unfold movedR; split
  · rename_i h; exact (isBoxes_iff (move_ok g hu)).mp h
  · exact g
theorem pure__law_moved : ∀ S ds Q E, sp__law_moved S ds Q E → b__law_moved S { nx := fun _ => Q .non, rt := ptR Q, ex := fun x _ => E x } (start0 ["boxes", "box", "under", "found", "row"] ds) := by
  rintro S _ Q E ⟨⟨rows, b, u⟩, rfl, ⟨g, hb, hu⟩, q⟩
  replace q : Q (boxesD (movedR rows b u)) := q
  replace g : GoodRows rows := g
  replace hb : b ∈ names rows := hb
  replace hu : u ∈ names rows := hu
  have okb := names_ok g.rok b hb
  unfold b__law_moved
  refine seq_intro fun K1 hK1 => ?_
  simp [-D.ok, -okA, -eqD, boxesD]
  refine compD_map rowD (fun r => rowD (r.1, if r.1 = b then some u else r.2.1, r.2.2)) rows (fun r hr => ⟨_, rfl, fun Q q => ?_⟩) ?_
  · have ok1 := (g.ok r hr).1
    simp [wipeD, rowD, -D.ok, -okA, -eqD]
    refine ⟨⟨ok1, okb, by simp [D.dep]⟩, ?_⟩
    have e : (D.str r.1).eqv (.str b) = decide (r.1 = b) := by show (r.1 == b) = _; by_cases h : r.1 = b <;> simp [h]
    rw [e]
    cases hc : decide (r.1 = b)
    · have hc := of_decide_eq_false hc
      rw [if_neg hc] at q
      exact ⟨by decide, q⟩
    · have hc := of_decide_eq_true hc
      rw [if_pos hc] at q
      exact ⟨by decide, q⟩
  have e : (rows.map fun r => rowD (r.1, if r.1 = b then some u else r.2.1, r.2.2)) = (moveR rows b u).map rowD := by unfold moveR; rw [List.map_map]; rfl
  rw [e]
  refine hK1 _ ?_
  simp [-D.ok, -okA]
  have okm : (boxesD (moveR rows b u)).ok = true := okA_of fun d hd => by
    obtain ⟨r, hr, rfl⟩ := List.mem_map.mp hd
    obtain ⟨h1, h2, h3⟩ := move_ok g hu r hr
    show okA [D.str r.1, oD r.2.1, .str r.2.2] = true
    refine okA_of fun d hd => ?_
    simp only [List.mem_cons, List.not_mem_nil, or_false] at hd
    rcases hd with rfl | rfl | rfl
    · exact h1
    · exact h2
    · exact h3
  refine ⟨boxesD (moveR rows b u), rfl, okm, ?_⟩
  unfold movedR at q
  cases h : isBoxesB (boxesD (moveR rows b u))
  · rw [if_neg (by rw [h]; decide)] at q
    simpa [boxesD] using q
  · rw [if_pos h] at q
    simpa [boxesD] using q
theorem pure__law_drawn_state : ∀ S ds Q E, sp__law_drawn_state S ds Q E → b__law_drawn_state S { nx := fun _ => Q .non, rt := ptR Q, ex := fun x _ => E x } (start0 ["source", "sheet", "boxes", "turn", "row"] ds) := by
  rintro S _ Q E ⟨⟨a, p⟩, rfl, ⟨ha, g⟩, q⟩
  replace q : ∀ rows on, StOk p rows on → Q (stD rows on) := fun rows on h => q _ ⟨rows, on, h, rfl⟩
  replace ha : a ∈ S := ha
  replace g : GoodP p := g
  have hs : sizeLine = 16777216 := rfl
  unfold b__law_drawn_state
  refine seq_intro fun K1 hK1 => ?_
  simp [-D.ok, -okA, pageD]
  refine hK1 _ ?_
  refine seq_intro fun K2 hK2 => ?_
  simp [-D.ok, -okA]
  refine pick ha (by decide) (by decide) fun i h0 h1 => ?_
  simp [-D.ok, -okA]
  refine ⟨⟨by omega, by omega, by omega⟩, ?_⟩
  refine forD_rule (fun ds ρ => ∃ (rows : List Row) (x3 x4 : Option Sl), GoodRows rows ∧ kinds rows = kinds p.boxes ∧ ρ = [some (.p (.ref a)), some (.p (pageD p)), some (.p (boxesD rows)), x3, x4]) (fun d rest ρ hI => ?_) (fun ρ hI => ?_) _ _
    ⟨p.boxes, _, _, g.bs, rfl, rfl⟩
  · obtain ⟨rows, x3, x4, gr, hk, rfl⟩ := hI
    refine ⟨_, rfl, fun N hN => ?_⟩
    have rl := gr.len
    have rp := gr.pos
    unfold b__law_drawn_state_1
    simp [-D.ok, -okA]
    refine chosenRow ha rp (by omega) fun r hr => ?_
    simp [-D.ok, -okA, rowD]
    refine chosenRow ha rp (by omega) fun r2 hr2 => ?_
    simp [-D.ok, -okA, rowD]
    have m1 : r.1 ∈ names rows := List.mem_map.mpr ⟨r, hr, rfl⟩
    have m2 : r2.1 ∈ names rows := List.mem_map.mpr ⟨r2, hr2, rfl⟩
    exact ⟨⟨rows, r.1, r2.1⟩, rfl, ⟨gr, m1, m2⟩, hN _ ⟨_, _, _, gr.moved m2, by rw [kinds_moved]; exact hk, rfl⟩⟩
  · obtain ⟨rows, x3, x4, gr, hk, rfl⟩ := hI
    refine hK2 _ ?_
    simp [-D.ok, -okA, pageD]
    refine compD_map lrD (fun l => .str l.name) p.ls (fun l hl => ⟨_, rfl, fun Q q => by simpa [lrD, wipeD] using q⟩) ?_
    have e : (p.ls.map fun l => D.str l.name) = (lnames p).map D.str := by unfold lnames; rw [List.map_map]; rfl
    rw [e]
    have ll := g.ll
    refine ⟨⟨a, lnames p⟩, rfl, ⟨ha, g.lnd, by show (lnames p).length ≤ 50; unfold lnames; rw [List.length_map]; omega⟩, fun d hd => ?_⟩
    obtain ⟨on, o1, o2, rfl⟩ := hd
    exact ⟨by decide, q rows on ⟨gr, hk, o1, o2⟩⟩
end DL.TB

set_option Elab.async false
set_option linter.all false
set_option maxRecDepth 100000
set_option maxHeartbeats 1000000
/-! the law's next box; good calls, plain -/
namespace DL.TB
open PySem PySem.Spec PyProof.Rows L2
def sp__law_next : Spec := spO (fun x : List Row × Str => [boxesD x.1, .str x.2]) (fun _ x => GoodRows x.1 ∧ x.2 ∈ names x.1) fun x => oD (nextF x.1 x.2)
theorem ms__law_next : MonoS sp__law_next := spO.mono
theorem len__law_next : ∀ S ds Q E, sp__law_next S ds Q E → ds.length = 2 := spO.len fun _ => rfl
def b__law_next_1 (S : List Addr) : TSd := (sIf (tAndT (tIsB (tBin eqD (tBin ixD (tO 3) (tK (.int 2))) (tK (.str "slot")))) (tIsB (tBin inD (tFn S sp__law_door (tCs (tV 0) (tCs (tBin ixD (tO 3) (tK (.int 0))) tN))) (tO 2))))
  (sRet (tBin ixD (tO 3) (tK (.int 0))))
  sNext)
def b__law_next (S : List Addr) : TSd := (sSeq (sAsg (tFn S sp__law_row (tCs (tV 0) (tCs (tV 1) tN))) (.t [(.n 4), (.n 5), (.n 6)]))
  (sSeq (sIf (tOrT (tIsB (tBin isND (tO 5) (tK .non))) (tIsB (tBin eqD (tO 6) (tK (.str "door")))))
  (sRet (tV 5))
  sNext)
  (sSeq (sAsg (tComp (.n 3) (tAndT (tIsB (tBin eqD (tBin ixD (tO 3) (tK (.int 2))) (tK (.str "door")))) (tIsB (tBin eqD (tBin ixD (tO 3) (tK (.int 1))) (tO 5)))) (tBin ixD (tO 3) (tK (.int 0))) [3] (tItems (tO 0))) (.n 2))
  (sSeq (sFor (tItems (tV 0)) (.n 3)
  (b__law_next_1 S))
  (sRet (tV 5))))))

theorem doors_of {rows : List Row} (g : GoodRows rows) {n d u : Str} (hn : n ∈ names rows) (h : houseOf rows n = some d) : ((rows.filter fun r => r.2.2 == ("door" : Str) && r.2.1 == some u).map (·.1)).contains d = (underOf rows d == some u) := by
  obtain ⟨hd, _, u', m, hf, hu', hum, _⟩ := g.home hn h
  have hr := List.mem_of_find?_eq_some hf
  have e1 : m = d := by have := List.find?_some hf; simpa using this
  rw [hu', Bool.eq_iff_iff, List.contains_iff_mem]
  constructor
  · intro hm
    obtain ⟨r, hr2, e⟩ := List.mem_map.mp hm
    obtain ⟨hr2, hp⟩ := List.mem_filter.mp hr2
    have := find_self g.nd hr2
    rw [e, hf] at this
    cases this
    simp only [Bool.and_eq_true] at hp
    exact hp.2
  · intro he
    refine List.mem_map.mpr ⟨(m, some u', "door"), List.mem_filter.mpr ⟨hr, ?_⟩, e1⟩
    simp only [beq_self_eq_true, Bool.true_and]
    exact he
theorem pure__law_next : ∀ S ds Q E, sp__law_next S ds Q E → b__law_next S { nx := fun _ => Q .non, rt := ptR Q, ex := fun x _ => E x } (start0 ["boxes", "box", "doors", "row", "name", "under", "role"] ds) := by
  rintro S _ Q E ⟨⟨rows, n⟩, rfl, ⟨g, hn⟩, q⟩
  replace q : Q (oD (nextF rows n)) := q
  replace g : GoodRows rows := g
  replace hn : n ∈ names rows := hn
  obtain ⟨r, hf⟩ := find_of hn
  have ok := find_ok g hf
  have cd : (D.str "door").ok = true := by decide +kernel
  have cs : (D.str "slot").ok = true := by decide +kernel
  unfold b__law_next
  refine seq_intro fun K1 hK1 => ?_
  simp only [sAsg, tFn, tCs, tN, tV, List.getElem?_cons_succ, List.getElem?_cons_zero]
  refine ⟨rows, n, r, rfl, fun r hr => (g.ok r hr).1, names_ok g.rok n hn, hf, ?_⟩
  simp only [rowD, asg, asgs, List.set, Option.bind_some]
  refine hK1 _ ?_
  unfold nextF at q
  rw [hf] at q
  simp only at q
  refine seq_intro fun K2 hK2 => ?_
  cases hu : r.2.1 with
  | none =>
    rw [hu] at q
    simpa [-D.ok, -okA] using q
  | some u =>
    rw [hu] at q
    simp only at q
    have oku : (D.str u).ok = true := by have := ok.2.1; rw [hu] at this; exact this
    simp [-D.ok, -okA, ok, cd]
    cases hd : r.2.2 == ("door" : Str)
    · rw [if_neg (by rw [hd]; decide)] at q
      simp only
      refine hK2 _ ?_
      refine seq_intro fun K3 hK3 => ?_
      simp [-D.ok, -okA, boxesD]
      refine compD_go rowD (fun r => r.2.2 == ("door" : Str) && r.2.1 == some u) (fun r => .str r.1) rows (fun r hr => ⟨_, rfl, fun Q q => ?_, fun _ Q q => by simpa [rowD, wipeD] using q⟩) ?_
      · have ok3 := g.ok r hr
        simp [-D.ok, -okA, rowD, wipeD, ok3, cd, oku]
        cases h1 : r.2.2 == ("door" : Str)
        · rw [h1] at q; exact q
        · rw [h1] at q
          have e : (oD r.2.1).eqv (D.str u) = (r.2.1 == some u) := by
            cases r.2.1 with
            | none => rfl
            | some x => show (x == u) = (some x == some u); simp
          simp only [e]
          exact q
      refine hK3 _ ?_
      have hns : ∀ rest : Prop, True := fun _ => trivial
      refine seq_intro fun K4 hK4 => ?_
      simp only [sFor, tItems, tV, itemsD, List.getElem?_cons_succ, List.getElem?_cons_zero]
      have dsk : ((rows.filter fun r => r.2.2 == ("door" : Str) && r.2.1 == some u).map fun r => D.str r.1) = ((rows.filter fun r => r.2.2 == ("door" : Str) && r.2.1 == some u).map (·.1)).map D.str := by rw [List.map_map]; rfl
      rw [dsk]
      have okD : okS ((rows.filter fun r => r.2.2 == ("door" : Str) && r.2.1 == some u).map (·.1)) := (okA_strs _).mpr fun x hx => by
        obtain ⟨r, hr, rfl⟩ := List.mem_map.mp hx
        exact (g.ok r (List.mem_filter.mp hr).1).1
      generalize hDs : ((rows.filter fun r => r.2.2 == ("door" : Str) && r.2.1 == some u).map (·.1)) = Ds at okD
      refine forD_rule (fun ds ρ => ∃ (rs : List Row) (x3 : Option Sl), ds = rs.map rowD ∧ ρ = [some (.p (boxesD rows)), some (.p (.str n)), some (.p (.lst (Ds.map D.str))), x3, some (.p (.str r.1)), some (.p (.str u)), some (.p (.str r.2.2))] ∧ (∀ r ∈ rs, r ∈ rows) ∧ slotF rows u = (rs.find? (isSlotOf rows u)).map (·.1)) (fun d rest ρ hI => ?_) (fun ρ hI => ?_) _ _
        ⟨rows, none, rfl, rfl, fun _ h => h, rfl⟩
      · obtain ⟨rs, x3, e, rfl, hin, hE⟩ := hI
        cases rs with
        | nil => cases e
        | cons r2 rs =>
          cases e
          refine ⟨_, rfl, fun N hN => ?_⟩
          have hr := hin r2 (List.mem_cons_self ..)
          have ok3 := g.ok r2 hr
          have skip : isSlotOf rows u r2 = false → ∀ x3, N [some (.p (boxesD rows)), some (.p (.str n)), some (.p (.lst (Ds.map D.str))), x3, some (.p (.str r.1)), some (.p (.str u)), some (.p (.str r.2.2))] := fun hf x3 => hN _ ⟨rs, x3, rfl, rfl, fun r hr => hin r (List.mem_cons_of_mem _ hr), by rw [hE, List.find?_cons, hf]⟩
          unfold b__law_next_1
          simp [-D.ok, -okA, -D.isIn, rowD, ok3, cs]
          cases hs : r2.2.2 == ("slot" : Str)
          · exact skip (by unfold isSlotOf; rw [hs]; rfl) _
          · obtain ⟨dd, hdd⟩ := slot_door g hr hs
            have hrm : r2.1 ∈ names rows := List.mem_map.mpr ⟨r2, hr, rfl⟩
            simp only
            refine ⟨rows, some r2.1, rows.length + 1, some dd, rfl, g.rok, fun m hm => by cases hm; exact ok3.1, ?_, ?_⟩
            · rw [← hdd]; exact houseOf_eq g.nd g.tree hrm
            have okdd := names_ok g.rok dd (g.home hrm hdd).1
            have hI := in_lstS (s := dd) okdd okD
            have hc := doors_of (u := u) g hrm hdd
            rw [hDs] at hc
            simp only [oD_s, cmpD, hI, hc, isB]
            have hslot : isSlotOf rows u r2 = (underOf rows dd == some u) := by unfold isSlotOf; rw [hs, hdd]; rfl
            cases hcc : underOf rows dd == some u
            · exact skip (by rw [hslot, hcc]) _
            · have : isSlotOf rows u r2 = true := by rw [hslot, hcc]
              rw [hE, List.find?_cons, this] at q
              simpa using q
      · obtain ⟨rs, x3, e, rfl, hin, hE⟩ := hI
        cases rs with
        | cons => cases e
        | nil =>
          refine hK4 _ ?_
          rw [hE] at q
          simpa using q
    · rw [if_pos hd] at q
      simpa using q
theorem GoodRows.dok {rows : List Row} (g : GoodRows rows) : (boxesD rows).ok = true := by
  show okA (rows.map rowD) = true
  refine okA_of fun d hd => ?_
  obtain ⟨r, hr, rfl⟩ := List.mem_map.mp hd
  obtain ⟨h1, h2, h3⟩ := g.ok r hr
  show okA [D.str r.1, oD r.2.1, .str r.2.2] = true
  refine okA_of fun d hd => ?_
  simp only [List.mem_cons, List.not_mem_nil, or_false] at hd
  rcases hd with rfl | rfl | rfl
  · exact h1
  · exact h2
  · exact h3
theorem c_house {rows : List Row} (g : GoodRows rows) {S : List Addr} {n : Str} (hn : n ∈ names rows) {Q : D → Prop} {E : Exn → Prop} (q : Q (oD (houseOf rows n))) : sp_house_of S [boxesD rows, .str n] Q E :=
  ⟨(boxesD rows, .str n), rfl, ⟨g.dok, names_ok g.rok n hn⟩, by
    show RE Q E (boxesE (boxesD rows) fun rows => boxE rows (.str n) fun n => .ok (oD (houseOf rows n)))
    rw [boxesE_good g, boxE, if_pos (List.contains_iff_mem.mpr hn)]
    exact q⟩
theorem c_next {rows : List Row} (g : GoodRows rows) {S : List Addr} {n : Str} (hn : n ∈ names rows) {Q : D → Prop} {E : Exn → Prop} (q : Q (oD (nextF rows n))) : sp_next_box S [boxesD rows, .str n] Q E :=
  ⟨(boxesD rows, .str n), rfl, ⟨g.dok, names_ok g.rok n hn⟩, by
    show RE Q E (boxesE (boxesD rows) fun rows => boxE rows (.str n) fun n => .ok (oD (nextF rows n)))
    rw [boxesE_good g, boxE, if_pos (List.contains_iff_mem.mpr hn)]
    exact q⟩
theorem c_seen {rows : List Row} (g : GoodRows rows) {S : List Addr} {b n : Str} (hb : b ∈ names rows) (hn : n ∈ names rows) {Q : D → Prop} {E : Exn → Prop} (q : Q (.str (seenOf rows b n))) : sp_seen_target S [boxesD rows, .str b, .str n] Q E :=
  ⟨(boxesD rows, .str b, .str n), rfl, ⟨g.dok, names_ok g.rok b hb, names_ok g.rok n hn⟩, by
    show RE Q E (boxesE (boxesD rows) fun rows => boxE rows (.str b) fun b => boxE rows (.str n) fun t => .ok (.str (seenOf rows b t)))
    rw [boxesE_good g, boxE, if_pos (List.contains_iff_mem.mpr hb), boxE, if_pos (List.contains_iff_mem.mpr hn)]
    exact q⟩
theorem c_route {rows : List Row} (g : GoodRows rows) {S : List Addr} {nm n : Str} {a far b : Bool} (hm : isNameB (.str nm) = true) (hok : (D.str nm).ok = true) (hn : n ∈ names rows) {Q : D → Prop} {E : Exn → Prop} (q : Q (stL (routeOf rows far n))) : sp_route S [boxesD rows, .tup [.str nm, .bl a, .bl far, .bl b], .str n] Q E :=
  ⟨(boxesD rows, .tup [.str nm, .bl a, .bl far, .bl b], .str n), rfl, ⟨g.dok, by
    show okA [D.str nm, .bl a, .bl far, .bl b] = true
    refine okA_of fun d hd => ?_
    simp only [List.mem_cons, List.not_mem_nil, or_false] at hd
    rcases hd with rfl | rfl | rfl | rfl
    · exact hok
    all_goals rfl, names_ok g.rok n hn⟩, by
    show RE Q E (boxesE (boxesD rows) fun rows => sortE (.tup [.str nm, .bl a, .bl far, .bl b]) fun far => boxE rows (.str n) fun n => .ok (stL (routeOf rows far n)))
    have hs : isSortB (.tup [.str nm, .bl a, .bl far, .bl b]) = true := by simp only [isSortB, hm]; rfl
    rw [boxesE_good g]
    simp only [sortE, hs]
    rw [boxE, if_pos (List.contains_iff_mem.mpr hn)]
    exact q⟩
theorem ne1 {x y : Str} (hx : (D.str x).ok = true) (hy : (D.str y).ok = true) {Q : D → Prop} (q : Q (.bl (!decide (x = y)))) : neD (.str x) (.str y) Q := by
  refine ⟨⟨hx, hy, by simp [D.dep]⟩, ?_⟩
  have e : (D.str x).eqv (.str y) = decide (x = y) := by show (x == y) = _; by_cases h : x = y <;> simp [h]
  rw [e]; exact q
end DL.TB

set_option Elab.async false
set_option linter.all false
set_option maxRecDepth 100000
set_option maxHeartbeats 1000000
/-! pages without some listeners, plain -/
namespace DL.TB
open PySem PySem.Spec PyProof.Rows L2
def keepD (ns : List Str) : Deed → Bool
  | .on n => !ns.contains n
  | .off n => !ns.contains n
  | _ => true
def withL (ns : List Str) (l : LRow) : LRow := { l with deeds := l.deeds.filter (keepD ns) }
def keepL (ns : List Str) (l : LRow) : Bool := !ns.contains l.name
def pwo (p : Page) (ns : List Str) : Page := ⟨p.sorts, (p.ls.filter (keepL ns)).map (withL ns), p.boxes, p.on.filter fun x => !ns.contains x⟩
def isNamesB (p : Page) : D → Bool
  | .tup xs => xs.all (inS (lnames p)) && rising (xs.filterMap stOf)
  | _ => false
theorem keep_deeds {ns : List Str} {l : LRow} : ∀ d ∈ (withL ns l).deeds, d ∈ l.deeds ∧ keepD ns d = true := fun d hd => List.mem_filter.mp hd
theorem lnames_pwo (p : Page) (ns : List Str) : lnames (pwo p ns) = (lnames p).filter fun x => !ns.contains x := by
  unfold lnames pwo
  rw [List.map_map, List.filter_map]
  rfl
/-- a page by its parts -/
theorem goodP_mk {p : Page} (v : PageV p) (gb : GoodRows p.boxes) (ln : ∀ l ∈ p.ls, nameS l.name = true) (r1 : rising (lnames p) = true) (onm : ∀ x ∈ p.on, x ∈ lnames p) (ond : p.on.Nodup) (sn : ∀ s ∈ p.sorts, nameS s.1 = true) (r2 : rising (snames p) = true)
    (row : ∀ l ∈ p.ls, l.box ∈ names p.boxes ∧ l.sort ∈ snames p ∧ l.deeds.length ≤ 3 ∧ ∀ d ∈ l.deeds, DeedIn (lnames p) (snames p) (names p.boxes) d) : GoodP p := by
  have any := AllV.tup v.any (by simp)
  refine ⟨?_, any.1, any.2.2, gb, ln, rising_nodup r1, onm, ond, v.ll, sn, rising_nodup r2, v.sl, row⟩
  have bn : ∀ r ∈ p.boxes, nameS r.1 = true := fun r hr => (gb.nm r hr).1
  have e1 : namesIn (p.ls.map lrD) = lnames p := namesIn_ls ln
  have e2 : namesIn (p.sorts.map srtD) = snames p := namesIn_ss sn
  have e3 : namesIn (p.boxes.map rowD) = names p.boxes := namesIn_bs bn
  show (isBoxesB (boxesD p.boxes) && ((decide (1 ≤ (p.sorts.map srtD).length) && (decide ((p.sorts.map srtD).length ≤ 3) && (p.sorts.map srtD).all isSortB)) && (decide ((p.ls.map lrD).length ≤ 12) &&
      ((p.ls.map lrD).all (isListenerB (namesIn (p.ls.map lrD)) (namesIn (p.sorts.map srtD)) (namesIn (p.boxes.map rowD))) && (rising (namesIn (p.ls.map lrD)) && (rising (namesIn (p.sorts.map srtD)) && isOnB (namesIn (p.ls.map lrD)) (.tup (p.on.map D.str)))))))) = true
  rw [e1, e2, e3, (isBoxes_iff gb.ok).mpr gb, List.length_map, List.length_map, decide_eq_true (show 1 ≤ p.sorts.length from v.s0), decide_eq_true v.sl, decide_eq_true v.ll, isOn_of (ls := lnames p) onm ond]
  have a1 : (p.sorts.map srtD).all isSortB = true := by
    rw [List.all_map]; exact List.all_eq_true.mpr fun s hs => isSort_of (sn s hs)
  have a2 : (p.ls.map lrD).all (isListenerB (lnames p) (snames p) (names p.boxes)) = true := by
    rw [List.all_map]; exact List.all_eq_true.mpr fun l hx => by
      obtain ⟨h1, h2, h3, h4⟩ := row l hx
      exact isListener_of (ln l hx) h1 h2 h3 h4
  rw [a1, a2, r1, r2]; rfl
theorem GoodP.ris {p : Page} (g : GoodP p) : rising (lnames p) = true ∧ rising (snames p) = true := by
  have h : (isBoxesB (boxesD p.boxes) && ((decide (1 ≤ (p.sorts.map srtD).length) && (decide ((p.sorts.map srtD).length ≤ 3) && (p.sorts.map srtD).all isSortB)) && (decide ((p.ls.map lrD).length ≤ 12) &&
      ((p.ls.map lrD).all (isListenerB (namesIn (p.ls.map lrD)) (namesIn (p.sorts.map srtD)) (namesIn (p.boxes.map rowD))) && (rising (namesIn (p.ls.map lrD)) && (rising (namesIn (p.sorts.map srtD)) && isOnB (namesIn (p.ls.map lrD)) (.tup (p.on.map D.str)))))))) = true := g.isP
  rw [namesIn_ls g.lnm, namesIn_ss g.snm] at h
  simp only [Bool.and_eq_true] at h
  exact ⟨h.2.2.2.2.1, h.2.2.2.2.2.1⟩
theorem dep_mem {x : D} : ∀ {xs : List D}, x ∈ xs → x.dep ≤ depA xs
  | y :: ys, hx => by
    show x.dep ≤ max y.dep (depA ys)
    rcases List.mem_cons.mp hx with rfl | hx
    · omega
    · have := dep_mem hx; omega
theorem AnyV.un {n : Nat} {xs : List D} (h : AnyV (n + 1) (.tup xs)) : AllV n xs ∧ xs.length ≤ 50 := by
  obtain ⟨h1, h2, h3⟩ := h
  simp only [D.nar, Bool.and_eq_true, decide_eq_true_eq] at h3
  refine ⟨fun x hx => ⟨okA_mem (xs := xs) h1 x hx, ?_, (narA_iff xs).mp h3.2 x hx⟩, h3.1⟩
  have h2 : depA xs + 1 ≤ n + 1 := h2
  have := dep_mem hx
  omega
theorem AllV.sub {α : Type} {n : Nat} {f : α → D} {xs ys : List α} (h : AllV n (xs.map f)) (s : ∀ y ∈ ys, y ∈ xs) : AllV n (ys.map f) := fun d hd => by
  obtain ⟨y, hy, rfl⟩ := List.mem_map.mp hd
  exact h _ (List.mem_map.mpr ⟨y, s y hy, rfl⟩)
theorem with_any {ns : List Str} {l : LRow} (h : AnyV 3 (lrD l)) : AnyV 3 (lrD (withL ns l)) := by
  obtain ⟨h1, _⟩ := AnyV.un (xs := [.str l.name, .str l.box, .str l.sort, .bl l.early, .bl l.once, .bl l.calm, .tup (l.deeds.map deedD)]) h
  obtain ⟨h2, h3⟩ := AnyV.un (h1 (.tup (l.deeds.map deedD)) (by simp))
  have h4 : AnyV 2 (.tup ((withL ns l).deeds.map deedD)) := AllV.tup (h2.sub fun d hd => (keep_deeds d hd).1) (by
    rw [List.length_map] at *
    have := List.length_filter_le (keepD ns) l.deeds
    show (l.deeds.filter (keepD ns)).length ≤ 50
    omega)
  exact AllV.tup (n := 2) (.cons (h1 (.str l.name) (by simp)) (.cons (h1 (.str l.box) (by simp)) (.cons (h1 (.str l.sort) (by simp)) (.cons (h1 (.bl l.early) (by simp)) (.cons (h1 (.bl l.once) (by simp)) (.cons (h1 (.bl l.calm) (by simp)) (.cons h4 .nil))))))) (by simp)
theorem PageV.wo {p : Page} (v : PageV p) (ns : List Str) : PageV (pwo p ns) where
  ss := v.ss
  ls := allv_map fun l hl => by
    obtain ⟨l0, h0, rfl⟩ := List.mem_map.mp hl
    exact with_any (v.ls _ (List.mem_map.mpr ⟨l0, (List.mem_filter.mp h0).1, rfl⟩))
  bs := v.bs
  on := v.on.sub fun y hy => (List.mem_filter.mp hy).1
  sl := v.sl
  s0 := v.s0
  ll := by
    have := v.ll
    show ((p.ls.filter (keepL ns)).map (withL ns)).length ≤ 12
    rw [List.length_map]
    have := List.length_filter_le (keepL ns) p.ls
    omega
  bl := v.bl
  b0 := v.b0
  ol := by
    have := v.ol
    have := List.length_filter_le (fun x => !ns.contains x) p.on
    show (p.on.filter fun x => !ns.contains x).length ≤ 12
    omega
theorem GoodP.wo {p : Page} (g : GoodP p) (v : PageV p) (ns : List Str) : GoodP (pwo p ns) := by
  obtain ⟨r1, r2⟩ := g.ris
  have hmem : ∀ l ∈ (pwo p ns).ls, ∃ l0 ∈ p.ls, ns.contains l0.name = false ∧ l = withL ns l0 := fun l hl => by
    obtain ⟨l0, h0, rfl⟩ := List.mem_map.mp hl
    obtain ⟨h1, h2⟩ := List.mem_filter.mp h0
    exact ⟨l0, h1, by unfold keepL at h2; cases hh : ns.contains l0.name <;> rw [hh] at h2 <;> simp_all, rfl⟩
  refine goodP_mk (v.wo ns) g.bs (fun l hl => ?_) ?_ (fun x hx => ?_) (g.ond.filter _) g.snm r2 (fun l hl => ?_)
  · obtain ⟨l0, h0, _, rfl⟩ := hmem l hl
    exact g.lnm l0 h0
  · rw [lnames_pwo]
    exact pw_rising ((rising_pw r1).filter _)
  · obtain ⟨h1, h2⟩ := List.mem_filter.mp hx
    rw [lnames_pwo]
    exact List.mem_filter.mpr ⟨g.onm x h1, h2⟩
  · obtain ⟨l0, h0, hc, rfl⟩ := hmem l hl
    obtain ⟨h1, h2, h3, h4⟩ := g.row l0 h0
    refine ⟨h1, h2, Nat.le_trans (List.length_filter_le ..) h3, fun d hd => ?_⟩
    obtain ⟨k1, k2⟩ := keep_deeds d hd
    have h5 := h4 d k1
    rw [lnames_pwo]
    cases d with
    | on n => exact List.mem_filter.mpr ⟨h5, k2⟩
    | off n => exact List.mem_filter.mpr ⟨h5, k2⟩
    | move b u => exact h5
    | send s b => exact h5
    | _ => trivial
/-- one after another -/
theorem pwo_nil (p : Page) : pwo p [] = p := by
  unfold pwo
  have e1 : p.ls.filter (keepL []) = p.ls := List.filter_eq_self.mpr fun _ _ => rfl
  have e2 : (p.on.filter fun x => !([] : List Str).contains x) = p.on := List.filter_eq_self.mpr fun _ _ => rfl
  have e3 : p.ls.map (withL []) = p.ls := by
    conv => rhs; rw [← List.map_id p.ls]
    refine List.map_congr_left fun l _ => ?_
    have : l.deeds.filter (keepD []) = l.deeds := List.filter_eq_self.mpr fun d _ => by cases d <;> rfl
    unfold withL
    rw [this]; rfl
  rw [e1, e2, e3]
theorem pwo_pwo (p : Page) (as bs : List Str) : pwo (pwo p as) bs = pwo p (as ++ bs) := by
  have hc : ∀ x : Str, (as ++ bs).contains x = (as.contains x || bs.contains x) := fun x => by
    rw [Bool.eq_iff_iff, Bool.or_eq_true, List.contains_iff_mem, List.contains_iff_mem, List.contains_iff_mem, List.mem_append]
  have hd : ∀ d : Deed, keepD (as ++ bs) d = (keepD as d && keepD bs d) := fun d => by
    cases d <;> simp only [keepD, hc, Bool.not_or, Bool.and_self]
  have hl : ∀ l : LRow, keepL (as ++ bs) l = (keepL as l && keepL bs l) := fun l => by simp only [keepL, hc, Bool.not_or]
  unfold pwo
  simp only [List.filter_map, List.filter_filter, List.map_map, Page.mk.injEq, true_and]
  refine ⟨?_, ?_⟩
  · have e : (fun a => keepL as a && (keepL bs ∘ withL as) a) = keepL (as ++ bs) := funext fun l => (hl l).symm
    have e2 : (fun a => (keepL bs ∘ withL as) a && keepL as a) = keepL (as ++ bs) := funext fun l => by rw [hl l, Bool.and_comm]; rfl
    first | rw [e] | rw [e2]
    refine List.map_congr_left fun l _ => ?_
    show withL bs (withL as l) = withL (as ++ bs) l
    unfold withL
    simp only [List.filter_filter, LRow.mk.injEq, true_and]
    refine List.filter_congr fun d _ => ?_
    rw [hd, Bool.and_comm]
  · refine List.filter_congr fun x _ => ?_
    rw [hc, Bool.not_or, Bool.and_comm]
theorem pwo_eq {p : Page} {as bs : List Str} (h : ∀ x, as.contains x = bs.contains x) : pwo p as = pwo p bs := by
  have hd : ∀ d : Deed, keepD as d = keepD bs d := fun d => by cases d <;> simp only [keepD, h]
  have hl : keepL as = keepL bs := funext fun l => by simp only [keepL, h]
  unfold pwo withL
  simp only [h, hl, show keepD as = keepD bs from funext hd]
def sp_require_names : Spec := spE (fun x : Page × D => [pageD x.1, x.2]) (fun _ x => GoodP x.1 ∧ x.2.ok = true ∧ x.2.nar = true) fun x => if isNamesB x.1 x.2 = true then .ok .non else .error "InvalidNames"
theorem ms_require_names : MonoS sp_require_names := spE.mono
theorem len_require_names : ∀ S ds Q E, sp_require_names S ds Q E → ds.length = 2 := spE.len fun _ => rfl
def sp_page_without : Spec := spO (fun x : Page × List Str => [pageD x.1, .tup (x.2.map D.str)]) (fun _ x => GoodP x.1 ∧ PageV x.1 ∧ okS x.2) fun x => pageD (pwo x.1 x.2)
theorem ms_page_without : MonoS sp_page_without := spO.mono
theorem len_page_without : ∀ S ds Q E, sp_page_without S ds Q E → ds.length = 2 := spO.len fun _ => rfl
def withoutE (x : PA) (v : D) : Except Str D := match x with
  | .inl p => if isNamesB p v = true then .ok (match v with | .tup xs => pageD (pwo p (xs.filterMap stOf)) | _ => .non) else .error "InvalidNames"
  | .inr _ => .error "InvalidPage"
def PaV : PA → Prop
  | .inl p => PageV p
  | .inr _ => True
def sp_without : Spec := spE (fun x : PA × D => [paD x.1, x.2]) (fun _ x => PaOk x.1 ∧ PaV x.1 ∧ x.2.ok = true ∧ x.2.nar = true) fun x => withoutE x.1 x.2
theorem ms_without : MonoS sp_without := spE.mono
theorem len_without : ∀ S ds Q E, sp_without S ds Q E → ds.length = 2 := spE.len fun _ => rfl
def b_require_names (S : List Addr) : TSd := (sSeq (sAsg (tFn S sp_listener_names (tCs (tV 0) tN)) (.n 2))
  (sIf (tOrT (tNotT (tTru (tIsi isTup (tO 1)))) (tOrT (tNotT (tTru (tCl allD (tCs (tComp (.n 3) tYesD (tFn S sp_is_one_of (tCs (tV 3) (tCs (tV 2) tN))) [3] (tItems (tO 1))) tN)))) (tNotT (tTru (tFn S sp_is_rising (tCs (tV 1) tN))))))
  (sRaise "InvalidNames")
  sNext))

def b_page_without_1 (S : List Addr) : TSd := (sIf (tIsB (tBin notInD (tBin ixD (tO 3) (tK (.int 0))) (tO 1)))
  (sSeq (sAsg (tCl tupleD (tCs (tComp (.n 10) (tOrT (tIsB (tBin notInD (tBin ixD (tO 10) (tK (.int 0))) (tTupD (tCs (tK (.str "on")) (tCs (tK (.str "off")) tN))))) (tIsB (tBin notInD (tBin ixD (tO 10) (tK (.int 1))) (tO 1)))) (tV 10) [10] (tItems (tBin ixD (tO 3) (tK (.int 6))))) tN)) (.n 8))
  (sAsg (tBin addD (tO 2) (tTupD (tCs (tBin addD (tSlD (tO 3) tONo (tOSo (tK (.int 6)))) (tTupD (tCs (tV 8) tN))) tN))) (.n 2)))
  sNext)
def b_page_without (S : List Addr) : TSd := (sSeq (sAsg (tV 0) (.t [(.n 4), (.n 5), (.n 6), (.n 7)]))
  (sSeq (sAsg (tTupD tN) (.n 2))
  (sSeq (sFor (tItems (tV 5)) (.n 3)
  (b_page_without_1 S))
  (sRet (tTupD (tCs (tV 4) (tCs (tV 2) (tCs (tV 6) (tCs (tCl tupleD (tCs (tComp (.n 9) (tIsB (tBin notInD (tO 9) (tO 1))) (tV 9) [9] (tItems (tO 7))) tN)) tN)))))))))

def b_without (S : List Addr) : TSd := (sSeq (sDrop (tFn S sp_require_page (tCs (tV 0) tN)))
  (sSeq (sDrop (tFn S sp_require_names (tCs (tV 0) (tCs (tV 1) tN))))
  (sRet (tFn S sp_page_without (tCs (tV 0) (tCs (tV 1) tN))))))

theorem pure_require_names : ∀ S ds Q E, sp_require_names S ds Q E → b_require_names S { nx := fun _ => Q .non, rt := ptR Q, ex := fun x _ => E x } (start0 ["page", "value", "names", "name"] ds) := by
  rintro S _ Q E ⟨⟨p, d⟩, rfl, ⟨g, ho, hn⟩, q⟩
  replace g : GoodP p := g
  replace ho : d.ok = true := ho
  replace hn : d.nar = true := hn
  unfold b_require_names
  refine seq_intro fun K1 hK1 => ?_
  simp [-D.ok, -okA]
  refine ⟨p, rfl, g, hK1 _ ?_⟩
  cases d with
  | tup xs =>
    have okx := okA_mem (xs := xs) ho
    have hl : xs.length ≤ 50 := by
      simp only [D.nar, Bool.and_eq_true, decide_eq_true_eq] at hn
      exact hn.1
    simp [isTup, -D.ok, -okA]
    have hs : sizeLine = 16777216 := rfl
    refine compD_map' (fun d => .bl (inS (lnames p) d)) xs (fun x hx => ⟨_, rfl, fun Q q => ?_⟩) ?_
    · simp [wipeD, -D.ok, -okA]
      exact one_of (okx x hx) g.lns q
    · rw [blsOf_maps]
      cases h1 : xs.all (inS (lnames p)) with
      | false =>
        have e : isNamesB p (.tup xs) = false := by show (xs.all (inS (lnames p)) && _) = false; rw [h1]; rfl
        simp only [e] at q
        simpa [h1] using q
      | true =>
        obtain ⟨e1, e2⟩ := strs_all h1
        have e : isNamesB p (.tup xs) = rising (xs.filterMap stOf) := by show (xs.all (inS (lnames p)) && _) = _; rw [h1]; rfl
        simp only [e] at q
        simp [h1]
        refine ⟨xs.filterMap stOf, false, by rw [sqD]; exact congrArg (fun z => [D.tup z]) e2, by have := List.length_filterMap_le stOf xs; omega, ?_⟩
        cases h2 : rising (xs.filterMap stOf) <;> (rw [h2] at q; simpa using q)
  | _ => first | (simp at ho; done) | simpa [isTup, isNamesB] using q
theorem lname_ok {p : Page} (g : GoodP p) {l : LRow} (hl : l ∈ p.ls) : (D.str l.name).ok = true := (okA_strs _).mp g.lns _ (List.mem_map.mpr ⟨l, hl, rfl⟩)
def pwoD (ns : List Str) (pre : List LRow) : List D := ((pre.filter (keepL ns)).map (withL ns)).map lrD
theorem onoff_in {w : Str} (h : (D.str w).ok = true) : D.isIn (.str w) (.tup [.str "on", .str "off"]) = some ((["on", "off"] : List Str).contains w) := in_tupS (xs := ["on", "off"]) h (by show okA _ = true; decide +kernel)
theorem word_ok (d : Deed) : (D.str d.word).ok = true := by
  have h : (allWords.all fun w => (D.str w).ok) = true := by decide +kernel
  exact List.all_eq_true.mp h _ (by cases d <;> simp [Deed.word, allWords])
theorem at7 (a b c d e f g : D) : atI [a, b, c, d, e, f, g] 6 = some g := rfl
theorem cut7 (a b c d e f g : D) : cut [a, b, c, d, e, f, g] none (some 6) = [a, b, c, d, e, f] := rfl
theorem nodeed {w : Str} {r : List D} {tc : T} {u : TB} {ρ : DEnv} {j : Nat} {c : D} {Q : Bool → Prop} (hj : ρ[j]? = some (some (.p (.tup (.str w :: r))))) (hc : ∀ Q : D → Prop, Q c → tc ρ Q NoE) (h : D.isIn (.str w) c = some false) (q : Q true) : tOrT (tIsB (tBin notInD (tBin ixD (tO j) (tK (.int 0))) tc)) u ρ Q NoE := by
  simp only [tOrT, tIsB, tBin, tO, tK, ixD, hj, atI_0]
  refine hc _ ?_
  simp only [notInD, cmpD, h, Option.map_some, Bool.not_false, isB]
  exact q
theorem isdeed {w n : Str} {tc tm : T} {ρ : DEnv} {j : Nat} {c m : D} {b : Bool} {Q : Bool → Prop} (hj : ρ[j]? = some (some (.p (.tup [.str w, .str n])))) (hc : ∀ Q : D → Prop, Q c → tc ρ Q NoE) (h : D.isIn (.str w) c = some true) (hm : ∀ Q : D → Prop, Q m → tm ρ Q NoE) (h2 : D.isIn (.str n) m = some b) (q : Q (!b)) :
    tOrT (tIsB (tBin notInD (tBin ixD (tO j) (tK (.int 0))) tc)) (tIsB (tBin notInD (tBin ixD (tO j) (tK (.int 1))) tm)) ρ Q NoE := by
  simp only [tOrT, tIsB, tBin, tO, tK, ixD, hj, atI_0, atI_1]
  refine hc _ ?_
  simp only [notInD, cmpD, h, Option.map_some, Bool.not_true, isB]
  refine hm _ ?_
  simp only [h2, Option.map_some]
  exact q
/-- deeds are kept -/
theorem keep_test {tc tm : T} {ρ : DEnv} {j : Nat} {c m : D} {Q : Bool → Prop} {ns ls ss bs : List Str} {d : Deed} (okn : okS ns) (okl : okS ls) (hd : DeedIn ls ss bs d) (hj : ρ[j]? = some (some (.p (deedD d)))) (hc : ∀ Q : D → Prop, Q c → tc ρ Q NoE) (e : c = .tup [.str "on", .str "off"] ∨ c = .lst [.str "on", .str "off"]) (hm : ∀ Q : D → Prop, Q m → tm ρ Q NoE) (e2 : m = .tup (ns.map D.str)) (q : Q (keepD ns d)) :
    tOrT (tIsB (tBin notInD (tBin ixD (tO j) (tK (.int 0))) tc)) (tIsB (tBin notInD (tBin ixD (tO j) (tK (.int 1))) tm)) ρ Q NoE := by
  have nm : ∀ n, n ∈ ls → (D.str n).ok = true := (okA_strs _).mp okl
  subst e2
  cases d with
  | on n => exact isdeed hj hc (by rcases e with rfl | rfl <;> decide +kernel) hm (in_tupS (nm n hd) okn) q
  | off n => exact isdeed hj hc (by rcases e with rfl | rfl <;> decide +kernel) hm (in_tupS (nm n hd) okn) q
  | stop => exact nodeed hj hc (by rcases e with rfl | rfl <;> decide +kernel) q
  | halt => exact nodeed hj hc (by rcases e with rfl | rfl <;> decide +kernel) q
  | bar => exact nodeed hj hc (by rcases e with rfl | rfl <;> decide +kernel) q
  | move b u => exact nodeed hj hc (by rcases e with rfl | rfl <;> decide +kernel) q
  | send b u => exact nodeed hj hc (by rcases e with rfl | rfl <;> decide +kernel) q
theorem pure_page_without : ∀ S ds Q E, sp_page_without S ds Q E → b_page_without S { nx := fun _ => Q .non, rt := ptR Q, ex := fun x _ => E x } (start0 ["page", "names", "found", "row", "sorts", "listeners", "boxes", "on", "deeds", "name", "deed"] ds) := by
  rintro S _ Q E ⟨⟨p, ns⟩, rfl, ⟨g, v, okn⟩, q⟩
  replace q : Q (pageD (pwo p ns)) := q
  replace g : GoodP p := g
  replace v : PageV p := v
  replace okn : okS ns := okn
  have hs : sizeLine = 16777216 := rfl
  have ll := v.ll
  unfold b_page_without
  refine seq_intro fun K1 hK1 => ?_
  simp only [sAsg, tV, List.getElem?_cons_zero, pageD, asg, asgs, List.set, Option.bind_some]
  refine hK1 _ ?_
  refine seq_intro fun K2 hK2 => ?_
  simp only [sAsg, tTupD, tN, asg, List.set]
  refine ⟨by decide, hK2 _ ?_⟩
  refine seq_intro fun K3 hK3 => ?_
  simp only [sFor, tItems, tV, itemsD, List.getElem?_cons_succ, List.getElem?_cons_zero]
  refine forD_rule (fun ds ρ => ∃ (pre rest : List LRow) (x3 x8 x9 x10 : Option Sl), p.ls = pre ++ rest ∧ ds = rest.map lrD ∧ ρ = [some (.p (pageD p)), some (.p (.tup (ns.map D.str))), some (.p (.tup (pwoD ns pre))), x3, some (.p (sortsD p.sorts)), some (.p (.tup (p.ls.map lrD))), some (.p (boxesD p.boxes)), some (.p (.tup (p.on.map D.str))), x8, x9, x10])
    (fun d rest' ρ hI => ?_) (fun ρ hI => ?_) _ _ ⟨[], p.ls, none, none, none, none, rfl, rfl, rfl⟩
  · obtain ⟨pre, rest, x3, x8, x9, x10, hp, e, rfl⟩ := hI
    cases rest with
    | nil => cases e
    | cons l rest =>
      cases e
      have hl : l ∈ p.ls := by rw [hp]; simp
      have okl := lname_ok g hl
      have hin := in_tupS okl okn
      refine ⟨_, rfl, fun N hN => ?_⟩
      unfold b_page_without_1
      have lp : (pwoD ns pre).length ≤ 12 := by
        unfold pwoD
        rw [List.length_map, List.length_map]
        have h1 := List.length_filter_le (keepL ns) pre
        have h2 := congrArg List.length hp
        rw [List.length_append] at h2
        omega
      by_cases hc : l.name ∈ ns
      · have e1 : pwoD ns (pre ++ [l]) = pwoD ns pre := by
          unfold pwoD
          rw [List.filter_append, List.filter_cons_of_neg (by simp [keepL, hc])]
          simp
        simp [-D.ok, -okA, -D.isIn, lrD, hin, hc]
        exact hN _ ⟨pre ++ [l], rest, _, _, _, _, by rw [hp]; simp only [List.append_assoc, List.singleton_append], rfl, by rw [e1]⟩
      · have e1 : pwoD ns (pre ++ [l]) = pwoD ns pre ++ [lrD (withL ns l)] := by
          unfold pwoD
          rw [List.filter_append, List.filter_cons_of_pos (by simp [keepL, hc])]
          simp
        simp [-D.ok, -okA, -D.isIn, lrD, hin, hc, at7, cut7]
        refine compD_go deedD (keepD ns) deedD l.deeds (fun d hd => ⟨_, rfl, fun Q q => ?_, fun _ Q q => ?_⟩) ?_
        · obtain ⟨_, _, _, hdi⟩ := g.row l hl
          exact keep_test (ls := lnames p) okn g.lns (hdi d hd) rfl (fun Q q => ⟨Nat.le_of_ble_eq_true rfl, q⟩) (.inl rfl) (fun Q q => q) rfl q
        · simpa [wipeD] using q
        refine ⟨by omega, by omega, by omega, by omega, ?_⟩
        exact hN _ ⟨pre ++ [l], rest, _, _, _, _, by rw [hp]; simp only [List.append_assoc, List.singleton_append], rfl, by rw [e1]; rfl⟩
  · obtain ⟨pre, rest, x3, x8, x9, x10, hp, e, rfl⟩ := hI
    cases rest with
    | cons => cases e
    | nil =>
      refine hK3 _ ?_
      rw [List.append_nil] at hp
      have ol := v.ol
      have okon : ∀ x ∈ p.on, (D.str x).ok = true := fun x hx => (okA_strs _).mp g.lns x (g.onm x hx)
      simp only [sRet, tTupD, tCs, tV, tCl, tComp, tItems, tO, itemsD, wipeD, List.getElem?_cons_succ, List.getElem?_cons_zero, List.set]
      refine compD_go D.str (fun x => !ns.contains x) D.str p.on (fun x hx => ⟨_, rfl, fun Q q => ?_, fun _ Q q => ?_⟩) ?_
      · simp only [tIsB, tBin, tO, notInD, cmpD, List.getElem?_cons_succ, List.getElem?_cons_zero, List.set]
        rw [in_tupS (okon x hx) okn, Option.map_some]
        exact q
      · simpa using q
      simp only [tN, tupleD]
      refine ⟨Nat.le_of_ble_eq_true rfl, ?_⟩
      have e : pageD (pwo p ns) = .tup [sortsD p.sorts, .tup (pwoD ns p.ls), boxesD p.boxes, .tup ((p.on.filter fun x => !ns.contains x).map D.str)] := rfl
      rw [e, hp] at q
      exact q
theorem pure_without : ∀ S ds Q E, sp_without S ds Q E → b_without S { nx := fun _ => Q .non, rt := ptR Q, ex := fun x _ => E x } (start0 ["page", "names"] ds) := by
  rintro S _ Q E ⟨⟨x, d⟩, rfl, ⟨hx, hv, ho, hn⟩, q⟩
  replace hx : PaOk x := hx
  replace hv : PaV x := hv
  replace ho : d.ok = true := ho
  replace hn : d.nar = true := hn
  unfold b_without
  refine seq_intro fun K1 hK1 => ?_
  simp only [sDrop, tFn, tCs, tV, tN, List.getElem?_cons_succ, List.getElem?_cons_zero]
  refine ⟨x, rfl, hx, ?_⟩
  cases x with
  | inl p =>
    have g : GoodP p := hx
    have v : PageV p := hv
    refine hK1 _ ?_
    refine seq_intro fun K2 hK2 => ?_
    simp only [sDrop, tFn, tCs, tV, tN, List.getElem?_cons_succ, List.getElem?_cons_zero]
    refine ⟨⟨p, d⟩, rfl, ⟨g, ho, hn⟩, ?_⟩
    cases h : isNamesB p d with
    | false =>
      have e : withoutE (.inl p) d = .error "InvalidNames" := by unfold withoutE; simp [h]
      simp only [e] at q
      simpa [h] using q
    | true =>
      cases d with
      | tup xs =>
        have h' : (xs.all (inS (lnames p)) && rising (xs.filterMap stOf)) = true := h
        rw [Bool.and_eq_true] at h'
        obtain ⟨_, e2⟩ := strs_all h'.1
        have e : withoutE (.inl p) (.tup xs) = .ok (pageD (pwo p (xs.filterMap stOf))) := by unfold withoutE; simp [h]
        simp only [e] at q
        simp only [h]
        refine hK2 _ ?_
        simp only [sRet, tFn, tCs, tV, tN, List.getElem?_cons_succ, List.getElem?_cons_zero]
        refine ⟨⟨p, xs.filterMap stOf⟩, ?_, ⟨g, v, ?_⟩, q⟩
        · show [pageD p, D.tup xs] = [pageD p, .tup ((xs.filterMap stOf).map D.str)]
          rw [← e2]
        · show okA _ = true
          rw [← e2]
          exact ho
      | _ => cases h
  | inr y =>
    exact q
end DL.TB

set_option Elab.async false
set_option linter.all false
set_option maxRecDepth 100000
set_option maxHeartbeats 1000000
/-! law k51, plain -/
namespace DL.TB
open PySem PySem.Spec PyProof.Rows L2
/-- the error classes; those that are caught -/
def clsL : List Str := ["BoxError", "InvalidPage", "InvalidNames", "TooDeep", "TooMany", "Endless"]
def clsH : List Str := ["InvalidNames", "InvalidPage"]
def badN (x : PA) (d : D) : Prop := match x with
  | .inl p => isNamesB p d = false
  | .inr _ => True
def badE (x : PA) : Str := match x with
  | .inl _ => "InvalidNames"
  | .inr _ => "InvalidPage"
def sp_least : Spec := fun _ ds _ E => ∃ (x : PA) (d : D), ds = [paD x, d] ∧ PaOk x ∧ d.ok = true ∧ d.nar = true ∧ badN x d ∧ E (badE x, [])
theorem ms_least : MonoS sp_least := ⟨fun _ h ⟨x, d, e, o1, o2, o3, o4, q⟩ => ⟨x, d, e, o1, o2, o3, o4, h _ q⟩⟩
theorem len_least : ∀ S ds Q E, sp_least S ds Q E → ds.length = 2 := fun _ _ _ _ ⟨_, _, e, _⟩ => by rw [e]; rfl
def sp__law_outcome : Spec := spO (fun x : Bool × PA × D => [.int (if x.1 = true then 1 else 0), paD x.2.1, x.2.2]) (fun _ x => PaOk x.2.1 ∧ PaV x.2.1 ∧ x.2.2.ok = true ∧ x.2.2.nar = true ∧ badN x.2.1 x.2.2) fun x => .str (match x.2.1 with | .inl _ => "names" | .inr _ => "page")
theorem ms__law_outcome : MonoS sp__law_outcome := spO.mono
theorem len__law_outcome : ∀ S ds Q E, sp__law_outcome S ds Q E → ds.length = 3 := spO.len fun _ => rfl
def sp_law : Spec := fun _ ds Q _ => ∃ (b : Addr) (sc : List Int), ds = [scrD b sc] ∧ sc.length ≤ 63 ∧ Q (.bl true)
theorem ms_law : MonoS sp_law := ⟨fun h _ ⟨b, d, e, o, q⟩ => ⟨b, d, e, o, h _ q⟩⟩
theorem len_law : ∀ S ds Q E, sp_law S ds Q E → ds.length = 1 := fun _ _ _ _ ⟨_, _, e, _⟩ => by rw [e]; rfl
def b_least (S : List Addr) : TSd := (sSeq (sDrop (tFn S sp_require_page (tCs (tV 0) tN))) (sSeq (sDrop (tFn S sp_require_names (tCs (tV 0) (tCs (tV 1) tN)))) (fun _ _ => False)))

def b__law_outcome (S : List Addr) : TSd := (sSeq (sTry clsL (sDrop (tCallL S [sp_without, sp_least] (tV 0) (tCs (tV 1) (tCs (tV 2) tN))))
  [("InvalidPage", (sRet (tK (.str "page")))), ("InvalidNames", (sRet (tK (.str "names"))))])
  (sRet (tK (.str "fine"))))

def b_law_1 (S : List Addr) : TSd := (sSeq (sAsg (tComp (.n 14) (tOrT (tIsB (tBin notInD (tBin ixD (tO 14) (tK (.int 0))) (tLstD (tCs (tK (.str "on")) (tCs (tK (.str "off")) tN))))) (tIsB (tBin notInD (tBin ixD (tO 14) (tK (.int 1))) (tO 5)))) (tV 14) [14] (tItems (tBin ixD (tO 7) (tK (.int 6))))) (.n 13))
  (sIf (tIsB (tBin notInD (tBin ixD (tO 7) (tK (.int 0))) (tO 5)))
  (sMeth 6 mApp (tCs (tBin addD (tSlD (tO 7) tONo (tOSo (tK (.int 6)))) (tTupD (tCs (tCl tupleD (tCs (tO 13) tN)) tN))) tN))
  sNext))
def b_law_2 (S : List Addr) : TSd := (sAsg (tFn S sp_without (tCs (tV 9) (tCs (tTupD (tCs (tV 10) tN)) tN))) (.n 9))
def b_law_3 (S : List Addr) : TSd := (sIf (tOrT (tIsB (tBin neD (tFn S sp__law_outcome (tCs (tK (.int 0)) (tCs (tV 3) (tCs (tV 12) tN)))) (tK (.str "names")))) (tIsB (tBin neD (tFn S sp__law_outcome (tCs (tK (.int 1)) (tCs (tV 3) (tCs (tV 12) tN)))) (tK (.str "names")))))
  (sRet (tK (.bl false)))
  sNext)
def b_law_4 (S : List Addr) : TSd := (sSeq (sOwn (tFn S sp__law_source (tCs (tV 0) (tCs (tV 1) tN))) 2)
  (sSrc 2 (fun a => 
  (sSeq (sAsg (tFn (a :: S) sp__law_drawn_page (tCs (tV 2) (tCs (tLstD (tCs (tK (.int 4)) (tCs (tK (.int 6)) tN))) (tCs (tLstD (tCs (tK (.str "on")) (tCs (tK (.str "off")) (tCs (tK (.str "bar")) (tCs (tK (.str "send")) (tCs (tK (.str "move")) (tCs (tK (.str "off")) tN))))))) tN)))) (.n 3))
  (sSeq (sAsg (tComp (.n 7) tYesD (tBin ixD (tO 7) (tK (.int 0))) [7] (tItems (tBin ixD (tO 3) (tK (.int 1))))) (.n 4))
  (sSeq (sAsg (tCl tupleD (tCs (tComp (.n 10) (tIsB (tBin eqD (tFn (a :: S) sp__law_pick (tCs (tV 2) (tCs (tK (.int 2)) tN))) (tK (.int 0)))) (tV 10) [10] (tItems (tO 4))) tN)) (.n 5))
  (sSeq (sOwn (tLstD tN) 6)
  (sSeq (sFor (tItems (tBin ixD (tO 3) (tK (.int 1)))) (.n 7)
  (b_law_1 (a :: S)))
  (sSeq (sAsg (tTupD (tCs (tBin ixD (tO 3) (tK (.int 0))) (tCs (tCl tupleD (tCs (tO 6) tN)) (tCs (tBin ixD (tO 3) (tK (.int 2))) (tCs (tCl tupleD (tCs (tComp (.n 10) (tIsB (tBin notInD (tO 10) (tO 5))) (tV 10) [10] (tItems (tBin ixD (tO 3) (tK (.int 3))))) tN)) tN))))) (.n 8))
  (sSeq (sIf (tOrT (tIsB (tBin neD (tFn (a :: S) sp_without (tCs (tV 3) (tCs (tV 5) tN))) (tO 8))) (tOrT (tIsB (tBin notBD (tFn (a :: S) sp_is_page (tCs (tV 8) tN)) (tK (.bl true)))) (tIsB (tBin neD (tFn (a :: S) sp_without (tCs (tV 3) (tCs (tTupD tN) tN))) (tO 3)))))
  (sRet (tK (.bl false)))
  sNext)
  (sSeq (sAsg (tV 3) (.n 9))
  (sSeq (sFor (tItems (tRevD (tO 5))) (.n 10)
  (b_law_2 (a :: S)))
  (sSeq (sIf (tIsB (tBin neD (tO 9) (tO 8)))
  (sRet (tK (.bl false)))
  sNext)
  (sSeq (sAsg (tLstD (tCs (tK .non) (tCs (tCl listD (tCs (tO 5) tN)) (tCs (tTupD (tCs (tK (.str "zz")) tN)) (tCs (tTupD (tCs (tK (.int 7)) tN)) (tCs (tIte (tIsB (tBin gtD (tCl lenD (tCs (tO 4) tN)) (tK (.int 1)))) (tCl tupleD (tCs (tRevD (tO 4)) tN)) (tK (.str "a"))) (tCs (tTupD (tCs (tK .non) tN)) tN))))))) (.n 11))
  (sSeq (sFor (tItems (tBin addD (tO 11) (tBin repD (tLstD (tCs (tBin addD (tO 5) (tO 5)) tN)) (tCl intDD (tCs (tBin neD (tO 5) (tTupD tN)) tN))))) (.n 12)
  (b_law_3 (a :: S)))
  (sIf (tOrT (tIsB (tBin neD (tFn (a :: S) sp__law_outcome (tCs (tK (.int 0)) (tCs (tSlD (tO 3) tONo (tOSo (tK (.int 2)))) (tCs (tK .non) tN)))) (tK (.str "page")))) (tIsB (tBin neD (tFn (a :: S) sp__law_outcome (tCs (tK (.int 1)) (tCs (tK .non) (tCs (tK .non) tN)))) (tK (.str "page")))))
  (sRet (tK (.bl false)))
  sNext))))))))))))))))
def b_law (S : List Addr) : TSd := (sSeq (sFor (tRng1 (tCs (tCl maxD (tCs (tK (.int 6)) (tCs (tCl minD (tCs (tK (.int 20)) (tCs (tLenScr 0) tN))) tN))) tN)) (.n 1)
  (b_law_4 S))
  (sRet (tK (.bl true))))

theorem pure_least : ∀ S ds Q E, sp_least S ds Q E → b_least S { nx := fun _ => Q .non, rt := ptR Q, ex := fun x _ => E x } (start0 ["page", "kept", "others", "lots", "lot", "good", "name"] ds) := by
  rintro S _ Q E ⟨x, d, rfl, hx, ho, hn, hb, q⟩
  unfold b_least
  refine seq_intro fun K1 hK1 => ?_
  simp only [sDrop, tFn, tCs, tV, tN, List.getElem?_cons_succ, List.getElem?_cons_zero]
  refine ⟨x, rfl, hx, ?_⟩
  cases x with
  | inr y => exact q
  | inl p =>
    refine hK1 _ ?_
    simp only [sSeq, sDrop, tFn, tCs, tV, tN, List.getElem?_cons_succ, List.getElem?_cons_zero]
    refine ⟨⟨p, d⟩, rfl, ⟨hx, ho, hn⟩, ?_⟩
    have hb : isNamesB p d = false := hb
    simp only [hb]
    exact q
theorem pure__law_outcome : ∀ S ds Q E, sp__law_outcome S ds Q E → b__law_outcome S { nx := fun _ => Q .non, rt := ptR Q, ex := fun x _ => E x } (start0 ["call", "sheet", "names"] ds) := by
  rintro S _ Q E ⟨⟨c, x, d⟩, rfl, ⟨hx, hv, ho, hn, hb⟩, q⟩
  replace hx : PaOk x := hx
  replace hv : PaV x := hv
  replace ho : d.ok = true := ho
  replace hn : d.nar = true := hn
  replace hb : badN x d := hb
  unfold b__law_outcome
  refine seq_intro fun K1 hK1 => ?_
  have hc : ("InvalidPage" : Str) ∈ clsL ∧ isA "InvalidPage" "InvalidPage" = true ∧ ("InvalidNames" : Str) ∈ clsL ∧ isA "InvalidNames" "InvalidPage" = false ∧ isA "InvalidNames" "InvalidNames" = true := by decide +kernel
  have ew : withoutE x d = .error (badE x) := by
    cases x with
    | inr y => rfl
    | inl p =>
      have hb : isNamesB p d = false := hb
      simp [withoutE, hb, badE]
  have fin : ∀ E2 : Exn → Prop, (badE x ∈ clsL ∧ match isA (badE x) "InvalidPage" with
      | true => Q (.str "page")
      | false => badE x ∈ clsL ∧ match isA (badE x) "InvalidNames" with
        | true => Q (.str "names")
        | false => E2 (badE x, [])) := fun E2 => by
    cases x with
    | inl p =>
      refine ⟨hc.2.2.1, ?_⟩
      simp only [badE, hc.2.2.2.1, hc.2.2.2.2]
      exact ⟨hc.2.2.1, q⟩
    | inr y =>
      refine ⟨hc.1, ?_⟩
      simp only [badE, hc.2.1]
      exact q
  cases c
  · simp [-D.ok, -okA]
    refine ⟨⟨x, d⟩, rfl, ⟨hx, hv, ho, hn⟩, ?_⟩
    simp only [ew]
    exact fin _
  · simp [-D.ok, -okA]
    exact ⟨x, d, rfl, hx, ho, hn, hb, fin _⟩
mutual
theorem eqv_refl : ∀ d : D, d.ok = true → d.eqv d = true
  | .non, _ => rfl | .bl a, _ => by simp | .int i, _ => by simp | .str x, _ => by simp
  | .lst xs, h => eqvA_refl xs h
  | .tup xs, h => eqvA_refl xs h
  | .dct _, h => by simp at h
  | .ref _, h => by simp at h
  | .obj _ _ _, h => by simp at h
theorem eqvA_refl : ∀ xs : List D, okA xs = true → eqvA xs xs = true
  | [], _ => rfl
  | x :: xs, h => by
    rw [okA, Bool.and_eq_true] at h
    show (x.eqv x && eqvA xs xs) = true
    rw [eqv_refl x h.1, eqvA_refl xs h.2]; rfl
end
theorem ne_same {d : D} (ok : d.ok = true) (hd : d.dep ≤ 64) {Q : D → Prop} (q : Q (.bl false)) : neD d d Q := by
  refine ⟨⟨ok, ok, by omega⟩, ?_⟩
  rw [eqv_refl d ok]
  exact q
theorem pageD_any {p : Page} (v : PageV p) : AnyV 5 (pageD p) := AllV.tup v.any (by simp)
theorem ne_page {p : Page} (v : PageV p) {Q : D → Prop} (q : Q (.bl false)) : neD (pageD p) (pageD p) Q := ne_same (pageD_any v).1 (by have := (pageD_any v).2.1; omega) q
theorem names_ok_of {p : Page} {ys : List Str} (hm : ∀ y ∈ ys, y ∈ lnames p) (hr : rising ys = true) : isNamesB p (.tup (ys.map D.str)) = true := by
  show ((ys.map D.str).all (inS (lnames p)) && rising ((ys.map D.str).filterMap stOf)) = true
  rw [inS_all hm, stOf_map, hr]; rfl
/-- a good call -/
theorem c_without {S : List Addr} {p : Page} {ys : List Str} (g : GoodP p) (v : PageV p) (hm : ∀ y ∈ ys, y ∈ lnames p) (hr : rising ys = true) (hl : ys.length ≤ 50) {Q : D → Prop} {E : Exn → Prop} (q : Q (pageD (pwo p ys))) : sp_without S [pageD p, .tup (ys.map D.str)] Q E := by
  have oks : ∀ y ∈ ys, (D.str y).ok = true := fun y hy => (okA_strs _).mp g.lns y (hm y hy)
  have an : AnyV 1 (.tup (ys.map D.str)) := (allv_map fun y hy => .str (oks y hy)).tup (by rw [List.length_map]; exact hl)
  refine ⟨⟨.inl p, .tup (ys.map D.str)⟩, rfl, ⟨g, v, an.1, an.2.2⟩, ?_⟩
  have e : withoutE (.inl p) (.tup (ys.map D.str)) = .ok (pageD (pwo p ys)) := by
    unfold withoutE
    simp only [names_ok_of hm hr, if_true, stOf_map]
  simp only [e]
  exact q
theorem wordsK : ∀ w ∈ (["on", "off", "bar", "send", "move", "off"] : List Str), w ∈ allWords := by decide +kernel
theorem pwoD_neg {ns : List Str} {pre : List LRow} {l : LRow} (h : l.name ∈ ns) : pwoD ns (pre ++ [l]) = pwoD ns pre := by
  unfold pwoD
  rw [List.filter_append, List.filter_cons_of_neg (by simp [keepL, h])]
  simp
theorem pwoD_pos {ns : List Str} {pre : List LRow} {l : LRow} (h : ¬ l.name ∈ ns) : pwoD ns (pre ++ [l]) = pwoD ns pre ++ [lrD (withL ns l)] := by
  unfold pwoD
  rw [List.filter_append, List.filter_cons_of_pos (by simp [keepL, h])]
  simp
theorem pwoD_len {ns : List Str} {pre : List LRow} : (pwoD ns pre).length ≤ pre.length := by
  unfold pwoD
  rw [List.length_map, List.length_map]
  exact List.length_filter_le _ _
theorem bad_rev {p : Page} (hr : rising (lnames p) = true) (h : 1 < (lnames p).length) : isNamesB p (.tup ((lnames p).map D.str).reverse) = false := by
  show (_ && rising (((lnames p).map D.str).reverse.filterMap stOf)) = false
  rw [← List.map_reverse, stOf_map]
  have : rising (lnames p).reverse = false := by
    cases hh : rising (lnames p).reverse with
    | false => rfl
    | true =>
      exfalso
      generalize lnames p = xs at *
      match xs, h with
      | x :: y :: r, _ =>
        have p1 := rising_pw hr
        have p2 := rising_pw hh
        rw [List.pairwise_reverse] at p2
        have q1 := (List.pairwise_cons.mp p1).1 y (by simp)
        have q2 := (List.pairwise_cons.mp p2).1 y (by simp)
        have q3 := slt_trans q1 q2
        rw [slt_irrefl] at q3
        cases q3
  rw [this, Bool.and_false]
theorem bad_twice {p : Page} {ys : List Str} (h : ys ≠ []) : isNamesB p (.tup (ys.map D.str ++ ys.map D.str)) = false := by
  show (_ && rising ((ys.map D.str ++ ys.map D.str).filterMap stOf)) = false
  rw [← List.map_append, stOf_map]
  have : rising (ys ++ ys) = false := by
    cases hh : rising (ys ++ ys) with
    | false => rfl
    | true =>
      have := rising_nodup hh
      cases ys with
      | nil => exact absurd rfl h
      | cons y r =>
        rw [List.nodup_append] at this
        exact absurd rfl (this.2.2 y (by simp) y (by simp))
  rw [this, Bool.and_false]
theorem no_zz {mb ml : Nat} {ws : List Str} {p : Page} (h : DrawnPage mb ml ws p) : ¬ ("zz" : Str) ∈ lnames p := fun hz => by
  obtain ⟨kl, hl, hl2⟩ := h.ls.nm
  unfold lnames at hz
  rw [hl2] at hz
  have := List.mem_of_mem_take hz
  exact absurd this (by decide +kernel)
theorem pure_law : ∀ S ds Q E, sp_law S ds Q E → b_law S { nx := fun _ => Q .non, rt := ptR Q, ex := fun x _ => E x } (start0 ["script", "k", "source", "one", "names", "some", "rows", "row", "due", "here", "name", "odds", "odd", "deeds", "deed"] ds) := by
  rintro S _ Q E ⟨b, sc, rfl, hl, q⟩
  unfold b_law
  have hs : sizeLine = 16777216 := rfl
  refine seq_intro fun K1 hK1 => ?_
  simp only [sFor, tRng1, tCl, tCs, tN, tK, tLenScr, List.getElem?_cons_zero]
  simp
  refine ⟨b, sc, rfl, by omega, ?_⟩
  obtain ⟨m1, m2⟩ := mm sc.length 20 hl (by omega)
  refine ⟨m1, ?_⟩
  generalize (mxI 6 (mnI 20 sc.length)).toNat = n at m2
  refine forD_rule (fun ds ρ => ∃ (ks : List Nat) (x1 x2 x3 x4 x5 x6 x7 x8 x9 x10 x11 x12 x13 x14 : Option Sl), ds = ks.map (fun i => D.int (0 + (i : Nat))) ∧ (∀ i ∈ ks, i ≤ 1000) ∧ ρ = [some (.p (scrD b sc)), x1, x2, x3, x4, x5, x6, x7, x8, x9, x10, x11, x12, x13, x14])
    (fun d rest' ρ hI => ?_) (fun ρ hI => ?_) _ _ ⟨List.range n, none, none, none, none, none, none, none, none, none, none, none, none, none, none, rfl, fun i hi => by have := List.mem_range.mp hi; omega, rfl⟩
  · obtain ⟨ks, x1, x2, x3, x4, x5, x6, x7, x8, x9, x10, x11, x12, x13, x14, e, hk, rfl⟩ := hI
    cases ks with
    | nil => cases e
    | cons k ks =>
      cases e
      refine ⟨_, rfl, fun N hN => ?_⟩
      unfold b_law_4
      refine seq_intro fun K2 hK2 => ?_
      simp
      refine ⟨b, sc, k, rfl, ⟨hk k (List.mem_cons_self ..), hl⟩, fun x y z h1 h2 h3 h4 h5 => hK2 _ ?_⟩
      simp only [sSrc, List.getElem?_cons_succ, List.getElem?_cons_zero, List.set]
      refine ⟨⟨h1, h2, h3, h4, h5⟩, fun a => ?_⟩
      have ha : a ∈ a :: S := List.mem_cons_self ..
      refine seq_intro fun K3 hK3 => ?_
      simp only [sAsg, tFn, tCs, tN, tK, tV, tLstD, List.getElem?_cons_succ, List.getElem?_cons_zero, asg, List.set]
      refine ⟨by decide, by decide, ⟨a, 4, 6, ["on", "off", "bar", "send", "move", "off"]⟩, rfl, ⟨ha, ⟨by show 0 < 4; omega, by show 4 ≤ 8; omega⟩, by show 6 ≤ 12; omega, wordsK, by show 6 ≤ 50; omega⟩, fun d hd => ?_⟩
      obtain ⟨p, hp, rfl⟩ := hd
      have v := hp.v
      have g := hp.good
      have ll := v.ll; have ol := v.ol
      refine hK3 _ ?_
      refine seq_intro fun K4 hK4 => ?_
      simp only [sAsg, tComp, tItems, tBin, tO, tK, ixD, pageD, atI_1, itemsD, wipeD, List.getElem?_cons_succ, List.getElem?_cons_zero, List.set]
      refine compD_map lrD (fun l => .str l.name) p.ls (fun l hl => ⟨_, rfl, fun Q q => by simpa [lrD, wipeD] using q⟩) ?_
      have e : (p.ls.map fun l => D.str l.name) = (lnames p).map D.str := by unfold lnames; rw [List.map_map]; rfl
      rw [e]
      simp only [asg, List.set]
      refine hK4 _ ?_
      have lnl : (lnames p).length ≤ 12 := by unfold lnames; rw [List.length_map]; exact ll
      obtain ⟨r1, r2⟩ := g.ris
      refine seq_intro fun K5 hK5 => ?_
      simp only [sAsg, tCl, tCs, tComp, tItems, tO, itemsD, wipeD, List.getElem?_cons_succ, List.getElem?_cons_zero, List.set]
      refine compD_sub D.str (lnames p) (fun x hx => ⟨_, rfl, fun Q q => ?_, fun Q q => by simpa using q⟩) fun ys hys => ?_
      · simp only [tIsB, tBin, tFn, tCs, tN, tV, tK, List.getElem?_cons_succ, List.getElem?_cons_zero, List.set]
        refine pick ha (by decide) (by decide) fun i i0 i1 => ?_
        simp
        exact q _
      simp only [tN, tupleD, asg, List.set]
      refine hK5 _ ?_
      have ym : ∀ y ∈ ys, y ∈ lnames p := fun y hy => hys.subset hy
      have yr : rising ys = true := pw_rising ((rising_pw r1).sublist hys)
      have yn : ys.Nodup := rising_nodup yr
      have yl : ys.length ≤ 12 := Nat.le_trans hys.length_le lnl
      have oky : okS ys := (okA_strs _).mpr fun y hy => (okA_strs _).mp g.lns y (ym y hy)
      refine seq_intro fun K6 hK6 => ?_
      simp only [sOwn, tLstD, tN, List.set]
      refine ⟨by decide, hK6 _ ?_⟩
      refine seq_intro fun K7 hK7 => ?_
      simp only [sFor, tItems, tBin, tO, tK, ixD, atI_1, itemsD, List.getElem?_cons_succ, List.getElem?_cons_zero]
      refine forD_rule (fun ds ρ => ∃ (pre rest : List LRow) (y7 y13 y14 : Option Sl), p.ls = pre ++ rest ∧ ds = rest.map lrD ∧ ρ = [some (.p (scrD b sc)), some (.p (.int k)), some (.p (.ref a)), some (.p (pageD p)), some (.p (stL (lnames p))), some (.p (.tup (ys.map D.str))), some (.o (.lst (pwoD ys pre))), y7, x8, x9, x10, x11, x12, y13, y14])
        (fun d rest2 ρ hI => ?_) (fun ρ hI => ?_) _ _ ⟨[], p.ls, x7, x13, x14, rfl, rfl, rfl⟩
      · obtain ⟨pre, rest, y7, y13, y14, hpr, e, rfl⟩ := hI
        cases rest with
        | nil => cases e
        | cons l rest =>
          cases e
          have hl : l ∈ p.ls := by rw [hpr]; simp
          have okl := lname_ok g hl
          have hin := in_tupS okl oky
          have lp : (pwoD ys pre).length ≤ 12 := by
            have h1 := pwoD_len (ns := ys) (pre := pre)
            have h2 := congrArg List.length hpr
            rw [List.length_append] at h2
            omega
          refine ⟨_, rfl, fun N2 hN2 => ?_⟩
          unfold b_law_1
          refine seq_intro fun K8 hK8 => ?_
          simp only [sAsg, tComp, tItems, tBin, tO, tK, ixD, lrD, at7, itemsD, wipeD, List.getElem?_cons_succ, List.getElem?_cons_zero, List.set]
          refine compD_go deedD (keepD ys) deedD l.deeds (fun d hd => ⟨_, rfl, fun Q q => ?_, fun _ Q q => by simpa using q⟩) ?_
          · obtain ⟨_, _, _, hdi⟩ := g.row l hl
            exact keep_test (ls := lnames p) oky g.lns (hdi d hd) rfl (fun Q q => ⟨Nat.le_of_ble_eq_true rfl, q⟩) (.inr rfl) (fun Q q => q) rfl q
          simp only [asg, List.set]
          refine hK8 _ ?_
          by_cases hc : l.name ∈ ys
          · simp [-D.ok, -okA, -D.isIn, lrD, hin, hc]
            exact hN2 _ ⟨pre ++ [l], rest, _, _, _, by rw [hpr]; simp only [List.append_assoc, List.singleton_append], rfl, by rw [pwoD_neg hc]⟩
          · simp [-D.ok, -okA, -D.isIn, lrD, hin, hc, at7, cut7, mApp]
            refine ⟨by omega, by omega, by omega, ?_⟩
            exact hN2 _ ⟨pre ++ [l], rest, _, _, _, by rw [hpr]; simp only [List.append_assoc, List.singleton_append], rfl, by rw [pwoD_pos hc]; rfl⟩
      · obtain ⟨pre, rest, y7, y13, y14, hpr, e, rfl⟩ := hI
        cases rest with
        | cons => cases e
        | nil =>
          rw [List.append_nil] at hpr
          subst hpr
          refine hK7 _ ?_
          clear hK3 hK4 hK5 hK6 hK7 K3 K4 K5 K6 K7 hK2 K2
          refine seq_intro fun K8 hK8 => ?_
          have okon : ∀ x ∈ p.on, (D.str x).ok = true := fun x hx => (okA_strs _).mp g.lns x (g.onm x hx)
          simp only [sAsg, tTupD, tCs, tBin, tCl, tComp, tItems, tO, tK, ixD, pageD, atI_0, atI_1, show ∀ a b c d : D, atI [a, b, c, d] 2 = some c from fun _ _ _ _ => rfl, show ∀ a b c d : D, atI [a, b, c, d] 3 = some d from fun _ _ _ _ => rfl, itemsD, wipeD, tN, tupleD, List.getElem?_cons_succ, List.getElem?_cons_zero, List.set]
          refine compD_go D.str (fun x => !ys.contains x) D.str p.on (fun x hx => ⟨_, rfl, fun Q q => ?_, fun _ Q q => by simpa using q⟩) ?_
          · simp only [tIsB, tBin, tO, notInD, cmpD, List.getElem?_cons_succ, List.getElem?_cons_zero, List.set]
            rw [in_tupS (okon x hx) oky, Option.map_some]
            exact q
          refine ⟨Nat.le_of_ble_eq_true rfl, ?_⟩
          simp only [asg, List.set]
          refine hK8 _ ?_
          clear hK8 K8
          have vw := v.wo ys
          have gw := g.wo v ys
          have e8 : D.tup [sortsD p.sorts, .tup (pwoD ys p.ls), boxesD p.boxes, .tup ((p.on.filter fun x => !ys.contains x).map D.str)] = pageD (pwo p ys) := rfl
          have e3 : D.tup [sortsD p.sorts, .tup (p.ls.map lrD), boxesD p.boxes, .tup (p.on.map D.str)] = pageD p := rfl
          rw [e8, e3]
          refine seq_intro fun K9 hK9 => ?_
          simp only [sIf, tOrT, tIsB, tBin, tFn, tCs, tN, tV, tO, tK, tTupD, List.getElem?_cons_succ, List.getElem?_cons_zero]
          refine c_without g v ym yr (by omega) (ne_page vw ?_)
          simp only [isB]
          refine ⟨pageD (pwo p ys), rfl, ⟨gw.ok, gw.nar⟩, ?_⟩
          simp only [gw.isP, notBD, isB]
          refine ⟨by decide, ?_⟩
          refine c_without (ys := []) g v (fun _ h => nomatch h) rfl (by decide) ?_
          rw [pwo_nil]
          refine ne_page v ?_
          simp only [isB, sNext]
          refine hK9 _ ?_
          clear hK9 K9
          refine seq_intro fun K10 hK10 => ?_
          simp only [sAsg, tV, asg, List.getElem?_cons_succ, List.getElem?_cons_zero, List.set]
          refine hK10 _ ?_
          refine seq_intro fun K11 hK11 => ?_
          simp only [sFor, tItems, tRevD, tO, revD, itemsD, List.getElem?_cons_succ, List.getElem?_cons_zero]
          rw [← List.map_reverse]
          refine forD_rule (fun ds ρ => ∃ (pre rest : List Str) (y10 : Option Sl), ys.reverse = pre ++ rest ∧ ds = rest.map D.str ∧ ρ = [some (.p (scrD b sc)), some (.p (.int k)), some (.p (.ref a)), some (.p (pageD p)), some (.p (stL (lnames p))), some (.p (.tup (ys.map D.str))), some (.o (.lst (pwoD ys p.ls))), y7, some (.p (pageD (pwo p ys))), some (.p (pageD (pwo p pre))), y10, x11, x12, y13, y14])
            (fun d rest2 ρ hI => ?_) (fun ρ hI => ?_) _ _ ⟨[], ys.reverse, x10, rfl, rfl, by rw [pwo_nil]⟩
          · obtain ⟨pre, rest, y10, hpr, e, rfl⟩ := hI
            cases rest with
            | nil => cases e
            | cons s rest =>
              cases e
              refine ⟨_, rfl, fun N2 hN2 => ?_⟩
              unfold b_law_2
              simp only [sAsg, tFn, tCs, tN, tV, tTupD, List.getElem?_cons_succ, List.getElem?_cons_zero, List.set]
              refine ⟨Nat.le_of_ble_eq_true rfl, ?_⟩
              have hsy : s ∈ ys := List.mem_reverse.mp (by rw [hpr]; simp)
              have hnd : (pre ++ s :: rest).Nodup := by rw [← hpr]; exact (List.reverse_perm ys).nodup_iff.mpr yn
              have hsp : ¬ s ∈ pre := fun h => (List.nodup_append.mp hnd).2.2 s h s (by simp) rfl
              refine c_without (ys := [s]) (g.wo v pre) (v.wo pre) (fun y hy => ?_) rfl (by show 1 ≤ 50; omega) ?_
              · rw [List.mem_singleton.mp hy, lnames_pwo]
                exact List.mem_filter.mpr ⟨ym s hsy, by simp [hsp]⟩
              rw [pwo_pwo]
              simp only [asg, List.set]
              exact hN2 _ ⟨pre ++ [s], rest, _, by rw [hpr]; simp only [List.append_assoc, List.singleton_append], rfl, rfl⟩
          · obtain ⟨pre, rest, y10, hpr, e, rfl⟩ := hI
            cases rest with
            | cons => cases e
            | nil =>
              rw [List.append_nil] at hpr
              subst hpr
              refine hK11 _ ?_
              clear hK10 K10 hK11 K11
              have e9 : pwo p ys.reverse = pwo p ys := pwo_eq fun x => by rw [Bool.eq_iff_iff, List.contains_iff_mem, List.contains_iff_mem, List.mem_reverse]
              rw [e9]
              refine seq_intro fun K12 hK12 => ?_
              simp only [sIf, tIsB, tBin, tO, List.getElem?_cons_succ, List.getElem?_cons_zero]
              refine ne_page vw ?_
              simp only [isB, sNext]
              refine hK12 _ ?_
              clear hK12 K12
              refine seq_intro fun K13 hK13 => ?_
              -- the odd ones
              have odds : ∀ od : D, od = .non ∨ od = .lst (ys.map D.str) ∨ od = .tup [.str "zz"] ∨ od = .tup [.int 7] ∨ od = .tup [.non] ∨ od = .str "a" ∨ (od = .tup ((lnames p).map D.str).reverse ∧ 1 < (lnames p).length) ∨ (od = .tup (ys.map D.str ++ ys.map D.str) ∧ ys ≠ []) → od.ok = true ∧ od.nar = true ∧ isNamesB p od = false := by
                have oln : AllV 0 ((lnames p).map D.str) := allv_map fun x hx => .str ((okA_strs _).mp g.lns x hx)
                have oys : AllV 0 (ys.map D.str) := allv_map fun x hx => .str ((okA_strs _).mp oky x hx)
                intro od h
                rcases h with rfl | rfl | rfl | rfl | rfl | rfl | ⟨rfl, h⟩ | ⟨rfl, h⟩
                · exact ⟨rfl, rfl, rfl⟩
                · have := oys.lst (by rw [List.length_map]; omega)
                  exact ⟨this.1, this.2.2, rfl⟩
                · refine ⟨by decide +kernel, rfl, ?_⟩
                  show ((inS (lnames p) (.str "zz") && true) && _) = false
                  have : inS (lnames p) (.str "zz") = false := by
                    show (lnames p).contains ("zz" : Str) = false
                    have := no_zz hp
                    simpa using this
                  rw [this]; rfl
                · exact ⟨by decide +kernel, rfl, rfl⟩
                · exact ⟨by decide +kernel, rfl, rfl⟩
                · exact ⟨by decide +kernel, rfl, rfl⟩
                · have := AllV.tup (n := 0) (fun y hy => oln y (List.mem_reverse.mp hy)) (by rw [List.length_reverse, List.length_map]; omega)
                  exact ⟨this.1, this.2.2, bad_rev r1 h⟩
                · have := (oys.app oys).tup (by rw [List.length_append, List.length_map]; omega)
                  exact ⟨this.1, this.2.2, bad_twice h⟩
              simp only [sAsg, tLstD, tTupD, tCs, tN, tK, tCl, tO, listD, List.getElem?_cons_succ, List.getElem?_cons_zero, List.set]
              refine ⟨by decide, by decide, ?_⟩
              have ite : ∀ (Q2 : D → Prop) (E2 : Exn → Prop) (z0 z1 z2 z3 z5 z6 z7 z8 z9 z10 z11 z12 z13 z14 : Option Sl), (∀ od : D, (od.ok = true ∧ od.nar = true ∧ isNamesB p od = false) → Q2 od) →
                  tIte (tIsB (tBin gtD (tCl lenD (tCs (tO 4) tN)) (tK (D.int 1)))) (tCl tupleD (tCs (tRevD (tO 4)) tN)) (tK (D.str "a")) [z0, z1, z2, z3, some (.p (stL (lnames p))), z5, z6, z7, z8, z9, z10, z11, z12, z13, z14] Q2 E2 := fun Q2 E2 z0 z1 z2 z3 z5 z6 z7 z8 z9 z10 z11 z12 z13 z14 h => by
                by_cases h1 : 1 < (lnames p).length
                · have h2 : (1 : Int) < (lnames p).length := by omega
                  simp [-D.ok, -okA, stL, h1, h2]
                  have := h _ (odds _ (.inr (.inr (.inr (.inr (.inr (.inr (.inl ⟨rfl, h1⟩))))))))
                  simpa using this
                · have h2 : ¬ (1 : Int) < (lnames p).length := by omega
                  simp [-D.ok, -okA, stL, h1, h2]
                  exact h _ (odds _ (.inr (.inr (.inr (.inr (.inr (.inl rfl)))))))
              refine ite _ _ _ _ _ _ _ _ _ _ _ _ _ _ _ _ fun od hod => ?_
              refine ⟨by decide, Nat.le_of_ble_eq_true rfl, ?_⟩
              simp only [asg, List.set]
              refine hK13 _ ?_
              clear hK13 K13
              refine seq_intro fun K14 hK14 => ?_
              simp only [sFor, tItems, tBin, tO, tLstD, tCs, tN, tCl, tTupD, addD, List.getElem?_cons_succ, List.getElem?_cons_zero]
              refine ⟨by rw [List.length_map]; omega, Nat.le_of_ble_eq_true rfl, Nat.le_of_ble_eq_true rfl, ?_⟩
              have oyt : AnyV 1 (.tup (ys.map D.str)) := (allv_map fun x hx => AnyV.str ((okA_strs _).mp oky x hx)).tup (by rw [List.length_map]; omega)
              refine ⟨⟨oyt.1, rfl, by have := oyt.2.1; omega⟩, ?_⟩
              -- over all the odd ones
              suffices loop : ∀ L : List D, (∀ od ∈ L, od.ok = true ∧ od.nar = true ∧ isNamesB p od = false) → ∀ O11 : D, forD (Tgt.n 12) (b_law_3 (a :: S)) L { nx := K14, rt := ptR Q, bk := K1, ct := N, ex := fun x x_1 => E x }
                  [some (.p (scrD b sc)), some (.p (.int k)), some (.p (.ref a)), some (.p (pageD p)), some (.p (stL (lnames p))), some (.p (.tup (ys.map D.str))), some (.o (.lst (pwoD ys p.ls))), y7, some (.p (pageD (pwo p ys))), some (.p (pageD (pwo p ys))), y10, some (.p O11), x12, y13, y14] by
                have o6 : ∀ x ∈ [D.non, D.lst (List.map D.str ys), D.tup [D.str "zz"], D.tup [D.int 7], od, D.tup [D.non]], x.ok = true ∧ x.nar = true ∧ isNamesB p x = false := fun x hx => by
                  simp only [List.mem_cons, List.not_mem_nil, or_false] at hx
                  rcases hx with rfl | rfl | rfl | rfl | rfl | rfl
                  · exact odds _ (.inl rfl)
                  · exact odds _ (.inr (.inl rfl))
                  · exact odds _ (.inr (.inr (.inl rfl)))
                  · exact odds _ (.inr (.inr (.inr (.inl rfl))))
                  · exact hod
                  · exact odds _ (.inr (.inr (.inr (.inr (.inl rfl)))))
                cases hys0 : ys with
                | nil =>
                  have e0 : (D.tup (([] : List Str).map D.str)).eqv (.tup []) = true := rfl
                  rw [e0]
                  simp only [Bool.not_true, intDD, repD, show bI false = 0 from rfl]
                  refine ⟨⟨by omega, by omega, by decide⟩, by simp; omega, ?_⟩
                  simp only [itemsD]
                  have := loop _ o6
                  rw [hys0] at this
                  simpa using this _
                | cons y0 yr0 =>
                  have e0 : (D.tup ((y0 :: yr0).map D.str)).eqv (.tup []) = false := rfl
                  rw [e0]
                  simp only [Bool.not_false, intDD, repD, show bI true = 1 from rfl]
                  refine ⟨⟨by decide, by decide, Nat.le_of_ble_eq_true rfl⟩, by simp; omega, ?_⟩
                  simp only [itemsD]
                  have := loop ([D.non, D.lst (List.map D.str ys), D.tup [D.str "zz"], D.tup [D.int 7], od, D.tup [D.non]] ++ [.tup (ys.map D.str ++ ys.map D.str)]) (fun x hx => by
                    rcases List.mem_append.mp hx with hx | hx
                    · exact o6 x hx
                    · rw [List.mem_singleton.mp hx]
                      exact odds _ (.inr (.inr (.inr (.inr (.inr (.inr (.inr ⟨rfl, by rw [hys0]; exact fun z => nomatch z⟩))))))))
                  rw [hys0] at this
                  simpa using this _
              intro L hL O11
              refine forD_rule (fun ds ρ => ∃ (y12 : Option Sl), (∀ od ∈ ds, od.ok = true ∧ od.nar = true ∧ isNamesB p od = false) ∧ ρ = [some (.p (scrD b sc)), some (.p (.int k)), some (.p (.ref a)), some (.p (pageD p)), some (.p (stL (lnames p))), some (.p (.tup (ys.map D.str))), some (.o (.lst (pwoD ys p.ls))), y7, some (.p (pageD (pwo p ys))), some (.p (pageD (pwo p ys))), y10, some (.p O11), y12, y13, y14])
                (fun d rest2 ρ hI => ?_) (fun ρ hI => ?_) _ _ ⟨x12, hL, rfl⟩
              · obtain ⟨y12, hd, rfl⟩ := hI
                obtain ⟨o1, o2, o3⟩ := hd d (List.mem_cons_self ..)
                have okw : (D.str "names").ok = true := by decide +kernel
                refine ⟨_, rfl, fun N2 hN2 => ?_⟩
                unfold b_law_3
                simp only [sIf, tOrT, tIsB, tBin, tFn, tCs, tN, tK, tV, List.getElem?_cons_succ, List.getElem?_cons_zero, List.set]
                refine ⟨⟨false, .inl p, d⟩, rfl, ⟨g, v, o1, o2, o3⟩, ?_⟩
                refine ne1 okw okw ?_
                simp only [decide_true, Bool.not_true, isB]
                refine ⟨⟨true, .inl p, d⟩, rfl, ⟨g, v, o1, o2, o3⟩, ?_⟩
                refine ne1 okw okw ?_
                simp only [decide_true, Bool.not_true, isB, sNext]
                exact hN2 _ ⟨_, fun od h => hd od (List.mem_cons_of_mem _ h), rfl⟩
              · obtain ⟨y12, _, rfl⟩ := hI
                refine hK14 _ ?_
                have okw : (D.str "page").ok = true := by decide +kernel
                have pa := v.any
                have a3 : AnyV 5 (.tup (cut [D.tup (p.sorts.map srtD), .tup (p.ls.map lrD), .tup (p.boxes.map rowD), .tup (p.on.map D.str)] none (some 2))) :=
                  (pa.cut none (some 2)).tup (by have := cut_len [D.tup (p.sorts.map srtD), .tup (p.ls.map lrD), .tup (p.boxes.map rowD), .tup (p.on.map D.str)] none (some 2); simp at this; omega)
                simp only [sIf, tOrT, tIsB, tBin, tFn, tCs, tN, tK, tV, tO, tSlD, tONo, tOSo, pageD, sliceD, isI, List.getElem?_cons_succ, List.getElem?_cons_zero, List.set]
                refine ⟨⟨false, .inr _, .non⟩, rfl, ⟨⟨a3.1, a3.2.2, rfl⟩, trivial, rfl, rfl, trivial⟩, ?_⟩
                refine ne1 okw okw ?_
                simp only [decide_true, Bool.not_true, isB]
                refine ⟨⟨true, .inr .non, .non⟩, rfl, ⟨⟨rfl, rfl, rfl⟩, trivial, rfl, rfl, trivial⟩, ?_⟩
                refine ne1 okw okw ?_
                simp only [decide_true, Bool.not_true, isB, sNext]
                exact hN _ ⟨ks, _, _, _, _, _, _, _, _, _, _, _, _, _, _, rfl, fun i hi => hk i (List.mem_cons_of_mem _ hi), rfl⟩
  · obtain ⟨ks, x1, x2, x3, x4, x5, x6, x7, x8, x9, x10, x11, x12, x13, x14, e, hk, rfl⟩ := hI
    exact hK1 _ q
end DL.TB

set_option Elab.async false
set_option linter.all false
set_option maxRecDepth 100000
set_option maxHeartbeats 1000000
/-! the walks -/
namespace DL.TB
open PySem PySem.Spec PyProof.Rows L2
def top (i : Nat) : Stmt := PySem.Challenge.pw_throughboxes_k51_pages_without_listeners.main.body.getD i (.Pass ⟨0, 0, 0, 0⟩)
structure Tx (K : PySem.W.Frag) (mg : Str → Option Value) : Prop where
  bt : Free mg ["ValueError", "all", "bool", "dict", "int", "isinstance", "len", "list", "max", "min", "range", "sorted", "str", "tuple", "zip"]
  h_is_name : Hd K mg "is_name" (top 10)
  h_is_one_of : Hd K mg "is_one_of" (top 11)
  h_is_rising : Hd K mg "is_rising" (top 12)
  h_is_box : Hd K mg "is_box" (top 13)
  h_is_boxes : Hd K mg "is_boxes" (top 14)
  h_is_tree : Hd K mg "is_tree" (top 15)
  h_has_right_houses : Hd K mg "has_right_houses" (top 16)
  h_unders_of : Hd K mg "unders_of" (top 17)
  h_roles_of : Hd K mg "roles_of" (top 18)
  h_door_above : Hd K mg "door_above" (top 19)
  h_is_sort : Hd K mg "is_sort" (top 24)
  h_is_deed : Hd K mg "is_deed" (top 29)
  h_is_listener : Hd K mg "is_listener" (top 30)
  h_is_on : Hd K mg "is_on" (top 31)
  h_names_in : Hd K mg "names_in" (top 32)
  h_is_page : Hd K mg "is_page" (top 33)
  h_listener_names : Hd K mg "listener_names" (top 34)
  h_require_page : Hd K mg "require_page" (top 37)
  h_require_names : Hd K mg "require_names" (top 56)
  h_page_without : Hd K mg "page_without" (top 57)
  h_without : Hd K mg "without" (top 59)
  h_least : Hd K mg "least" (top 60)
  h__law_source : Hd K mg "_law_source" (top 62)
  h__law_pick : Hd K mg "_law_pick" (top 63)
  h__law_chosen : Hd K mg "_law_chosen" (top 64)
  h__law_mixed : Hd K mg "_law_mixed" (top 65)
  h__law_drawn_boxes : Hd K mg "_law_drawn_boxes" (top 66)
  h__law_drawn_sorts : Hd K mg "_law_drawn_sorts" (top 67)
  h__law_drawn_deed : Hd K mg "_law_drawn_deed" (top 68)
  h__law_drawn_listeners : Hd K mg "_law_drawn_listeners" (top 69)
  h__law_drawn_on : Hd K mg "_law_drawn_on" (top 70)
  h__law_drawn_page : Hd K mg "_law_drawn_page" (top 71)
  h__law_outcome : Hd K mg "_law_outcome" (top 72)
  h_law : Hd K mg "law" (top 73)
  x_BoxError : ExF K mg "BoxError"
  x_InvalidPage : ExF K mg "InvalidPage"
  x_InvalidNames : ExF K mg "InvalidNames"
  x_TooDeep : ExF K mg "TooDeep"
  x_TooMany : ExF K mg "TooMany"
  em : ∀ c ∈ clsH, ∀ a ∈ clsL, PySem.W.exmOne K (.ref (He.ga K a)) (.ref (He.ga K c)) = some (isA a c)
  c_ROLES : Con K mg "ROLES" c_ROLES
  c_MOST_BOXES : Con K mg "MOST_BOXES" c_MOST_BOXES
  c_MOST_SORTS : Con K mg "MOST_SORTS" c_MOST_SORTS
  c_MOST_LISTENERS : Con K mg "MOST_LISTENERS" c_MOST_LISTENERS
  c_MOST_DEEDS : Con K mg "MOST_DEEDS" c_MOST_DEEDS
variable {P : Program} {w : World} {K : PySem.W.Frag} {mg : Str → Option Value} {base : Heap}
theorem sc_is_name : FnScope ["value", "sign"] ["value"] (defScope (top 10)) := ⟨rfl, rfl, rfl, by decide +kernel, rfl, by decide +kernel, by decide +kernel⟩

theorem ok_is_name (x : Tx K mg) : Def P w K mg base "is_name" 1 ["value"] sp_is_name := by
  obtain ⟨f, fd, F, hm⟩ := x.h_is_name.ex
  refine ⟨f, fd, fn_D F sc_is_name len_is_name (t := b_is_name) (fun cdv A outer s H E S hr C => ?_) pure_is_name, hm, F.kp, F.bindsN fun _ _ _ _ _ _ us hl => match us, hl with | [_], _ => rfl⟩
  · exact (dss_one (ds_ret (de_and (de_isi isStr_ok rfl (x.bt.at "isinstance") rfl (x.bt.at "str") (by decide +kernel) (db_v 0)) (de_and (de_chain opd_le opd_le cmpD.mono cmpD.mono (DE.b de_int) (DE.b (dr_callB back_P cd_len lenD.mono rfl (x.bt.at "len") (by decide +kernel) (dab_cons (db_v 0) dab_nil))) (DE.b de_int)) (de_one (dr_callB back_P (cd_all C.calm) allD.mono rfl (x.bt.at "all") (by decide +kernel) (dab_cons (DE.b (DF.de (df_lc (own := [("sign", 1)]) C (dib_of (db_v 0)) (blkOk_by rfl) (by decide) (fun _ _ _ _ _ => (dg_n 1 C.blk.nd)) (fun _ _ _ _ _ => dts_nil) (fun _ _ _ _ _ => (de_chain opd_le opd_le cmpD.mono cmpD.mono (DE.b de_str) (db_v 1) (DE.b de_str)))))) dab_nil)))))))

theorem sc_is_one_of : FnScope ["value", "names"] ["value", "names"] (defScope (top 11)) := ⟨rfl, rfl, rfl, by decide +kernel, rfl, by decide +kernel, by decide +kernel⟩

theorem ok_is_one_of (x : Tx K mg) : Def P w K mg base "is_one_of" 1 ["value", "names"] sp_is_one_of := by
  obtain ⟨f, fd, F, hm⟩ := x.h_is_one_of.ex
  refine ⟨f, fd, fn_D F sc_is_one_of len_is_one_of (t := b_is_one_of) (fun cdv A outer s H E S hr C => ?_) pure_is_one_of, hm, F.kp, F.bindsN fun _ _ _ _ _ _ us hl => match us, hl with | [_, _], _ => rfl⟩
  · exact (dss_one (ds_ret (de_and (de_isi isStr_ok rfl (x.bt.at "isinstance") rfl (x.bt.at "str") (by decide +kernel) (db_v 0)) (de_one (de_cmp (opd_in C.hu) cmpD.mono (db_v 0) (db_v 1))))))

theorem sc_is_rising : FnScope ["names", "one", "other"] ["names"] (defScope (top 12)) := ⟨rfl, rfl, rfl, by decide +kernel, rfl, by decide +kernel, by decide +kernel⟩

theorem ok_is_rising (x : Tx K mg) : Def P w K mg base "is_rising" 1 ["names"] sp_is_rising := by
  obtain ⟨f, fd, F, hm⟩ := x.h_is_rising.ex
  refine ⟨f, fd, fn_D F sc_is_rising len_is_rising (t := b_is_rising) (fun cdv A outer s H E S hr C => ?_) pure_is_rising, hm, F.kp, F.bindsN fun _ _ _ _ _ _ us hl => match us, hl with | [_], _ => rfl⟩
  · exact (dss_one (ds_ret (dr_callB back_P (cd_all C.calm) allD.mono rfl (x.bt.at "all") (by decide +kernel) (dab_cons (DE.b (DF.de (df_lc (own := [("one", 1), ("other", 2)]) C (dib_zipA rfl (x.bt.at "zip") (dab_cons (db_v 0) (dab_cons (DE.b (de_slice (db_v 0) (do_so de_int) do_no)) dab_nil))) (blkOk_by rfl) (by decide) (fun _ _ _ _ _ => (dg_t C.blk.calm (dgs_cons (dg_n 1 C.blk.nd) (dgs_cons (dg_n 2 C.blk.nd) dgs_nil)))) (fun _ _ _ _ _ => dts_nil) (fun _ _ _ _ _ => (de_cmp opd_lt cmpD.mono (db_v 1) (db_v 2)))))) dab_nil))))

theorem sc_is_box : FnScope ["value"] ["value"] (defScope (top 13)) := ⟨rfl, rfl, rfl, by decide +kernel, rfl, by decide +kernel, by decide +kernel⟩

theorem ok_is_box (x : Tx K mg) : Def P w K mg base "is_box" 2 ["value"] sp_is_box := by
  obtain ⟨f, fd, F, hm⟩ := x.h_is_box.ex
  refine ⟨f, fd, fn_D F sc_is_box len_is_box (t := b_is_box) (fun cdv A outer s H E S hr C => ?_) pure_is_box, hm, F.kp, F.bindsN fun _ _ _ _ _ _ us hl => match us, hl with | [_], _ => rfl⟩
  · have hr1 : Room 1 _ := hr.mono (by decide)
    exact (dss_cons (ds_if (DW.dt (dw_or (dt_not (dt_val (DE.b (de_isi isTup_ok rfl (x.bt.at "isinstance") rfl (x.bt.at "tuple") (by decide +kernel) (db_v 0))))) (dw_or (dt_cmp (opd_ne C.hu) neD.mono (DE.b (dr_callB back_P cd_len lenD.mono rfl (x.bt.at "len") (by decide +kernel) (dab_cons (db_v 0) dab_nil))) (DE.b de_int)) (dw_or1 (dt_not (dt_val (DE.b (de_fn C (ok_is_name x) ms_is_name hr1 rfl (da_cons (de_ix C.hu (db_v 0) de_int (fun _ _ => rfl)) da_nil)))))))))
  (dss_one (ds_ret de_bl))
  dss_nil)
  (dss_one (ds_ret (de_and (de_or (de_cmp opd_isN isND.mono (DE.b (de_ix C.hu (db_v 0) de_int (fun _ _ => rfl))) (DE.b de_non)) (de_one (de_fn C (ok_is_name x) ms_is_name hr1 rfl (da_cons (de_ix C.hu (db_v 0) de_int (fun _ _ => rfl)) da_nil)))) (de_one (de_fn C (ok_is_one_of x) ms_is_one_of hr1 rfl (da_cons (de_ix C.hu (db_v 0) de_int (fun _ _ => rfl)) (da_cons (de_con x.c_ROLES) da_nil))))))))

theorem sc_unders_of : FnScope ["boxes", "name", "under", "role"] ["boxes"] (defScope (top 17)) := ⟨rfl, rfl, rfl, by decide +kernel, rfl, by decide +kernel, by decide +kernel⟩

theorem ok_unders_of (x : Tx K mg) : Def P w K mg base "unders_of" 1 ["boxes"] sp_unders_of := by
  obtain ⟨f, fd, F, hm⟩ := x.h_unders_of.ex
  refine ⟨f, fd, fn_D F sc_unders_of len_unders_of (t := b_unders_of) (fun cdv A outer s H E S hr C => ?_) pure_unders_of, hm, F.kp, F.bindsN fun _ _ _ _ _ _ us hl => match us, hl with | [_], _ => rfl⟩
  · exact (dss_one (ds_ret (DF.de (df_dc (own := [("name", 1), ("under", 2), ("role", 3)]) C (dib_of (db_v 0)) (blkOk_by rfl) (by decide) (fun _ _ _ _ _ => (dg_t C.blk.calm (dgs_cons (dg_n 1 C.blk.nd) (dgs_cons (dg_n 2 C.blk.nd) (dgs_cons (dg_n 3 C.blk.nd) dgs_nil))))) (fun _ _ _ _ _ => dts_nil) (fun _ _ _ _ _ => (de_v 1)) (fun _ _ _ _ _ => (de_v 2))))))

theorem sc_is_tree : FnScope ["boxes", "unders", "tops", "name", "here", "turn", "under", "role"] ["boxes"] (defScope (top 15)) := ⟨rfl, rfl, rfl, by decide +kernel, rfl, by decide +kernel, by decide +kernel⟩

theorem ok_is_tree (x : Tx K mg) : Def P w K mg base "is_tree" 2 ["boxes"] sp_is_tree := by
  obtain ⟨f, fd, F, hm⟩ := x.h_is_tree.ex
  refine ⟨f, fd, fn_D F sc_is_tree len_is_tree (t := b_is_tree) (fun cdv A outer s H E S hr C => ?_) pure_is_tree, hm, F.kp, F.bindsN fun _ _ _ _ _ _ us hl => match us, hl with | [_], _ => rfl⟩
  · have hr1 : Room 1 _ := hr.mono (by decide)
    exact (dss_cons (ds_set (i := 1) C rfl (by first | exact .inl rfl | exact .inr rfl) (de_fn C (ok_unders_of x) ms_unders_of hr1 rfl (da_cons (de_v 0) da_nil)))
  (dss_cons (ds_lcp (i := 2) (own := [("name", 3), ("under", 6), ("role", 7)]) C rfl rfl (sw_true rfl rfl rfl (by decide +kernel)) (dib_of (db_v 0)) (blkOk_by rfl) (by decide) (fun _ _ _ _ _ => (dg_t C.blk.calm (dgs_cons (dg_n 3 C.blk.nd) (dgs_cons (dg_n 6 C.blk.nd) (dgs_cons (dg_n 7 C.blk.nd) dgs_nil))))) (fun _ _ _ _ _ => (dts_one (DW.dt (dw_and (dt_cmp opd_isN isND.mono (db_v 6) (DE.b de_non)) (dw_and1 (dt_cmp (opd_eq C.blk.hu) eqD.mono (db_v 7) (DE.b de_str))))))) (fun _ _ _ _ _ => (de_v 3)))
  (dss_cons (ds_if (DW.dt (dw_or (dt_cmp (opd_ne C.hu) neD.mono (DE.b (dr_callB back_P cd_len lenD.mono rfl (x.bt.at "len") (by decide +kernel) (dab_cons (db_v 2) dab_nil))) (DE.b de_int)) (dw_or1 (dt_cmp (opd_ne C.hu) neD.mono (DE.b (dr_callB back_P cd_len lenD.mono rfl (x.bt.at "len") (by decide +kernel) (dab_cons (DE.b (DF.de (df_lcK 1 (own := [("name", 3)]) C (blkOk_by rfl) (by decide) (fun _ _ _ _ _ => (dg_n 3 C.blk.nd)) (fun _ _ _ _ _ => (dts_one (dt_cmp opd_isN isND.mono (DE.b (de_ix C.blk.hu (db_v 1) (de_v 3) (fun _ _ => rfl))) (DE.b de_non)))) (fun _ _ _ _ _ => de_int)))) dab_nil))) (DE.b de_int)))))
  (dss_one (ds_ret de_bl))
  dss_nil)
  (dss_cons (ds_if (dt_not (dt_val (DE.b (dr_callB back_P (cd_all C.calm) allD.mono rfl (x.bt.at "all") (by decide +kernel) (dab_cons (DE.b (DF.de (df_lc (own := [("name", 3), ("under", 6), ("role", 7)]) C (dib_of (db_v 0)) (blkOk_by rfl) (by decide) (fun _ _ _ _ _ => (dg_t C.blk.calm (dgs_cons (dg_n 3 C.blk.nd) (dgs_cons (dg_n 6 C.blk.nd) (dgs_cons (dg_n 7 C.blk.nd) dgs_nil))))) (fun _ _ _ _ _ => dts_nil) (fun _ _ _ _ _ => (de_or (de_cmp opd_isN isND.mono (db_v 6) (DE.b de_non)) (de_one (de_cmp (opd_in C.blk.hu) cmpD.mono (db_v 6) (db_v 1)))))))) dab_nil)))))
  (dss_one (ds_ret de_bl))
  dss_nil)
  (dss_cons (ds_forK 1 C (passes_of rfl) (dg_n 3 C.nd)
  (dss_cons (ds_set (i := 4) C rfl (by first | exact .inl rfl | exact .inr rfl) (de_v 3))
  (dss_cons (ds_for C (passes_of rfl) (di_rng1 rfl (x.bt.at "range") (dab_cons (DE.b (dr_callB back_P cd_len lenD.mono rfl (x.bt.at "len") (by decide +kernel) (dab_cons (db_v 0) dab_nil))) dab_nil)) (dg_n 5 C.nd)
  (dss_one (ds_set (i := 4) C rfl (by first | exact .inl rfl | exact .inr rfl) (de_if (dt_cmp opd_isN isND.mono (DE.b (de_ix C.hu (db_v 1) (de_v 4) (fun _ _ => rfl))) (DE.b de_non)) (de_v 4) (de_ix C.hu (db_v 1) (de_v 4) (fun _ _ => rfl))))))
  (dss_one (ds_if (dt_cmp (opd_ne C.hu) neD.mono (db_v 4) (DE.b (de_ix C.hu (db_v 2) de_int (fun _ _ => rfl))))
  (dss_one (ds_ret de_bl))
  dss_nil)))))
  (dss_one (ds_ret de_bl)))))))

theorem sc_roles_of : FnScope ["boxes", "name", "under", "role"] ["boxes"] (defScope (top 18)) := ⟨rfl, rfl, rfl, by decide +kernel, rfl, by decide +kernel, by decide +kernel⟩

theorem ok_roles_of (x : Tx K mg) : Def P w K mg base "roles_of" 1 ["boxes"] sp_roles_of := by
  obtain ⟨f, fd, F, hm⟩ := x.h_roles_of.ex
  refine ⟨f, fd, fn_D F sc_roles_of len_roles_of (t := b_roles_of) (fun cdv A outer s H E S hr C => ?_) pure_roles_of, hm, F.kp, F.bindsN fun _ _ _ _ _ _ us hl => match us, hl with | [_], _ => rfl⟩
  · exact (dss_one (ds_ret (DF.de (df_dc (own := [("name", 1), ("under", 2), ("role", 3)]) C (dib_of (db_v 0)) (blkOk_by rfl) (by decide) (fun _ _ _ _ _ => (dg_t C.blk.calm (dgs_cons (dg_n 1 C.blk.nd) (dgs_cons (dg_n 2 C.blk.nd) (dgs_cons (dg_n 3 C.blk.nd) dgs_nil))))) (fun _ _ _ _ _ => dts_nil) (fun _ _ _ _ _ => (de_v 1)) (fun _ _ _ _ _ => (de_v 3))))))

theorem sc_door_above : FnScope ["unders", "roles", "box", "here"] ["unders", "roles", "box"] (defScope (top 19)) := ⟨rfl, rfl, rfl, by decide +kernel, rfl, by decide +kernel, by decide +kernel⟩

theorem ok_door_above (x : Tx K mg) : Def P w K mg base "door_above" 1 ["unders", "roles", "box"] sp_door_above := by
  obtain ⟨f, fd, F, hm⟩ := x.h_door_above.ex
  refine ⟨f, fd, fn_D F sc_door_above len_door_above (t := b_door_above) (fun cdv A outer s H E S hr C => ?_) pure_door_above, hm, F.kp, F.bindsN fun _ _ _ _ _ _ us hl => match us, hl with | [_, _, _], _ => rfl⟩
  · exact (dss_cons (ds_set (i := 3) C rfl (by first | exact .inl rfl | exact .inr rfl) (de_v 2))
  (dss_cons (ds_while (passes_of rfl) (DW.dt (dw_and (dt_cmp opd_notN notND.mono (db_v 3) (DE.b de_non)) (dw_and1 (dt_cmp (opd_ne C.hu) neD.mono (DE.b (de_ix C.hu (db_v 1) (de_v 3) (fun _ _ => rfl))) (DE.b de_str)))))
  (dss_one (ds_set (i := 3) C rfl (by first | exact .inl rfl | exact .inr rfl) (de_ix C.hu (db_v 0) (de_v 3) (fun _ _ => rfl)))))
  (dss_one (ds_ret (de_v 3)))))

theorem sc_has_right_houses : FnScope ["boxes", "hosts", "doors", "unders", "roles", "name", "under", "role"] ["boxes"] (defScope (top 16)) := ⟨rfl, rfl, rfl, by decide +kernel, rfl, by decide +kernel, by decide +kernel⟩

theorem ok_has_right_houses (x : Tx K mg) : Def P w K mg base "has_right_houses" 2 ["boxes"] sp_has_right_houses := by
  obtain ⟨f, fd, F, hm⟩ := x.h_has_right_houses.ex
  refine ⟨f, fd, fn_D F sc_has_right_houses len_has_right_houses (t := b_has_right_houses) (fun cdv A outer s H E S hr C => ?_) pure_has_right_houses, hm, F.kp, F.bindsN fun _ _ _ _ _ _ us hl => match us, hl with | [_], _ => rfl⟩
  · have hr1 : Room 1 _ := hr.mono (by decide)
    exact (dss_cons (ds_asg (de_tup (da_cons (de_fn C (ok_unders_of x) ms_unders_of hr1 rfl (da_cons (de_v 0) da_nil)) (da_cons (de_fn C (ok_roles_of x) ms_roles_of hr1 rfl (da_cons (de_v 0) da_nil)) da_nil))) (dg_t C.calm (dgs_cons (dg_n 3 C.nd) (dgs_cons (dg_n 4 C.nd) dgs_nil))))
  (dss_cons (ds_set (i := 1) C rfl (by first | exact .inl rfl | exact .inr rfl) (DF.de (dr_callB back_F cd_sorted sortD.mono rfl (x.bt.at "sorted") (by decide +kernel) (dab_cons (DE.b (DF.de (df_lc (own := [("name", 5), ("under", 6), ("role", 7)]) C (dib_of (db_v 0)) (blkOk_by rfl) (by decide) (fun _ _ _ _ _ => (dg_t C.blk.calm (dgs_cons (dg_n 5 C.blk.nd) (dgs_cons (dg_n 6 C.blk.nd) (dgs_cons (dg_n 7 C.blk.nd) dgs_nil))))) (fun _ _ _ _ _ => (dts_one (dt_cmp (opd_eq C.blk.hu) eqD.mono (db_v 7) (DE.b de_str)))) (fun _ _ _ _ _ => (de_v 6))))) dab_nil))))
  (dss_cons (ds_lcp (i := 2) (own := [("name", 5), ("under", 6), ("role", 7)]) C rfl rfl (sw_true rfl rfl rfl (by decide +kernel)) (dib_of (db_v 0)) (blkOk_by rfl) (by decide) (fun _ _ _ _ _ => (dg_t C.blk.calm (dgs_cons (dg_n 5 C.blk.nd) (dgs_cons (dg_n 6 C.blk.nd) (dgs_cons (dg_n 7 C.blk.nd) dgs_nil))))) (fun _ _ _ _ _ => (dts_one (dt_cmp (opd_eq C.blk.hu) eqD.mono (db_v 7) (DE.b de_str)))) (fun _ _ _ _ _ => (de_fn C.blk (ok_door_above x) ms_door_above hr1 rfl (da_cons (de_v 3) (da_cons (de_v 4) (da_cons (de_v 5) da_nil))))))
  (dss_one (ds_ret (de_and (de_fn C (ok_is_rising x) ms_is_rising hr1 rfl (da_cons (de_v 1) da_nil)) (de_and (de_cmp (opd_notIn C.hu) cmpD.mono (DE.b de_non) (db_v 2)) (de_one (de_fn C (ok_is_rising x) ms_is_rising hr1 rfl (da_cons (DF.de (dr_callB back_F cd_sorted sortD.mono rfl (x.bt.at "sorted") (by decide +kernel) (dab_cons (db_v 2) dab_nil))) da_nil))))))))))

theorem sc_is_boxes : FnScope ["value", "row"] ["value"] (defScope (top 14)) := ⟨rfl, rfl, rfl, by decide +kernel, rfl, by decide +kernel, by decide +kernel⟩

theorem ok_is_boxes (x : Tx K mg) : Def P w K mg base "is_boxes" 3 ["value"] sp_is_boxes := by
  obtain ⟨f, fd, F, hm⟩ := x.h_is_boxes.ex
  refine ⟨f, fd, fn_D F sc_is_boxes len_is_boxes (t := b_is_boxes) (fun cdv A outer s H E S hr C => ?_) pure_is_boxes, hm, F.kp, F.bindsN fun _ _ _ _ _ _ us hl => match us, hl with | [_], _ => rfl⟩
  · have hr1 : Room 1 _ := hr.mono (by decide)
    have hr2 : Room 2 _ := hr.mono (by decide)
    exact (dss_cons (ds_if (DW.dt (dw_or (dt_not (dt_val (DE.b (de_isi isTup_ok rfl (x.bt.at "isinstance") rfl (x.bt.at "tuple") (by decide +kernel) (db_v 0))))) (dw_or1 (dt_not (dt_chain opd_le opd_le cmpD.mono cmpD.mono (DE.b de_int) (DE.b (dr_callB back_P cd_len lenD.mono rfl (x.bt.at "len") (by decide +kernel) (dab_cons (db_v 0) dab_nil))) (DE.b (de_con x.c_MOST_BOXES)))))))
  (dss_one (ds_ret de_bl))
  dss_nil)
  (dss_cons (ds_if (dt_not (dt_val (DE.b (dr_callB back_P (cd_all C.calm) allD.mono rfl (x.bt.at "all") (by decide +kernel) (dab_cons (DE.b (DF.de (df_lc (own := [("row", 1)]) C (dib_of (db_v 0)) (blkOk_by rfl) (by decide) (fun _ _ _ _ _ => (dg_n 1 C.blk.nd)) (fun _ _ _ _ _ => dts_nil) (fun _ _ _ _ _ => (de_fn C.blk (ok_is_box x) ms_is_box hr2 rfl (da_cons (de_v 1) da_nil)))))) dab_nil)))))
  (dss_one (ds_ret de_bl))
  dss_nil)
  (dss_one (ds_ret (de_and (de_fn C (ok_is_rising x) ms_is_rising hr1 rfl (da_cons (DF.de (df_lc (own := [("row", 1)]) C (dib_of (db_v 0)) (blkOk_by rfl) (by decide) (fun _ _ _ _ _ => (dg_n 1 C.blk.nd)) (fun _ _ _ _ _ => dts_nil) (fun _ _ _ _ _ => (de_ix C.blk.hu (db_v 1) de_int (fun _ _ => rfl))))) da_nil)) (de_and (de_fn C (ok_is_tree x) ms_is_tree hr2 rfl (da_cons (de_v 0) da_nil)) (de_one (de_fn C (ok_has_right_houses x) ms_has_right_houses hr2 rfl (da_cons (de_v 0) da_nil)))))))))

theorem sc_is_sort : FnScope ["value", "part"] ["value"] (defScope (top 24)) := ⟨rfl, rfl, rfl, by decide +kernel, rfl, by decide +kernel, by decide +kernel⟩

theorem ok_is_sort (x : Tx K mg) : Def P w K mg base "is_sort" 2 ["value"] sp_is_sort := by
  obtain ⟨f, fd, F, hm⟩ := x.h_is_sort.ex
  refine ⟨f, fd, fn_D F sc_is_sort len_is_sort (t := b_is_sort) (fun cdv A outer s H E S hr C => ?_) pure_is_sort, hm, F.kp, F.bindsN fun _ _ _ _ _ _ us hl => match us, hl with | [_], _ => rfl⟩
  · have hr1 : Room 1 _ := hr.mono (by decide)
    exact (dss_cons (ds_if (DW.dt (dw_or (dt_not (dt_val (DE.b (de_isi isTup_ok rfl (x.bt.at "isinstance") rfl (x.bt.at "tuple") (by decide +kernel) (db_v 0))))) (dw_or (dt_cmp (opd_ne C.hu) neD.mono (DE.b (dr_callB back_P cd_len lenD.mono rfl (x.bt.at "len") (by decide +kernel) (dab_cons (db_v 0) dab_nil))) (DE.b de_int)) (dw_or1 (dt_not (dt_val (DE.b (de_fn C (ok_is_name x) ms_is_name hr1 rfl (da_cons (de_ix C.hu (db_v 0) de_int (fun _ _ => rfl)) da_nil)))))))))
  (dss_one (ds_ret de_bl))
  dss_nil)
  (dss_one (ds_ret (dr_callB back_P (cd_all C.calm) allD.mono rfl (x.bt.at "all") (by decide +kernel) (dab_cons (DE.b (DF.de (df_lc (own := [("part", 1)]) C (dib_of (DE.b (de_slice (db_v 0) (do_so de_int) do_no))) (blkOk_by rfl) (by decide) (fun _ _ _ _ _ => (dg_n 1 C.blk.nd)) (fun _ _ _ _ _ => dts_nil) (fun _ _ _ _ _ => (de_isi isBool_ok rfl (x.bt.at "isinstance") rfl (x.bt.at "bool") (by decide +kernel) (db_v 1)))))) dab_nil)))))

theorem sc_is_deed : FnScope ["value", "listeners", "sorts", "boxes", "word", "items", "item"] ["value", "listeners", "sorts", "boxes"] (defScope (top 29)) := ⟨rfl, rfl, rfl, by decide +kernel, rfl, by decide +kernel, by decide +kernel⟩

theorem ok_is_deed (x : Tx K mg) : Def P w K mg base "is_deed" 2 ["value", "listeners", "sorts", "boxes"] sp_is_deed := by
  obtain ⟨f, fd, F, hm⟩ := x.h_is_deed.ex
  refine ⟨f, fd, fn_D F sc_is_deed len_is_deed (t := b_is_deed) (fun cdv A outer s H E S hr C => ?_) pure_is_deed, hm, F.kp, F.bindsN fun _ _ _ _ _ _ us hl => match us, hl with | [_, _, _, _], _ => rfl⟩
  · have hr1 : Room 1 _ := hr.mono (by decide)
    exact (dss_cons (ds_if (DW.dt (dw_or (dt_not (dt_val (DE.b (de_isi isTup_ok rfl (x.bt.at "isinstance") rfl (x.bt.at "tuple") (by decide +kernel) (db_v 0))))) (dw_or (dt_cmp (opd_eq C.hu) eqD.mono (DE.b (dr_callB back_P cd_len lenD.mono rfl (x.bt.at "len") (by decide +kernel) (dab_cons (db_v 0) dab_nil))) (DE.b de_int)) (dw_or1 (dt_not (dt_val (DE.b (de_isi isStr_ok rfl (x.bt.at "isinstance") rfl (x.bt.at "str") (by decide +kernel) (DE.b (de_ix C.hu (db_v 0) de_int (fun _ _ => rfl)))))))))))
  (dss_one (ds_ret de_bl))
  dss_nil)
  (dss_cons (ds_star 1 C (de_v 0) (dgs_cons (dg_n 4 C.nd) (dgs_star (dg_n 5 C.nd))))
  (dss_cons (ds_if (dt_cmp (opd_in C.hu) cmpD.mono (db_v 4) (DE.b (de_tup (da_cons de_str (da_cons de_str da_nil)))))
  (dss_one (ds_ret (de_and (de_cmp (opd_eq C.hu) eqD.mono (DE.b (dr_callB back_P cd_len lenD.mono rfl (x.bt.at "len") (by decide +kernel) (dab_cons (db_v 5) dab_nil))) (DE.b de_int)) (de_one (de_fn C (ok_is_one_of x) ms_is_one_of hr1 rfl (da_cons (de_ix C.hu (db_v 5) de_int (fun _ _ => rfl)) (da_cons (de_v 1) da_nil)))))))
  dss_nil)
  (dss_cons (ds_if (dt_cmp (opd_eq C.hu) eqD.mono (db_v 4) (DE.b de_str))
  (dss_one (ds_ret (de_and (de_cmp (opd_eq C.hu) eqD.mono (DE.b (dr_callB back_P cd_len lenD.mono rfl (x.bt.at "len") (by decide +kernel) (dab_cons (db_v 5) dab_nil))) (DE.b de_int)) (de_one (dr_callB back_P (cd_all C.calm) allD.mono rfl (x.bt.at "all") (by decide +kernel) (dab_cons (DE.b (DF.de (df_lc (own := [("item", 6)]) C (dib_of (db_v 5)) (blkOk_by rfl) (by decide) (fun _ _ _ _ _ => (dg_n 6 C.blk.nd)) (fun _ _ _ _ _ => dts_nil) (fun _ _ _ _ _ => (de_fn C.blk (ok_is_one_of x) ms_is_one_of hr1 rfl (da_cons (de_v 6) (da_cons (de_v 3) da_nil))))))) dab_nil))))))
  dss_nil)
  (dss_cons (ds_if (dt_cmp (opd_eq C.hu) eqD.mono (db_v 4) (DE.b de_str))
  (dss_one (ds_ret (de_and (de_cmp (opd_eq C.hu) eqD.mono (DE.b (dr_callB back_P cd_len lenD.mono rfl (x.bt.at "len") (by decide +kernel) (dab_cons (db_v 5) dab_nil))) (DE.b de_int)) (de_and (de_fn C (ok_is_one_of x) ms_is_one_of hr1 rfl (da_cons (de_ix C.hu (db_v 5) de_int (fun _ _ => rfl)) (da_cons (de_v 2) da_nil))) (de_one (de_fn C (ok_is_one_of x) ms_is_one_of hr1 rfl (da_cons (de_ix C.hu (db_v 5) de_int (fun _ _ => rfl)) (da_cons (de_v 3) da_nil))))))))
  dss_nil)
  (dss_one (ds_ret (de_and (de_cmp (opd_in C.hu) cmpD.mono (db_v 4) (DE.b (de_tup (da_cons de_str (da_cons de_str (da_cons de_str da_nil)))))) (de_one (de_cmp (opd_eq C.hu) eqD.mono (db_v 5) (DE.b (DF.de (df_lst da_nil)))))))))))))

theorem sc_is_listener : FnScope ["value", "listeners", "sorts", "boxes", "deeds", "deed", "part"] ["value", "listeners", "sorts", "boxes"] (defScope (top 30)) := ⟨rfl, rfl, rfl, by decide +kernel, rfl, by decide +kernel, by decide +kernel⟩

theorem ok_is_listener (x : Tx K mg) : Def P w K mg base "is_listener" 3 ["value", "listeners", "sorts", "boxes"] sp_is_listener := by
  obtain ⟨f, fd, F, hm⟩ := x.h_is_listener.ex
  refine ⟨f, fd, fn_D F sc_is_listener len_is_listener (t := b_is_listener) (fun cdv A outer s H E S hr C => ?_) pure_is_listener, hm, F.kp, F.bindsN fun _ _ _ _ _ _ us hl => match us, hl with | [_, _, _, _], _ => rfl⟩
  · have hr1 : Room 1 _ := hr.mono (by decide)
    have hr2 : Room 2 _ := hr.mono (by decide)
    exact (dss_cons (ds_if (DW.dt (dw_or (dt_not (dt_val (DE.b (de_isi isTup_ok rfl (x.bt.at "isinstance") rfl (x.bt.at "tuple") (by decide +kernel) (db_v 0))))) (dw_or (dt_cmp (opd_ne C.hu) neD.mono (DE.b (dr_callB back_P cd_len lenD.mono rfl (x.bt.at "len") (by decide +kernel) (dab_cons (db_v 0) dab_nil))) (DE.b de_int)) (dw_or1 (dt_not (dt_val (DE.b (de_fn C (ok_is_name x) ms_is_name hr1 rfl (da_cons (de_ix C.hu (db_v 0) de_int (fun _ _ => rfl)) da_nil)))))))))
  (dss_one (ds_ret de_bl))
  dss_nil)
  (dss_cons (ds_if (DW.dt (dw_or (dt_not (dt_val (DE.b (de_fn C (ok_is_one_of x) ms_is_one_of hr1 rfl (da_cons (de_ix C.hu (db_v 0) de_int (fun _ _ => rfl)) (da_cons (de_v 3) da_nil)))))) (dw_or1 (dt_not (dt_val (DE.b (de_fn C (ok_is_one_of x) ms_is_one_of hr1 rfl (da_cons (de_ix C.hu (db_v 0) de_int (fun _ _ => rfl)) (da_cons (de_v 2) da_nil)))))))))
  (dss_one (ds_ret de_bl))
  dss_nil)
  (dss_cons (ds_if (dt_not (dt_val (DE.b (dr_callB back_P (cd_all C.calm) allD.mono rfl (x.bt.at "all") (by decide +kernel) (dab_cons (DE.b (DF.de (df_lc (own := [("part", 6)]) C (dib_of (DE.b (de_slice (db_v 0) (do_so de_int) (do_so de_int)))) (blkOk_by rfl) (by decide) (fun _ _ _ _ _ => (dg_n 6 C.blk.nd)) (fun _ _ _ _ _ => dts_nil) (fun _ _ _ _ _ => (de_isi isBool_ok rfl (x.bt.at "isinstance") rfl (x.bt.at "bool") (by decide +kernel) (db_v 6)))))) dab_nil)))))
  (dss_one (ds_ret de_bl))
  dss_nil)
  (dss_cons (ds_set (i := 4) C rfl (by first | exact .inl rfl | exact .inr rfl) (de_ix C.hu (db_v 0) de_int (fun _ _ => rfl)))
  (dss_cons (ds_if (DW.dt (dw_or (dt_not (dt_val (DE.b (de_isi isTup_ok rfl (x.bt.at "isinstance") rfl (x.bt.at "tuple") (by decide +kernel) (db_v 4))))) (dw_or1 (dt_cmp opd_gt cmpD.mono (DE.b (dr_callB back_P cd_len lenD.mono rfl (x.bt.at "len") (by decide +kernel) (dab_cons (db_v 4) dab_nil))) (DE.b (de_con x.c_MOST_DEEDS))))))
  (dss_one (ds_ret de_bl))
  dss_nil)
  (dss_one (ds_ret (dr_callB back_P (cd_all C.calm) allD.mono rfl (x.bt.at "all") (by decide +kernel) (dab_cons (DE.b (DF.de (df_lc (own := [("deed", 5)]) C (dib_of (db_v 4)) (blkOk_by rfl) (by decide) (fun _ _ _ _ _ => (dg_n 5 C.blk.nd)) (fun _ _ _ _ _ => dts_nil) (fun _ _ _ _ _ => (de_fn C.blk (ok_is_deed x) ms_is_deed hr2 rfl (da_cons (de_v 5) (da_cons (de_v 1) (da_cons (de_v 2) (da_cons (de_v 3) da_nil))))))))) dab_nil)))))))))

theorem sc_is_on : FnScope ["value", "names", "name"] ["value", "names"] (defScope (top 31)) := ⟨rfl, rfl, rfl, by decide +kernel, rfl, by decide +kernel, by decide +kernel⟩

theorem ok_is_on (x : Tx K mg) : Def P w K mg base "is_on" 2 ["value", "names"] sp_is_on := by
  obtain ⟨f, fd, F, hm⟩ := x.h_is_on.ex
  refine ⟨f, fd, fn_D F sc_is_on len_is_on (t := b_is_on) (fun cdv A outer s H E S hr C => ?_) pure_is_on, hm, F.kp, F.bindsN fun _ _ _ _ _ _ us hl => match us, hl with | [_, _], _ => rfl⟩
  · have hr1 : Room 1 _ := hr.mono (by decide)
    exact (dss_cons (ds_if (DW.dt (dw_or (dt_not (dt_val (DE.b (de_isi isTup_ok rfl (x.bt.at "isinstance") rfl (x.bt.at "tuple") (by decide +kernel) (db_v 0))))) (dw_or1 (dt_not (dt_val (DE.b (dr_callB back_P (cd_all C.calm) allD.mono rfl (x.bt.at "all") (by decide +kernel) (dab_cons (DE.b (DF.de (df_lc (own := [("name", 2)]) C (dib_of (db_v 0)) (blkOk_by rfl) (by decide) (fun _ _ _ _ _ => (dg_n 2 C.blk.nd)) (fun _ _ _ _ _ => dts_nil) (fun _ _ _ _ _ => (de_fn C.blk (ok_is_one_of x) ms_is_one_of hr1 rfl (da_cons (de_v 2) (da_cons (de_v 1) da_nil))))))) dab_nil))))))))
  (dss_one (ds_ret de_bl))
  dss_nil)
  (dss_one (ds_ret (de_fn C (ok_is_rising x) ms_is_rising hr1 rfl (da_cons (DF.de (dr_callB back_F cd_sortedU sortUD.mono rfl (x.bt.at "sorted") (by decide +kernel) (dab_cons (db_v 0) dab_nil))) da_nil)))))

theorem sc_names_in : FnScope ["value", "row"] ["value"] (defScope (top 32)) := ⟨rfl, rfl, rfl, by decide +kernel, rfl, by decide +kernel, by decide +kernel⟩

theorem ok_names_in (x : Tx K mg) : Def P w K mg base "names_in" 2 ["value"] sp_names_in := by
  obtain ⟨f, fd, F, hm⟩ := x.h_names_in.ex
  refine ⟨f, fd, fn_D F sc_names_in len_names_in (t := b_names_in) (fun cdv A outer s H E S hr C => ?_) pure_names_in, hm, F.kp, F.bindsN fun _ _ _ _ _ _ us hl => match us, hl with | [_], _ => rfl⟩
  · have hr1 : Room 1 _ := hr.mono (by decide)
    exact (dss_one (ds_ret (DF.de (df_lc (own := [("row", 1)]) C (dib_of (db_v 0)) (blkOk_by rfl) (by decide) (fun _ _ _ _ _ => (dg_n 1 C.blk.nd)) (fun _ _ _ _ _ => (dts_one (DW.dt (dw_and (dt_val (DE.b (de_isi isTup_ok rfl (x.bt.at "isinstance") rfl (x.bt.at "tuple") (by decide +kernel) (db_v 1)))) (dw_and (dt_cmp opd_gt cmpD.mono (DE.b (dr_callB back_P cd_len lenD.mono rfl (x.bt.at "len") (by decide +kernel) (dab_cons (db_v 1) dab_nil))) (DE.b de_int)) (dw_and1 (dt_val (DE.b (de_fn C.blk (ok_is_name x) ms_is_name hr1 rfl (da_cons (de_ix C.blk.hu (db_v 1) de_int (fun _ _ => rfl)) da_nil)))))))))) (fun _ _ _ _ _ => (de_ix C.blk.hu (db_v 1) de_int (fun _ _ => rfl)))))))

theorem sc_is_page : FnScope ["value", "sorts", "listeners", "boxes", "on", "names", "kinds", "places", "row"] ["value"] (defScope (top 33)) := ⟨rfl, rfl, rfl, by decide +kernel, rfl, by decide +kernel, by decide +kernel⟩

theorem ok_is_page (x : Tx K mg) : Def P w K mg base "is_page" 4 ["value"] sp_is_page := by
  obtain ⟨f, fd, F, hm⟩ := x.h_is_page.ex
  refine ⟨f, fd, fn_D F sc_is_page len_is_page (t := b_is_page) (fun cdv A outer s H E S hr C => ?_) pure_is_page, hm, F.kp, F.bindsN fun _ _ _ _ _ _ us hl => match us, hl with | [_], _ => rfl⟩
  · have hr1 : Room 1 _ := hr.mono (by decide)
    have hr2 : Room 2 _ := hr.mono (by decide)
    have hr3 : Room 3 _ := hr.mono (by decide)
    exact (dss_cons (ds_if (DW.dt (dw_or (dt_not (dt_val (DE.b (de_isi isTup_ok rfl (x.bt.at "isinstance") rfl (x.bt.at "tuple") (by decide +kernel) (db_v 0))))) (dw_or (dt_cmp (opd_ne C.hu) neD.mono (DE.b (dr_callB back_P cd_len lenD.mono rfl (x.bt.at "len") (by decide +kernel) (dab_cons (db_v 0) dab_nil))) (DE.b de_int)) (dw_or1 (dt_not (dt_val (DE.b (de_fn C (ok_is_boxes x) ms_is_boxes hr3 rfl (da_cons (de_ix C.hu (db_v 0) de_int (fun _ _ => rfl)) da_nil)))))))))
  (dss_one (ds_ret de_bl))
  dss_nil)
  (dss_cons (ds_asg (de_v 0) (dg_t C.calm (dgs_cons (dg_n 1 C.nd) (dgs_cons (dg_n 2 C.nd) (dgs_cons (dg_n 3 C.nd) (dgs_cons (dg_n 4 C.nd) dgs_nil))))))
  (dss_cons (ds_if (DW.dt (dw_or (dt_not (dt_val (DE.b (de_isi isTup_ok rfl (x.bt.at "isinstance") rfl (x.bt.at "tuple") (by decide +kernel) (db_v 1))))) (dw_or (dt_not (dt_chain opd_le opd_le cmpD.mono cmpD.mono (DE.b de_int) (DE.b (dr_callB back_P cd_len lenD.mono rfl (x.bt.at "len") (by decide +kernel) (dab_cons (db_v 1) dab_nil))) (DE.b (de_con x.c_MOST_SORTS)))) (dw_or1 (dt_not (dt_val (DE.b (dr_callB back_P (cd_all C.calm) allD.mono rfl (x.bt.at "all") (by decide +kernel) (dab_cons (DE.b (DF.de (df_lc (own := [("row", 8)]) C (dib_of (db_v 1)) (blkOk_by rfl) (by decide) (fun _ _ _ _ _ => (dg_n 8 C.blk.nd)) (fun _ _ _ _ _ => dts_nil) (fun _ _ _ _ _ => (de_fn C.blk (ok_is_sort x) ms_is_sort hr2 rfl (da_cons (de_v 8) da_nil)))))) dab_nil)))))))))
  (dss_one (ds_ret de_bl))
  dss_nil)
  (dss_cons (ds_if (DW.dt (dw_or (dt_not (dt_val (DE.b (de_isi isTup_ok rfl (x.bt.at "isinstance") rfl (x.bt.at "tuple") (by decide +kernel) (db_v 2))))) (dw_or1 (dt_cmp opd_gt cmpD.mono (DE.b (dr_callB back_P cd_len lenD.mono rfl (x.bt.at "len") (by decide +kernel) (dab_cons (db_v 2) dab_nil))) (DE.b (de_con x.c_MOST_LISTENERS))))))
  (dss_one (ds_ret de_bl))
  dss_nil)
  (dss_cons (ds_asg (de_tup (da_cons (de_fn C (ok_names_in x) ms_names_in hr2 rfl (da_cons (de_v 2) da_nil)) (da_cons (de_fn C (ok_names_in x) ms_names_in hr2 rfl (da_cons (de_v 1) da_nil)) (da_cons (de_fn C (ok_names_in x) ms_names_in hr2 rfl (da_cons (de_v 3) da_nil)) da_nil)))) (dg_t C.calm (dgs_cons (dg_n 5 C.nd) (dgs_cons (dg_n 6 C.nd) (dgs_cons (dg_n 7 C.nd) dgs_nil)))))
  (dss_cons (ds_if (dt_not (dt_val (DE.b (dr_callB back_P (cd_all C.calm) allD.mono rfl (x.bt.at "all") (by decide +kernel) (dab_cons (DE.b (DF.de (df_lc (own := [("row", 8)]) C (dib_of (db_v 2)) (blkOk_by rfl) (by decide) (fun _ _ _ _ _ => (dg_n 8 C.blk.nd)) (fun _ _ _ _ _ => dts_nil) (fun _ _ _ _ _ => (de_fn C.blk (ok_is_listener x) ms_is_listener hr3 rfl (da_cons (de_v 8) (da_cons (de_v 5) (da_cons (de_v 6) (da_cons (de_v 7) da_nil))))))))) dab_nil)))))
  (dss_one (ds_ret de_bl))
  dss_nil)
  (dss_one (ds_ret (de_and (de_fn C (ok_is_rising x) ms_is_rising hr1 rfl (da_cons (de_v 5) da_nil)) (de_and (de_fn C (ok_is_rising x) ms_is_rising hr1 rfl (da_cons (de_v 6) da_nil)) (de_one (de_fn C (ok_is_on x) ms_is_on hr2 rfl (da_cons (de_v 4) (da_cons (de_v 5) da_nil))))))))))))))

theorem sc_listener_names : FnScope ["page", "row"] ["page"] (defScope (top 34)) := ⟨rfl, rfl, rfl, by decide +kernel, rfl, by decide +kernel, by decide +kernel⟩

theorem ok_listener_names (x : Tx K mg) : Def P w K mg base "listener_names" 1 ["page"] sp_listener_names := by
  obtain ⟨f, fd, F, hm⟩ := x.h_listener_names.ex
  refine ⟨f, fd, fn_D F sc_listener_names len_listener_names (t := b_listener_names) (fun cdv A outer s H E S hr C => ?_) pure_listener_names, hm, F.kp, F.bindsN fun _ _ _ _ _ _ us hl => match us, hl with | [_], _ => rfl⟩
  · exact (dss_one (ds_ret (DF.de (df_lc (own := [("row", 1)]) C (dib_of (DE.b (de_ix C.hu (db_v 0) de_int (fun _ _ => rfl)))) (blkOk_by rfl) (by decide) (fun _ _ _ _ _ => (dg_n 1 C.blk.nd)) (fun _ _ _ _ _ => dts_nil) (fun _ _ _ _ _ => (de_ix C.blk.hu (db_v 1) de_int (fun _ _ => rfl)))))))

theorem sc_require_page : FnScope ["value"] ["value"] (defScope (top 37)) := ⟨rfl, rfl, rfl, by decide +kernel, rfl, by decide +kernel, by decide +kernel⟩

theorem ok_require_page (x : Tx K mg) : Def P w K mg base "require_page" 5 ["value"] sp_require_page := by
  obtain ⟨f, fd, F, hm⟩ := x.h_require_page.ex
  refine ⟨f, fd, fn_D F sc_require_page len_require_page (t := b_require_page) (fun cdv A outer s H E S hr C => ?_) pure_require_page, hm, F.kp, F.bindsN fun _ _ _ _ _ _ us hl => match us, hl with | [_], _ => rfl⟩
  · have hr4 : Room 4 _ := hr.mono (by decide)
    exact (dss_one (ds_if (dt_not (dt_val (DE.b (de_fn C (ok_is_page x) ms_is_page hr4 rfl (da_cons (de_v 0) da_nil)))))
  (dss_one (ds_raiseC C tk_of x.x_InvalidPage rfl))
  dss_nil))

theorem sc_require_names : FnScope ["page", "value", "names", "name"] ["page", "value"] (defScope (top 56)) := ⟨rfl, rfl, rfl, by decide +kernel, rfl, by decide +kernel, by decide +kernel⟩

theorem ok_require_names (x : Tx K mg) : Def P w K mg base "require_names" 2 ["page", "value"] sp_require_names := by
  obtain ⟨f, fd, F, hm⟩ := x.h_require_names.ex
  refine ⟨f, fd, fn_D F sc_require_names len_require_names (t := b_require_names) (fun cdv A outer s H E S hr C => ?_) pure_require_names, hm, F.kp, F.bindsN fun _ _ _ _ _ _ us hl => match us, hl with | [_, _], _ => rfl⟩
  · have hr1 : Room 1 _ := hr.mono (by decide)
    exact (dss_cons (ds_set (i := 2) C rfl (by first | exact .inl rfl | exact .inr rfl) (de_fn C (ok_listener_names x) ms_listener_names hr1 rfl (da_cons (de_v 0) da_nil)))
  (dss_one (ds_if (DW.dt (dw_or (dt_not (dt_val (DE.b (de_isi isTup_ok rfl (x.bt.at "isinstance") rfl (x.bt.at "tuple") (by decide +kernel) (db_v 1))))) (dw_or (dt_not (dt_val (DE.b (dr_callB back_P (cd_all C.calm) allD.mono rfl (x.bt.at "all") (by decide +kernel) (dab_cons (DE.b (DF.de (df_lc (own := [("name", 3)]) C (dib_of (db_v 1)) (blkOk_by rfl) (by decide) (fun _ _ _ _ _ => (dg_n 3 C.blk.nd)) (fun _ _ _ _ _ => dts_nil) (fun _ _ _ _ _ => (de_fn C.blk (ok_is_one_of x) ms_is_one_of hr1 rfl (da_cons (de_v 3) (da_cons (de_v 2) da_nil))))))) dab_nil))))) (dw_or1 (dt_not (dt_val (DE.b (de_fn C (ok_is_rising x) ms_is_rising hr1 rfl (da_cons (de_v 1) da_nil)))))))))
  (dss_one (ds_raiseC C tk_of x.x_InvalidNames rfl))
  dss_nil)))

theorem sc_page_without : FnScope ["page", "names", "found", "row", "sorts", "listeners", "boxes", "on", "deeds", "name", "deed"] ["page", "names"] (defScope (top 57)) := ⟨rfl, rfl, rfl, by decide +kernel, rfl, by decide +kernel, by decide +kernel⟩

theorem ok_page_without (x : Tx K mg) : Def P w K mg base "page_without" 1 ["page", "names"] sp_page_without := by
  obtain ⟨f, fd, F, hm⟩ := x.h_page_without.ex
  refine ⟨f, fd, fn_D F sc_page_without len_page_without (t := b_page_without) (fun cdv A outer s H E S hr C => ?_) pure_page_without, hm, F.kp, F.bindsN fun _ _ _ _ _ _ us hl => match us, hl with | [_, _], _ => rfl⟩
  · exact (dss_cons (ds_asg (de_v 0) (dg_t C.calm (dgs_cons (dg_n 4 C.nd) (dgs_cons (dg_n 5 C.nd) (dgs_cons (dg_n 6 C.nd) (dgs_cons (dg_n 7 C.nd) dgs_nil))))))
  (dss_cons (ds_set (i := 2) C rfl (by first | exact .inl rfl | exact .inr rfl) (de_tup da_nil))
  (dss_cons (ds_for C (passes_of rfl) (di_of (de_v 5)) (dg_n 3 C.nd)
  (dss_one (ds_if (dt_cmp (opd_notIn C.hu) cmpD.mono (DE.b (de_ix C.hu (db_v 3) de_int (fun _ _ => rfl))) (db_v 1))
  (dss_cons (ds_set (i := 8) C rfl (by first | exact .inl rfl | exact .inr rfl) (dr_callT back_P cd_tuple tupleD.mono rfl (x.bt.at "tuple") (by decide +kernel) (dab_cons (DE.b (DF.de (df_lc (own := [("deed", 10)]) C (dib_of (DE.b (de_ix C.hu (db_v 3) de_int (fun _ _ => rfl)))) (blkOk_by rfl) (by decide) (fun _ _ _ _ _ => (dg_n 10 C.blk.nd)) (fun _ _ _ _ _ => (dts_one (DW.dt (dw_or (dt_cmp (opd_notIn C.blk.hu) cmpD.mono (DE.b (de_ix C.blk.hu (db_v 10) de_int (fun _ _ => rfl))) (DE.b (de_tup (da_cons de_str (da_cons de_str da_nil))))) (dw_or1 (dt_cmp (opd_notIn C.blk.hu) cmpD.mono (DE.b (de_ix C.blk.hu (db_v 10) de_int (fun _ _ => rfl))) (db_v 1))))))) (fun _ _ _ _ _ => (de_v 10))))) dab_nil)))
  (dss_one (ds_set (i := 2) C rfl (by first | exact .inl rfl | exact .inr rfl) (de_op opd_add addD.mono (db_v 2) (DE.b (de_tup (da_cons (de_op opd_add addD.mono (DE.b (de_slice (db_v 3) do_no (do_so de_int))) (DE.b (de_tup (da_cons (de_v 8) da_nil)))) da_nil)))))))
  dss_nil)))
  (dss_one (ds_ret (de_tup (da_cons (de_v 4) (da_cons (de_v 2) (da_cons (de_v 6) (da_cons (dr_callT back_P cd_tuple tupleD.mono rfl (x.bt.at "tuple") (by decide +kernel) (dab_cons (DE.b (DF.de (df_lc (own := [("name", 9)]) C (dib_of (db_v 7)) (blkOk_by rfl) (by decide) (fun _ _ _ _ _ => (dg_n 9 C.blk.nd)) (fun _ _ _ _ _ => (dts_one (dt_cmp (opd_notIn C.blk.hu) cmpD.mono (db_v 9) (db_v 1)))) (fun _ _ _ _ _ => (de_v 9))))) dab_nil)) da_nil))))))))))

theorem sc_without : FnScope ["page", "names"] ["page", "names"] (defScope (top 59)) := ⟨rfl, rfl, rfl, by decide +kernel, rfl, by decide +kernel, by decide +kernel⟩

theorem ok_without (x : Tx K mg) : Def P w K mg base "without" 6 ["page", "names"] sp_without := by
  obtain ⟨f, fd, F, hm⟩ := x.h_without.ex
  refine ⟨f, fd, fn_D F sc_without len_without (t := b_without) (fun cdv A outer s H E S hr C => ?_) pure_without, hm, F.kp, F.bindsN fun _ _ _ _ _ _ us hl => match us, hl with | [_, _], _ => rfl⟩
  · have hr1 : Room 1 _ := hr.mono (by decide)
    have hr2 : Room 2 _ := hr.mono (by decide)
    have hr5 : Room 5 _ := hr.mono (by decide)
    exact (dss_cons (ds_expr (de_fn C (ok_require_page x) ms_require_page hr5 rfl (da_cons (de_v 0) da_nil)))
  (dss_cons (ds_expr (de_fn C (ok_require_names x) ms_require_names hr2 rfl (da_cons (de_v 0) (da_cons (de_v 1) da_nil))))
  (dss_one (ds_ret (de_fn C (ok_page_without x) ms_page_without hr1 rfl (da_cons (de_v 0) (da_cons (de_v 1) da_nil)))))))

theorem sc_least : FnScope ["page", "kept", "others", "lots", "lot", "good", "name"] ["page", "kept"] (defScope (top 60)) := ⟨rfl, rfl, rfl, by decide +kernel, rfl, by decide +kernel, by decide +kernel⟩

theorem ok_least (x : Tx K mg) : Def P w K mg base "least" 6 ["page", "kept"] sp_least := by
  obtain ⟨f, fd, F, hm⟩ := x.h_least.ex
  refine ⟨f, fd, fn_D F sc_least len_least (t := b_least) (fun cdv A outer s H E S hr C => ?_) pure_least, hm, F.kp, F.bindsN fun _ _ _ _ _ _ us hl => match us, hl with | [_, _], _ => rfl⟩
  · have hr2 : Room 2 _ := hr.mono (by decide)
    have hr5 : Room 5 _ := hr.mono (by decide)
    exact (dss_cons (ds_expr (de_fn C (ok_require_page x) ms_require_page hr5 rfl (da_cons (de_v 0) da_nil))) (dss_cons (ds_expr (de_fn C (ok_require_names x) ms_require_names hr2 rfl (da_cons (de_v 0) (da_cons (de_v 1) da_nil)))) dss_never))

theorem sc__law_source : FnScope ["script", "k", "cell", "primes", "seed"] ["script", "k"] (defScope (top 62)) := ⟨rfl, rfl, rfl, by decide +kernel, rfl, by decide +kernel, by decide +kernel⟩

theorem ok__law_source (x : Tx K mg) : DefF P w K mg base "_law_source" 1 ["script", "k"] sp__law_source := by
  obtain ⟨f, fd, F, hm⟩ := x.h__law_source.ex
  refine ⟨f, fd, fn_DF F sc__law_source len__law_source (t := b__law_source) (fun cdv A outer s H E S hr C => ?_) pure__law_source, hm, F.kp, F.bindsN fun _ _ _ _ _ _ us hl => match us, hl with | [_, _], _ => rfl⟩
  · exact (dss_cons (ds_set (i := 2) C rfl (by first | exact .inl rfl | exact .inr rfl) de_int)
  (dss_cons (ds_if (dt_cmp opd_lt cmpD.mono (db_v 1) (DE.b (de_lenScr 0 rfl (x.bt.at "len"))))
  (dss_one (ds_set (i := 2) C rfl (by first | exact .inl rfl | exact .inr rfl) (de_ixScr 0 (de_v 1) (fun _ _ => rfl))))
  dss_nil)
  (dss_cons (ds_set (i := 3) C rfl (by first | exact .inl rfl | exact .inr rfl) (DF.de (df_lst (da_cons de_int (da_cons de_int (da_cons de_int (da_cons de_int (da_cons de_int (da_cons de_int (da_cons de_int (da_cons de_int da_nil)))))))))))
  (dss_cons (ds_set (i := 4) C rfl (by first | exact .inl rfl | exact .inr rfl) (de_op opd_mod modD.mono (DE.b (dr_callT back_P cd_int intDD.mono rfl (x.bt.at "int") (by decide +kernel) (dab_cons (DE.b (de_op opd_mul mulD.mono (DE.b (de_op opd_add addD.mono (DE.b (de_op opd_mod modD.mono (DE.b (dr_callT back_P cd_int intDD.mono rfl (x.bt.at "int") (by decide +kernel) (dab_cons (db_v 2) dab_nil))) (DE.b de_int))) (DE.b de_int))) (DE.b (de_op opd_add addD.mono (DE.b de_int) (DE.b (de_op opd_mul mulD.mono (DE.b de_int) (db_v 1))))))) dab_nil))) (DE.b de_int)))
  (dss_cons (ds_set (i := 4) C rfl (by first | exact .inl rfl | exact .inr rfl) (de_op opd_add addD.mono (DE.b (de_op opd_add addD.mono (DE.b (de_op opd_mod modD.mono (DE.b (dr_callT back_P cd_int intDD.mono rfl (x.bt.at "int") (by decide +kernel) (dab_cons (DE.b (de_op opd_mul mulD.mono (db_v 4) (db_v 4))) dab_nil))) (DE.b de_int))) (db_v 1))) (DE.b de_int)))
  (dss_cons (ds_if (dt_cmp opd_ge cmpD.mono (db_v 2) (DE.b (de_op opd_pow powD.mono (DE.b de_int) (DE.b de_int))))
  (dss_one (ds_retF (df_lst (da_cons (de_v 2) (da_cons (de_v 4) (da_cons (de_ix C.hu (db_v 3) (de_op opd_mod modD.mono (DE.b (dr_callT back_P cd_int intDD.mono rfl (x.bt.at "int") (by decide +kernel) (dab_cons (db_v 1) dab_nil))) (DE.b de_int)) (fun _ _ => rfl)) da_nil))))))
  dss_nil)
  (dss_one (ds_retF (df_lst (da_cons de_int (da_cons (de_v 4) (da_cons (de_ix C.hu (db_v 3) (de_op opd_mod modD.mono (DE.b (dr_callT back_P cd_int intDD.mono rfl (x.bt.at "int") (by decide +kernel) (dab_cons (db_v 1) dab_nil))) (DE.b de_int)) (fun _ _ => rfl)) da_nil))))))))))))

theorem sc__law_pick : FnScope ["source", "limit", "drawn"] ["source", "limit"] (defScope (top 63)) := ⟨rfl, rfl, rfl, by decide +kernel, rfl, by decide +kernel, by decide +kernel⟩

theorem ok__law_pick (x : Tx K mg) : Def P w K mg base "_law_pick" 1 ["source", "limit"] sp__law_pick := by
  obtain ⟨f, fd, F, hm⟩ := x.h__law_pick.ex
  refine ⟨f, fd, fn_D F sc__law_pick len__law_pick (t := b__law_pick) (fun cdv A outer s H E S hr C => ?_) pure__law_pick, hm, F.kp, F.bindsN fun _ _ _ _ _ _ us hl => match us, hl with | [_, _], _ => rfl⟩
  · exact (dss_cons (ds_if (dt_cmp opd_gt cmpD.mono (DE.b (de_src 0 0 de_int (fun _ _ => rfl))) (DE.b de_int))
  (dss_cons (ds_set (i := 2) C rfl (by first | exact .inl rfl | exact .inr rfl) (de_op opd_mod modD.mono (DE.b (dr_callT back_P cd_int intDD.mono rfl (x.bt.at "int") (by decide +kernel) (dab_cons (DE.b (de_src 0 0 de_int (fun _ _ => rfl))) dab_nil))) (db_v 1)))
  (dss_cons (ds_srcW 0 0 (de_op opd_fdiv fdivD.mono (DE.b (de_src 0 0 de_int (fun _ _ => rfl))) (db_v 1)) de_int)
  (dss_one (ds_ret (de_v 2)))))
  dss_nil)
  (dss_cons (ds_srcW 0 1 (de_op opd_add addD.mono (DE.b (de_op opd_mod modD.mono (DE.b (dr_callT back_P cd_int intDD.mono rfl (x.bt.at "int") (by decide +kernel) (dab_cons (DE.b (de_op opd_mul mulD.mono (DE.b (de_src 0 1 de_int (fun _ _ => rfl))) (DE.b de_int))) dab_nil))) (DE.b (de_src 0 2 de_int (fun _ _ => rfl))))) (DE.b de_int)) de_int)
  (dss_one (ds_ret (de_op opd_mod modD.mono (DE.b (dr_callT back_P cd_int intDD.mono rfl (x.bt.at "int") (by decide +kernel) (dab_cons (DE.b (de_op opd_fdiv fdivD.mono (DE.b (de_op opd_mod modD.mono (DE.b (dr_callT back_P cd_int intDD.mono rfl (x.bt.at "int") (by decide +kernel) (dab_cons (DE.b (de_op opd_mul mulD.mono (DE.b (de_src 0 1 de_int (fun _ _ => rfl))) (DE.b (de_src 0 1 de_int (fun _ _ => rfl))))) dab_nil))) (DE.b de_int))) (DE.b de_int))) dab_nil))) (db_v 1))))))

theorem sc__law_chosen : FnScope ["source", "some"] ["source", "some"] (defScope (top 64)) := ⟨rfl, rfl, rfl, by decide +kernel, rfl, by decide +kernel, by decide +kernel⟩

theorem ok__law_chosen (x : Tx K mg) : Def P w K mg base "_law_chosen" 2 ["source", "some"] sp__law_chosen := by
  obtain ⟨f, fd, F, hm⟩ := x.h__law_chosen.ex
  refine ⟨f, fd, fn_D F sc__law_chosen len__law_chosen (t := b__law_chosen) (fun cdv A outer s H E S hr C => ?_) pure__law_chosen, hm, F.kp, F.bindsN fun _ _ _ _ _ _ us hl => match us, hl with | [_, _], _ => rfl⟩
  · have hr1 : Room 1 _ := hr.mono (by decide)
    exact (dss_one (ds_ret (de_ix C.hu (db_v 1) (de_fn C (ok__law_pick x) ms__law_pick hr1 rfl (da_cons (de_v 0) (da_cons (dr_callB back_P cd_len lenD.mono rfl (x.bt.at "len") (by decide +kernel) (dab_cons (db_v 1) dab_nil)) da_nil))) (fun _ _ => rfl))))

theorem sc__law_mixed : FnScope ["source", "some", "found", "one"] ["source", "some"] (defScope (top 65)) := ⟨rfl, rfl, rfl, by decide +kernel, rfl, by decide +kernel, by decide +kernel⟩

theorem ok__law_mixed (x : Tx K mg) : Def P w K mg base "_law_mixed" 2 ["source", "some"] sp__law_mixed := by
  obtain ⟨f, fd, F, hm⟩ := x.h__law_mixed.ex
  refine ⟨f, fd, fn_D F sc__law_mixed len__law_mixed (t := b__law_mixed) (fun cdv A outer s H E S hr C => ?_) pure__law_mixed, hm, F.kp, F.bindsN fun _ _ _ _ _ _ us hl => match us, hl with | [_, _], _ => rfl⟩
  · have hr1 : Room 1 _ := hr.mono (by decide)
    exact (dss_cons (ds_own (i := 2) C rfl (by first | exact .inl rfl | exact .inr rfl) (df_lst da_nil))
  (dss_cons (ds_for C (passes_of rfl) (di_of (de_v 1)) (dg_n 3 C.nd)
  (dss_one (ds_lmeth 2 mIns.mono PySem.F.slot_list_insert PySem.F.type_list_insert mt_insert hm_ins (da_cons (de_fn C (ok__law_pick x) ms__law_pick hr1 rfl (da_cons (de_v 0) (da_cons (de_op opd_add addD.mono (DE.b (dr_callB back_P cd_len lenD.mono rfl (x.bt.at "len") (by decide +kernel) (dab_cons (db_v 2) dab_nil))) (DE.b de_int)) da_nil))) (da_cons (de_v 3) da_nil)))))
  (dss_frz 2 (dss_one (ds_ret (de_v 2))))))

theorem sc__law_drawn_boxes : FnScope ["source", "most", "names", "name", "rows", "hosts", "houses", "slots", "under", "house", "role"] ["source", "most"] (defScope (top 66)) := ⟨rfl, rfl, rfl, by decide +kernel, rfl, by decide +kernel, by decide +kernel⟩

theorem ok__law_drawn_boxes (x : Tx K mg) : Def P w K mg base "_law_drawn_boxes" 3 ["source", "most"] sp__law_drawn_boxes := by
  obtain ⟨f, fd, F, hm⟩ := x.h__law_drawn_boxes.ex
  refine ⟨f, fd, fn_D F sc__law_drawn_boxes len__law_drawn_boxes (t := b__law_drawn_boxes) (fun cdv A outer s H E S hr C => ?_) pure__law_drawn_boxes, hm, F.kp, F.bindsN fun _ _ _ _ _ _ us hl => match us, hl with | [_, _], _ => rfl⟩
  · have hr1 : Room 1 _ := hr.mono (by decide)
    have hr2 : Room 2 _ := hr.mono (by decide)
    exact (dss_cons (ds_set (i := 2) C rfl (by first | exact .inl rfl | exact .inr rfl) (de_slice (DE.b (de_fn C (ok__law_mixed x) ms__law_mixed hr2 rfl (da_cons (de_v 0) (da_cons (DF.de (df_lst (da_cons de_str (da_cons de_str (da_cons de_str (da_cons de_str (da_cons de_str (da_cons de_str (da_cons de_str (da_cons de_str da_nil)))))))))) da_nil)))) do_no (do_so (de_op opd_add addD.mono (DE.b de_int) (DE.b (de_fn C (ok__law_pick x) ms__law_pick hr1 rfl (da_cons (de_v 0) (da_cons (de_v 1) da_nil))))))))
  (dss_cons (ds_tupM [4, 5, 6, 7] (dm_o (df_lst (da_cons (de_tup (da_cons (de_ix C.hu (db_v 2) de_int (fun _ _ => rfl)) (da_cons de_non (da_cons de_str da_nil)))) da_nil)) (dm_o (df_lst da_nil) (dm_o (df_dict1 (de_ix C.hu (db_v 2) de_int (fun _ _ => rfl)) de_non) (dm_o (df_lst da_nil) dm_nil)))) (dg_t C.calm (dgs_cons (dg_n 4 C.nd) (dgs_cons (dg_n 5 C.nd) (dgs_cons (dg_n 6 C.nd) (dgs_cons (dg_n 7 C.nd) dgs_nil))))))
  (dss_cons (ds_for C (passes_of rfl) (di_of (de_slice (db_v 2) (do_so de_int) do_no)) (dg_n 3 C.nd)
  (dss_cons (ds_set (i := 8) C rfl (by first | exact .inl rfl | exact .inr rfl) (de_if (dt_cmp (opd_eq C.hu) eqD.mono (DE.b (de_fn C (ok__law_pick x) ms__law_pick hr1 rfl (da_cons (de_v 0) (da_cons de_int da_nil)))) (DE.b de_int)) (de_ix C.hu (DE.b (de_ix C.hu (db_v 4) (de_neg de_int) (fun _ _ => rfl))) de_int (fun _ _ => rfl)) (de_lend 4 (de_ix C.hu (DE.b (de_fn C (ok__law_chosen x) ms__law_chosen hr2 rfl (da_cons (de_v 0) (da_cons (de_v 4) da_nil)))) de_int (fun _ _ => rfl)))))
  (dss_cons (ds_par (i := 9) (j := 10) C rfl rfl (by decide) rfl rfl (da_cons (de_ix C.hu (db_v 6) (de_v 8) (fun _ _ => rfl)) (da_cons de_str da_nil)) (by rfl))
  (dss_cons (ds_if (DW.dt (dw_and (dt_cmp (opd_notIn C.hu) cmpD.mono (db_v 8) (db_v 5)) (dw_and1 (dt_cmp (opd_eq C.hu) eqD.mono (DE.b (de_fn C (ok__law_pick x) ms__law_pick hr1 rfl (da_cons (de_v 0) (da_cons de_int da_nil)))) (DE.b de_int)))))
  (dss_cons (ds_lmeth 5 mApp.mono PySem.F.slot_list_append PySem.F.type_list_append mt_append hm_app (da_cons (de_v 8) da_nil))
  (dss_one (ds_par (i := 9) (j := 10) C rfl rfl (by decide) rfl rfl (da_cons (de_v 3) (da_cons de_str da_nil)) (by rfl))))
  (dss_one (ds_if (DW.dt (dw_and (dt_cmp opd_notN notND.mono (db_v 9) (DE.b de_non)) (dw_and (dt_cmp (opd_notIn C.hu) cmpD.mono (db_v 9) (db_v 7)) (dw_and1 (dt_cmp opd_gt cmpD.mono (DE.b (de_fn C (ok__law_pick x) ms__law_pick hr1 rfl (da_cons (de_v 0) (da_cons de_int da_nil)))) (DE.b de_int))))))
  (dss_cons (ds_lmeth 7 mApp.mono PySem.F.slot_list_append PySem.F.type_list_append mt_append hm_app (da_cons (de_v 9) da_nil))
  (dss_one (ds_set (i := 10) C rfl (by first | exact .inl rfl | exact .inr rfl) de_str)))
  dss_nil)))
  (dss_cons (ds_dput 6 C.hu (de_v 9) (de_v 3))
  (dss_one (ds_lmeth 4 mApp.mono PySem.F.slot_list_append PySem.F.type_list_append mt_append hm_app (da_cons (de_tup (da_cons (de_v 3) (da_cons (de_v 8) (da_cons (de_v 10) da_nil)))) da_nil))))))))
  (dss_one (ds_ret (dr_callT back_P cd_tuple tupleD.mono rfl (x.bt.at "tuple") (by decide +kernel) (dab_cons (DE.b (DF.de (dr_callB back_F cd_sortT sortTD.mono rfl (x.bt.at "sorted") (by decide +kernel) (dab_cons (db_v 4) dab_nil)))) dab_nil)))))))

theorem sc__law_drawn_sorts : FnScope ["source", "most", "found", "name", "rises", "far"] ["source", "most"] (defScope (top 67)) := ⟨rfl, rfl, rfl, by decide +kernel, rfl, by decide +kernel, by decide +kernel⟩

theorem ok__law_drawn_sorts (x : Tx K mg) : Def P w K mg base "_law_drawn_sorts" 2 ["source", "most"] sp__law_drawn_sorts := by
  obtain ⟨f, fd, F, hm⟩ := x.h__law_drawn_sorts.ex
  refine ⟨f, fd, fn_D F sc__law_drawn_sorts len__law_drawn_sorts (t := b__law_drawn_sorts) (fun cdv A outer s H E S hr C => ?_) pure__law_drawn_sorts, hm, F.kp, F.bindsN fun _ _ _ _ _ _ us hl => match us, hl with | [_, _], _ => rfl⟩
  · have hr1 : Room 1 _ := hr.mono (by decide)
    exact (dss_cons (ds_own (i := 2) C rfl (by first | exact .inl rfl | exact .inr rfl) (df_lst da_nil))
  (dss_cons (ds_for C (passes_of rfl) (di_of (de_slice (DE.b (DF.de (df_lst (da_cons de_str (da_cons de_str (da_cons de_str da_nil)))))) do_no (do_so (de_op opd_add addD.mono (DE.b de_int) (DE.b (de_fn C (ok__law_pick x) ms__law_pick hr1 rfl (da_cons (de_v 0) (da_cons (de_v 1) da_nil)))))))) (dg_n 3 C.nd)
  (dss_cons (ds_par (i := 4) (j := 5) C rfl rfl (by decide) rfl rfl (da_cons (de_cmp opd_gt cmpD.mono (DE.b (de_fn C (ok__law_pick x) ms__law_pick hr1 rfl (da_cons (de_v 0) (da_cons de_int da_nil)))) (DE.b de_int)) (da_cons (de_cmp opd_gt cmpD.mono (DE.b (de_fn C (ok__law_pick x) ms__law_pick hr1 rfl (da_cons (de_v 0) (da_cons de_int da_nil)))) (DE.b de_int)) da_nil)) (by rfl))
  (dss_one (ds_lmeth 2 mApp.mono PySem.F.slot_list_append PySem.F.type_list_append mt_append hm_app (da_cons (de_tup (da_cons (de_v 3) (da_cons (de_v 4) (da_cons (de_v 5) (da_cons (de_cmp opd_gt cmpD.mono (DE.b (de_fn C (ok__law_pick x) ms__law_pick hr1 rfl (da_cons (de_v 0) (da_cons de_int da_nil)))) (DE.b de_int)) da_nil))))) da_nil)))))
  (dss_one (ds_ret (dr_callT back_P cd_tuple tupleD.mono rfl (x.bt.at "tuple") (by decide +kernel) (dab_cons (db_v 2) dab_nil))))))

theorem sc__law_drawn_deed : FnScope ["source", "word", "names", "sorts", "boxes"] ["source", "word", "names", "sorts", "boxes"] (defScope (top 68)) := ⟨rfl, rfl, rfl, by decide +kernel, rfl, by decide +kernel, by decide +kernel⟩

theorem ok__law_drawn_deed (x : Tx K mg) : Def P w K mg base "_law_drawn_deed" 3 ["source", "word", "names", "sorts", "boxes"] sp__law_drawn_deed := by
  obtain ⟨f, fd, F, hm⟩ := x.h__law_drawn_deed.ex
  refine ⟨f, fd, fn_D F sc__law_drawn_deed len__law_drawn_deed (t := b__law_drawn_deed) (fun cdv A outer s H E S hr C => ?_) pure__law_drawn_deed, hm, F.kp, F.bindsN fun _ _ _ _ _ _ us hl => match us, hl with | [_, _, _, _, _], _ => rfl⟩
  · have hr2 : Room 2 _ := hr.mono (by decide)
    exact (dss_cons (ds_if (dt_cmp (opd_in C.hu) cmpD.mono (db_v 1) (DE.b (DF.de (df_lst (da_cons de_str (da_cons de_str da_nil))))))
  (dss_one (ds_ret (de_tup (da_cons (de_v 1) (da_cons (de_fn C (ok__law_chosen x) ms__law_chosen hr2 rfl (da_cons (de_v 0) (da_cons (de_v 2) da_nil))) da_nil)))))
  dss_nil)
  (dss_cons (ds_if (dt_cmp (opd_eq C.hu) eqD.mono (db_v 1) (DE.b de_str))
  (dss_one (ds_ret (de_tup (da_cons (de_v 1) (da_cons (de_ix C.hu (DE.b (de_fn C (ok__law_chosen x) ms__law_chosen hr2 rfl (da_cons (de_v 0) (da_cons (de_v 4) da_nil)))) de_int (fun _ _ => rfl)) (da_cons (de_ix C.hu (DE.b (de_fn C (ok__law_chosen x) ms__law_chosen hr2 rfl (da_cons (de_v 0) (da_cons (de_v 4) da_nil)))) de_int (fun _ _ => rfl)) da_nil))))))
  dss_nil)
  (dss_cons (ds_if (dt_cmp (opd_eq C.hu) eqD.mono (db_v 1) (DE.b de_str))
  (dss_one (ds_ret (de_tup (da_cons (de_v 1) (da_cons (de_ix C.hu (DE.b (de_fn C (ok__law_chosen x) ms__law_chosen hr2 rfl (da_cons (de_v 0) (da_cons (de_v 3) da_nil)))) de_int (fun _ _ => rfl)) (da_cons (de_ix C.hu (DE.b (de_fn C (ok__law_chosen x) ms__law_chosen hr2 rfl (da_cons (de_v 0) (da_cons (de_v 4) da_nil)))) de_int (fun _ _ => rfl)) da_nil))))))
  dss_nil)
  (dss_one (ds_ret (de_tup (da_cons (de_v 1) da_nil)))))))

theorem sc__law_drawn_listeners : FnScope ["source", "sorts", "boxes", "most", "words", "names", "found", "name", "deeds", "turn", "truths", "box", "sort"] ["source", "sorts", "boxes", "most", "words"] (defScope (top 69)) := ⟨rfl, rfl, rfl, by decide +kernel, rfl, by decide +kernel, by decide +kernel⟩

theorem ok__law_drawn_listeners (x : Tx K mg) : Def P w K mg base "_law_drawn_listeners" 4 ["source", "sorts", "boxes", "most", "words"] sp__law_drawn_listeners := by
  obtain ⟨f, fd, F, hm⟩ := x.h__law_drawn_listeners.ex
  refine ⟨f, fd, fn_D F sc__law_drawn_listeners len__law_drawn_listeners (t := b__law_drawn_listeners) (fun cdv A outer s H E S hr C => ?_) pure__law_drawn_listeners, hm, F.kp, F.bindsN fun _ _ _ _ _ _ us hl => match us, hl with | [_, _, _, _, _], _ => rfl⟩
  · have hr1 : Room 1 _ := hr.mono (by decide)
    have hr2 : Room 2 _ := hr.mono (by decide)
    have hr3 : Room 3 _ := hr.mono (by decide)
    exact (dss_cons (ds_set (i := 5) C rfl (by first | exact .inl rfl | exact .inr rfl) (de_slice (DE.b (DF.de (df_lst (da_cons de_str (da_cons de_str (da_cons de_str (da_cons de_str (da_cons de_str (da_cons de_str (da_cons de_str (da_cons de_str (da_cons de_str (da_cons de_str (da_cons de_str (da_cons de_str da_nil))))))))))))))) do_no (do_so (de_fn C (ok__law_pick x) ms__law_pick hr1 rfl (da_cons (de_v 0) (da_cons (de_op opd_add addD.mono (db_v 3) (DE.b de_int)) da_nil))))))
  (dss_cons (ds_own (i := 6) C rfl (by first | exact .inl rfl | exact .inr rfl) (df_lst da_nil))
  (dss_cons (ds_for C (passes_of rfl) (di_of (de_v 5)) (dg_n 7 C.nd)
  (dss_cons (ds_own (i := 8) C rfl (by first | exact .inl rfl | exact .inr rfl) (df_lst da_nil))
  (dss_cons (ds_for C (passes_of rfl) (di_rng1 rfl (x.bt.at "range") (dab_cons (DE.b (de_op opd_mul mulD.mono (DE.b (de_ix C.hu (DE.b (DF.de (df_lst (da_cons de_int (da_cons de_int (da_cons de_int (da_cons de_int (da_cons de_int (da_cons de_int da_nil))))))))) (de_fn C (ok__law_pick x) ms__law_pick hr1 rfl (da_cons (de_v 0) (da_cons de_int da_nil))) (fun _ _ => rfl))) (DE.b (dr_callT back_P cd_int intDD.mono rfl (x.bt.at "int") (by decide +kernel) (dab_cons (DE.b (de_cmp (opd_ne C.hu) neD.mono (db_v 4) (DE.b (DF.de (df_lst da_nil))))) dab_nil))))) dab_nil)) (dg_n 9 C.nd)
  (dss_one (ds_lmeth 8 mApp.mono PySem.F.slot_list_append PySem.F.type_list_append mt_append hm_app (da_cons (de_fn C (ok__law_drawn_deed x) ms__law_drawn_deed hr3 rfl (da_cons (de_v 0) (da_cons (de_fn C (ok__law_chosen x) ms__law_chosen hr2 rfl (da_cons (de_v 0) (da_cons (de_v 4) da_nil))) (da_cons (de_v 5) (da_cons (de_v 1) (da_cons (de_v 2) da_nil)))))) da_nil))))
  (dss_cons (ds_set (i := 10) C rfl (by first | exact .inl rfl | exact .inr rfl) (de_tup (da_cons (de_cmp (opd_eq C.hu) eqD.mono (DE.b (de_fn C (ok__law_pick x) ms__law_pick hr1 rfl (da_cons (de_v 0) (da_cons de_int da_nil)))) (DE.b de_int)) (da_cons (de_cmp (opd_eq C.hu) eqD.mono (DE.b (de_fn C (ok__law_pick x) ms__law_pick hr1 rfl (da_cons (de_v 0) (da_cons de_int da_nil)))) (DE.b de_int)) (da_cons (de_cmp (opd_eq C.hu) eqD.mono (DE.b (de_fn C (ok__law_pick x) ms__law_pick hr1 rfl (da_cons (de_v 0) (da_cons de_int da_nil)))) (DE.b de_int)) da_nil)))))
  (dss_cons (ds_set (i := 11) C rfl (by first | exact .inl rfl | exact .inr rfl) (de_ix C.hu (DE.b (de_fn C (ok__law_chosen x) ms__law_chosen hr2 rfl (da_cons (de_v 0) (da_cons (de_v 2) da_nil)))) de_int (fun _ _ => rfl)))
  (dss_cons (ds_set (i := 12) C rfl (by first | exact .inl rfl | exact .inr rfl) (de_ix C.hu (DE.b (de_fn C (ok__law_chosen x) ms__law_chosen hr2 rfl (da_cons (de_v 0) (da_cons (de_v 1) da_nil)))) de_int (fun _ _ => rfl)))
  (dss_one (ds_lmeth 6 mApp.mono PySem.F.slot_list_append PySem.F.type_list_append mt_append hm_app (da_cons (de_op opd_add addD.mono (DE.b (de_op opd_add addD.mono (DE.b (de_tup (da_cons (de_v 7) (da_cons (de_v 11) (da_cons (de_v 12) da_nil))))) (db_v 10))) (DE.b (de_tup (da_cons (dr_callT back_P cd_tuple tupleD.mono rfl (x.bt.at "tuple") (by decide +kernel) (dab_cons (db_v 8) dab_nil)) da_nil)))) da_nil)))))))))
  (dss_one (ds_ret (dr_callT back_P cd_tuple tupleD.mono rfl (x.bt.at "tuple") (by decide +kernel) (dab_cons (db_v 6) dab_nil)))))))

theorem sc__law_drawn_on : FnScope ["source", "names", "name"] ["source", "names"] (defScope (top 70)) := ⟨rfl, rfl, rfl, by decide +kernel, rfl, by decide +kernel, by decide +kernel⟩

theorem ok__law_drawn_on (x : Tx K mg) : Def P w K mg base "_law_drawn_on" 3 ["source", "names"] sp__law_drawn_on := by
  obtain ⟨f, fd, F, hm⟩ := x.h__law_drawn_on.ex
  refine ⟨f, fd, fn_D F sc__law_drawn_on len__law_drawn_on (t := b__law_drawn_on) (fun cdv A outer s H E S hr C => ?_) pure__law_drawn_on, hm, F.kp, F.bindsN fun _ _ _ _ _ _ us hl => match us, hl with | [_, _], _ => rfl⟩
  · have hr1 : Room 1 _ := hr.mono (by decide)
    have hr2 : Room 2 _ := hr.mono (by decide)
    exact (dss_one (ds_ret (dr_callT back_P cd_tuple tupleD.mono rfl (x.bt.at "tuple") (by decide +kernel) (dab_cons (DE.b (DF.de (df_lc (own := [("name", 2)]) C (dib_of (DE.b (de_fn C (ok__law_mixed x) ms__law_mixed hr2 rfl (da_cons (de_v 0) (da_cons (de_v 1) da_nil))))) (blkOk_by rfl) (by decide) (fun _ _ _ _ _ => (dg_n 2 C.blk.nd)) (fun _ _ _ _ _ => (dts_one (dt_cmp opd_gt cmpD.mono (DE.b (de_fn C.blk (ok__law_pick x) ms__law_pick hr1 rfl (da_cons (de_v 0) (da_cons de_int da_nil)))) (DE.b de_int)))) (fun _ _ _ _ _ => (de_v 2))))) dab_nil))))

theorem sc__law_drawn_page : FnScope ["source", "most", "words", "rows", "sorts", "boxes", "row"] ["source", "most", "words"] (defScope (top 71)) := ⟨rfl, rfl, rfl, by decide +kernel, rfl, by decide +kernel, by decide +kernel⟩

theorem ok__law_drawn_page (x : Tx K mg) : Def P w K mg base "_law_drawn_page" 5 ["source", "most", "words"] sp__law_drawn_page := by
  obtain ⟨f, fd, F, hm⟩ := x.h__law_drawn_page.ex
  refine ⟨f, fd, fn_D F sc__law_drawn_page len__law_drawn_page (t := b__law_drawn_page) (fun cdv A outer s H E S hr C => ?_) pure__law_drawn_page, hm, F.kp, F.bindsN fun _ _ _ _ _ _ us hl => match us, hl with | [_, _, _], _ => rfl⟩
  · have hr2 : Room 2 _ := hr.mono (by decide)
    have hr3 : Room 3 _ := hr.mono (by decide)
    have hr4 : Room 4 _ := hr.mono (by decide)
    exact (dss_cons (ds_par (i := 4) (j := 5) C rfl rfl (by decide) rfl rfl (da_cons (de_fn C (ok__law_drawn_sorts x) ms__law_drawn_sorts hr2 rfl (da_cons (de_v 0) (da_cons de_int da_nil))) (da_cons (de_fn C (ok__law_drawn_boxes x) ms__law_drawn_boxes hr3 rfl (da_cons (de_v 0) (da_cons (de_ix C.hu (db_v 1) de_int (fun _ _ => rfl)) da_nil))) da_nil)) (by rfl))
  (dss_cons (ds_set (i := 3) C rfl (by first | exact .inl rfl | exact .inr rfl) (de_fn C (ok__law_drawn_listeners x) ms__law_drawn_listeners hr4 rfl (da_cons (de_v 0) (da_cons (de_v 4) (da_cons (de_v 5) (da_cons (de_ix C.hu (db_v 1) de_int (fun _ _ => rfl)) (da_cons (de_v 2) da_nil)))))))
  (dss_one (ds_ret (de_tup (da_cons (de_v 4) (da_cons (de_v 3) (da_cons (de_v 5) (da_cons (de_fn C (ok__law_drawn_on x) ms__law_drawn_on hr3 rfl (da_cons (de_v 0) (da_cons (DF.de (df_lc (own := [("row", 6)]) C (dib_of (db_v 3)) (blkOk_by rfl) (by decide) (fun _ _ _ _ _ => (dg_n 6 C.blk.nd)) (fun _ _ _ _ _ => dts_nil) (fun _ _ _ _ _ => (de_ix C.blk.hu (db_v 6) de_int (fun _ _ => rfl))))) da_nil))) da_nil)))))))))

theorem sc__law_outcome : FnScope ["call", "sheet", "names"] ["call", "sheet", "names"] (defScope (top 72)) := ⟨rfl, rfl, rfl, by decide +kernel, rfl, by decide +kernel, by decide +kernel⟩

theorem ok__law_outcome (x : Tx K mg) : Def P w K mg base "_law_outcome" 7 ["call", "sheet", "names"] sp__law_outcome := by
  obtain ⟨f, fd, F, hm⟩ := x.h__law_outcome.ex
  refine ⟨f, fd, fn_D F sc__law_outcome len__law_outcome (t := b__law_outcome) (fun cdv A outer s H E S hr C => ?_) pure__law_outcome, hm, F.kp, F.bindsN fun _ _ _ _ _ _ us hl => match us, hl with | [_, _, _], _ => rfl⟩
  · have hr6 : Room 6 _ := hr.mono (by decide)
    exact (dss_cons (ds_try (cls := clsL) C rfl rfl tk_of (fun _ _ _ tk C => (dss_one (ds_expr (de_callL C (fnl_cons (ok_without x) ms_without hr6 rfl (fnl_cons (ok_least x) ms_least hr6 rfl fnl_nil)) (by decide) (de_v 0) (da_cons (de_v 1) (da_cons (de_v 2) da_nil)) (fun _ _ => rfl)))))
  (.cons x.x_InvalidPage (x.em "InvalidPage" (by decide +kernel)) rfl (by decide) (fun _ _ _ => (dss_one (ds_ret de_str)))
  (.cons x.x_InvalidNames (x.em "InvalidNames" (by decide +kernel)) rfl (by decide) (fun _ _ _ => (dss_one (ds_ret de_str)))
  .nil)))
  (dss_one (ds_ret de_str)))

theorem sc_law : FnScope ["script", "k", "source", "one", "names", "some", "rows", "row", "due", "here", "name", "odds", "odd", "deeds", "deed"] ["script"] (defScope (top 73)) := ⟨rfl, rfl, rfl, by decide +kernel, rfl, by decide +kernel, by decide +kernel⟩

theorem law_fn {f : Addr} {fd : FuncData} (x : Tx K mg) (F : FunD K "law" "law" (defArgs (top 73)) (defBody (top 73)) (defScope (top 73)) [] [] f fd) : FnOk P w K mg base (L2N.CX P w) 8 f fd ["script"] (spD K sp_law) := by
  refine fn_D F sc_law len_law (t := b_law) (fun cdv A outer s H E S hr C => ?_) pure_law
  · have hr1 : Room 1 _ := hr.mono (by decide)
    have hr4 : Room 4 _ := hr.mono (by decide)
    have hr5 : Room 5 _ := hr.mono (by decide)
    have hr6 : Room 6 _ := hr.mono (by decide)
    have hr7 : Room 7 _ := hr.mono (by decide)
    exact (dss_cons (ds_for C (passes_of rfl) (di_rng1 rfl (x.bt.at "range") (dab_cons (DE.b (dr_callB back_P (cd_max C.calm) maxD.mono rfl (x.bt.at "max") (by decide +kernel) (dab_cons (DE.b de_int) (dab_cons (DE.b (dr_callB back_P (cd_min C.calm) minD.mono rfl (x.bt.at "min") (by decide +kernel) (dab_cons (DE.b de_int) (dab_cons (DE.b (de_lenScr 0 rfl (x.bt.at "len"))) dab_nil)))) dab_nil)))) dab_nil)) (dg_n 1 C.nd)
  (dss_cons (ds_own (i := 2) C rfl (by first | exact .inl rfl | exact .inr rfl) (df_fn C (ok__law_source x) ms__law_source hr1 rfl (da_cons (de_v 0) (da_cons (de_v 1) da_nil))))
  (dss_src 2 (fun a =>
  (dss_cons (ds_set (i := 3) C rfl (by first | exact .inl rfl | exact .inr rfl) (de_fn C (ok__law_drawn_page x) ms__law_drawn_page hr5 rfl (da_cons (de_v 2) (da_cons (DF.de (df_lst (da_cons de_int (da_cons de_int da_nil)))) (da_cons (DF.de (df_lst (da_cons de_str (da_cons de_str (da_cons de_str (da_cons de_str (da_cons de_str (da_cons de_str da_nil)))))))) da_nil)))))
  (dss_cons (ds_lcp (i := 4) (own := [("row", 7)]) C rfl rfl (sw_true rfl rfl rfl (by decide +kernel)) (dib_of (DE.b (de_ix C.hu (db_v 3) de_int (fun _ _ => rfl)))) (blkOk_by rfl) (by decide) (fun _ _ _ _ _ => (dg_n 7 C.blk.nd)) (fun _ _ _ _ _ => dts_nil) (fun _ _ _ _ _ => (de_ix C.blk.hu (db_v 7) de_int (fun _ _ => rfl))))
  (dss_cons (ds_set (i := 5) C rfl (by first | exact .inl rfl | exact .inr rfl) (dr_callT back_P cd_tuple tupleD.mono rfl (x.bt.at "tuple") (by decide +kernel) (dab_cons (DE.b (DF.de (df_lc (own := [("name", 10)]) C (dib_of (db_v 4)) (blkOk_by rfl) (by decide) (fun _ _ _ _ _ => (dg_n 10 C.blk.nd)) (fun _ _ _ _ _ => (dts_one (dt_cmp (opd_eq C.blk.hu) eqD.mono (DE.b (de_fn C.blk (ok__law_pick x) ms__law_pick hr1 rfl (da_cons (de_v 2) (da_cons de_int da_nil)))) (DE.b de_int)))) (fun _ _ _ _ _ => (de_v 10))))) dab_nil)))
  (dss_cons (ds_own (i := 6) C rfl (by first | exact .inl rfl | exact .inr rfl) (df_lst da_nil))
  (dss_cons (ds_for C (passes_of rfl) (di_of (de_ix C.hu (db_v 3) de_int (fun _ _ => rfl))) (dg_n 7 C.nd)
  (dss_cons (ds_lcp (i := 13) (own := [("deed", 14)]) C rfl rfl (sw_true rfl rfl rfl (by decide +kernel)) (dib_of (DE.b (de_ix C.hu (db_v 7) de_int (fun _ _ => rfl)))) (blkOk_by rfl) (by decide) (fun _ _ _ _ _ => (dg_n 14 C.blk.nd)) (fun _ _ _ _ _ => (dts_one (DW.dt (dw_or (dt_cmp (opd_notIn C.blk.hu) cmpD.mono (DE.b (de_ix C.blk.hu (db_v 14) de_int (fun _ _ => rfl))) (DE.b (DF.de (df_lst (da_cons de_str (da_cons de_str da_nil)))))) (dw_or1 (dt_cmp (opd_notIn C.blk.hu) cmpD.mono (DE.b (de_ix C.blk.hu (db_v 14) de_int (fun _ _ => rfl))) (db_v 5))))))) (fun _ _ _ _ _ => (de_v 14)))
  (dss_one (ds_if (dt_cmp (opd_notIn C.hu) cmpD.mono (DE.b (de_ix C.hu (db_v 7) de_int (fun _ _ => rfl))) (db_v 5))
  (dss_one (ds_lmeth 6 mApp.mono PySem.F.slot_list_append PySem.F.type_list_append mt_append hm_app (da_cons (de_op opd_add addD.mono (DE.b (de_slice (db_v 7) do_no (do_so de_int))) (DE.b (de_tup (da_cons (dr_callT back_P cd_tuple tupleD.mono rfl (x.bt.at "tuple") (by decide +kernel) (dab_cons (db_v 13) dab_nil)) da_nil)))) da_nil)))
  dss_nil))))
  (dss_cons (ds_set (i := 8) C rfl (by first | exact .inl rfl | exact .inr rfl) (de_tup (da_cons (de_ix C.hu (db_v 3) de_int (fun _ _ => rfl)) (da_cons (dr_callT back_P cd_tuple tupleD.mono rfl (x.bt.at "tuple") (by decide +kernel) (dab_cons (db_v 6) dab_nil)) (da_cons (de_ix C.hu (db_v 3) de_int (fun _ _ => rfl)) (da_cons (dr_callT back_P cd_tuple tupleD.mono rfl (x.bt.at "tuple") (by decide +kernel) (dab_cons (DE.b (DF.de (df_lc (own := [("name", 10)]) C (dib_of (DE.b (de_ix C.hu (db_v 3) de_int (fun _ _ => rfl)))) (blkOk_by rfl) (by decide) (fun _ _ _ _ _ => (dg_n 10 C.blk.nd)) (fun _ _ _ _ _ => (dts_one (dt_cmp (opd_notIn C.blk.hu) cmpD.mono (db_v 10) (db_v 5)))) (fun _ _ _ _ _ => (de_v 10))))) dab_nil)) da_nil))))))
  (dss_cons (ds_if (DW.dt (dw_or (dt_cmp (opd_ne C.hu) neD.mono (DE.b (de_fn C (ok_without x) ms_without hr6 rfl (da_cons (de_v 3) (da_cons (de_v 5) da_nil)))) (db_v 8)) (dw_or (dt_cmp opd_notB notBD.mono (DE.b (de_fn C (ok_is_page x) ms_is_page hr4 rfl (da_cons (de_v 8) da_nil))) (DE.b de_bl)) (dw_or1 (dt_cmp (opd_ne C.hu) neD.mono (DE.b (de_fn C (ok_without x) ms_without hr6 rfl (da_cons (de_v 3) (da_cons (de_tup da_nil) da_nil)))) (db_v 3))))))
  (dss_one (ds_ret de_bl))
  dss_nil)
  (dss_cons (ds_set (i := 9) C rfl (by first | exact .inl rfl | exact .inr rfl) (de_v 3))
  (dss_cons (ds_for C (passes_of rfl) (di_of (de_rev (db_v 5))) (dg_n 10 C.nd)
  (dss_one (ds_set (i := 9) C rfl (by first | exact .inl rfl | exact .inr rfl) (de_fn C (ok_without x) ms_without hr6 rfl (da_cons (de_v 9) (da_cons (de_tup (da_cons (de_v 10) da_nil)) da_nil))))))
  (dss_cons (ds_if (dt_cmp (opd_ne C.hu) neD.mono (db_v 9) (db_v 8))
  (dss_one (ds_ret de_bl))
  dss_nil)
  (dss_cons (ds_set (i := 11) C rfl (by first | exact .inl rfl | exact .inr rfl) (DF.de (df_lst (da_cons de_non (da_cons (DF.de (dr_callT back_F cd_list listD.mono rfl (x.bt.at "list") (by decide +kernel) (dab_cons (db_v 5) dab_nil))) (da_cons (de_tup (da_cons de_str da_nil)) (da_cons (de_tup (da_cons de_int da_nil)) (da_cons (de_if (dt_cmp opd_gt cmpD.mono (DE.b (dr_callB back_P cd_len lenD.mono rfl (x.bt.at "len") (by decide +kernel) (dab_cons (db_v 4) dab_nil))) (DE.b de_int)) (dr_callT back_P cd_tuple tupleD.mono rfl (x.bt.at "tuple") (by decide +kernel) (dab_cons (DE.b (de_rev (db_v 4))) dab_nil)) de_str) (da_cons (de_tup (da_cons de_non da_nil)) da_nil)))))))))
  (dss_cons (ds_for C (passes_of rfl) (di_of (de_op opd_add addD.mono (db_v 11) (DE.b (de_op opd_rep repD.mono (DE.b (DF.de (df_lst (da_cons (de_op opd_add addD.mono (db_v 5) (db_v 5)) da_nil)))) (DE.b (dr_callT back_P cd_int intDD.mono rfl (x.bt.at "int") (by decide +kernel) (dab_cons (DE.b (de_cmp (opd_ne C.hu) neD.mono (db_v 5) (DE.b (de_tup da_nil)))) dab_nil))))))) (dg_n 12 C.nd)
  (dss_one (ds_if (DW.dt (dw_or (dt_cmp (opd_ne C.hu) neD.mono (DE.b (de_fn C (ok__law_outcome x) ms__law_outcome hr7 rfl (da_cons de_int (da_cons (de_v 3) (da_cons (de_v 12) da_nil))))) (DE.b de_str)) (dw_or1 (dt_cmp (opd_ne C.hu) neD.mono (DE.b (de_fn C (ok__law_outcome x) ms__law_outcome hr7 rfl (da_cons de_int (da_cons (de_v 3) (da_cons (de_v 12) da_nil))))) (DE.b de_str)))))
  (dss_one (ds_ret de_bl))
  dss_nil)))
  (dss_one (ds_if (DW.dt (dw_or (dt_cmp (opd_ne C.hu) neD.mono (DE.b (de_fn C (ok__law_outcome x) ms__law_outcome hr7 rfl (da_cons de_int (da_cons (de_slice (db_v 3) do_no (do_so de_int)) (da_cons de_non da_nil))))) (DE.b de_str)) (dw_or1 (dt_cmp (opd_ne C.hu) neD.mono (DE.b (de_fn C (ok__law_outcome x) ms__law_outcome hr7 rfl (da_cons de_int (da_cons de_non (da_cons de_non da_nil))))) (DE.b de_str)))))
  (dss_one (ds_ret de_bl))
  dss_nil))))))))))))))))))
  (dss_one (ds_ret de_bl)))

end DL.TB

set_option Elab.async false
set_option linter.all false
set_option maxRecDepth 100000
set_option maxHeartbeats 0
/-! the head -/
namespace DL.TB
open PySem PySem.Spec PyProof.Rows L2
def d_is_name : He.DefD := ⟨("is_name", none), "is_name", "is_name", defArgs (top 10), defBody (top 10), defScope (top 10), [], []⟩
def d_is_one_of : He.DefD := ⟨("is_one_of", none), "is_one_of", "is_one_of", defArgs (top 11), defBody (top 11), defScope (top 11), [], []⟩
def d_is_rising : He.DefD := ⟨("is_rising", none), "is_rising", "is_rising", defArgs (top 12), defBody (top 12), defScope (top 12), [], []⟩
def d_is_box : He.DefD := ⟨("is_box", none), "is_box", "is_box", defArgs (top 13), defBody (top 13), defScope (top 13), [], []⟩
def d_is_boxes : He.DefD := ⟨("is_boxes", none), "is_boxes", "is_boxes", defArgs (top 14), defBody (top 14), defScope (top 14), [], []⟩
def d_is_tree : He.DefD := ⟨("is_tree", none), "is_tree", "is_tree", defArgs (top 15), defBody (top 15), defScope (top 15), [], []⟩
def d_has_right_houses : He.DefD := ⟨("has_right_houses", none), "has_right_houses", "has_right_houses", defArgs (top 16), defBody (top 16), defScope (top 16), [], []⟩
def d_unders_of : He.DefD := ⟨("unders_of", none), "unders_of", "unders_of", defArgs (top 17), defBody (top 17), defScope (top 17), [], []⟩
def d_roles_of : He.DefD := ⟨("roles_of", none), "roles_of", "roles_of", defArgs (top 18), defBody (top 18), defScope (top 18), [], []⟩
def d_door_above : He.DefD := ⟨("door_above", none), "door_above", "door_above", defArgs (top 19), defBody (top 19), defScope (top 19), [], []⟩
def d_is_sort : He.DefD := ⟨("is_sort", none), "is_sort", "is_sort", defArgs (top 24), defBody (top 24), defScope (top 24), [], []⟩
def d_is_deed : He.DefD := ⟨("is_deed", none), "is_deed", "is_deed", defArgs (top 29), defBody (top 29), defScope (top 29), [], []⟩
def d_is_listener : He.DefD := ⟨("is_listener", none), "is_listener", "is_listener", defArgs (top 30), defBody (top 30), defScope (top 30), [], []⟩
def d_is_on : He.DefD := ⟨("is_on", none), "is_on", "is_on", defArgs (top 31), defBody (top 31), defScope (top 31), [], []⟩
def d_names_in : He.DefD := ⟨("names_in", none), "names_in", "names_in", defArgs (top 32), defBody (top 32), defScope (top 32), [], []⟩
def d_is_page : He.DefD := ⟨("is_page", none), "is_page", "is_page", defArgs (top 33), defBody (top 33), defScope (top 33), [], []⟩
def d_listener_names : He.DefD := ⟨("listener_names", none), "listener_names", "listener_names", defArgs (top 34), defBody (top 34), defScope (top 34), [], []⟩
def d_require_page : He.DefD := ⟨("require_page", none), "require_page", "require_page", defArgs (top 37), defBody (top 37), defScope (top 37), [], []⟩
def d_require_names : He.DefD := ⟨("require_names", none), "require_names", "require_names", defArgs (top 56), defBody (top 56), defScope (top 56), [], []⟩
def d_page_without : He.DefD := ⟨("page_without", none), "page_without", "page_without", defArgs (top 57), defBody (top 57), defScope (top 57), [], []⟩
def d_without : He.DefD := ⟨("without", none), "without", "without", defArgs (top 59), defBody (top 59), defScope (top 59), [], []⟩
def d_least : He.DefD := ⟨("least", none), "least", "least", defArgs (top 60), defBody (top 60), defScope (top 60), [], []⟩
def d__law_source : He.DefD := ⟨("_law_source", none), "_law_source", "_law_source", defArgs (top 62), defBody (top 62), defScope (top 62), [], []⟩
def d__law_pick : He.DefD := ⟨("_law_pick", none), "_law_pick", "_law_pick", defArgs (top 63), defBody (top 63), defScope (top 63), [], []⟩
def d__law_chosen : He.DefD := ⟨("_law_chosen", none), "_law_chosen", "_law_chosen", defArgs (top 64), defBody (top 64), defScope (top 64), [], []⟩
def d__law_mixed : He.DefD := ⟨("_law_mixed", none), "_law_mixed", "_law_mixed", defArgs (top 65), defBody (top 65), defScope (top 65), [], []⟩
def d__law_drawn_boxes : He.DefD := ⟨("_law_drawn_boxes", none), "_law_drawn_boxes", "_law_drawn_boxes", defArgs (top 66), defBody (top 66), defScope (top 66), [], []⟩
def d__law_drawn_sorts : He.DefD := ⟨("_law_drawn_sorts", none), "_law_drawn_sorts", "_law_drawn_sorts", defArgs (top 67), defBody (top 67), defScope (top 67), [], []⟩
def d__law_drawn_deed : He.DefD := ⟨("_law_drawn_deed", none), "_law_drawn_deed", "_law_drawn_deed", defArgs (top 68), defBody (top 68), defScope (top 68), [], []⟩
def d__law_drawn_listeners : He.DefD := ⟨("_law_drawn_listeners", none), "_law_drawn_listeners", "_law_drawn_listeners", defArgs (top 69), defBody (top 69), defScope (top 69), [], []⟩
def d__law_drawn_on : He.DefD := ⟨("_law_drawn_on", none), "_law_drawn_on", "_law_drawn_on", defArgs (top 70), defBody (top 70), defScope (top 70), [], []⟩
def d__law_drawn_page : He.DefD := ⟨("_law_drawn_page", none), "_law_drawn_page", "_law_drawn_page", defArgs (top 71), defBody (top 71), defScope (top 71), [], []⟩
def d__law_outcome : He.DefD := ⟨("_law_outcome", none), "_law_outcome", "_law_outcome", defArgs (top 72), defBody (top 72), defScope (top 72), [], []⟩
def d_law : He.DefD := ⟨("law", none), "law", "law", defArgs (top 73), defBody (top 73), defScope (top 73), [], []⟩
def fnL : List He.DefD := [d_is_name, d_is_one_of, d_is_rising, d_is_box, d_is_boxes, d_is_tree, d_has_right_houses, d_unders_of, d_roles_of, d_door_above, d_is_sort, d_is_deed, d_is_listener, d_is_on, d_names_in, d_is_page, d_listener_names, d_require_page, d_require_names, d_page_without, d_without, d_least, d__law_source, d__law_pick, d__law_chosen, d__law_mixed, d__law_drawn_boxes, d__law_drawn_sorts, d__law_drawn_deed, d__law_drawn_listeners, d__law_drawn_on, d__law_drawn_page, d__law_outcome, d_law]
def faL : List He.Fa := [.glo "is_name", .glo "is_one_of", .glo "is_rising", .glo "is_box", .glo "is_boxes", .glo "is_tree", .glo "has_right_houses", .glo "unders_of", .glo "roles_of", .glo "door_above", .glo "is_sort", .glo "is_deed", .glo "is_listener", .glo "is_on", .glo "names_in", .glo "is_page", .glo "listener_names", .glo "require_page", .glo "require_names", .glo "page_without", .glo "without", .glo "least", .glo "_law_source", .glo "_law_pick", .glo "_law_chosen", .glo "_law_mixed", .glo "_law_drawn_boxes", .glo "_law_drawn_sorts", .glo "_law_drawn_deed", .glo "_law_drawn_listeners", .glo "_law_drawn_on", .glo "_law_drawn_page", .glo "_law_outcome", .glo "law", .free "ValueError", .free "all", .free "bool", .free "dict", .free "int", .free "isinstance", .free "len", .free "list", .free "max", .free "min", .free "range", .free "sorted", .free "str", .free "tuple", .free "zip", .glo "ROLES", .int "MOST_BOXES" 8, .int "MOST_SORTS" 3, .int "MOST_LISTENERS" 12, .int "MOST_DEEDS" 3, .glo "BoxError", .exc "BoxError", .glo "InvalidPage", .exc "InvalidPage", .glo "InvalidNames", .exc "InvalidNames", .glo "TooDeep", .exc "TooDeep", .glo "TooMany", .exc "TooMany", .exm "BoxError" "InvalidNames" false, .exm "InvalidPage" "InvalidNames" false, .exm "InvalidNames" "InvalidNames" true, .exm "TooDeep" "InvalidNames" false, .exm "TooMany" "InvalidNames" false, .exm "Endless" "InvalidNames" false, .exm "BoxError" "InvalidPage" false, .exm "InvalidPage" "InvalidPage" true, .exm "InvalidNames" "InvalidPage" false, .exm "TooDeep" "InvalidPage" false, .exm "TooMany" "InvalidPage" false, .exm "Endless" "InvalidPage" false]
def exL (K : PySem.W.Frag) : List Bool := [He.tupB K "ROLES" [.str "plain", .str "door", .str "slot"]]
def exB (K : PySem.W.Frag) : Bool := (exL K).all id
theorem exj {K : PySem.W.Frag} (h : exB K = true) (j : Nat) {b : Bool} (e : (exL K)[j]? = some b) : b = true := List.all_eq_true.mp h b (List.mem_of_getElem? e)
abbrev R : PySem.W.OpenRow := PySem.W.OpenLaw.row PySem.Challenge.rw_throughboxes_k51_pages_without_listeners
abbrev hk : PySem.W.Hook := He.hookX 4 faL fnL [] [] exB
def ob (s : PySem.W.SharedT) : He.AlX := He.obsX 4 faL fnL [] [] exB (HandSHeadRun.getT s)
theorem ob_eq (s : PySem.W.SharedT) : ob s = hk.obs s.abs := He.obsX_eq (HandSHeadRun.getT_eq s)
theorem run (w : World) : HandSHeadRun.RunEq R (PySem.W.view R.prog [73]) hk ob 12000 [("BoxError" : PySem.Str), ("InvalidPage" : PySem.Str), ("InvalidNames" : PySem.Str), ("TooDeep" : PySem.Str), ("TooMany" : PySem.Str), ("Endless" : PySem.Str), ("ROLES" : PySem.Str), ("MOST_BOXES" : PySem.Str), ("is_name" : PySem.Str), ("is_one_of" : PySem.Str), ("is_rising" : PySem.Str), ("is_box" : PySem.Str), ("is_boxes" : PySem.Str), ("is_tree" : PySem.Str), ("has_right_houses" : PySem.Str), ("unders_of" : PySem.Str), ("roles_of" : PySem.Str), ("door_above" : PySem.Str), ("slot_of_host" : PySem.Str), ("next_of" : PySem.Str), ("route_of" : PySem.Str), ("seen_of" : PySem.Str), ("is_sort" : PySem.Str), ("MOST_SORTS" : PySem.Str), ("MOST_LISTENERS" : PySem.Str), ("MOST_DEEDS" : PySem.Str), ("is_deed" : PySem.Str), ("is_listener" : PySem.Str), ("is_on" : PySem.Str), ("names_in" : PySem.Str), ("is_page" : PySem.Str), ("listener_names" : PySem.Str), ("own_state" : PySem.Str), ("events_of" : PySem.Str), ("require_page" : PySem.Str), ("MOST_UNDER_WAY" : PySem.Str), ("moved" : PySem.Str), ("Summary" : PySem.Str), ("Switches" : PySem.Str), ("Walk" : PySem.Str), ("Course" : PySem.Str), ("listed" : PySem.Str), ("MOST_STATES" : PySem.Str), ("ways_by" : PySem.Str), ("MOST_CALLS" : PySem.Str), ("require_few" : PySem.Str), ("told" : PySem.Str), ("compared" : PySem.Str), ("MOST_OTHERS" : PySem.Str), ("require_names" : PySem.Str), ("page_without" : PySem.Str), ("lots_of" : PySem.Str), ("without" : PySem.Str), ("least" : PySem.Str), ("_law_source" : PySem.Str), ("_law_pick" : PySem.Str), ("_law_chosen" : PySem.Str), ("_law_mixed" : PySem.Str), ("_law_drawn_boxes" : PySem.Str), ("_law_drawn_sorts" : PySem.Str), ("_law_drawn_deed" : PySem.Str), ("_law_drawn_listeners" : PySem.Str), ("_law_drawn_on" : PySem.Str), ("_law_drawn_page" : PySem.Str), ("_law_outcome" : PySem.Str)] w := by
  intro os
  kernel_rfl
theorem ktp_of {K : PySem.W.Frag} {a : Addr} {vs : List V} (h : SqT K (fun _ => none) a vs) : KTp K a vs := by
  rcases h with h | h
  · rcases h with h | ⟨_, h⟩ <;> cases h
  · exact h
theorem tx {K : PySem.W.Frag} {h : Heap} {mg : Str → Option Value} (X : K.In h) (G : h.Ns mainGlobals mg) (c : He.SaysD faL fnL K) (hex : exB K = true) : Tx K mg where
    bt := by
      intro x hx
      rcases List.mem_cons.mp hx with rfl | hx
      · exact He.free_ok X G (c.fact 34 (f := .free "ValueError") rfl)
      rcases List.mem_cons.mp hx with rfl | hx
      · exact He.free_ok X G (c.fact 35 (f := .free "all") rfl)
      rcases List.mem_cons.mp hx with rfl | hx
      · exact He.free_ok X G (c.fact 36 (f := .free "bool") rfl)
      rcases List.mem_cons.mp hx with rfl | hx
      · exact He.free_ok X G (c.fact 37 (f := .free "dict") rfl)
      rcases List.mem_cons.mp hx with rfl | hx
      · exact He.free_ok X G (c.fact 38 (f := .free "int") rfl)
      rcases List.mem_cons.mp hx with rfl | hx
      · exact He.free_ok X G (c.fact 39 (f := .free "isinstance") rfl)
      rcases List.mem_cons.mp hx with rfl | hx
      · exact He.free_ok X G (c.fact 40 (f := .free "len") rfl)
      rcases List.mem_cons.mp hx with rfl | hx
      · exact He.free_ok X G (c.fact 41 (f := .free "list") rfl)
      rcases List.mem_cons.mp hx with rfl | hx
      · exact He.free_ok X G (c.fact 42 (f := .free "max") rfl)
      rcases List.mem_cons.mp hx with rfl | hx
      · exact He.free_ok X G (c.fact 43 (f := .free "min") rfl)
      rcases List.mem_cons.mp hx with rfl | hx
      · exact He.free_ok X G (c.fact 44 (f := .free "range") rfl)
      rcases List.mem_cons.mp hx with rfl | hx
      · exact He.free_ok X G (c.fact 45 (f := .free "sorted") rfl)
      rcases List.mem_cons.mp hx with rfl | hx
      · exact He.free_ok X G (c.fact 46 (f := .free "str") rfl)
      rcases List.mem_cons.mp hx with rfl | hx
      · exact He.free_ok X G (c.fact 47 (f := .free "tuple") rfl)
      rcases List.mem_cons.mp hx with rfl | hx
      · exact He.free_ok X G (c.fact 48 (f := .free "zip") rfl)
      · cases hx
    h_is_name := by
      obtain ⟨fd, F⟩ := c.def_ 0 (d := d_is_name) rfl
      exact ⟨⟨_, fd, F, He.glo_ok X G (c.fact 0 (f := .glo "is_name") rfl)⟩⟩
    h_is_one_of := by
      obtain ⟨fd, F⟩ := c.def_ 1 (d := d_is_one_of) rfl
      exact ⟨⟨_, fd, F, He.glo_ok X G (c.fact 1 (f := .glo "is_one_of") rfl)⟩⟩
    h_is_rising := by
      obtain ⟨fd, F⟩ := c.def_ 2 (d := d_is_rising) rfl
      exact ⟨⟨_, fd, F, He.glo_ok X G (c.fact 2 (f := .glo "is_rising") rfl)⟩⟩
    h_is_box := by
      obtain ⟨fd, F⟩ := c.def_ 3 (d := d_is_box) rfl
      exact ⟨⟨_, fd, F, He.glo_ok X G (c.fact 3 (f := .glo "is_box") rfl)⟩⟩
    h_is_boxes := by
      obtain ⟨fd, F⟩ := c.def_ 4 (d := d_is_boxes) rfl
      exact ⟨⟨_, fd, F, He.glo_ok X G (c.fact 4 (f := .glo "is_boxes") rfl)⟩⟩
    h_is_tree := by
      obtain ⟨fd, F⟩ := c.def_ 5 (d := d_is_tree) rfl
      exact ⟨⟨_, fd, F, He.glo_ok X G (c.fact 5 (f := .glo "is_tree") rfl)⟩⟩
    h_has_right_houses := by
      obtain ⟨fd, F⟩ := c.def_ 6 (d := d_has_right_houses) rfl
      exact ⟨⟨_, fd, F, He.glo_ok X G (c.fact 6 (f := .glo "has_right_houses") rfl)⟩⟩
    h_unders_of := by
      obtain ⟨fd, F⟩ := c.def_ 7 (d := d_unders_of) rfl
      exact ⟨⟨_, fd, F, He.glo_ok X G (c.fact 7 (f := .glo "unders_of") rfl)⟩⟩
    h_roles_of := by
      obtain ⟨fd, F⟩ := c.def_ 8 (d := d_roles_of) rfl
      exact ⟨⟨_, fd, F, He.glo_ok X G (c.fact 8 (f := .glo "roles_of") rfl)⟩⟩
    h_door_above := by
      obtain ⟨fd, F⟩ := c.def_ 9 (d := d_door_above) rfl
      exact ⟨⟨_, fd, F, He.glo_ok X G (c.fact 9 (f := .glo "door_above") rfl)⟩⟩
    h_is_sort := by
      obtain ⟨fd, F⟩ := c.def_ 10 (d := d_is_sort) rfl
      exact ⟨⟨_, fd, F, He.glo_ok X G (c.fact 10 (f := .glo "is_sort") rfl)⟩⟩
    h_is_deed := by
      obtain ⟨fd, F⟩ := c.def_ 11 (d := d_is_deed) rfl
      exact ⟨⟨_, fd, F, He.glo_ok X G (c.fact 11 (f := .glo "is_deed") rfl)⟩⟩
    h_is_listener := by
      obtain ⟨fd, F⟩ := c.def_ 12 (d := d_is_listener) rfl
      exact ⟨⟨_, fd, F, He.glo_ok X G (c.fact 12 (f := .glo "is_listener") rfl)⟩⟩
    h_is_on := by
      obtain ⟨fd, F⟩ := c.def_ 13 (d := d_is_on) rfl
      exact ⟨⟨_, fd, F, He.glo_ok X G (c.fact 13 (f := .glo "is_on") rfl)⟩⟩
    h_names_in := by
      obtain ⟨fd, F⟩ := c.def_ 14 (d := d_names_in) rfl
      exact ⟨⟨_, fd, F, He.glo_ok X G (c.fact 14 (f := .glo "names_in") rfl)⟩⟩
    h_is_page := by
      obtain ⟨fd, F⟩ := c.def_ 15 (d := d_is_page) rfl
      exact ⟨⟨_, fd, F, He.glo_ok X G (c.fact 15 (f := .glo "is_page") rfl)⟩⟩
    h_listener_names := by
      obtain ⟨fd, F⟩ := c.def_ 16 (d := d_listener_names) rfl
      exact ⟨⟨_, fd, F, He.glo_ok X G (c.fact 16 (f := .glo "listener_names") rfl)⟩⟩
    h_require_page := by
      obtain ⟨fd, F⟩ := c.def_ 17 (d := d_require_page) rfl
      exact ⟨⟨_, fd, F, He.glo_ok X G (c.fact 17 (f := .glo "require_page") rfl)⟩⟩
    h_require_names := by
      obtain ⟨fd, F⟩ := c.def_ 18 (d := d_require_names) rfl
      exact ⟨⟨_, fd, F, He.glo_ok X G (c.fact 18 (f := .glo "require_names") rfl)⟩⟩
    h_page_without := by
      obtain ⟨fd, F⟩ := c.def_ 19 (d := d_page_without) rfl
      exact ⟨⟨_, fd, F, He.glo_ok X G (c.fact 19 (f := .glo "page_without") rfl)⟩⟩
    h_without := by
      obtain ⟨fd, F⟩ := c.def_ 20 (d := d_without) rfl
      exact ⟨⟨_, fd, F, He.glo_ok X G (c.fact 20 (f := .glo "without") rfl)⟩⟩
    h_least := by
      obtain ⟨fd, F⟩ := c.def_ 21 (d := d_least) rfl
      exact ⟨⟨_, fd, F, He.glo_ok X G (c.fact 21 (f := .glo "least") rfl)⟩⟩
    h__law_source := by
      obtain ⟨fd, F⟩ := c.def_ 22 (d := d__law_source) rfl
      exact ⟨⟨_, fd, F, He.glo_ok X G (c.fact 22 (f := .glo "_law_source") rfl)⟩⟩
    h__law_pick := by
      obtain ⟨fd, F⟩ := c.def_ 23 (d := d__law_pick) rfl
      exact ⟨⟨_, fd, F, He.glo_ok X G (c.fact 23 (f := .glo "_law_pick") rfl)⟩⟩
    h__law_chosen := by
      obtain ⟨fd, F⟩ := c.def_ 24 (d := d__law_chosen) rfl
      exact ⟨⟨_, fd, F, He.glo_ok X G (c.fact 24 (f := .glo "_law_chosen") rfl)⟩⟩
    h__law_mixed := by
      obtain ⟨fd, F⟩ := c.def_ 25 (d := d__law_mixed) rfl
      exact ⟨⟨_, fd, F, He.glo_ok X G (c.fact 25 (f := .glo "_law_mixed") rfl)⟩⟩
    h__law_drawn_boxes := by
      obtain ⟨fd, F⟩ := c.def_ 26 (d := d__law_drawn_boxes) rfl
      exact ⟨⟨_, fd, F, He.glo_ok X G (c.fact 26 (f := .glo "_law_drawn_boxes") rfl)⟩⟩
    h__law_drawn_sorts := by
      obtain ⟨fd, F⟩ := c.def_ 27 (d := d__law_drawn_sorts) rfl
      exact ⟨⟨_, fd, F, He.glo_ok X G (c.fact 27 (f := .glo "_law_drawn_sorts") rfl)⟩⟩
    h__law_drawn_deed := by
      obtain ⟨fd, F⟩ := c.def_ 28 (d := d__law_drawn_deed) rfl
      exact ⟨⟨_, fd, F, He.glo_ok X G (c.fact 28 (f := .glo "_law_drawn_deed") rfl)⟩⟩
    h__law_drawn_listeners := by
      obtain ⟨fd, F⟩ := c.def_ 29 (d := d__law_drawn_listeners) rfl
      exact ⟨⟨_, fd, F, He.glo_ok X G (c.fact 29 (f := .glo "_law_drawn_listeners") rfl)⟩⟩
    h__law_drawn_on := by
      obtain ⟨fd, F⟩ := c.def_ 30 (d := d__law_drawn_on) rfl
      exact ⟨⟨_, fd, F, He.glo_ok X G (c.fact 30 (f := .glo "_law_drawn_on") rfl)⟩⟩
    h__law_drawn_page := by
      obtain ⟨fd, F⟩ := c.def_ 31 (d := d__law_drawn_page) rfl
      exact ⟨⟨_, fd, F, He.glo_ok X G (c.fact 31 (f := .glo "_law_drawn_page") rfl)⟩⟩
    h__law_outcome := by
      obtain ⟨fd, F⟩ := c.def_ 32 (d := d__law_outcome) rfl
      exact ⟨⟨_, fd, F, He.glo_ok X G (c.fact 32 (f := .glo "_law_outcome") rfl)⟩⟩
    h_law := by
      obtain ⟨fd, F⟩ := c.def_ 33 (d := d_law) rfl
      exact ⟨⟨_, fd, F, He.glo_ok X G (c.fact 33 (f := .glo "law") rfl)⟩⟩
    x_BoxError := by
      obtain ⟨h1, h2, h3, h4⟩ := He.exc_ok (c.fact 55 (f := .exc "BoxError") rfl)
      exact ⟨He.glo_ok X G (c.fact 54 (f := .glo "BoxError") rfl), h1, h2, h3, h4⟩
    x_InvalidPage := by
      obtain ⟨h1, h2, h3, h4⟩ := He.exc_ok (c.fact 57 (f := .exc "InvalidPage") rfl)
      exact ⟨He.glo_ok X G (c.fact 56 (f := .glo "InvalidPage") rfl), h1, h2, h3, h4⟩
    x_InvalidNames := by
      obtain ⟨h1, h2, h3, h4⟩ := He.exc_ok (c.fact 59 (f := .exc "InvalidNames") rfl)
      exact ⟨He.glo_ok X G (c.fact 58 (f := .glo "InvalidNames") rfl), h1, h2, h3, h4⟩
    x_TooDeep := by
      obtain ⟨h1, h2, h3, h4⟩ := He.exc_ok (c.fact 61 (f := .exc "TooDeep") rfl)
      exact ⟨He.glo_ok X G (c.fact 60 (f := .glo "TooDeep") rfl), h1, h2, h3, h4⟩
    x_TooMany := by
      obtain ⟨h1, h2, h3, h4⟩ := He.exc_ok (c.fact 63 (f := .exc "TooMany") rfl)
      exact ⟨He.glo_ok X G (c.fact 62 (f := .glo "TooMany") rfl), h1, h2, h3, h4⟩
    em := by
      intro cc hc a ha
      simp only [clsH, clsL, List.mem_cons, List.not_mem_nil, or_false] at hc ha
      rcases hc with rfl | rfl <;> rcases ha with rfl | rfl | rfl | rfl | rfl | rfl
      · exact (He.exm_ok (c.fact 64 (f := .exm "BoxError" "InvalidNames" false) rfl)).trans (by decide +kernel)
      · exact (He.exm_ok (c.fact 65 (f := .exm "InvalidPage" "InvalidNames" false) rfl)).trans (by decide +kernel)
      · exact (He.exm_ok (c.fact 66 (f := .exm "InvalidNames" "InvalidNames" true) rfl)).trans (by decide +kernel)
      · exact (He.exm_ok (c.fact 67 (f := .exm "TooDeep" "InvalidNames" false) rfl)).trans (by decide +kernel)
      · exact (He.exm_ok (c.fact 68 (f := .exm "TooMany" "InvalidNames" false) rfl)).trans (by decide +kernel)
      · exact (He.exm_ok (c.fact 69 (f := .exm "Endless" "InvalidNames" false) rfl)).trans (by decide +kernel)
      · exact (He.exm_ok (c.fact 70 (f := .exm "BoxError" "InvalidPage" false) rfl)).trans (by decide +kernel)
      · exact (He.exm_ok (c.fact 71 (f := .exm "InvalidPage" "InvalidPage" true) rfl)).trans (by decide +kernel)
      · exact (He.exm_ok (c.fact 72 (f := .exm "InvalidNames" "InvalidPage" false) rfl)).trans (by decide +kernel)
      · exact (He.exm_ok (c.fact 73 (f := .exm "TooDeep" "InvalidPage" false) rfl)).trans (by decide +kernel)
      · exact (He.exm_ok (c.fact 74 (f := .exm "TooMany" "InvalidPage" false) rfl)).trans (by decide +kernel)
      · exact (He.exm_ok (c.fact 75 (f := .exm "Endless" "InvalidPage" false) rfl)).trans (by decide +kernel)
    c_ROLES := ⟨⟨_, _, He.glo_ok X G (c.fact 49 (f := .glo "ROLES") rfl), (show RelV (.ref (He.ga K "ROLES")) (.ref (He.ga K "ROLES")) from rfl), fun B => .tup (vs := [V.str "plain", V.str "door", V.str "slot"]) (.inr (ktp_of (He.tupB_ok (vs := [.str "plain", .str "door", .str "slot"]) (exj hex 0 rfl) fun _ => none))) (show 3 ≤ sizeLine by decide) (.cons (.str _) (.cons (.str _) (.cons (.str _) .nil)))⟩⟩
    c_MOST_BOXES := by
      obtain ⟨t, ht⟩ := He.int_ok X G (c.fact 50 (f := .int "MOST_BOXES" 8) rfl)
      exact ⟨⟨V.int 8, _, ht, ⟨t, rfl⟩, fun B => .int _⟩⟩
    c_MOST_SORTS := by
      obtain ⟨t, ht⟩ := He.int_ok X G (c.fact 51 (f := .int "MOST_SORTS" 3) rfl)
      exact ⟨⟨V.int 3, _, ht, ⟨t, rfl⟩, fun B => .int _⟩⟩
    c_MOST_LISTENERS := by
      obtain ⟨t, ht⟩ := He.int_ok X G (c.fact 52 (f := .int "MOST_LISTENERS" 12) rfl)
      exact ⟨⟨V.int 12, _, ht, ⟨t, rfl⟩, fun B => .int _⟩⟩
    c_MOST_DEEDS := by
      obtain ⟨t, ht⟩ := He.int_ok X G (c.fact 53 (f := .int "MOST_DEEDS" 3) rfl)
      exact ⟨⟨V.int 3, _, ht, ⟨t, rfl⟩, fun B => .int _⟩⟩
theorem walk_CX {l : PySem.W.OpenLaw} {n k : Nat} {q : Program} {loose : List Str} {XP : (Str → Option Value) → Heap → Prop} {YP : World → Heap → Prop} {d : DefRec} {x : Str} (hn : l.most = some n) (hn2 : n ≤ sizeLine) (hdf : d.params.defaults = []) (hr : Room k callerA)
    (F : ∀ (w : World) (mg : Str → Option Value) (fa : Addr) (h : Heap), YP w h → h.Ns mainGlobals mg → mg d.name = some (.ref fa) → ∃ (K : PySem.W.Frag) (fd : FuncData) (sp : Sp), K.In h ∧ (∀ (s : Shared) (u : Value), BindsTo s fd ⟨[u], []⟩ [(x, u)]) ∧
        (∀ (H : Hp) (a : Addr) (ns : List Int), ns.length ≤ n → Only H → SqL K H a (ns.map V.int) → sp [.ref a] H (fun v _ => v = .bl true) fun _ _ _ => False) ∧ ∀ base : Heap, K.In base → base.Ns mainGlobals mg → FnOk l.prog w K mg base (L2N.CX l.prog w) k fa fd [x] sp) :
    PySem.W.WalkO q loose XP YP l.row.toRowW d [] (fun f vs => PySem.call f vs) :=
  Att.attach_call hn hdf fun w _ s₁ mg _ fa _ _ _ _ a _ ns G Y _ _ _ hmg hobj hints hlen hg => match F w mg fa _ Y G.T.g hmg with
    | ⟨_, _, _, KX, hb, hsp, hF⟩ => law_call KX G.T.g G.T.b G.T.builtins G.T.nolimit hg hobj hints (Nat.le_trans hlen hn2) hr hF hb (fun H hO hS => hsp H a ns hlen hO hS) fun _ _ _ ⟨_, _, _, _, _, _, _, _, _, _, _, _, z⟩ => z
theorem law_sp {K : PySem.W.Frag} (H : Hp) (a : Addr) (ns : List Int) (hl : ns.length ≤ 63) (hO : Only H) (hS : SqL K H a (ns.map V.int)) : spD K sp_law [.ref a] H (fun v _ => v = .bl true) fun _ _ _ => False := by
  have fin : ∀ B : Hp, Sub B H → KLs K B a ns → spD K sp_law [.ref a] H (fun v _ => v = .bl true) fun _ _ _ => False := fun B hs hk =>
    ⟨[], B, [scrD a ns], ⟨hs, fun _ h => nomatch h⟩, .cons (.scr hk) .nil, a, ns, rfl, hl, fun v B' H' _ r => by cases r; rfl⟩
  rcases hS with (h | ⟨o, h⟩) | h
  · rcases hO a with z | ⟨o, xs, z⟩
    · rw [z] at h; cases h
    · rw [z] at h; cases h
  · refine fin (upd (fun _ => none) a (.frz o (.lst (ns.map V.int)))) (fun b u q => ?_) (.inl ⟨o, upd_same⟩)
    by_cases e : b = a
    · subst e; rw [upd_same] at q; cases q; exact .inl h
    · rw [upd_ne e] at q; cases q
  · exact fin (fun _ => none) (fun b u q => nomatch q) (.inr h)
end DL.TB
open PySem PySem.W PySem.Calls PyProof.Rows
theorem PySem.Challenge.cw_throughboxes_k51_pages_without_listeners_holds : PySem.Challenge.rw_throughboxes_k51_pages_without_listeners.Holds := by
  w_on; o_law
  refine HandSHeadRun.head_any (r := OpenLaw.row PySem.Challenge.rw_throughboxes_k51_pages_without_listeners) (q := view (OpenLaw.row PySem.Challenge.rw_throughboxes_k51_pages_without_listeners).prog [73]) (H := DL.TB.hk) (ob := DL.TB.ob) (M := 12000) (loose := [("BoxError" : PySem.Str), ("InvalidPage" : PySem.Str), ("InvalidNames" : PySem.Str), ("TooDeep" : PySem.Str), ("TooMany" : PySem.Str), ("Endless" : PySem.Str), ("ROLES" : PySem.Str), ("MOST_BOXES" : PySem.Str), ("is_name" : PySem.Str), ("is_one_of" : PySem.Str), ("is_rising" : PySem.Str), ("is_box" : PySem.Str), ("is_boxes" : PySem.Str), ("is_tree" : PySem.Str), ("has_right_houses" : PySem.Str), ("unders_of" : PySem.Str), ("roles_of" : PySem.Str), ("door_above" : PySem.Str), ("slot_of_host" : PySem.Str), ("next_of" : PySem.Str), ("route_of" : PySem.Str), ("seen_of" : PySem.Str), ("is_sort" : PySem.Str), ("MOST_SORTS" : PySem.Str), ("MOST_LISTENERS" : PySem.Str), ("MOST_DEEDS" : PySem.Str), ("is_deed" : PySem.Str), ("is_listener" : PySem.Str), ("is_on" : PySem.Str), ("names_in" : PySem.Str), ("is_page" : PySem.Str), ("listener_names" : PySem.Str), ("own_state" : PySem.Str), ("events_of" : PySem.Str), ("require_page" : PySem.Str), ("MOST_UNDER_WAY" : PySem.Str), ("moved" : PySem.Str), ("Summary" : PySem.Str), ("Switches" : PySem.Str), ("Walk" : PySem.Str), ("Course" : PySem.Str), ("listed" : PySem.Str), ("MOST_STATES" : PySem.Str), ("ways_by" : PySem.Str), ("MOST_CALLS" : PySem.Str), ("require_few" : PySem.Str), ("told" : PySem.Str), ("compared" : PySem.Str), ("MOST_OTHERS" : PySem.Str), ("require_names" : PySem.Str), ("page_without" : PySem.Str), ("lots_of" : PySem.Str), ("without" : PySem.Str), ("least" : PySem.Str), ("_law_source" : PySem.Str), ("_law_pick" : PySem.Str), ("_law_chosen" : PySem.Str), ("_law_mixed" : PySem.Str), ("_law_drawn_boxes" : PySem.Str), ("_law_drawn_sorts" : PySem.Str), ("_law_drawn_deed" : PySem.Str), ("_law_drawn_listeners" : PySem.Str), ("_law_drawn_on" : PySem.Str), ("_law_drawn_page" : PySem.Str), ("_law_outcome" : PySem.Str)]) (d := HandSHeadRun.topDef (OpenLaw.row PySem.Challenge.rw_throughboxes_k51_pages_without_listeners).prog 73) (kwd := []) DL.TB.ob_eq
    (by kernel_rfl) (fun s => by kernel_rfl) DL.TB.run (by kernel_rfl) (by kernel_rfl) (by kernel_rfl) (by rfl) (by first | assumption | decide +kernel) (by decide +kernel) ⟨rfl, rfl, rfl, rfl, rfl, by decide +kernel⟩ ?hw ?hc
  case hw => w_witness2
  case hc =>
    refine DL.TB.walk_CX (l := PySem.Challenge.rw_throughboxes_k51_pages_without_listeners) (n := 63) (k := 8) (x := "script") rfl (by decide) (by kernel_rfl) ⟨rfl, by decide, by decide⟩ ?F
    intro w mg fa h Y G hmg0
    obtain ⟨K, KX, c⟩ := Y
    have hmg : mg ("law" : PySem.Str) = some (.ref fa) := by
      have e : (HandSHeadRun.topDef (OpenLaw.row PySem.Challenge.rw_throughboxes_k51_pages_without_listeners).prog 73).name = ("law" : PySem.Str) := by kernel_rfl
      rw [← e]
      exact hmg0
    have T := DL.TB.tx KX G c.t.d c.more
    obtain ⟨f, fd, F, hf⟩ := T.h_law.ex
    have e := hmg.symm.trans hf
    cases e
    have b := L2.FunD.bindsA (ps := ["script"]) F fun _ _ _ _ _ _ us hl => match us, hl with | [_], _ => rfl
    exact ⟨K, fd, DL.spD K DL.TB.sp_law, KX, fun s v => b s [v] rfl, fun H a ns hl hO hS => DL.TB.law_sp H a ns hl hO hS, fun base _ _ => DL.TB.law_fn T F⟩
