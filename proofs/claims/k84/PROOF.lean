import PyProof.Rows.All
import Wide.All
import OpenK.AllK
import Wide.FinOn
import HandS.ForMost
import HandS.Defaults
import HandS.Walk
import HandS.Wide
import HandS.WideBits
import HandS.TupAny
import HandS.NoneIn
import HandS.IsInst
import HandS.TryOnly
import HandS.Flow
import HandS.TupMul
import HandS.Style
import HandS.RaiseMore
import KE.GoesMore
import KE.GoesEnum
import KE.GoesEnumKw
import KE.GoesZip
import HandS.Iter
import HandS.Zip
import HandS.Rev
import HandS.Words
import HandS.MakeKwOnly
import HandS.SlotsOwn
import HandS.FStr
import HandS.Text
import HandS.Conv
import KE.KRevSl
import PyProof.ReprRoads
import PyProof.WalksMore
import HandS.WideMore
import HandS.Codes
import HandS.HeadHook4
import HandS.MakeKw
import HandS.Ends
import HandS.HeadEnd
import HandS.IntHex
import HandS.SortRule
import HandS.SortInts
import KE.KStateDown
import Lean
import HandS.Base
import HandS.Call
import HandS.More
import HandS.WordsExc
import HandS.Head0
import HandS.Head1
import HandS.Head2
import HandS.HeadHook1
import HandS.HeadHook2
import PySem.Challenge.RW_manyroads_k84_through_texts_and_bases
set_option Elab.async false
set_option linter.all false
set_option maxRecDepth 100000
section
/-! The D layer: data as trees, the state of a def's names, what a piece of syntax does on them. -/
namespace MD
open PySem PySem.Spec PyProof.Rows L2

inductive D where
  | non | bl (b : Bool) | int (i : Int) | str (x : Str)
  | tup (ds : List D) | lst (ds : List D) | ob (c : Str) (fs : List (Str × D)) | fn (x : Str)
  | scr (ns : List Int) | res (n : Nat)

/-- what may change while nobody looks: neither a tuple nor a locked thing -/
def Soft (o : HO) : Prop := (∀ xs, o ≠ .tup xs) ∧ ∀ ob u, o ≠ .frz ob u
theorem soft_lst {xs : List V} : Soft (.lst xs) := ⟨fun _ h => by (cases h), fun _ _ h => by (cases h)⟩
theorem soft_ins {C dx : Addr} {fs : List (Str × V)} : Soft (.ins C dx fs) := ⟨fun _ h => by (cases h), fun _ _ h => by (cases h)⟩
theorem soft_own {x : Addr} : Soft (.own x) := ⟨fun _ h => by (cases h), fun _ _ h => by (cases h)⟩
/-- a list that nobody may change -/
def ScrL (K : PySem.W.Frag) (H : Hp) (a : Addr) (xs : List V) : Prop := (∃ o, H a = some (.frz o (.lst xs))) ∨
  ∃ (o : Obj) (its : Array Value) (n : Nat), K.lookup a = some o ∧ o.cls = .type "list" ∧ o.dict = none ∧ o.data = .seq its n ∧ its.size ≤ sizeLine ∧ Vals xs its.toList
theorem ScrL.seq {K : PySem.W.Frag} {H : Hp} {a : Addr} {xs : List V} (h : ScrL K H a xs) : SqL K H a xs := h.elim (fun h => .inl (.inr h)) .inr
/-- the deck: the list at a, its cells at c -/
def DeckOk (a c : Addr) (H : Hp) : Prop := a ≠ c ∧ ∃ (ns : List Int) (x y : Int), ns.length ≤ 1000 ∧ H a = some (.lst [.ref c, .int x, .int y]) ∧ H c = some (.lst (ns.map V.int))
/-- a region rg that calls may change (ok: what holds of it always; rs: its entries) -/
structure Rg where
  rg : Addr → Prop
  ok : Hp → Prop
  rs : Nat → Option Addr
  okk : ∀ H H' : Hp, (∀ a o, rg a → H a = some o → H' a = some o) → ok H → ok H'
  rsk : ∀ n a, rs n = some a → ∃ c, rg = (fun p => p = a ∨ p = c) ∧ ok = DeckOk a c
/-- the text's facts and such a region -/
structure Wd extends Rg where
  K : PySem.W.Frag
  mg : Str → Option Value
abbrev wd (K : PySem.W.Frag) (mg : Str → Option Value) (R : Rg) : Wd := { R with K := K, mg := mg }
mutual
/-- v stands for the data d; no list, no object of it stands at an address of B -/
inductive Rp (W : Wd) (B : Addr → Prop) (H : Hp) : V → D → Prop
  | non : Rp W B H .non .non
  | bl (b : Bool) : Rp W B H (.bl b) (.bl b)
  | int (i : Int) : Rp W B H (.int i) (.int i)
  | str (x : Str) : Rp W B H (.str x) (.str x)
  | tup {a : Addr} {xs : List V} {ds : List D} : SqT W.K H a xs → RpL W B H xs ds → Rp W B H (.ref a) (.tup ds)
  | lst {a : Addr} {xs : List V} {ds : List D} : ¬ B a → H a = some (.lst xs) → RpL W B H xs ds → Rp W B H (.ref a) (.lst ds)
  | ob {a C dx : Addr} {c : Str} {fs : List (Str × V)} {gs : List (Str × D)} : ¬ B a → W.mg c = some (.ref C) → H a = some (.ins C dx fs) → RpF W B H fs gs → Rp W B H (.ref a) (.ob c gs)
  | fn {x : Str} {f : Addr} : W.mg x = some (.ref f) → Rp W B H (.ref f) (.fn x)
  | scr {a : Addr} {ns : List Int} : ScrL W.K H a (ns.map V.int) → Rp W B H (.ref a) (.scr ns)
  | res {a : Addr} {n : Nat} : W.rs n = some a → Rp W B H (.ref a) (.res n)
inductive RpL (W : Wd) (B : Addr → Prop) (H : Hp) : List V → List D → Prop
  | nil : RpL W B H [] []
  | cons {v : V} {vs : List V} {d : D} {ds : List D} : Rp W B H v d → RpL W B H vs ds → RpL W B H (v :: vs) (d :: ds)
inductive RpF (W : Wd) (B : Addr → Prop) (H : Hp) : List (Str × V) → List (Str × D) → Prop
  | nil : RpF W B H [] []
  | cons {n : Str} {v : V} {fs : List (Str × V)} {d : D} {gs : List (Str × D)} : Rp W B H v d → RpF W B H fs gs → RpF W B H ((n, v) :: fs) ((n, d) :: gs)
end

section
variable {W : Wd} {B B' : Addr → Prop} {H H' : Hp}
/-- what stands at B is soft -/
def Lsts (B : Addr → Prop) (H : Hp) : Prop := ∀ p o, B p → H p = some o → Soft o
/-- all but B is kept -/
def Keep (B : Addr → Prop) (H H' : Hp) : Prop := ∀ a o, ¬ B a → H a = some o → H' a = some o
theorem Keep.of (h : Same H H') : Keep B H H' := fun a o _ e => h a o e
theorem rd_keep {a : Addr} {u : HO} (hB : ¬ B a) (k : Keep B H H') (h : Rd H a u) : Rd H' a u := by
  rcases h with h | ⟨o, h⟩
  · exact .inl (k a _ hB h)
  · exact .inr ⟨o, k a _ hB h⟩
theorem sqT_keep {K : PySem.W.Frag} {a : Addr} {xs : List V} (hB : Lsts B H) (k : Keep B H H') (h : SqT K H a xs) : SqT K H' a xs := by
  rcases h with h | h
  · refine .inl (rd_keep (B := B) (fun b => ?_) k h)
    rcases h with h | ⟨o, h⟩
    · exact (hB a _ b h).1 _ rfl
    · exact (hB a _ b h).2 _ _ rfl
  · exact .inr h
theorem scrL_keep {K : PySem.W.Frag} {a : Addr} {xs : List V} (hB : Lsts B H) (k : Keep B H H') (h : ScrL K H a xs) : ScrL K H' a xs := by
  rcases h with ⟨o, h⟩ | h
  · exact .inl ⟨o, k _ _ (fun b => (hB a _ b h).2 _ _ rfl) h⟩
  · exact .inr h
mutual
theorem Rp.keep (hB : Lsts B H) (k : Keep B H H') : ∀ {v : V} {d : D}, Rp W B H v d → Rp W B H' v d
  | _, _, .non => .non
  | _, _, .bl b => .bl b
  | _, _, .int i => .int i
  | _, _, .str x => .str x
  | _, _, .tup h l => .tup (sqT_keep hB k h) (RpL.keep hB k l)
  | _, _, .lst n h l => .lst n (k _ _ n h) (RpL.keep hB k l)
  | _, _, .ob n m h l => .ob n m (k _ _ n h) (RpF.keep hB k l)
  | _, _, .fn m => .fn m
  | _, _, .scr h => .scr (scrL_keep hB k h)
  | _, _, .res m => .res m
theorem RpL.keep (hB : Lsts B H) (k : Keep B H H') : ∀ {v : List V} {d : List D}, RpL W B H v d → RpL W B H' v d
  | _, _, .nil => .nil
  | _, _, .cons h l => .cons (Rp.keep hB k h) (RpL.keep hB k l)
theorem RpF.keep (hB : Lsts B H) (k : Keep B H H') : ∀ {v : List (Str × V)} {d : List (Str × D)}, RpF W B H v d → RpF W B H' v d
  | _, _, .nil => .nil
  | _, _, .cons h l => .cons (Rp.keep hB k h) (RpF.keep hB k l)
end
mutual
/-- fewer addresses to avoid -/
theorem Rp.anti (hs : ∀ p, B' p → B p) : ∀ {v : V} {d : D}, Rp W B H v d → Rp W B' H v d
  | _, _, .non => .non
  | _, _, .bl b => .bl b
  | _, _, .int i => .int i
  | _, _, .str x => .str x
  | _, _, .tup h l => .tup h (RpL.anti hs l)
  | _, _, .lst n h l => .lst (fun b => n (hs _ b)) h (RpL.anti hs l)
  | _, _, .ob n m h l => .ob (fun b => n (hs _ b)) m h (RpF.anti hs l)
  | _, _, .fn m => .fn m
  | _, _, .scr h => .scr h
  | _, _, .res m => .res m
theorem RpL.anti (hs : ∀ p, B' p → B p) : ∀ {v : List V} {d : List D}, RpL W B H v d → RpL W B' H v d
  | _, _, .nil => .nil
  | _, _, .cons h l => .cons (Rp.anti hs h) (RpL.anti hs l)
theorem RpF.anti (hs : ∀ p, B' p → B p) : ∀ {v : List (Str × V)} {d : List (Str × D)}, RpF W B H v d → RpF W B' H v d
  | _, _, .nil => .nil
  | _, _, .cons h l => .cons (Rp.anti hs h) (RpF.anti hs l)
end
/-- p besides -/
def Add (B : Addr → Prop) (p : Addr) : Addr → Prop := fun q => B q ∨ q = p
mutual
/-- a new address is none of its -/
theorem Rp.fresh {p : Addr} (hp : H p = none) : ∀ {v : V} {d : D}, Rp W B H v d → Rp W (Add B p) H v d
  | _, _, .non => .non
  | _, _, .bl b => .bl b
  | _, _, .int i => .int i
  | _, _, .str x => .str x
  | _, _, .tup h l => .tup h (RpL.fresh hp l)
  | _, _, .lst n h l => .lst (fun b => b.elim n (ne_of_none h hp)) h (RpL.fresh hp l)
  | _, _, .ob n m h l => .ob (fun b => b.elim n (ne_of_none h hp)) m h (RpF.fresh hp l)
  | _, _, .fn m => .fn m
  | _, _, .scr h => .scr h
  | _, _, .res m => .res m
theorem RpL.fresh {p : Addr} (hp : H p = none) : ∀ {v : List V} {d : List D}, RpL W B H v d → RpL W (Add B p) H v d
  | _, _, .nil => .nil
  | _, _, .cons h l => .cons (Rp.fresh hp h) (RpL.fresh hp l)
theorem RpF.fresh {p : Addr} (hp : H p = none) : ∀ {v : List (Str × V)} {d : List (Str × D)}, RpF W B H v d → RpF W (Add B p) H v d
  | _, _, .nil => .nil
  | _, _, .cons h l => .cons (Rp.fresh hp h) (RpF.fresh hp l)
end
theorem RpL.length : ∀ {vs : List V} {ds : List D}, RpL W B H vs ds → vs.length = ds.length
  | _, _, .nil => rfl
  | _, _, .cons _ l => congrArg Nat.succ l.length
theorem RpL.append : ∀ {vs ws : List V} {ds es : List D}, RpL W B H vs ds → RpL W B H ws es → RpL W B H (vs ++ ws) (ds ++ es)
  | _, _, _, _, .nil, r => r
  | _, _, _, _, .cons h l, r => .cons h (l.append r)
theorem RpL.get : ∀ {vs : List V} {ds : List D} {i : Nat} {v : V}, RpL W B H vs ds → vs[i]? = some v → ∃ d, ds[i]? = some d ∧ Rp W B H v d
  | _, _, _, _, .nil, e => by simp at e
  | _, _, 0, _, .cons h _, e => by simp at e; subst e; exact ⟨_, rfl, h⟩
  | _, _, i + 1, v, .cons _ l, e => by
    obtain ⟨d, e1, r⟩ := RpL.get (i := i) l (by simpa using e)
    exact ⟨d, by simpa using e1, r⟩
theorem RpL.getD : ∀ {vs : List V} {ds : List D} {i : Nat} {d : D}, RpL W B H vs ds → ds[i]? = some d → ∃ v, vs[i]? = some v ∧ Rp W B H v d
  | _, _, _, _, .nil, e => by simp at e
  | _, _, 0, _, .cons h _, e => by simp at e; subst e; exact ⟨_, rfl, h⟩
  | _, _, i + 1, v, .cons _ l, e => by
    obtain ⟨d, e1, r⟩ := RpL.getD (i := i) l (by simpa using e)
    exact ⟨d, by simpa using e1, r⟩
theorem RpL.set : ∀ {vs : List V} {ds : List D} (i : Nat) {v : V} {d : D}, RpL W B H vs ds → Rp W B H v d → RpL W B H (vs.set i v) (ds.set i d)
  | _, _, _, _, _, .nil, _ => .nil
  | _, _, 0, _, _, .cons _ l, r => .cons r l
  | _, _, i + 1, _, _, .cons h l, r => .cons h (l.set i r)
theorem RpL.take : ∀ {vs : List V} {ds : List D} (n : Nat), RpL W B H vs ds → RpL W B H (vs.take n) (ds.take n)
  | _, _, 0, _ => .nil
  | _, _, _ + 1, .nil => .nil
  | _, _, n + 1, .cons h l => .cons h (l.take n)
theorem RpL.drop : ∀ {vs : List V} {ds : List D} (n : Nat), RpL W B H vs ds → RpL W B H (vs.drop n) (ds.drop n)
  | _, _, 0, r => r
  | _, _, _ + 1, .nil => .nil
  | _, _, n + 1, .cons h l => l.drop n
theorem RpL.reverse : ∀ {vs : List V} {ds : List D}, RpL W B H vs ds → RpL W B H vs.reverse ds.reverse
  | _, _, .nil => .nil
  | _, _, .cons h l => by
    rw [List.reverse_cons, List.reverse_cons]
    exact l.reverse.append (.cons h .nil)
theorem RpL.dropLast : ∀ {vs : List V} {ds : List D}, RpL W B H vs ds → RpL W B H vs.dropLast ds.dropLast := fun {vs ds} l => by
  rw [List.dropLast_eq_take, List.dropLast_eq_take, l.length]
  exact l.take _
theorem Rp.int' {v : V} {i : Int} (h : Rp W B H v (.int i)) : v = .int i := by cases h; rfl
theorem Rp.bl' {v : V} {b : Bool} (h : Rp W B H v (.bl b)) : v = .bl b := by cases h; rfl
theorem Rp.str' {v : V} {x : Str} (h : Rp W B H v (.str x)) : v = .str x := by cases h; rfl
theorem Rp.non' {v : V} (h : Rp W B H v .non) : v = .non := by cases h; rfl
theorem Rp.tup' {v : V} {ds : List D} (h : Rp W B H v (.tup ds)) : ∃ a xs, v = .ref a ∧ SqT W.K H a xs ∧ RpL W B H xs ds := by cases h; exact ⟨_, _, rfl, by assumption, by assumption⟩
theorem Rp.lst' {v : V} {ds : List D} (h : Rp W B H v (.lst ds)) : ∃ a xs, v = .ref a ∧ ¬ B a ∧ H a = some (.lst xs) ∧ RpL W B H xs ds := by cases h; exact ⟨_, _, rfl, by assumption, by assumption, by assumption⟩
theorem RpL.ints : ∀ {vs : List V} {ns : List Int}, RpL W B H vs (ns.map D.int) → vs = ns.map V.int
  | _, [], h => by cases h; rfl
  | _, n :: ns, h => by
    cases h with
    | cons h l => rw [h.int', l.ints]; rfl
theorem RpL.bls : ∀ {vs : List V} {ns : List Bool}, RpL W B H vs (ns.map D.bl) → vs = ns.map V.bl
  | _, [], h => by cases h; rfl
  | _, n :: ns, h => by
    cases h with
    | cons h l => rw [h.bl', l.bls]; rfl
theorem RpL.strs : ∀ {vs : List V} {ns : List Str}, RpL W B H vs (ns.map D.str) → vs = ns.map V.str
  | _, [], h => by cases h; rfl
  | _, n :: ns, h => by
    cases h with
    | cons h l => rw [h.str', l.strs]; rfl
theorem RpL.of_ints : ∀ {ns : List Int}, RpL W B H (ns.map V.int) (ns.map D.int)
  | [] => .nil
  | n :: ns => .cons (.int n) RpL.of_ints
end


/-! ### the heap grows -/
/-- all is kept but the region, which stays in order -/
structure Gr (W : Wd) (H H' : Hp) : Prop where
  keep : ∀ a o, ¬ W.rg a → H a = some o → H' a = some o
  soft : ∀ a o, W.rg a → H a = some o → ∃ o', H' a = some o' ∧ (Soft o → Soft o')
  ok : W.ok H → W.ok H'
section
variable {W : Wd} {H H1 H' : Hp}
theorem Gr.of (k : Same H H') : Gr W H H' := ⟨fun a o _ e => k a o e, fun a o _ e => ⟨o, k a o e, id⟩, W.okk _ _ fun a o _ e => k a o e⟩
theorem Gr.refl : Gr W H H := .of (.refl H)
theorem Gr.trans (a : Gr W H H1) (b : Gr W H1 H') : Gr W H H' :=
  ⟨fun x o n e => b.keep x o n (a.keep x o n e), fun x o r e => by
    obtain ⟨o1, e1, s1⟩ := a.soft x o r e
    obtain ⟨o2, e2, s2⟩ := b.soft x o1 r e1
    exact ⟨o2, e2, fun z => s2 (s1 z)⟩, fun z => b.ok (a.ok z)⟩
theorem Gr.there (g : Gr W H H') {a : Addr} {o : HO} (e : H a = some o) : ∃ o', H' a = some o' := by
  by_cases h : W.rg a
  · obtain ⟨o', e', _⟩ := g.soft a o h e; exact ⟨o', e'⟩
  · exact ⟨o, g.keep a o h e⟩
theorem Gr.back (g : Gr W H H') {a : Addr} (e : H' a = none) : H a = none := by
  cases q : H a with
  | none => rfl
  | some o => obtain ⟨o', e'⟩ := g.there q; rw [e] at e'; cases e'
theorem Gr.keepB {B : Addr → Prop} (g : Gr W H H') (hs : ∀ p, W.rg p → B p) : Keep B H H' := fun a o n e => g.keep a o (fun r => n (hs a r)) e
theorem Gr.lsts {B : Addr → Prop} (g : Gr W H H') (hB : Lsts B H) (hd : ∀ p, B p → H p ≠ none) : Lsts B H' := fun p o b e => by
  cases q : H p with
  | none => exact absurd q (hd p b)
  | some u =>
    by_cases h : W.rg p
    · obtain ⟨o', e', s⟩ := g.soft p u h q
      rw [e] at e'; cases e'
      exact s (hB p u b q)
    · have := g.keep p u h q
      rw [e] at this; cases this
      exact hB p _ b q
theorem Gr.dom {B : Addr → Prop} (g : Gr W H H') (hd : ∀ p, B p → H p ≠ none) : ∀ p, B p → H' p ≠ none := fun p b e => hd p b (g.back e)
end
/-! ### the state of a def's names -/
/-- a slot: nothing known; data; a list of the def's own, which it may change -/
inductive Sl where
  | un | dat (d : D) | own (ds : List D)
abbrev Ev := List Sl
def get : Ev → Nat → Sl
  | [], _ => .un
  | s :: _, 0 => s
  | _ :: r, n + 1 => get r n
theorem get_set_self : ∀ {e : Ev} {i : Nat} {s : Sl}, i < e.length → get (e.set i s) i = s
  | [], _, _, h => absurd h (Nat.not_lt_zero _)
  | _ :: _, 0, _, _ => rfl
  | _ :: e, i + 1, s, h => get_set_self (e := e) (Nat.lt_of_succ_lt_succ h)
theorem get_set_ne : ∀ {e : Ev} {i j : Nat} {s : Sl}, i ≠ j → get (e.set i s) j = get e j
  | [], _, _, _, _ => rfl
  | _ :: _, 0, 0, _, h => absurd rfl h
  | _ :: _, 0, _ + 1, _, _ => rfl
  | _ :: _, _ + 1, 0, _, _ => rfl
  | _ :: e, i + 1, j + 1, s, h => get_set_ne (e := e) fun q => h (congrArg Nat.succ q)
theorem get_out : ∀ {e : Ev} {i : Nat}, e.length ≤ i → get e i = .un
  | [], _, _ => rfl
  | _ :: _, 0, h => absurd h (Nat.not_succ_le_zero _)
  | _ :: e, i + 1, h => get_out (e := e) (Nat.le_of_succ_le_succ h)
section
variable (W : Wd)
def SlR (H0 : Hp) (B : Addr → Prop) (H : Hp) (o : Option (Option V)) : Sl → Prop
  | .un => True
  | .dat d => ∃ v, o = some (some v) ∧ Rp W B H v d
  | .own ds => ∃ p vs, o = some (some (.ref p)) ∧ B p ∧ H0 p = none ∧ H p = some (.lst vs) ∧ RpL W B H vs ds
/-- H0, B0: the heap at the def's entry, what its caller wants avoided; pins: what a loop walks -/
structure SR (H0 : Hp) (B0 : Addr → Prop) (pins : List (V × D)) (B : Addr → Prop) (H : Hp) (σ : L2.St) (env : Ev) : Prop where
  len : σ.length = env.length
  ext : Gr W H0 H
  rgb : ∀ p, W.rg p → B0 p
  ok : W.ok H
  b0 : ∀ p, B0 p → H0 p ≠ none
  sub : ∀ p, B0 p → B p
  lsts : Lsts B H
  dom : ∀ p, B p → H p ≠ none
  at_ : ∀ i, SlR W H0 B H (σ[i]?) (get env i)
  inj : ∀ (i j : Nat) (p : Addr) (ds es : List D), get env i = .own ds → get env j = .own es → σ[i]? = some (some (.ref p)) → σ[j]? = some (some (.ref p)) → i = j
  pin : ∀ q ∈ pins, Rp W B H q.1 q.2
end
section
variable {W : Wd} {H0 : Hp} {B0 : Addr → Prop} {pins : List (V × D)} {B B' : Addr → Prop} {H H' : Hp} {σ : L2.St} {env : Ev}
theorem SlR.keep {o : Option (Option V)} {s : Sl} (hB : Lsts B H) (k : Gr W H H') (hs : ∀ p, W.rg p → B0 p) (hb : ∀ p, B0 p → B p) (h0 : ∀ p, B0 p → H0 p ≠ none) (h : SlR W H0 B H o s) : SlR W H0 B H' o s := by
  cases s with
  | un => trivial
  | dat d => obtain ⟨v, e, r⟩ := h; exact ⟨v, e, r.keep hB (k.keepB fun p z => hb p (hs p z))⟩
  | own ds => obtain ⟨p, vs, e, b, hn, h1, r⟩ := h; exact ⟨p, vs, e, b, hn, k.keep _ _ (fun z => h0 _ (hs _ z) hn) h1, r.keep hB (k.keepB fun p z => hb p (hs p z))⟩
theorem SR.rgB (S : SR W H0 B0 pins B H σ env) : ∀ p, W.rg p → B p := fun p z => S.sub p (S.rgb p z)
theorem SR.rp (S : SR W H0 B0 pins B H σ env) (k : Gr W H H') {v : V} {d : D} (r : Rp W B H v d) : Rp W B H' v d := r.keep S.lsts (k.keepB S.rgB)
theorem SR.rpL (S : SR W H0 B0 pins B H σ env) (k : Gr W H H') {v : List V} {d : List D} (r : RpL W B H v d) : RpL W B H' v d := r.keep S.lsts (k.keepB S.rgB)
/-- the heap has grown -/
theorem SR.grow (S : SR W H0 B0 pins B H σ env) (k : Gr W H H') : SR W H0 B0 pins B H' σ env :=
  ⟨S.len, S.ext.trans k, S.rgb, k.ok S.ok, S.b0, S.sub, k.lsts S.lsts S.dom, k.dom S.dom, fun i => (S.at_ i).keep S.lsts k S.rgb S.sub S.b0, S.inj, fun q hq => S.rp k (S.pin q hq)⟩
/-- one slot, anew: s stands for o, the others stay -/
theorem SR.put {s : Sl} {o : Option V} (S : SR W H0 B0 pins B H σ env) (i : Nat) (r : SlR W H0 B H (some o) s) (hn : ∀ ds p, s = .own ds → o = some (.ref p) → ∀ j es, j ≠ i → get env j = .own es → σ[j]? ≠ some (some (.ref p))) :
    SR W H0 B0 pins B H (σ.set i o) (env.set i s) := by
  refine ⟨by simp [S.len], S.ext, S.rgb, S.ok, S.b0, S.sub, S.lsts, S.dom, fun j => ?_, fun j k p ds es e1 e2 e3 e4 => ?_, S.pin⟩
  · by_cases hi : i < env.length
    · by_cases hj : i = j
      · subst hj
        rw [get_set_self hi, List.getElem?_set_self (by rw [S.len]; exact hi)]
        exact r
      · rw [get_set_ne hj, List.getElem?_set_ne hj]
        exact S.at_ j
    · rw [List.set_eq_of_length_le (by omega : env.length ≤ i), List.set_eq_of_length_le (by rw [S.len]; omega)]
      exact S.at_ j
  · by_cases hi : i < env.length
    · have hs : i < σ.length := by rw [S.len]; exact hi
      by_cases h1 : i = j
      · subst h1
        by_cases h2 : i = k
        · exact h2
        · rw [get_set_self hi] at e1
          rw [get_set_ne h2] at e2
          rw [List.getElem?_set_self hs] at e3
          rw [List.getElem?_set_ne h2] at e4
          exact absurd e4 (hn ds p e1 (Option.some.inj e3) k es (fun z => h2 z.symm) e2)
      · by_cases h2 : i = k
        · subst h2
          rw [get_set_self hi] at e2
          rw [get_set_ne h1] at e1
          rw [List.getElem?_set_self hs] at e4
          rw [List.getElem?_set_ne h1] at e3
          exact absurd e3 (hn es p e2 (Option.some.inj e4) j ds (fun z => h1 z.symm) e1)
        · rw [get_set_ne h1] at e1
          rw [get_set_ne h2] at e2
          rw [List.getElem?_set_ne h1] at e3
          rw [List.getElem?_set_ne h2] at e4
          exact S.inj j k p ds es e1 e2 e3 e4
    · rw [List.set_eq_of_length_le (by omega : env.length ≤ i)] at e1 e2
      rw [List.set_eq_of_length_le (by rw [S.len]; omega)] at e3 e4
      exact S.inj j k p ds es e1 e2 e3 e4
theorem SR.set (S : SR W H0 B0 pins B H σ env) (i : Nat) {v : V} {d : D} (r : Rp W B H v d) : SR W H0 B0 pins B H (σ.set i (some v)) (env.set i (.dat d)) :=
  S.put i ⟨v, rfl, r⟩ fun _ _ e => by cases e
/-- a slot forgotten -/
theorem SR.forget (S : SR W H0 B0 pins B H σ env) (i : Nat) (o : Option V) : SR W H0 B0 pins B H (σ.set i o) (env.set i .un) :=
  S.put i trivial fun _ _ e => by cases e
theorem add_lsts {p : Addr} {vs : List V} (S : Lsts B H) (e : H p = some (.lst vs)) : Lsts (Add B p) H := fun q o b h => by
  rcases b with b | rfl
  · exact S q o b h
  · rw [e] at h; cases h; exact soft_lst
theorem SlR.fresh {o : Option (Option V)} {s : Sl} {p : Addr} (hp : H p = none) (h : SlR W H0 B H o s) : SlR W H0 (Add B p) H o s := by
  cases s with
  | un => trivial
  | dat d => obtain ⟨v, e, r⟩ := h; exact ⟨v, e, r.fresh hp⟩
  | own ds => obtain ⟨q, vs, e, b, h0, h1, r⟩ := h; exact ⟨q, vs, e, .inl b, h0, h1, r.fresh hp⟩
theorem lsts_fresh {p : Addr} (S : Lsts B H) (hp : H p = none) : Lsts (Add B p) H := fun q o b h => by
  rcases b with b | rfl
  · exact S q o b h
  · rw [hp] at h; cases h
/-- a new list is the def's own from now on -/
theorem SR.adopt (S : SR W H0 B0 pins B H σ env) {p : Addr} {vs : List V} (hp : H p = none) (k : Gr W H H') (e : H' p = some (.lst vs)) : SR W H0 B0 pins (Add B p) H' σ env := by
  have h1 := lsts_fresh S.lsts hp
  have hs : ∀ q, B0 q → Add B p q := fun q b => .inl (S.sub q b)
  refine ⟨S.len, S.ext.trans k, S.rgb, k.ok S.ok, S.b0, hs, add_lsts (k.lsts S.lsts S.dom) e, fun q b h => ?_, fun i => ((S.at_ i).fresh hp).keep h1 k S.rgb hs S.b0, S.inj, fun q hq => ((S.pin q hq).fresh hp).keep h1 (k.keepB fun q z => .inl (S.rgB q z))⟩
  rcases b with b | rfl
  · exact k.dom S.dom q b h
  · rw [e] at h; cases h
theorem SR.setOwn (S : SR W H0 B0 pins B H σ env) (i : Nat) {p : Addr} {vs : List V} {ds : List D} (hp : H p = none) (k : Gr W H H') (e : H' p = some (.lst vs)) (r : RpL W (Add B p) H' vs ds) :
    SR W H0 B0 pins (Add B p) H' (σ.set i (some (.ref p))) (env.set i (.own ds)) := by
  refine (S.adopt hp k e).put i ⟨p, vs, rfl, .inr rfl, ?_, e, r⟩ fun ds' q _ hq j es hj he hs => ?_
  · exact S.ext.back hp
  · cases hq
    have := S.at_ j
    rw [he] at this
    obtain ⟨q, ws, e1, b, _, h1, _⟩ := this
    rw [hs] at e1
    cases e1
    rw [hp] at h1; cases h1
/-- a list of the def's own is changed -/
theorem SR.change (S : SR W H0 B0 pins B H σ env) (i : Nat) {p : Addr} {ds es : List D} {vs : List V} (h : get env i = .own ds) (hs : σ[i]? = some (some (.ref p))) (r : RpL W B H vs es) :
    SR W H0 B0 pins B (upd H p (.lst vs)) σ (env.set i (.own es)) := by
  have h0 := S.at_ i
  rw [h] at h0
  obtain ⟨q, ws, e1, b, hn, h1, r1⟩ := h0
  rw [hs] at e1
  cases e1
  have k : Keep B H (upd H p (.lst vs)) := fun a o na e => by
    rw [upd_ne (fun z : a = p => na (by rw [z]; exact b))]
    exact e
  have hi : i < env.length := by
    by_cases hi : i < env.length
    · exact hi
    · rw [get_out (by omega)] at h; cases h
  have np : ∀ q, W.rg q → q ≠ p := fun q z e => S.b0 q (S.rgb q z) (by rw [e]; exact hn)
  have kr : ∀ a o, W.rg a → H a = some o → (upd H p (.lst vs)) a = some o := fun a o z e => by rw [upd_ne (np a z)]; exact e
  refine ⟨by simp [S.len], ⟨fun a o n e => ?_, fun a o n e => ?_, fun z => W.okk _ _ kr (S.ext.ok z)⟩, S.rgb, W.okk _ _ kr S.ok, S.b0, S.sub, fun q o bq e => ?_, fun q bq e => ?_, fun j => ?_, fun j m q ds' es' e1 e2 e3 e4 => ?_, fun q hq => (S.pin q hq).keep S.lsts k⟩
  · rw [upd_ne (fun z => by rw [z, hn] at e; cases e)]
    exact S.ext.keep a o n e
  · obtain ⟨o', e', s⟩ := S.ext.soft a o n e
    exact ⟨o', kr a o' n e', s⟩
  · by_cases z : q = p
    · subst z; rw [upd_same] at e; cases e; exact soft_lst
    · rw [upd_ne z] at e; exact S.lsts q o bq e
  · by_cases z : q = p
    · subst z; rw [upd_same] at e; cases e
    · rw [upd_ne z] at e; exact S.dom q bq e
  · by_cases hj : i = j
    · subst hj
      rw [get_set_self hi, hs]
      exact ⟨p, vs, rfl, b, hn, upd_same, r.keep S.lsts k⟩
    · rw [get_set_ne hj]
      have z := S.at_ j
      cases g : get env j with
      | un => trivial
      | dat d =>
        rw [g] at z
        obtain ⟨v, e, r⟩ := z
        exact ⟨v, e, r.keep S.lsts k⟩
      | own fs =>
        rw [g] at z
        obtain ⟨q, us, e, b', h0', h1', r'⟩ := z
        have ne : q ≠ p := fun z => by
          subst z
          exact hj (S.inj i j q ds fs h g hs e)
        exact ⟨q, us, e, b', h0', by rw [upd_ne ne]; exact h1', r'.keep S.lsts k⟩
  · have f : ∀ m fs, get (env.set i (.own es)) m = .own fs → ∃ gs, get env m = .own gs := fun m fs e => by
      by_cases hm : i = m
      · subst hm; exact ⟨ds, h⟩
      · rw [get_set_ne hm] at e; exact ⟨fs, e⟩
    obtain ⟨g1, f1⟩ := f j _ e1
    obtain ⟨g2, f2⟩ := f m _ e2
    exact S.inj j m q g1 g2 f1 f2 e3 e4
/-- a list of the def's own is data from now on -/
theorem SR.freeze (S : SR W H0 B0 pins B H σ env) (i : Nat) {ds : List D} (h : get env i = .own ds) : ∃ B', (∀ p, B' p → B p) ∧ SR W H0 B0 pins B' H σ (env.set i (.dat (.lst ds))) := by
  have h0 := S.at_ i
  rw [h] at h0
  obtain ⟨p, ws, e1, b, hn, h1, r1⟩ := h0
  have hi : i < env.length := by
    by_cases hi : i < env.length
    · exact hi
    · rw [get_out (by omega)] at h; cases h
  have sub : ∀ q, (fun q => B q ∧ q ≠ p) q → B q := fun q z => z.1
  refine ⟨fun q => B q ∧ q ≠ p, sub, by simp [S.len], S.ext, S.rgb, S.ok, S.b0, fun q b' => ⟨S.sub q b', fun z => S.b0 q b' (z ▸ hn)⟩, fun q o bq e => S.lsts q o bq.1 e, fun q bq => S.dom q bq.1, fun j => ?_, fun j m q ds' es' e1 e2 e3 e4 => ?_, fun q hq => (S.pin q hq).anti sub⟩
  · by_cases hj : i = j
    · subst hj
      rw [get_set_self hi, e1]
      exact ⟨.ref p, rfl, .lst (fun z => z.2 rfl) h1 (r1.anti sub)⟩
    · rw [get_set_ne hj]
      have z := S.at_ j
      cases g : get env j with
      | un => trivial
      | dat d =>
        rw [g] at z
        obtain ⟨v, e, r⟩ := z
        exact ⟨v, e, r.anti sub⟩
      | own fs =>
        rw [g] at z
        obtain ⟨q, us, e, b', h0', h1', r'⟩ := z
        have ne : q ≠ p := fun z => by
          subst z
          exact hj (S.inj i j q ds fs h g e1 e)
        exact ⟨q, us, e, ⟨b', ne⟩, h0', h1', r'.anti sub⟩
  · have f : ∀ m fs, get (env.set i (.dat (.lst ds))) m = .own fs → i ≠ m := fun m fs e z => by
      subst z; rw [get_set_self hi] at e; cases e
    have n1 := f j _ e1
    have n2 := f m _ e2
    rw [get_set_ne n1] at e1
    rw [get_set_ne n2] at e2
    exact S.inj j m q _ _ e1 e2 e3 e4
end
end MD
end
section
/-! What a piece of syntax does on data: expressions, tests, arguments. -/
namespace MD
open PySem PySem.Spec PyProof.Rows L2

abbrev DT := Ev → (D → Prop) → Prop
abbrev DTL := Ev → (List D → Prop) → Prop
abbrev DTT := Ev → (Bool → Prop) → Prop
/-- a list that is to be read now, though it may be the def's own -/
def RpV (W : Wd) (B0 B : Addr → Prop) (H : Hp) (v : V) (d : D) : Prop := Rp W B H v d ∨ ∃ p vs ds, v = .ref p ∧ d = .lst ds ∧ ¬ B0 p ∧ H p = some (.lst vs) ∧ RpL W B H vs ds
def SimE (W : Wd) (t : TE) (T : DT) : Prop := ∀ {H0 : Hp} {B0 : Addr → Prop} {pins : List (V × D)} {B : Addr → Prop} {H : Hp} {σ : L2.St} {env : Ev}, SR W H0 B0 pins B H σ env → ∀ (Qd : D → Prop) (Q : VK), T env Qd →
  (∀ d v H', Qd d → Gr W H H' → Rp W B H' v d → Q v H') → t σ H Q
def SimV (W : Wd) (t : TE) (T : DT) : Prop := ∀ {H0 : Hp} {B0 : Addr → Prop} {pins : List (V × D)} {B : Addr → Prop} {H : Hp} {σ : L2.St} {env : Ev}, SR W H0 B0 pins B H σ env → ∀ (Qd : D → Prop) (Q : VK), T env Qd →
  (∀ d v H', Qd d → Gr W H H' → RpV W B0 B H' v d → Q v H') → t σ H Q
def SimF (W : Wd) (t : TE) (T : DT) : Prop := ∀ {H0 : Hp} {B0 : Addr → Prop} {pins : List (V × D)} {B : Addr → Prop} {H : Hp} {σ : L2.St} {env : Ev}, SR W H0 B0 pins B H σ env → ∀ (Qd : D → Prop) (Q : VK), T env Qd →
  (∀ ds p vs H', Qd (.lst ds) → H p = none → Gr W H H' → H' p = some (.lst vs) → RpL W (Add B p) H' vs ds → Q (.ref p) H') → t σ H Q
def SimT (W : Wd) (t : TT) (T : DTT) : Prop := ∀ {H0 : Hp} {B0 : Addr → Prop} {pins : List (V × D)} {B : Addr → Prop} {H : Hp} {σ : L2.St} {env : Ev}, SR W H0 B0 pins B H σ env → ∀ (Qd : Bool → Prop) (Q : Bool → Hp → Prop), T env Qd →
  (∀ b H', Qd b → Gr W H H' → Q b H') → t σ H Q
def SimA (W : Wd) (t : TA) (T : DTL) : Prop := ∀ {H0 : Hp} {B0 : Addr → Prop} {pins : List (V × D)} {B : Addr → Prop} {H : Hp} {σ : L2.St} {env : Ev}, SR W H0 B0 pins B H σ env → ∀ (Qd : List D → Prop) (Q : List V → Hp → Prop), T env Qd →
  (∀ ds vs H', Qd ds → Gr W H H' → RpL W B H' vs ds → Q vs H') → t σ H Q
/-- arguments, some of them lists of the def's own: what they are is said of B0 alone -/
def SimAV (W : Wd) (t : TA) (T : DTL) : Prop := ∀ {H0 : Hp} {B0 : Addr → Prop} {pins : List (V × D)} {B : Addr → Prop} {H : Hp} {σ : L2.St} {env : Ev}, SR W H0 B0 pins B H σ env → ∀ (Qd : List D → Prop) (Q : List V → Hp → Prop), T env Qd →
  (∀ ds vs H', Qd ds → Gr W H H' → RpL W B0 H' vs ds → Q vs H') → t σ H Q
section
variable (X : Cx)
abbrev Cx.wd (R : Rg) : Wd := MD.wd X.K X.mg R
def DE (e : Expr) (T : DT) : Prop := ∃ t, PE X e t ∧ ∀ R, SimE (Cx.wd X R) t T
def DV (e : Expr) (T : DT) : Prop := ∃ t, PE X e t ∧ ∀ R, SimV (Cx.wd X R) t T
def DF (e : Expr) (T : DT) : Prop := ∃ t, PE X e t ∧ ∀ R, SimF (Cx.wd X R) t T
def DB (e : Expr) (T : DTT) : Prop := ∃ t, PT X e t ∧ ∀ R, SimT (Cx.wd X R) t T
def DW (e : Expr) (T : DTT) : Prop := ∃ t, PW X e t ∧ ∀ R, SimT (Cx.wd X R) t T
def DA (es : List Expr) (T : DTL) : Prop := ∃ t, PA X es t ∧ ∀ R, SimA (Cx.wd X R) t T
def DAV (es : List Expr) (T : DTL) : Prop := ∃ t, PA X es t ∧ ∀ R, SimAV (Cx.wd X R) t T
end
section
variable {X : Cx} {W : Wd} {H0 : Hp} {B0 B : Addr → Prop} {pins : List (V × D)} {H H' : Hp} {σ : L2.St} {env : Ev} {e a b c : Expr} {T Ta Tb Tc : DT} {pos : Pos}
theorem RpV.b0 (S : SR W H0 B0 pins B H σ env) {v : V} {d : D} (h : RpV W B0 B H v d) : Rp W B0 H v d := by
  rcases h with h | ⟨p, vs, ds, rfl, rfl, n, e, r⟩
  · exact h.anti S.sub
  · exact .lst n e (r.anti S.sub)
theorem DE.dv (h : DE X e T) : DV X e T := let ⟨t, p, s⟩ := h; ⟨t, p, fun R _ _ _ _ _ _ _ S Qd Q hT k => s R S Qd Q hT fun d v H' q g r => k d v H' q g (.inl r)⟩
theorem DF.de (h : DF X e T) : DE X e T := let ⟨t, p, s⟩ := h; ⟨t, p, fun R _ _ _ _ _ _ _ S Qd Q hT k => s R S Qd Q hT fun ds p vs H' q n g e r =>
  k _ _ H' q g (.lst (fun b => S.dom p b n) e (r.anti fun _ z => .inl z))⟩
theorem DF.dv (h : DF X e T) : DV X e T := let ⟨t, p, s⟩ := h; ⟨t, p, fun R _ _ _ _ _ _ _ S Qd Q hT k => s R S Qd Q hT fun ds p vs H' q n g e r =>
  k _ _ H' q g (.inr ⟨p, vs, ds, rfl, rfl, fun b => S.dom p (S.sub p b) n, e, r.anti fun _ z => .inl z⟩)⟩

/-! ### names, constants -/
def onD (s : Sl) (Q : D → Prop) : Prop := match s with | .dat d => Q d | _ => False
def onV (s : Sl) (Q : D → Prop) : Prop := match s with | .dat d => Q d | .own ds => Q (.lst ds) | .un => False
def dVar (i : Nat) : DT := fun env Q => onD (get env i) Q
def dVw (i : Nat) : DT := fun env Q => onV (get env i) Q
def dC (d : D) : DT := fun _ Q => Q d
theorem de_var {x : Str} (i : Nat) (hN : X.N[i]? = some x := by rfl) (hv : Vis X.env.scope x := by first | exact Or.inl rfl | exact Or.inr (Or.inl rfl) | exact Or.inr (Or.inr rfl)) (hd : (x == ("__debug__" : Str)) = false := by decide)
    (hcd : (x == ("__classdict__" : Str)) = false := by decide) : DE X (.Name x pos) (dVar i) := ⟨_, pe_var hN hv hd hcd, fun R _ _ _ _ _ _ env S Qd Q h k => by
  have z := S.at_ i
  unfold dVar onD at h
  cases g : get env i with
  | un => rw [g] at h; exact h.elim
  | own ds => rw [g] at h; exact h.elim
  | dat d =>
    rw [g] at h z
    obtain ⟨v, e, r⟩ := z
    exact ⟨v, e, k d v _ h .refl r⟩⟩
theorem dv_var {x : Str} (i : Nat) (hN : X.N[i]? = some x := by rfl) (hv : Vis X.env.scope x := by first | exact Or.inl rfl | exact Or.inr (Or.inl rfl) | exact Or.inr (Or.inr rfl)) (hd : (x == ("__debug__" : Str)) = false := by decide)
    (hcd : (x == ("__classdict__" : Str)) = false := by decide) : DV X (.Name x pos) (dVw i) := ⟨_, pe_var hN hv hd hcd, fun R _ _ _ _ _ _ env S Qd Q h k => by
  have z := S.at_ i
  unfold dVw onV at h
  cases g : get env i with
  | un => rw [g] at h; exact h.elim
  | own ds =>
    rw [g] at h z
    obtain ⟨p, vs, e, b, hn, e1, r⟩ := z
    exact ⟨_, e, k _ _ _ h .refl (.inr ⟨p, vs, ds, rfl, rfl, fun b => S.b0 p b hn, e1, r⟩)⟩
  | dat d =>
    rw [g] at h z
    obtain ⟨v, e, r⟩ := z
    exact ⟨v, e, k d v _ h .refl (.inl r)⟩⟩
theorem de_int {i j} : DE X (.Constant (.int i) j pos) (dC (.int i)) := ⟨_, pe_int, fun R _ _ _ _ _ _ _ S Qd Q h k => k _ _ _ h .refl (.int i)⟩
theorem de_bl {b j} : DE X (.Constant (.bool b) j pos) (dC (.bl b)) := ⟨_, pe_bl, fun R _ _ _ _ _ _ _ S Qd Q h k => k _ _ _ h .refl (.bl b)⟩
theorem de_str {x j} : DE X (.Constant (.str x) j pos) (dC (.str x)) := ⟨_, pe_str, fun R _ _ _ _ _ _ _ S Qd Q h k => k _ _ _ h .refl (.str x)⟩
theorem de_non {j} : DE X (.Constant .none j pos) (dC .non) := ⟨_, pe_non, fun R _ _ _ _ _ _ _ S Qd Q h k => k _ _ _ h .refl .non⟩
theorem de_gint {x : Str} {i : Int} (hm : ∃ t, X.mg x = some (.int i t)) (hg : Gl X x := by rfl) (hd : (x == ("__debug__" : Str)) = false := by decide) : DE X (.Name x pos) (dC (.int i)) :=
  let ⟨t, hm⟩ := hm; ⟨_, pe_glob (v := .int i) hg hm ⟨t, rfl⟩ hd, fun R _ _ _ _ _ _ _ S Qd Q h k => k _ _ _ h .refl (.int i)⟩
theorem de_gstr {x z : Str} (hm : ∃ t, X.mg x = some (.str z t)) (hg : Gl X x := by rfl) (hd : (x == ("__debug__" : Str)) = false := by decide) : DE X (.Name x pos) (dC (.str z)) :=
  let ⟨t, hm⟩ := hm; ⟨_, pe_glob (v := .str z) hg hm ⟨t, rfl⟩ hd, fun R _ _ _ _ _ _ _ S Qd Q h k => k _ _ _ h .refl (.str z)⟩

/-! ### operators by values -/
abbrev G2 := D → D → (D → Prop) → Prop
def SimR (W : Wd) (r : R2) (g : G2) : Prop := ∀ {H0 : Hp} {B0 : Addr → Prop} {pins : List (V × D)} {B : Addr → Prop} {H : Hp} {σ : L2.St} {env : Ev}, SR W H0 B0 pins B H σ env → ∀ {x y : V} {d f : D}, Rp W B H x d → Rp W B H y f → ∀ (Qd : D → Prop) (Q : VK),
  g d f Qd → (∀ d v H', Qd d → Gr W H H' → Rp W B H' v d → Q v H') → r x y H Q
/-- the same, lists of the def's own among the operands -/
def SimRV (W : Wd) (r : R2) (g : G2) : Prop := ∀ {H0 : Hp} {B0 : Addr → Prop} {pins : List (V × D)} {B : Addr → Prop} {H : Hp} {σ : L2.St} {env : Ev}, SR W H0 B0 pins B H σ env → ∀ {x y : V} {d f : D}, RpV W B0 B H x d → RpV W B0 B H y f → ∀ (Qd : D → Prop) (Q : VK),
  g d f Qd → (∀ d v H', Qd d → Gr W H H' → Rp W B H' v d → Q v H') → r x y H Q
def DO (X : Cx) (f : Value → Value → Sem Value) (g : G2) : Prop := ∃ r, OpR X f r ∧ ∀ R, SimR (Cx.wd X R) r g
def DOV (X : Cx) (f : Value → Value → Sem Value) (g : G2) : Prop := ∃ r, OpR X f r ∧ ∀ R, SimRV (Cx.wd X R) r g
def d2 (g : G2) (Ta Tb : DT) : DT := fun env Q => Ta env fun a => Tb env fun b => g a b Q
theorem RpV.grow (S : SR W H0 B0 pins B H σ env) (k : Gr W H H') {v : V} {d : D} (h : RpV W B0 B H v d) : RpV W B0 B H' v d := by
  rcases h with h | ⟨p, vs, ds, rfl, rfl, n, e, r⟩
  · exact .inl (S.rp k h)
  · exact .inr ⟨p, vs, ds, rfl, rfl, n, k.keep _ _ (fun z => n (S.rgb p z)) e, S.rpL k r⟩
theorem sim2 {ta tb : TE} {r : R2} {g : G2} (ha : SimE W ta Ta) (hb : SimE W tb Tb) (hr : SimR W r g) : SimE W (tOp r ta tb) (d2 g Ta Tb) := fun S Qd Q h k =>
  ha S _ _ h fun d v H1 q1 g1 r1 => hb (S.grow g1) _ _ q1 fun f u H2 q2 g2 r2 => hr ((S.grow g1).grow g2) ((S.grow g1).rp g2 r1) r2 Qd Q q2 fun d v H' q g r => k d v H' q ((g1.trans g2).trans g) r
theorem sim2V {ta tb : TE} {r : R2} {g : G2} (ha : SimV W ta Ta) (hb : SimV W tb Tb) (hr : SimRV W r g) : SimE W (tOp r ta tb) (d2 g Ta Tb) := fun S Qd Q h k =>
  ha S _ _ h fun d v H1 q1 g1 r1 => hb (S.grow g1) _ _ q1 fun f u H2 q2 g2 r2 => hr ((S.grow g1).grow g2) (r1.grow (S.grow g1) g2) r2 Qd Q q2 fun d v H' q g r => k d v H' q ((g1.trans g2).trans g) r
theorem de_bin {op : Operator} {g : G2} (ho : DO X (binaryOp op) g) (ha : DE X a Ta) (hb : DE X b Tb) : DE X (.BinOp a op b pos) (d2 g Ta Tb) :=
  let ⟨_, po, so⟩ := ho; let ⟨_, pa, sa⟩ := ha; let ⟨_, pb, sb⟩ := hb; ⟨_, pe_op po pa pb, fun R => sim2 (sa R) (sb R) (so R)⟩
theorem de_cmp {op : CmpOp} {g : G2} (ho : DO X (compareOp op) g) (ha : DE X a Ta) (hb : DE X b Tb) (hm : behindInMarks op b = false := by first | exact nobehind _ (by decide) (by decide) | rfl) : DE X (.Compare a [op] [b] pos) (d2 g Ta Tb) :=
  let ⟨_, po, so⟩ := ho; let ⟨_, pa, sa⟩ := ha; let ⟨_, pb, sb⟩ := hb; ⟨_, pe_cmpR po pa pb hm, fun R => sim2 (sa R) (sb R) (so R)⟩
theorem de_cmpV {op : CmpOp} {g : G2} (ho : DOV X (compareOp op) g) (ha : DV X a Ta) (hb : DV X b Tb) (hm : behindInMarks op b = false := by first | exact nobehind _ (by decide) (by decide) | rfl) : DE X (.Compare a [op] [b] pos) (d2 g Ta Tb) :=
  let ⟨_, po, so⟩ := ho; let ⟨_, pa, sa⟩ := ha; let ⟨_, pb, sb⟩ := hb; ⟨_, pe_cmpR po pa pb hm, fun R => sim2V (sa R) (sb R) (so R)⟩
/-- what gives a truth, as a test -/
def onB (d : D) (Q : Bool → Prop) : Prop := match d with | .bl b => Q b | _ => False
def dB (T : DT) : DTT := fun env Q => T env fun d => onB d Q
theorem onB_at {d : D} {Q : Bool → Prop} (h : onB d Q) : ∃ b, d = .bl b ∧ Q b := by
  cases d with
  | bl b => exact ⟨b, rfl, h⟩
  | _ => exact h.elim
theorem simB {t : TE} (h : SimE W t T) : SimT W (tTest t) (dB T) := fun S Qd Q hT k => h S _ _ hT fun d v H' q g r => by
  obtain ⟨b, rfl, z⟩ := onB_at q
  exact ⟨b, r.bl', k b H' z g⟩
theorem db_cmp {op : CmpOp} {g : G2} (ho : DO X (compareOp op) g) (ha : DE X a Ta) (hb : DE X b Tb) (hm : behindInMarks op b = false := by first | exact nobehind _ (by decide) (by decide) | rfl) : DB X (.Compare a [op] [b] pos) (dB (d2 g Ta Tb)) :=
  let ⟨_, po, so⟩ := ho; let ⟨_, pa, sa⟩ := ha; let ⟨_, pb, sb⟩ := hb; ⟨_, pt_cmpR po pa pb hm, fun R => simB (sim2 (sa R) (sb R) (so R))⟩
theorem db_cmpV {op : CmpOp} {g : G2} (ho : DOV X (compareOp op) g) (ha : DV X a Ta) (hb : DV X b Tb) (hm : behindInMarks op b = false := by first | exact nobehind _ (by decide) (by decide) | rfl) : DB X (.Compare a [op] [b] pos) (dB (d2 g Ta Tb)) :=
  let ⟨_, po, so⟩ := ho; let ⟨_, pa, sa⟩ := ha; let ⟨_, pb, sb⟩ := hb; ⟨_, pt_cmpR po pa pb hm, fun R => simB (sim2V (sa R) (sb R) (so R))⟩
theorem db_val (ha : DE X e T) (he : ∀ whole, isTrue e X.env whole = (do let v ← whole; standAt e.pos; holding [v] (truthy v)) := by intro _; rfl) : DB X e (dB T) :=
  let ⟨_, pa, sa⟩ := ha; ⟨_, pt_val pa he, fun R => simB (sa R)⟩
/-- a < b < c -/
def dChain (g g' : G2) (Ta Tb Tc : DT) : DT := fun env Q => Ta env fun a => Tb env fun b => g a b fun z => onB z fun k => if k = true then Tc env fun c => g' b c Q else Q (.bl false)
theorem simChain {ta tb tc : TE} {r r' : R2} {g g' : G2} (ha : SimE W ta Ta) (hb : SimE W tb Tb) (hc : SimE W tc Tc) (hr : SimR W r g) (hr' : SimR W r' g') : SimE W (tChain r r' ta tb tc) (dChain g g' Ta Tb Tc) := fun S Qd Q h k =>
  ha S _ _ h fun d v H1 q1 g1 r1 => hb (S.grow g1) _ _ q1 fun f u H2 q2 g2 r2 => hr ((S.grow g1).grow g2) ((S.grow g1).rp g2 r1) r2 _ _ q2 fun z w H3 q3 g3 r3 => by
    obtain ⟨b, rfl, z3⟩ := onB_at q3
    refine ⟨b, r3.bl', ?_⟩
    cases b with
    | false => rw [if_neg (by decide)] at z3 ⊢; exact k _ _ _ z3 ((g1.trans g2).trans g3) (.bl false)
    | true =>
      rw [if_pos rfl] at z3 ⊢
      have S3 := ((S.grow g1).grow g2).grow g3
      exact hc S3 _ _ z3 fun d4 v4 H4 q4 g4 r4 => hr' (S3.grow g4) (S3.rp g4 (((S.grow g1).grow g2).rp g3 r2)) r4 Qd Q q4 fun d v H' q g r => k d v H' q ((((g1.trans g2).trans g3).trans g4).trans g) r
theorem de_chain {op op' : CmpOp} {g g' : G2} (ho : DO X (compareOp op) g) (ho' : DO X (compareOp op') g') (ha : DE X a Ta) (hb : DE X b Tb) (hc : DE X c Tc)
    (hm : lastMarks [op, op'] [b, c] = false := by with_unfolding_all rfl) : DE X (.Compare a [op, op'] [b, c] pos) (dChain g g' Ta Tb Tc) :=
  let ⟨_, po, so⟩ := ho; let ⟨_, po', so'⟩ := ho'; let ⟨_, pa, sa⟩ := ha; let ⟨_, pb, sb⟩ := hb; let ⟨_, pc, sc⟩ := hc; ⟨_, pe_chain po po' pa pb pc hm, fun R => simChain (sa R) (sb R) (sc R) (so R) (so' R)⟩
theorem db_chain {op op' : CmpOp} {g g' : G2} (ho : DO X (compareOp op) g) (ho' : DO X (compareOp op') g') (ha : DE X a Ta) (hb : DE X b Tb) (hc : DE X c Tc)
    (hm : lastMarks [op, op'] [b, c] = false := by with_unfolding_all rfl) : DB X (.Compare a [op, op'] [b, c] pos) (dB (dChain g g' Ta Tb Tc)) :=
  let ⟨_, po, so⟩ := ho; let ⟨_, po', so'⟩ := ho'; let ⟨_, pa, sa⟩ := ha; let ⟨_, pb, sb⟩ := hb; let ⟨_, pc, sc⟩ := hc; ⟨_, pt_chain po po' pa pb pc hm, fun R => simB (simChain (sa R) (sb R) (sc R) (so R) (so' R))⟩

/-! ### and, or, not -/
variable {rest : List Expr} {Tt Tu : DTT}
def dAnd (T U : DTT) : DTT := fun env Q => T env fun c => if c = true then U env Q else Q false
def dOr (T U : DTT) : DTT := fun env Q => T env fun c => if c = true then Q true else U env Q
def dNot (T : DTT) : DTT := fun env Q => T env fun c => Q (!c)
theorem DW.db (h : DW X e Tt) : DB X e Tt := let ⟨_, p, s⟩ := h; ⟨_, p.pt, s⟩
theorem dw_and1 (h : DB X a Tt) : DW X (.BoolOp .And [a] pos) Tt := let ⟨_, p, s⟩ := h; ⟨_, pw_and1 p, s⟩
theorem dw_or1 (h : DB X a Tt) : DW X (.BoolOp .Or [a] pos) Tt := let ⟨_, p, s⟩ := h; ⟨_, pw_or1 p, s⟩
theorem dw_and (h : DB X a Tt) (h2 : DW X (.BoolOp .And (b :: rest) pos) Tu) : DW X (.BoolOp .And (a :: b :: rest) pos) (dAnd Tt Tu) :=
  let ⟨_, p, s⟩ := h; let ⟨_, p2, s2⟩ := h2; ⟨_, pw_and p p2, fun R _ _ _ _ _ _ _ S Qd Q hT k => s R S _ _ hT fun c H1 q g => by
    cases c with
    | true => rw [if_pos rfl] at q ⊢; exact s2 R (S.grow g) Qd Q q fun b H' q' g' => k b H' q' (g.trans g')
    | false => rw [if_neg (by decide)] at q ⊢; exact k _ _ q g⟩
theorem dw_or (h : DB X a Tt) (h2 : DW X (.BoolOp .Or (b :: rest) pos) Tu) : DW X (.BoolOp .Or (a :: b :: rest) pos) (dOr Tt Tu) :=
  let ⟨_, p, s⟩ := h; let ⟨_, p2, s2⟩ := h2; ⟨_, pw_or p p2, fun R _ _ _ _ _ _ _ S Qd Q hT k => s R S _ _ hT fun c H1 q g => by
    cases c with
    | true => rw [if_pos rfl] at q ⊢; exact k _ _ q g
    | false => rw [if_neg (by decide)] at q ⊢; exact s2 R (S.grow g) Qd Q q fun b H' q' g' => k b H' q' (g.trans g')⟩
theorem db_not (h : DB X a Tt) : DB X (.UnaryOp .Not a pos) (dNot Tt) := let ⟨_, p, s⟩ := h; ⟨_, pt_not p, fun R _ _ _ _ _ _ _ S Qd Q hT k => s R S _ _ hT fun c H1 q g => k _ _ q g⟩
def dAndV (Ta Tb : DT) : DT := fun env Q => Ta env fun d => onB d fun c => if c = true then Tb env Q else Q (.bl false)
def dOrV (Ta Tb : DT) : DT := fun env Q => Ta env fun d => onB d fun c => if c = true then Q (.bl true) else Tb env Q
def dNotV (Ta : DT) : DT := fun env Q => Ta env fun d => onB d fun c => Q (.bl (!c))
theorem de_one {op} (h : DE X a T) : DE X (.BoolOp op [a] pos) T := let ⟨_, p, s⟩ := h; ⟨_, pe_one p, s⟩
theorem de_and (ha : DE X a Ta) (hb : DE X (.BoolOp .And (b :: rest) pos) Tb) : DE X (.BoolOp .And (a :: b :: rest) pos) (dAndV Ta Tb) :=
  let ⟨_, p, s⟩ := ha; let ⟨_, p2, s2⟩ := hb; ⟨_, pe_and p p2, fun R _ _ _ _ _ _ _ S Qd Q hT k => s R S _ _ hT fun d v H1 q g r => by
    obtain ⟨c, rfl, z⟩ := onB_at q
    refine ⟨c, r.bl', ?_⟩
    cases c with
    | true => rw [if_pos rfl] at z ⊢; exact s2 R (S.grow g) Qd Q z fun b v H' q' g' r' => k b v H' q' (g.trans g') r'
    | false => rw [if_neg (by decide)] at z ⊢; exact k _ _ _ z g (.bl false)⟩
theorem de_or (ha : DE X a Ta) (hb : DE X (.BoolOp .Or (b :: rest) pos) Tb) : DE X (.BoolOp .Or (a :: b :: rest) pos) (dOrV Ta Tb) :=
  let ⟨_, p, s⟩ := ha; let ⟨_, p2, s2⟩ := hb; ⟨_, pe_or p p2, fun R _ _ _ _ _ _ _ S Qd Q hT k => s R S _ _ hT fun d v H1 q g r => by
    obtain ⟨c, rfl, z⟩ := onB_at q
    refine ⟨c, r.bl', ?_⟩
    cases c with
    | true => rw [if_pos rfl] at z ⊢; exact k _ _ _ z g (.bl true)
    | false => rw [if_neg (by decide)] at z ⊢; exact s2 R (S.grow g) Qd Q z fun b v H' q' g' r' => k b v H' q' (g.trans g') r'⟩
theorem de_not (ha : DE X a Ta) : DE X (.UnaryOp .Not a pos) (dNotV Ta) :=
  let ⟨_, p, s⟩ := ha; ⟨_, pe_not p, fun R _ _ _ _ _ _ _ S Qd Q hT k => s R S _ _ hT fun d v H1 q g r => by
    obtain ⟨c, rfl, z⟩ := onB_at q
    exact ⟨c, r.bl', k _ _ _ z g (.bl _)⟩⟩
def dIf (Tt : DTT) (Ta Tb : DT) : DT := fun env Q => Tt env fun c => if c = true then Ta env Q else Tb env Q
theorem de_if (hc : DB X c Tt) (ha : DE X a Ta) (hb : DE X b Tb) : DE X (.IfExp c a b pos) (dIf Tt Ta Tb) :=
  let ⟨_, pc, sc⟩ := hc; let ⟨_, p, s⟩ := ha; let ⟨_, p2, s2⟩ := hb; ⟨_, pe_ifExp pc p p2, fun R _ _ _ _ _ _ _ S Qd Q hT k => sc R S _ _ hT fun c H1 q g => by
    cases c with
    | true => rw [if_pos rfl] at q ⊢; exact s R (S.grow g) Qd Q q fun b v H' q' g' r' => k b v H' q' (g.trans g') r'
    | false => rw [if_neg (by decide)] at q ⊢; exact s2 R (S.grow g) Qd Q q fun b v H' q' g' r' => k b v H' q' (g.trans g') r'⟩

/-! ### argument lists, displays -/
variable {es : List Expr} {TL : DTL}
def dNil : DTL := fun _ Q => Q []
def dCons (T : DT) (TL : DTL) : DTL := fun env Q => T env fun d => TL env fun ds => Q (d :: ds)
theorem da_nil : DA X [] dNil := ⟨_, pa_nil, fun R _ _ _ _ _ _ _ S Qd Q h k => k [] [] _ h .refl .nil⟩
theorem da_cons (ha : DE X e T) (hr : DA X es TL) (hs : starEach (e :: es) X.env = (false, eval e X.env) :: starEach es X.env := by rfl) : DA X (e :: es) (dCons T TL) :=
  let ⟨_, p, s⟩ := ha; let ⟨_, p2, s2⟩ := hr; ⟨_, pa_cons p p2 hs, fun R _ _ _ _ _ _ _ S Qd Q h k => s R S _ _ h fun d v H1 q1 g1 r1 => s2 R (S.grow g1) _ _ q1 fun ds vs H2 q2 g2 r2 =>
    k _ _ _ q2 (g1.trans g2) (.cons ((S.grow g1).rp g2 r1) r2)⟩
theorem DA.v (h : DA X es TL) : DAV X es TL := let ⟨t, p, s⟩ := h; ⟨t, p, fun R _ _ _ _ _ _ _ S Qd Q h k => s R S _ _ h fun ds vs H' q g r => k ds vs H' q g (r.anti S.sub)⟩
theorem rp0 (S : SR W H0 B0 pins B H σ env) (k : Gr W H H') {v : V} {d : D} (r : Rp W B0 H v d) : Rp W B0 H' v d := r.keep (fun p o b e => S.lsts p o (S.sub p b) e) (k.keepB S.rgb)
theorem dav_cons (ha : DV X e T) (hr : DAV X es TL) (hs : starEach (e :: es) X.env = (false, eval e X.env) :: starEach es X.env := by rfl) : DAV X (e :: es) (dCons T TL) :=
  let ⟨_, p, s⟩ := ha; let ⟨_, p2, s2⟩ := hr; ⟨_, pa_cons p p2 hs, fun R _ _ _ _ _ _ _ S Qd Q h k => s R S _ _ h fun d v H1 q1 g1 r1 => s2 R (S.grow g1) _ _ q1 fun ds vs H2 q2 g2 r2 =>
    k _ _ _ q2 (g1.trans g2) (.cons (rp0 (S.grow g1) g2 (r1.b0 (S.grow g1))) r2)⟩
def SZ : Nat := 100000
theorem SZ_le {n : Nat} (h : n ≤ SZ) : n ≤ sizeLine := Nat.le_trans h (by decide)
theorem SZ_lt {n : Nat} (h : n < SZ) : n < sizeLine := Nat.lt_of_lt_of_le h (by decide)
def dTup (TL : DTL) : DT := fun env Q => TL env fun ds => ds.length ≤ SZ ∧ Q (.tup ds)
def dLst (TL : DTL) : DT := fun env Q => TL env fun ds => ds.length ≤ SZ ∧ Q (.lst ds)
theorem gr_new {p : Addr} {o : HO} (hp : H p = none) : Gr W H (upd H p o) := .of fun a u e => by rw [upd_ne (ne_of_none e hp)]; exact e
theorem de_tup {k} (h : DA X es TL) : DE X (.Tuple es k pos) (dTup TL) := let ⟨_, p, s⟩ := h; ⟨_, pe_tup p, fun R _ _ _ _ _ _ _ S Qd Q h k => s R S _ _ h fun ds vs H1 q g r =>
  ⟨by rw [r.length]; exact SZ_le q.1, fun p hp => k _ _ _ q.2 (g.trans (gr_new hp)) (.tup (.of upd_same) ((S.grow g).rpL (gr_new hp) r))⟩⟩
theorem fresh_add (S : SR W H0 B0 pins B H σ env) {p : Addr} {o : HO} (hp : H p = none) {vs : List V} {ds : List D} (r : RpL W B H vs ds) : RpL W (Add B p) (upd H p o) vs ds :=
  (r.fresh hp).keep (lsts_fresh S.lsts hp) fun a u n e => by rw [upd_ne (ne_of_none e hp)]; exact e
theorem df_lst (h : DA X es TL) : DF X (.List es pos) (dLst TL) := let ⟨_, p, s⟩ := h; ⟨_, pe_lst p, fun R _ _ _ _ _ _ _ S Qd Q h k => s R S _ _ h fun ds vs H1 q g r =>
  ⟨by rw [r.length]; exact SZ_le q.1, fun p hp => k ds p vs _ q.2 (g.back hp) (g.trans (gr_new hp)) upd_same (fresh_add (S.grow g) hp r)⟩⟩
end
end MD
end
section
/-! Operators, built-ins, subscripts by data. -/
namespace MD
open PySem PySem.Spec PyProof.Rows L2

/-! ### data as the model's own -/
mutual
def toPy : D → PyData
  | .non => .none
  | .bl b => .bool b
  | .int i => .int i
  | .str x => .str x
  | .tup ds => .tuple (toPyL ds)
  | .lst ds => .list (toPyL ds)
  | _ => .none
def toPyL : List D → List PyData
  | [] => []
  | d :: ds => toPy d :: toPyL ds
end
mutual
def isPy : D → Bool
  | .non => true
  | .bl _ => true
  | .int _ => true
  | .str _ => true
  | .tup ds => isPyL ds
  | .lst ds => isPyL ds
  | _ => false
def isPyL : List D → Bool
  | [] => true
  | d :: ds => isPy d && isPyL ds
end
section
variable {W : Wd} {B : Addr → Prop} {H : Hp}
mutual
theorem Rp.dp : ∀ {d : D} {v : V}, isPy d = true → Rp W B H v d → Dp W.K H v (toPy d)
  | .non, _, _, h => by cases h; exact .non
  | .bl b, _, _, h => by cases h; exact .bl b
  | .int i, _, _, h => by cases h; exact .int i
  | .str x, _, _, h => by cases h; exact .str x
  | .tup ds, _, p, h => by cases h with | tup hs l => exact .tup hs (RpL.dp (ds := ds) p l)
  | .lst ds, _, p, h => by cases h with | lst n hs l => exact .lst (.of hs) (RpL.dp (ds := ds) p l)
  | .ob _ _, _, p, _ => by cases p
  | .fn _, _, p, _ => by cases p
  | .scr _, _, p, _ => by cases p
  | .res _, _, p, _ => by cases p
theorem RpL.dp : ∀ {ds : List D} {vs : List V}, isPyL ds = true → RpL W B H vs ds → DpAll W.K H vs (toPyL ds)
  | [], _, _, h => by cases h; exact .nil
  | d :: ds, _, p, h => by
    obtain ⟨p1, p2⟩ := Bool.and_eq_true_iff.mp (show (isPy d && isPyL ds) = true from p)
    cases h with
    | cons h l => exact .cons (Rp.dp p1 h) (RpL.dp p2 l)
end
theorem RpV.dp {B0 : Addr → Prop} {d : D} {v : V} (p : isPy d = true) (h : RpV W B0 B H v d) : Dp W.K H v (toPy d) := by
  rcases h with h | ⟨a, vs, ds, rfl, rfl, n, e, l⟩
  · exact h.dp p
  · exact .lst (.of e) (RpL.dp p l)
end
/-- what == may be asked of -/
def pyOk (d : D) : Bool := isPy d && SeqAt.shaped (toPy d)
def deqv (a b : D) : Bool := PyData.eqv (toPy a) (toPy b)
theorem pyOk_int (i : Int) : pyOk (.int i) = true := rfl
theorem pyOk_bl (i : Bool) : pyOk (.bl i) = true := rfl
theorem pyOk_non : pyOk .non = true := rfl
theorem isPyL_ints : ∀ ns : List Int, isPyL (ns.map D.int) = true
  | [] => rfl
  | n :: ns => isPyL_ints ns
theorem toPyL_map {α : Type} (f : α → D) : ∀ xs : List α, toPyL (xs.map f) = xs.map fun x => toPy (f x)
  | [] => rfl
  | x :: xs => congrArg (toPy (f x) :: ·) (toPyL_map f xs)
theorem canLay_ints : ∀ ns : List Int, PyData.canLayAll0 (toPyL (ns.map D.int)) = true
  | [] => rfl
  | n :: ns => canLay_ints ns
theorem depth_ints : ∀ ns : List Int, PyData.depthAll (toPyL (ns.map D.int)) = 0
  | [] => rfl
  | n :: ns => by
    show max (PyData.depth (.int n)) (PyData.depthAll (toPyL (ns.map D.int))) = 0
    rw [depth_ints ns]; rfl
theorem shaped_ints (ns : List Int) : SeqAt.shaped (.tuple (toPyL (ns.map D.int))) = true := by
  unfold SeqAt.shaped
  have h2 : PyData.depth (.tuple (toPyL (ns.map D.int))) = 1 := by
    show PyData.depthAll (toPyL (ns.map D.int)) + 1 = 1
    rw [depth_ints]
  rw [show PyData.canLay0 (.tuple (toPyL (ns.map D.int))) = PyData.canLayAll0 (toPyL (ns.map D.int)) from rfl, canLay_ints, h2]
  rfl
theorem pyOk_ints (ns : List Int) : pyOk (.tup (ns.map D.int)) = true := by
  unfold pyOk
  rw [show isPy (.tup (ns.map D.int)) = isPyL (ns.map D.int) from rfl, isPyL_ints]
  exact shaped_ints ns
theorem pyOk_lints (ns : List Int) : pyOk (.lst (ns.map D.int)) = true := by
  unfold pyOk
  rw [show isPy (.lst (ns.map D.int)) = isPyL (ns.map D.int) from rfl, isPyL_ints]
  exact shaped_ints ns
theorem eqvAll_ints : ∀ ns ms : List Int, PyData.eqvAll (toPyL (ns.map D.int)) (toPyL (ms.map D.int)) = decide (ns = ms)
  | [], [] => rfl
  | [], _ :: _ => rfl
  | _ :: _, [] => rfl
  | n :: ns, m :: ms => by
    show (n == m && PyData.eqvAll (toPyL (ns.map D.int)) (toPyL (ms.map D.int))) = _
    rw [eqvAll_ints ns ms]
    by_cases h : n = m
    · subst h; simp
    · simp [h]
theorem deqv_int (i j : Int) : deqv (.int i) (.int j) = decide (i = j) := by
  show (i == j) = decide (i = j)
  rw [Bool.beq_eq_decide_eq]
theorem deqv_bl (i j : Bool) : deqv (.bl i) (.bl j) = decide (i = j) := by
  show (i == j) = decide (i = j)
  rw [Bool.beq_eq_decide_eq]
theorem deqv_str (i j : Str) : deqv (.str i) (.str j) = decide (i = j) := by
  show (i == j) = decide (i = j)
  rw [Bool.beq_eq_decide_eq]
theorem deqv_ints (ns ms : List Int) : deqv (.tup (ns.map D.int)) (.tup (ms.map D.int)) = decide (ns = ms) := eqvAll_ints ns ms
theorem deqv_lints (ns ms : List Int) : deqv (.lst (ns.map D.int)) (.lst (ms.map D.int)) = decide (ns = ms) := eqvAll_ints ns ms

/-! ### operators -/
def gInt (C : Int → Int → Prop) (f : Int → Int → D) : G2 := fun a b Q => match a, b with | .int i, .int j => C i j ∧ Q (f i j) | _, _ => False
theorem gInt_at {C : Int → Int → Prop} {f : Int → Int → D} {a b : D} {Q : D → Prop} (h : gInt C f a b Q) : ∃ i j, a = .int i ∧ b = .int j ∧ C i j ∧ Q (f i j) := by
  unfold gInt at h
  split at h
  · exact ⟨_, _, rfl, rfl, h.1, h.2⟩
  · exact h.elim
theorem simR_int {W : Wd} {C C' : Int → Int → Prop} {f : Int → Int → D} {g : Int → Int → V} (hC : ∀ i j, C i j → C' i j) (hf : ∀ i j B H, Rp W B H (g i j) (f i j)) : SimR W (rI C' g) (gInt C f) := fun S x y d e r1 r2 Qd Q h k => by
  obtain ⟨i, j, rfl, rfl, c, q⟩ := gInt_at h
  exact ⟨i, j, r1.int', r2.int', hC i j c, k _ _ _ q .refl (hf i j _ _)⟩
theorem simR_int0 {W : Wd} {f : Int → Int → D} {g : Int → Int → V} (hf : ∀ i j B H, Rp W B H (g i j) (f i j)) : SimR W (rI0 g) (gInt (fun _ _ => True) f) := fun S x y d e r1 r2 Qd Q h k => by
  obtain ⟨i, j, rfl, rfl, c, q⟩ := gInt_at h
  exact ⟨i, j, r1.int', r2.int', k _ _ _ q .refl (hf i j _ _)⟩
abbrev gInt0 (f : Int → Int → D) : G2 := gInt (fun _ _ => True) f
def MulOk (i j : Int) : Prop := ((-(2 ^ 64) < i ∧ i < 2 ^ 64) ∨ (-(2 ^ 64) < j ∧ j < 2 ^ 64)) ∨ i.natAbs.log2 + j.natAbs.log2 < 1000000
def DivOk (_ j : Int) : Prop := 0 < j ∧ j.natAbs.log2 < 9000
def PowOk (i j : Int) : Prop := 0 ≤ j ∧ j ≤ 1000000 ∧ i.natAbs < 2 ^ 64
section
variable {X : Cx}
theorem do_sub : DO X (binaryOp .Sub) (gInt0 fun i j => .int (i - j)) := ⟨_, op_sub, fun R => simR_int0 fun _ _ _ _ => .int _⟩
theorem op_mulA : OpR X (binaryOp .Mult) (rI MulOk fun i j => .int (i * j)) := by
  intro pins s σ H x y v u Q I rx ry h
  obtain ⟨i, j, e1, e2, c, q⟩ := h
  rcases c with c | c
  · exact op_mul pins s σ H x y v u Q I rx ry ⟨i, j, e1, e2, c, q⟩
  · exact op_mulW pins s σ H x y v u Q I rx ry ⟨i, j, e1, e2, c, q⟩
theorem do_mul : DO X (binaryOp .Mult) (gInt MulOk fun i j => .int (i * j)) := ⟨_, op_mulA, fun R => simR_int (fun _ _ h => h) fun _ _ _ _ => .int _⟩
theorem do_fdiv : DO X (binaryOp .FloorDiv) (gInt DivOk fun i j => .int (i / j)) := ⟨_, op_fdivW, fun R => simR_int (fun _ _ h => h) fun _ _ _ _ => .int _⟩
theorem do_mod : DO X (binaryOp .Mod) (gInt (fun _ j => 0 < j) fun i j => .int (i % j)) := ⟨_, op_mod, fun R => simR_int (fun _ _ h => h) fun _ _ _ _ => .int _⟩
theorem do_pow : DO X (binaryOp .Pow) (gInt PowOk fun i j => .int (i ^ j.toNat)) := ⟨_, op_pow, fun R => simR_int (fun _ _ h => h) fun _ _ _ _ => .int _⟩
theorem do_lt : DO X (compareOp .Lt) (gInt0 fun i j => .bl (decide (i < j))) := ⟨_, op_lt, fun R => simR_int0 fun _ _ _ _ => .bl _⟩
theorem do_le : DO X (compareOp .LtE) (gInt0 fun i j => .bl (decide (i ≤ j))) := ⟨_, op_le, fun R => simR_int0 fun _ _ _ _ => .bl _⟩
theorem do_gt : DO X (compareOp .Gt) (gInt0 fun i j => .bl (decide (j < i))) := ⟨_, op_gt, fun R => simR_int0 fun _ _ _ _ => .bl _⟩
theorem do_ge : DO X (compareOp .GtE) (gInt0 fun i j => .bl (decide (j ≤ i))) := ⟨_, op_ge, fun R => simR_int0 fun _ _ _ _ => .bl _⟩
/-- + of ints, of texts, of tuples -/
def gAdd : G2 := fun a b Q => match a, b with
  | .int i, .int j => Q (.int (i + j))
  | .str x, .str y => x.length + y.length ≤ SZ ∧ Q (.str (x ++ y))
  | .tup xs, .tup ys => xs.length + ys.length ≤ SZ ∧ Q (.tup (xs ++ ys))
  | _, _ => False
theorem gAdd_at {a b : D} {Q : D → Prop} (h : gAdd a b Q) : (∃ i j, a = .int i ∧ b = .int j ∧ Q (.int (i + j))) ∨ (∃ x y, a = .str x ∧ b = .str y ∧ x.length + y.length ≤ SZ ∧ Q (.str (x ++ y))) ∨
    ∃ xs ys, a = .tup xs ∧ b = .tup ys ∧ xs.length + ys.length ≤ SZ ∧ Q (.tup (xs ++ ys)) := by
  unfold gAdd at h
  split at h
  · exact .inl ⟨_, _, rfl, rfl, h⟩
  · exact .inr (.inl ⟨_, _, rfl, rfl, h⟩)
  · exact .inr (.inr ⟨_, _, rfl, rfl, h⟩)
  · exact h.elim
theorem do_add : DO X (binaryOp .Add) gAdd := ⟨_, (op_add.or op_add_str).or op_catA, fun R _ _ _ _ _ _ _ S x y d e r1 r2 Qd Q h k => by
  rcases gAdd_at h with ⟨i, j, rfl, rfl, q⟩ | ⟨a, b, rfl, rfl, z, q⟩ | ⟨xs, ys, rfl, rfl, z, q⟩
  · exact .inl (.inl ⟨i, j, r1.int', r2.int', k _ _ _ q .refl (.int _)⟩)
  · exact .inl (.inr ⟨a, b, r1.str', r2.str', SZ_le z, k _ _ _ q .refl (.str _)⟩)
  · obtain ⟨a, us, rfl, h1, l1⟩ := r1.tup'
    obtain ⟨b, ws, rfl, h2, l2⟩ := r2.tup'
    refine .inr ⟨a, b, us, ws, rfl, rfl, h1, h2, by rw [l1.length, l2.length]; exact SZ_le z, fun n => ?_, fun _ n => ?_, fun _ _ p hp => ?_⟩
    · subst n
      cases l1
      exact k _ _ _ q .refl (.tup h2 l2)
    · subst n
      cases l2
      rw [List.append_nil] at q
      exact k _ _ _ q .refl (.tup h1 l1)
    · exact k _ _ _ q (gr_new hp) (.tup (.of upd_same) (S.rpL (gr_new hp) (l1.append l2)))⟩
/-- ==, != of data -/
def gEq : G2 := fun a b Q => pyOk a = true ∧ pyOk b = true ∧ Q (.bl (deqv a b))
def gNe : G2 := fun a b Q => pyOk a = true ∧ pyOk b = true ∧ Q (.bl (!deqv a b))
theorem room64 {k : Nat} (hr : Room k X.A) : X.A.units + 64 < cLine := by have := hr.un; omega
theorem room0 {k : Nat} (hr : Room k X.A) : X.A.units < cLine := by have := hr.un; omega
theorem do_eqV {k : Nat} (hr : Room k X.A) : DOV X (compareOp .Eq) gEq := ⟨_, op_eqD (room64 hr), fun R _ _ _ _ _ _ _ S x y d e r1 r2 Qd Q h k => by
  obtain ⟨p1, p2, q⟩ := h
  obtain ⟨p1, s1⟩ := Bool.and_eq_true_iff.mp p1
  obtain ⟨p2, s2⟩ := Bool.and_eq_true_iff.mp p2
  exact ⟨_, _, r1.dp p1, r2.dp p2, s1, s2, k _ _ _ q .refl (.bl _)⟩⟩
theorem do_neV {k : Nat} (hr : Room k X.A) : DOV X (compareOp .NotEq) gNe := ⟨_, op_neD (room64 hr), fun R _ _ _ _ _ _ _ S x y d e r1 r2 Qd Q h k => by
  obtain ⟨p1, p2, q⟩ := h
  obtain ⟨p1, s1⟩ := Bool.and_eq_true_iff.mp p1
  obtain ⟨p2, s2⟩ := Bool.and_eq_true_iff.mp p2
  exact ⟨_, _, r1.dp p1, r2.dp p2, s1, s2, k _ _ _ q .refl (.bl _)⟩⟩
theorem DOV.o {f : Value → Value → Sem Value} {g : G2} (h : DOV X f g) : DO X f g := let ⟨r, p, s⟩ := h; ⟨r, p, fun R _ _ _ _ _ _ _ S x y d e r1 r2 Qd Q hg k => s R S (.inl r1) (.inl r2) Qd Q hg k⟩
theorem do_eq {k : Nat} (hr : Room k X.A) : DO X (compareOp .Eq) gEq := (do_eqV hr).o
theorem do_ne {k : Nat} (hr : Room k X.A) : DO X (compareOp .NotEq) gNe := (do_neV hr).o
/-- < of tuples of ints -/
def gLtT : G2 := fun a b Q => ∃ ns ms : List Int, a = .tup (ns.map D.int) ∧ b = .tup (ms.map D.int) ∧ Q (.bl (HT.lexLt ns ms))
theorem do_ltT {k : Nat} (hr : Room k X.A) : DO X (compareOp .Lt) gLtT := ⟨_, op_ltT (room0 hr), fun R _ _ _ _ _ _ _ S x y d e r1 r2 Qd Q h k => by
  obtain ⟨ns, ms, rfl, rfl, q⟩ := h
  obtain ⟨a, us, rfl, h1, l1⟩ := r1.tup'
  obtain ⟨b, ws, rfl, h2, l2⟩ := r2.tup'
  rw [l1.ints] at h1
  rw [l2.ints] at h2
  exact ⟨a, b, ns, ms, rfl, rfl, h1, h2, k _ _ _ q .refl (.bl _)⟩⟩
/-- is, is not: None; truths -/
def isNon : D → Bool
  | .non => true
  | _ => false
def gIsN : G2 := fun a b Q => b = .non ∧ Q (.bl (isNon a))
def gNotN : G2 := fun a b Q => b = .non ∧ Q (.bl (!isNon a))
theorem Rp.isN {W : Wd} {B : Addr → Prop} {H : Hp} {v : V} {d : D} (h : Rp W B H v d) : decide (v = .non) = isNon d := by cases h <;> simp [isNon]
theorem RpV.isN {W : Wd} {B0 B : Addr → Prop} {H : Hp} {v : V} {d : D} (h : RpV W B0 B H v d) : decide (v = .non) = isNon d := by
  rcases h with h | ⟨p, vs, ds, rfl, rfl, _⟩
  · exact h.isN
  · simp [isNon]
theorem RpV.non' {W : Wd} {B0 B : Addr → Prop} {H : Hp} {v : V} (h : RpV W B0 B H v .non) : v = .non := by
  rcases h with h | ⟨p, vs, es, rfl, e, _⟩
  · exact h.non'
  · cases e
theorem do_isN : DOV X (compareOp .Is) gIsN := ⟨_, op_isN, fun R _ _ _ _ _ _ _ S x y d e r1 r2 Qd Q h k => by
  obtain ⟨rfl, q⟩ := h
  refine ⟨r2.non', ?_⟩
  rw [r1.isN]
  exact k _ _ _ q .refl (.bl _)⟩
theorem do_notN : DOV X (compareOp .IsNot) gNotN := ⟨_, op_notN, fun R _ _ _ _ _ _ _ S x y d e r1 r2 Qd Q h k => by
  obtain ⟨rfl, q⟩ := h
  refine ⟨r2.non', ?_⟩
  rw [r1.isN]
  exact k _ _ _ q .refl (.bl _)⟩
def gIsB : G2 := fun a b Q => match a, b with | .bl i, .bl j => Q (.bl (decide (i = j))) | _, _ => False
def gNotB : G2 := fun a b Q => match a, b with | .bl i, .bl j => Q (.bl (!decide (i = j))) | _, _ => False
theorem do_isB : DO X (compareOp .Is) gIsB := ⟨_, op_isBl, fun R _ _ _ _ _ _ _ S x y d e r1 r2 Qd Q h k => by
  unfold gIsB at h
  split at h
  · exact ⟨_, _, r1.bl', r2.bl', k _ _ _ h .refl (.bl _)⟩
  · exact h.elim⟩
theorem do_notB : DO X (compareOp .IsNot) gNotB := ⟨_, op_notBl, fun R _ _ _ _ _ _ _ S x y d e r1 r2 Qd Q h k => by
  unfold gNotB at h
  split at h
  · exact ⟨_, _, r1.bl', r2.bl', k _ _ _ h .refl (.bl _)⟩
  · exact h.elim⟩
/-- a text in a text; a text among texts of a tuple -/
def inStr (x y : Str) : Bool := !(Builtin.Str.occurrences y x 0 y.length 1).isEmpty
def gInS (n : Bool) : G2 := fun a b Q => match a, b with | .str x, .str y => Q (.bl (if n then !inStr x y else inStr x y)) | _, _ => False
theorem do_inS : DO X (compareOp .In) (gInS false) := ⟨_, op_in_str, fun R _ _ _ _ _ _ _ S x y d e r1 r2 Qd Q h k => by
  unfold gInS at h
  split at h
  · exact ⟨_, _, r1.str', r2.str', k _ _ _ h .refl (.bl _)⟩
  · exact h.elim⟩
theorem do_notInS : DO X (compareOp .NotIn) (gInS true) := ⟨_, op_notin_str, fun R _ _ _ _ _ _ _ S x y d e r1 r2 Qd Q h k => by
  unfold gInS at h
  split at h
  · exact ⟨_, _, r1.str', r2.str', k _ _ _ h .refl (.bl _)⟩
  · exact h.elim⟩
end

/-! ### lists put together -/
section
variable {X : Cx} {e a b : Expr} {T Ta Tb : DT} {pos : Pos}
def dCat (Ta Tb : DT) : DT := fun env Q => Ta env fun a => Tb env fun b => match a, b with | .lst xs, .lst ys => xs.length + ys.length ≤ SZ ∧ Q (.lst (xs ++ ys)) | _, _ => False
theorem RpV.lst' {W : Wd} {B0 B : Addr → Prop} {H : Hp} {v : V} {ds : List D} (h : RpV W B0 B H v (.lst ds)) : ∃ p vs, v = .ref p ∧ H p = some (.lst vs) ∧ RpL W B H vs ds := by
  rcases h with h | ⟨p, vs, es, rfl, e, _, h1, l⟩
  · obtain ⟨p, vs, rfl, _, h1, l⟩ := h.lst'
    exact ⟨p, vs, rfl, h1, l⟩
  · cases e
    exact ⟨p, vs, rfl, h1, l⟩
theorem RpV.tup' {W : Wd} {B0 B : Addr → Prop} {H : Hp} {v : V} {ds : List D} (h : RpV W B0 B H v (.tup ds)) : ∃ a xs, v = .ref a ∧ SqT W.K H a xs ∧ RpL W B H xs ds := by
  rcases h with h | ⟨p, vs, es, rfl, e, _⟩
  · exact h.tup'
  · cases e
theorem RpV.int' {W : Wd} {B0 B : Addr → Prop} {H : Hp} {v : V} {i : Int} (h : RpV W B0 B H v (.int i)) : v = .int i := by
  rcases h with h | ⟨p, vs, es, rfl, e, _⟩
  · exact h.int'
  · cases e
theorem RpV.str' {W : Wd} {B0 B : Addr → Prop} {H : Hp} {v : V} {i : Str} (h : RpV W B0 B H v (.str i)) : v = .str i := by
  rcases h with h | ⟨p, vs, es, rfl, e, _⟩
  · exact h.str'
  · cases e
theorem df_cat (ha : DV X a Ta) (hb : DV X b Tb) : DF X (.BinOp a .Add b pos) (dCat Ta Tb) := let ⟨_, pa, sa⟩ := ha; let ⟨_, pb, sb⟩ := hb; ⟨_, pe_op op_cat pa pb, fun R _ _ _ _ _ _ _ S Qd Q h k =>
  sa R S _ _ h fun d v H1 q1 g1 r1 => sb R (S.grow g1) _ _ q1 fun f u H2 q2 g2 r2 => by
    have r1 := r1.grow (S.grow g1) g2
    split at q2
    · obtain ⟨p, vs, rfl, h1, l1⟩ := r1.lst'
      obtain ⟨p', ws, rfl, h2, l2⟩ := r2.lst'
      have S2 := (S.grow g1).grow g2
      exact ⟨p, p', vs, ws, rfl, rfl, h1, h2, by rw [l1.length, l2.length]; exact SZ_le q2.1, fun n hn => k _ n _ _ q2.2 ((g1.trans g2).back hn) ((g1.trans g2).trans (gr_new hn)) upd_same (fresh_add S2 hn (l1.append l2))⟩
    · exact q2.elim⟩
/-- [..] * k -/
def dRep (Ta Tb : DT) : DT := fun env Q => Ta env fun a => Tb env fun b => match a, b with | .lst xs, .int k => (-(2 ^ 63) ≤ k ∧ k < 2 ^ 63 ∧ xs.length * k.toNat ≤ SZ) ∧ Q (.lst (List.replicate k.toNat xs).flatten) | _, _ => False
theorem RpL.rep {W : Wd} {B : Addr → Prop} {H : Hp} {vs : List V} {ds : List D} (l : RpL W B H vs ds) : ∀ n : Nat, RpL W B H (List.replicate n vs).flatten (List.replicate n ds).flatten
  | 0 => .nil
  | n + 1 => by
    rw [List.replicate_succ, List.replicate_succ, List.flatten_cons, List.flatten_cons]
    exact l.append (l.rep n)
theorem df_rep (ha : DV X a Ta) (hb : DE X b Tb) : DF X (.BinOp a .Mult b pos) (dRep Ta Tb) := let ⟨_, pa, sa⟩ := ha; let ⟨_, pb, sb⟩ := hb; ⟨_, pe_op op_rep pa pb, fun R _ _ _ _ _ _ _ S Qd Q h k =>
  sa R S _ _ h fun d v H1 q1 g1 r1 => sb R (S.grow g1) _ _ q1 fun f u H2 q2 g2 r2 => by
    have r1 := r1.grow (S.grow g1) g2
    split at q2
    · obtain ⟨p, vs, rfl, h1, l1⟩ := r1.lst'
      have S2 := (S.grow g1).grow g2
      exact ⟨p, _, vs, rfl, r2.int', h1, q2.1.1, q2.1.2.1, by rw [l1.length]; exact SZ_le q2.1.2.2, fun n hn => k _ n _ _ q2.2 ((g1.trans g2).back hn) ((g1.trans g2).trans (gr_new hn)) upd_same (fresh_add S2 hn (l1.rep _))⟩
    · exact q2.elim⟩

/-! ### places -/
/-- a[i] -/
def dIx (Ta Tb : DT) : DT := fun env Q => Ta env fun a => Tb env fun b => match a, b with
  | .lst xs, .int i => ∃ d, atI xs i = some d ∧ Q d
  | .tup xs, .int i => ∃ d, atI xs i = some d ∧ Q d
  | .str z, .int i => z.length ≤ SZ ∧ ∃ c, atI z.cps.toList i = some c ∧ Q (.str ⟨#[c]⟩)
  | _, _ => False
theorem RpL.atI {W : Wd} {B : Addr → Prop} {H : Hp} {vs : List V} {ds : List D} {i : Int} {d : D} (l : RpL W B H vs ds) (h : L2.atI ds i = some d) : ∃ v, L2.atI vs i = some v ∧ Rp W B H v d := by
  unfold L2.atI at h ⊢
  rw [l.length]
  cases e : ixN ds.length i with
  | none => rw [e] at h; cases h
  | some j =>
    rw [e] at h
    obtain ⟨v, e1, r⟩ := l.getD h
    exact ⟨v, e1, r⟩
theorem de_ix (ha : DV X a Ta) (hb : DE X b Tb) (hs : PlainIx b := by exact fun _ _ => rfl) : DE X (.Subscript a b pos) (dIx Ta Tb) := let ⟨_, pa, sa⟩ := ha; let ⟨_, pb, sb⟩ := hb; ⟨_, pe_ix ix_seq pa pb hs, fun R _ _ _ _ _ _ _ S Qd Q h k =>
  sa R S _ _ h fun d v H1 q1 g1 r1 => sb R (S.grow g1) _ _ q1 fun f u H2 q2 g2 r2 => by
    have r1 := r1.grow (S.grow g1) g2
    split at q2
    · obtain ⟨p, vs, rfl, h1, l1⟩ := r1.lst'
      obtain ⟨d, e, q⟩ := q2
      obtain ⟨v, e', r⟩ := l1.atI e
      exact .inl ⟨p, vs, _, v, rfl, r2.int', .of h1, e', k _ _ _ q (g1.trans g2) r⟩
    · obtain ⟨p, vs, rfl, h1, l1⟩ := r1.tup'
      obtain ⟨d, e, q⟩ := q2
      obtain ⟨v, e', r⟩ := l1.atI e
      exact .inr (.inl ⟨p, vs, _, v, rfl, r2.int', h1, e', k _ _ _ q (g1.trans g2) r⟩)
    · obtain ⟨z, c, e, q⟩ := q2
      exact .inr (.inr ⟨_, _, c, r1.str', r2.int', SZ_le z, e, k _ _ _ q (g1.trans g2) (.str _)⟩)
    · exact q2.elim⟩
/-- parts of a slice -/
abbrev DTO := Ev → (Option Int → Prop) → Prop
def SimO (W : Wd) (t : TO) (T : DTO) : Prop := ∀ {H0 : Hp} {B0 : Addr → Prop} {pins : List (V × D)} {B : Addr → Prop} {H : Hp} {σ : L2.St} {env : Ev}, SR W H0 B0 pins B H σ env → ∀ (Qd : Option Int → Prop) (Q : Option Int → Hp → Prop), T env Qd →
  (∀ o H', Qd o → Gr W H H' → Q o H') → t σ H Q
def DPt (X : Cx) (e : Option Expr) (T : DTO) : Prop := ∃ t, PO X e t ∧ ∀ R, SimO (Cx.wd X R) t T
def dNoPt : DTO := fun _ Q => Q none
def dPt (T : DT) : DTO := fun env Q => T env fun d => match d with | .int i => Q (some i) | _ => False
theorem dpt_none : DPt X none dNoPt := ⟨_, po_none, fun R _ _ _ _ _ _ _ S Qd Q h k => k _ _ h .refl⟩
theorem dpt_some (h : DE X e T) : DPt X (some e) (dPt T) := let ⟨_, p, s⟩ := h; ⟨_, po_some p, fun R _ _ _ _ _ _ _ S Qd Q h k => s R S _ _ h fun d v H1 q g r => by
  split at q
  · exact ⟨_, r.int', k _ _ q g⟩
  · exact q.elim⟩
def cutD {α : Type} (xs : List α) (lo hi : Option Int) : List α := (xs.drop (HT.sIx xs.length 0 lo)).take (HT.sIx xs.length xs.length hi - HT.sIx xs.length 0 lo)
theorem RpL.cut {W : Wd} {B : Addr → Prop} {H : Hp} {vs : List V} {ds : List D} (l : RpL W B H vs ds) (lo hi : Option Int) : RpL W B H (cutV vs lo hi) (cutD ds lo hi) := by
  unfold cutV cutD
  rw [l.length]
  exact (l.drop _).take _
variable {lo hi : Option Expr} {Tl Th : DTO} {p2 : Pos}
/-- a tuple's, a text's slice -/
def dSl (T : DT) (Tl Th : DTO) : DT := fun env Q => T env fun d => Tl env fun lo => Th env fun hi => match d with
  | .tup xs => Q (.tup (cutD xs lo hi))
  | .str z => z.length ≤ SZ ∧ Q (.str (cutS z lo hi))
  | _ => False
theorem de_sl (h : DE X e T) (hl : DPt X lo Tl) (hh : DPt X hi Th) : DE X (.Subscript e (.Slice lo hi none p2) pos) (dSl T Tl Th) := let ⟨_, p, s⟩ := h; let ⟨_, p', s'⟩ := hl; let ⟨_, p'', s''⟩ := hh;
  ⟨_, pe_slice (sl_tupA.or sl_str) p p' p'', fun R _ _ _ _ _ _ _ S Qd Q h k => s R S _ _ h fun d v H1 q1 g1 r1 => s' R (S.grow g1) _ _ q1 fun o H2 q2 g2 => s'' R ((S.grow g1).grow g2) _ _ q2 fun o' H3 q3 g3 => by
    have S3 := ((S.grow g1).grow g2).grow g3
    have r1 := (S.grow g1).rp (g2.trans g3) r1
    have G := (g1.trans g2).trans g3
    split at q3
    · obtain ⟨a, xs, rfl, h1, l1⟩ := r1.tup'
      refine .inl ⟨a, xs, rfl, h1, fun w => ?_, fun w n hn => ?_⟩
      · have e : cutV xs o o' = xs := by
          unfold cutV
          rw [w.1, w.2, List.drop_zero, Nat.sub_zero, List.take_length]
        have l2 := l1.cut o o'
        rw [e] at l2
        exact k _ _ _ q3 G (.tup h1 l2)
      · exact k _ _ _ q3 (G.trans (gr_new hn)) (.tup (.of upd_same) (S3.rpL (gr_new hn) (l1.cut _ _)))
    · exact .inr ⟨_, r1.str', SZ_le q3.1, k _ _ _ q3.2 G (.str _)⟩
    · exact q3.elim⟩
/-- a list's slice -/
def dSlL (T : DT) (Tl Th : DTO) : DT := fun env Q => T env fun d => Tl env fun lo => Th env fun hi => match d with
  | .lst xs => Q (.lst (cutD xs lo hi))
  | _ => False
theorem df_sl (h : DV X e T) (hl : DPt X lo Tl) (hh : DPt X hi Th) : DF X (.Subscript e (.Slice lo hi none p2) pos) (dSlL T Tl Th) := let ⟨_, p, s⟩ := h; let ⟨_, p', s'⟩ := hl; let ⟨_, p'', s''⟩ := hh;
  ⟨_, pe_slice sl_list p p' p'', fun R _ _ _ _ _ _ _ S Qd Q h k => s R S _ _ h fun d v H1 q1 g1 r1 => s' R (S.grow g1) _ _ q1 fun o H2 q2 g2 => s'' R ((S.grow g1).grow g2) _ _ q2 fun o' H3 q3 g3 => by
    have S3 := ((S.grow g1).grow g2).grow g3
    have r1 := r1.grow (S.grow g1) (g2.trans g3)
    have G := (g1.trans g2).trans g3
    split at q3
    · obtain ⟨p, vs, rfl, h1, l1⟩ := r1.lst'
      exact ⟨p, vs, rfl, .of h1, fun n hn => k _ n _ _ q3 (G.back hn) (G.trans (gr_new hn)) upd_same (fresh_add S3 hn (l1.cut _ _))⟩
    · exact q3.elim⟩
/-- xs[::-1] of a list -/
def dRevL (T : DT) : DT := fun env Q => T env fun d => match d with | .lst xs => Q (.lst xs.reverse) | _ => False
theorem df_rev {k : Nat} {p1 p3 : Pos} (h : DV X e T) : DF X (.Subscript e (.Slice none none (some (.UnaryOp .USub (.Constant (.int 1) k p1) p2)) p3) pos) (dRevL T) := let ⟨_, p, s⟩ := h;
  ⟨_, pe_revL p, fun R _ _ _ _ _ _ _ S Qd Q h k => s R S _ _ h fun d v H1 q1 g1 r1 => by
    split at q1
    · obtain ⟨p, vs, rfl, h1, l1⟩ := r1.lst'
      exact ⟨p, vs, rfl, .of h1, fun n hn => k _ n _ _ q1 (g1.back hn) (g1.trans (gr_new hn)) upd_same (fresh_add (S.grow g1) hn l1.reverse)⟩
    · exact q1.elim⟩
end
end MD
end
section
/-! enumerate, zip of lists and tuples in any mix, as what a for walks. -/
namespace MD
open PySem PySem.Spec PyProof.Rows L2

set_option maxHeartbeats 1000000 in
theorem meets_enum1 {v : Value} {o : Obj} {H : Heap → Prop} (B : Begins v o H) :
    Meets (Builtin.«enumerate.__new__» ⟨[.type "enumerate", v], []⟩) (fun _ R s => H s.heap ∧
      R (.ok (.ret (.ref (s.heap.push o).objs.size))) { s with heap := (s.heap.push o).push { cls := .type "enumerate", data := .fields #[.none, .bool false, .ref s.heap.objs.size, rawInt 0, .none, .none] } }) :=
  .of_wp fun prog w A R s h => by
    obtain ⟨hp, g, d, tk, os⟩ := s; obtain ⟨h1, h⟩ := h
    have hsub := sub_enumerate
    have q1 : ∀ {A' : Around} {E : Value → Shared → Prop} {Q : Value → Shared → Prop}, Q (.ref hp.objs.size) ⟨hp.push o, g, d, tk, os⟩ → wpAny (model prog w) A' (pyIter v) Q E ⟨hp, g, d, tk, os⟩ :=
      fun q => B.iter prog w _ _ ⟨hp, g, d, tk, os⟩ _ h1 q
    wp_walk using q1
    refine wpAny_stack_any fun st => wpAny_pure ?_
    split
    · rename_i c _ _ _ _ _
      cases (c == Value.type "enumerate")
      · wp_walk using q1
        exact ⟨_, rfl, h⟩
      · wp_walk using q1
        exact ⟨_, rfl, h⟩
    · wp_walk using q1
      exact ⟨_, rfl, h⟩
section
variable {prog : Program} {w : World} {A : Around} {E : Value → Shared → Prop} {s : Shared}
theorem enum_begins1 {v : Value} {o : Obj} {H : Heap → Prop} {Q : Value → Shared → Prop} (B : Begins v o H) (h1 : H s.heap)
    (h : ∀ h', IsEnum h' (s.heap.objs.size + 1) s.heap.objs.size 0 .none → h'.get? s.heap.objs.size = some o → h'.objs.size = s.heap.objs.size + 2 →
      (∀ b o, s.heap.get? b = some o → h'.get? b = some o) → Q (.ref (s.heap.objs.size + 1)) { s with heap := h' }) :
    wpAny (model prog w) A (call (.type "enumerate") [v]) Q E s := by
  refine callType_new F.called_enumerate (by decide) (F.typeCall_enumerate_1 _) (F.newCall_enumerate_1 _) (fun obj => F.args_object_init_2 obj _) F.entry_enumerate_new
    (meets_enum1 B) ⟨h1, ?_⟩
  have hz : (s.heap.push o).objs.size = s.heap.objs.size + 1 := Heap.size_push ..
  show _ ∧ _
  rw [hz]
  have he : IsEnum ((s.heap.push o).push { cls := .type "enumerate", data := .fields #[.none, .bool false, .ref s.heap.objs.size, rawInt 0, .none, .none] }) (s.heap.objs.size + 1) s.heap.objs.size 0 .none := by
    have := Heap.get?_push_size (s.heap.push o) (o := { cls := .type "enumerate", data := .fields #[.none, .bool false, .ref s.heap.objs.size, rawInt 0, .none, .none] }) rfl
    rw [hz] at this; exact this
  refine ⟨⟨_, he, rfl⟩, h _ he (Heap.get?_push_of_some _ (Heap.get?_push_size _ B.free)) (by rw [Heap.size_push, hz]) fun b o x => Heap.get?_push_of_some _ (Heap.get?_push_of_some _ x)⟩
end

/-! ### a list or a tuple -/
def SqK (k : Bool) (K : PySem.W.Frag) (H : Hp) (a : Addr) (xs : List V) : Prop := if k = true then SqL K H a xs else SqT K H a xs
def IsK (k : Bool) (h : Heap) (a : Addr) (its : Array Value) : Prop := if k = true then h.IsList a its else h.IsTuple a its
def ItK (k : Bool) (h : Heap) (it a : Addr) (i : Nat) : Prop := if k = true then h.IsListIter it a i else h.IsTupleIter it a i
def ObK (k : Bool) (a : Addr) : Obj := if k = true then { cls := .type "list_iterator", data := .fields #[.ref a, .int 0 0] } else { cls := .type "tuple_iterator", data := .fields #[.ref a, .int 0 0] }
theorem SqK.it {X : Cx} {pins : List (Addr × Obj)} {σ : L2.St} {H : Hp} {s : Shared} {a : Addr} {xs : List V} {k : Bool} (I : Inv X pins σ H s) (h : SqK k X.K H a xs) : ∃ its : List Value, Vals xs its ∧ IsK k s.heap a its.toArray := by
  cases k with
  | true => obtain ⟨its, r, p, _⟩ := I.list h; exact ⟨its, r, p.isList⟩
  | false => obtain ⟨its, r, p, _⟩ := I.tuple h; exact ⟨its, r, p⟩
theorem SqK.inj {X : Cx} {pins : List (Addr × Obj)} {σ : L2.St} {H : Hp} {s : Shared} {a : Addr} {xs ys : List V} {k : Bool} (I : Inv X pins σ H s) (h : SqK k X.K H a xs) (h' : SqK k X.K H a ys) : xs = ys := by
  cases k with
  | true => exact I.list_inj h h'
  | false => exact I.tuple_inj h h'
theorem drawsK {prog : Program} {w : World} {A : Around} (k : Bool) (hh : A.handled = none) (it a : Addr) (hne : a ≠ it) (items : Array Value) :
    Draws prog w A it [it, a] items.size (fun i v => items[i]? = some v) (fun i h => ItK k h it a i ∧ IsK k h a items) := by
  cases k with
  | true => exact Draws.list hh it a hne items
  | false => exact Draws.tuple hh it a hne items
theorem beginsK (k : Bool) (a : Addr) (items : Array Value) : Begins (.ref a) (ObK k a) fun h => IsK k h a items := by
  cases k with
  | true => exact begins_list a items
  | false => exact begins_tuple a items
theorem ItK.first {k : Bool} {h : Heap} {it a : Addr} (e : h.get? it = some (ObK k a)) : ItK k h it a 0 := by
  cases k with
  | true => exact ⟨_, e, rfl, rfl⟩
  | false => exact ⟨_, e, rfl, rfl⟩
theorem ItK.live {k : Bool} {h : Heap} {it a : Addr} {i : Nat} (e : ItK k h it a i) : ∃ o, h.get? it = some o ∧ ∀ v, o.data ≠ .cell v := by
  cases k with
  | true => obtain ⟨o, ho, _, hd⟩ := e; exact ⟨o, ho, fun v q => by rw [hd] at q; cases q⟩
  | false => obtain ⟨o, ho, _, hd⟩ := e; exact ⟨o, ho, fun v q => by rw [hd] at q; cases q⟩
theorem ItK.keep {k : Bool} {h h' : Heap} {it a : Addr} {i : Nat} (e : ItK k h it a i) (q : ∀ o, h.get? it = some o → h'.get? it = some o) : ItK k h' it a i := by
  cases k with
  | true => exact Heap.IsListIter.at e q
  | false => exact Heap.IsTupleIter.at e q
theorem IsK.ne {k : Bool} {h : Heap} {it a : Addr} {i : Nat} {its : Array Value} (e : IsK k h a its) (e' : ItK k h it a i) : a ≠ it := by
  rintro rfl
  cases k with
  | true => obtain ⟨o, ho, hc, _⟩ := e; obtain ⟨o', ho', hc', _⟩ := e'; rw [ho] at ho'; cases ho'; rw [hc] at hc'; simp at hc'
  | false => obtain ⟨o, ho, hc, _⟩ := e; obtain ⟨o', ho', hc', _⟩ := e'; rw [ho] at ho'; cases ho'; rw [hc] at hc'; simp at hc'

theorem _root_.L2.Inv.turnedO {X : Cx} {pins : List (Addr × Obj)} {σ : L2.St} {H : Hp} {s : Shared} {h' : Heap} {t' : Nat} {ch : List Addr} (I : Inv X pins σ H s) (hf : ∀ b ∈ ch, FpOk X pins H b) (hk : ∀ b o, b ∉ ch → s.heap.get? b = some o → h'.get? b = some o) :
    Inv X pins σ H { s with heap := h', toks := t' } := by
  refine I.step (g' := s.gens) (d' := s.drawn) (ch := ch) (fun b hb => ⟨(hf b hb).2.2.2.1, (hf b hb).2.1, (hf b hb).2.2.2.2.1, (hf b hb).2.2.2.2.2⟩) (fun b o _ _ hc e _ => hk b o hc e) (fun b o _ _ hc e _ => ⟨o.slots, hk b o hc e⟩) (fun _ _ _ _ n => n)
    (fun b o hc e => ⟨o, hk b o hc e⟩) (fun _ _ e => e) (fun _ _ _ e => e) (fun b ps e => ⟨#[], by rw [e]; simp⟩) (fun m hm => ?_) (fun b u q => ?_) I.bare
  · obtain ⟨o, es, ep, ho, r⟩ := hm
    exact ⟨o, es, ep, hk _ o (fun z => (hf _ z).2.1 rfl) ho, r⟩
  · refine (I.hok b u q).stay (fun c v hc z => hk c v (fun m => ?_) z) (fun _ q => q) fun _ _ q => q
    have := (hf c m).1
    rcases hc with rfl | hc
    · rw [this] at q; cases q
    · rw [this] at hc; cases hc

/-! ### enumerate -/
def IteK (k : Bool) (K : PySem.W.Frag) (a : Addr) (k0 : Int) : It :=
  ⟨fun i H => ∃ (xs : List V) (x : V), SqK k K H a xs ∧ xs[i]? = some x, fun i H v H' => ∃ T x, v = .ref T ∧ H T = none ∧ H' = upd H T (.tup [.int (k0 + (i : Nat)), x]) ∧ ∀ xs, SqK k K H a xs → xs[i]? = some x,
    fun i H => ∃ xs : List V, SqK k K H a xs ∧ xs.length = i⟩
theorem turn_enumK {P : Program} {w : World} {K : PySem.W.Frag} {elts : List Expr} {kk : Nat} {tpos : Pos} (k : Bool) (a e it : Addr) (k0 : Int) :
    Turn P w K (.Tuple elts kk tpos) (IteK k K a k0) [e, it] e (fun i h => (∃ old, IsEnum h e it (k0 + (i : Nat)) old) ∧ ItK k h it a i ∧ e ≠ it ∧ e ≠ a) where
  mem := by simp
  obj := fun i h st b hb => by
    obtain ⟨⟨old, he⟩, hi, _⟩ := st
    have e' : b = e ∨ b = it := by simpa using hb
    rcases e' with z | z
    · rw [z]; exact ⟨_, he, fun v q => nomatch q⟩
    · rw [z]; exact hi.live
  keep := fun i h h' st k => let ⟨⟨old, he⟩, hi, hne⟩ := st; ⟨⟨old, k e (by simp) _ he⟩, hi.keep fun o q => k it (by simp) o q, hne⟩
  item := by
    intro X hP hw hK hc i pins s σ H E I hf st hg
    subst hP hw hK
    obtain ⟨⟨old, he⟩, hit, hne, hna⟩ := st
    obtain ⟨xs, x, hq, hx⟩ := hg
    obtain ⟨its, rv, p⟩ := hq.it I
    obtain ⟨u, hu, ru⟩ := rv.get hx
    have hlt : i < its.toArray.size := by have := (List.getElem?_eq_some_iff.mp hu).1; simpa using this
    have W := WalksT.enumFrom k0 (drawsK (prog := X.prog) (w := X.w) (A := X.A.in1) k (I.ok.hd hc) it a (p.ne hit) its.toArray) e hne (by simp [hne, hna]) (by simp)
    refine W.item i s _ _ hlt ⟨⟨old, he⟩, hit, p⟩ fun T vals h' tk hP hT hTu hM hk => ⟨_, rfl, W.go _ _ _ i T { s with heap := h', toks := tk } _ _ hM fun h'' hS hk2 => ?_⟩
    obtain ⟨t, y, hy, rfl⟩ := hP
    have ey : y = u := by
      have : its[i]? = some y := by simpa using hy
      rw [hu] at this
      exact (Option.some.inj this).symm
    subst ey
    obtain ⟨oT, hoT, hcT, nT, hdT⟩ := hTu
    have hTw := W.apart i T h' hM
    have new : ObjOk X.prog X.w (upd H T (.tup [.int (k0 + (i : Nat)), x])) h'' T (.tup [.int (k0 + (i : Nat)), x]) :=
      ⟨by show 2 ≤ sizeLine; decide, [.int (k0 + (i : Nat)) t, y], .cons ⟨_, rfl⟩ (.cons ru .nil), ⟨oT, hk2 T oT hTw hoT, hcT, nT, hdT⟩⟩
    have I1 : Inv X pins σ (upd H T (.tup [.int (k0 + (i : Nat)), x])) { s with heap := h'', toks := tk } :=
      I.turnedNew (ch := [e, it]) (fun b ob hb q => hk2 b ob hb (hk b ob hb q)) hf hT new
    refine ⟨.ref T, _, I1, rfl, ⟨T, x, rfl, I.hok.fresh hT, rfl, fun ys hy => by rw [hy.inj I hq]; exact hx⟩, ⟨hS.1, hS.2.1, hne, hna⟩, fun b hb => ?_⟩
    rw [upd_ne (fun z : b = T => hTw (by rw [← z]; exact hb))]
    exact (hf b hb).1
  done := by
    intro X hP hw hK hc i pins s σ H E I hf st hg
    subst hP hw hK
    obtain ⟨⟨old, he⟩, hit, hne, hna⟩ := st
    obtain ⟨xs, hq, rfl⟩ := hg
    obtain ⟨its, rv, p⟩ := hq.it I
    obtain ⟨f0, f1, f2, f3, f4, f5⟩ := hf it (by simp)
    have W := WalksT.enumFrom k0 (drawsK (prog := X.prog) (w := X.w) (A := X.A.in1) k (I.ok.hd hc) it a (p.ne hit) its.toArray) e hne (by simp [hne, hna]) (by simp)
    have hl : its.toArray.size = xs.length := by simpa using rv.length.symm
    refine W.done s _ _ (by rw [hl]; exact ⟨⟨old, he⟩, hit, p⟩) fun h' tk hk => ⟨rfl, ?_⟩
    exact I.turnedO hf hk
  self := fun A i s Q E st h => let ⟨⟨_, he⟩, _⟩ := st; wpAny_pyIter_enum he h
def iEnumK (K : PySem.W.Frag) (ta : TA) : TI := fun σ H R => ta σ H fun vs H1 => ∃ k a xs, vs = [.ref a] ∧ SqK k K H1 a xs ∧ R (IteK k K a 0) H1
theorem pi_enumK {X : Cx} {e : Expr} {ta : TA} {p pos tpos : Pos} {elts : List Expr} {kk : Nat} (hg : Gl X "enumerate") (hm : X.mg "enumerate" = none) (ha : PA X [e] ta) (hs : starEach [e] X.env = [(false, eval e X.env)] := by rfl) :
    PI X (.Tuple elts kk tpos) (.Call (.Name "enumerate" p) [e] [] pos) (iEnumK X.K ta) := by
  refine ⟨fun pins s σ H R I h => ?_⟩
  refine Call_ (ld_blt I hg hm boot_enumerate (PyProof.Rows.callWith_type1 (thn (ha.run pos pins s σ H _ I h) fun us s1 ⟨vs, H1, I1, r1, q1⟩ => ?_) hs rfl))
  obtain ⟨k, a, xs, ex, hq, q⟩ := q1
  subst ex
  cases r1 with
  | cons r rr =>
    cases rr
    cases r
    obtain ⟨its, rv, p'⟩ := hq.it I1
    have hal : a < s1.heap.objs.size := by
      cases k with
      | true => obtain ⟨o, ho, _⟩ := p'; exact Heap.lt_size ho
      | false => obtain ⟨o, ho, _⟩ := p'; exact Heap.lt_size ho
    refine enum_begins1 (beginsK k a its.toArray) p' fun h' he hit hsz hk => wpAny_pyIter_enum he ?_
    have I2 : Inv X pins σ H1 { s1 with heap := h' } := I1.kept (t' := s1.toks) hk
    refine ⟨s1.heap.objs.size + 1, [s1.heap.objs.size + 1, s1.heap.objs.size], _, _, H1, rfl, I2, turn_enumK k a (s1.heap.objs.size + 1) s1.heap.objs.size 0, ⟨⟨.none, by simpa using he⟩, .first hit, Nat.succ_ne_self _, Nat.ne_of_gt (Nat.lt_succ_of_lt hal)⟩, fun b hb => ?_, q⟩
    have e' : b = s1.heap.objs.size + 1 ∨ b = s1.heap.objs.size := by simpa using hb
    have hle : s1.heap.objs.size ≤ b := by
      rcases e' with z | z
      · rw [z]; exact Nat.le_add_right _ _
      · rw [z]; exact Nat.le_refl _
    exact I1.fpOk hle (I1.hok.fresh hle)

/-! ### zip -/
def ItzK (k1 k2 : Bool) (K : PySem.W.Frag) (a b : Addr) : It :=
  ⟨fun i H => ∃ (xs ys : List V) (x y : V), SqK k1 K H a xs ∧ SqK k2 K H b ys ∧ xs[i]? = some x ∧ ys[i]? = some y,
    fun i H v H' => ∃ T x y, v = .ref T ∧ H T = none ∧ H' = upd H T (.tup [x, y]) ∧ (∀ xs, SqK k1 K H a xs → xs[i]? = some x) ∧ ∀ ys, SqK k2 K H b ys → ys[i]? = some y,
    fun i H => ∃ xs ys : List V, SqK k1 K H a xs ∧ SqK k2 K H b ys ∧ min xs.length ys.length = i⟩
/-- where a zip's cells lie -/
structure ZApart (z TI TO i1 i2 a b : Addr) : Prop where
  s2 : ZipSep2 z TI TO i1 i2 [i1, a] [i2, b]
theorem turn_zipK {P : Program} {w : World} {K : PySem.W.Frag} {elts : List Expr} {kk : Nat} {tpos : Pos} (k1 k2 : Bool) {a b z TI TO i1 i2 : Addr} (S : ZipSep2 z TI TO i1 i2 [i1, a] [i2, b]) :
    Turn P w K (.Tuple elts kk tpos) (ItzK k1 k2 K a b) [z, TI, TO, i1, i2] z (fun i h => IsZip h z TI TO .none ∧ IsTupOf2 h TI (.ref i1) (.ref i2) ∧ (∃ a1 a2, IsTupOf2 h TO a1 a2) ∧ ItK k1 h i1 a i ∧ ItK k2 h i2 b i) where
  mem := by simp
  obj := fun i h st c hc => by
    obtain ⟨hz, hT, ⟨a1, a2, hO⟩, h1, h2⟩ := st
    have e' : c = z ∨ c = TI ∨ c = TO ∨ c = i1 ∨ c = i2 := by simpa using hc
    rcases e' with q | q | q | q | q
    · rw [q]; exact ⟨_, hz, fun v q => nomatch q⟩
    · rw [q]; exact ⟨_, hT, fun v q => nomatch q⟩
    · rw [q]; exact ⟨_, hO, fun v q => nomatch q⟩
    · rw [q]; exact h1.live
    · rw [q]; exact h2.live
  keep := fun i h h' st k => let ⟨hz, hT, ⟨a1, a2, hO⟩, h1, h2⟩ := st; ⟨k z (by simp) _ hz, k TI (by simp) _ hT, ⟨a1, a2, k TO (by simp) _ hO⟩, h1.keep fun o q => k i1 (by simp) o q, h2.keep fun o q => k i2 (by simp) o q⟩
  item := by
    intro X hP hw hK hc i pins s σ H E I hf st hg
    subst hP hw hK
    obtain ⟨hz, hT, hO, h1, h2⟩ := st
    obtain ⟨xs, ys, x, y, hq1, hq2, hx, hy⟩ := hg
    obtain ⟨its1, rv1, p1⟩ := hq1.it I
    obtain ⟨its2, rv2, p2⟩ := hq2.it I
    obtain ⟨u1, hu1, ru1⟩ := rv1.get hx
    obtain ⟨u2, hu2, ru2⟩ := rv2.get hy
    have hlt : i < min its1.toArray.size its2.toArray.size := by
      have q1 := (List.getElem?_eq_some_iff.mp hu1).1
      have q2 := (List.getElem?_eq_some_iff.mp hu2).1
      simp only [List.size_toArray]
      omega
    have W := WalksT.zipD2 S (drawsK (prog := X.prog) (w := X.w) (A := X.A.in1) k1 (I.ok.hd hc) i1 a (p1.ne h1) its1.toArray) (drawsK (prog := X.prog) (w := X.w) (A := X.A.in1) k2 (I.ok.hd hc) i2 b (p2.ne h2) its2.toArray)
    have hf' : ∀ c ∈ [z, TO, i1, i2], FpOk X pins H c := fun c m => hf c (by
      have e' : c = z ∨ c = TO ∨ c = i1 ∨ c = i2 := by simpa using m
      rcases e' with q | q | q | q <;> simp [q])
    refine W.item i s _ _ hlt ⟨hz, hT, hO, ⟨h1, p1⟩, ⟨h2, p2⟩⟩ fun T vals h' tk hP hTs hTu hM hk => ⟨_, rfl, W.go _ _ _ i T { s with heap := h', toks := tk } _ _ hM fun h'' hS hk2 => ?_⟩
    obtain ⟨y1, y2, hy1, hy2, rfl⟩ := hP
    have e1 : y1 = u1 := by
      have : its1[i]? = some y1 := by simpa using hy1
      rw [hu1] at this
      exact (Option.some.inj this).symm
    have e2 : y2 = u2 := by
      have : its2[i]? = some y2 := by simpa using hy2
      rw [hu2] at this
      exact (Option.some.inj this).symm
    subst e1 e2
    obtain ⟨oT, hoT, hcT, nT, hdT⟩ := hTu
    have hTw := W.apart i T h' hM
    have hTn : T ∉ [z, TI, TO, i1, i2] := fun m => by
      have e' : T = z ∨ T = TI ∨ T = TO ∨ T = i1 ∨ T = i2 := by simpa using m
      rcases e' with q | q | q | q | q
      · exact hTw (by simp [q])
      · exact absurd (Heap.lt_size hT) (by rw [← q]; exact Nat.not_lt.mpr hTs)
      · exact hTw (by simp [q])
      · exact hTw (by simp [q])
      · exact hTw (by simp [q])
    have new : ObjOk X.prog X.w (upd H T (.tup [x, y])) h'' T (.tup [x, y]) :=
      ⟨by show 2 ≤ sizeLine; decide, [y1, y2], .cons ru1 (.cons ru2 .nil), ⟨oT, hk2 T oT hTw hoT, hcT, nT, hdT⟩⟩
    have I1 : Inv X pins σ (upd H T (.tup [x, y])) { s with heap := h'', toks := tk } :=
      I.turnedNew (ch := [z, TO, i1, i2]) (fun b ob hb q => hk2 b ob hb (hk b ob hb q)) hf' hTs new
    refine ⟨.ref T, _, I1, rfl, ⟨T, x, y, rfl, I.hok.fresh hTs, rfl, fun ws hw => by rw [hw.inj I hq1]; exact hx, fun ws hw => by rw [hw.inj I hq2]; exact hy⟩, ⟨hS.1, hS.2.1, hS.2.2.1, hS.2.2.2.1.1, hS.2.2.2.2.1⟩, fun c hc => ?_⟩
    rw [upd_ne (fun q : c = T => hTn (by rw [← q]; exact hc))]
    exact (hf c hc).1
  done := by
    intro X hP hw hK hc i pins s σ H E I hf st hg
    subst hP hw hK
    obtain ⟨hz, hT, hO, h1, h2⟩ := st
    obtain ⟨xs, ys, hq1, hq2, rfl⟩ := hg
    obtain ⟨its1, rv1, p1⟩ := hq1.it I
    obtain ⟨its2, rv2, p2⟩ := hq2.it I
    have W := WalksT.zipD2 S (drawsK (prog := X.prog) (w := X.w) (A := X.A.in1) k1 (I.ok.hd hc) i1 a (p1.ne h1) its1.toArray) (drawsK (prog := X.prog) (w := X.w) (A := X.A.in1) k2 (I.ok.hd hc) i2 b (p2.ne h2) its2.toArray)
    have hl1 : its1.toArray.size = xs.length := by simpa using rv1.length.symm
    have hl2 : its2.toArray.size = ys.length := by simpa using rv2.length.symm
    have hf' : ∀ c ∈ [z, TO, i1, i2], FpOk X pins H c := fun c m => hf c (by
      have e' : c = z ∨ c = TO ∨ c = i1 ∨ c = i2 := by simpa using m
      rcases e' with q | q | q | q <;> simp [q])
    refine W.done s _ _ (by rw [hl1, hl2]; exact ⟨hz, hT, hO, ⟨h1, p1⟩, ⟨h2, p2⟩⟩) fun h' tk hk => ⟨rfl, ?_⟩
    exact I.turnedO hf' hk
  self := fun A i s Q E st h => by
    obtain ⟨hz, _⟩ := st
    exact wpAny_pyIter_zip hz h
def iZipK (K : PySem.W.Frag) (ta : TA) : TI := fun σ H R => ta σ H fun vs H1 => ∃ k1 k2 a b xs ys, vs = [.ref a, .ref b] ∧ SqK k1 K H1 a xs ∧ SqK k2 K H1 b ys ∧ R (ItzK k1 k2 K a b) H1
theorem IsK.lt {k : Bool} {h : Heap} {a : Addr} {its : Array Value} (p : IsK k h a its) : a < h.objs.size := by
  cases k with
  | true => obtain ⟨o, ho, _⟩ := p; exact Heap.lt_size ho
  | false => obtain ⟨o, ho, _⟩ := p; exact Heap.lt_size ho
theorem pi_zipK {X : Cx} {e e2 : Expr} {ta : TA} {p pos tpos : Pos} {elts : List Expr} {kk : Nat} (hg : Gl X "zip") (hm : X.mg "zip" = none) (ha : PA X [e, e2] ta)
    (hs : starEach [e, e2] X.env = (false, eval e X.env) :: starEach [e2] X.env := by rfl) (hpl : (backTo pos (starEach [e2] X.env)).any (·.1) = false := by rfl) :
    PI X (.Tuple elts kk tpos) (.Call (.Name "zip" p) [e, e2] [] pos) (iZipK X.K ta) := by
  refine ⟨fun pins s σ H R I h => ?_⟩
  refine Call_ (ld_blt I hg hm PyProof.Rows.boot_zip (PyProof.Rows.callWith_type1 (thn (ha.run pos pins s σ H _ I h) fun us s1 ⟨vs, H1, I1, r1, q1⟩ => ?_) hs hpl))
  obtain ⟨k1, k2, a, b, xs, ys, ex, hq1, hq2, q⟩ := q1
  subst ex
  cases r1 with
  | cons r rr =>
    cases rr with
    | cons r2 rr =>
      cases rr
      cases r
      cases r2
      obtain ⟨its1, rv1, p1⟩ := hq1.it I1
      obtain ⟨its2, rv2, p2⟩ := hq2.it I1
      refine zip_begins2 (beginsK k1 a its1.toArray) (beginsK k2 b its2.toArray) p1 p2 fun h' hz hT hO g1 g2 hsz hk => wpAny_pyIter_zip hz ?_
      have I2 : Inv X pins σ H1 { s1 with heap := h' } := I1.kept (t' := s1.toks) hk
      refine ⟨s1.heap.objs.size + 4, [s1.heap.objs.size + 4, s1.heap.objs.size + 2, s1.heap.objs.size + 3, s1.heap.objs.size, s1.heap.objs.size + 1], _, _, H1, rfl, I2,
        turn_zipK k1 k2 (zip_sep2 (fp1 := [a]) (fp2 := [b]) (fun c m => by rw [List.mem_singleton.mp m]; exact p1.lt) (fun c m => by rw [List.mem_singleton.mp m]; exact p2.lt)), ⟨hz, hT, ⟨_, _, hO⟩, .first g1, .first g2⟩, fun c hc => ?_, q⟩
      have e' : c = s1.heap.objs.size + 4 ∨ c = s1.heap.objs.size + 2 ∨ c = s1.heap.objs.size + 3 ∨ c = s1.heap.objs.size ∨ c = s1.heap.objs.size + 1 := by simpa using hc
      have hle : s1.heap.objs.size ≤ c := by
        rcases e' with z | z | z | z | z <;> (rw [z]; first | exact Nat.le_refl _ | exact Nat.le_add_right _ _)
      exact I1.fpOk hle (I1.hok.fresh hle)
end MD
end
section
/-! Statements, loops, comprehensions. -/
namespace MD
open PySem PySem.Spec PyProof.Rows L2

/-- what is wanted behind a statement -/
structure DK where
  nx : Ev → Prop
  rt : D → Prop
  bk : Ev → Prop := fun _ => False
  ct : Ev → Prop := fun _ => False
abbrev DTS := DK → Ev → Prop
structure KOk (W : Wd) (H0 : Hp) (B0 : Addr → Prop) (pins : List (V × D)) (C : DK) (E : Ends) : Prop where
  nx : ∀ B H σ env, C.nx env → SR W H0 B0 pins B H σ env → E.nx σ H
  bk : ∀ B H σ env, C.bk env → SR W H0 B0 pins B H σ env → E.bk σ H
  ct : ∀ B H σ env, C.ct env → SR W H0 B0 pins B H σ env → E.ct σ H
  rt : ∀ d v H, C.rt d → Gr W H0 H → Rp W B0 H v d → E.rt v H
def SimS (W : Wd) (t : TS) (T : DTS) : Prop := ∀ {H0 : Hp} {B0 : Addr → Prop} {pins : List (V × D)} {B : Addr → Prop} {H : Hp} {σ : L2.St} {env : Ev}, SR W H0 B0 pins B H σ env → ∀ (C : DK) (E : Ends), T C env → KOk W H0 B0 pins C E → t E σ H
section
variable (X : Cx)
def DS (st : Stmt) (T : DTS) : Prop := ∃ t, PS X st t ∧ ∀ R, SimS (Cx.wd X R) t T
def DSs (st : List Stmt) (T : DTS) : Prop := ∃ t, PSs X st t ∧ ∀ R, SimS (Cx.wd X R) t T
end
section
variable {X : Cx} {W : Wd} {H0 : Hp} {B0 B : Addr → Prop} {pins : List (V × D)} {H H' : Hp} {σ : L2.St} {env : Ev} {e a b c : Expr} {T Ta Tb Tc : DT} {pos : Pos} {st : Stmt} {rest : List Stmt} {U V' : DTS} {Tt : DTT}
def dNext : DTS := fun C env => C.nx env
def dSeq (U V' : DTS) : DTS := fun C env => U { C with nx := V' C } env
theorem dss_nil : DSs X [] dNext := ⟨_, pss_nil, fun R _ _ _ _ _ _ _ S C E h k => k.nx _ _ _ _ h S⟩
theorem dss_cons (h1 : DS X st U) (h2 : DSs X rest V') : DSs X (st :: rest) (dSeq U V') := let ⟨_, p, s⟩ := h1; let ⟨_, p2, s2⟩ := h2; ⟨_, pss_cons p p2, fun R _ _ _ _ _ _ _ S C E h k =>
  s R S { C with nx := V' C } _ h ⟨fun _ _ _ _ q S' => s2 R S' C E q k, k.bk, k.ct, k.rt⟩⟩
theorem dss_one (h1 : DS X st U) : DSs X [st] U := let ⟨_, p, s⟩ := h1; ⟨_, pss_one p, s⟩
def dBreak : DTS := fun C env => C.bk env
def dCont : DTS := fun C env => C.ct env
theorem ds_pass : DS X (.Pass pos) dNext := ⟨_, ps_pass, fun R _ _ _ _ _ _ _ S C E h k => k.nx _ _ _ _ h S⟩
theorem ds_break : DS X (.Break pos) dBreak := ⟨_, ps_break, fun R _ _ _ _ _ _ _ S C E h k => k.bk _ _ _ _ h S⟩
theorem ds_cont : DS X (.Continue pos) dCont := ⟨_, ps_continue, fun R _ _ _ _ _ _ _ S C E h k => k.ct _ _ _ _ h S⟩
def dNever : DTS := fun _ _ => False
theorem ds_never : DS X st dNever := ⟨_, ps_never, fun R _ _ _ _ _ _ _ S C E h k => h.elim⟩
theorem dss_never : DSs X rest dNever := ⟨_, pss_never, fun R _ _ _ _ _ _ _ S C E h k => h.elim⟩
def dDrop (T : DT) : DTS := fun C env => T env fun _ => C.nx env
theorem ds_expr (h : DE X e T) (hs : swapsWith e none pos.line X.env = pure false := by rfl) : DS X (.Expr e pos) (dDrop T) := let ⟨_, p, s⟩ := h; ⟨_, ps_expr p hs, fun R _ _ _ _ _ _ _ S C E h k => s R S _ _ h fun d v H' q g r => k.nx _ _ _ _ q (S.grow g)⟩
def dRet (T : DT) : DTS := fun C env => T env C.rt
theorem ds_ret (h : DV X e T) : DS X (.Return (some e) pos) (dRet T) := let ⟨_, p, s⟩ := h; ⟨_, ps_ret p, fun R _ _ _ _ _ _ _ S C E h k => s R S _ _ h fun d v H' q g r => k.rt _ _ _ q (S.ext.trans g) (r.b0 (S.grow g))⟩
def dRetN : DTS := fun C _ => C.rt .non
theorem ds_retN : DS X (.Return none pos) dRetN := ⟨_, ps_retN, fun R _ _ _ _ _ _ _ S C E h k => k.rt _ _ _ h S.ext .non⟩
def dIfS (c : DTT) (U V' : DTS) : DTS := fun C env => c env fun b => if b = true then U C env else V' C env
theorem ds_if {sa sb : List Stmt} (hc : DB X c Tt) (ha : DSs X sa U) (hb : DSs X sb V') : DS X (.If c sa sb pos) (dIfS Tt U V') := let ⟨_, pc, sc⟩ := hc; let ⟨_, p, s⟩ := ha; let ⟨_, p2, s2⟩ := hb; ⟨_, ps_if pc p p2, fun R _ _ _ _ _ _ _ S C E h k =>
  sc R S _ _ h fun b H' q g => by
    cases b with
    | true => rw [if_pos rfl] at q ⊢; exact s R (S.grow g) C E q k
    | false => rw [if_neg (by decide)] at q ⊢; exact s2 R (S.grow g) C E q k⟩

/-! ### targets -/
abbrev DG := D → Ev → (Ev → Prop) → Prop
def SimG (W : Wd) (g : TG) (G : DG) : Prop := ∀ {H0 : Hp} {B0 : Addr → Prop} {pins : List (V × D)} {B : Addr → Prop} {H : Hp} {σ : L2.St} {env : Ev}, SR W H0 B0 pins B H σ env → ∀ {v : V} {d : D}, Rp W B H v d → ∀ (Qd : Ev → Prop) (Q : L2.St → Hp → Prop), G d env Qd →
  (∀ σ' env', Qd env' → SR W H0 B0 pins B H σ' env' → Q σ' H) → g v σ H Q
def DTg (X : Cx) (tg : Expr) (G : DG) : Prop := ∃ g, PG X tg g ∧ ∀ R, SimG (Cx.wd X R) g G
abbrev DGL := List D → Ev → (Ev → Prop) → Prop
def SimGL (W : Wd) (g : TGs) (G : DGL) : Prop := ∀ {H0 : Hp} {B0 : Addr → Prop} {pins : List (V × D)} {B : Addr → Prop} {H : Hp} {σ : L2.St} {env : Ev}, SR W H0 B0 pins B H σ env → ∀ {vs : List V} {ds : List D}, RpL W B H vs ds → ∀ (Qd : Ev → Prop) (Q : L2.St → Hp → Prop), G ds env Qd →
  (∀ σ' env', Qd env' → SR W H0 B0 pins B H σ' env' → Q σ' H) → g vs σ H Q
def DTgs (X : Cx) (tgs : List Expr) (G : DGL) : Prop := ∃ g, PGs X tgs g ∧ ∀ R, SimGL (Cx.wd X R) g G
def gNm (i : Nat) : DG := fun d env Q => Q (env.set i (.dat d))
theorem dg_name {x : Str} (i : Nat) (hN : X.N.Nodup) (hi : X.N[i]? = some x := by rfl) (hx : Loc X.env.scope x := by first | exact Or.inl rfl | exact Or.inr rfl) (hf : X.fn x = true ∨ X.env.scope.names.lookup x = some .local := by first | exact .inl rfl | exact .inr rfl | assumption) : DTg X (.Name x pos) (gNm i) :=
  ⟨_, pg_name hN hi hx hf, fun R _ _ _ _ _ _ _ S v d r Qd Q h k => k _ _ h (S.set i r)⟩
def gNil' : DGL := fun ds env Q => ds = [] ∧ Q env
def gCons' (G : DG) (GL : DGL) : DGL := fun ds env Q => match ds with | [] => False | d :: r => G d env fun env' => GL r env' Q
theorem dgs_nil : DTgs X [] gNil' := ⟨_, pgs_nil, fun R _ _ _ _ _ _ _ S vs ds r Qd Q h k => by
  obtain ⟨rfl, q⟩ := h
  cases r
  exact ⟨rfl, k _ _ q S⟩⟩
theorem dgs_cons {es : List Expr} {G : DG} {GL : DGL} (h : DTg X e G) (hr : DTgs X es GL)
    (p : ∀ {t : TG} {u : TGs}, PG X e t → PGs X es u → PGs X (e :: es) (gCons t u) := by exact fun h1 h2 => pgs_cons h1 h2) : DTgs X (e :: es) (gCons' G GL) := let ⟨_, p1, s1⟩ := h; let ⟨_, p2, s2⟩ := hr; ⟨_, p p1 p2, fun R _ _ _ _ _ _ _ S vs ds r Qd Q h k => by
  unfold gCons' at h
  split at h
  · exact h.elim
  · cases r with
    | cons r1 r2 => exact ⟨_, _, rfl, s1 R S r1 _ _ h fun σ' env' q S' => s2 R S' r2 Qd Q q k⟩⟩
/-- a, b, .. = a tuple, a list of that length -/
def gTupD (n : Nat) (GL : DGL) : DG := fun d env Q => match d with
  | .tup ds => ds.length = n ∧ GL ds env Q
  | .lst ds => ds.length = n ∧ GL ds env Q
  | _ => False
theorem pg_or {tg : Expr} {g g' : TG} (h : PG X tg g) (h' : PG X tg g') : PG X tg (fun v σ H Q => g v σ H Q ∨ g' v σ H Q) := ⟨fun pins s σ H v u Q I r hw => hw.elim (h.run pins s σ H v u Q I r) (h'.run pins s σ H v u Q I r)⟩
theorem dg_tup {es : List Expr} {k n : Nat} {GL : DGL} (hc : X.calm = true) (h : DTgs X es GL) (hn : (assignEach es X.env).length = n := by rfl) (hst : (assignEach es X.env).findIdx? (·.1) = none := by rfl) : DTg X (.Tuple es k pos) (gTupD n GL) :=
  let ⟨_, p, s⟩ := h; ⟨_, pg_or (pg_tup hc p hn hst) (pg_lst hc p hn hst), fun R _ _ _ _ _ _ _ S v d r Qd Q h k => by
    unfold gTupD at h
    split at h
    · obtain ⟨a, xs, rfl, h1, l⟩ := r.tup'
      exact .inl ⟨a, xs, rfl, h1, by rw [l.length]; exact h.1, s R S l _ _ h.2 k⟩
    · obtain ⟨a, xs, rfl, _, h1, l⟩ := r.lst'
      exact .inr ⟨a, xs, rfl, .of h1, by rw [l.length]; exact h.1, s R S l _ _ h.2 k⟩
    · exact h.elim⟩
def dAsg (T : DT) (G : DG) : DTS := fun C env => T env fun d => G d env C.nx
theorem ds_asg {tg : Expr} {G : DG} (h : DE X e T) (hg : DTg X tg G) (hs : swapsWithSole [tg] e pos.line X.env = pure false := by rfl) (hw : swappedStores [tg] e X.env = pure none := by rfl)
    (pa : ∀ {te : TE} {g : TG}, PE X e te → PG X tg g → PS X (.Assign [tg] e pos) (tAsg te g) := by exact fun h1 h2 => ps_asg h1 h2) : DS X (.Assign [tg] e pos) (dAsg T G) :=
  let ⟨_, p, s⟩ := h; let ⟨_, p2, s2⟩ := hg; ⟨_, pa p p2, fun R _ _ _ _ _ _ _ S C E h k => s R S _ _ h fun d v H' q g r => s2 R (S.grow g) r _ _ q fun σ' env' q' S' => k.nx _ _ _ _ q' S'⟩
/-- x = e -/
def dSet (i : Nat) (T : DT) : DTS := fun C env => T env fun d => C.nx (env.set i (.dat d))
theorem ds_set {x : Str} {pos' : Pos} (i : Nat) (hN : X.N.Nodup) (h : DE X e T) (hi : X.N[i]? = some x := by rfl) (hx : Loc X.env.scope x := by first | exact Or.inl rfl | exact Or.inr rfl) (hs : swapsWith e (some (.Name x pos')) pos.line X.env = pure false := by rfl) (hf : X.fn x = true ∨ X.env.scope.names.lookup x = some .local := by first | exact .inl rfl | exact .inr rfl | assumption) :
    DS X (.Assign [.Name x pos'] e pos) (dSet i T) := let ⟨_, p, s⟩ := h; ⟨_, ps_set hN hi hx p hs hf, fun R _ _ _ _ _ _ _ S C E h k => s R S _ _ h fun d v H' q g r => k.nx _ _ _ _ q ((S.grow g).set i r)⟩
/-- x = a new list, which the def is going to change -/
def dSetO (i : Nat) (T : DT) : DTS := fun C env => T env fun d => match d with | .lst ds => C.nx (env.set i (.own ds)) | _ => False
theorem ds_setO {x : Str} {pos' : Pos} (i : Nat) (hN : X.N.Nodup) (h : DF X e T) (hi : X.N[i]? = some x := by rfl) (hx : Loc X.env.scope x := by first | exact Or.inl rfl | exact Or.inr rfl) (hs : swapsWith e (some (.Name x pos')) pos.line X.env = pure false := by rfl) (hf : X.fn x = true ∨ X.env.scope.names.lookup x = some .local := by first | exact .inl rfl | exact .inr rfl | assumption) :
    DS X (.Assign [.Name x pos'] e pos) (dSetO i T) := let ⟨_, p, s⟩ := h; ⟨_, ps_set hN hi hx p hs hf, fun R _ _ _ _ _ _ _ S C E h k => s R S _ _ h fun ds p vs H' q n g e r => k.nx _ _ _ _ q (S.setOwn i n g e r)⟩
/-- the list in a slot is data from now on (nothing in the text) -/
def dFrz (i : Nat) (U : DTS) : DTS := fun C env => match get env i with | .own ds => U C (env.set i (.dat (.lst ds))) | _ => False
theorem dss_frz (i : Nat) (h : DSs X rest U) : DSs X rest (dFrz i U) := let ⟨_, p, s⟩ := h; ⟨_, p, fun R _ _ _ _ _ _ _ S C E h k => by
  unfold dFrz at h
  split at h
  · obtain ⟨B', _, S'⟩ := S.freeze i (by assumption)
    exact s R S' C E h k
  · exact h.elim⟩
/-- a, b = e, f -/
def dPar (i j : Nat) (Ta Tb : DT) : DTS := fun C env => Ta env fun a => Tb env fun b => C.nx ((env.set i (.dat a)).set j (.dat b))
theorem ds_par {x y : Str} {px py pt : Pos} {kt k2 pt2} (i j : Nat) (hc : X.calm = true) (hN : X.N.Nodup) (ha : DE X a Ta) (hb : DE X b Tb) (hi : X.N[i]? = some x := by rfl) (hj : X.N[j]? = some y := by rfl) (hij : i ≠ j := by decide)
    (hs1 : starEach [a, b] X.env = (false, eval a X.env) :: starEach [b] X.env := by rfl) (hs2 : starEach [b] X.env = (false, eval b X.env) :: starEach [] X.env := by rfl)
    (pp : ∀ {ta : TA}, PA X [a, b] ta → PS X (.Assign [.Tuple [.Name x px, .Name y py] kt pt] (.Tuple [a, b] k2 pt2) pos) (tPar i j ta)) :
    DS X (.Assign [.Tuple [.Name x px, .Name y py] kt pt] (.Tuple [a, b] k2 pt2) pos) (dPar i j Ta Tb) := let ⟨_, p, s⟩ := ha; let ⟨_, p2, s2⟩ := hb; ⟨_, pp (pa_cons p (pa_cons p2 pa_nil hs2) hs1), fun R _ _ _ _ _ _ _ S C E h k =>
  s R S _ _ h fun d v H1 q1 g1 r1 => s2 R (S.grow g1) _ _ q1 fun f u H2 q2 g2 r2 => ⟨v, u, rfl, k.nx _ _ _ _ q2 ((((S.grow g1).grow g2).set i ((S.grow g1).rp g2 r1)).set j r2)⟩⟩
/-- x += e of ints -/
def dAug (i : Nat) (T : DT) (f : Int → Int → Int) : DTS := fun C env => onD (get env i) fun d => T env fun b => match d, b with | .int m, .int n => C.nx (env.set i (.dat (.int (f m n)))) | _, _ => False
theorem ds_aug {x : Str} {op : Operator} {f : Int → Int → Int} {pos' : Pos} (i : Nat) (hN : X.N.Nodup) (ho : PIp X op (ipI f)) (h : DE X e T) (hi : X.N[i]? = some x := by rfl) (hx : Loc X.env.scope x := by first | exact Or.inl rfl | exact Or.inr rfl) (hf : X.fn x = true ∨ X.env.scope.names.lookup x = some .local := by first | exact .inl rfl | exact .inr rfl | assumption) :
    DS X (.AugAssign (.Name x pos') op e pos) (dAug i T f) := let ⟨_, p, s⟩ := h; ⟨_, ps_aug hN hi hx p ho hf, fun R _ _ _ _ _ _ env S C E h k => by
  have z := S.at_ i
  unfold dAug onD at h
  cases g0 : get env i with
  | un => rw [g0] at h; exact h.elim
  | own ds => rw [g0] at h; exact h.elim
  | dat d =>
    rw [g0] at h z
    obtain ⟨v, e, r⟩ := z
    refine ⟨v, e, s R S _ _ h fun b w H' q g r' => ?_⟩
    split at q
    · exact ⟨_, _, r.int', r'.int', k.nx _ _ _ _ q ((S.grow g).set i (.int _))⟩
    · exact q.elim⟩

/-! ### lists of the def's own -/
theorem SR.own (S : SR W H0 B0 pins B H σ env) {i : Nat} {ds : List D} (h : get env i = .own ds) : ∃ p vs, σ[i]? = some (some (.ref p)) ∧ H p = some (.lst vs) ∧ RpL W B H vs ds := by
  have z := S.at_ i
  rw [h] at z
  obtain ⟨p, vs, e, _, _, h1, r⟩ := z
  exact ⟨p, vs, e, h1, r⟩
theorem SR.keepOwn (S : SR W H0 B0 pins B H σ env) {i : Nat} {ds : List D} (h : get env i = .own ds) {p : Addr} {vs : List V} (e : σ[i]? = some (some (.ref p))) (g : Gr W H H') (h1 : H p = some (.lst vs)) : H' p = some (.lst vs) := by
  have z := S.at_ i
  rw [h] at z
  obtain ⟨q, ws, e1, _, hn, _, _⟩ := z
  rw [e] at e1
  cases e1
  exact g.keep _ _ (fun z => S.b0 _ (S.rgb _ z) hn) h1
theorem tyL {K : PySem.W.Frag} {p : Addr} {vs : List V} (h : H p = some (.lst vs)) : tyV K "list" (.ref p) H := .inl ⟨rfl, _, .inl (.inl h)⟩
def onO (s : Sl) (Q : List D → Prop) : Prop := match s with | .own ds => Q ds | _ => False
theorem onO_at {s : Sl} {Q : List D → Prop} (h : onO s Q) : ∃ ds, s = .own ds ∧ Q ds := by
  cases s with
  | own ds => exact ⟨ds, rfl, h⟩
  | _ => exact h.elim
/-- x.append(e) -/
def dApp (i : Nat) (T : DT) : DTS := fun C env => onO (get env i) fun ds => T env fun d => ds.length < SZ ∧ C.nx (env.set i (.own (ds ++ [d])))
theorem ds_app {x : Str} {pos1 apos cpos : Pos} (i : Nat) (h : DE X e T) (pn : PE X (.Name x pos1) (tVar i) := by exact pv i)
    (hsw : swapsWith (.Call (.Attribute (.Name x pos1) "append" apos) [e] [] cpos) none pos.line X.env = pure false := by rfl)
    (pp : ∀ {te to : TE}, PE X (.Name x pos1) to → PE X e te → PE X (.Call (.Attribute (.Name x pos1) "append" apos) [e] [] cpos) (tBM X.K "list" rAppend to (tCons te tNil)) := by
      exact fun h1 h2 => pe_bm PySem.F.plainAttrs_list PySem.F.slot_list_append PySem.F.type_list_append mt_append h1 (pa_cons h2 pa_nil)) :
    DS X (.Expr (.Call (.Attribute (.Name x pos1) "append" apos) [e] [] cpos) pos) (dApp i T) := let ⟨_, p, s⟩ := h; ⟨_, ps_expr (pp pn p) hsw, fun R _ _ _ _ _ _ env S C E h k => by
  obtain ⟨ds, g0, h⟩ := onO_at h
  obtain ⟨a, vs, ea, h1, r1⟩ := S.own g0
  refine ⟨.ref a, ea, tyL h1, s R S _ _ h fun d v H' q g r => ?_⟩
  have h1' := S.keepOwn g0 ea g h1
  exact ⟨a, vs, v, rfl, rfl, h1', by rw [r1.length]; exact SZ_lt q.1, k.nx _ _ _ _ q.2 ((S.grow g).change i g0 ea ((S.rpL g r1).append (.cons r .nil)))⟩⟩
/-- x.pop() -/
def dPop (i : Nat) : DTS := fun C env => onO (get env i) fun ds => ds ≠ [] ∧ C.nx (env.set i (.own ds.dropLast))
theorem ds_pop {x : Str} {pos1 apos cpos : Pos} (i : Nat) (pn : PE X (.Name x pos1) (tVar i) := by exact pv i)
    (hsw : swapsWith (.Call (.Attribute (.Name x pos1) "pop" apos) [] [] cpos) none pos.line X.env = pure false := by rfl)
    (pp : ∀ {to : TE}, PE X (.Name x pos1) to → PE X (.Call (.Attribute (.Name x pos1) "pop" apos) [] [] cpos) (tBM0 X.K "list" rPop to) := by
      exact fun h1 => pe_bm0 PySem.F.plainAttrs_list PySem.F.slot_list_pop PySem.F.type_list_pop mt_pop h1) :
    DS X (.Expr (.Call (.Attribute (.Name x pos1) "pop" apos) [] [] cpos) pos) (dPop i) := ⟨_, ps_expr (pp pn) hsw, fun R _ _ _ _ _ _ env S C E h k => by
  obtain ⟨ds, g0, hne, h⟩ := onO_at h
  obtain ⟨a, vs, ea, h1, r1⟩ := S.own g0
  have hn : vs ≠ [] := fun z => by
    subst z
    cases r1
    exact hne rfl
  have hl : vs.length - 1 < vs.length := by
    have := List.length_pos_iff.mpr hn
    omega
  exact ⟨.ref a, ea, tyL h1, a, vs, vs[vs.length - 1], rfl, rfl, h1, by simp [hl], k.nx _ _ _ _ h (S.change i g0 ea r1.dropLast)⟩⟩
/-- x[e] = f -/
def dPut (i : Nat) (Ti T : DT) : DTS := fun C env => T env fun d => onO (get env i) fun ds => Ti env fun k => match k with | .int k => ∃ j, ixN ds.length k = some j ∧ C.nx (env.set i (.own (ds.set j d))) | _ => False
theorem ds_put {x : Str} {pos1 spos : Pos} (i : Nat) (hi : DE X b Tb) (h : DE X e T) (pn : PE X (.Name x pos1) (tVar i) := by exact pv i)
    (pp : ∀ {te to ti : TE}, PE X (.Name x pos1) to → PE X b ti → PE X e te → PS X (.Assign [.Subscript (.Name x pos1) b spos] e pos) (tAsg te (gSub to ti rSetL)) := by
      exact fun h1 h2 h3 => ps_asg h3 (pg_sub h1 h2 set_list)) : DS X (.Assign [.Subscript (.Name x pos1) b spos] e pos) (dPut i Tb T) := let ⟨_, p, s⟩ := h; let ⟨_, p2, s2⟩ := hi; ⟨_, pp pn p2 p, fun R _ _ _ _ _ _ env S C E h k => by
  refine s R S _ _ h fun d v H' q g r => ?_
  obtain ⟨ds, g0, q⟩ := onO_at q
  have S1 := S.grow g
  obtain ⟨a, vs, ea, h1, r1⟩ := S1.own g0
  refine ⟨.ref a, ea, s2 R S1 _ _ q fun kd kv H2 q2 g2 rk => ?_⟩
  split at q2
  · obtain ⟨j, hj, q2⟩ := q2
    have S2 := S1.grow g2
    exact ⟨a, vs, _, j, rfl, rk.int', S1.keepOwn g0 ea g2 h1, by rw [r1.length]; exact hj, k.nx _ _ _ _ q2 (S2.change i g0 ea ((S1.rpL g2 r1).set j (S1.rp g2 r)))⟩
  · exact q2.elim⟩
/-- x[e] += f of ints -/
def rGetN : V → V → Hp → VK → Prop := fun o i H Q => ∃ p xs k v, o = .ref p ∧ i = .int k ∧ H p = some (.lst xs) ∧ 0 ≤ k ∧ xs[k.toNat]? = some v ∧ Q v H
theorem get_list : PGet X rGetN := by
  intro pins s σ H o i ov iv Q I ro ri h
  obtain ⟨p, xs, k, v, rfl, rfl, hp, h0, hx, q⟩ := h
  cases ro
  obtain ⟨t, rfl⟩ := ri
  obtain ⟨its, n, r, ho, hz⟩ := I.lst hp
  obtain ⟨u, e1, ru⟩ := r.get hx
  have hl := r.length
  have hn := line63
  have hlt : k.toNat < xs.length := (List.getElem?_eq_some_iff.mp hx).1
  exact wpAny_getItem_list (items := its.toArray) ⟨_, ho, rfl, _, rfl⟩ h0 (by omega) (by simpa using e1) ⟨v, H, I, ru, q⟩
def dAugIx (i : Nat) (Ti T : DT) (f : Int → Int → Int) : DTS := fun C env => onO (get env i) fun ds => Ti env fun k => match k with
  | .int k => 0 ≤ k ∧ ∃ m, ds[k.toNat]? = some (.int m) ∧ T env fun n => match n with | .int n => C.nx (env.set i (.own (ds.set k.toNat (.int (f m n))))) | _ => False
  | _ => False
theorem ixN_nat {n : Nat} {k : Int} (h0 : 0 ≤ k) (h : k.toNat < n) : ixN n k = some k.toNat := by
  unfold ixN
  rw [if_pos h0, if_pos (by omega)]
theorem ds_augIx {x : Str} {pos1 spos : Pos} {op : Operator} {f : Int → Int → Int} (i : Nat) (ho : PIp X op (ipI f)) (hi : DE X b Tb) (h : DE X e T) (pn : PE X (.Name x pos1) (tVar i) := by exact pv i)
    (pp : ∀ {te to ti : TE}, PE X (.Name x pos1) to → PE X b ti → PE X e te → PS X (.AugAssign (.Subscript (.Name x pos1) b spos) op e pos) (tAugS to ti te rGetN (ipI f) rSetL)) :
    DS X (.AugAssign (.Subscript (.Name x pos1) b spos) op e pos) (dAugIx i Tb T f) := let ⟨_, p, s⟩ := h; let ⟨_, p2, s2⟩ := hi; ⟨_, pp pn p2 p, fun R _ _ _ _ _ _ env S C E h k => by
  obtain ⟨ds, g0, h⟩ := onO_at h
  obtain ⟨a, vs, ea, h1, r1⟩ := S.own g0
  refine ⟨.ref a, ea, s2 R S _ _ h fun kd kv H1 q1 gr1 rk => ?_⟩
  split at q1
  · rename_i kk
    obtain ⟨h0, m, hm, q1⟩ := q1
    have S1 := S.grow gr1
    have l1 := S.rpL gr1 r1
    obtain ⟨v, hv, rv⟩ := l1.getD hm
    have e1 := S.keepOwn g0 ea gr1 h1
    refine ⟨a, vs, kk, v, rfl, rk.int', e1, h0, hv, s R S1 _ _ q1 fun n w H2 q2 gr2 rn => ?_⟩
    split at q2
    · have S2 := S1.grow gr2
      refine ⟨m, _, rv.int', rn.int', a, vs, kk, kk.toNat, rfl, rk.int', S1.keepOwn g0 ea gr2 e1, ixN_nat h0 (List.getElem?_eq_some_iff.mp hv).1, k.nx _ _ _ _ q2 (S2.change i g0 ea ((S1.rpL gr2 l1).set _ (.int _)))⟩
    · exact q2.elim
  · exact q1.elim⟩
end
end MD
end
section
/-! What is walked, for, while, comprehensions. -/
namespace MD
open PySem PySem.Spec PyProof.Rows L2 RT

def RpP (W : Wd) (B : Addr → Prop) (H : Hp) (ps : List (V × D)) : Prop := ∀ q ∈ ps, Rp W B H q.1 q.2
/-- an iterator that gives these items, while what it walks (ps) stands -/
structure DWk (W : Wd) (J : It) (ps : List (V × D)) (items : List D) : Prop where
  goes : ∀ B H i, i < items.length → RpP W B H ps → J.go i H
  stops : ∀ B H, RpP W B H ps → J.stop items.length H
  yields : ∀ B H i x H', i < items.length → Lsts B H → RpP W B H ps → J.yld i H x H' → Same H H' ∧ ∃ d, items[i]? = some d ∧ Rp W B H' x d
def SimI (W : Wd) (wi : TI) (T : DTL) : Prop := ∀ {H0 : Hp} {B0 : Addr → Prop} {pins : List (V × D)} {B : Addr → Prop} {H : Hp} {σ : L2.St} {env : Ev}, SR W H0 B0 pins B H σ env → ∀ (Qd : List D → Prop) (Q : It → Hp → Prop), T env Qd →
  (∀ items J H' ps, Qd items → Gr W H H' → RpP W B H' ps → DWk W J ps items → Q J H') → wi σ H Q
def DI (X : Cx) (tg iter : Expr) (T : DTL) : Prop := ∃ wi, PI X tg iter wi ∧ ∀ R, SimI (Cx.wd X R) wi T
section
variable {X : Cx} {W : Wd} {H0 : Hp} {B0 B : Addr → Prop} {pins : List (V × D)} {H H' : Hp} {σ : L2.St} {env : Ev} {tg iter e l : Expr} {T Ta Tb : DT} {pos p : Pos}
theorem pi_or {wi wi' : TI} (h : PI X tg iter wi) (h' : PI X tg iter wi') : PI X tg iter (fun σ H R => wi σ H R ∨ wi' σ H R) := ⟨fun pins s σ H R I hw => hw.elim (h.run pins s σ H R I) (h'.run pins s σ H R I)⟩
theorem dwk_tup {a : Addr} {ds : List D} : DWk W (Itt W.K a) [(.ref a, .tup ds)] ds where
  goes := fun B H i hi hp => by
    obtain ⟨a', xs, e, h, l⟩ := (hp _ (List.mem_singleton.mpr rfl)).tup'
    cases e
    obtain ⟨v, hv, _⟩ := l.getD (List.getElem?_eq_getElem hi)
    exact ⟨xs, v, h, hv⟩
  stops := fun B H hp => by
    obtain ⟨a', xs, e, h, l⟩ := (hp _ (List.mem_singleton.mpr rfl)).tup'
    cases e
    exact ⟨xs, h, Nat.le_of_eq l.length⟩
  yields := fun B H i x H' hi hB hp y => by
    obtain ⟨a', xs, e, h, l⟩ := (hp _ (List.mem_singleton.mpr rfl)).tup'
    cases e
    obtain ⟨rfl, hx⟩ := y
    obtain ⟨d, hd, r⟩ := l.get (hx xs h)
    exact ⟨.refl _, d, hd, r⟩
theorem dwk_lst {a : Addr} {ds : List D} : DWk W (Itl W.K a) [(.ref a, .lst ds)] ds where
  goes := fun B H i hi hp => by
    obtain ⟨a', xs, e, _, h, l⟩ := (hp _ (List.mem_singleton.mpr rfl)).lst'
    cases e
    obtain ⟨v, hv, _⟩ := l.getD (List.getElem?_eq_getElem hi)
    exact ⟨xs, v, .of h, hv⟩
  stops := fun B H hp => by
    obtain ⟨a', xs, e, _, h, l⟩ := (hp _ (List.mem_singleton.mpr rfl)).lst'
    cases e
    exact ⟨xs, .of h, Nat.le_of_eq l.length⟩
  yields := fun B H i x H' hi hB hp y => by
    obtain ⟨a', xs, e, _, h, l⟩ := (hp _ (List.mem_singleton.mpr rfl)).lst'
    cases e
    obtain ⟨rfl, hx⟩ := y
    obtain ⟨d, hd, r⟩ := l.get (hx xs (.of h))
    exact ⟨.refl _, d, hd, r⟩
/-- over a tuple, a list, a text -/
def iAny (K : PySem.W.Frag) (tl : TE) : TI := fun σ H R => tl σ H fun x H1 => (∃ a, x = .ref a ∧ (∃ xs, SqT K H1 a xs) ∧ R (Itt K a) H1) ∨ (∃ a, x = .ref a ∧ (∃ xs, SqL K H1 a xs) ∧ R (Itl K a) H1) ∨ ∃ z, x = .str z ∧ R (Its z) H1
theorem pi_any {tl : TE} (hl : PE X l tl) : PI X tg l (iAny X.K tl) := by
  refine ⟨fun pins s σ H R I h => ?_⟩
  refine thn (hl.run pins s σ H _ I h) fun v s1 ⟨x, H1, I1, r1, q1⟩ => ?_
  rcases q1 with ⟨a, rfl, ⟨xs, hq⟩, q⟩ | ⟨a, rfl, ⟨xs, hq⟩, q⟩ | ⟨z, rfl, q⟩
  · cases r1
    obtain ⟨its, rv, p, hz⟩ := I1.tuple hq
    refine wpAny_pyIter_tuple (show s1.heap.IsTuple a its.toArray from p) ?_
    refine ⟨s1.heap.objs.size, [s1.heap.objs.size], _, _, H1, rfl, I1.kept (t' := s1.toks) fun b o e => Heap.get?_push_of_some _ e, turn_tuple a _, ⟨_, Heap.get?_push_size _ rfl, rfl, rfl⟩, fun b hb => ?_, q⟩
    have e : b = s1.heap.objs.size := by simpa using hb
    subst e
    exact I1.fpOk (Nat.le_refl _) (I1.hok.fresh (Nat.le_refl _))
  · cases r1
    obtain ⟨its, rv, p, hz⟩ := I1.list hq
    refine wpAny_pyIter_list p.isList ?_
    refine ⟨s1.heap.objs.size, [s1.heap.objs.size], _, _, H1, rfl, I1.kept (t' := s1.toks) fun b o e => Heap.get?_push_of_some _ e, turn_list a _, ⟨_, Heap.get?_push_size _ rfl, rfl, rfl⟩, fun b hb => ?_, q⟩
    have e : b = s1.heap.objs.size := by simpa using hb
    subst e
    exact I1.fpOk (Nat.le_refl _) (I1.hok.fresh (Nat.le_refl _))
  · obtain ⟨t, rfl⟩ := r1
    cases ha : z.cps.all (· < 128)
    · exact wpAny_pyIter_wide ha (pi_one (tk := s1.toks) I1 _ (turn_str _ z t "str_iterator" (.inr rfl)) ⟨_, Heap.get?_push_size _ rfl, rfl, rfl⟩ q)
    · exact wpAny_pyIter_ascii ha (pi_one (tk := s1.toks) I1 _ (turn_str _ z t "str_ascii_iterator" (.inl rfl)) ⟨_, Heap.get?_push_size _ rfl, rfl, rfl⟩ q)
/-- a text's signs -/
def signs (z : Str) : List D := z.cps.toList.map fun c => .str ⟨#[c]⟩
theorem dwk_str {z : Str} : DWk W (Its z) [] (signs z) where
  goes := fun B H i hi _ => by
    have : i < z.cps.size := by simpa [signs] using hi
    exact this
  stops := fun B H _ => by
    show z.cps.size ≤ (signs z).length
    simp [signs]
  yields := fun B H i x H' hi hB hp y => by
    obtain ⟨rfl, c, hc, rfl⟩ := y
    refine ⟨.refl _, .str ⟨#[c]⟩, ?_, .str _⟩
    have : z.cps.toList[i]? = some c := by simpa using hc
    simp [signs, this]
theorem rpP_one {v : V} {d : D} (r : Rp W B H v d) : RpP W B H [(v, d)] := fun q hq => by
  cases List.mem_singleton.mp hq
  exact r
def onSeq (d : D) (Q : List D → Prop) : Prop := match d with | .tup ds => Q ds | .lst ds => Q ds | .str z => Q (signs z) | _ => False
def iSeq (T : DT) : DTL := fun env Q => T env fun d => onSeq d Q
theorem di_seq (h : DE X l T) : DI X tg l (iSeq T) := let ⟨_, p, s⟩ := h; ⟨_, pi_any p, fun R _ _ _ _ _ _ _ S Qd Q h k => s R S _ _ h fun d v H' q g r => by
  unfold onSeq at q
  split at q
  · obtain ⟨a, xs, rfl, h1, l1⟩ := r.tup'
    exact .inl ⟨a, rfl, ⟨xs, h1⟩, k _ _ _ _ q g (rpP_one r) dwk_tup⟩
  · obtain ⟨a, xs, rfl, _, h1, l1⟩ := r.lst'
    exact .inr (.inl ⟨a, rfl, ⟨xs, .of h1⟩, k _ _ _ _ q g (rpP_one r) dwk_lst⟩)
  · exact .inr (.inr ⟨_, r.str', k _ _ _ [] q g (fun _ z => nomatch z) dwk_str⟩)
  · exact q.elim⟩
/-- over a range -/
def rangeD (lo : Int) (n : Nat) : List D := (List.range n).map fun i => .int (lo + (i : Nat))
theorem rangeD_len (lo : Int) (n : Nat) : (rangeD lo n).length = n := by simp [rangeD]
theorem dwk_range {lo : Int} {n : Nat} : DWk W (Itr lo n) [] (rangeD lo n) where
  goes := fun B H i hi _ => by rw [rangeD_len] at hi; exact hi
  stops := fun B H _ => by rw [rangeD_len]; exact Nat.le_refl n
  yields := fun B H i x H' hi hB hp y => by
    rw [rangeD_len] at hi
    obtain ⟨rfl, rfl⟩ := y
    exact ⟨.refl _, _, by simp [rangeD, hi], .int _⟩
variable {es : List Expr} {TL : DTL}
def iRange1 (TL : DTL) : DTL := fun env Q => TL env fun ds => match ds with | [.int n] => (-(2 ^ 62) ≤ n ∧ n < 2 ^ 62) ∧ Q (rangeD 0 n.toNat) | _ => False
def iRange2 (TL : DTL) : DTL := fun env Q => TL env fun ds => match ds with | [.int a, .int b] => (-(2 ^ 62) ≤ a ∧ a < 2 ^ 62 ∧ -(2 ^ 62) ≤ b ∧ b < 2 ^ 62) ∧ Q (rangeD a (b - a).toNat) | _ => False
theorem di_range1 (hm : X.mg "range" = none) (h : DA X [e] TL) (hg : Gl X "range" := by rfl) (pp : ∀ {ta : TA}, PA X [e] ta → PI X tg (.Call (.Name "range" p) [e] [] pos) (iRng1 ta)) : DI X tg (.Call (.Name "range" p) [e] [] pos) (iRange1 TL) :=
  let ⟨_, p, s⟩ := h; ⟨_, pp p, fun R _ _ _ _ _ _ _ S Qd Q h k => s R S _ _ h fun ds vs H' q g r => by
    split at q
    · cases r with
      | cons r rr =>
        cases rr
        exact ⟨_, by rw [r.int'], q.1.1, q.1.2, k _ _ _ [] q.2 g (fun _ z => nomatch z) dwk_range⟩
    · exact q.elim⟩
theorem di_range2 {e2 : Expr} (hm : X.mg "range" = none) (h : DA X [e, e2] TL) (hg : Gl X "range" := by rfl) (pp : ∀ {ta : TA}, PA X [e, e2] ta → PI X tg (.Call (.Name "range" p) [e, e2] [] pos) (iRng2 ta)) : DI X tg (.Call (.Name "range" p) [e, e2] [] pos) (iRange2 TL) :=
  let ⟨_, p, s⟩ := h; ⟨_, pp p, fun R _ _ _ _ _ _ _ S Qd Q h k => s R S _ _ h fun ds vs H' q g r => by
    split at q
    · cases r with
      | cons r rr =>
        cases rr with
        | cons r2 rr =>
          cases rr
          exact ⟨_, _, by rw [r.int', r2.int'], q.1, k _ _ _ [] q.2 g (fun _ z => nomatch z) dwk_range⟩
    · exact q.elim⟩
/-- enumerate, zip -/
def enumD (k0 : Int) (ds : List D) : List D := ds.mapIdx fun i d => .tup [.int (k0 + (i : Nat)), d]
theorem enumD_len (k0 : Int) (ds : List D) : (enumD k0 ds).length = ds.length := by simp [enumD]
theorem sqK_of {R : Rg} {v : V} {d : D} {ds : List D} (r : Rp W B H v d) (h : d = .tup ds ∨ d = .lst ds) : ∃ (k : Bool) (a : Addr) (xs : List V), v = .ref a ∧ SqK k W.K H a xs ∧ (k = true ↔ d = .lst ds) ∧ RpL W B H xs ds := by
  rcases h with rfl | rfl
  · obtain ⟨a, xs, rfl, h, l⟩ := r.tup'
    exact ⟨false, a, xs, rfl, h, by simp, l⟩
  · obtain ⟨a, xs, rfl, _, h, l⟩ := r.lst'
    exact ⟨true, a, xs, rfl, .of h, by simp, l⟩
def dK (k : Bool) (ds : List D) : D := if k = true then .lst ds else .tup ds
theorem rp_dK {k : Bool} {v : V} {ds : List D} (r : Rp W B H v (dK k ds)) : ∃ (a : Addr) (xs : List V), v = .ref a ∧ SqK k W.K H a xs ∧ RpL W B H xs ds := by
  cases k with
  | true => obtain ⟨a, xs, rfl, _, h, l⟩ := Rp.lst' r; exact ⟨a, xs, rfl, .of h, l⟩
  | false => obtain ⟨a, xs, rfl, h, l⟩ := Rp.tup' r; exact ⟨a, xs, rfl, h, l⟩
theorem rp_new {T : Addr} {xs : List V} {ds : List D} (hB : Lsts B H) (hT : H T = none) (l : RpL W B H xs ds) : Same H (upd H T (.tup xs)) ∧ Rp W B (upd H T (.tup xs)) (.ref T) (.tup ds) := by
  have s : Same H (upd H T (.tup xs)) := fun a u e => by rw [upd_ne (ne_of_none e hT)]; exact e
  exact ⟨s, .tup (.of upd_same) (l.keep hB (.of s))⟩
theorem dwk_enum {k : Bool} {a : Addr} {ds : List D} {k0 : Int} : DWk W (IteK k W.K a k0) [(.ref a, dK k ds)] (enumD k0 ds) where
  goes := fun B H i hi hp => by
    obtain ⟨a', xs, e, h, l⟩ := rp_dK (hp _ (List.mem_singleton.mpr rfl))
    cases e
    rw [enumD_len] at hi
    obtain ⟨v, hv, _⟩ := l.getD (List.getElem?_eq_getElem hi)
    exact ⟨xs, v, h, hv⟩
  stops := fun B H hp => by
    obtain ⟨a', xs, e, h, l⟩ := rp_dK (hp _ (List.mem_singleton.mpr rfl))
    cases e
    exact ⟨xs, h, by rw [enumD_len]; exact l.length⟩
  yields := fun B H i x H' hi hB hp y => by
    obtain ⟨a', xs, e, h, l⟩ := rp_dK (hp _ (List.mem_singleton.mpr rfl))
    cases e
    obtain ⟨T, x, rfl, hT, rfl, hx⟩ := y
    obtain ⟨d, hd, r⟩ := l.get (hx xs h)
    have q := rp_new hB hT (.cons (.int (k0 + (i : Nat))) (.cons r .nil))
    exact ⟨q.1, _, by simp [enumD, hd], q.2⟩
def onLT (d : D) (Q : List D → Prop) : Prop := match d with | .tup ds => Q ds | .lst ds => Q ds | _ => False
theorem onLT_at {d : D} {Q : List D → Prop} (h : onLT d Q) : ∃ k ds, d = dK k ds ∧ Q ds := by
  unfold onLT at h
  split at h
  · exact ⟨false, _, rfl, h⟩
  · exact ⟨true, _, rfl, h⟩
  · exact h.elim
def iEnumD (T : DTL) : DTL := fun env Q => T env fun ds => match ds with | [d] => onLT d fun ds => Q (enumD 0 ds) | _ => False
theorem di_enum {elts : List Expr} {kk : Nat} {tpos : Pos} (hm : X.mg "enumerate" = none) (h : DA X [e] TL) (hg : Gl X "enumerate" := by rfl) (hs : starEach [e] X.env = [(false, eval e X.env)] := by rfl) : DI X (.Tuple elts kk tpos) (.Call (.Name "enumerate" p) [e] [] pos) (iEnumD TL) :=
  let ⟨_, p, s⟩ := h; ⟨_, pi_enumK hg hm p hs, fun R _ _ _ _ _ _ _ S Qd Q h k => s R S _ _ h fun ds vs H' q g r => by
    split at q
    · cases r with
      | cons r rr =>
        cases rr
        obtain ⟨b, ds, rfl, q1⟩ := onLT_at q
        obtain ⟨a, xs, rfl, h1, l⟩ := rp_dK r
        exact ⟨b, a, xs, rfl, h1, k _ _ _ _ q1 g (rpP_one r) dwk_enum⟩
    · exact q.elim⟩
def zipD (ds es : List D) : List D := List.zipWith (fun a b => .tup [a, b]) ds es
theorem zipD_len (ds es : List D) : (zipD ds es).length = min ds.length es.length := by simp [zipD]
theorem dwk_zip {k1 k2 : Bool} {a b : Addr} {ds es : List D} : DWk W (ItzK k1 k2 W.K a b) [(.ref a, dK k1 ds), (.ref b, dK k2 es)] (zipD ds es) where
  goes := fun B H i hi hp => by
    obtain ⟨a', xs, e, h, l⟩ := rp_dK (hp (.ref a, dK k1 ds) (by simp))
    cases e
    obtain ⟨b', ys, e, h', l'⟩ := rp_dK (hp (.ref b, dK k2 es) (by simp))
    cases e
    rw [zipD_len] at hi
    obtain ⟨v, hv, _⟩ := l.getD (List.getElem?_eq_getElem (show i < ds.length by omega))
    obtain ⟨u, hu, _⟩ := l'.getD (List.getElem?_eq_getElem (show i < es.length by omega))
    exact ⟨xs, ys, v, u, h, h', hv, hu⟩
  stops := fun B H hp => by
    obtain ⟨a', xs, e, h, l⟩ := rp_dK (hp (.ref a, dK k1 ds) (by simp))
    cases e
    obtain ⟨b', ys, e, h', l'⟩ := rp_dK (hp (.ref b, dK k2 es) (by simp))
    cases e
    exact ⟨xs, ys, h, h', by rw [zipD_len, l.length, l'.length]⟩
  yields := fun B H i x H' hi hB hp y => by
    obtain ⟨a', xs, e, h, l⟩ := rp_dK (hp (.ref a, dK k1 ds) (by simp))
    cases e
    obtain ⟨b', ys, e, h', l'⟩ := rp_dK (hp (.ref b, dK k2 es) (by simp))
    cases e
    obtain ⟨T, x, y, rfl, hT, rfl, hx, hy⟩ := y
    obtain ⟨d, hd, r⟩ := l.get (hx xs h)
    obtain ⟨f, hf, r'⟩ := l'.get (hy ys h')
    have q := rp_new hB hT (.cons r (.cons r' .nil))
    exact ⟨q.1, _, by simp [zipD, List.getElem?_zipWith, hd, hf], q.2⟩
def iZipD (T : DTL) : DTL := fun env Q => T env fun ds => match ds with | [d, e] => onLT d fun ds => onLT e fun es => Q (zipD ds es) | _ => False
theorem di_zip {e2 : Expr} {elts : List Expr} {kk : Nat} {tpos : Pos} (hm : X.mg "zip" = none) (h : DA X [e, e2] TL) (hg : Gl X "zip" := by rfl) (hs : starEach [e, e2] X.env = (false, eval e X.env) :: starEach [e2] X.env := by rfl) (hpl : (backTo pos (starEach [e2] X.env)).any (·.1) = false := by rfl) :
    DI X (.Tuple elts kk tpos) (.Call (.Name "zip" p) [e, e2] [] pos) (iZipD TL) :=
  let ⟨_, p, s⟩ := h; ⟨_, pi_zipK hg hm p hs hpl, fun R _ _ _ _ _ _ _ S Qd Q h k => s R S _ _ h fun ds vs H' q g r => by
    split at q
    · cases r with
      | cons r rr =>
        cases rr with
        | cons r2 rr =>
          cases rr
          obtain ⟨b, ds, rfl, q1⟩ := onLT_at q
          obtain ⟨b2, es, rfl, q2⟩ := onLT_at q1
          obtain ⟨a, xs, rfl, h1, l⟩ := rp_dK r
          obtain ⟨a2, ys, rfl, h2, l2⟩ := rp_dK r2
          refine ⟨b, b2, a, a2, xs, ys, rfl, h1, h2, k _ _ _ _ q2 g (fun q hq => ?_) dwk_zip⟩
          rcases List.mem_cons.mp hq with rfl | hq
          · exact r
          · cases List.mem_singleton.mp hq
            exact r2
    · exact q.elim⟩
/-- reversed(a list, a tuple) -/
theorem dwk_revT {a : Addr} {ds : List D} : DWk W (ItvT W.K a ds.length) [(.ref a, .tup ds)] ds.reverse where
  goes := fun B H i hi hp => by
    obtain ⟨a', xs, e, h, l⟩ := (hp _ (List.mem_singleton.mpr rfl)).tup'
    cases e
    rw [List.length_reverse] at hi
    obtain ⟨v, hv, _⟩ := l.getD (List.getElem?_eq_getElem (show ds.length - 1 - i < ds.length by omega))
    exact ⟨hi, xs, v, h, hv⟩
  stops := fun B H hp => by
    show ds.length ≤ ds.reverse.length
    simp
  yields := fun B H i x H' hi hB hp y => by
    obtain ⟨a', xs, e, h, l⟩ := (hp _ (List.mem_singleton.mpr rfl)).tup'
    cases e
    rw [List.length_reverse] at hi
    obtain ⟨rfl, hx⟩ := y
    obtain ⟨d, hd, r⟩ := l.get (hx xs h)
    exact ⟨.refl _, d, by rw [List.getElem?_reverse hi]; exact hd, r⟩
theorem dwk_revL {a : Addr} {ds : List D} : DWk W (Itv W.K a ds.length) [(.ref a, .lst ds)] ds.reverse where
  goes := fun B H i hi hp => by
    obtain ⟨a', xs, e, _, h, l⟩ := (hp _ (List.mem_singleton.mpr rfl)).lst'
    cases e
    rw [List.length_reverse] at hi
    obtain ⟨v, hv, _⟩ := l.getD (List.getElem?_eq_getElem (show ds.length - 1 - i < ds.length by omega))
    exact ⟨hi, xs, v, .of h, hv⟩
  stops := fun B H hp => by
    show ds.length ≤ ds.reverse.length
    simp
  yields := fun B H i x H' hi hB hp y => by
    obtain ⟨a', xs, e, _, h, l⟩ := (hp _ (List.mem_singleton.mpr rfl)).lst'
    cases e
    rw [List.length_reverse] at hi
    obtain ⟨rfl, hx⟩ := y
    obtain ⟨d, hd, r⟩ := l.get (hx xs (.of h))
    exact ⟨.refl _, d, by rw [List.getElem?_reverse hi]; exact hd, r⟩
def iRevD (T : DT) : DTL := fun env Q => T env fun d => match d with | .tup ds => Q ds.reverse | .lst ds => Q ds.reverse | _ => False
theorem di_rev (hm : X.mg "reversed" = none) (h : DE X e T) (hg : Gl X "reversed" := by rfl) (hs : starEach [e] X.env = (false, eval e X.env) :: starEach [] X.env := by rfl) : DI X tg (.Call (.Name "reversed" p) [e] [] pos) (iRevD T) :=
  let ⟨_, p, s⟩ := h; ⟨_, pi_revA hg hm p hs, fun R _ _ _ _ _ _ _ S Qd Q h k => s R S _ _ h fun d v H' q g r => by
    split at q
    · rename_i ds
      obtain ⟨a, xs, rfl, h1, l1⟩ := r.tup'
      refine ⟨a, xs, rfl, .inr ⟨h1, ?_⟩⟩
      rw [l1.length]
      exact k _ _ _ _ q g (rpP_one r) dwk_revT
    · rename_i ds
      obtain ⟨a, xs, rfl, _, h1, l1⟩ := r.lst'
      refine ⟨a, xs, rfl, .inl ⟨.of h1, ?_⟩⟩
      rw [l1.length]
      exact k _ _ _ _ q g (rpP_one r) dwk_revL
    · exact q.elim⟩

/-! ### for, while -/
def loopD (G : DG) (U : DTS) (C : DK) : List D → Ev → Prop
  | [], env => C.nx env
  | d :: ds, env => G d env fun env' => U { nx := loopD G U C ds, ct := loopD G U C ds, bk := C.nx, rt := C.rt } env'
def dFor (TL : DTL) (G : DG) (U : DTS) : DTS := fun C env => TL env fun items => loopD G U C items env
theorem SR.morePins (S : SR W H0 B0 pins B H σ env) {ps : List (V × D)} (hp : RpP W B H ps) : SR W H0 B0 (ps ++ pins) B H σ env :=
  ⟨S.len, S.ext, S.rgb, S.ok, S.b0, S.sub, S.lsts, S.dom, S.at_, S.inj, fun q hq => (List.mem_append.mp hq).elim (hp q) (S.pin q)⟩
theorem SR.fewPins {ps : List (V × D)} (S : SR W H0 B0 (ps ++ pins) B H σ env) : SR W H0 B0 pins B H σ env :=
  ⟨S.len, S.ext, S.rgb, S.ok, S.b0, S.sub, S.lsts, S.dom, S.at_, S.inj, fun q hq => S.pin q (List.mem_append_right _ hq)⟩
theorem SR.ps {ps : List (V × D)} (S : SR W H0 B0 (ps ++ pins) B H σ env) : RpP W B H ps := fun q hq => S.pin q (List.mem_append_left _ hq)
variable {body : List Stmt} {G : DG} {U : DTS} {Tt : DTT}
theorem ds_for (hp : PassesOwn (model X.prog X.w) X.A X.env X.xe) (hc : X.calm = true) (hi : DI X tg iter TL) (hg : DTg X tg G) (hb : DSs X body U) (hs : ∀ x, foldedSetIterable iter X.env x = pure x := by intro _; rfl) :
    DS X (.For tg iter body [] pos) (dFor TL G U) := let ⟨_, p, s⟩ := hi; let ⟨_, pg, sg⟩ := hg; let ⟨_, pb, sb⟩ := hb; ⟨_, ps_for hp hc p pg pb hs, fun R _ _ pins _ _ _ _ S C E h k => s R S _ _ h fun items J H1 ps q g hps D => by
  refine ⟨fun i m σ H => m = items.length - i ∧ i ≤ items.length ∧ ∃ B env, SR _ _ _ (ps ++ pins) B H σ env ∧ loopD G U C (items.drop i) env, ⟨items.length, by simp, Nat.zero_le _, _, _, (S.grow g).morePins hps, by simpa using q⟩, ?_⟩
  rintro i m σ H ⟨rfl, hi, B, env, S', l⟩
  by_cases hlt : i < items.length
  · refine .inr ⟨D.goes B H i hlt S'.ps, fun σ' H' => ∃ B env, SR _ _ _ (ps ++ pins) B H' σ' env ∧ loopD G U C (items.drop (i + 1)) env, fun σ' H' ⟨B', env', S2, l2⟩ => ⟨items.length - (i + 1), by omega, rfl, hlt, B', env', S2, l2⟩, fun x H' y => ?_⟩
    obtain ⟨s2, d, hd, r⟩ := D.yields B H i x H' hlt S'.lsts S'.ps y
    have S2 := S'.grow (.of s2)
    have e : items.drop i = d :: items.drop (i + 1) := by
      rw [List.drop_eq_getElem_cons hlt]
      have : items[i] = d := by
        rw [List.getElem?_eq_getElem hlt] at hd
        exact Option.some.inj hd
      rw [this]
    rw [e] at l
    refine sg R S2 r _ _ l fun σ3 env3 q3 S3 => ?_
    exact sb R S3 _ _ q3 ⟨fun B H σ env l S => ⟨B, env, S, l⟩, fun B H σ env q S => k.nx _ _ _ _ q S.fewPins, fun B H σ env l S => ⟨B, env, S, l⟩, k.rt⟩
  · have e : i = items.length := by omega
    subst e
    rw [List.drop_length] at l
    exact .inl ⟨D.stops B H S'.ps, k.nx _ _ _ _ l S'.fewPins⟩⟩
def whileD (c : DTT) (U : DTS) (C : DK) : Nat → Ev → Prop
  | 0, _ => False
  | n + 1, env => c env fun b => if b = true then U { nx := whileD c U C n, ct := whileD c U C n, bk := C.nx, rt := C.rt } env else C.nx env
def dWhile (c : DTT) (U : DTS) : DTS := fun C env => ∃ n, whileD c U C n env
theorem ds_while {c : Expr} (hp : PassesOwn (model X.prog X.w) X.A X.env X.xe) (hc : DB X c Tt) (hb : DSs X body U) : DS X (.While c body [] pos) (dWhile Tt U) := let ⟨_, pc, sc⟩ := hc; let ⟨_, pb, sb⟩ := hb; ⟨_, ps_while hp pc pb, fun R _ _ pins _ _ _ _ S C E h k => by
  obtain ⟨n, h⟩ := h
  refine ⟨fun m σ H => ∃ B env, SR _ _ _ pins B H σ env ∧ whileD Tt U C m env, ⟨n, _, _, S, h⟩, ?_⟩
  rintro m σ H ⟨B, env, S', l⟩
  cases m with
  | zero => exact l.elim
  | succ m =>
    refine sc R S' _ _ l fun b H1 q g => ?_
    cases b with
    | true =>
      rw [if_pos rfl] at q ⊢
      exact ⟨fun σ' H' => ∃ B env, SR _ _ _ pins B H' σ' env ∧ whileD Tt U C m env, fun σ' H' z => ⟨m, Nat.lt_succ_self m, z⟩, sb R (S'.grow g) _ _ q ⟨fun B H σ env l S => ⟨B, env, S, l⟩, fun B H σ env q S => k.nx _ _ _ _ q S, fun B H σ env l S => ⟨B, env, S, l⟩, k.rt⟩⟩
    | false =>
      rw [if_neg (by decide)] at q ⊢
      exact k.nx _ _ _ _ q (S'.grow g)⟩
end
end MD
end
section
/-! List comprehensions. -/
namespace MD
open PySem PySem.Spec PyProof.Rows L2

theorem wipe_set_set {i : Nat} {x y : Option V} : ∀ {vs : List Nat} {σ : L2.St}, (wipe (σ.set i x) vs).set i y = (wipe σ vs).set i y
  | [], σ => by unfold wipe; rw [List.set_set]
  | v :: vs, σ => by
    unfold wipe
    by_cases h : v = i
    · subst h; rw [List.set_set, List.set_set, wipe_set_set]
    · rw [List.set_comm _ _ h, wipe_set_set, List.set_comm _ _ (Ne.symm h)]
theorem wipe_set_in {i : Nat} {x : Option V} : ∀ {vs : List Nat} {σ : L2.St}, i ∈ vs → wipe (σ.set i x) vs = wipe σ vs
  | [], _, h => by simp at h
  | v :: vs, σ, h => by
    unfold wipe
    by_cases hv : v = i
    · subst hv; exact wipe_set_set
    · have : i ∈ vs := by
        rcases List.mem_cons.mp h with e | e
        · exact absurd e.symm hv
        · exact e
      rw [wipe_set_in this]
def wipeE (env : Ev) : List Nat → Ev
  | [] => env
  | v :: vs => (wipeE env vs).set v .un
section
variable {X : Cx} {W : Wd} {H0 : Hp} {B0 B : Addr → Prop} {pins : List (V × D)} {H H' : Hp} {σ : L2.St} {env : Ev} {tg iter e elt : Expr} {T Ta Tb : DT} {pos p : Pos} {ifs : List Expr} {TL : DTL} {G : DG} {Tt : DTT}
theorem SR.wipe (S : SR W H0 B0 pins B H σ env) : ∀ vs : List Nat, SR W H0 B0 pins B H (wipe σ vs) (wipeE env vs)
  | [] => S
  | v :: vs => (SR.wipe S vs).forget v none
/-- a list of B that no slot holds is changed -/
theorem SR.poke (S : SR W H0 B0 pins B H σ env) {p : Addr} (vs : List V) (b : B p) (hn : H0 p = none) (ns : ∀ j fs, get env j = .own fs → σ[j]? ≠ some (some (.ref p))) : SR W H0 B0 pins B (upd H p (.lst vs)) σ env := by
  have k : Keep B H (upd H p (.lst vs)) := fun a o na e => by
    rw [upd_ne (fun z : a = p => na (by rw [z]; exact b))]
    exact e
  have np : ∀ q, W.rg q → q ≠ p := fun q z e => S.b0 q (S.rgb q z) (by rw [e]; exact hn)
  have kr : ∀ a o, W.rg a → H a = some o → (upd H p (.lst vs)) a = some o := fun a o z e => by rw [upd_ne (np a z)]; exact e
  refine ⟨S.len, ⟨fun a o n e => ?_, fun a o n e => ?_, fun z => W.okk _ _ kr (S.ext.ok z)⟩, S.rgb, W.okk _ _ kr S.ok, S.b0, S.sub, fun q o bq e => ?_, fun q bq e => ?_, fun j => ?_, S.inj, fun q hq => (S.pin q hq).keep S.lsts k⟩
  · rw [upd_ne (fun z => by rw [z, hn] at e; cases e)]
    exact S.ext.keep a o n e
  · obtain ⟨o', e', s⟩ := S.ext.soft a o n e
    exact ⟨o', kr a o' n e', s⟩
  · by_cases z : q = p
    · subst z; rw [upd_same] at e; cases e; exact soft_lst
    · rw [upd_ne z] at e; exact S.lsts q o bq e
  · by_cases z : q = p
    · subst z; rw [upd_same] at e; cases e
    · rw [upd_ne z] at e; exact S.dom q bq e
  · have z := S.at_ j
    cases g : get env j with
    | un => trivial
    | dat d =>
      rw [g] at z
      obtain ⟨v, e, r⟩ := z
      exact ⟨v, e, r.keep S.lsts k⟩
    | own fs =>
      rw [g] at z
      obtain ⟨q, us, e, b', h0', h1', r'⟩ := z
      have ne : q ≠ p := fun z => by
        subst z
        exact ns j fs g e
      exact ⟨q, us, e, b', h0', by rw [upd_ne ne]; exact h1', r'.keep S.lsts k⟩
theorem Gr.poke {p : Addr} {o : HO} {H1 : Hp} (g : Gr W H1 H) (hn : H1 p = none) (np : ¬ W.rg p) : Gr W H1 (upd H p o) :=
  have kr : ∀ a u, W.rg a → H a = some u → (upd H p o) a = some u := fun a u z e => by rw [upd_ne (fun q : a = p => np (by rw [← q]; exact z))]; exact e
  ⟨fun a u n e => by rw [upd_ne (ne_of_none e hn)]; exact g.keep a u n e, fun a u n e => by obtain ⟨o', e', s⟩ := g.soft a u n e; exact ⟨o', kr a o' n e', s⟩, fun z => W.okk _ _ kr (g.ok z)⟩
def compD (G : DG) (Tt : DTT) (Te : DT) (env : Ev) (Q : List D → Prop) : List D → List D → Prop
  | [], acc => Q acc
  | d :: ds, acc => G d env fun env' => Tt env' fun b => if b = true then Te env' fun x => acc.length < SZ ∧ compD G Tt Te env Q ds (acc ++ [x]) else compD G Tt Te env Q ds acc
def dLc (TL : DTL) (G : DG) (Tt : DTT) (Te : DT) (vs : List Nat) : DT := fun env Q => TL env fun items => compD G Tt Te (wipeE env vs) (fun ds => Q (.lst ds)) items []
/-- a target whose names are all among vs -/
def SimW (W : Wd) (vs : List Nat) (g : TG) (G : DG) : Prop := ∀ {H0 : Hp} {B0 : Addr → Prop} {pins : List (V × D)} {B : Addr → Prop} {H : Hp} {σ : L2.St} {env : Ev}, SR W H0 B0 pins B H σ env → ∀ {v : V} {d : D}, Rp W B H v d → ∀ (Qd : Ev → Prop) (Q : L2.St → Hp → Prop), G d env Qd →
  (∀ σ' env', Qd env' → L2.wipe σ' vs = L2.wipe σ vs → SR W H0 B0 pins B H σ' env' → Q σ' H) → g v σ H Q
def SimWL (W : Wd) (vs : List Nat) (g : TGs) (G : DGL) : Prop := ∀ {H0 : Hp} {B0 : Addr → Prop} {pins : List (V × D)} {B : Addr → Prop} {H : Hp} {σ : L2.St} {env : Ev}, SR W H0 B0 pins B H σ env → ∀ {ws : List V} {ds : List D}, RpL W B H ws ds → ∀ (Qd : Ev → Prop) (Q : L2.St → Hp → Prop), G ds env Qd →
  (∀ σ' env', Qd env' → L2.wipe σ' vs = L2.wipe σ vs → SR W H0 B0 pins B H σ' env' → Q σ' H) → g ws σ H Q
theorem wipe_wipe (vs : List Nat) (σ : L2.St) : L2.wipe (L2.wipe σ vs) vs = L2.wipe σ vs := by
  have aux : ∀ (us : List Nat) (τ : L2.St), (∀ u ∈ us, u ∈ vs) → L2.wipe (L2.wipe τ us) vs = L2.wipe τ vs := fun us => by
    induction us with
    | nil => intro τ _; rfl
    | cons u us ih =>
      intro τ hu
      show L2.wipe ((L2.wipe τ us).set u none) vs = _
      rw [wipe_set_in (hu u (by simp)), ih τ fun v hv => hu v (by simp [hv])]
  exact aux vs σ fun _ h => h
theorem simF_lc {wi : TI} {g : TG} {tt : TT} {te : TE} {vs : List Nat} (hi : SimI W wi TL) (hg : SimW W vs g G) (ht : SimT W tt Tt) (he : SimE W te T) : SimF W (tLc wi g tt te vs) (dLc TL G Tt T vs) := fun {H0 B0 pins B H σ env} S Qd Q h k => by
  refine hi S _ _ h fun items J H1 ps q g1 hps Dw => fun Dl hD => ?_
  have S1 := (S.grow g1).morePins hps
  have hD0 : H0 Dl = none := S1.ext.back hD
  have nrg : ¬ W.rg Dl := fun z => S.b0 Dl (S.rgb Dl z) hD0
  have Sw0 := (S1.wipe vs).adopt hD (gr_new hD) (upd_same (o := .lst []))
  have ns : ∀ j fs, get (wipeE env vs) j = .own fs → (L2.wipe σ vs)[j]? ≠ some (some (.ref Dl)) := fun j fs e z => by
    have y := (S1.wipe vs).at_ j
    rw [e] at y
    obtain ⟨q, us, e2, _, _, h1, _⟩ := y
    rw [z] at e2
    cases e2
    rw [hD] at h1
    cases h1
  refine ⟨fun i m H => m = items.length - i ∧ i ≤ items.length ∧ ∃ av ad, SR W H0 B0 (ps ++ pins) (Add B Dl) H (L2.wipe σ vs) (wipeE env vs) ∧ H Dl = some (.lst av) ∧ RpL W (Add B Dl) H av ad ∧ Gr W H1 H ∧ compD G Tt T (wipeE env vs) (fun ds => Qd (.lst ds)) (items.drop i) ad,
    ⟨items.length, by simp, Nat.zero_le _, [], [], Sw0, upd_same, .nil, gr_new hD, by simpa using q⟩, ?_⟩
  rintro i m H2 ⟨rfl, hi, av, ad, Sw, hl, rl, gr, c⟩
  by_cases hlt : i < items.length
  · refine .inr ⟨Dw.goes _ H2 i hlt Sw.ps, fun H' => ∃ av ad, SR W H0 B0 (ps ++ pins) (Add B Dl) H' (L2.wipe σ vs) (wipeE env vs) ∧ H' Dl = some (.lst av) ∧ RpL W (Add B Dl) H' av ad ∧ Gr W H1 H' ∧ compD G Tt T (wipeE env vs) (fun ds => Qd (.lst ds)) (items.drop (i + 1)) ad,
      fun H' ⟨av, ad, a1, a2, a3, a4, a5⟩ => ⟨items.length - (i + 1), by omega, rfl, hlt, av, ad, a1, a2, a3, a4, a5⟩, fun x H3 y => ?_⟩
    obtain ⟨s2, d, hd, r⟩ := Dw.yields _ H2 i x H3 hlt Sw.lsts Sw.ps y
    have S3 := Sw.grow (.of s2)
    have e : items.drop i = d :: items.drop (i + 1) := by
      rw [List.drop_eq_getElem_cons hlt]
      have : items[i] = d := by
        rw [List.getElem?_eq_getElem hlt] at hd
        exact Option.some.inj hd
      rw [this]
    rw [e] at c
    refine hg S3 r _ _ c fun σ4 env4 q4 w4 S4 => ⟨by rw [w4, wipe_wipe], ht S4 _ _ q4 fun b H5 q5 g5 => ?_⟩
    · have hl3 : H3 Dl = some (.lst av) := s2 _ _ hl
      have hl5 := g5.keep Dl _ nrg hl3
      have S5 := S3.grow g5
      cases b with
      | true =>
        rw [if_pos rfl] at q5 ⊢
        refine he (S4.grow g5) _ _ q5 fun f u H6 q6 g6 r6 => ?_
        have hl6 := g6.keep Dl _ nrg hl5
        have S6 := S5.grow g6
        have l6 : RpL W (Add B Dl) H6 av ad := S5.rpL g6 (S3.rpL g5 (Sw.rpL (.of s2) rl))
        have S7 := S6.poke (av ++ [u]) (.inr rfl) hD0 ns
        have ka : Keep (Add B Dl) H6 (upd H6 Dl (.lst (av ++ [u]))) := fun a o n e => by rw [upd_ne (fun z : a = Dl => n (.inr z))]; exact e
        exact ⟨av, hl6, by rw [rl.length]; exact SZ_lt q6.1, av ++ [u], ad ++ [f], S7, upd_same, (l6.append (.cons r6 .nil)).keep S6.lsts ka, (((gr.trans (.of s2)).trans g5).trans g6).poke hD nrg, q6.2⟩
      | false =>
        rw [if_neg (by decide)] at q5 ⊢
        exact ⟨av, ad, S5, hl5, S3.rpL g5 (Sw.rpL (.of s2) rl), (gr.trans (.of s2)).trans g5, q5⟩
  · have e : i = items.length := by omega
    subst e
    rw [List.drop_length] at c
    exact .inl ⟨Dw.stops _ H2 Sw.ps, k _ Dl av H2 c (g1.back hD) (g1.trans gr) hl rl⟩

/-! ### a comprehension's block: one term for all of its states -/
structure BP where
  s : Shared
  H : Hp
  C : Addr
  cl : List (Str × Addr)
  fp : List Addr
abbrev bk (X : Cx) (scope : Scope) (b : BP) : Cx := X.blk b.s b.H scope (compEnvC scope b.cl b.C X.env) b.fp
variable {scope : Scope}
theorem uniE (h : ∀ b : BP, DE (bk X scope b) e T) : ∃ te, (∀ b, PE (bk X scope b) e te) ∧ ∀ R, SimE (Cx.wd X R) te T := by
  refine ⟨fun σ H Q => ∀ b, (Classical.choose (h b)) σ H Q, fun b => ⟨fun pins s σ H Q I hq => (Classical.choose_spec (h b)).1.run pins s σ H Q I (hq b)⟩, fun R _ _ _ _ _ _ _ S Qd Q hT k b => (Classical.choose_spec (h b)).2 R S Qd Q hT k⟩
def DPs (X : Cx) (ifs : List Expr) (T : DTT) : Prop := ∃ t, PTs X ifs t ∧ ∀ R, SimT (Cx.wd X R) t T
def dYes : DTT := fun _ Q => Q true
theorem dps_nil : DPs X [] dYes := ⟨_, pts_nil, fun R _ _ _ _ _ _ _ S Qd Q h k => k _ _ h .refl⟩
theorem dps_one {c : Expr} (h : DB X c Tt) : DPs X [c] Tt := let ⟨_, p, s⟩ := h; ⟨_, pts_one p, s⟩
theorem uniT (h : ∀ b : BP, DPs (bk X scope b) ifs Tt) : ∃ te, (∀ b, PTs (bk X scope b) ifs te) ∧ ∀ R, SimT (Cx.wd X R) te Tt := by
  refine ⟨fun σ H Q => ∀ b, (Classical.choose (h b)) σ H Q, fun b => ⟨fun pins s σ H Q I hq => (Classical.choose_spec (h b)).1.run pins s σ H Q I (hq b)⟩, fun R _ _ _ _ _ _ _ S Qd Q hT k b => (Classical.choose_spec (h b)).2 R S Qd Q hT k⟩
/-- a target within such a block -/
def DTw (X : Cx) (vs : List Nat) (tg : Expr) (G : DG) : Prop := ∃ g, PG X tg g ∧ ∀ R, SimW (Cx.wd X R) vs g G
def DTwL (X : Cx) (vs : List Nat) (tgs : List Expr) (G : DGL) : Prop := ∃ g, PGs X tgs g ∧ ∀ R, SimWL (Cx.wd X R) vs g G
theorem uniG {vs : List Nat} (h : ∀ b : BP, DTw (bk X scope b) vs tg G) : ∃ g, (∀ b, PG (bk X scope b) tg g) ∧ ∀ R, SimW (Cx.wd X R) vs g G := by
  refine ⟨fun v σ H Q => ∀ b, (Classical.choose (h b)) v σ H Q, fun b => ⟨fun pins s σ H v u Q I r hq => (Classical.choose_spec (h b)).1.run pins s σ H v u Q I r (hq b)⟩, fun R _ _ _ _ _ _ _ S v d r Qd Q hT k b => (Classical.choose_spec (h b)).2 R S r Qd Q hT k⟩
theorem dw_name {x : Str} {vs : List Nat} (i : Nat) (hN : X.N.Nodup) (hv : i ∈ vs := by decide) (hi : X.N[i]? = some x := by rfl) (hx : Loc X.env.scope x := by first | exact Or.inl rfl | exact Or.inr rfl) (hf : X.fn x = true ∨ X.env.scope.names.lookup x = some .local := by first | exact .inl rfl | exact .inr rfl | assumption) : DTw X vs (.Name x pos) (gNm i) :=
  ⟨_, pg_name hN hi hx hf, fun R _ _ _ _ _ _ _ S v d r Qd Q h k => k _ _ h (wipe_set_in hv) (S.set i r)⟩
theorem dwl_nil {vs : List Nat} : DTwL X vs [] gNil' := ⟨_, pgs_nil, fun R _ _ _ _ _ _ _ S ws ds r Qd Q h k => by
  obtain ⟨rfl, q⟩ := h
  cases r
  exact ⟨rfl, k _ _ q rfl S⟩⟩
theorem dwl_cons {es : List Expr} {GL : DGL} {vs : List Nat} (h : DTw X vs e G) (hr : DTwL X vs es GL)
    (p : ∀ {t : TG} {u : TGs}, PG X e t → PGs X es u → PGs X (e :: es) (gCons t u) := by exact fun h1 h2 => pgs_cons h1 h2) : DTwL X vs (e :: es) (gCons' G GL) := let ⟨_, p1, s1⟩ := h; let ⟨_, p2, s2⟩ := hr; ⟨_, p p1 p2, fun R _ _ _ _ _ _ _ S ws ds r Qd Q h k => by
  unfold gCons' at h
  split at h
  · exact h.elim
  · cases r with
    | cons r1 r2 => exact ⟨_, _, rfl, s1 R S r1 _ _ h fun σ' env' q w S' => s2 R S' r2 Qd Q q fun σ2 env2 q2 w2 S2 => k _ _ q2 (w2.trans w) S2⟩⟩
theorem dw_tup {es : List Expr} {k n : Nat} {GL : DGL} {vs : List Nat} (hc : X.calm = true) (h : DTwL X vs es GL) (hn : (assignEach es X.env).length = n := by rfl) (hst : (assignEach es X.env).findIdx? (·.1) = none := by rfl) : DTw X vs (.Tuple es k pos) (gTupD n GL) :=
  let ⟨_, p, s⟩ := h; ⟨_, pg_or (pg_tup hc p hn hst) (pg_lst hc p hn hst), fun R _ _ _ _ _ _ _ S v d r Qd Q h k => by
    unfold gTupD at h
    split at h
    · obtain ⟨a, xs, rfl, h1, l⟩ := r.tup'
      exact .inl ⟨a, xs, rfl, h1, by rw [l.length]; exact h.1, s R S l _ _ h.2 k⟩
    · obtain ⟨a, xs, rfl, _, h1, l⟩ := r.lst'
      exact .inr ⟨a, xs, rfl, .of h1, by rw [l.length]; exact h.1, s R S l _ _ h.2 k⟩
    · exact h.elim⟩
/-- [elt for target in iter if ..] -/
theorem df_lc {own : List (Str × Nat)} (hc : X.calm = true) (hN : X.N.Nodup) (hi : DI X tg iter TL) (ok : BlkOk X.N X.env.scope scope own) (hg : ∀ b : BP, DTw (bk X scope b) (own.map (·.2)) tg G) (ht : ∀ b : BP, DPs (bk X scope b) ifs Tt) (he : ∀ b : BP, DE (bk X scope b) elt T)
    (hs : ∀ x, foldedSetIterable iter X.env x = pure x := by intro _; rfl) : DF X (.ListComp elt [⟨tg, iter, ifs, 0⟩] scope pos) (dLc TL G Tt T (own.map (·.2))) := by
  obtain ⟨wi, pi, si⟩ := hi
  obtain ⟨g, pg, sg⟩ := uniG hg
  obtain ⟨tt, pt, st⟩ := uniT ht
  obtain ⟨te, pe, se⟩ := uniE he
  exact ⟨_, pe_lc hc hN pi ok (fun s H C cl fp => pg ⟨s, H, C, cl, fp⟩) (fun s H C cl fp => pt ⟨s, H, C, cl, fp⟩) (fun s H C cl fp => pe ⟨s, H, C, cl, fp⟩) hs, fun R => simF_lc (si R) (sg R) (st R) (se R)⟩
/-- y = [..] -/
theorem pslc {own : List (Str × Nat)} {y : Str} {py spos : Pos} {i : Nat} (hc : X.calm = true) (hN : X.N.Nodup) (hy : X.N[i]? = some y) (hyl : X.env.scope.names.lookup y = some .local) (hi : DI X tg iter TL) (ok : BlkOk X.N X.env.scope scope own) (hg : ∀ b : BP, DTw (bk X scope b) (own.map (·.2)) tg G) (ht : ∀ b : BP, DPs (bk X scope b) ifs Tt) (he : ∀ b : BP, DE (bk X scope b) elt T)
    (hsw : swapsWith (.ListComp elt [⟨tg, iter, ifs, 0⟩] scope pos) (some (.Name y py)) spos.line X.env = pure true) (hs : ∀ x, foldedSetIterable iter X.env x = pure x) :
    ∃ te, PS X (.Assign [.Name y py] (.ListComp elt [⟨tg, iter, ifs, 0⟩] scope pos) spos) (tAsg te (gName i)) ∧ ∀ R, SimF (Cx.wd X R) te (dLc TL G Tt T (own.map (·.2))) := by
  obtain ⟨wi, pi, si⟩ := hi
  obtain ⟨g, pg, sg⟩ := uniG hg
  obtain ⟨tt, pt, st⟩ := uniT ht
  obtain ⟨te, pe, se⟩ := uniE he
  exact ⟨_, ps_setLc hc hN hy hyl hsw pi ok (fun s H C cl fp => pg ⟨s, H, C, cl, fp⟩) (fun s H C cl fp => pt ⟨s, H, C, cl, fp⟩) (fun s H C cl fp => pe ⟨s, H, C, cl, fp⟩) hs, fun R => simF_lc (si R) (sg R) (st R) (se R)⟩
theorem simF_e {t : TE} (h : SimF W t T) : SimE W t T := fun S Qd Q hT k => h S Qd Q hT fun ds p vs H' q n g e r => k _ _ H' q g (.lst (fun b => S.dom p b n) e (r.anti fun _ z => .inl z))
theorem ds_setLc {own : List (Str × Nat)} {y : Str} {py spos : Pos} (i : Nat) (hc : X.calm = true) (hN : X.N.Nodup) (hi : DI X tg iter TL) (ok : BlkOk X.N X.env.scope scope own) (hg : ∀ b : BP, DTw (bk X scope b) (own.map (·.2)) tg G) (ht : ∀ b : BP, DPs (bk X scope b) ifs Tt) (he : ∀ b : BP, DE (bk X scope b) elt T)
    (hsw : swapsWith (.ListComp elt [⟨tg, iter, ifs, 0⟩] scope pos) (some (.Name y py)) spos.line X.env = pure true) (hy : X.N[i]? = some y := by rfl) (hyl : X.env.scope.names.lookup y = some .local := by rfl) (hs : ∀ x, foldedSetIterable iter X.env x = pure x := by intro _; rfl) :
    DS X (.Assign [.Name y py] (.ListComp elt [⟨tg, iter, ifs, 0⟩] scope pos) spos) (dSet i (dLc TL G Tt T (own.map (·.2)))) := by
  obtain ⟨te, p, s⟩ := pslc hc hN hy hyl hi ok hg ht he hsw hs
  exact ⟨_, p, fun R _ _ _ _ _ _ _ S C E h k => simF_e (s R) S _ _ h fun d v H' q g r => k.nx _ _ _ _ q ((S.grow g).set i r)⟩
theorem ds_setLcO {own : List (Str × Nat)} {y : Str} {py spos : Pos} (i : Nat) (hc : X.calm = true) (hN : X.N.Nodup) (hi : DI X tg iter TL) (ok : BlkOk X.N X.env.scope scope own) (hg : ∀ b : BP, DTw (bk X scope b) (own.map (·.2)) tg G) (ht : ∀ b : BP, DPs (bk X scope b) ifs Tt) (he : ∀ b : BP, DE (bk X scope b) elt T)
    (hsw : swapsWith (.ListComp elt [⟨tg, iter, ifs, 0⟩] scope pos) (some (.Name y py)) spos.line X.env = pure true) (hy : X.N[i]? = some y := by rfl) (hyl : X.env.scope.names.lookup y = some .local := by rfl) (hs : ∀ x, foldedSetIterable iter X.env x = pure x := by intro _; rfl) :
    DS X (.Assign [.Name y py] (.ListComp elt [⟨tg, iter, ifs, 0⟩] scope pos) spos) (dSetO i (dLc TL G Tt T (own.map (·.2)))) := by
  obtain ⟨te, p, s⟩ := pslc hc hN hy hyl hi ok hg ht he hsw hs
  exact ⟨_, p, fun R _ _ _ _ _ _ _ S C E h k => s R S _ _ h fun ds p vs H' q n g e r => k.nx _ _ _ _ q (S.setOwn i n g e r)⟩
end
end MD
end
section
/-! Defs, their calls, where the stack holds no repr under way. -/
namespace MD
open PySem PySem.Spec PyProof.Rows L2

/-- room, and no repr under way -/
structure RmG (k : Nat) (A : Around) : Prop where
  r : Room k A
  g : A.guards = some []
theorem RmG.mono {j k : Nat} {A : Around} (h : RmG k A) (l : j ≤ k) : RmG j A := ⟨h.r.mono l, h.g⟩
theorem RmG.deeper {k : Nat} {A : Around} (h : RmG (k + 1) A) (env : Env) : RmG k (A.deeper env) := ⟨h.r.deeper env, h.g⟩
theorem RmG.in1 {k : Nat} {A : Around} (h : RmG (k + 1) A) : RmG k A.in1 := ⟨h.r.in1, h.g⟩
theorem make_guards {A : Around} {C : Addr} {us : List Value} {kw : List (Str × Value)} : (A.under (.builtin "type.__call__" ⟨.ref C :: us, kw⟩)).guards = pushGuards [] A.guards := by
  first | rfl | simp [Around.under, Code.guards, Code.isGuard, guardIds]
theorem RmG.make {k : Nat} {A : Around} (h : RmG (k + 1) A) (C : Addr) (us : List Value) (kw : List (Str × Value)) : RmG k (A.under (.builtin "type.__call__" ⟨.ref C :: us, kw⟩)) :=
  ⟨h.r.make C us kw, by rw [make_guards, h.g]; rfl⟩
/-- a def keeps its promise at such a place -/
structure FnG (P : Program) (w : World) (K : PySem.W.Frag) (mg : Str → Option Value) (base : Heap) (CX : CXT) (k : Nat) (f : Addr) (fd : FuncData) (ps : List Str) (sp : Sp) : Prop where
  len : ∀ vs H Q E, sp vs H Q E → vs.length = ps.length
  run : ∀ (A : Around) (outer : List Env) (s : Shared) (H : Hp) (args : Args) (us : List Value) (vs : List V) (Q : VK) (E : XK), RmG k A → Env0 P w K mg base A outer s H → BindsTo s fd args (ps.zip us) → Vals vs us → sp vs H Q E →
    codeAny (model P w) A (.call (.ref f) args) (CR CX outer P w H s Q E) s
section
variable {P : Program} {w : World} {K : PySem.W.Frag} {mg : Str → Option Value} {base : Heap} {CX : CXT} {f : Addr} {fd : FuncData} {ps : List Str} {sp : Sp}
theorem FnG.mono {j k : Nat} (F : FnG P w K mg base CX j f fd ps sp) (h : j ≤ k) : FnG P w K mg base CX k f fd ps sp :=
  ⟨F.len, fun A outer s H args us vs Q E hr => F.run A outer s H args us vs Q E (hr.mono h)⟩
theorem fnG_of {k : Nat} {name qual : Str} {params : Arguments} {body : List Stmt} {scope : Scope} {dV kV doc pm cdv ct oc : Value} {an od : Option Addr} {osl : Array (Option Value)} {N : List Str}
    (lk : K.lookup f = some ⟨oc, od, .func (PySem.W.fnOf name qual params body scope dV kV doc pm an cdv ct), osl⟩) (hcd : PySem.W.codeIn K cdv qual = true) (S : FnScope N ps scope) (len : ∀ vs H Q E, sp vs H Q E → vs.length = ps.length)
    (hbody : ∀ (A : Around) (outer : List Env) (s : Shared) (H : Hp) (vs : List V) (Q : VK) (E : XK), RmG k (A.deeper (envOfC qual scope s.heap.objs.size f cdv)) → sp vs H Q E →
      ∃ t, PSs (cxOf CX P w K mg base N qual scope f cdv A outer s H E) body t ∧ t { nx := fun _ H' => Q .non H', rt := Q } (start N vs) H) :
    FnG P w K mg base CX (k + 1) f (PySem.W.fnOf name qual params body scope dV kV doc pm an cdv ct) ps sp := by
  refine ⟨len, fun A outer s H args us vs Q E hr e0 hb r hsp => ?_⟩
  have KX : K.In s.heap := e0.mod.kin.keeps fun b o e => (e0.bs b o e).1
  have lim : s.heap.NoLimit := e0.mod.nolimit.keeps fun b o e => (e0.bs b o e).1
  refine codeAny_call_function hr.r.depth (KX _ _ lk) rfl S.co S.gen rfl (PySem.W.codeRec_of KX hcd) (hb _ _ _ _ ?_)
  refine wpAny_newFunctionEnv_cells S.kind (fun y hy => ?_) fun env he s1 x => ?_
  · rcases S.par y.1 (List.of_mem_zip (show (y.1, y.2) ∈ ps.zip us from hy)).1 with q | q
    · exact .inl q
    · exact .inr ⟨q, PySem.W.cellsFrom_some _ _ _ (.inl q)⟩
  subst he
  refine ⟨lim.keeps x.toInCall.keep, codeAny_func ?_⟩
  obtain ⟨t, ht, hq⟩ := hbody A outer s H vs Q E (hr.deeper _) hsp
  refine wpAny_mono (ht.run [] s1 (start N vs) H _ (inv_start S hr.r.hd e0 (len _ _ _ _ hsp) r x) hq) (fun fl s' hs => ?_) fun e s' hs => hs
  cases fl with
  | ret u => obtain ⟨v, σ', H', J, rv, q⟩ := hs; exact ⟨v, H', J.os, J.bare, J.base, J.hok, rv, q⟩
  | next => obtain ⟨σ', H', J, q⟩ := hs; exact ⟨.non, H', J.os, J.bare, J.base, J.hok, rfl, q⟩
  | brk => obtain ⟨_, _, _, q⟩ := hs; exact False.elim q
  | cont => obtain ⟨_, _, _, q⟩ := hs; exact False.elim q
theorem okG {x qual : Str} {params : Arguments} {body : List Stmt} {scope : Scope} {dvs : List V} {kws : List (Str × V)} {N : List Str} {k : Nat} (F : FunD K x qual params body scope dvs kws f fd) (S : FnScope N ps scope) (len : ∀ vs H Q E, sp vs H Q E → vs.length = ps.length)
    (hbody : ∀ (cdv : Value) (A : Around) (outer : List Env) (s : Shared) (H : Hp) (vs : List V) (Q : VK) (E : XK), RmG k (A.deeper (envOfC qual scope s.heap.objs.size f cdv)) → sp vs H Q E →
      ∃ t, PSs (cxOf CX P w K mg base N qual scope f cdv A outer s H E) body t ∧ t { nx := fun _ H' => Q .non H', rt := Q } (start N vs) H) : FnG P w K mg base CX (k + 1) f fd ps sp := by
  obtain ⟨oc, od, dV, kV, doc, pm, an, cdv, ct, osl, rfl, lk, hcd, _, _⟩ := F.ex
  exact fnG_of lk hcd S len fun A outer s H vs Q E hr hsp => hbody cdv A outer s H vs Q E hr hsp
end

/-! ### running one -/
section
variable {X : Cx} {CX : CXT} {k n : Nat} {f C : Addr} {fd : FuncData} {ps ks : List Str} {sp : Sp} {dvs : List V} {ds : List Value} {E : XK} {x m : Str} {p pos apos : Pos} {e o : Expr} {es : List Expr} {kws : List Keyword} {ta : TE} {t tk : TA} {g : List Value → List Value → List Value} {gV : List V → List V → List V}
/-- the callee at some place A below the body's -/
theorem runA {A : Around} {pins : List (Addr × Obj)} {σ : L2.St} {H : Hp} {s : Shared} {Q : VK} {args : Args} {us : List Value} {vs : List V} (F : FnG X.prog X.w X.K X.mg X.base CX k f fd ps sp) (hr : RmG k A) (hf : A.frames = X.A.frames) (hx : Passes CX X E) (I : Inv X pins σ H s)
    (hb : BindsTo s fd args (ps.zip us)) (r : Vals vs us) (h : sp vs H Q E) : codeAny (model X.prog X.w) A (.call (.ref f) args) (wants (EP X pins σ Q) X.xe) s := by
  have e := I.env0
  have e0 : Env0 X.prog X.w X.K X.mg X.base A X.stack s H := ⟨hf.trans e.frames, e.mod, e.bs, e.bsz, e.funs, e.frf, e.hok, e.bare⟩
  refine codeAny_mono (F.run A X.stack s H args us vs Q E hr e0 hb r h) fun r s' hq => ?_
  cases r with
  | error e => exact hx pins σ H s e s' I hq
  | ok fl =>
    cases fl with
    | ret u => exact I.after hq
    | next => exact False.elim hq
    | brk => exact False.elim hq
    | cont => exact False.elim hq
theorem run_fnG {A : Around} {pins : List (Addr × Obj)} {σ : L2.St} {H : Hp} {s : Shared} {Q : VK} {us : List Value} {vs : List V} (F : FnG X.prog X.w X.K X.mg X.base CX k f fd ps sp) (hr : RmG k A) (hf : A.frames = X.A.frames) (hb : Binds X.K fd ps ds) (hd : Vals dvs ds) (hx : Passes CX X E)
    (I : Inv X pins σ H s) (r : Vals vs us) (h : sp (vs ++ dvs) H Q E) : wpAny (model X.prog X.w) A (call (.ref f) us) (EP X pins σ Q) X.xe s := by
  have r2 : Vals (vs ++ dvs) (us ++ ds) := r.append hd
  exact wpAny_call (runA F hr hf hx I (hb s us I.kIn (by rw [← r2.length]; exact F.len _ _ _ _ h)) r2 h)
theorem run_fnNG {pins : List (Addr × Obj)} {σ : L2.St} {H : Hp} {s : Shared} {Q : VK} {us ws : List Value} {vs zs : List V} (F : FnG X.prog X.w X.K X.mg X.base CX k f fd ps sp) (hr : RmG k X.A) (hb : KBn X.K fd ps n ks g gV) (hx : Passes CX X E)
    (I : Inv X pins σ H s) (r : Vals vs us) (rz : Vals zs ws) (l1 : vs.length = n) (l2 : zs.length = ks.length) (h : sp (gV vs zs) H Q E) : wpAny (model X.prog X.w) X.A (call (.ref f) us (ks.zip ws)) (EP X pins σ Q) X.xe s :=
  wpAny_call (runA F hr rfl hx I (hb.to s us ws I.kIn (r.length.symm.trans l1) (rz.length.symm.trans l2)) (hb.rel r rz) h)
theorem pe_callG (F : FnG X.prog X.w X.K X.mg X.base CX k f fd ps sp) (hr : RmG k X.A) (hg : Gl X x) (hm : X.mg x = some (.ref f)) (hk : PySem.W.keepIn X.K (.ref f) = true) (hb : Binds X.K fd ps ds) (hd : Vals dvs ds) (hx : Passes CX X E)
    (ha : PA X (e :: es) t) (hdb : (x == ("__debug__" : Str)) = false := by decide) (he : starEach (e :: es) X.env = (false, eval e X.env) :: starEach es X.env := by rfl) (hpl : (backTo pos (starEach es X.env)).any (·.1) = false := by rfl) :
    PE X (.Call (.Name x p) (e :: es) [] pos) (tCall sp dvs E t) := by
  refine ⟨fun pins s σ H Q I h => wpAny_Call_Name_kw (ld_glob I hg hm ?_ hdb)⟩
  exact PySem.W.callWith_K (h₀ := X.base) I.ok.mod.kin hk (thn (ha.run pos pins s σ H _ I h) fun us s1 ⟨vs, H1, I1, r, q⟩ => ⟨I1.kIn, run_fnG F hr rfl hb hd hx I1 r q⟩) he hpl
theorem pe_callNG (F : FnG X.prog X.w X.K X.mg X.base CX k f fd ps sp) (hr : RmG k X.A) (hg : Gl X x) (hm : X.mg x = some (.ref f)) (hk : PySem.W.keepIn X.K (.ref f) = true) (hb : KBn X.K fd ps n ks g gV) (hx : Passes CX X E)
    (ha : PA X (e :: es) t) (hkw : PK X kws tk) (hall : (backToKw pos (keywordEach kws X.env)).all (·.1.isSome) = true := by rfl) (hks : (backToKw pos (keywordEach kws X.env)).filterMap (·.1) = ks := by rfl)
    (hdb : (x == ("__debug__" : Str)) = false := by decide) (he : starEach (e :: es) X.env = (false, eval e X.env) :: starEach es X.env := by rfl)
    (hpl : ((backTo pos (starEach (e :: es) X.env)).any (·.1) || (backToKw pos (keywordEach kws X.env)).any (·.1.isNone)) = false := by rfl) :
    PE X (.Call (.Name x p) (e :: es) kws pos) (tCallN n ks.length sp gV E t tk) := by
  refine ⟨fun pins s σ H Q I h => wpAny_Call_Name_kw (ld_glob I hg hm ?_ hdb)⟩
  refine PySem.W.callWith_KW (h₀ := X.base) I.ok.mod.kin hk hall (thn (ha.run pos pins s σ H _ I h) fun us s1 ⟨vs, H1, I1, r, q⟩ => ?_) hpl he
  refine thn (hkw.run pos pins s1 σ H1 _ I1 q) fun ws s2 ⟨zs, H2, I2, rz, l1, l2, q2⟩ => ⟨I2.kIn, ?_⟩
  rw [hks]
  exact run_fnNG F hr hb hx I2 r rz l1 l2 q2
theorem pe_methG {pl : Sem Bool} (he : PE X o ta) (c : Cls X.K C) (hm : Meth X.K C m f) (F : FnG X.prog X.w X.K X.mg X.base CX k f fd ps sp) (hr : RmG k X.A) (hb : Binds X.K fd ps ds) (hd : Vals dvs ds) (hx : Passes CX X E) (ha : PA X (e :: es) t)
    (hst : starEach (e :: es) X.env = (false, eval e X.env) :: starEach es X.env := by rfl) (hpl : (backTo pos (starEach es X.env)).any (·.1) = false := by rfl)
    (ht : eval (.Call (.Attribute o m apos) (e :: es) [] pos) X.env = (do
      let ov ← eval o X.env
      standAt apos.atName
      let (f, first) ← holding [ov] (getMethod ov m pl)
      callWith pos f first (backTo pos (starEach (e :: es) X.env)) (backToKw pos (keywordEach [] X.env))) := by rfl) :
    PE X (.Call (.Attribute o m apos) (e :: es) [] pos) (tMeth C m sp dvs E ta t) := by
  refine ⟨fun pins s σ H Q I h => PySem.W.methodCall_KW (pl := pl) (thn (he.run pins s σ H _ I h) fun u s1 ⟨x, H1, I1, rx, a, dx, fs, ex, ea, l, q⟩ => ?_) ht⟩
  subst ex
  obtain rfl : u = Value.ref a := rx
  refine getmeth_ok I1 ea c hm l (PySem.W.callWith_K (first := [.ref a]) (h₀ := X.base) I.ok.mod.kin hm.kp (thn (ha.run pos pins s1 σ H1 _ I1 q) fun us s2 ⟨vs, H2, I2, r, q2⟩ => ⟨I2.kIn, ?_⟩) hst hpl)
  exact run_fnG (us := .ref a :: us) (vs := .ref a :: vs) F hr rfl hb hd hx I2 (.cons rfl r) q2
theorem pe_methG0 {pl : Sem Bool} (he : PE X o ta) (c : Cls X.K C) (hm : Meth X.K C m f) (F : FnG X.prog X.w X.K X.mg X.base CX k f fd ps sp) (hr : RmG k X.A) (hb : Binds X.K fd ps ds) (hd : Vals dvs ds) (hx : Passes CX X E)
    (ht : eval (.Call (.Attribute o m apos) [] [] pos) X.env = (do
      let ov ← eval o X.env
      standAt apos.atName
      let (f, first) ← holding [ov] (getMethod ov m pl)
      callWith pos f first (backTo pos (starEach [] X.env)) (backToKw pos (keywordEach [] X.env))) := by rfl) :
    PE X (.Call (.Attribute o m apos) [] [] pos) (tMeth C m sp dvs E ta tNil) := by
  refine ⟨fun pins s σ H Q I h => PySem.W.methodCall_KW (pl := pl) (thn (he.run pins s σ H _ I h) fun u s1 ⟨x, H1, I1, rx, a, dx, fs, ex, ea, l, q⟩ => ?_) ht⟩
  subst ex
  obtain rfl : u = Value.ref a := rx
  refine getmeth_ok I1 ea c hm l ?_
  exact PySem.W.callWith_K0 (first := [.ref a]) I1.kIn hm.kp (run_fnG (us := [.ref a]) (vs := [.ref a]) F hr rfl hb hd hx I1 (.cons rfl .nil) q)
/-- C(e, .., k = v, ..) -/
theorem pe_makeG (M : Mk X.K C f) (F : FnG X.prog X.w X.K X.mg X.base CX k f fd ps sp) (hr : RmG (k + 1) X.A) (hg : Gl X x) (hm : X.mg x = some (.ref C)) (hb : KBn X.K fd ps (n + 1) ks g gV) (hx : Passes CX X E) (ha : PA X (e :: es) t) (hkw : PK X kws tk)
    (hall : (backToKw pos (keywordEach kws X.env)).all (·.1.isSome) = true := by rfl) (hks : (backToKw pos (keywordEach kws X.env)).filterMap (·.1) = ks := by rfl) (hdb : (x == ("__debug__" : Str)) = false := by decide)
    (he : starEach (e :: es) X.env = (false, eval e X.env) :: starEach es X.env := by rfl) (hpl : ((backTo pos (starEach (e :: es) X.env)).any (·.1) || (backToKw pos (keywordEach kws X.env)).any (·.1.isNone)) = false := by rfl) :
    PE X (.Call (.Name x p) (e :: es) kws pos) (tMakeK C n ks.length sp gV E t tk) := by
  refine ⟨fun pins s σ H Q I h => wpAny_Call_Name_kw (ld_glob I hg hm ?_ hdb)⟩
  refine PySem.W.callWith_KW (h₀ := X.base) I.ok.mod.kin M.kp hall (thn (ha.run pos pins s σ H _ I h) fun us s1 ⟨vs, H1, I1, r, q⟩ => ?_) hpl he
  refine thn (hkw.run pos pins s1 σ H1 _ I1 q) fun ws s2 ⟨zs, H2, I2, rz, l1, l2, q2⟩ => ⟨I2.kIn, ?_⟩
  rw [hks]
  have hq := q2 (s2.heap.objs.size + 1) s2.heap.objs.size (I2.hok.fresh (Nat.le_succ _)) (I2.hok.fresh (Nat.le_refl _)) (Nat.ne_of_lt (Nat.lt_succ_self _))
  have I3 := Inv.made (C := C) I2
  have r1 : Vals (V.ref (s2.heap.objs.size + 1) :: vs) (Value.ref (s2.heap.objs.size + 1) :: us) := .cons rfl r
  refine wpAny_call (make_map (f := f) I2.kIn M.makes M.init (beq_iff_eq.mp M.fn) (codeAny_mono (runA F (hr.make C us (ks.zip ws)) (by first | rfl | simp [Around.under, Code.envs, Code.isFrame, pushEnvs]) hx I3
    (hb.to _ (Value.ref (s2.heap.objs.size + 1) :: us) ws I3.kIn (by rw [← r1.length, List.length_cons, l1]) (rz.length.symm.trans l2)) (hb.rel r1 rz) hq) fun r s' hq' => ?_))
  cases r with
  | error e => exact hq'
  | ok fl =>
    cases fl with
    | ret u =>
      obtain ⟨v, H', I4, rv, ev, q3⟩ := hq'
      subst ev
      exact ⟨rv, ⟨V.ref (s2.heap.objs.size + 1), H', I4, rfl, q3⟩⟩
    | next => exact False.elim hq'
    | brk => exact False.elim hq'
    | cont => exact False.elim hq'
end
end MD
end
section
/-! Defs by data: promises, calls, classes. -/
namespace MD
open PySem PySem.Spec PyProof.Rows L2

/-- a promise in data: for each x with pre, the arguments arg x give a result with post -/
structure FS where
  α : Type
  arg : α → List D
  pre : α → Prop
  post : α → D → Prop
def FS.g (s : FS) : List D → (D → Prop) → Prop := fun ds Q => ∃ x, ds = s.arg x ∧ s.pre x ∧ ∀ d, s.post x d → Q d
structure ArgsOk (W : Wd) (B : Addr → Prop) (H : Hp) (vs : List V) (ds : List D) : Prop where
  rp : RpL W B H vs ds
  rgb : ∀ p, W.rg p → B p
  lsts : Lsts B H
  dom : ∀ p, B p → H p ≠ none
  ok : W.ok H
def spD (K : PySem.W.Frag) (mg : Str → Option Value) (s : FS) : Sp := fun vs H Q _ => ∃ (R : Rg) (B : Addr → Prop) (ds : List D), ArgsOk (wd K mg R) B H vs ds ∧ s.g ds fun d => ∀ v H', Gr (wd K mg R) H H' → Rp (wd K mg R) B H' v d → Q v H'
/-- the slots at a def's entry -/
def startD (n : Nat) (ds : List D) : Ev := ds.map Sl.dat ++ List.replicate (n - ds.length) .un
theorem get_app_lt : ∀ {a b : Ev} {i : Nat}, i < a.length → get (a ++ b) i = get a i
  | [], _, _, h => absurd h (Nat.not_lt_zero _)
  | _ :: _, _, 0, _ => rfl
  | _ :: a, b, i + 1, h => get_app_lt (a := a) (Nat.lt_of_succ_lt_succ h)
theorem get_app_ge : ∀ {a b : Ev} {i : Nat}, a.length ≤ i → get (a ++ b) i = get b (i - a.length)
  | [], _, _, _ => rfl
  | _ :: _, _, 0, h => absurd h (Nat.not_succ_le_zero _)
  | _ :: a, b, i + 1, h => by
    rw [List.length_cons, Nat.add_sub_add_right]
    exact get_app_ge (a := a) (Nat.le_of_succ_le_succ h)
theorem get_rep : ∀ {n i : Nat}, get (List.replicate n .un) i = .un
  | 0, _ => rfl
  | _ + 1, 0 => rfl
  | n + 1, i + 1 => get_rep (n := n)
theorem get_map : ∀ {ds : List D} {i : Nat}, i < ds.length → ∃ d, ds[i]? = some d ∧ get (ds.map Sl.dat) i = .dat d
  | [], _, h => absurd h (Nat.not_lt_zero _)
  | d :: _, 0, _ => ⟨d, rfl, rfl⟩
  | _ :: ds, i + 1, h => by
    obtain ⟨d, h1, h2⟩ := get_map (ds := ds) (Nat.lt_of_succ_lt_succ h)
    exact ⟨d, by simpa using h1, h2⟩
section
variable {K : PySem.W.Frag} {mg : Str → Option Value} {P : Program} {w : World} {base : Heap} {CX : CXT} {f : Addr} {fd : FuncData} {N ps : List Str} {k : Nat} {s : FS} {x qual : Str} {params : Arguments} {body : List Stmt} {scope : Scope} {dvs : List V} {kws : List (Str × V)}
theorem startSR {W : Wd} {B : Addr → Prop} {H : Hp} {vs : List V} {ds : List D} (a : ArgsOk W B H vs ds) : SR W H B [] B H (L2.start N vs) (startD N.length ds) := by
  have hl := a.rp.length
  refine ⟨?_, .refl, a.rgb, a.ok, a.dom, fun _ h => h, a.lsts, a.dom, fun i => ?_, fun i j p es fs e1 e2 => ?_, fun q hq => nomatch hq⟩
  · unfold L2.start startD
    rw [List.length_append, List.length_append, List.length_map, List.length_map, List.length_replicate, List.length_replicate, hl]
  · unfold startD L2.start
    by_cases hi : i < ds.length
    · rw [get_app_lt (by rw [List.length_map]; exact hi), List.getElem?_append_left (by rw [List.length_map, hl]; exact hi)]
      obtain ⟨d, h1, h2⟩ := get_map hi
      obtain ⟨v, h3, r⟩ := a.rp.getD h1
      rw [h2, List.getElem?_map, h3]
      exact ⟨v, rfl, r⟩
    · rw [get_app_ge (by rw [List.length_map]; omega), get_rep]
      trivial
  · exfalso
    have z : ∀ i, ∀ es, get (startD N.length ds) i ≠ .own es := fun i es z => by
      unfold startD at z
      by_cases hi : i < ds.length
      · rw [get_app_lt (by rw [List.length_map]; exact hi)] at z
        obtain ⟨d, _, h2⟩ := get_map hi
        rw [h2] at z; cases z
      · rw [get_app_ge (by rw [List.length_map]; omega), get_rep] at z
        cases z
    exact z _ _ e1
/-- a def keeps its promise -/
theorem fnD {T : DTS} (F : FunD K x qual params body scope dvs kws f fd) (S : FnScope N ps scope) (hn : ∀ a, (s.arg a).length = ps.length) (nl : Nat) (hN : N.length = nl)
    (hb : ∀ (cdv : Value) (A : Around) (outer : List Env) (st : Shared) (H : Hp) (E : XK), RmG k (A.deeper (envOfC qual scope st.heap.objs.size f cdv)) → DSs (cxOf CX P w K mg base N qual scope f cdv A outer st H E) body T)
    (hT : ∀ a, s.pre a → T { nx := fun _ => s.post a .non, rt := s.post a } (startD nl (s.arg a))) : FnG P w K mg base CX (k + 1) f fd ps (spD K mg s) := by
  subst hN
  refine okG F S (fun vs H Q E h => ?_) (fun cdv A outer st H vs Q E hr h => ?_)
  · obtain ⟨R, B, ds, a, y, rfl, _⟩ := h
    rw [a.rp.length, hn]
  · obtain ⟨R, B, ds, a, y, rfl, hp, hq⟩ := h
    obtain ⟨t, p, sm⟩ := hb cdv A outer st H E hr
    refine ⟨t, p, sm R (startSR a) _ _ (hT y hp) ⟨fun B' H' σ' env' q S' => ?_, fun _ _ _ _ q => q.elim, fun _ _ _ _ q => q.elim, fun d v H' q g r => ?_⟩⟩
    · exact hq _ q _ _ S'.ext .non
    · exact hq _ q _ _ g r
end

/-! ### calls -/
def dCall (s : FS) (dds : List D) (TL : DTL) : DT := fun env Q => TL env fun ds => s.g (ds ++ dds) Q
def dCallN (s : FS) (gD : List D → List D → List D) (n m : Nat) (TL TK : DTL) : DT := fun env Q => TL env fun ds => TK env fun es => (ds.length = n ∧ es.length = m) ∧ s.g (gD ds es) Q
section
variable {X : Cx} {W : Wd} {H0 : Hp} {B0 B : Addr → Prop} {pins : List (V × D)} {H H' : Hp} {σ : L2.St} {env : Ev} {e o : Expr} {T : DT} {TL TK : DTL} {pos p apos : Pos} {es : List Expr} {kws : List Keyword}
  {CX : CXT} {k n : Nat} {f C : Addr} {fd : FuncData} {ps ks : List Str} {dvs : List V} {vds : List Value} {E : XK} {x m c : Str} {s : FS} {dds : List D} {g : List Value → List Value → List Value} {gV : List V → List V → List V} {gD : List D → List D → List D}
def DK' (X : Cx) (kws : List Keyword) (T : DTL) : Prop := ∃ t, PK X kws t ∧ ∀ R, SimA (Cx.wd X R) t T
theorem argsOk (S : SR W H0 B0 pins B H σ env) {vs : List V} {ds : List D} (r : RpL W B H vs ds) : ArgsOk W B H vs ds := ⟨r, S.rgB, S.lsts, S.dom, S.ok⟩
/-- values that stand for these data wherever the text's facts do -/
def Always (K : PySem.W.Frag) (vs : List V) (ds : List D) : Prop := ∀ (W : Wd) (B : Addr → Prop) (H : Hp), W.K = K → RpL W B H vs ds
theorem always_nil {K : PySem.W.Frag} : Always K [] [] := fun _ _ _ _ => .nil
theorem always_int {K : PySem.W.Frag} {vs : List V} {ds : List D} {i : Int} (h : Always K vs ds) : Always K (.int i :: vs) (.int i :: ds) := fun W B H e => .cons (.int i) (h W B H e)
theorem always_bl {K : PySem.W.Frag} {vs : List V} {ds : List D} {i : Bool} (h : Always K vs ds) : Always K (.bl i :: vs) (.bl i :: ds) := fun W B H e => .cons (.bl i) (h W B H e)
theorem always_non {K : PySem.W.Frag} {vs : List V} {ds : List D} (h : Always K vs ds) : Always K (.non :: vs) (.non :: ds) := fun W B H e => .cons .non (h W B H e)
theorem always_str {K : PySem.W.Frag} {vs : List V} {ds : List D} {i : Str} (h : Always K vs ds) : Always K (.str i :: vs) (.str i :: ds) := fun W B H e => .cons (.str i) (h W B H e)
theorem de_call (F : FnG X.prog X.w X.K X.mg X.base CX k f fd ps (spD X.K X.mg s)) (hr : RmG k X.A) (hm : X.mg x = some (.ref f)) (hk : PySem.W.keepIn X.K (.ref f) = true) (hb : Binds X.K fd ps vds) (hd : Vals dvs vds) (hx : Passes CX X E) (ha : DA X (e :: es) TL)
    (hdd : Always X.K dvs dds := by exact always_nil) (hg : Gl X x := by rfl) (hdb : (x == ("__debug__" : Str)) = false := by decide) (he : starEach (e :: es) X.env = (false, eval e X.env) :: starEach es X.env := by rfl) (hpl : (backTo pos (starEach es X.env)).any (·.1) = false := by rfl) :
    DE X (.Call (.Name x p) (e :: es) [] pos) (dCall s dds TL) := let ⟨_, pt, st⟩ := ha; ⟨_, pe_callG F hr hg hm hk hb hd hx pt hdb he hpl, fun R _ _ _ _ _ _ _ S Qd Q h k => st R S _ _ h fun ds vs H1 q g r => by
      obtain ⟨a, e, p1, q1⟩ := q
      exact ⟨R, _, _, argsOk (S.grow g) (r.append (hdd _ _ _ rfl)), a, e, p1, fun d hp v H' g' r' => k d v H' (q1 d hp) (g.trans g') r'⟩⟩
theorem de_callN (F : FnG X.prog X.w X.K X.mg X.base CX k f fd ps (spD X.K X.mg s)) (hr : RmG k X.A) (hm : X.mg x = some (.ref f)) (hk : PySem.W.keepIn X.K (.ref f) = true) (hb : KBn X.K fd ps n ks g gV) (hx : Passes CX X E) (ha : DA X (e :: es) TL) (hkw : DK' X kws TK)
    (hgV : ∀ {W : Wd} {B : Addr → Prop} {H : Hp} {vs zs : List V} {ds fs : List D}, W.K = X.K → RpL W B H vs ds → RpL W B H zs fs → RpL W B H (gV vs zs) (gD ds fs)) (hg : Gl X x := by rfl)
    (hall : (backToKw pos (keywordEach kws X.env)).all (·.1.isSome) = true := by rfl) (hks : (backToKw pos (keywordEach kws X.env)).filterMap (·.1) = ks := by rfl)
    (hdb : (x == ("__debug__" : Str)) = false := by decide) (he : starEach (e :: es) X.env = (false, eval e X.env) :: starEach es X.env := by rfl)
    (hpl : ((backTo pos (starEach (e :: es) X.env)).any (·.1) || (backToKw pos (keywordEach kws X.env)).any (·.1.isNone)) = false := by rfl) :
    DE X (.Call (.Name x p) (e :: es) kws pos) (dCallN s gD n ks.length TL TK) := let ⟨_, pt, st⟩ := ha; let ⟨_, pk, sk⟩ := hkw; ⟨_, pe_callNG F hr hg hm hk hb hx pt pk hall hks hdb he hpl, fun R _ _ _ _ _ _ _ S Qd Q h k => st R S _ _ h fun ds vs H1 q g r =>
      sk R (S.grow g) _ _ q fun fs zs H2 q2 g2 r2 => by
        obtain ⟨⟨l1, l2⟩, a, e, p1, q1⟩ := q2
        have r1 := (S.grow g).rpL g2 r
        exact ⟨by rw [r1.length, l1], by rw [r2.length, l2], R, _, _, argsOk ((S.grow g).grow g2) (hgV rfl r1 r2), a, e, p1, fun d hp v H' g' r' => k d v H' (q1 d hp) ((g.trans g2).trans g') r'⟩⟩
theorem dk_nil : DK' X [] dNil := ⟨_, pk_nil, fun R _ _ _ _ _ _ _ S Qd Q h k => k [] [] _ h .refl .nil⟩
theorem dk_cons {y : Str} {kp : Pos} {r : List Keyword} (h : DE X e T) (hr : DK' X r TK) : DK' X (⟨some y, e, kp⟩ :: r) (dCons T TK) :=
  let ⟨_, p, s⟩ := h; let ⟨_, p2, s2⟩ := hr; ⟨_, pk_cons p p2, fun R _ _ _ _ _ _ _ S Qd Q h k => s R S _ _ h fun d v H1 q1 g1 r1 => s2 R (S.grow g1) _ _ q1 fun ds vs H2 q2 g2 r2 =>
    k _ _ _ q2 (g1.trans g2) (.cons ((S.grow g1).rp g2 r1) r2)⟩

/-! ### instances -/
theorem RpF.lookup {fs : List (Str × V)} {gs : List (Str × D)} : RpF W B H fs gs → ∀ (f : Str), (∀ d, gs.lookup f = some d → ∃ v, fs.lookup f = some v ∧ Rp W B H v d) ∧ (gs.lookup f = none → fs.lookup f = none)
  | .nil, f => ⟨fun d h => by simp at h, fun _ => rfl⟩
  | .cons (n := n) h l, f => by
    obtain ⟨i1, i2⟩ := RpF.lookup l f
    by_cases hf : (f == n) = true
    · refine ⟨fun d e => ?_, fun e => ?_⟩
      · rw [List.lookup_cons, hf] at e ⊢
        cases e
        exact ⟨_, rfl, h⟩
      · rw [List.lookup_cons, hf] at e
        cases e
    · have hf : (f == n) = false := by simpa using hf
      refine ⟨fun d e => ?_, fun e => ?_⟩
      · rw [List.lookup_cons, hf] at e ⊢
        exact i1 d e
      · rw [List.lookup_cons, hf] at e ⊢
        exact i2 e
theorem Rp.ob' {v : V} {gs : List (Str × D)} (h : Rp W B H v (.ob c gs)) : ∃ a C dx fs, v = .ref a ∧ ¬ B a ∧ W.mg c = some (.ref C) ∧ H a = some (.ins C dx fs) ∧ RpF W B H fs gs := by
  cases h; exact ⟨_, _, _, _, rfl, by assumption, by assumption, by assumption, by assumption⟩
/-- o.f of an instance of c -/
def dFld (c f : Str) (T : DT) : DT := fun env Q => T env fun d => ∃ gs v, d = .ob c gs ∧ gs.lookup f = some v ∧ Q v
theorem de_fld {fl : Str} (hm : X.mg c = some (.ref C)) (cl : Cls X.K C) (na : NoAttr X.K C fl) (h : DE X e T) (hb : attributeBase e fl X.env (eval e X.env) = eval e X.env := by rfl) : DE X (.Attribute e fl pos) (dFld c fl T) :=
  let ⟨_, p, s⟩ := h; ⟨_, pe_fld p hb, fun R _ _ _ _ _ _ _ S Qd Q h k => s R S _ _ h fun d v H1 q g r => by
    obtain ⟨gs, y, rfl, hl, q⟩ := q
    obtain ⟨a, C', dx, fs, rfl, _, hc, h1, rf⟩ := r.ob'
    obtain ⟨u, hu, ru⟩ := (rf.lookup fl).1 y hl
    have e : C' = C := by
      have z := hc.symm.trans hm
      cases z; rfl
    subst e
    exact ⟨a, _, dx, fs, u, rfl, h1, cl, na, hu, k _ _ _ q g ru⟩⟩
/-- o.m(..) -/
def dMeth (c m : Str) (s : FS) (dds : List D) (T : DT) (TL : DTL) : DT := fun env Q => T env fun d => ∃ gs, d = .ob c gs ∧ gs.lookup m = none ∧ TL env fun ds => s.g (d :: (ds ++ dds)) Q
theorem de_meth {pl : Sem Bool} (hm : X.mg c = some (.ref C)) (cl : Cls X.K C) (mt : Meth X.K C m f) (F : FnG X.prog X.w X.K X.mg X.base CX k f fd ps (spD X.K X.mg s)) (hr : RmG k X.A) (hb : Binds X.K fd ps vds) (hd : Vals dvs vds) (hx : Passes CX X E)
    (ho : DE X o T) (ha : DA X (e :: es) TL) (hdd : Always X.K dvs dds := by exact always_nil)
    (hst : starEach (e :: es) X.env = (false, eval e X.env) :: starEach es X.env := by rfl) (hpl : (backTo pos (starEach es X.env)).any (·.1) = false := by rfl)
    (ht : eval (.Call (.Attribute o m apos) (e :: es) [] pos) X.env = (do
      let ov ← eval o X.env
      standAt apos.atName
      let (f, first) ← holding [ov] (getMethod ov m pl)
      callWith pos f first (backTo pos (starEach (e :: es) X.env)) (backToKw pos (keywordEach [] X.env))) := by rfl) :
    DE X (.Call (.Attribute o m apos) (e :: es) [] pos) (dMeth c m s dds T TL) := let ⟨_, po, so⟩ := ho; let ⟨_, pt, st⟩ := ha; ⟨_, pe_methG po cl mt F hr hb hd hx pt hst hpl ht, fun R _ _ _ _ _ _ _ S Qd Q h k => so R S _ _ h fun d v H1 q g r => by
      obtain ⟨gs, rfl, hl, q⟩ := q
      obtain ⟨a, C', dx, fs, rfl, _, hc, h1, rf⟩ := id r.ob'
      have e : C' = C := by
        have z := hc.symm.trans hm
        cases z; rfl
      subst e
      refine ⟨a, dx, fs, rfl, h1, (rf.lookup m).2 hl, st R (S.grow g) _ _ q fun ds vs H2 q2 g2 r2 => ?_⟩
      obtain ⟨y, e, p1, q1⟩ := q2
      exact ⟨R, _, _, argsOk ((S.grow g).grow g2) (.cons ((S.grow g).rp g2 r) (r2.append (hdd _ _ _ rfl))), y, e, p1, fun d hp v H' g' r' => k d v H' (q1 d hp) ((g.trans g2).trans g') r'⟩⟩
theorem de_meth0 {pl : Sem Bool} (hm : X.mg c = some (.ref C)) (cl : Cls X.K C) (mt : Meth X.K C m f) (F : FnG X.prog X.w X.K X.mg X.base CX k f fd ps (spD X.K X.mg s)) (hr : RmG k X.A) (hb : Binds X.K fd ps vds) (hd : Vals dvs vds) (hx : Passes CX X E)
    (ho : DE X o T) (hdd : Always X.K dvs dds := by exact always_nil)
    (ht : eval (.Call (.Attribute o m apos) [] [] pos) X.env = (do
      let ov ← eval o X.env
      standAt apos.atName
      let (f, first) ← holding [ov] (getMethod ov m pl)
      callWith pos f first (backTo pos (starEach [] X.env)) (backToKw pos (keywordEach [] X.env))) := by rfl) :
    DE X (.Call (.Attribute o m apos) [] [] pos) (dMeth c m s dds T dNil) := let ⟨_, po, so⟩ := ho; ⟨_, pe_methG0 po cl mt F hr hb hd hx ht, fun R _ _ _ _ _ _ _ S Qd Q h k => so R S _ _ h fun d v H1 q g r => by
      obtain ⟨gs, rfl, hl, q⟩ := q
      obtain ⟨a, C', dx, fs, rfl, _, hc, h1, rf⟩ := id r.ob'
      have e : C' = C := by
        have z := hc.symm.trans hm
        cases z; rfl
      subst e
      obtain ⟨y, e, p1, q1⟩ := q
      exact ⟨a, dx, fs, rfl, h1, (rf.lookup m).2 hl, R, _, _, argsOk (S.grow g) (.cons r (hdd _ _ _ rfl)), y, e, p1, fun d hp v H' g' r' => k d v H' (q1 d hp) (g.trans g') r'⟩⟩
end
end MD
end
section
/-! Instances made, compared, shown by their own defs. -/
namespace MD
open PySem PySem.Spec PyProof.Rows L2

section
variable {W : Wd} {B : Addr → Prop} {H H' : Hp}
theorem SR.adoptS {H0 : Hp} {B0 : Addr → Prop} {pins : List (V × D)} {σ : L2.St} {env : Ev} (S : SR W H0 B0 pins B H σ env) {p : Addr} {o : HO} (so : Soft o) (hp : H p = none) (k : Gr W H H') (e : H' p = some o) : SR W H0 B0 pins (Add B p) H' σ env := by
  have h1 := lsts_fresh S.lsts hp
  have hs : ∀ q, B0 q → Add B p q := fun q b => .inl (S.sub q b)
  refine ⟨S.len, S.ext.trans k, S.rgb, k.ok S.ok, S.b0, hs, fun q u b h => ?_, fun q b h => ?_, fun i => ((S.at_ i).fresh hp).keep h1 k S.rgb hs S.b0, S.inj, fun q hq => ((S.pin q hq).fresh hp).keep h1 (k.keepB fun q z => .inl (S.rgB q z))⟩
  · rcases b with b | rfl
    · exact (k.lsts S.lsts S.dom) q u b h
    · rw [e] at h; cases h; exact so
  · rcases b with b | rfl
    · exact k.dom S.dom q b h
    · rw [e] at h; cases h
theorem SR.pokeS {H0 : Hp} {B0 : Addr → Prop} {pins : List (V × D)} {σ : L2.St} {env : Ev} (S : SR W H0 B0 pins B H σ env) {p : Addr} {o u : HO} (so : Soft o) (b : B p) (hn : H0 p = none) (hu : H p = some u) (nl : ∀ xs, u ≠ .lst xs) : SR W H0 B0 pins B (upd H p o) σ env := by
  have k : Keep B H (upd H p o) := fun a o na e => by
    rw [upd_ne (fun z : a = p => na (by rw [z]; exact b))]
    exact e
  have np : ∀ q, W.rg q → q ≠ p := fun q z e => S.b0 q (S.rgb q z) (by rw [e]; exact hn)
  have kr : ∀ a v, W.rg a → H a = some v → (upd H p o) a = some v := fun a v z e => by rw [upd_ne (np a z)]; exact e
  refine ⟨S.len, ⟨fun a o n e => ?_, fun a o n e => ?_, fun z => W.okk _ _ kr (S.ext.ok z)⟩, S.rgb, W.okk _ _ kr S.ok, S.b0, S.sub, fun q v bq e => ?_, fun q bq e => ?_, fun j => ?_, S.inj, fun q hq => (S.pin q hq).keep S.lsts k⟩
  · rw [upd_ne (fun z => by rw [z, hn] at e; cases e)]
    exact S.ext.keep a o n e
  · obtain ⟨o', e', s⟩ := S.ext.soft a o n e
    exact ⟨o', kr a o' n e', s⟩
  · by_cases z : q = p
    · subst z; rw [upd_same] at e; cases e; exact so
    · rw [upd_ne z] at e; exact S.lsts q v bq e
  · by_cases z : q = p
    · subst z; rw [upd_same] at e; cases e
    · rw [upd_ne z] at e; exact S.dom q bq e
  · have z := S.at_ j
    cases g : get env j with
    | un => trivial
    | dat d =>
      rw [g] at z
      obtain ⟨v, e, r⟩ := z
      exact ⟨v, e, r.keep S.lsts k⟩
    | own fs =>
      rw [g] at z
      obtain ⟨q, us, e, b', h0', h1', r'⟩ := z
      have ne : q ≠ p := fun z => by
        subst z
        rw [hu] at h1'
        cases h1'
        exact nl _ rfl
      exact ⟨q, us, e, b', h0', by rw [upd_ne ne]; exact h1', r'.keep S.lsts k⟩
def putD (f : Str) (d : D) : List (Str × D) → List (Str × D)
  | [] => [(f, d)]
  | (g, x) :: r => if g = f then (g, d) :: r else (g, x) :: putD f d r
theorem RpF.put {v : V} {d : D} (r : Rp W B H v d) (f : Str) : ∀ {fs : List (Str × V)} {gs : List (Str × D)}, RpF W B H fs gs → RpF W B H (putF f v fs) (putD f d gs)
  | _, _, .nil => .cons r .nil
  | _, _, .cons (n := n) h l => by
    unfold putF putD
    by_cases e : n = f
    · rw [if_pos e, if_pos e]; exact .cons r l
    · rw [if_neg e, if_neg e]; exact .cons h (RpF.put r f l)
theorem RpF.length : ∀ {fs : List (Str × V)} {gs : List (Str × D)}, RpF W B H fs gs → fs.length = gs.length
  | _, _, .nil => rfl
  | _, _, .cons _ l => congrArg Nat.succ l.length
end

/-! ### __init__: its lines self.f = e -/
def dInit : List (Str × DT) → Ev → List (Str × D) → (List (Str × D) → Prop) → Prop
  | [], _, fs, Q => Q fs
  | (f, T) :: r, env, fs, Q => T env fun d => fs.length < 1000 ∧ dInit r env (putD f d fs) Q
def SimN (W : Wd) (C : Addr) (t : TS) (L : List (Str × DT)) : Prop := ∀ {H0 : Hp} {B0 : Addr → Prop} {pins : List (V × D)} {B : Addr → Prop} {H : Hp} {σ : L2.St} {env : Ev}, SR W H0 B0 pins B H σ env →
  ∀ (x dx : Addr) (fs : List (Str × V)) (gs : List (Str × D)), B x → H0 x = none → σ[0]? = some (some (.ref x)) → H x = some (.ins C dx fs) → RpF W B H fs gs → ∀ (Q : List (Str × D) → Prop) (E : Ends), dInit L env gs Q →
    (∀ fs gs H', Q gs → SR W H0 B0 pins B H' σ env → H' x = some (.ins C dx fs) → RpF W B H' fs gs → E.nx σ H') → t E σ H
def DInit (X : Cx) (C : Addr) (body : List Stmt) (L : List (Str × DT)) : Prop := ∃ t, PSs X body t ∧ ∀ R, SimN (Cx.wd X R) C t L
section
variable {X : Cx} {C : Addr} {e : Expr} {T : DT} {L : List (Str × DT)} {rest : List Stmt} {pos p1 p2 : Pos}
theorem di_nil : DInit X C [] [] := ⟨_, pss_nil, fun R _ _ _ _ _ _ _ S x dx fs gs b hn hx h1 r Q E h k => k _ _ _ h S h1 r⟩
theorem di_cons {sf f : Str} (cl : Cls X.K C) (na : NoAttr X.K C f) (h : DE X e T) (hr : DInit X C rest L) (pn : PE X (.Name sf p1) (tVar 0) := by exact pv 0)
    (hs : swapsWith e (some (.Attribute (.Name sf p1) f p2)) pos.line X.env = pure false := by rfl) : DInit X C (.Assign [.Attribute (.Name sf p1) f p2] e pos :: rest) ((f, T) :: L) :=
  let ⟨_, p, s⟩ := h; let ⟨_, p2, s2⟩ := hr; ⟨_, pss_cons (ps_fld pn p hs) p2, fun R _ _ _ B _ _ _ S x dx fs gs b hn hx h1 r Q E h k => s R S _ _ h fun d v H' q g rv => by
    have S1 := S.grow g
    have nrg : ¬ R.rg x := fun z => S.b0 x (S.rgb x z) hn
    have h2 := g.keep x _ nrg h1
    have r1 : RpF (Cx.wd X R) B H' fs gs := r.keep S.lsts (g.keepB S.rgB)
    have S2 := S1.pokeS (o := .ins C dx (putF f v fs)) soft_ins b hn h2 (fun _ z => by cases z)
    have ka : Keep B H' (upd H' x (.ins C dx (putF f v fs))) := fun a o n e => by rw [upd_ne (fun z : a = x => n (by rw [z]; exact b))]; exact e
    exact ⟨.ref x, hx, x, C, dx, fs, rfl, h2, cl, na, by rw [r1.length]; exact q.1, s2 R S2 x dx _ _ b hn hx upd_same ((r1.put rv f).keep S1.lsts ka) Q E q.2 k⟩⟩
end
/-- what an __init__ promises: the fields -/
structure FI where
  α : Type
  arg : α → List D
  pre : α → Prop
  fs : α → List (Str × D)
def spI (K : PySem.W.Frag) (mg : Str → Option Value) (c : Str) (C : Addr) (s : FI) : Sp := fun vs H Q _ => ∃ (R : Rg) (B : Addr → Prop) (H0 : Hp) (x dx : Addr) (vs' : List V) (ds : List D) (a : s.α), vs = .ref x :: vs' ∧ H0 x = none ∧ H0 dx = none ∧ dx ≠ x ∧
  H = upd (upd H0 dx (.own x)) x (.ins C dx []) ∧ ArgsOk (wd K mg R) B H0 vs' ds ∧ ds = s.arg a ∧ s.pre a ∧ ∀ H', Gr (wd K mg R) H0 H' → Rp (wd K mg R) B H' (.ref x) (.ob c (s.fs a)) → Q .non H'
section
variable {K : PySem.W.Frag} {mg : Str → Option Value} {P : Program} {w : World} {base : Heap} {CX : CXT} {f C : Addr} {fd : FuncData} {N ps : List Str} {k : Nat} {s : FI} {x qual c : Str} {params : Arguments} {body : List Stmt} {scope : Scope} {dvs : List V} {kws : List (Str × V)}
theorem fnI {L : List (Str × DT)} (F : FunD K x qual params body scope dvs kws f fd) (S : FnScope N ps scope) (hm : mg c = some (.ref C)) (hn : ∀ a, (s.arg a).length + 1 = ps.length) (nl : Nat) (hN : N.length = nl) (hps : 0 < ps.length)
    (hb : ∀ (cdv : Value) (A : Around) (outer : List Env) (st : Shared) (H : Hp) (E : XK), RmG k (A.deeper (envOfC qual scope st.heap.objs.size f cdv)) → DInit (cxOf CX P w K mg base N qual scope f cdv A outer st H E) C body L)
    (hT : ∀ a, s.pre a → dInit L (.un :: startD (nl - 1) (s.arg a)) [] fun gs => gs = s.fs a) : FnG P w K mg base CX (k + 1) f fd ps (spI K mg c C s) := by
  subst hN
  refine okG F S (fun vs H Q E h => ?_) (fun cdv A outer st H vs Q E hr h => ?_)
  · obtain ⟨R, B, H0, y, dx, vs', ds, a, rfl, _, _, _, _, ao, rfl, _⟩ := h
    rw [List.length_cons, ao.rp.length, hn]
  · obtain ⟨R, B, H0, y, dx, vs', ds, a, rfl, h1, h2, h3, rfl, ao, rfl, hp, hq⟩ := h
    obtain ⟨t, p, sm⟩ := hb cdv A outer st _ E hr
    refine ⟨t, p, ?_⟩
    have hpl : 0 < N.length := by
      have := congrArg List.length S.pre
      rw [List.length_take] at this
      omega
    obtain ⟨n0, N', rfl⟩ : ∃ n0 N', N = n0 :: N' := by
      cases N with
      | nil => simp at hpl
      | cons a b => exact ⟨a, b, rfl⟩
    have S0 : SR (wd K mg R) H0 B [] B H0 (L2.start (n0 :: N') (.ref y :: vs')) (.un :: startD N'.length (s.arg a)) := by
      have z := startSR (N := N') ao
      have e : L2.start (n0 :: N') (.ref y :: vs') = some (.ref y) :: L2.start N' vs' := by
        unfold L2.start
        rw [List.map_cons, List.length_cons, List.length_cons, Nat.add_sub_add_right]
        rfl
      rw [e]
      refine ⟨by rw [List.length_cons, List.length_cons, z.len], z.ext, z.rgb, z.ok, z.b0, z.sub, z.lsts, z.dom, fun i => ?_, fun i j q es gs e1 e2 e3 e4 => ?_, z.pin⟩
      · cases i with
        | zero => trivial
        | succ i => exact z.at_ i
      · cases i with
        | zero => cases e1
        | succ i =>
          cases j with
          | zero => cases e2
          | succ j => exact congrArg Nat.succ (z.inj i j q es gs e1 e2 e3 e4)
    have g0 : Gr (wd K mg R) H0 (upd (upd H0 dx (.own y)) y (.ins C dx [])) := (gr_new h2).trans (gr_new (by rw [upd_ne (Ne.symm h3)]; exact h1))
    have S1 := S0.adoptS (o := .ins C dx []) soft_ins h1 g0 upd_same
    refine sm R S1 y dx [] [] (.inr rfl) h1 rfl upd_same .nil (fun gs => gs = s.fs a) _ (hT a hp) fun fs gs H' q S' h4 r => ?_
    subst q
    exact hq H' S'.ext (.ob (fun b => ao.dom y b h1) hm h4 (r.anti fun _ b => .inl b))
end

/-! ### C(..) -/
def dMake (c : Str) (s : FI) (gD : List D → List D → List D) (n m : Nat) (TL TK : DTL) : DT := fun env Q => TL env fun ds => TK env fun es => (ds.length = n ∧ es.length = m) ∧ ∃ a, gD ds es = s.arg a ∧ s.pre a ∧ Q (.ob c (s.fs a))
section
variable {X : Cx} {W : Wd} {H0 : Hp} {B0 B : Addr → Prop} {pins : List (V × D)} {H H' : Hp} {σ : L2.St} {env : Ev} {e o : Expr} {T : DT} {TL TK : DTL} {pos p apos : Pos} {es : List Expr} {kws : List Keyword}
  {CX : CXT} {k n : Nat} {f C : Addr} {fd : FuncData} {ps ks : List Str} {E : XK} {x m c : Str} {g : List Value → List Value → List Value} {gV : List V → List V → List V} {gD : List D → List D → List D}
theorem de_make {s : FI} (M : Mk X.K C f) (F : FnG X.prog X.w X.K X.mg X.base CX k f fd ps (spI X.K X.mg x C s)) (hr : RmG (k + 1) X.A) (hm : X.mg x = some (.ref C)) (hb : KBn X.K fd ps (n + 1) ks g gV) (hx : Passes CX X E) (ha : DA X (e :: es) TL) (hkw : DK' X kws TK)
    (hgV : ∀ {W : Wd} {B : Addr → Prop} {H : Hp} {y : V} {vs zs : List V} {ds fs : List D}, W.K = X.K → RpL W B H vs ds → RpL W B H zs fs → ∃ vs', gV (y :: vs) zs = y :: vs' ∧ RpL W B H vs' (gD ds fs)) (hg : Gl X x := by rfl)
    (hall : (backToKw pos (keywordEach kws X.env)).all (·.1.isSome) = true := by rfl) (hks : (backToKw pos (keywordEach kws X.env)).filterMap (·.1) = ks := by rfl)
    (hdb : (x == ("__debug__" : Str)) = false := by decide) (he : starEach (e :: es) X.env = (false, eval e X.env) :: starEach es X.env := by rfl)
    (hpl : ((backTo pos (starEach (e :: es) X.env)).any (·.1) || (backToKw pos (keywordEach kws X.env)).any (·.1.isNone)) = false := by rfl) :
    DE X (.Call (.Name x p) (e :: es) kws pos) (dMake x s gD n ks.length TL TK) := let ⟨_, pt, st⟩ := ha; let ⟨_, pk, sk⟩ := hkw; ⟨_, pe_makeG M F hr hg hm hb hx pt pk hall hks hdb he hpl, fun R _ _ _ _ _ _ _ S Qd Q h k => st R S _ _ h fun ds vs H1 q g r =>
      sk R (S.grow g) _ _ q fun fs zs H2 q2 g2 r2 => by
        obtain ⟨⟨l1, l2⟩, a, e, p1, q1⟩ := q2
        have r1 := (S.grow g).rpL g2 r
        refine ⟨by rw [r1.length, l1], by rw [r2.length, l2], fun y dx h1 h2 h3 => ?_⟩
        obtain ⟨vs', ev, rv⟩ := hgV (y := .ref y) rfl r1 r2
        exact ⟨R, _, H2, y, dx, vs', _, a, ev, h1, h2, h3, rfl, argsOk ((S.grow g).grow g2) rv, e, p1, fun H' g' r' => ⟨rfl, k _ _ H' q1 ((g.trans g2).trans g') r'⟩⟩⟩

/-! ### own == and != -/
def gOwn (neg : Bool) (c : Str) (s : FS) : G2 := fun a b Q => ∃ gs hs, a = .ob c gs ∧ b = .ob c hs ∧ s.g [a, b] fun d => onB d fun z => Q (.bl (if neg then !z else z))
def rOwnC (C : Addr) (neg : Bool) (sp : Sp) (E : XK) : R2 := fun x y H Q => ∃ a dx fs b dy gs, x = .ref a ∧ y = .ref b ∧ H a = some (.ins C dx fs) ∧ H b = some (.ins C dy gs) ∧ sp [x, y] H (fun v H' => ∃ z, v = .bl z ∧ Q (.bl (if neg then !z else z)) H') E
theorem op_ownEq {sp : Sp} (hs : PySem.W.findIn X.K (.ref C) "__eq__" = some (some (.ref f))) (hf : PySem.W.isFn X.K (.ref f) = true) (F : FnG X.prog X.w X.K X.mg X.base CX k f fd ps sp) (hb : Binds X.K fd ps []) (hr : RmG k X.A) (hx : Passes CX X E) :
    OpR X (compareOp .Eq) (rOwnC C false sp E) := by
  intro pins s σ H x y v u Q I rx ry h
  obtain ⟨a, dx, fs, b, dy, gs, rfl, rfl, ha, hb', q⟩ := h
  cases (show v = Value.ref a from rx)
  cases (show u = Value.ref b from ry)
  obtain ⟨mA, J, _⟩ := ins_get I.hok ha
  obtain ⟨mB, J', _⟩ := ins_get I.hok hb'
  obtain ⟨od, J, _⟩ := J.look
  obtain ⟨od', J', _⟩ := J'.look
  obtain ⟨m, hF⟩ := I.fr
  show wpAny (model X.prog X.w) X.A (richCompare .Eq (.ref a) (.ref b)) _ _ _
  refine PySem.W.cmp_K (op := .Eq) (tb := .ref C) hr.r.units0 hF I.ok.mod.kin J J'.type (by simp [PySem.W.notFirst]) hs hf ?_
  refine wpAny_mono (run_fnG (us := [.ref a, .ref b]) (vs := [.ref a, .ref b]) (dvs := []) F hr rfl hb .nil hx I (.cons rfl (.cons rfl .nil)) q) (fun w s' z => ?_) fun _ _ x => x
  obtain ⟨z', H', I', rz, zb, rfl, qz⟩ := z
  cases rz
  exact ⟨.bl zb, H', I', rfl, qz⟩
theorem do_ownEq {s : FS} (hm : X.mg c = some (.ref C)) (hs : PySem.W.findIn X.K (.ref C) "__eq__" = some (some (.ref f))) (hf : PySem.W.isFn X.K (.ref f) = true) (F : FnG X.prog X.w X.K X.mg X.base CX k f fd ps (spD X.K X.mg s)) (hb : Binds X.K fd ps []) (hr : RmG k X.A) (hx : Passes CX X E) :
    DO X (compareOp .Eq) (gOwn false c s) := ⟨_, op_ownEq hs hf F hb hr hx, fun R _ _ _ _ _ _ _ S x y d e r1 r2 Qd Q h k => by
      obtain ⟨gs, hs, rfl, rfl, a, ea, p1, q1⟩ := h
      obtain ⟨a1, C1, dx, fs, rfl, _, hc1, h1, _⟩ := id r1.ob'
      obtain ⟨a2, C2, dy, us, rfl, _, hc2, h2, _⟩ := id r2.ob'
      cases hc1.symm.trans hm
      cases hc2.symm.trans hm
      refine ⟨a1, dx, fs, a2, dy, us, rfl, rfl, h1, h2, R, _, _, argsOk S (.cons r1 (.cons r2 .nil)), a, ea, p1, fun d hp v H' g' r' => ?_⟩
      obtain ⟨b, rfl, z⟩ := onB_at (q1 d hp)
      exact ⟨b, r'.bl', k _ _ _ z g' (.bl _)⟩⟩
end
section
variable {prog : Program} {w : World} {A : Around} {E : Value → Shared → Prop} {s : Shared} {K : PySem.W.Frag} {x C f : Addr} {ox : Obj} {od od' : Option Obj}
theorem ifBound_ne {M : Model} {args : List Value} {Q : Option Value → Shared → Prop} (X : K.In s.heap) (I : PySem.W.InstAt s.heap x ox C od) (hs : PySem.W.findIn K (.ref C) "__ne__" = some (some (.builtin "object.__ne__")))
    (h : wpAny M A (call (.builtin "object.__ne__") (.ref x :: args)) (fun v => Q (some v)) E s) : wpAny M A (callSpecialIfBound? (.ref x) "__ne__" args) Q E s := by
  simp only [callSpecialIfBound?, bindSpecialIfBound?]
  refine wpAny_holding (wpAny_bind (wpAny_bind (wpAny_bind (I.type.here ((PySem.W.looks_findIn X hs).here ?_)))))
  refine wpAny_bind (wpAny_askSetting (wpAny_ite ?_))
  have fin : wpAny M A (call (.builtin "object.__ne__") ([.ref x] ++ args) >>= fun v => pure (some v)) Q E s := wpAny_bind (wpAny_mono h (fun v s' h' => wpAny_pure h') fun _ _ h' => h')
  split
  · exact wpAny_bind (wpAny_of_eq (F.cmp_object.ne.bind _) (wpAny_pure (by exact fin)))
  · exact wpAny_tryCatch (wpAny_bind (wpAny_of_eq (F.cmp_object.ne.bind _) (wpAny_pure (by exact fin))))
theorem ne_entry {y : Addr} {Q : Fin → Shared → Prop} (hu : A.units < cLine) (X : K.In s.heap) (I : PySem.W.InstAt s.heap x ox C od) (hs : PySem.W.findIn K (.ref C) "__eq__" = some (some (.ref f))) (hf : PySem.W.isFn K (.ref f) = true)
    (h : wpAny (model prog w) A (call (.ref f) [.ref x, .ref y]) (fun v s' => ∃ b, v = .bool b ∧ Q (.done (.ret (.bool (!b)))) s') E s) : wpAny (model prog w) A (Builtin.«object.__ne__» ⟨[.ref x, .ref y], []⟩) Q E s := by
  unfold Builtin.«object.__ne__»
  repeat (first
    | with_reducible refine wpAny_cRoomFor hu ?_
    | (refine wpAny_bind (m := callSpecialIfBound? (.ref x) (Str.ofString "__eq__") [.ref y])
        (PySem.W.ifBound_K X I hs hf (wpAny_mono h (fun r s' hr => by
          obtain ⟨b, rfl, hq⟩ := hr
          repeat (first | exact hq | exact wpAny_pure hq | exact wpAny_truthy_bool hq | (refine wpAny_bind (m := truthy (.bool _)) (wpAny_truthy_bool ?_)) | wp_step)) fun _ _ e => e)))
    | wp_step)
theorem rc_ne {y : Addr} {oy : Obj} {Q : Value → Shared → Prop} (hu : A.units + 1 < cLine) (X : K.In s.heap) (I : PySem.W.InstAt s.heap x ox C od) (I' : PySem.W.InstAt s.heap y oy C od') (hm : PySem.W.mroIn K C (.type "object") = some true)
    (hn : PySem.W.findIn K (.ref C) "__ne__" = some (some (.builtin "object.__ne__"))) (hs : PySem.W.findIn K (.ref C) "__eq__" = some (some (.ref f))) (hf : PySem.W.isFn K (.ref f) = true)
    (h : wpAny (model prog w) A.in1 (call (.ref f) [.ref x, .ref y]) (fun v s' => ∃ b, v = .bool b ∧ Q (.bool (!b)) s') E s) : wpAny (model prog w) A (richCompare .NotEq (.ref x) (.ref y)) Q E s := by
  have one : wpAny (model prog w) A (tryCompare (.ref x) "__ne__" (.ref y)) (fun r s' => ∃ v, r = some v ∧ Q v s') E s := by
    unfold tryCompare
    refine wpAny_bind (ifBound_ne X I hn (wpAny_call (codeAny_call_builtin F.cmp_object.ne.plain F.cmpEntry_ne (PySem.W.check_slot F.cmpKind_ne F.cmpSplit_ne (I.type.andThen (PySem.W.looks_mroIn X hm)) (F.cmpArgs_ne _ _) (ne_entry (by show A.units + 1 < cLine; exact hu) X I hs hf (wpAny_mono h (fun v s' z => ?_) fun _ _ e => e))))))
    obtain ⟨b, rfl, q⟩ := z
    exact ⟨b, rfl, wpAny_pure ⟨_, rfl, q⟩⟩
  unfold richCompare
  simp only [oneThing_ref, cmpInfo_NotEq]
  refine wpAny_holding (wpAny_bind (wpAny_cRoomFor (by omega) ?_))
  refine wpAny_bind (I.type.here (wpAny_bind (I'.type.here ?_)))
  split
  · rename_i q
    exact absurd q (by simp)
  · refine wpAny_bind (wpAny_pure ?_)
    simp only [Bool.false_eq_true, if_false]
    refine wpAny_bind (wpAny_mono one (fun r s' z => ?_) fun _ _ e => e)
    obtain ⟨v, rfl, hq⟩ := z
    exact wpAny_pure hq
/-- str(x) by an own __str__ -/
theorem strOf_own {Q : Value → Shared → Prop} (hu : A.units < cLine) (X : K.In s.heap) (I : PySem.W.InstAt s.heap x ox C od) (hs : PySem.W.findIn K (.ref C) "__str__" = some (some (.ref f))) (hf : PySem.W.isFn K (.ref f) = true)
    (h : wpAny (model prog w) A (call (.ref f) [.ref x]) (fun r s₁ => ∃ z u, r = Value.str z u ∧ Q r s₁) E s) : wpAny (model prog w) A (Builtin.Str.strOf (.ref x)) Q E s := by
  unfold Builtin.Str.strOf
  refine PySem.W.KFB.if_not rfl ?_
  refine wpAny_bind (wpAny_cRoomFor hu ?_)
  refine wpAny_bind (m := callSpecial? (.ref x) (Str.ofString "__str__")) (PySem.W.special_fn X I hs (beq_iff_eq.mp hf) (wpAny_mono h (fun r s' hr => ?_) fun _ _ y => y))
  obtain ⟨z, u, rfl, hq⟩ := hr
  exact wpAny_bind (wpAny_pure (PySem.W.KFB.if_not rfl (wpAny_pure hq)))
theorem str_own {Q : Value → Shared → Prop} (hu : A.units + 3 < cLine) (X : K.In s.heap) (I : PySem.W.InstAt s.heap x ox C od) (hs : PySem.W.findIn K (.ref C) "__str__" = some (some (.ref f))) (hf : PySem.W.isFn K (.ref f) = true)
    (h : wpAny (model prog w) A.in1.in1 (call (.ref f) [.ref x]) (fun r s₁ => ∃ z u, r = Value.str z u ∧ Q r s₁) E s) : wpAny (model prog w) A (call (.type "str") [.ref x]) Q E s := by
  refine callType_codes (T := "str") (Bi := Builtin.«object.__init__») (Q₁ := fun r s₁ => ∃ z u, r = Value.str z u ∧ Q r s₁) PySem.F.called_str (PySem.F.typeCall_str_1 _) PySem.F.entry_object_init ?_ ?_
  · refine codeAny_of_tree ?_
    show wpAny _ A.in1.in1 (do checkBuiltinCall "str.__new__" ⟨[.type "str", .ref x], []⟩; again (.builtin "str.__new__" ⟨[.type "str", .ref x], []⟩)) _ _ s
    refine wpAny_bind (wpAny_of_eq (PySem.F.newCall_str_1 _) (wpAny_pure ⟨plainId_quiet (by decide +kernel) _, codeAny_builtin PySem.F.entry_str_new ?_⟩))
    rw [Around.under_plainId (by decide +kernel) _, str_new_tree]
    refine wpAny_bind (wpAny_pure ?_)
    refine wpAny_bind (wpAny_of_eq isSubtype_str_str ?_)
    exact wpAny_bind (wpAny_mono (strOf_own (by show A.units + 1 + 1 < cLine; omega) X I hs hf (wpAny_mono h (fun r s' ⟨z, u, e, q⟩ => ⟨z, u, e, (⟨z, u, e, q⟩ : ∃ z u, r = Value.str z u ∧ Q r s')⟩) fun _ _ e => e)) (fun r s' h' => wpAny_pure h') fun _ _ e => e)
  · rintro obj s₁ ⟨z, u, rfl, hq⟩
    exact ⟨typeIs_str _ _ _, PySem.F.args_object_init_2 _ _, object_init_meets PySem.F.called_str.init.lookup PySem.F.called_str.made (by decide) prog w A.in1 _ s₁ ⟨typeIs_str _ _ _, rfl, hq⟩⟩
end
end MD
end
section
/-! Built-ins by data. -/
namespace MD
open PySem PySem.Spec PyProof.Rows L2

abbrev GC := List D → (D → Prop) → Prop
def SimAW (W : Wd) (t : TA) (T : DTL) : Prop := ∀ {H0 : Hp} {B0 : Addr → Prop} {pins : List (V × D)} {B : Addr → Prop} {H : Hp} {σ : L2.St} {env : Ev}, SR W H0 B0 pins B H σ env → ∀ (Qd : List D → Prop) (Q : List V → Hp → Prop), T env Qd →
  (∀ ds vs H', Qd ds → Gr W H H' → Paired (RpV W B0 B H') vs ds → Q vs H') → t σ H Q
def DAW (X : Cx) (es : List Expr) (T : DTL) : Prop := ∃ t, PA X es t ∧ ∀ R, SimAW (Cx.wd X R) t T
def SimC (W : Wd) (r : List V → Hp → VK → Prop) (g : GC) : Prop := ∀ {H0 : Hp} {B0 : Addr → Prop} {pins : List (V × D)} {B : Addr → Prop} {H : Hp} {σ : L2.St} {env : Ev}, SR W H0 B0 pins B H σ env → ∀ {vs : List V} {ds : List D}, Paired (RpV W B0 B H) vs ds → ∀ (Qd : D → Prop) (Q : VK), g ds Qd →
  (∀ d v H', Qd d → Gr W H H' → Rp W B H' v d → Q v H') → r vs H Q
def DC (X : Cx) (f : Value) (g : GC) : Prop := ∃ r, CallR X f r ∧ ∀ R, SimC (Cx.wd X R) r g
def SimCF (W : Wd) (r : List V → Hp → VK → Prop) (g : GC) : Prop := ∀ {H0 : Hp} {B0 : Addr → Prop} {pins : List (V × D)} {B : Addr → Prop} {H : Hp} {σ : L2.St} {env : Ev}, SR W H0 B0 pins B H σ env → ∀ {vs : List V} {ds : List D}, Paired (RpV W B0 B H) vs ds → ∀ (Qd : D → Prop) (Q : VK), g ds Qd →
  (∀ ds p vs H', Qd (.lst ds) → H p = none → Gr W H H' → H' p = some (.lst vs) → RpL W (Add B p) H' vs ds → Q (.ref p) H') → r vs H Q
def DCF (X : Cx) (f : Value) (g : GC) : Prop := ∃ r, CallR X f r ∧ ∀ R, SimCF (Cx.wd X R) r g
def dCB (g : GC) (TL : DTL) : DT := fun env Q => TL env fun ds => g ds Q
section
variable {X : Cx} {W : Wd} {H0 : Hp} {B0 B : Addr → Prop} {pins : List (V × D)} {H H' : Hp} {σ : L2.St} {env : Ev} {e o a b : Expr} {T Ta Tb To : DT} {TL : DTL} {pos p apos : Pos} {es rest : List Expr} {x : Str} {bid : String} {g : GC}
theorem pair1 {P : V → D → Prop} {vs : List V} {d : D} (h : Paired P vs [d]) : ∃ v, vs = [v] ∧ P v d := by
  cases h with
  | cons h1 h2 => cases h2; exact ⟨_, rfl, h1⟩
theorem pair2 {P : V → D → Prop} {vs : List V} {d f : D} (h : Paired P vs [d, f]) : ∃ v u, vs = [v, u] ∧ P v d ∧ P u f := by
  cases h with
  | cons h1 h2 =>
    cases h2 with
    | cons h3 h4 => cases h4; exact ⟨_, _, rfl, h1, h3⟩
theorem daw_nil : DAW X [] dNil := ⟨_, pa_nil, fun R _ _ _ _ _ _ _ S Qd Q h k => k [] [] _ h .refl .nil⟩
theorem paired_grow (S : SR W H0 B0 pins B H σ env) (g : Gr W H H') : ∀ {vs : List V} {ds : List D}, Paired (RpV W B0 B H) vs ds → Paired (RpV W B0 B H') vs ds
  | _, _, .nil => .nil
  | _, _, .cons h l => .cons (h.grow S g) (paired_grow S g l)
theorem daw_cons (ha : DV X e T) (hr : DAW X es TL) (hs : starEach (e :: es) X.env = (false, eval e X.env) :: starEach es X.env := by rfl) : DAW X (e :: es) (dCons T TL) :=
  let ⟨_, p, s⟩ := ha; let ⟨_, p2, s2⟩ := hr; ⟨_, pa_cons p p2 hs, fun R _ _ _ _ _ _ _ S Qd Q h k => s R S _ _ h fun d v H1 q1 g1 r1 => s2 R (S.grow g1) _ _ q1 fun ds vs H2 q2 g2 r2 =>
    k _ _ _ q2 (g1.trans g2) (.cons (r1.grow (S.grow g1) g2) r2)⟩
theorem de_callB (hc : DC X (.builtin bid) g) (hm : X.mg x = none) (hv : bootBuiltins x = some (.builtin bid)) (ha : DAW X (e :: es) TL) (hg : Gl X x := by rfl) (hn : x ≠ "__name__" := by decide) (hdb : (x == ("__debug__" : Str)) = false := by decide)
    (he : starEach (e :: es) X.env = (false, eval e X.env) :: starEach es X.env := by rfl) (hpl : (backTo pos (starEach es X.env)).any (·.1) = false := by rfl) : DE X (.Call (.Name x p) (e :: es) [] pos) (dCB g TL) :=
  let ⟨_, pc, sc⟩ := hc; let ⟨_, pt, st⟩ := ha; ⟨_, pe_callB pc hg hm hv pt hn hdb he hpl, fun R _ _ _ _ _ _ _ S Qd Q h k => st R S _ _ h fun ds vs H1 q g1 r => sc R (S.grow g1) r Qd Q q fun d v H' q' g' r' => k d v H' q' (g1.trans g') r'⟩
theorem de_callTy (hc : DC X (.type bid) g) (hm : X.mg x = none) (hv : bootBuiltins x = some (.type bid)) (ha : DAW X (e :: es) TL) (hg : Gl X x := by rfl) (hn : x ≠ "__name__" := by decide) (hdb : (x == ("__debug__" : Str)) = false := by decide)
    (he : starEach (e :: es) X.env = (false, eval e X.env) :: starEach es X.env := by rfl) (hpl : (backTo pos (starEach es X.env)).any (·.1) = false := by rfl) : DE X (.Call (.Name x p) (e :: es) [] pos) (dCB g TL) :=
  let ⟨_, pc, sc⟩ := hc; let ⟨_, pt, st⟩ := ha; ⟨_, pe_callTy pc hg hm hv pt hn hdb he hpl, fun R _ _ _ _ _ _ _ S Qd Q h k => st R S _ _ h fun ds vs H1 q g1 r => sc R (S.grow g1) r Qd Q q fun d v H' q' g' r' => k d v H' q' (g1.trans g') r'⟩
theorem df_callTy (hc : DCF X (.type bid) g) (hm : X.mg x = none) (hv : bootBuiltins x = some (.type bid)) (ha : DAW X (e :: es) TL) (hg : Gl X x := by rfl) (hn : x ≠ "__name__" := by decide) (hdb : (x == ("__debug__" : Str)) = false := by decide)
    (he : starEach (e :: es) X.env = (false, eval e X.env) :: starEach es X.env := by rfl) (hpl : (backTo pos (starEach es X.env)).any (·.1) = false := by rfl) : DF X (.Call (.Name x p) (e :: es) [] pos) (dCB g TL) :=
  let ⟨_, pc, sc⟩ := hc; let ⟨_, pt, st⟩ := ha; ⟨_, pe_callTy pc hg hm hv pt hn hdb he hpl, fun R _ _ _ _ _ _ _ S Qd Q h k => st R S _ _ h fun ds vs H1 q g1 r => sc R (S.grow g1) r Qd Q q fun d p v H' q' n g' e r' => k d p v H' q' (g1.back n) (g1.trans g') e r'⟩
theorem df_callB (hc : DCF X (.builtin bid) g) (hm : X.mg x = none) (hv : bootBuiltins x = some (.builtin bid)) (ha : DAW X (e :: es) TL) (hg : Gl X x := by rfl) (hn : x ≠ "__name__" := by decide) (hdb : (x == ("__debug__" : Str)) = false := by decide)
    (he : starEach (e :: es) X.env = (false, eval e X.env) :: starEach es X.env := by rfl) (hpl : (backTo pos (starEach es X.env)).any (·.1) = false := by rfl) : DF X (.Call (.Name x p) (e :: es) [] pos) (dCB g TL) :=
  let ⟨_, pc, sc⟩ := hc; let ⟨_, pt, st⟩ := ha; ⟨_, pe_callB pc hg hm hv pt hn hdb he hpl, fun R _ _ _ _ _ _ _ S Qd Q h k => st R S _ _ h fun ds vs H1 q g1 r => sc R (S.grow g1) r Qd Q q fun d p v H' q' n g' e r' => k d p v H' q' (g1.back n) (g1.trans g') e r'⟩

/-! ### len, tuple, list, max, min, sum, all, any, divmod, int, str -/
def gLen : GC := fun ds Q => match ds with
  | [.str z] => z.length ≤ SZ ∧ Q (.int z.length)
  | [.tup es] => Q (.int es.length)
  | [.lst es] => Q (.int es.length)
  | _ => False
theorem dc_len : DC X (.builtin "len") gLen := ⟨_, call_len, fun R _ _ _ _ _ _ _ S vs ds r Qd Q h k => by
  unfold gLen at h
  split at h
  · obtain ⟨v, rfl, r1⟩ := pair1 r
    exact ⟨v, _, rfl, by rw [r1.str']; exact ⟨SZ_le h.1, rfl⟩, k _ _ _ h.2 .refl (.int _)⟩
  · obtain ⟨v, rfl, r1⟩ := pair1 r
    obtain ⟨a, xs, rfl, h1, l⟩ := r1.tup'
    exact ⟨_, _, rfl, .inr ⟨xs, h1, l.length.symm⟩, k _ _ _ h .refl (.int _)⟩
  · obtain ⟨v, rfl, r1⟩ := pair1 r
    obtain ⟨a, xs, rfl, h1, l⟩ := r1.lst'
    exact ⟨_, _, rfl, .inl ⟨xs, .of h1, l.length.symm⟩, k _ _ _ h .refl (.int _)⟩
  · exact h.elim⟩
def gTuple : GC := fun ds Q => match ds with
  | [.tup es] => Q (.tup es)
  | [.lst es] => Q (.tup es)
  | _ => False
theorem dc_tuple : DC X (.type "tuple") gTuple := ⟨_, call_tuple_of, fun R _ _ _ _ _ _ _ S vs ds r Qd Q h k => by
  unfold gTuple at h
  split at h
  · obtain ⟨v, rfl, r1⟩ := pair1 r
    obtain ⟨a, xs, rfl, h1, l⟩ := r1.tup'
    exact ⟨a, xs, rfl, .inr ⟨h1, k _ _ _ h .refl (.tup h1 l)⟩⟩
  · obtain ⟨v, rfl, r1⟩ := pair1 r
    obtain ⟨a, xs, rfl, h1, l⟩ := r1.lst'
    exact ⟨a, xs, rfl, .inl ⟨.of h1, fun p hp => k _ _ _ h (gr_new hp) (.tup (.of upd_same) (S.rpL (gr_new hp) l))⟩⟩
  · exact h.elim⟩
def gList : GC := fun ds Q => match ds with
  | [.tup es] => Q (.lst es)
  | [.lst es] => Q (.lst es)
  | _ => False
theorem dc_list : DCF X (.type "list") gList := ⟨_, call_list_of, fun R _ _ _ _ _ _ _ S vs ds r Qd Q h k => by
  unfold gList at h
  split at h
  · obtain ⟨v, rfl, r1⟩ := pair1 r
    obtain ⟨a, xs, rfl, h1, l⟩ := r1.tup'
    exact ⟨a, xs, rfl, .inr h1, fun p hp => k _ p _ _ h hp (gr_new hp) upd_same (fresh_add S hp l)⟩
  · obtain ⟨v, rfl, r1⟩ := pair1 r
    obtain ⟨a, xs, rfl, h1, l⟩ := r1.lst'
    exact ⟨a, xs, rfl, .inl (.of h1), fun p hp => k _ p _ _ h hp (gr_new hp) upd_same (fresh_add S hp l)⟩
  · exact h.elim⟩
def gInt2 (C : Int → Int → Prop) (f : Int → Int → D) : GC := fun ds Q => match ds with
  | [.int i, .int j] => C i j ∧ Q (f i j)
  | _ => False
theorem dc_max2 (hc : X.calm = true) : DC X (.builtin "max") (gInt2 (fun _ _ => True) fun i j => .int (max i j)) := ⟨_, call_max2 hc, fun R _ _ _ _ _ _ _ S vs ds r Qd Q h k => by
  unfold gInt2 at h
  split at h
  · rename_i i j
    obtain ⟨v, u, rfl, r1, r2⟩ := pair2 r
    refine ⟨i, j, by rw [r1.int', r2.int'], ?_⟩
    have e : (if j > i then j else i) = max i j := by
      split <;> omega
    rw [e]
    exact k _ _ _ h.2 .refl (.int _)
  · exact h.elim⟩
theorem dc_min2 (hc : X.calm = true) : DC X (.builtin "min") (gInt2 (fun _ _ => True) fun i j => .int (min i j)) := ⟨_, call_min2 hc, fun R _ _ _ _ _ _ _ S vs ds r Qd Q h k => by
  unfold gInt2 at h
  split at h
  · rename_i i j
    obtain ⟨v, u, rfl, r1, r2⟩ := pair2 r
    refine ⟨i, j, by rw [r1.int', r2.int'], ?_⟩
    have e : (if j < i then j else i) = min i j := by
      split <;> omega
    rw [e]
    exact k _ _ _ h.2 .refl (.int _)
  · exact h.elim⟩
theorem dc_divmod : DC X (.builtin "divmod") (gInt2 (fun _ j => 0 < j ∧ j < 1073741824) fun i j => .tup [.int (i / j), .int (i % j)]) := ⟨_, call_divmod, fun R _ _ _ _ _ _ _ S vs ds r Qd Q h k => by
  unfold gInt2 at h
  split at h
  · rename_i i j
    obtain ⟨v, u, rfl, r1, r2⟩ := pair2 r
    exact ⟨i, j, by rw [r1.int', r2.int'], h.1, fun p hp => k _ _ _ h.2 (gr_new hp) (.tup (.of upd_same) (.cons (.int _) (.cons (.int _) .nil)))⟩
  · exact h.elim⟩
/-- sum(xs), all(xs), any(xs) of a list -/
def gSumL : GC := fun ds Q => ∃ ns : List Int, ds = [.lst (ns.map .int)] ∧ Q (.int ns.sum)
theorem dc_sumL (hc : X.calm = true) : DC X (.builtin "sum") gSumL := ⟨_, cr_sum hc, fun R _ _ _ _ _ _ _ S vs ds r Qd Q h k => by
  obtain ⟨ns, rfl, q⟩ := h
  obtain ⟨v, rfl, r1⟩ := pair1 r
  obtain ⟨a, xs, rfl, h1, l⟩ := r1.lst'
  rw [l.ints] at h1
  exact ⟨a, ns, rfl, .of h1, k _ _ _ q .refl (.int _)⟩⟩
def gAll : GC := fun ds Q => ∃ bs : List Bool, ds = [.lst (bs.map .bl)] ∧ Q (.bl (bs.all id))
def gAny : GC := fun ds Q => ∃ bs : List Bool, ds = [.lst (bs.map .bl)] ∧ Q (.bl (bs.any id))
theorem dc_all (hc : X.calm = true) : DC X (.builtin "all") gAll := ⟨_, cr_all hc, fun R _ _ _ _ _ _ _ S vs ds r Qd Q h k => by
  obtain ⟨ns, rfl, q⟩ := h
  obtain ⟨v, rfl, r1⟩ := pair1 r
  obtain ⟨a, xs, rfl, h1, l⟩ := r1.lst'
  rw [l.bls] at h1
  exact ⟨a, ns, rfl, .of h1, k _ _ _ q .refl (.bl _)⟩⟩
theorem dc_any (hc : X.calm = true) : DC X (.builtin "any") gAny := ⟨_, cr_any hc, fun R _ _ _ _ _ _ _ S vs ds r Qd Q h k => by
  obtain ⟨ns, rfl, q⟩ := h
  obtain ⟨v, rfl, r1⟩ := pair1 r
  obtain ⟨a, xs, rfl, h1, l⟩ := r1.lst'
  rw [l.bls] at h1
  exact ⟨a, ns, rfl, .of h1, k _ _ _ q .refl (.bl _)⟩⟩
def gToInt : GC := fun ds Q => match ds with
  | [.int i] => Q (.int i)
  | [.bl k] => Q (.int (if k then 1 else 0))
  | [.str z] => z.length ≤ 640 ∧ ∃ n, PySem.intText? z = some n ∧ Q (.int n)
  | _ => False
theorem dc_int : DC X (.type "int") gToInt := ⟨_, call_int1.or call_int_str, fun R _ _ _ _ _ _ _ S vs ds r Qd Q h k => by
  unfold gToInt at h
  split at h
  · obtain ⟨v, rfl, r1⟩ := pair1 r
    exact .inl (.inl ⟨_, by rw [r1.int'], k _ _ _ h .refl (.int _)⟩)
  · rename_i kb
    obtain ⟨v, rfl, r1⟩ := pair1 r
    have e : v = .bl kb := by
      rcases r1 with h | ⟨p, vs, ds, rfl, e, _⟩
      · exact h.bl'
      · cases e
    exact .inl (.inr ⟨_, by rw [e], k _ _ _ h .refl (.int _)⟩)
  · obtain ⟨v, rfl, r1⟩ := pair1 r
    obtain ⟨h1, n, h2, q⟩ := h
    exact .inr ⟨_, n, by rw [r1.str'], h2, h1, k _ _ _ q .refl (.int _)⟩
  · exact h.elim⟩
def gToStr : GC := fun ds Q => match ds with
  | [.int i] => i.natAbs.log2 < 1920 ∧ Q (.str (toString i))
  | _ => False
theorem dc_str : DC X (.type "str") gToStr := ⟨_, call_str_int, fun R _ _ _ _ _ _ _ S vs ds r Qd Q h k => by
  unfold gToStr at h
  split at h
  · obtain ⟨v, rfl, r1⟩ := pair1 r
    exact ⟨_, by rw [r1.int'], h.1, k _ _ _ h.2 .refl (.str _)⟩
  · exact h.elim⟩
theorem dc_reprI : DC X (.builtin "repr") gToStr := ⟨_, SkE.call_repr_int, fun R _ _ _ _ _ _ _ S vs ds r Qd Q h k => by
  unfold gToStr at h
  split at h
  · obtain ⟨v, rfl, r1⟩ := pair1 r
    exact ⟨_, by rw [r1.int'], h.1, k _ _ _ h.2 .refl (.str _)⟩
  · exact h.elim⟩

/-! ### methods of texts -/
def onS (d : D) (Q : Str → Prop) : Prop := match d with | .str x => Q x | _ => False
theorem onS_at {d : D} {Q : Str → Prop} (h : onS d Q) : ∃ x, d = .str x ∧ Q x := by
  cases d with
  | str b => exact ⟨b, rfl, h⟩
  | _ => exact h.elim
theorem of_strs : ∀ {ns : List Str}, RpL W B H (ns.map V.str) (ns.map D.str)
  | [] => .nil
  | n :: ns => .cons (.str n) of_strs
def dSplit (To T : DT) : DT := fun env Q => To env fun a => onS a fun x => T env fun b => onS b fun y => ((y.length == 0) = false ∧ x.length ≤ SZ) ∧ Q (.lst ((Txt.split x y).map .str))
theorem df_split (ho : DE X o To) (he : DE X e T) (hs : starEach [e] X.env = [(false, eval e X.env)] := by rfl) (hbase : attributeBase o "split" X.env (eval o X.env) = eval o X.env := by rfl) (hline : (apos.endLine == pos.line) = true := by rfl) :
    DF X (.Call (.Attribute o "split" apos) [e] [] pos) (dSplit To T) := let ⟨_, p, s⟩ := ho; let ⟨_, p2, s2⟩ := he; ⟨_, pe_split p p2 hs hbase hline, fun R _ _ _ _ _ _ _ S Qd Q h k => s R S _ _ h fun d v H1 q1 g1 r1 => by
      obtain ⟨x, rfl, q1⟩ := onS_at q1
      refine ⟨⟨x, r1.str'⟩, s2 R (S.grow g1) _ _ q1 fun f u H2 q2 g2 r2 => ?_⟩
      obtain ⟨y, rfl, q2⟩ := onS_at q2
      have hz : x.length + 2 ≤ sizeLine := Nat.le_trans (Nat.add_le_add_right q2.1.2 2) (by decide)
      exact ⟨x, y, r1.str', by rw [r2.str'], q2.1.1, hz, fun p hp => k _ p _ _ q2.2 ((g1.trans g2).back hp) ((g1.trans g2).trans (gr_new hp)) upd_same of_strs⟩⟩
def dPart (To T : DT) : DT := fun env Q => To env fun a => onS a fun x => T env fun b => onS b fun y => ((y.length == 0) = false ∧ x.length ≤ SZ) ∧ Q (.tup [.str (Txt.partition x y).1, .str (Txt.partition x y).2.1, .str (Txt.partition x y).2.2])
theorem de_part (ho : DE X o To) (he : DE X e T) (hs : starEach [e] X.env = [(false, eval e X.env)] := by rfl) (hbase : attributeBase o "partition" X.env (eval o X.env) = eval o X.env := by rfl) (hline : (apos.endLine == pos.line) = true := by rfl) :
    DE X (.Call (.Attribute o "partition" apos) [e] [] pos) (dPart To T) := let ⟨_, p, s⟩ := ho; let ⟨_, p2, s2⟩ := he; ⟨_, pe_partition p p2 hs hbase hline, fun R _ _ _ _ _ _ _ S Qd Q h k => s R S _ _ h fun d v H1 q1 g1 r1 => by
      obtain ⟨x, rfl, q1⟩ := onS_at q1
      refine ⟨⟨x, r1.str'⟩, s2 R (S.grow g1) _ _ q1 fun f u H2 q2 g2 r2 => ?_⟩
      obtain ⟨y, rfl, q2⟩ := onS_at q2
      exact ⟨x, y, r1.str', by rw [r2.str'], q2.1.1, SZ_le q2.1.2, fun p hp => k _ _ _ q2.2 ((g1.trans g2).trans (gr_new hp)) (.tup (.of upd_same) (.cons (.str _) (.cons (.str _) (.cons (.str _) .nil))))⟩⟩
def dJoin (To T : DT) : DT := fun env Q => To env fun a => onS a fun x => T env fun b => ∃ ys : List Str, (b = .lst (ys.map .str) ∨ b = .tup (ys.map .str)) ∧ (ys.map (·.length)).sum + ys.length * x.length ≤ 16777216 ∧ Q (.str (Txt.join x ys))
theorem de_join (ho : DE X o To) (he : DV X e T) (hs : starEach [e] X.env = [(false, eval e X.env)] := by rfl) (hbase : attributeBase o "join" X.env (eval o X.env) = eval o X.env := by rfl) (hline : (apos.endLine == pos.line) = true := by rfl) :
    DE X (.Call (.Attribute o "join" apos) [e] [] pos) (dJoin To T) := let ⟨_, p, s⟩ := ho; let ⟨_, p2, s2⟩ := he; ⟨_, pe_join p p2 hs hbase hline, fun R _ _ _ _ _ _ _ S Qd Q h k => s R S _ _ h fun d v H1 q1 g1 r1 => by
      obtain ⟨x, rfl, q1⟩ := onS_at q1
      refine ⟨⟨x, r1.str'⟩, s2 R (S.grow g1) _ _ q1 fun f u H2 q2 g2 r2 => ?_⟩
      obtain ⟨ys, e, hz, q2⟩ := q2
      rcases e with rfl | rfl
      · obtain ⟨a, xs, rfl, h1, l⟩ := r2.lst'
        rw [l.strs] at h1
        exact ⟨x, a, ys, r1.str', rfl, .inl (.of h1), hz, k _ _ _ q2 (g1.trans g2) (.str _)⟩
      · obtain ⟨a, xs, rfl, h1, l⟩ := r2.tup'
        rw [l.strs] at h1
        exact ⟨x, a, ys, r1.str', rfl, .inr h1, hz, k _ _ _ q2 (g1.trans g2) (.str _)⟩⟩

/-! ### a or b of texts; f-strings -/
def dOrS (Ta Tb : DT) : DT := fun env Q => Ta env fun a => onS a fun x => x.length ≤ SZ ∧ if x.length = 0 then Tb env Q else Q (.str x)
theorem de_orS (ha : DE X a Ta) (hb : DE X (.BoolOp .Or (b :: rest) pos) Tb) : DE X (.BoolOp .Or (a :: b :: rest) pos) (dOrS Ta Tb) := let ⟨_, p, s⟩ := ha; let ⟨_, p2, s2⟩ := hb; ⟨_, pe_orT p p2, fun R _ _ _ _ _ _ _ S Qd Q h k => s R S _ _ h fun d v H1 q1 g1 r1 => by
  obtain ⟨x, rfl, hz, q⟩ := onS_at q1
  refine ⟨((x.length : Int) != 0), by rw [r1.str']; exact ⟨SZ_le hz, rfl⟩, ?_⟩
  by_cases h0 : x.length = 0
  · rw [if_pos h0] at q
    have e : ((x.length : Int) != 0) = false := by rw [h0]; rfl
    rw [e, if_neg (by decide)]
    exact s2 R (S.grow g1) Qd Q q fun d v H' q' g' r' => k d v H' q' (g1.trans g') r'
  · rw [if_neg h0] at q
    have e : ((x.length : Int) != 0) = true := bne_iff_ne.mpr (by omega)
    rw [e, if_pos rfl]
    exact k _ _ _ q g1 r1⟩
def dFmt (T : DT) : DT := fun env Q => T env fun d => match d with
  | .str y => y.length ≤ SZ ∧ Q (.str y)
  | .int i => i.natAbs.log2 < 1920 ∧ Q (.str (toString i))
  | _ => False
theorem de_fmt (h : DE X e T) : DE X (.FormattedValue e (-1) none pos) (dFmt T) := let ⟨_, p, s⟩ := h; ⟨_, pe_fmt p, fun R _ _ _ _ _ _ _ S Qd Q h k => s R S _ _ h fun d v H1 q g r => by
  split at q
  · exact .inl ⟨_, r.str', SZ_le q.1, k _ _ _ q.2 g (.str _)⟩
  · exact .inr ⟨_, r.int', q.1, k _ _ _ q.2 g (.str _)⟩
  · exact q.elim⟩
inductive DJ (X : Cx) : List Expr → List DT → Prop where
  | nil : DJ X [] []
  | cons {e : Expr} {T : DT} {es : List Expr} {Ts : List DT} (h : DE X e T) (r : DJ X es Ts) : DJ X (e :: es) (T :: Ts)
def dJs : List DT → Str → Ev → (Str → Prop) → Prop
  | [], acc, _, Q => Q acc
  | T :: Ts, acc, env, Q => T env fun d => onS d fun y => acc.length + y.length ≤ SZ ∧ dJs Ts (acc ++ y) env Q
def SimJ (W : Wd) (ts : List TE) (Ts : List DT) : Prop := ∀ {H0 : Hp} {B0 : Addr → Prop} {pins : List (V × D)} {B : Addr → Prop} {H : Hp} {σ : L2.St} {env : Ev}, SR W H0 B0 pins B H σ env → ∀ (acc : Str) (Qd : Str → Prop) (Q : Str → Hp → Prop), dJs Ts acc env Qd →
  (∀ out H', Qd out → Gr W H H' → Q out H') → tJs ts acc σ H Q
theorem DJ.pj {es : List Expr} {Ts : List DT} (h : DJ X es Ts) : ∃ ts, PJ X es ts ∧ ∀ R, SimJ (Cx.wd X R) ts Ts := by
  induction h with
  | nil => exact ⟨[], .nil, fun R _ _ _ _ _ _ _ S acc Qd Q h k => k _ _ h .refl⟩
  | cons h r ih =>
    obtain ⟨t, p, s⟩ := h
    obtain ⟨ts, p2, s2⟩ := ih
    refine ⟨t :: ts, .cons p p2, fun R _ _ _ _ _ _ _ S acc Qd Q h k => s R S _ _ h fun d v H1 q g rv => ?_⟩
    obtain ⟨y, rfl, hz, q⟩ := onS_at q
    exact ⟨y, rv.str', by rw [strLen_append]; exact SZ_le hz, s2 R (S.grow g) _ _ _ q fun out H' q' g' => k out H' q' (g.trans g')⟩
def dJoined (Ts : List DT) : DT := fun env Q => dJs Ts Str.empty env fun out => Q (.str out)
theorem de_joined {v1 v2 : Expr} {Ts : List DT} (h : DJ X (v1 :: v2 :: rest) Ts) : DE X (.JoinedStr (v1 :: v2 :: rest) pos) (dJoined Ts) := let ⟨_, p, s⟩ := h.pj; ⟨_, pe_joined p, fun R _ _ _ _ _ _ _ S Qd Q h k => s R S _ _ _ h fun out H' q g => k _ _ _ q g (.str out)⟩

/-! ### isinstance of built-in types; of an own class; str, repr of an instance -/
def tyN : D → String
  | .non => "NoneType"
  | .bl _ => "bool"
  | .int _ => "int"
  | .str _ => "str"
  | .tup _ => "tuple"
  | .lst _ => "list"
  | _ => ""
def isTy (n : String) (d : D) : Bool := tyN d == n || (tyN d == "bool" && n == "int")
def gIsT (n : String) : GC := fun ds Q => match ds with
  | [.non] => Q (.bl (isTy n .non))
  | [.bl b] => Q (.bl (isTy n (.bl b)))
  | [.int b] => Q (.bl (isTy n (.int b)))
  | [.str b] => Q (.bl (isTy n (.str b)))
  | [.tup b] => Q (.bl (isTy n (.tup b)))
  | [.lst b] => Q (.bl (isTy n (.lst b)))
  | _ => False
end
end MD
end
section
/-! Built-ins that the kit's hand layer lacks: a tuple, a text backwards; sum of a tuple; repr of data; an instance's text; its !=. -/
namespace MD
open PySem PySem.Spec PyProof.Rows L2

section
variable {prog : Program} {w : World} {A : Around} {E : Value → Shared → Prop} {s : Shared}
theorem places_rev (n : Nat) : Builtin.Slice.slicePlaces ((n : Int) - 1) (-1) (-1) = n := by
  unfold Builtin.Slice.slicePlaces
  rw [if_neg (by decide)]
  by_cases h : (n : Int) - 1 > -1
  · rw [if_pos h, show (- -1 : Int) = 1 by decide, Int.ediv_one]
    omega
  · rw [if_neg h]
    omega
theorem fmap_congr {α β : Type} {f g : α → Option β} : ∀ {l : List α}, (∀ x ∈ l, f x = g x) → l.filterMap f = l.filterMap g
  | [], _ => rfl
  | x :: l, h => by
    rw [List.filterMap_cons, List.filterMap_cons, h x (List.mem_cons_self ..), fmap_congr fun y hy => h y (List.mem_cons_of_mem _ hy)]
theorem pick_rev (xs : Array Value) : ((List.range xs.size).filterMap fun (m : Nat) => xs[(((xs.size : Int) - 1) + (m : Int) * (-1)).toNat]?).toArray = xs.toList.reverse.toArray := by
  have e : (List.range xs.size).filterMap (fun (m : Nat) => xs[(((xs.size : Int) - 1) + (m : Int) * (-1)).toNat]?) = (List.range xs.size).filterMap fun m => xs[xs.size - 1 - m]? := by
    apply fmap_congr
    intro m hm
    have := List.mem_range.mp hm
    have : (((xs.size : Int) - 1) + (m : Int) * (-1)).toNat = xs.size - 1 - m := by omega
    rw [this]
  rw [e]
  have e2 : (List.range xs.size).filterMap (fun m => xs[xs.size - 1 - m]?) = ((List.range xs.size).map fun k => xs.size - 1 - k).filterMap (xs[·]?) := by
    rw [List.filterMap_map]; rfl
  rw [e2, PySem.W.krv_range, List.filterMap_reverse, PySem.W.krv_all]
theorem sliceApplied_rev {sl : Addr} {vs : Value} {n : Nat} {Q : Int × Int × Nat → Shared → Prop} (hs : s.heap.IsSliceOf sl .none .none vs) (ps : IsPart vs (some (-1)))
    (h : Q ((n : Int) - 1, -1, n) s) : wpAny (model prog w) A (Builtin.Slice.sliceApplied (.ref sl) (pure (n : Int))) Q E s := by
  obtain ⟨os, hos, hcs, hds⟩ := id hs
  unfold Builtin.Slice.sliceApplied Builtin.Slice.sliceFields
  refine wpAny_bind (wpAny_bind (wpAny_field hos hds (x := .none) rfl (wpAny_bind (wpAny_field hos hds (x := .none) rfl (wpAny_bind (wpAny_field hos hds (x := vs) rfl (wpAny_pure ?_)))))))
  refine wpAny_bind (HT.slicePart_ ps ?_)
  show wpAny _ _ (if ((-1 : Int) == 0) = true then _ else _) _ _ s
  rw [if_neg (by decide)]
  refine wpAny_bind (slicePart_none (wpAny_bind (slicePart_none (wpAny_bind (wpAny_pure ?_)))))
  show wpAny _ _ (pure ((n : Int) - 1, (-1 : Int), Builtin.Slice.slicePlaces ((n : Int) - 1) (-1) (-1))) _ _ s
  rw [places_rev]
  exact wpAny_pure h
theorem getItem_tuple_rev {t sl : Addr} {items : Array Value} {vs : Value} {Q : Value → Shared → Prop} (ht : IsTup s.heap t items) (hs : s.heap.IsSliceOf sl .none .none vs) (ps : IsPart vs (some (-1)))
    (h : Q (.ref s.heap.objs.size) { s with heap := s.heap.push { cls := .type "tuple", data := .seq items.toList.reverse.toArray } })
    (hsz : items.size ≤ sizeLine) : wpAny (model prog w) A (getItem (.ref t) (.ref sl)) Q E s := by
  have htake : sizeOk (.seq items.toList.reverse.toArray) := by
    show items.toList.reverse.toArray.size ≤ sizeLine
    rw [List.size_toArray, List.length_reverse, Array.length_toList]
    exact hsz
  obtain ⟨os, hos, hcs, hds⟩ := id hs
  have hTs : s.TypeIs (.ref sl) "slice" := ⟨os, hos, hcs⟩
  unfold getItem
  try with_reducible refine wpAny_holding ?_
  first | refine wpAny_bind (wpAny_pure ?_) | skip
  refine wpAny_bind (wpAny_sequenceKey ht.typeIs (by decide) ?_)
  refine wpAny_bind (wpAny_callSpecial?_slot (name := Str.ofString "__getitem__") ht.typeIs PyProof.Rows.slot_tuple_getitem
    (wpAny_call_entry PyProof.Rows.slot_tuple_getitem ht.typeIs entry_tuple_getitem ?_ (args_tuple_getitem _ _)))
  show wpAny _ _ (Builtin.Tuple.tupleItemsOf (.ref t) >>= _) _ _ s
  refine wpAny_bind (tupleItemsOf_ ht ?_)
  refine wpAny_bind (wpAny_typeOf hTs ?_)
  rw [if_pos (by decide)]
  refine wpAny_bind (sliceApplied_rev hs ps ?_)
  have hno : ¬ ((((items.size : Int) - 1) == 0 && (-1 : Int) == 1 && items.size == items.size) = true) := by
    intro q
    rw [Bool.and_eq_true, Bool.and_eq_true] at q
    exact absurd q.1.2 (by decide)
  show wpAny _ _ (if (((items.size : Int) - 1) == 0 && (-1 : Int) == 1 && items.size == items.size) = true then _ else _) _ _ s
  rw [if_neg hno, pick_rev]
  first
    | exact wpAny_bind (m := Builtin.Tuple.tupleExact _) (wpAny_newObj_type (wpAny_pure ⟨_, rfl, wpAny_pure h⟩) htake)
    | exact wpAny_bind (m := Builtin.Tuple.tupleExact _) (wpAny_newObj_type (wpAny_bind (wpAny_pure (wpAny_pure ⟨_, rfl, wpAny_pure h⟩))) htake)
    | exact wpAny_bind (wpAny_bind (m := Builtin.Tuple.tupleExact _) (wpAny_newObj_type (wpAny_pure (wpAny_pure ⟨_, rfl, wpAny_pure h⟩)) htake))
    | exact wpAny_bind (wpAny_bind (m := Builtin.Tuple.tupleExact _) (wpAny_newObj_type (wpAny_pure ⟨_, rfl, wpAny_pure h⟩) htake))
theorem str_rev_ix (n : Nat) : Builtin.Str.strSliceIndices none none (-1) n = (List.range n).reverse := by
  show sliceRange ((n : Int) - 1) (-1) (-1) = _
  rw [PySem.W.krv_sliceRange, PySem.W.krv_range]
end
/-- a text backwards -/
def revS (z : Str) : Str := ⟨z.cps.toList.reverse.toArray⟩
theorem revS_len (z : Str) : (revS z).length = z.length := by
  show (z.cps.toList.reverse.toArray).size = z.cps.size
  simp
section
variable {X : Cx} {W : Wd} {H0 : Hp} {B0 B : Addr → Prop} {pins : List (V × D)} {H H' : Hp} {σ : L2.St} {env : Ev} {e o a b : Expr} {T Ta Tb To : DT} {TL : DTL} {pos p apos : Pos} {es rest : List Expr} {x : Str} {bid : String} {g : GC}
def tRevTS (K : PySem.W.Frag) (te : TE) : TE := fun σ H Q => te σ H fun x H1 => (∃ a xs, x = .ref a ∧ SqT K H1 a xs ∧ ∀ p, H1 p = none → Q (.ref p) (upd H1 p (.tup xs.reverse))) ∨ ∃ z, x = .str z ∧ z.length ≤ sizeLine ∧ Q (.str (revS z)) H1
theorem pe_revTS {te : TE} {k : Nat} {p1 p2 p3 : Pos} (he : PE X e te) : PE X (.Subscript e (.Slice none none (some (.UnaryOp .USub (.Constant (.int 1) k p1) p2)) p3) pos) (tRevTS X.K te) := by
  refine ⟨fun pins s σ H Q I h => ?_⟩
  refine Subscript_ (thn (he.run pins s σ H _ I h) fun v s1 ⟨x, H1, I1, r1, q1⟩ => ?_)
  have hst : PO X (some (.UnaryOp .USub (.Constant (.int 1) k p1) p2)) (tPart (tUn (rU fun i => .int (-i)) (tC (.int 1)))) := po_some (pe_un un_neg pe_int)
  refine wpAny_Slice (thn (po_none.run pins s1 σ H1 (fun o H2 => o = none ∧ H2 = H1) I1 ⟨rfl, rfl⟩) fun vl s2 ⟨l, H2, I2, pl, el, e2⟩ => ?_)
  subst el e2
  refine thn (po_none.run pins s2 σ H2 (fun o H3 => o = none ∧ H3 = H2) I2 ⟨rfl, rfl⟩) fun vu s3 ⟨u, H3, I3, pu, eu, e3⟩ => ?_
  subst eu e3
  refine thn (hst.run pins s3 σ H3 (fun o H4 => o = some (-1) ∧ H4 = H3) I3 ⟨1, rfl, -1, rfl, rfl, rfl⟩) fun vs s4 ⟨o, H4, I4, ps, eo, e4⟩ => ?_
  subst eo e4
  have I5 : Inv X pins σ H4 { s4 with heap := s4.heap.push { cls := .type "slice", data := .fields #[vl, vu, vs] } } := I4.kept (t' := s4.toks) fun b ob q => Heap.get?_push_of_some _ q
  have evl : vl = .none := by cases pl; rfl
  have evu : vu = .none := by cases pu; rfl
  subst evl evu
  rcases q1 with ⟨a, xs, rfl, hx, q⟩ | ⟨z, rfl, hz, q⟩
  · cases r1
    obtain ⟨its, r, ht, hz⟩ := I5.tuple hx
    have hlen := r.length
    show wpAny (model X.prog X.w) X.A (subscriptTail e (.Slice none none (some (.UnaryOp .USub (.Constant (.int 1) k p1) p2)) p3) (.ref a) (.ref s4.heap.objs.size)) (EP X pins σ Q) X.xe { s4 with heap := s4.heap.push { cls := .type "slice", data := .fields #[.none, .none, vs] } }
    refine tail_any (ops := [.ref a, .ref s4.heap.objs.size]) ht.typeIs (PyProof.Rows.slot_tuple_getitem.lookup) ?_ (by with_unfolding_all rfl)
    refine getItem_tuple_rev ht (Heap.IsSliceOf.new _ .none .none vs) ps ?_ (by rw [List.size_toArray]; omega)
    refine ⟨.ref _, _, I5.laid (t' := s4.toks) (o := .tup xs.reverse) (fun b ob q => Heap.get?_push_of_some _ q) (Nat.le_refl _) ?_, rfl, q _ (I5.hok.fresh (Nat.le_refl _))⟩
    exact ⟨by rw [List.length_reverse]; exact hz, _, r.reverse, IsTup.new _ _⟩
  · obtain ⟨t, rfl⟩ := r1
    obtain ⟨st, e1, e2⟩ := IsPart.raw ps
    show wpAny (model X.prog X.w) X.A (subscriptTail e (.Slice none none (some (.UnaryOp .USub (.Constant (.int 1) k p1) p2)) p3) (.str z t) (.ref s4.heap.objs.size)) (EP X pins σ Q) X.xe { s4 with heap := s4.heap.push { cls := .type "slice", data := .fields #[.none, .none, vs] } }
    refine tail_any (ops := [.str z t, .ref s4.heap.objs.size]) (typeIs_str _ _ _) (F.slot_str_getitem.lookup) ?_ (by with_unfolding_all rfl)
    have e3 : st.map (·.1) = some (-1) := by first | exact e2 | exact e1 | exact e2.symm | exact e1.symm
    refine wpAny_getItem_str_slice (l := none) (u := none) (st := st) ⟨_, Heap.get?_push_size _ rfl, rfl, by first | rfl | (rw [e1]; rfl) | (rw [e2]; rfl) | (subst e1; rfl) | (subst e2; rfl)⟩ (by rw [e3]; decide) ?_
    unfold sliceMade slicePicked
    rw [e3]
    show Made.post (if ((-1 : Int) == 1 && _) = true then _ else _) _ _
    rw [if_neg (by simp)]
    have e4 : (⟨((Builtin.Str.strSliceIndices (Option.map (fun x => x.1) (none : Option (Int × Tok))) (Option.map (fun x => x.1) (none : Option (Int × Tok))) ((some (-1 : Int)).getD 1) z.length).filterMap (z.cps[·]?)).toArray⟩ : Str) = revS z := by
      show (⟨((Builtin.Str.strSliceIndices none none (-1) z.length).filterMap (z.cps[·]?)).toArray⟩ : Str) = _
      rw [str_rev_ix, List.filterMap_reverse]
      unfold revS
      rw [show z.length = z.cps.size from rfl, PySem.W.krv_all]
    show Made.post (.str ⟨_⟩) _ _
    refine (congrArg (fun y : Str => Made.post (.str y) (EP X pins σ Q) _) e4).mpr ?_
    exact ⟨by rw [revS_len]; exact hz, .str _, H4, I5.tok _, ⟨_, rfl⟩, q⟩
def dRev (T : DT) : DT := fun env Q => T env fun d => match d with
  | .tup xs => Q (.tup xs.reverse)
  | .str z => z.length ≤ SZ ∧ Q (.str (revS z))
  | _ => False
theorem de_rev {k : Nat} {p1 p2 p3 : Pos} (h : DE X e T) : DE X (.Subscript e (.Slice none none (some (.UnaryOp .USub (.Constant (.int 1) k p1) p2)) p3) pos) (dRev T) := let ⟨_, p, s⟩ := h;
  ⟨_, pe_revTS p, fun R _ _ _ _ _ _ _ S Qd Q h k => s R S _ _ h fun d v H1 q1 g1 r1 => by
    split at q1
    · obtain ⟨a, xs, rfl, h1, l1⟩ := r1.tup'
      exact .inl ⟨a, xs, rfl, h1, fun n hn => k _ _ _ q1 (g1.trans (gr_new hn)) (.tup (.of upd_same) ((S.grow g1).rpL (gr_new hn) l1.reverse))⟩
    · exact .inr ⟨_, r1.str', SZ_le q1.1, k _ _ _ q1.2 g1 (.str _)⟩
    · exact q1.elim⟩
/-! ### sum of a tuple -/
theorem sumT_raw {prog : Program} {w : World} {A : Around} {E : Value → Shared → Prop} {s : Shared} {a : Addr} {its : List Value} {ns : List Int} {Q : Value → Shared → Prop} (hh : A.handled = none) (hl : s.heap.IsTuple a its.toArray) (hi : IntsAre its ns)
    (h : ∀ h' tk t', (∀ b o, s.heap.get? b = some o → h'.get? b = some o) → Q (.int ns.sum t') { s with heap := h', toks := tk }) : wpAny (model prog w) A (call (.builtin "sum") [.ref a]) Q E s := by
  obtain ⟨xs, e⟩ := hi.allInts.items
  have hn : numsOf (intItems xs).toList = ns := by rw [← e]; exact hi.numsOf
  rw [nums_intItems] at hn
  rw [e] at hl
  refine call_sum_walkG (wpAny_pyIter_tuple hl ?_)
  have hf : s.heap.get? s.heap.objs.size = none := by first | exact Heap.get?_none (Nat.le_refl _) | (show s.heap.objs[s.heap.objs.size]? = none; simp) | (unfold Heap.get?; simp)
  have hne : a ≠ s.heap.objs.size := fun z => by
    obtain ⟨o, ho, _⟩ := id hl
    rw [z, hf] at ho
    cases ho
  refine ⟨_, _, _, _, _, _, numAt xs, rfl, Walks.tuple (A := A.in1) hh s.heap.objs.size a hne (intItems xs), ⟨⟨_, Heap.get?_push_size _ rfl, rfl, rfl⟩, hl.at fun o q => Heap.get?_push_of_some _ q⟩, fun b hb => ?_, (fun _ _ => intItems_at), fun h' tk t' hk => ?_⟩
  · rw [Heap.size_push]
    rcases List.mem_cons.mp hb with rfl | hb
    · exact Nat.lt_succ_self _
    · cases List.mem_singleton.mp hb
      obtain ⟨o, ho, _⟩ := id hl
      exact Nat.lt_succ_of_lt (Heap.lt_size ho)
  · have hq := h h' tk t' fun b o q => hk b o (fun z => by
      rw [List.mem_singleton.mp z, hf] at q
      cases q) (Heap.get?_push_of_some _ q)
    have e1 : preSum (numAt xs) (intItems xs).size = ns.sum := by
      rw [show (intItems xs).size = xs.size by simp [intItems], preSum_eq, List.take_of_length_le (by simp), hn]
    rw [e1]
    exact hq
theorem cr_sumT (hc : X.calm = true) : CallR X (.builtin "sum") (fun vs H Q => ∃ (a : Addr) (ns : List Int), vs = [V.ref a] ∧ SqT X.K H a (ns.map V.int) ∧ Q (.int ns.sum) H) := by
  intro pins s σ H vs us Q I r h
  obtain ⟨a, ns, rfl, hs, q⟩ := h
  obtain ⟨its, rv, hl, _⟩ := I.tuple hs
  rw [Vals.ref1 r]
  exact sumT_raw (I.ok.hd hc) hl rv.ints fun h' tk t' hk => ⟨.int _, H, I.kept hk, ⟨_, rfl⟩, q⟩
def gSum : GC := fun ds Q => ∃ ns : List Int, (ds = [.lst (ns.map .int)] ∨ ds = [.tup (ns.map .int)]) ∧ Q (.int ns.sum)
theorem dc_sum (hc : X.calm = true) : DC X (.builtin "sum") gSum := ⟨_, (cr_sum hc).or (cr_sumT hc), fun R _ _ _ _ _ _ _ S vs ds r Qd Q h k => by
  obtain ⟨ns, rfl | rfl, q⟩ := h
  · obtain ⟨v, rfl, r1⟩ := pair1 r
    obtain ⟨a, xs, rfl, h1, l⟩ := r1.lst'
    rw [l.ints] at h1
    exact .inl ⟨a, ns, rfl, .of h1, k _ _ _ q .refl (.int _)⟩
  · obtain ⟨v, rfl, r1⟩ := pair1 r
    obtain ⟨a, xs, rfl, h1, l⟩ := r1.tup'
    rw [l.ints] at h1
    exact .inr ⟨a, ns, rfl, h1, k _ _ _ q .refl (.int _)⟩⟩

/-! ### repr of data -/
mutual
theorem noDict : ∀ d : D, (toPy d).hasDict = false
  | .non => rfl
  | .bl _ => rfl
  | .int _ => rfl
  | .str _ => rfl
  | .tup ds => noDictL ds
  | .lst ds => noDictL ds
  | .ob _ _ => rfl
  | .fn _ => rfl
  | .scr _ => rfl
  | .res _ => rfl
theorem noDictL : ∀ ds : List D, PyData.hasDictAll (toPyL ds) = false
  | [] => rfl
  | d :: ds => by
    show ((toPy d).hasDict || PyData.hasDictAll (toPyL ds)) = false
    rw [noDict d, noDictL ds]
    rfl
end
/-- what repr may be asked of, and its answer -/
def showOk (d : D) : Bool := isPy d && (toPy d).showable && decide ((toPy d).depth ≤ 20) && decide ((toPy d).shown.length ≤ SZ)
def shownD (d : D) : Str := (toPy d).shown
theorem cr_reprD {k : Nat} (hr : RmG k X.A) : CallR X (.builtin "repr") (fun xs H Q => ∃ (a : Addr) (d : PyData), xs = [.ref a] ∧ Dp X.K H (.ref a) d ∧ d.hasDict = false ∧ d.showable = true ∧ d.depth ≤ 20 ∧ d.shown.length ≤ sizeLine ∧ Q (.str d.shown) H) := by
  intro pins s σ H xs us Q I r h
  obtain ⟨a, d, rfl, hd, h1, h2, h3, h4, q⟩ := h
  obtain ⟨u, rfl, ru⟩ := vals1 r
  cases (show u = Value.ref a from ru)
  obtain ⟨as, rd⟩ := Dp.reads I d _ _ hd ru
  have hu := hr.r.units
  exact repr_of_reads' (h₀ := s.heap) rd h2 (PyData.noDict_hsm h1) hr.g (by omega) (fun _ _ e => e) (fun h' u tk hk => ⟨.str d.shown, H, I.kept hk, ⟨_, rfl⟩, q⟩) h4
def gRepr : GC := fun ds Q => match ds with
  | [.tup es] => showOk (.tup es) = true ∧ Q (.str (shownD (.tup es)))
  | [.lst es] => showOk (.lst es) = true ∧ Q (.str (shownD (.lst es)))
  | [.int i] => i.natAbs.log2 < 1920 ∧ Q (.str (toString i))
  | _ => False
theorem showOk_at {d : D} (h : showOk d = true) : isPy d = true ∧ (toPy d).showable = true ∧ (toPy d).depth ≤ 20 ∧ (toPy d).shown.length ≤ SZ := by
  unfold showOk at h
  simp only [Bool.and_eq_true, decide_eq_true_eq] at h
  exact ⟨h.1.1.1, h.1.1.2, h.1.2, h.2⟩
theorem dc_repr {k : Nat} (hr : RmG k X.A) : DC X (.builtin "repr") gRepr := ⟨_, (cr_reprD hr).or SkE.call_repr_int, fun R _ _ _ _ _ _ _ S vs ds r Qd Q h k => by
  unfold gRepr at h
  split at h
  · obtain ⟨v, rfl, r1⟩ := pair1 r
    obtain ⟨h1, h2, h3, h4⟩ := showOk_at h.1
    have hd := r1.dp h1
    obtain ⟨a, xs, rfl, _⟩ := id r1.tup'
    exact .inl ⟨a, _, rfl, hd, noDict _, h2, h3, SZ_le h4, k _ _ _ h.2 .refl (.str _)⟩
  · obtain ⟨v, rfl, r1⟩ := pair1 r
    obtain ⟨h1, h2, h3, h4⟩ := showOk_at h.1
    have hd := r1.dp h1
    obtain ⟨a, xs, rfl, _⟩ := id r1.lst'
    exact .inl ⟨a, _, rfl, hd, noDict _, h2, h3, SZ_le h4, k _ _ _ h.2 .refl (.str _)⟩
  · obtain ⟨v, rfl, r1⟩ := pair1 r
    exact .inr ⟨_, by rw [r1.int'], h.1, k _ _ _ h.2 .refl (.str _)⟩
  · exact h.elim⟩
end
end MD
end
section
/-! More statements; isinstance; own != and texts. -/
namespace MD
open PySem PySem.Spec PyProof.Rows L2

section
variable {X : Cx} {W : Wd} {H0 : Hp} {B0 B : Addr → Prop} {pins : List (V × D)} {H H' : Hp} {σ : L2.St} {env : Ev} {e o a b : Expr} {T Ta Tb To : DT} {TL : DTL} {pos p apos : Pos} {es rest : List Expr} {x : Str} {bid : String} {g : GC}
  {CX : CXT} {k n : Nat} {f C : Addr} {fd : FuncData} {ps : List Str} {E : XK} {c : Str}
/-- x op= e -/
def dAugG (i : Nat) (T : DT) (g : G2) : DTS := fun C env => onD (get env i) fun d => T env fun b => g d b fun r => C.nx (env.set i (.dat r))
theorem ds_augG {op : Operator} {r : R2} {g : G2} {pos' : Pos} (i : Nat) (hN : X.N.Nodup) (ho : OpR X (inplaceOp op) r) (hr : ∀ R, SimR (Cx.wd X R) r g) (h : DE X e T) (hi : X.N[i]? = some x := by rfl) (hx : Loc X.env.scope x := by first | exact Or.inl rfl | exact Or.inr rfl) (hf : X.fn x = true ∨ X.env.scope.names.lookup x = some .local := by first | exact .inl rfl | exact .inr rfl | assumption) :
    DS X (.AugAssign (.Name x pos') op e pos) (dAugG i T g) := let ⟨_, p, s⟩ := h; ⟨_, ps_aug (ti := r) hN hi hx p ho hf, fun R _ _ _ _ _ _ env S C E h k => by
  have z := S.at_ i
  unfold dAugG onD at h
  cases g0 : get env i with
  | un => rw [g0] at h; exact h.elim
  | own ds => rw [g0] at h; exact h.elim
  | dat d =>
    rw [g0] at h z
    obtain ⟨v, e, r⟩ := z
    exact ⟨v, e, s R S _ _ h fun b w H' q g r' => hr R (S.grow g) (S.rp g r) r' _ _ q fun d' v' H'' q' g' r'' => k.nx _ _ _ _ q' (((S.grow g).grow g').set i r'')⟩⟩
theorem ds_augDiv {pos' : Pos} (i : Nat) (hN : X.N.Nodup) (h : DE X e T) (hi : X.N[i]? = some x := by rfl) (hx : Loc X.env.scope x := by first | exact Or.inl rfl | exact Or.inr rfl) (hf : X.fn x = true ∨ X.env.scope.names.lookup x = some .local := by first | exact .inl rfl | exact .inr rfl | assumption) :
    DS X (.AugAssign (.Name x pos') .FloorDiv e pos) (dAugG i T (gInt DivOk fun i j => .int (i / j))) := ds_augG i hN iop_fdivW (fun R => simR_int (fun _ _ h => h) fun _ _ _ _ => .int _) h hi hx hf
theorem ds_augAdd {pos' : Pos} (i : Nat) (hN : X.N.Nodup) (h : DE X e T) (hi : X.N[i]? = some x := by rfl) (hx : Loc X.env.scope x := by first | exact Or.inl rfl | exact Or.inr rfl) (hf : X.fn x = true ∨ X.env.scope.names.lookup x = some .local := by first | exact .inl rfl | exact .inr rfl | assumption) :
    DS X (.AugAssign (.Name x pos') .Add e pos) (dAugG i T (gInt0 fun i j => .int (i + j))) := ds_augG i hN iop_add (fun R => simR_int0 fun _ _ _ _ => .int _) h hi hx hf
theorem ds_augSub {pos' : Pos} (i : Nat) (hN : X.N.Nodup) (h : DE X e T) (hi : X.N[i]? = some x := by rfl) (hx : Loc X.env.scope x := by first | exact Or.inl rfl | exact Or.inr rfl) (hf : X.fn x = true ∨ X.env.scope.names.lookup x = some .local := by first | exact .inl rfl | exact .inr rfl | assumption) :
    DS X (.AugAssign (.Name x pos') .Sub e pos) (dAugG i T (gInt0 fun i j => .int (i - j))) := ds_augG i hN iop_sub (fun R => simR_int0 fun _ _ _ _ => .int _) h hi hx hf
/-- t1 = t2 = e -/
def dAsg2 (T : DT) (G G' : DG) : DTS := fun C env => T env fun d => G d env fun env' => G' d env' C.nx
theorem ds_asg2 {t1 t2 : Expr} {G G' : DG} (h : DE X e T) (h1 : DTg X t1 G) (h2 : DTg X t2 G') (ha : (assignEach [t1, t2] X.env).map (·.2) = [assign t1 X.env, assign t2 X.env] := by rfl) (hw : swappedStores [t1, t2] e X.env = pure none := by rfl) :
    DS X (.Assign [t1, t2] e pos) (dAsg2 T G G') := let ⟨_, p, s⟩ := h; let ⟨_, p1, s1⟩ := h1; let ⟨_, p2, s2⟩ := h2; ⟨_, ps_asg2 p p1 p2 ha hw, fun R _ _ _ _ _ _ _ S C E h k => s R S _ _ h fun d v H' q g r =>
      s1 R (S.grow g) r _ _ q fun σ1 env1 q1 S1 => s2 R S1 r _ _ q1 fun σ2 env2 q2 S2 => k.nx _ _ _ _ q2 S2⟩

/-! ### isinstance -/
def gIsT1 (n : String) (d : D) (Q : D → Prop) : Prop := tyN d ≠ "" ∧ Q (.bl (isTy n d))
def dIsT (n : String) (T : DT) : DT := fun env Q => T env fun d => gIsT1 n d Q
theorem kit_tab (K : PySem.W.Frag) (n : String) (hn : n = "int" ∨ n = "bool" ∨ n = "tuple" ∨ n = "str" ∨ n = "list") (t : String) (ht : t = "NoneType" ∨ t = "bool" ∨ t = "int" ∨ t = "str" ∨ t = "tuple" ∨ t = "list") :
    PySem.W.kitOne K (.type t) (.type n) = some (t == n || (t == "bool" && n == "int")) := by
  rcases hn with rfl | rfl | rfl | rfl | rfl <;> rcases ht with rfl | rfl | rfl | rfl | rfl | rfl <;> first | rfl | decide +kernel | (unfold PySem.W.kitOne; kernel_rfl)
theorem tyX_of {K : PySem.W.Frag} (hK : W.K = K) {v : V} {d : D} (r : Rp W B H v d) (hny : tyN d ≠ "") : ∃ t, TyX K H v (.type t) ∧ t = tyN d ∧ (t = "NoneType" ∨ t = "bool" ∨ t = "int" ∨ t = "str" ∨ t = "tuple" ∨ t = "list") := by
  subst hK
  cases r with
  | non => exact ⟨_, .base .non, rfl, by simp⟩
  | bl b => exact ⟨_, .base (.bl b), rfl, by simp⟩
  | int b => exact ⟨_, .base (.int b), rfl, by simp⟩
  | str b => exact ⟨_, .base (.str b), rfl, by simp⟩
  | tup h l =>
    refine ⟨"tuple", ?_, rfl, by simp⟩
    rcases h with (h | ⟨o, h⟩) | ⟨o, its, n, h, hc, _⟩
    · exact .base (.tup h)
    · exact .fTuple h
    · exact .kTuple h hc
  | lst n h l => exact ⟨"list", .base (.lst h), rfl, by simp⟩
  | ob n m h l => exact absurd rfl hny
  | fn m => exact absurd rfl hny
  | scr m => exact absurd rfl hny
  | res m => exact absurd rfl hny
theorem de_isT {y : Str} {n : String} {p2 : Pos} (hm : X.mg "isinstance" = none) (hm2 : X.mg y = none) (hv : bootBuiltins y = some (.type n)) (hn : n = "int" ∨ n = "bool" ∨ n = "tuple" ∨ n = "str" ∨ n = "list") (h : DE X e T) (hb : bootBuiltins "isinstance" = some (.builtin "isinstance")) (hg : Gl X "isinstance" := by rfl) (hg2 : Gl X y := by rfl)
    (hn2 : y ≠ "__name__" := by decide) (hd : (y == ("__debug__" : Str)) = false := by decide)
    (he : starEach [e, .Name y p2] X.env = (false, eval e X.env) :: starEach [.Name y p2] X.env := by rfl) (he2 : starEach [.Name y p2] X.env = (false, eval (.Name y p2) X.env) :: starEach [] X.env := by rfl) (hpl : (backTo pos (starEach [.Name y p2] X.env)).any (·.1) = false := by rfl) :
    DE X (.Call (.Name "isinstance" p) [e, .Name y p2] [] pos) (dIsT n T) := let ⟨_, pt, s⟩ := h; ⟨_, pe_callB call_isi hg hm hb (pa_cons pt (pa_cons (pe_bltn (v := .ty n) hg2 hm2 hv rfl hn2 hd) pa_nil he2) he) (by decide) (by decide) he hpl, fun R _ _ _ _ _ _ _ S Qd Q h k => s R S _ _ h fun d v H1 q g r => by
      obtain ⟨t, ty, e, ht⟩ := tyX_of rfl r q.1
      refine ⟨v, .ty n, .type t, .type n, _, rfl, .ty n, ty, kit_tab _ n hn t ht, ?_⟩
      rw [e]
      exact k _ _ _ q.2 g (.bl _)⟩
/-- isinstance(e, C) of an instance of C -/
def dIsC (c : Str) (T : DT) : DT := fun env Q => T env fun d => ∃ gs, d = .ob c gs ∧ Q (.bl true)
theorem de_isC {p2 : Pos} (hm : X.mg "isinstance" = none) (hm2 : X.mg c = some (.ref C)) (ic : C8.InsC X.K C) (h : DE X e T) (hb : bootBuiltins "isinstance" = some (.builtin "isinstance")) (hg : Gl X "isinstance" := by rfl) (hg2 : Gl X c := by rfl)
    (hd : (c == ("__debug__" : Str)) = false := by decide)
    (he : starEach [e, .Name c p2] X.env = (false, eval e X.env) :: starEach [.Name c p2] X.env := by rfl) (he2 : starEach [.Name c p2] X.env = (false, eval (.Name c p2) X.env) :: starEach [] X.env := by rfl) (hpl : (backTo pos (starEach [.Name c p2] X.env)).any (·.1) = false := by rfl) :
    DE X (.Call (.Name "isinstance" p) [e, .Name c p2] [] pos) (dIsC c T) := let ⟨_, pt, s⟩ := h; ⟨_, pe_callB (C8.call_isC ic) hg hm hb (pa_cons pt (pa_cons (pe_glob (v := .ref C) hg2 hm2 rfl hd) pa_nil he2) he) (by decide) (by decide) he hpl, fun R _ _ _ _ _ _ _ S Qd Q h k => s R S _ _ h fun d v H1 q g r => by
      obtain ⟨gs, rfl, q⟩ := q
      obtain ⟨a1, C1, dx, fs, rfl, _, hc1, h1, _⟩ := id r.ob'
      cases hc1.symm.trans hm2
      exact ⟨a1, dx, fs, rfl, h1, k _ _ _ q g (.bl true)⟩⟩

/-! ### own !=, str(x), repr(x) -/
theorem op_ownNe {sp : Sp} (hmo : PySem.W.mroIn X.K C (.type "object") = some true) (hne : PySem.W.findIn X.K (.ref C) "__ne__" = some (some (.builtin "object.__ne__")))
    (hs : PySem.W.findIn X.K (.ref C) "__eq__" = some (some (.ref f))) (hf : PySem.W.isFn X.K (.ref f) = true) (F : FnG X.prog X.w X.K X.mg X.base CX k f fd ps sp) (hb : Binds X.K fd ps []) (hr : RmG (k + 1) X.A) (hx : Passes CX X E) :
    OpR X (compareOp .NotEq) (rOwnC C true sp E) := by
  intro pins s σ H x y v u Q I rx ry h
  obtain ⟨a, dx, fs, b, dy, gs, rfl, rfl, ha, hb', q⟩ := h
  cases (show v = Value.ref a from rx)
  cases (show u = Value.ref b from ry)
  obtain ⟨mA, J, _⟩ := ins_get I.hok ha
  obtain ⟨mB, J', _⟩ := ins_get I.hok hb'
  obtain ⟨od, J, _⟩ := J.look
  obtain ⟨od', J', _⟩ := J'.look
  have hu := hr.r.units
  show wpAny (model X.prog X.w) X.A (richCompare .NotEq (.ref a) (.ref b)) _ _ _
  refine rc_ne (by omega) I.kIn J J' hmo hne hs hf (wpAny_mono (run_fnG (A := X.A.in1) (us := [.ref a, .ref b]) (vs := [.ref a, .ref b]) (dvs := []) F hr.in1 rfl hb .nil hx I (.cons rfl (.cons rfl .nil)) q) (fun w s' z => ?_) fun _ _ x => x)
  obtain ⟨z', H', I', rz, zb, rfl, qz⟩ := z
  cases rz
  exact ⟨zb, rfl, .bl (!zb), H', I', rfl, qz⟩
theorem do_ownNe {s : FS} (hm : X.mg c = some (.ref C)) (hmo : PySem.W.mroIn X.K C (.type "object") = some true) (hne : PySem.W.findIn X.K (.ref C) "__ne__" = some (some (.builtin "object.__ne__")))
    (hs : PySem.W.findIn X.K (.ref C) "__eq__" = some (some (.ref f))) (hf : PySem.W.isFn X.K (.ref f) = true) (F : FnG X.prog X.w X.K X.mg X.base CX k f fd ps (spD X.K X.mg s)) (hb : Binds X.K fd ps []) (hr : RmG (k + 1) X.A) (hx : Passes CX X E) :
    DO X (compareOp .NotEq) (gOwn true c s) := ⟨_, op_ownNe hmo hne hs hf F hb hr hx, fun R _ _ _ _ _ _ _ S x y d e r1 r2 Qd Q h k => by
      obtain ⟨gs, hs, rfl, rfl, a, ea, p1, q1⟩ := h
      obtain ⟨a1, C1, dx, fs, rfl, _, hc1, h1, _⟩ := id r1.ob'
      obtain ⟨a2, C2, dy, us, rfl, _, hc2, h2, _⟩ := id r2.ob'
      cases hc1.symm.trans hm
      cases hc2.symm.trans hm
      refine ⟨a1, dx, fs, a2, dy, us, rfl, rfl, h1, h2, R, _, _, argsOk S (.cons r1 (.cons r2 .nil)), a, ea, p1, fun d hp v H' g' r' => ?_⟩
      obtain ⟨b, rfl, z⟩ := onB_at (q1 d hp)
      exact ⟨b, r'.bl', k _ _ _ z g' (.bl _)⟩⟩
def gOwnTxt (c : Str) (s : FS) : GC := fun ds Q => ∃ gs, ds = [.ob c gs] ∧ s.g ds fun d => onS d fun z => Q (.str z)
def rOwnT (C : Addr) (sp : Sp) (E : XK) : List V → Hp → VK → Prop := fun xs H Q => ∃ a dx fs, xs = [V.ref a] ∧ H a = some (.ins C dx fs) ∧ sp xs H (fun v H' => ∃ z, v = .str z ∧ Q (.str z) H') E
theorem cr_strOwn {sp : Sp} (hs : PySem.W.findIn X.K (.ref C) "__str__" = some (some (.ref f))) (hf : PySem.W.isFn X.K (.ref f) = true) (F : FnG X.prog X.w X.K X.mg X.base CX k f fd ps sp) (hb : Binds X.K fd ps []) (hr : RmG (k + 2) X.A) (hx : Passes CX X E) : CallR X (.type "str") (rOwnT C sp E) := by
  intro pins s σ H xs us Q I r h
  obtain ⟨a, dx, fs, rfl, ha, q⟩ := h
  obtain ⟨u, rfl, ru⟩ := vals1 r
  cases (show u = Value.ref a from ru)
  obtain ⟨mA, J, _⟩ := ins_get I.hok ha
  obtain ⟨od, J, _⟩ := J.look
  have hu := hr.r.units
  have hr2 : RmG k X.A.in1.in1 := (show RmG (k + 1) X.A.in1 from hr.in1).in1
  refine str_own (by omega) I.kIn J hs hf (wpAny_mono (run_fnG (A := X.A.in1.in1) (us := [.ref a]) (vs := [.ref a]) (dvs := []) F hr2 rfl hb .nil hx I (.cons rfl .nil) q) (fun w s' z => ?_) fun _ _ x => x)
  obtain ⟨z', H', I', rz, zb, rfl, qz⟩ := z
  obtain ⟨t, rfl⟩ := (show ∃ t, w = Value.str zb t from rz)
  exact ⟨zb, t, rfl, .str zb, H', I', ⟨t, rfl⟩, qz⟩
theorem cr_reprOwn {sp : Sp} (hs : PySem.W.findIn X.K (.ref C) "__repr__" = some (some (.ref f))) (hf : PySem.W.isFn X.K (.ref f) = true) (F : FnG X.prog X.w X.K X.mg X.base CX k f fd ps sp) (hb : Binds X.K fd ps []) (hr : RmG (k + 1) X.A) (hx : Passes CX X E) : CallR X (.builtin "repr") (rOwnT C sp E) := by
  intro pins s σ H xs us Q I r h
  obtain ⟨a, dx, fs, rfl, ha, q⟩ := h
  obtain ⟨u, rfl, ru⟩ := vals1 r
  cases (show u = Value.ref a from ru)
  obtain ⟨mA, J, _⟩ := ins_get I.hok ha
  obtain ⟨od, J, _⟩ := J.look
  obtain ⟨m, hF⟩ := I.fr
  have hu := hr.in1.r.units
  refine PySem.W.repr_K (by omega) hF I.ok.mod.kin J hs hf (wpAny_mono (run_fnG (A := X.A.in1) (us := [.ref a]) (vs := [.ref a]) (dvs := []) F hr.in1 rfl hb .nil hx I (.cons rfl .nil) q) (fun w s' z => ?_) fun _ _ x => x)
  obtain ⟨z', H', I', rz, zb, rfl, qz⟩ := z
  obtain ⟨t, rfl⟩ := (show ∃ t, w = Value.str zb t from rz)
  exact ⟨.str zb, H', I', ⟨t, rfl⟩, qz⟩
theorem RpV.ob0 {v : V} {gs : List (Str × D)} (h : RpV W B0 B H v (.ob c gs)) : Rp W B H v (.ob c gs) := by
  rcases h with h | ⟨p, vs, ds, rfl, e, _⟩
  · exact h
  · cases e
theorem sim_ownT {s : FS} {R : Rg} (hm : X.mg c = some (.ref C)) : SimC (Cx.wd X R) (rOwnT C (spD X.K X.mg s) E) (gOwnTxt c s) := fun S vs ds r Qd Q h k => by
  obtain ⟨gs, rfl, a, ea, p1, q1⟩ := h
  obtain ⟨v, rfl, r1⟩ := pair1 r
  have r1 := r1.ob0
  obtain ⟨a1, C1, dx, fs, rfl, _, hc1, h1, _⟩ := id r1.ob'
  cases hc1.symm.trans hm
  refine ⟨a1, dx, fs, rfl, h1, R, _, _, argsOk S (.cons r1 .nil), a, ea, p1, fun d hp v H' g' r' => ?_⟩
  obtain ⟨z, rfl, q⟩ := onS_at (q1 d hp)
  exact ⟨z, r'.str', k _ _ _ q g' (.str z)⟩
theorem dc_strOwn {s : FS} (hm : X.mg c = some (.ref C)) (hs : PySem.W.findIn X.K (.ref C) "__str__" = some (some (.ref f))) (hf : PySem.W.isFn X.K (.ref f) = true) (F : FnG X.prog X.w X.K X.mg X.base CX k f fd ps (spD X.K X.mg s)) (hb : Binds X.K fd ps []) (hr : RmG (k + 2) X.A) (hx : Passes CX X E) : DC X (.type "str") (gOwnTxt c s) :=
  ⟨_, cr_strOwn hs hf F hb hr hx, fun R => sim_ownT hm⟩
theorem dc_reprOwn {s : FS} (hm : X.mg c = some (.ref C)) (hs : PySem.W.findIn X.K (.ref C) "__repr__" = some (some (.ref f))) (hf : PySem.W.isFn X.K (.ref f) = true) (F : FnG X.prog X.w X.K X.mg X.base CX k f fd ps (spD X.K X.mg s)) (hb : Binds X.K fd ps []) (hr : RmG (k + 1) X.A) (hx : Passes CX X E) : DC X (.builtin "repr") (gOwnTxt c s) :=
  ⟨_, cr_reprOwn hs hf F hb hr hx, fun R => sim_ownT hm⟩
end
end MD
end
section
/-! Names for operators; what running a reading comes to. -/
namespace MD
open PySem PySem.Spec PyProof.Rows L2

abbrev gSub : G2 := gInt0 fun i j => .int (i - j)
abbrev gMul : G2 := gInt MulOk fun i j => .int (i * j)
abbrev gFdiv : G2 := gInt DivOk fun i j => .int (i / j)
abbrev gMod : G2 := gInt (fun _ j => 0 < j) fun i j => .int (i % j)
abbrev gPow : G2 := gInt PowOk fun i j => .int (i ^ j.toNat)
abbrev gLt : G2 := gInt0 fun i j => .bl (decide (i < j))
abbrev gLe : G2 := gInt0 fun i j => .bl (decide (i ≤ j))
abbrev gGt : G2 := gInt0 fun i j => .bl (decide (j < i))
abbrev gGe : G2 := gInt0 fun i j => .bl (decide (j ≤ i))
abbrev gMax2 : GC := gInt2 (fun _ _ => True) fun i j => .int (max i j)
abbrev gMin2 : GC := gInt2 (fun _ _ => True) fun i j => .int (min i j)
abbrev gDivmod : GC := gInt2 (fun _ j => 0 < j ∧ j < 1073741824) fun i j => .tup [.int (i / j), .int (i % j)]
def row (ns : List Int) : D := .tup (ns.map .int)
theorem ex_seq {U V : DTS} {C : DK} {env : Ev} : dSeq U V C env = U ⟨V C, C.rt, C.bk, C.ct⟩ env := rfl
theorem ex_next {C : DK} {env : Ev} : dNext C env = C.nx env := rfl
theorem ex_if {c : DTT} {U V : DTS} {C : DK} {env : Ev} : dIfS c U V C env = c env fun b => if b = true then U C env else V C env := rfl
theorem ex_ret {T : DT} {C : DK} {env : Ev} : dRet T C env = T env C.rt := rfl
theorem ex_set {i : Nat} {T : DT} {C : DK} {env : Ev} : dSet i T C env = T env fun d => C.nx (env.set i (.dat d)) := rfl
theorem ex_setO {i : Nat} {T : DT} {C : DK} {env : Ev} : dSetO i T C env = T env fun d => match d with | .lst ds => C.nx (env.set i (.own ds)) | _ => False := rfl
theorem ex_app {i : Nat} {T : DT} {C : DK} {env : Ev} : dApp i T C env = onO (get env i) fun ds => T env fun d => ds.length < SZ ∧ C.nx (env.set i (.own (ds ++ [d]))) := rfl
theorem ex_aug {i : Nat} {T : DT} {g : G2} {C : DK} {env : Ev} : dAugG i T g C env = onD (get env i) fun d => T env fun b => g d b fun r => C.nx (env.set i (.dat r)) := rfl
theorem ex_var {i : Nat} {env : Ev} {Q : D → Prop} : dVar i env Q = onD (get env i) Q := rfl
theorem ex_vw {i : Nat} {env : Ev} {Q : D → Prop} : dVw i env Q = onV (get env i) Q := rfl
theorem ex_c {d : D} {env : Ev} {Q : D → Prop} : dC d env Q = Q d := rfl
theorem ex_d2 {g : G2} {Ta Tb : DT} {env : Ev} {Q : D → Prop} : d2 g Ta Tb env Q = Ta env fun a => Tb env fun b => g a b Q := rfl
theorem ex_b {T : DT} {env : Ev} {Q : Bool → Prop} : dB T env Q = T env fun d => onB d Q := rfl
theorem ex_onD {d : D} {Q : D → Prop} : onD (.dat d) Q = Q d := rfl
theorem ex_onVd {d : D} {Q : D → Prop} : onV (.dat d) Q = Q d := rfl
theorem ex_onVo {ds : List D} {Q : D → Prop} : onV (.own ds) Q = Q (.lst ds) := rfl
theorem ex_onO {ds : List D} {Q : List D → Prop} : onO (.own ds) Q = Q ds := rfl
theorem ex_onB {b : Bool} {Q : Bool → Prop} : onB (.bl b) Q = Q b := rfl
theorem ex_onS {b : Str} {Q : Str → Prop} : onS (.str b) Q = Q b := rfl
theorem ex_int {C : Int → Int → Prop} {f : Int → Int → D} {i j : Int} {Q : D → Prop} : gInt C f (.int i) (.int j) Q = (C i j ∧ Q (f i j)) := rfl
theorem ex_addI {i j : Int} {Q : D → Prop} : gAdd (.int i) (.int j) Q = Q (.int (i + j)) := rfl
theorem ex_addS {i j : Str} {Q : D → Prop} : gAdd (.str i) (.str j) Q = (i.length + j.length ≤ SZ ∧ Q (.str (i ++ j))) := rfl
theorem ex_addT {i j : List D} {Q : D → Prop} : gAdd (.tup i) (.tup j) Q = (i.length + j.length ≤ SZ ∧ Q (.tup (i ++ j))) := rfl
theorem ex_nil {env : Ev} {Q : List D → Prop} : dNil env Q = Q [] := rfl
theorem ex_cons {T : DT} {TL : DTL} {env : Ev} {Q : List D → Prop} : dCons T TL env Q = T env fun d => TL env fun ds => Q (d :: ds) := rfl
theorem ex_tup {TL : DTL} {env : Ev} {Q : D → Prop} : dTup TL env Q = TL env fun ds => ds.length ≤ SZ ∧ Q (.tup ds) := rfl
theorem ex_lst {TL : DTL} {env : Ev} {Q : D → Prop} : dLst TL env Q = TL env fun ds => ds.length ≤ SZ ∧ Q (.lst ds) := rfl
theorem ex_cb {g : GC} {TL : DTL} {env : Ev} {Q : D → Prop} : dCB g TL env Q = TL env fun ds => g ds Q := rfl
theorem ex_tupleL {es : List D} {Q : D → Prop} : gTuple [.lst es] Q = Q (.tup es) := rfl
theorem ex_tupleT {es : List D} {Q : D → Prop} : gTuple [.tup es] Q = Q (.tup es) := rfl
theorem SZ_pos : 0 ≤ SZ := Nat.zero_le _
theorem get_0 {s : Sl} {r : Ev} : get (s :: r) 0 = s := rfl
theorem get_s {s : Sl} {r : Ev} {n : Nat} : get (s :: r) (n + 1) = get r n := rfl
theorem ex_while {c : DTT} {U : DTS} {C : DK} {env : Ev} : dWhile c U C env = ∃ n, whileD c U C n env := rfl
theorem ex_for {TL : DTL} {G : DG} {U : DTS} {C : DK} {env : Ev} : dFor TL G U C env = TL env fun items => loopD G U C items env := rfl
theorem ex_nm {i : Nat} {d : D} {env : Ev} {Q : Ev → Prop} : gNm i d env Q = Q (env.set i (.dat d)) := rfl
theorem ex_gnil {env : Ev} {Q : Ev → Prop} : gNil' [] env Q = Q env := by unfold gNil'; simp
theorem ex_gcons {G : DG} {GL : DGL} {d : D} {r : List D} {env : Ev} {Q : Ev → Prop} : gCons' G GL (d :: r) env Q = G d env fun env' => GL r env' Q := rfl
theorem ex_gtup {n : Nat} {GL : DGL} {ds : List D} {env : Ev} {Q : Ev → Prop} : gTupD n GL (.tup ds) env Q = (ds.length = n ∧ GL ds env Q) := rfl
theorem ex_gtupL {n : Nat} {GL : DGL} {ds : List D} {env : Ev} {Q : Ev → Prop} : gTupD n GL (.lst ds) env Q = (ds.length = n ∧ GL ds env Q) := rfl
theorem ex_asg {T : DT} {G : DG} {C : DK} {env : Ev} : dAsg T G C env = T env fun d => G d env C.nx := rfl
theorem ex_par {i j : Nat} {Ta Tb : DT} {C : DK} {env : Ev} : dPar i j Ta Tb C env = Ta env fun a => Tb env fun b => C.nx ((env.set i (.dat a)).set j (.dat b)) := rfl
theorem ex_iseq {T : DT} {env : Ev} {Q : List D → Prop} : iSeq T env Q = T env fun d => onSeq d Q := rfl
theorem ex_onSeqT {ds : List D} {Q : List D → Prop} : onSeq (.tup ds) Q = Q ds := rfl
theorem ex_onSeqL {ds : List D} {Q : List D → Prop} : onSeq (.lst ds) Q = Q ds := rfl
theorem ex_onSeqS {z : Str} {Q : List D → Prop} : onSeq (.str z) Q = Q (signs z) := rfl
theorem ex_ienum {T : DTL} {env : Ev} {Q : List D → Prop} : iEnumD T env Q = T env fun ds => match ds with | [d] => onLT d fun ds => Q (enumD 0 ds) | _ => False := rfl
theorem ex_irev {T : DT} {env : Ev} {Q : List D → Prop} : iRevD T env Q = T env fun d => match d with | .tup ds => Q ds.reverse | .lst ds => Q ds.reverse | _ => False := rfl
theorem ex_onLTt {ds : List D} {Q : List D → Prop} : onLT (.tup ds) Q = Q ds := rfl
theorem ex_onLTl {ds : List D} {Q : List D → Prop} : onLT (.lst ds) Q = Q ds := rfl
theorem ex_rng1 {TL : DTL} {env : Ev} {Q : List D → Prop} : iRange1 TL env Q = TL env fun ds => match ds with | [.int n] => (-(2 ^ 62) ≤ n ∧ n < 2 ^ 62) ∧ Q (rangeD 0 n.toNat) | _ => False := rfl
theorem ex_ifE {Tt : DTT} {Ta Tb : DT} {env : Ev} {Q : D → Prop} : dIf Tt Ta Tb env Q = Tt env fun c => if c = true then Ta env Q else Tb env Q := rfl
theorem ex_and {Tt Tu : DTT} {env : Ev} {Q : Bool → Prop} : dAnd Tt Tu env Q = Tt env fun c => if c = true then Tu env Q else Q false := rfl
theorem ex_or {Tt Tu : DTT} {env : Ev} {Q : Bool → Prop} : dOr Tt Tu env Q = Tt env fun c => if c = true then Q true else Tu env Q := rfl
theorem ex_not {Tt : DTT} {env : Ev} {Q : Bool → Prop} : dNot Tt env Q = Tt env fun c => Q (!c) := rfl
theorem ex_andV {Ta Tb : DT} {env : Ev} {Q : D → Prop} : dAndV Ta Tb env Q = Ta env fun d => onB d fun c => if c = true then Tb env Q else Q (.bl false) := rfl
theorem ex_orV {Ta Tb : DT} {env : Ev} {Q : D → Prop} : dOrV Ta Tb env Q = Ta env fun d => onB d fun c => if c = true then Q (.bl true) else Tb env Q := rfl
theorem ex_notV {Ta : DT} {env : Ev} {Q : D → Prop} : dNotV Ta env Q = Ta env fun d => onB d fun c => Q (.bl (!c)) := rfl
theorem ex_ixL {Ta Tb : DT} {env : Ev} {Q : D → Prop} : dIx Ta Tb env Q = Ta env fun a => Tb env fun b => match a, b with
  | .lst xs, .int i => ∃ d, atI xs i = some d ∧ Q d
  | .tup xs, .int i => ∃ d, atI xs i = some d ∧ Q d
  | .str z, .int i => z.length ≤ SZ ∧ ∃ c, atI z.cps.toList i = some c ∧ Q (.str ⟨#[c]⟩)
  | _, _ => False := rfl
theorem ex_call {s : FS} {dds : List D} {TL : DTL} {env : Ev} {Q : D → Prop} : dCall s dds TL env Q = TL env fun ds => s.g (ds ++ dds) Q := rfl
theorem ex_callN {s : FS} {gD : List D → List D → List D} {n m : Nat} {TL TK : DTL} {env : Ev} {Q : D → Prop} : dCallN s gD n m TL TK env Q = TL env fun ds => TK env fun es => (ds.length = n ∧ es.length = m) ∧ s.g (gD ds es) Q := rfl
theorem ex_rev {T : DT} {env : Ev} {Q : D → Prop} : dRev T env Q = T env fun d => match d with
  | .tup xs => Q (.tup xs.reverse)
  | .str z => z.length ≤ SZ ∧ Q (.str (revS z))
  | _ => False := rfl
theorem ex_revL {T : DT} {env : Ev} {Q : D → Prop} : dRevL T env Q = T env fun d => match d with | .lst xs => Q (.lst xs.reverse) | _ => False := rfl
theorem ex_cat {Ta Tb : DT} {env : Ev} {Q : D → Prop} : dCat Ta Tb env Q = Ta env fun a => Tb env fun b => match a, b with | .lst xs, .lst ys => xs.length + ys.length ≤ SZ ∧ Q (.lst (xs ++ ys)) | _, _ => False := rfl
theorem ex_rep {Ta Tb : DT} {env : Ev} {Q : D → Prop} : dRep Ta Tb env Q = Ta env fun a => Tb env fun b => match a, b with | .lst xs, .int k => (-(2 ^ 63) ≤ k ∧ k < 2 ^ 63 ∧ xs.length * k.toNat ≤ SZ) ∧ Q (.lst (List.replicate k.toNat xs).flatten) | _, _ => False := rfl
theorem ex_sl {T : DT} {Tl Th : DTO} {env : Ev} {Q : D → Prop} : dSl T Tl Th env Q = T env fun d => Tl env fun lo => Th env fun hi => match d with
  | .tup xs => Q (.tup (cutD xs lo hi))
  | .str z => z.length ≤ SZ ∧ Q (.str (cutS z lo hi))
  | _ => False := rfl
theorem ex_slL {T : DT} {Tl Th : DTO} {env : Ev} {Q : D → Prop} : dSlL T Tl Th env Q = T env fun d => Tl env fun lo => Th env fun hi => match d with
  | .lst xs => Q (.lst (cutD xs lo hi))
  | _ => False := rfl
theorem ex_nopt {env : Ev} {Q : Option Int → Prop} : dNoPt env Q = Q none := rfl
theorem ex_pt {T : DT} {env : Ev} {Q : Option Int → Prop} : dPt T env Q = T env fun d => match d with | .int i => Q (some i) | _ => False := rfl
theorem ex_eq {a b : D} {Q : D → Prop} : gEq a b Q = (pyOk a = true ∧ pyOk b = true ∧ Q (.bl (deqv a b))) := rfl
theorem ex_ne {a b : D} {Q : D → Prop} : gNe a b Q = (pyOk a = true ∧ pyOk b = true ∧ Q (.bl (!deqv a b))) := rfl
theorem ex_yes {env : Ev} {Q : Bool → Prop} : dYes env Q = Q true := rfl
theorem ex_lc {TL : DTL} {G : DG} {Tt : DTT} {Te : DT} {vs : List Nat} {env : Ev} {Q : D → Prop} : dLc TL G Tt Te vs env Q = TL env fun items => compD G Tt Te (wipeE env vs) (fun ds => Q (.lst ds)) items [] := rfl
theorem ex_lenT {es : List D} {Q : D → Prop} : gLen [.tup es] Q = Q (.int es.length) := rfl
theorem ex_lenL {es : List D} {Q : D → Prop} : gLen [.lst es] Q = Q (.int es.length) := rfl
theorem ex_lenS {z : Str} {Q : D → Prop} : gLen [.str z] Q = (z.length ≤ SZ ∧ Q (.int z.length)) := rfl
theorem ex_int2 {C : Int → Int → Prop} {f : Int → Int → D} {i j : Int} {Q : D → Prop} : gInt2 C f [.int i, .int j] Q = (C i j ∧ Q (f i j)) := rfl
theorem ex_augIx {i : Nat} {Ti T : DT} {f : Int → Int → Int} {C : DK} {env : Ev} : dAugIx i Ti T f C env = onO (get env i) fun ds => Ti env fun k => match k with
  | .int k => 0 ≤ k ∧ ∃ m, ds[k.toNat]? = some (.int m) ∧ T env fun n => match n with | .int n => C.nx (env.set i (.own (ds.set k.toNat (.int (f m n))))) | _ => False
  | _ => False := rfl
theorem ex_isT {n : String} {T : DT} {env : Ev} {Q : D → Prop} : dIsT n T env Q = T env fun d => tyN d ≠ "" ∧ Q (.bl (isTy n d)) := rfl
theorem ex_chain {g g' : G2} {Ta Tb Tc : DT} {env : Ev} {Q : D → Prop} : dChain g g' Ta Tb Tc env Q = Ta env fun a => Tb env fun b => g a b fun z => onB z fun k => if k = true then Tc env fun c => g' b c Q else Q (.bl false) := rfl
theorem ex_asg2 {T : DT} {G G' : DG} {C : DK} {env : Ev} : dAsg2 T G G' C env = T env fun d => G d env fun env' => G' d env' C.nx := rfl
/-- a while by an invariant with a measure -/
theorem while_inv {c : DTT} {U : DTS} {C : DK} {α : Type} (I : α → Ev → Prop) (m : α → Nat)
    (step : ∀ a env (K : Ev → Prop), I a env → (∀ a' env', I a' env' → m a' < m a → K env') → c env fun b => if b = true then U ⟨K, C.rt, C.nx, K⟩ env else C.nx env) : ∀ (n : Nat) (a : α) (env : Ev), I a env → m a < n → whileD c U C n env
  | 0, _, _, _, h => absurd h (Nat.not_lt_zero _)
  | n + 1, a, env, i, h => step a env (whileD c U C n) i fun a' env' i' l => while_inv I m step n a' env' i' (by omega)
theorem while_of {c : DTT} {U : DTS} {C : DK} {env : Ev} {α : Type} (I : α → Ev → Prop) (m : α → Nat) (a : α) (h : I a env)
    (step : ∀ a env (K : Ev → Prop), I a env → (∀ a' env', I a' env' → m a' < m a → K env') → c env fun b => if b = true then U ⟨K, C.rt, C.nx, K⟩ env else C.nx env) : dWhile c U C env := ⟨m a + 1, while_inv I m step _ a env h (Nat.lt_succ_self _)⟩
/-- a for by an invariant on what is left -/
theorem for_of {G : DG} {U : DTS} {C : DK} {α : Type} (f : α → D) (I : List α → Ev → Prop) (step : ∀ a r env (K : Ev → Prop), I (a :: r) env → (∀ env', I r env' → K env') → G (f a) env fun env' => U ⟨K, C.rt, C.nx, K⟩ env') (fin : ∀ env, I [] env → C.nx env) :
    ∀ (l : List α) (env : Ev), I l env → loopD G U C (l.map f) env
  | [], env, i => fin env i
  | a :: r, env, i => step a r env (loopD G U C (r.map f)) i fun env' i' => for_of f I step fin r env' i'
/-- a comprehension that maps -/
theorem comp_map {G : DG} {Te : DT} {env : Ev} {Q : List D → Prop} {α : Type} (f h : α → D) : ∀ (l : List α) (acc : List D), acc.length + l.length ≤ SZ →
    (∀ a ∈ l, ∀ (R : D → Prop), R (h a) → G (f a) env fun env' => Te env' R) → Q (acc ++ l.map h) → compD G dYes Te env Q (l.map f) acc
  | [], acc, _, _, q => by simpa [compD] using q
  | a :: r, acc, hl, hs, q => by
    rw [List.length_cons] at hl
    refine hs a (List.mem_cons_self ..) (fun x => acc.length < SZ ∧ compD G dYes Te env Q (r.map f) (acc ++ [x])) ⟨by omega, comp_map f h r (acc ++ [h a]) (by rw [List.length_append, List.length_cons, List.length_nil]; omega) (fun b hb => hs b (List.mem_cons_of_mem _ hb)) ?_⟩
    rw [List.append_assoc]
    exact q
end MD
end
section
/-! The law's deck; the law's def. -/
namespace MD
open PySem PySem.Spec PyProof.Rows L2

/-! ### a draw -/
def spDraw : Sp := fun vs H Q _ => ∃ (a c : Addr) (n : Int), vs = [.ref a, .int n] ∧ 1 ≤ n ∧ n < 2 ^ 60 ∧ DeckOk a c H ∧
  ∀ (r : Int) (H' : Hp), 0 ≤ r → r < n → (∀ p o, p ≠ a → p ≠ c → H p = some o → H' p = some o) → DeckOk a c H' → Q (.int r) H'
theorem log60 {m n : Int} (h0 : 1 ≤ n) (h : n < 2 ^ 60) : DivOk m n := ⟨by omega, by
  have : n.natAbs.log2 < 60 := (Nat.log2_lt (by omega)).mpr (by omega)
  omega⟩
theorem draw_end {a c : Addr} {n : Int} {H H' : Hp} {Q : VK} {r : Int} (h1 : 1 ≤ n) (d : DeckOk a c H') (kp : ∀ p o, p ≠ a → p ≠ c → H p = some o → H' p = some o)
    (hQ : ∀ (r : Int) (H' : Hp), 0 ≤ r → r < n → (∀ p o, p ≠ a → p ≠ c → H p = some o → H' p = some o) → DeckOk a c H' → Q (.int r) H') : Q (.int (r % n)) H' :=
  hQ _ _ (Int.emod_nonneg _ (by omega)) (Int.emod_lt_of_pos _ (by omega)) kp d
theorem dp_ints {K : PySem.W.Frag} {H : Hp} : ∀ ns : List Int, DpAll K H (ns.map V.int) (toPyL (ns.map D.int))
  | [] => .nil
  | n :: ns => .cons (.int n) (dp_ints ns)
theorem last_ints (n0 : Int) (ns0 : List Int) : ∃ (m : Int) (ms : List Int), ((n0 :: ns0).map V.int)[((n0 :: ns0).map V.int).length - 1]? = some (.int m) ∧ ((n0 :: ns0).map V.int).dropLast = ms.map V.int ∧ ms.length = ns0.length := by
  refine ⟨(n0 :: ns0).getLast (by simp), (n0 :: ns0).dropLast, ?_, ?_, by simp⟩
  · rw [List.getElem?_map, List.length_map, ← List.getLast?_eq_getElem?, List.getLast?_eq_getLast (by simp)]
    rfl
  · rw [List.dropLast_eq_take, List.dropLast_eq_take, List.map_take, List.length_map]
section
variable {X : Cx} {CX : CXT} {k : Nat} {f : Addr} {fd : FuncData} {ps : List Str} {vds : List Value} {E : XK} {x : Str} {p pos : Pos} {e : Expr} {es : List Expr} {TL : DTL}
def dDraw (TL : DTL) : DT := fun env Q => TL env fun ds => match ds with
  | [.res _, .int n] => (1 ≤ n ∧ n < 2 ^ 60) ∧ ∀ r, 0 ≤ r → r < n → Q (.int r)
  | _ => False
theorem de_draw (F : FnG X.prog X.w X.K X.mg X.base CX k f fd ps spDraw) (hr : RmG k X.A) (hm : X.mg x = some (.ref f)) (hk : PySem.W.keepIn X.K (.ref f) = true) (hb : Binds X.K fd ps []) (hx : Passes CX X E) (ha : DA X (e :: es) TL)
    (hg : Gl X x := by rfl) (hdb : (x == ("__debug__" : Str)) = false := by decide) (he : starEach (e :: es) X.env = (false, eval e X.env) :: starEach es X.env := by rfl) (hpl : (backTo pos (starEach es X.env)).any (·.1) = false := by rfl) :
    DE X (.Call (.Name x p) (e :: es) [] pos) (dDraw TL) := let ⟨_, pt, st⟩ := ha; ⟨_, pe_callG (dvs := []) (E := E) F hr hg hm hk hb .nil hx pt hdb he hpl, fun R _ _ _ _ _ _ _ S Qd Q h k => st R S _ _ h fun ds vs H1 q g r => by
      split at q
      · rename_i j n
        cases r with
        | cons r1 r2 =>
          cases r2 with
          | cons r2 r3 =>
            cases r3
            cases r2
            cases r1 with
            | res ha =>
              rename_i a
              obtain ⟨c, e1, e2⟩ := R.rsk _ _ ha
              have S1 := S.grow g
              have hd : DeckOk a c H1 := by
                have := S1.ok
                have z : R.ok H1 := this
                rw [e2] at z
                exact z
              refine ⟨a, c, n, rfl, q.1.1, q.1.2, hd, fun r H' h0 hlt kp hd' => ?_⟩
              have rgi : ∀ p, R.rg p → p = a ∨ p = c := fun p h => by rw [e1] at h; exact h
              have rgn : ∀ p, ¬ R.rg p → p ≠ a ∧ p ≠ c := fun p h => by
                rw [e1] at h
                exact ⟨fun z => h (.inl z), fun z => h (.inr z)⟩
              have g2 : Gr (Cx.wd X R) H1 H' := by
                refine ⟨fun p o n e => kp p o (rgn p n).1 (rgn p n).2 e, fun p o n e => ?_, fun _ => ?_⟩
                · obtain ⟨_, ns, x, y, _, h1, h2⟩ := hd'
                  rcases rgi p n with rfl | rfl
                  · exact ⟨_, h1, fun _ => soft_lst⟩
                  · exact ⟨_, h2, fun _ => soft_lst⟩
                · show R.ok H'
                  rw [e2]
                  exact hd'
              exact k _ _ H' (q.2 r h0 hlt) (g.trans g2) (.int r)
      · exact q.elim⟩
/-- the script's part -/
def dSlS (T : DT) (Tl Th : DTO) : DT := fun env Q => T env fun d => Tl env fun lo => Th env fun hi => match d with
  | .scr ns => Q (.lst ((cutD ns lo hi).map .int))
  | _ => False
theorem cut_map {α β : Type} (f : α → β) (xs : List α) (lo hi : Option Int) : cutD (xs.map f) lo hi = (cutD xs lo hi).map f := by
  unfold cutD
  rw [List.length_map, List.map_take, List.map_drop]
theorem df_slS {T : DT} {Tl Th : DTO} {lo hi : Option Expr} {p2 : Pos} (h : DE X e T) (hl : DPt X lo Tl) (hh : DPt X hi Th) : DF X (.Subscript e (.Slice lo hi none p2) pos) (dSlS T Tl Th) := let ⟨_, p, s⟩ := h; let ⟨_, p', s'⟩ := hl; let ⟨_, p'', s''⟩ := hh;
  ⟨_, pe_slice sl_list p p' p'', fun R _ _ _ _ _ _ _ S Qd Q h k => s R S _ _ h fun d v H1 q1 g1 r1 => s' R (S.grow g1) _ _ q1 fun o H2 q2 g2 => s'' R ((S.grow g1).grow g2) _ _ q2 fun o' H3 q3 g3 => by
    have S3 := ((S.grow g1).grow g2).grow g3
    have r1 := (S.grow g1).rp (g2.trans g3) r1
    have G := (g1.trans g2).trans g3
    split at q3
    · cases r1 with
      | scr h =>
        rename_i ns a
        refine ⟨a, ns.map V.int, rfl, h.seq, fun n hn => k _ n _ _ q3 (G.back hn) (G.trans (gr_new hn)) upd_same ?_⟩
        have e : cutV (ns.map V.int) o o' = (cutD ns o o').map V.int := cut_map V.int ns o o'
        rw [e]
        exact RpL.of_ints
    · exact q3.elim⟩
end
/-! ### the law's def: the deck is made, then the rest runs with it -/
def deckRg (a c : Addr) : Rg where
  rg := fun p => p = a ∨ p = c
  ok := DeckOk a c
  rs := fun n => if n = 0 then some a else none
  okk := fun H H' k h => by
    obtain ⟨n, ns, x, y, hl, h1, h2⟩ := h
    exact ⟨n, ns, x, y, hl, k a _ (.inl rfl) h1, k c _ (.inr rfl) h2⟩
  rsk := fun n b h => by
    by_cases hn : n = 0
    · rw [if_pos hn] at h
      cases h
      exact ⟨c, rfl, rfl⟩
    · rw [if_neg hn] at h
      cases h
def noRg : Rg where
  rg := fun _ => False
  ok := fun _ => True
  rs := fun _ => none
  okk := fun _ _ _ h => h
  rsk := fun _ _ h => by cases h
def S_law_deck : FS := ⟨List Int, fun ns => [.scr ns], fun ns => ns.length ≤ 63, fun _ d => ∃ (ms : List Int) (x y : Int), ms.length ≤ 1000 ∧ d = .lst [.lst (ms.map .int), .int x, .int y]⟩
def startL (n : Nat) : Ev := .un :: .dat (.res 0) :: List.replicate (n - 2) .un
def spLaw (K : PySem.W.Frag) : Sp := fun vs H Q _ => ∃ (a : Addr) (ns : List Int), vs = [.ref a] ∧ ns.length ≤ 63 ∧ Only H ∧ SqL K H a (ns.map V.int) ∧ ∀ H', Q (.bl true) H'
theorem get_startL : ∀ {n i : Nat}, get (startL n) i = .un ∨ (i = 1 ∧ get (startL n) i = .dat (.res 0))
  | _, 0 => .inl rfl
  | _, 1 => .inr ⟨rfl, rfl⟩
  | _, i + 2 => .inl get_rep
section
variable {P : Program} {w : World} {K : PySem.W.Frag} {mg : Str → Option Value} {base : Heap} {CX : CXT} {f : Addr} {fd : FuncData} {N : List Str} {k : Nat} {x qual px dx : Str} {params : Arguments} {st : Stmt} {rest : List Stmt} {scope : Scope} {dvs : List V} {kws : List (Str × V)} {body : List Stmt}
theorem fnLaw {T : DTS} (F : FunD K x qual params body scope dvs kws f fd) (S : FnScope N [px] scope) (nl : Nat) (hN : N.length = nl + 2)
    (hb : ∀ (cdv : Value) (A : Around) (outer : List Env) (st : Shared) (H : Hp) (E : XK), RmG k (A.deeper (envOfC qual scope st.heap.objs.size f cdv)) → ∃ (te : TE) (tr : TS), PSs (cxOf CX P w K mg base N qual scope f cdv A outer st H E) body (tSeq (tAsg te (gName 1)) tr) ∧
      (∀ R, SimE (wd K mg R) te (dCall S_law_deck [] (dCons (dVar 0) dNil))) ∧ ∀ R, SimS (wd K mg R) tr T)
    (hT : T { nx := fun _ => False, rt := fun d => d = .bl true } (startL (nl + 2))) : FnG P w K mg base CX (k + 1) f fd [px] (spLaw K) := by
  refine okG F S (fun vs H Q E h => ?_) (fun cdv A outer st H vs Q E hr h => ?_)
  · obtain ⟨a, ns, rfl, _⟩ := h
    rfl
  · obtain ⟨a0, ns, rfl, hl, hO, hS, hQ⟩ := h
    obtain ⟨te, tr, p, se, sr⟩ := hb cdv A outer st H E hr
    refine ⟨_, p, ?_⟩
    have hscr : ScrL K H a0 (ns.map V.int) := by
      rcases hS with (h | h) | h
      · rcases hO a0 with z | ⟨o, xs, z⟩
        · rw [z] at h; cases h
        · rw [z] at h; cases h
      · exact .inl h
      · exact .inr h
    have S0 := startSR (N := N) (W := wd K mg noRg) (B := fun _ => False) (H := H) (vs := [.ref a0]) (ds := [.scr ns]) ⟨.cons (.scr hscr) .nil, fun _ h => h, fun _ _ h => h.elim, fun _ h => h.elim, trivial⟩
    refine se noRg S0 _ _ (show dCall S_law_deck [] (dCons (dVar 0) dNil) _ (fun d => ∃ (ms : List Int) (x y : Int), ms.length ≤ 1000 ∧ d = .lst [.lst (ms.map .int), .int x, .int y]) from ⟨ns, rfl, hl, fun d h => h⟩) fun d v H1 hd g r => ?_
    obtain ⟨ms, x, y, hms, rfl⟩ := hd
    obtain ⟨a, xs, rfl, _, ha, l⟩ := r.lst'
    cases l with
    | cons r1 l =>
      obtain ⟨c, ys, rfl, _, hc, l2⟩ := r1.lst'
      rw [l2.ints] at hc
      cases l with
      | cons r2 l =>
        cases r2
        cases l with
        | cons r3 l =>
          cases r3
          cases l
          have hac : a ≠ c := fun z => by
            subst z
            rw [ha] at hc
            cases ms with
            | nil => cases hc
            | cons m ms => cases hc
          have hdk : DeckOk a c H1 := ⟨hac, ms, x, y, hms, ha, hc⟩
          obtain ⟨n0, n1, N', rfl⟩ : ∃ n0 n1 N', N = n0 :: n1 :: N' := by
            match N, hN with
            | a :: b :: c, _ => exact ⟨a, b, c, rfl⟩
          have S1 : SR (wd K mg (deckRg a c)) H1 (fun p => p = a ∨ p = c) [] (fun p => p = a ∨ p = c) H1 ((L2.start (n0 :: n1 :: N') [.ref a0]).set 1 (some (.ref a))) (startL (nl + 2)) := by
            refine ⟨?_, .refl, fun _ h => h, hdk, fun p h => ?_, fun _ h => h, fun p o h e => ?_, fun p h => ?_, fun i => ?_, fun i j p ds es e1 e2 => ?_, fun q hq => nomatch hq⟩
            · have e : nl = N'.length := by
                have := hN
                simp only [List.length_cons] at this
                omega
              subst e
              unfold L2.start startL
              simp
            · rcases h with rfl | rfl
              · rw [ha]; exact fun z => nomatch z
              · rw [hc]; exact fun z => nomatch z
            · rcases h with rfl | rfl
              · rw [ha] at e; cases e; exact soft_lst
              · rw [hc] at e; cases e; exact soft_lst
            · rcases h with rfl | rfl
              · rw [ha]; exact fun z => nomatch z
              · rw [hc]; exact fun z => nomatch z
            · rcases get_startL (n := nl + 2) (i := i) with h | ⟨rfl, h⟩
              · rw [h]; trivial
              · rw [h]
                exact ⟨.ref a, rfl, .res rfl⟩
            · rcases get_startL (n := nl + 2) (i := i) with h | ⟨rfl, h⟩
              · rw [h] at e1; cases e1
              · rw [h] at e1; cases e1
          refine sr (deckRg a c) S1 _ _ hT ⟨fun _ _ _ _ q => q.elim, fun _ _ _ _ q => q.elim, fun _ _ _ _ q => q.elim, fun d v H2 q _ r => ?_⟩
          subst q
          rw [r.bl']
          exact hQ H2
end
end MD
end
section
/-! Calls of a text's own defs, by what the head tells. -/
namespace MD
open PySem PySem.Spec PyProof.Rows L2

/-- a def that keeps its promise, as calls take it -/
structure Cal (P : Program) (w : World) (K : PySem.W.Frag) (mg : Str → Option Value) (base : Heap) (d : He.DefD) (k : Nat) (ps : List Str) (sp : Sp) : Prop where
  ex : ∃ f fd, FunD K d.name d.qual d.params d.body d.scope (d.dvs K) (d.kws K) f fd ∧ mg d.name = some (.ref f) ∧ FnG P w K mg base CX0 k f fd ps sp
/-- a method -/
structure CalM (P : Program) (w : World) (K : PySem.W.Frag) (mg : Str → Option Value) (base : Heap) (d : He.DefD) (C : Addr) (k : Nat) (ps : List Str) (sp : Sp) : Prop where
  ex : ∃ f fd, FunD K d.name d.qual d.params d.body d.scope (d.dvs K) (d.kws K) f fd ∧ Meth K C d.name f ∧ FnG P w K mg base CX0 k f fd ps sp
theorem kbAll {K : PySem.W.Frag} {x qual : Str} {params : Arguments} {body : List Stmt} {scope : Scope} {kws : List (Str × V)} {f : Addr} {fd : FuncData} {ps : List Str} (F : FunD K x qual params body scope [] kws f fd) (n : Nat) (ks : List Str) (g : {α : Type} → List α → List α → List α)
    (hrel : ∀ {vs zs : List V} {us ws : List Value}, Vals vs us → Vals zs ws → Vals (g vs zs) (g us ws))
    (h : ∀ (kV doc pm : Value) (an : Option Addr) (cdv ct : Value) (us ws : List Value), us.length = n → ws.length = ks.length → bindArgs (PySem.W.fnOf x qual params body scope .none kV doc pm an cdv ct) ⟨us, ks.zip ws⟩ = pure (ps.zip (g us ws))) : KBn K fd ps n ks g g := by
  obtain ⟨oc, od, dV, kV, doc, pm, an, cdv, ct, osl, rfl, lk, hcd, hD, hK⟩ := F.ex
  rcases hD with ⟨_, rfl⟩ | ⟨e, _⟩
  · exact ⟨fun s us ws X l1 l2 => BindsTo.of_eq (h kV doc pm an cdv ct us ws l1 l2), fun r1 r2 => hrel r1 r2⟩
  · exact absurd rfl e
theorem boot_len' : bootBuiltins "len" = some (.builtin "len") := by decide +kernel
theorem boot_max' : bootBuiltins "max" = some (.builtin "max") := by decide +kernel
theorem boot_min' : bootBuiltins "min" = some (.builtin "min") := by decide +kernel
theorem boot_sum' : bootBuiltins "sum" = some (.builtin "sum") := by decide +kernel
theorem boot_all' : bootBuiltins "all" = some (.builtin "all") := by decide +kernel
theorem boot_any' : bootBuiltins "any" = some (.builtin "any") := by decide +kernel
theorem boot_divmod' : bootBuiltins "divmod" = some (.builtin "divmod") := by decide +kernel
theorem boot_isinstance' : bootBuiltins "isinstance" = some (.builtin "isinstance") := by decide +kernel
theorem boot_repr' : bootBuiltins "repr" = some (.builtin "repr") := by decide +kernel
theorem boot_sorted' : bootBuiltins "sorted" = some (.builtin "sorted") := by decide +kernel
theorem boot_tuple' : bootBuiltins "tuple" = some (.type "tuple") := by decide +kernel
theorem boot_list' : bootBuiltins "list" = some (.type "list") := by decide +kernel
theorem boot_int' : bootBuiltins "int" = some (.type "int") := by decide +kernel
theorem boot_str' : bootBuiltins "str" = some (.type "str") := by decide +kernel
theorem boot_bool' : bootBuiltins "bool" = some (.type "bool") := by decide +kernel
section
variable {X : Cx} {e o : Expr} {T : DT} {TL TK : DTL} {pos p apos : Pos} {es : List Expr} {kws : List Keyword} {d : He.DefD} {j k n : Nat} {C : Addr} {ps ks : List Str} {dvs : List V} {s : FS} {dds : List D} {c : Str}
theorem dx_call (cal : Cal X.prog X.w X.K X.mg X.base d k ps (spD X.K X.mg s)) (hr : RmG j X.A) (hj : k ≤ j) (hb : ∀ {f fd}, FunD X.K d.name d.qual d.params d.body d.scope (d.dvs X.K) (d.kws X.K) f fd → ∃ vds, Vals dvs vds ∧ Binds X.K fd ps vds) (ha : DA X (e :: es) TL)
    (hdd : Always X.K dvs dds := by exact always_nil) (hg : Gl X d.name := by rfl) (hdb : (d.name == ("__debug__" : Str)) = false := by decide) (he : starEach (e :: es) X.env = (false, eval e X.env) :: starEach es X.env := by rfl) (hpl : (backTo pos (starEach es X.env)).any (·.1) = false := by rfl) :
    DE X (.Call (.Name d.name p) (e :: es) [] pos) (dCall s dds TL) := by
  obtain ⟨f, fd, F, hm, G⟩ := cal.ex
  obtain ⟨vds, hv, hb⟩ := hb F
  exact de_call (E := E0) (G.mono hj) hr hm F.kp hb hv pass0 ha hdd hg hdb he hpl
theorem dx_callN {gV : List V → List V → List V} {gD : List D → List D → List D} (cal : Cal X.prog X.w X.K X.mg X.base d k ps (spD X.K X.mg s)) (hr : RmG j X.A) (hj : k ≤ j) (hb : ∀ {f fd}, FunD X.K d.name d.qual d.params d.body d.scope (d.dvs X.K) (d.kws X.K) f fd → ∃ g, KBn X.K fd ps n ks g gV) (ha : DA X (e :: es) TL) (hkw : DK' X kws TK)
    (hgV : ∀ {W : Wd} {B : Addr → Prop} {H : Hp} {vs zs : List V} {ds fs : List D}, W.K = X.K → RpL W B H vs ds → RpL W B H zs fs → RpL W B H (gV vs zs) (gD ds fs)) (hg : Gl X d.name := by rfl)
    (hall : (backToKw pos (keywordEach kws X.env)).all (·.1.isSome) = true := by rfl) (hks : (backToKw pos (keywordEach kws X.env)).filterMap (·.1) = ks := by rfl)
    (hdb : (d.name == ("__debug__" : Str)) = false := by decide) (he : starEach (e :: es) X.env = (false, eval e X.env) :: starEach es X.env := by rfl)
    (hpl : ((backTo pos (starEach (e :: es) X.env)).any (·.1) || (backToKw pos (keywordEach kws X.env)).any (·.1.isNone)) = false := by rfl) :
    DE X (.Call (.Name d.name p) (e :: es) kws pos) (dCallN s gD n ks.length TL TK) := by
  obtain ⟨f, fd, F, hm, G⟩ := cal.ex
  obtain ⟨g, hb⟩ := hb F
  exact de_callN (E := E0) (G.mono hj) hr hm F.kp hb pass0 ha hkw hgV hg hall hks hdb he hpl
theorem dx_draw (cal : Cal X.prog X.w X.K X.mg X.base d k ps spDraw) (hr : RmG j X.A) (hj : k ≤ j) (hb : ∀ {f fd}, FunD X.K d.name d.qual d.params d.body d.scope (d.dvs X.K) (d.kws X.K) f fd → Binds X.K fd ps []) (ha : DA X (e :: es) TL)
    (hg : Gl X d.name := by rfl) (hdb : (d.name == ("__debug__" : Str)) = false := by decide) (he : starEach (e :: es) X.env = (false, eval e X.env) :: starEach es X.env := by rfl) (hpl : (backTo pos (starEach es X.env)).any (·.1) = false := by rfl) :
    DE X (.Call (.Name d.name p) (e :: es) [] pos) (dDraw TL) := by
  obtain ⟨f, fd, F, hm, G⟩ := cal.ex
  exact de_draw (E := E0) (G.mono hj) hr hm F.kp (hb F) pass0 ha hg hdb he hpl
theorem dx_meth {pl : Sem Bool} (hm : X.mg c = some (.ref C)) (cl : Cls X.K C) (cal : CalM X.prog X.w X.K X.mg X.base d C k ps (spD X.K X.mg s)) (hr : RmG j X.A) (hj : k ≤ j) (hb : ∀ {f fd}, FunD X.K d.name d.qual d.params d.body d.scope (d.dvs X.K) (d.kws X.K) f fd → Binds X.K fd ps [])
    (ho : DE X o T) (ha : DA X (e :: es) TL)
    (hst : starEach (e :: es) X.env = (false, eval e X.env) :: starEach es X.env := by rfl) (hpl : (backTo pos (starEach es X.env)).any (·.1) = false := by rfl)
    (ht : eval (.Call (.Attribute o d.name apos) (e :: es) [] pos) X.env = (do
      let ov ← eval o X.env
      standAt apos.atName
      let (f, first) ← holding [ov] (getMethod ov d.name pl)
      callWith pos f first (backTo pos (starEach (e :: es) X.env)) (backToKw pos (keywordEach [] X.env))) := by rfl) :
    DE X (.Call (.Attribute o d.name apos) (e :: es) [] pos) (dMeth c d.name s [] T TL) := by
  obtain ⟨f, fd, F, mt, G⟩ := cal.ex
  exact de_meth (E := E0) hm cl mt (G.mono hj) hr (hb F) .nil pass0 ho ha always_nil hst hpl ht
/-- -e -/
def dNeg (T : DT) : DT := fun env Q => T env fun d => match d with | .int i => Q (.int (-i)) | _ => False
theorem de_neg (h : DE X e T) : DE X (.UnaryOp .USub e pos) (dNeg T) := let ⟨_, p, s⟩ := h; ⟨_, pe_un un_neg p, fun R _ _ _ _ _ _ _ S Qd Q h k => s R S _ _ h fun d v H' q g r => by
  split at q
  · exact ⟨_, r.int', k _ _ _ q g (.int _)⟩
  · exact q.elim⟩
variable {lo hi : Option Expr} {Tl Th : DTO} {p2 : Pos}
/-- a slice of a tuple, a text, a list -/
def dSlA (T : DT) (Tl Th : DTO) : DT := fun env Q => T env fun d => Tl env fun lo => Th env fun hi => match d with
  | .tup xs => Q (.tup (cutD xs lo hi))
  | .lst xs => Q (.lst (cutD xs lo hi))
  | .str z => z.length ≤ SZ ∧ Q (.str (cutS z lo hi))
  | _ => False
theorem de_slA (h : DE X e T) (hl : DPt X lo Tl) (hh : DPt X hi Th) : DE X (.Subscript e (.Slice lo hi none p2) pos) (dSlA T Tl Th) := let ⟨_, p, s⟩ := h; let ⟨_, p', s'⟩ := hl; let ⟨_, p'', s''⟩ := hh;
  ⟨_, pe_slice ((sl_tupA.or sl_str).or sl_list) p p' p'', fun R _ _ _ _ _ _ _ S Qd Q h k => s R S _ _ h fun d v H1 q1 g1 r1 => s' R (S.grow g1) _ _ q1 fun o H2 q2 g2 => s'' R ((S.grow g1).grow g2) _ _ q2 fun o' H3 q3 g3 => by
    have S3 := ((S.grow g1).grow g2).grow g3
    have r1 := (S.grow g1).rp (g2.trans g3) r1
    have G := (g1.trans g2).trans g3
    split at q3
    · obtain ⟨a, xs, rfl, h1, l1⟩ := r1.tup'
      refine .inl (.inl ⟨a, xs, rfl, h1, fun w => ?_, fun w n hn => ?_⟩)
      · have e : cutV xs o o' = xs := by
          unfold cutV
          rw [w.1, w.2, List.drop_zero, Nat.sub_zero, List.take_length]
        have l2 := l1.cut o o'
        rw [e] at l2
        exact k _ _ _ q3 G (.tup h1 l2)
      · exact k _ _ _ q3 (G.trans (gr_new hn)) (.tup (.of upd_same) (S3.rpL (gr_new hn) (l1.cut _ _)))
    · obtain ⟨a, xs, rfl, _, h1, l1⟩ := r1.lst'
      refine .inr ⟨a, xs, rfl, .of h1, fun n hn => k _ _ _ q3 (G.trans (gr_new hn)) (.lst (fun b => S3.dom n b hn) upd_same (S3.rpL (gr_new hn) (l1.cut _ _)))⟩
    · exact .inl (.inr ⟨_, r1.str', SZ_le q3.1, k _ _ _ q3.2 G (.str _)⟩)
    · exact q3.elim⟩
end
end MD
namespace MD
open PySem PySem.Spec PyProof.Rows L2
/-- an __init__ -/
structure CalI (P : Program) (w : World) (K : PySem.W.Frag) (mg : Str → Option Value) (base : Heap) (d : He.DefD) (x : Str) (C : Addr) (k : Nat) (ps : List Str) (s : FI) : Prop where
  ex : ∃ f fd, FunD K d.name d.qual d.params d.body d.scope (d.dvs K) (d.kws K) f fd ∧ Mk K C f ∧ FnG P w K mg base CX0 k f fd ps (spI K mg x C s)
section
variable {X : Cx} {e o : Expr} {T : DT} {TL TK : DTL} {pos p apos : Pos} {es : List Expr} {kws : List Keyword} {d : He.DefD} {j k n : Nat} {C : Addr} {ps ks : List Str} {dvs : List V} {s : FS} {dds : List D} {c x : Str}
theorem dx_make {i : FI} {gV : List V → List V → List V} {gD : List D → List D → List D} (cal : CalI X.prog X.w X.K X.mg X.base d x C k ps i) (hr : RmG j X.A) (hj : k + 1 ≤ j) (hm : X.mg x = some (.ref C)) (hb : ∀ {f fd}, FunD X.K d.name d.qual d.params d.body d.scope (d.dvs X.K) (d.kws X.K) f fd → ∃ g, KBn X.K fd ps (n + 1) ks g gV) (ha : DA X (e :: es) TL) (hkw : DK' X kws TK)
    (hgV : ∀ {W : Wd} {B : Addr → Prop} {H : Hp} {y : V} {vs zs : List V} {ds fs : List D}, W.K = X.K → RpL W B H vs ds → RpL W B H zs fs → ∃ vs', gV (y :: vs) zs = y :: vs' ∧ RpL W B H vs' (gD ds fs)) (hg : Gl X x := by rfl)
    (hall : (backToKw pos (keywordEach kws X.env)).all (·.1.isSome) = true := by rfl) (hks : (backToKw pos (keywordEach kws X.env)).filterMap (·.1) = ks := by rfl)
    (hdb : (x == ("__debug__" : Str)) = false := by decide) (he : starEach (e :: es) X.env = (false, eval e X.env) :: starEach es X.env := by rfl)
    (hpl : ((backTo pos (starEach (e :: es) X.env)).any (·.1) || (backToKw pos (keywordEach kws X.env)).any (·.1.isNone)) = false := by rfl) :
    DE X (.Call (.Name x p) (e :: es) kws pos) (dMake x i gD n ks.length TL TK) := by
  obtain ⟨f, fd, F, M, G⟩ := cal.ex
  obtain ⟨g, hb⟩ := hb F
  exact de_make (E := E0) M G (hr.mono hj) hm hb pass0 ha hkw hgV hg hall hks hdb he hpl
theorem dx_ownEq (hm : X.mg c = some (.ref C)) (cal : CalM X.prog X.w X.K X.mg X.base d C k ps (spD X.K X.mg s)) (hr : RmG j X.A) (hj : k ≤ j) (hb : ∀ {f fd}, FunD X.K d.name d.qual d.params d.body d.scope (d.dvs X.K) (d.kws X.K) f fd → Binds X.K fd ps []) (hd : d.name = "__eq__" := by rfl) : DO X (compareOp .Eq) (gOwn false c s) := by
  obtain ⟨f, fd, F, mt, G⟩ := cal.ex
  have h1 := mt.at_
  rw [hd] at h1
  exact do_ownEq (E := E0) hm h1 mt.fn G (hb F) (hr.mono hj) pass0
theorem dx_ownNe (hm : X.mg c = some (.ref C)) (hmo : PySem.W.mroIn X.K C (.type "object") = some true) (hne : PySem.W.findIn X.K (.ref C) "__ne__" = some (some (.builtin "object.__ne__"))) (cal : CalM X.prog X.w X.K X.mg X.base d C k ps (spD X.K X.mg s)) (hr : RmG j X.A) (hj : k + 1 ≤ j) (hb : ∀ {f fd}, FunD X.K d.name d.qual d.params d.body d.scope (d.dvs X.K) (d.kws X.K) f fd → Binds X.K fd ps []) (hd : d.name = "__eq__" := by rfl) : DO X (compareOp .NotEq) (gOwn true c s) := by
  obtain ⟨f, fd, F, mt, G⟩ := cal.ex
  have h1 := mt.at_
  rw [hd] at h1
  exact do_ownNe (E := E0) hm hmo hne h1 mt.fn G (hb F) (hr.mono hj) pass0
theorem dx_ownStr (hm : X.mg c = some (.ref C)) (cal : CalM X.prog X.w X.K X.mg X.base d C k ps (spD X.K X.mg s)) (hr : RmG j X.A) (hj : k + 2 ≤ j) (hb : ∀ {f fd}, FunD X.K d.name d.qual d.params d.body d.scope (d.dvs X.K) (d.kws X.K) f fd → Binds X.K fd ps []) (hd : d.name = "__str__" := by rfl) : DC X (.type "str") (gOwnTxt c s) := by
  obtain ⟨f, fd, F, mt, G⟩ := cal.ex
  have h1 := mt.at_
  rw [hd] at h1
  exact dc_strOwn (E := E0) hm h1 mt.fn G (hb F) (hr.mono hj) pass0
theorem dx_ownRepr (hm : X.mg c = some (.ref C)) (cal : CalM X.prog X.w X.K X.mg X.base d C k ps (spD X.K X.mg s)) (hr : RmG j X.A) (hj : k + 1 ≤ j) (hb : ∀ {f fd}, FunD X.K d.name d.qual d.params d.body d.scope (d.dvs X.K) (d.kws X.K) f fd → Binds X.K fd ps []) (hd : d.name = "__repr__" := by rfl) : DC X (.builtin "repr") (gOwnTxt c s) := by
  obtain ⟨f, fd, F, mt, G⟩ := cal.ex
  have h1 := mt.at_
  rw [hd] at h1
  exact dc_reprOwn (E := E0) hm h1 mt.fn G (hb F) (hr.mono hj) pass0
/-- what a class of the text must tell (the head's Bool) -/
def exC (x : Str) (K : PySem.W.Frag) : Bool := decide (PySem.W.findIn K (.ref (He.ga K x)) "__class__" = some (some (.builtin "object.__class__"))) &&
  decide (PySem.W.specialIn K (.builtin "object.__class__") "__get__" = some (some (.builtin "getset_descriptor.__get__"))) && decide (PySem.W.takesIn K (.builtin "object.__class__") = some true) &&
  decide (PySem.W.mroIn K (He.ga K x) (.type "object") = some true) && decide (PySem.W.findIn K (.ref (He.ga K x)) "__ne__" = some (some (.builtin "object.__ne__")))
theorem exC_at {x : Str} {K : PySem.W.Frag} (h : exC x K = true) : (∀ cl : Cls K (He.ga K x), C8.InsC K (He.ga K x)) ∧ PySem.W.mroIn K (He.ga K x) (.type "object") = some true ∧ PySem.W.findIn K (.ref (He.ga K x)) "__ne__" = some (some (.builtin "object.__ne__")) := by
  unfold exC at h
  simp only [Bool.and_eq_true, decide_eq_true_eq] at h
  obtain ⟨⟨⟨⟨h1, h2⟩, h3⟩, h4⟩, h5⟩ := h
  exact ⟨fun cl => ⟨cl, h1, h2, h3, h4, by unfold PySem.W.kitOne; rw [if_pos (beq_self_eq_true _)]⟩, h4, h5⟩
end
end MD
namespace MD
theorem ex_neg {T : DT} {env : Ev} {Q : D → Prop} : dNeg T env Q = T env fun d => match d with | .int i => Q (.int (-i)) | _ => False := rfl
theorem ex_slA {T : DT} {Tl Th : DTO} {env : Ev} {Q : D → Prop} : dSlA T Tl Th env Q = T env fun d => Tl env fun lo => Th env fun hi => match d with
  | .tup xs => Q (.tup (cutD xs lo hi))
  | .lst xs => Q (.lst (cutD xs lo hi))
  | .str z => z.length ≤ SZ ∧ Q (.str (L2.cutS z lo hi))
  | _ => False := rfl
theorem isT1 {i : Int} : isTy "int" (.int i) = true := rfl
theorem isT2 {i : Int} : isTy "bool" (.int i) = false := rfl
theorem isT3 {ds : List D} : isTy "tuple" (.tup ds) = true := rfl
theorem isT4 {z : PySem.Str} : isTy "str" (.str z) = true := rfl
theorem tyI {i : Int} : (tyN (.int i) ≠ "") = True := eq_true (by show "int" ≠ ""; decide)
theorem tyT {ds : List D} : (tyN (.tup ds) ≠ "") = True := eq_true (by show "tuple" ≠ ""; decide)
theorem tyS {z : PySem.Str} : (tyN (.str z) ≠ "") = True := eq_true (by show "str" ≠ ""; decide)
theorem pyI {i : Int} : (pyOk (.int i) = true) = True := eq_true rfl
theorem pyB {i : Bool} : (pyOk (.bl i) = true) = True := eq_true rfl
theorem pyT0 : (pyOk (.tup []) = true) = True := eq_true (by decide)
theorem pyIs {ns : List Int} : (pyOk (.tup (ns.map D.int)) = true) = True := eq_true (pyOk_ints ns)
theorem ex_frz {i : Nat} {U : DTS} {C : DK} {env : Ev} : dFrz i U C env = match get env i with | .own ds => U C (env.set i (.dat (.lst ds))) | _ => False := rfl
theorem ex_toIntB {k : Bool} {Q : D → Prop} : gToInt [.bl k] Q = Q (.int (if k then 1 else 0)) := rfl
theorem ex_toIntI {k : Int} {Q : D → Prop} : gToInt [.int k] Q = Q (.int k) := rfl
theorem ex_put {i : Nat} {Ti T : DT} {C : DK} {env : Ev} : dPut i Ti T C env = T env fun d => onO (get env i) fun ds => Ti env fun k => match k with | .int k => ∃ j, L2.ixN ds.length k = some j ∧ C.nx (env.set i (.own (ds.set j d))) | _ => False := rfl
theorem ex_drop {T : DT} {C : DK} {env : Ev} : dDrop T C env = T env fun _ => C.nx env := rfl
theorem ex_never {C : DK} {env : Ev} : dNever C env = False := rfl
theorem ex_sum {ds : List D} {Q : D → Prop} : gSum ds Q = ∃ ns : List Int, (ds = [.lst (ns.map .int)] ∨ ds = [.tup (ns.map .int)]) ∧ Q (.int ns.sum) := rfl
theorem ex_all {ds : List D} {Q : D → Prop} : gAll ds Q = ∃ bs : List Bool, ds = [.lst (bs.map .bl)] ∧ Q (.bl (bs.all id)) := rfl
theorem loop_ix {G : DG} {U : DTS} {C : DK} (items : List D) (I : Nat → Ev → Prop) (step : ∀ i (h : i < items.length) env (K : Ev → Prop), I i env → (∀ env', I (i + 1) env' → K env') → G items[i] env fun env' => U ⟨K, C.rt, C.nx, K⟩ env')
    (fin : ∀ env, I items.length env → C.nx env) : ∀ (k i : Nat) (env : Ev), i + k = items.length → I i env → loopD G U C (items.drop i) env
  | 0, i, env, e, h => by
    rw [Nat.add_zero] at e
    subst e
    rw [List.drop_length]
    exact fin env h
  | k + 1, i, env, e, h => by
    rw [List.drop_eq_getElem_cons (show i < items.length by omega)]
    exact step i (by omega) env (loopD G U C (items.drop (i + 1))) h fun env' h' => loop_ix items I step fin k (i + 1) env' (by omega) h'
/-- a for by an invariant on how far it has come -/
theorem for_ix {G : DG} {U : DTS} {C : DK} {items : List D} {env : Ev} (I : Nat → Ev → Prop) (h0 : I 0 env) (step : ∀ i (h : i < items.length) env (K : Ev → Prop), I i env → (∀ env', I (i + 1) env' → K env') → G items[i] env fun env' => U ⟨K, C.rt, C.nx, K⟩ env')
    (fin : ∀ env, I items.length env → C.nx env) : loopD G U C items env := loop_ix items I step fin items.length 0 env (Nat.zero_add _) h0
theorem rangeD_get {lo : Int} {n i : Nat} (h : i < (rangeD lo n).length) : (rangeD lo n)[i] = .int (lo + (i : Nat)) := by
  simp [rangeD]
theorem enumD_get {k : Int} {ds : List D} {i : Nat} (h : i < (enumD k ds).length) : (enumD k ds)[i] = .tup [.int (k + (i : Nat)), ds[i]'(by rw [enumD_len] at h; exact h)] := by
  simp [enumD]
theorem ex_draw {env : Ev} {TL : DTL} {Q : D → Prop} : dDraw TL env Q = TL env fun ds => match ds with
  | [.res _, .int n] => (1 ≤ n ∧ n < 2 ^ 60) ∧ ∀ r, 0 ≤ r → r < n → Q (.int r)
  | _ => False := rfl
theorem ex_fld {c f : PySem.Str} {T : DT} {env : Ev} {Q : D → Prop} : dFld c f T env Q = T env fun d => ∃ gs v, d = .ob c gs ∧ gs.lookup f = some v ∧ Q v := rfl
theorem ex_meth {c m : PySem.Str} {s : FS} {dds : List D} {T : DT} {TL : DTL} {env : Ev} {Q : D → Prop} : dMeth c m s dds T TL env Q = T env fun d => ∃ gs, d = .ob c gs ∧ gs.lookup m = none ∧ TL env fun ds => s.g (d :: (ds ++ dds)) Q := rfl
theorem ex_make {c : PySem.Str} {s : FI} {gD : List D → List D → List D} {n m : Nat} {TL TK : DTL} {env : Ev} {Q : D → Prop} : dMake c s gD n m TL TK env Q = TL env fun ds => TK env fun es => (ds.length = n ∧ es.length = m) ∧ ∃ a, gD ds es = s.arg a ∧ s.pre a ∧ Q (.ob c (s.fs a)) := rfl
theorem ex_isC {c : PySem.Str} {T : DT} {env : Ev} {Q : D → Prop} : dIsC c T env Q = T env fun d => ∃ gs, d = .ob c gs ∧ Q (.bl true) := rfl
theorem ex_joinS {To T : DT} {env : Ev} {Q : D → Prop} : dJoin To T env Q = To env fun a => onS a fun x => T env fun b => ∃ ys : List PySem.Str, (b = .lst (ys.map .str) ∨ b = .tup (ys.map .str)) ∧ (ys.map (·.length)).sum + ys.length * x.length ≤ 16777216 ∧ Q (.str (PySem.Txt.join x ys)) := rfl
theorem ex_orS {Ta Tb : DT} {env : Ev} {Q : D → Prop} : dOrS Ta Tb env Q = Ta env fun a => onS a fun x => x.length ≤ SZ ∧ if x.length = 0 then Tb env Q else Q (.str x) := rfl
theorem ex_joined {Ts : List DT} {env : Ev} {Q : D → Prop} : dJoined Ts env Q = dJs Ts PySem.Str.empty env fun out => Q (.str out) := rfl
theorem ex_js {T : DT} {Ts : List DT} {acc : PySem.Str} {env : Ev} {Q : PySem.Str → Prop} : dJs (T :: Ts) acc env Q = T env fun d => onS d fun y => acc.length + y.length ≤ SZ ∧ dJs Ts (acc ++ y) env Q := rfl
theorem ex_js0 {acc : PySem.Str} {env : Ev} {Q : PySem.Str → Prop} : dJs [] acc env Q = Q acc := rfl
theorem ex_fmt {T : DT} {env : Ev} {Q : D → Prop} : dFmt T env Q = T env fun d => match d with
  | .str y => y.length ≤ SZ ∧ Q (.str y)
  | .int i => i.natAbs.log2 < 1920 ∧ Q (.str (toString i))
  | _ => False := rfl
theorem ex_part {To T : DT} {env : Ev} {Q : D → Prop} : dPart To T env Q = To env fun a => onS a fun x => T env fun b => onS b fun y => ((y.length == 0) = false ∧ x.length ≤ SZ) ∧ Q (.tup [.str (PySem.Txt.partition x y).1, .str (PySem.Txt.partition x y).2.1, .str (PySem.Txt.partition x y).2.2]) := rfl
theorem ex_split {To T : DT} {env : Ev} {Q : D → Prop} : dSplit To T env Q = To env fun a => onS a fun x => T env fun b => onS b fun y => ((y.length == 0) = false ∧ x.length ≤ SZ) ∧ Q (.lst ((PySem.Txt.split x y).map .str)) := rfl
theorem ex_inS {n : Bool} {x y : PySem.Str} {Q : D → Prop} : gInS n (.str x) (.str y) Q = Q (.bl (if n then !inStr x y else inStr x y)) := rfl
theorem ex_toStr {i : Int} {Q : D → Prop} : gToStr [.int i] Q = (i.natAbs.log2 < 1920 ∧ Q (.str (toString i))) := rfl
theorem ex_toIntS {z : PySem.Str} {Q : D → Prop} : gToInt [.str z] Q = (z.length ≤ 640 ∧ ∃ n, PySem.intText? z = some n ∧ Q (.int n)) := rfl
theorem ex_ownT {c : PySem.Str} {s : FS} {ds : List D} {Q : D → Prop} : gOwnTxt c s ds Q = ∃ gs, ds = [.ob c gs] ∧ s.g ds fun d => onS d fun z => Q (.str z) := rfl
theorem ex_own {neg : Bool} {c : PySem.Str} {s : FS} {a b : D} {Q : D → Prop} : gOwn neg c s a b Q = ∃ gs hs, a = .ob c gs ∧ b = .ob c hs ∧ s.g [a, b] fun d => onB d fun z => Q (.bl (if neg then !z else z)) := rfl
theorem ex_listL {es : List D} {Q : D → Prop} : gList [.lst es] Q = Q (.lst es) := rfl
theorem ex_listT {es : List D} {Q : D → Prop} : gList [.tup es] Q = Q (.lst es) := rfl
theorem ex_reprT {es : List D} {Q : D → Prop} : gRepr [.tup es] Q = (showOk (.tup es) = true ∧ Q (.str (shownD (.tup es)))) := rfl
theorem ex_reprL {es : List D} {Q : D → Prop} : gRepr [.lst es] Q = (showOk (.lst es) = true ∧ Q (.str (shownD (.lst es)))) := rfl
theorem ex_reprI {i : Int} {Q : D → Prop} : gRepr [.int i] Q = (i.natAbs.log2 < 1920 ∧ Q (.str (toString i))) := rfl
theorem ex_slS {T : DT} {Tl Th : DTO} {env : Ev} {Q : D → Prop} : dSlS T Tl Th env Q = T env fun d => Tl env fun lo => Th env fun hi => match d with
  | .scr ns => Q (.lst ((cutD ns lo hi).map .int))
  | _ => False := rfl
end MD
end
section
/-! The law's call, for a promise where no repr is under way. -/
namespace MD
open PySem PySem.Spec PyProof.Rows L2
section
variable {P : Program} {w : World} {K : PySem.W.Frag} {mg mb : Str → Option Value} {k : Nat} {fa a : Addr} {fd : FuncData} {x : Str} {sp : Sp} {s : Shared} {vs : List Value} {ns : List Int}
/-- what a law's call is to come to -/
abbrev Told (s : Shared) : Result → Shared → Prop := fun r s' => r = .ok (.ret (.bool true)) ∧ OldK s.heap s'.heap ∧ s'.os = s.os ∧ AllBare s'.gens
/-- at an abstract heap H that tracks the script at most -/
theorem told_at (KX : K.In s.heap) (hns : s.heap.Ns mainGlobals mg) (hb : s.heap.Ns builtinsNs mb) (hbb : ∀ x : Str, x ≠ "__name__" → mb x = bootBuiltins x) (hlim : s.heap.NoLimit) (hg : s.gens = #[])
    (ha : s.heap.get? a = some { cls := .type "list", data := .seq vs.toArray }) (hr : RmG k callerA) (F : ∀ base : Heap, K.In base → base.Ns mainGlobals mg → FnG P w K mg base CX0 k fa fd [x] sp)
    (hbind : ∀ (s : Shared) (u : Value), BindsTo s fd ⟨[u], []⟩ [(x, u)]) {H : Hp} (hsp : sp [.ref a] H (fun v _ => v = .bl true) fun _ _ _ => False) (hO : Only H) (hok : HOk P w H s.heap) (hA : ∀ b u, H b = some u → b = a) (hK : ∀ u, H a = some u → K.lookup a = none) :
    codeAny (model P w) callerA (.call (.ref fa) ⟨[.ref a], []⟩) (Told s) s := by
  have free : ∀ {b : Addr} {o : Obj}, s.heap.get? b = some o → (∀ es ep, o.data = .dict es ep → False) ∨ H b = none := fun {b o} e => by
    cases q : H b with
    | none => exact .inr rfl
    | some u =>
      obtain rfl := hA b u q
      rw [ha] at e
      cases e
      exact .inl fun es ep d => by cases d
  have sub : ∀ {b : Addr} {m : Str → Option Value}, s.heap.Ns b m → (hidT s.heap H).Ns b m := fun {b m} ⟨o, es, ep, e, d, r⟩ => ⟨o, es, ep, hidT_get e ((free e).resolve_left fun z => z es ep d), d, r⟩
  have KB : K.In (hidT s.heap H) := fun b o e => hidT_get (KX b o e) (by
    cases q : H b with
    | none => rfl
    | some u =>
      obtain rfl := hA b u q
      rw [hK u q] at e
      cases e)
  have M : Mod K mg (hidT s.heap H) := ⟨KB, sub hns, ⟨mb, sub hb, hbb⟩, let ⟨mc, h1, h2⟩ := hlim; ⟨mc, sub h1, h2⟩⟩
  have E0' : Env0 P w K mg (hidT s.heap H) callerA [] s H := ⟨rfl, M, fun b o e => of_hidT e, Nat.le_of_eq (hidT_size _ _), trivial, (fun b hb => by cases hb), hok, .of_eq hg⟩
  refine codeAny_mono ((F _ KB (sub hns)).run callerA [] s H ⟨[.ref a], []⟩ [.ref a] [.ref a] _ _ hr E0' (hbind s (.ref a)) (.cons rfl .nil) hsp) fun r s' h => ?_
  match r, h with
  | .error e, h => exact False.elim h
  | .ok .next, h => exact False.elim h
  | .ok .brk, h => exact False.elim h
  | .ok .cont, h => exact False.elim h
  | .ok (.ret u), h =>
    obtain ⟨v, H', os, bare, un, hok', rv, q⟩ := h
    obtain rfl : v = .bl true := q
    obtain rfl : u = Value.bool true := rv
    refine ⟨rfl, OldK.of_keep fun b o e => ?_, os, bare⟩
    cases q : H b with
    | none => exact un.keep b o e q (fun z => by cases z) (by simp)
    | some u =>
      rcases hO b with z | ⟨ob, xs, z⟩
      · rw [q] at z
        cases z
      · obtain ⟨e1, _⟩ := hok b _ z
        obtain ⟨e2, _⟩ := hok' b _ (un.frzs b ob _ z)
        rw [e] at e1
        cases e1
        exact e2
theorem law_callG (KX : K.In s.heap) (hns : s.heap.Ns mainGlobals mg) (hb : s.heap.Ns builtinsNs mb) (hbb : ∀ x : Str, x ≠ "__name__" → mb x = bootBuiltins x) (hlim : s.heap.NoLimit) (hg : s.gens = #[])
    (ha : s.heap.get? a = some { cls := .type "list", data := .seq vs.toArray }) (hi : IntsAre vs ns) (hl : ns.length ≤ sizeLine) (hr : RmG k callerA) (F : ∀ base : Heap, K.In base → base.Ns mainGlobals mg → FnG P w K mg base CX0 k fa fd [x] sp)
    (hbind : ∀ (s : Shared) (u : Value), BindsTo s fd ⟨[u], []⟩ [(x, u)]) (hsp : ∀ H : Hp, Only H → SqL K H a (ns.map V.int) → sp [.ref a] H (fun v _ => v = .bl true) fun _ _ _ => False) :
    codeAny (model P w) callerA (.call (.ref fa) ⟨[.ref a], []⟩) (Told s) s := by
  have rv := vals_ints hi
  cases hk : K.lookup a with
  | some o =>
    have e := KX a o hk
    rw [ha] at e
    cases e
    have hO : Only fun _ => none := fun _ => .inl rfl
    exact told_at (H := fun _ => none) KX hns hb hbb hlim hg ha hr F hbind (hsp _ hO (.inr ⟨_, vs.toArray, _, hk, rfl, rfl, rfl, by rw [List.size_toArray, hi.length]; exact hl, by simpa using rv⟩)) hO (fun b u z => by cases z) (fun b u z => by cases z) fun u z => by cases z
  | none =>
    have at_ : ∀ b u, (if b = a then some (HO.frz { cls := .type "list", data := .seq vs.toArray } (.lst (ns.map V.int))) else none) = some u → b = a ∧ u = .frz { cls := .type "list", data := .seq vs.toArray } (.lst (ns.map V.int)) := fun b u z => by
      by_cases h : b = a
      · rw [if_pos h] at z; cases z; exact ⟨h, rfl⟩
      · rw [if_neg h] at z; cases z
    have hO : Only fun b => if b = a then some (HO.frz { cls := .type "list", data := .seq vs.toArray } (.lst (ns.map V.int))) else none := fun b => by
      by_cases h : b = a
      · exact .inr ⟨_, _, if_pos h⟩
      · exact .inl (if_neg h)
    refine told_at (H := fun b => if b = a then some (HO.frz { cls := .type "list", data := .seq vs.toArray } (.lst (ns.map V.int))) else none) KX hns hb hbb hlim hg ha hr F hbind
      (hsp _ hO (.inl (.inr ⟨_, if_pos rfl⟩))) hO (fun b u z => ?_) (fun b u z => (at_ b u z).1) fun _ _ => hk
    obtain ⟨rfl, rfl⟩ := at_ b u z
    exact ⟨ha, by rw [List.length_map]; exact hl, vs, _, rv, ha⟩
/-- the end of a law -/
theorem walk_ofG {l : PySem.W.OpenLaw} {n k : Nat} {q : Program} {loose : List Str} {XP : (Str → Option Value) → Heap → Prop} {YP : World → Heap → Prop} {d : DefRec} {x : Str} (hn : l.most = some n) (hn2 : n ≤ sizeLine) (hdf : d.params.defaults = []) (hr : RmG k callerA)
    (F : ∀ (w : World) (mg : Str → Option Value) (fa : Addr) (h : Heap), YP w h → h.Ns mainGlobals mg → mg d.name = some (.ref fa) →
      ∃ (K : PySem.W.Frag) (fd : FuncData) (sp : Sp), K.In h ∧ (∀ (s : Shared) (u : Value), BindsTo s fd ⟨[u], []⟩ [(x, u)]) ∧
        (∀ (H : Hp) (a : Addr) (ns : List Int), ns.length ≤ n → Only H → SqL K H a (ns.map V.int) → sp [.ref a] H (fun v _ => v = .bl true) fun _ _ _ => False) ∧
        ∀ base : Heap, K.In base → base.Ns mainGlobals mg → FnG l.prog w K mg base CX0 k fa fd [x] sp) :
    PySem.W.WalkO q loose XP YP l.row.toRowW d [] (fun f vs => PySem.call f vs) := by
  refine Att.attach_call hn hdf fun w s₀ s₁ mg mb fa o pm cd doc a vs ns G Y ho hd hcd hmg hobj hints hlen hg => ?_
  obtain ⟨K, fd, sp, KX, hb, hsp, hF⟩ := F w mg fa _ Y G.T.g hmg
  exact law_callG KX G.T.g G.T.b G.T.builtins G.T.nolimit hg hobj hints (Nat.le_trans hlen hn2) hr hF hb fun H hO hS => hsp H a ns hlen hO hS
end
/-- the law's own first row: the deck, then the rest -/
theorem dLaw_hb {X : Cx} {x : Str} {pos pos' : Pos} {e : Expr} {rest : List Stmt} {T : DTS} (hN : X.N.Nodup) (h : DE X e (dCall S_law_deck [] (dCons (dVar 0) dNil))) (h2 : DSs X rest T) (hi : X.N[1]? = some x := by rfl) (hx : Loc X.env.scope x := by first | exact Or.inl rfl | exact Or.inr rfl)
    (hs : swapsWith e (some (.Name x pos')) pos.line X.env = pure false := by rfl) (hf : X.fn x = true ∨ X.env.scope.names.lookup x = some .local := by first | exact .inl rfl | exact .inr rfl | assumption) :
    ∃ (te : TE) (tr : TS), PSs X (.Assign [.Name x pos'] e pos :: rest) (tSeq (tAsg te (gName 1)) tr) ∧ (∀ R, SimE (Cx.wd X R) te (dCall S_law_deck [] (dCons (dVar 0) dNil))) ∧ ∀ R, SimS (Cx.wd X R) tr T :=
  let ⟨te, p, s⟩ := h; let ⟨tr, p2, s2⟩ := h2; ⟨te, tr, pss_cons (ps_set hN hi hx p hs hf) p2, s, s2⟩
end MD
end
section
/-! Rows of limbs: plain Lean. -/
namespace MD
open PySem L2
/-- the limbs of n to the base b, the least first -/
def rw (b n : Nat) : List Int := if h : n = 0 ∨ b < 2 then [] else ((n % b : Nat) : Int) :: rw b (n / b)
termination_by n
decreasing_by exact Nat.div_lt_self (by omega) (by omega)
theorem rw_zero (b : Nat) : rw b 0 = [] := by rw [rw]; simp
theorem rw_pos {b n : Nat} (hb : 2 ≤ b) (hn : 0 < n) : rw b n = ((n % b : Nat) : Int) :: rw b (n / b) := by
  rw [rw, dif_neg (by omega)]
/-- what a list of limbs is worth -/
def wt (b : Nat) : List Int → Int
  | [] => 0
  | d :: r => d + b * wt b r
def Dg (b : Nat) (xs : List Int) : Prop := ∀ d ∈ xs, 0 ≤ d ∧ d < b
theorem Dg.cons {b : Nat} {d : Int} {r : List Int} (h : Dg b (d :: r)) : (0 ≤ d ∧ d < b) ∧ Dg b r := ⟨h d (List.mem_cons_self ..), fun e he => h e (List.mem_cons_of_mem _ he)⟩
theorem rw_dg {b : Nat} (hb : 2 ≤ b) : ∀ n, Dg b (rw b n) := fun n => by
  induction n using Nat.strongRecOn with
  | _ n ih =>
    by_cases h : n = 0
    · subst h; rw [rw_zero]; intro d hd; cases hd
    · rw [rw_pos hb (by omega)]
      intro d hd
      rcases List.mem_cons.mp hd with rfl | hd
      · have := Nat.mod_lt n (show 0 < b by omega)
        exact ⟨by omega, by omega⟩
      · exact ih (n / b) (Nat.div_lt_self (by omega) (by omega)) d hd
theorem wt_rw {b : Nat} (hb : 2 ≤ b) : ∀ n, wt b (rw b n) = n := fun n => by
  induction n using Nat.strongRecOn with
  | _ n ih =>
    by_cases h : n = 0
    · subst h; rw [rw_zero]; rfl
    · rw [rw_pos hb (by omega)]
      show ((n % b : Nat) : Int) + b * wt b (rw b (n / b)) = n
      rw [ih (n / b) (Nat.div_lt_self (by omega) (by omega))]
      have e := Nat.mod_add_div n b
      exact_mod_cast e
theorem wt_nn {b : Nat} : ∀ {xs : List Int}, Dg b xs → 0 ≤ wt b xs
  | [], _ => Int.le_refl 0
  | d :: r, h => by
    have h1 := wt_nn h.cons.2
    have h2 := h.cons.1.1
    have : 0 ≤ (b : Int) * wt b r := Int.mul_nonneg (by omega) h1
    show 0 ≤ d + b * wt b r
    omega
theorem rw_nil {b n : Nat} (hb : 2 ≤ b) : rw b n = [] ↔ n = 0 := by
  constructor
  · intro h
    by_cases hn : n = 0
    · exact hn
    · rw [rw_pos hb (by omega)] at h; cases h
  · rintro rfl; exact rw_zero b
theorem rw_inj {b m n : Nat} (hb : 2 ≤ b) : rw b m = rw b n ↔ m = n := by
  constructor
  · intro h
    have e1 := wt_rw hb m
    have e2 := wt_rw hb n
    rw [h] at e1
    omega
  · rintro rfl; rfl
theorem rw_len_le {b : Nat} (hb : 2 ≤ b) : ∀ (k n : Nat), n < 2 ^ k → (rw b n).length ≤ k
  | 0, n, h => by
    have : n = 0 := by simpa using h
    subst this; rw [rw_zero]; simp
  | k + 1, n, h => by
    by_cases hn : n = 0
    · subst hn; rw [rw_zero]; simp
    · rw [rw_pos hb (by omega), List.length_cons]
      have : n / b < 2 ^ k := by
        have h1 : n / b ≤ n / 2 := Nat.div_le_div_left hb (by omega)
        have h2 : n / 2 < 2 ^ k := by
          rw [Nat.pow_succ] at h
          omega
        omega
      have := rw_len_le hb k (n / b) this
      omega
def BND : Nat := 20000
theorem log2_small {b : Nat} (hb : 0 < b) (h : b < 2 ^ 64) : b.log2 < 64 := (Nat.log2_lt (by omega)).mpr h
theorem divOk {i : Int} {b : Nat} (hb : 0 < b) (h : b < 2 ^ 64) : DivOk i b := ⟨by omega, by
  have := log2_small hb h
  rw [Int.natAbs_natCast]; omega⟩
/-- trailing noughts off -/
def strip : List Int → List Int
  | [] => []
  | d :: r => match strip r with
    | [] => if d = 0 then [] else [d]
    | e :: s => d :: e :: s
theorem strip_rw {b : Nat} (hb : 2 ≤ b) : ∀ (xs : List Int), Dg b xs → strip xs = rw b (wt b xs).toNat
  | [], _ => by rw [show wt b [] = 0 from rfl]; exact (rw_zero b).symm
  | d :: r, h => by
    have ih := strip_rw hb r h.cons.2
    have h1 := wt_nn h.cons.2
    obtain ⟨m, hm⟩ : ∃ m : Nat, wt b r = m := ⟨(wt b r).toNat, by omega⟩
    obtain ⟨e, he⟩ : ∃ e : Nat, d = e := ⟨d.toNat, by have := h.cons.1.1; omega⟩
    subst he
    have hlt : e < b := by have := h.cons.1.2; omega
    have ew : wt b ((e : Int) :: r) = ((e + b * m : Nat) : Int) := by
      show (e : Int) + b * wt b r = _
      rw [hm]; simp
    rw [hm] at ih
    rw [ew, Int.toNat_natCast]
    rw [Int.toNat_natCast] at ih
    unfold strip
    by_cases hz : m = 0
    · subst hz
      rw [rw_zero] at ih
      rw [ih]
      dsimp only
      by_cases h0 : e = 0
      · subst h0
        simp [rw_zero]
      · rw [if_neg (by omega), rw_pos hb (by omega)]
        have e1 : (e + b * 0) % b = e := by rw [Nat.mul_zero, Nat.add_zero]; exact Nat.mod_eq_of_lt hlt
        have e2 : (e + b * 0) / b = 0 := by rw [Nat.mul_zero, Nat.add_zero]; exact Nat.div_eq_of_lt hlt
        rw [e1, e2, rw_zero]
    · have e1 : (e + b * m) % b = e := by rw [Nat.add_mul_mod_self_left]; exact Nat.mod_eq_of_lt hlt
      have e2 : (e + b * m) / b = m := by rw [Nat.add_mul_div_left _ _ (by omega), Nat.div_eq_of_lt hlt, Nat.zero_add]
      have hpos : 0 < e + b * m := Nat.lt_of_lt_of_le (Nat.mul_pos (by omega) (by omega)) (Nat.le_add_left _ _)
      rw [rw_pos hb hpos, e1, e2, ← ih]
      have hne : strip r ≠ [] := by rw [ih]; exact fun z => hz ((rw_nil hb).mp z)
      cases hs : strip r with
      | nil => exact absurd hs hne
      | cons f s => rfl
/-! ### row_of, worth_of -/
def T_row_of : DTS := dSeq (dSetO 2 (dLst dNil)) (dSeq (dWhile (dB (d2 gGt (dVar 0) (dC (.int 0)))) (dSeq (dApp 2 (d2 gMod (dVar 0) (dVar 1))) (dAugG 0 (dVar 1) gFdiv))) (dRet (dCB gTuple (dCons (dVw 2) dNil))))
theorem run_row_of {n b : Nat} (hb : 2 ≤ b) (hb2 : b ≤ 1000000000000) (hn : n < 2 ^ BND) (Q : D → Prop) (hQ : Q (row (rw b n))) : T_row_of ⟨fun _ => Q .non, Q, fun _ => False, fun _ => False⟩ (startD 3 [.int n, .int b]) := by
  simp only [T_row_of, ex_seq, ex_next, ex_if, ex_ret, ex_set, ex_setO, ex_app, ex_aug, ex_var, ex_vw, ex_c, ex_d2, ex_b, ex_onD, ex_onVd, ex_onVo, ex_onO, ex_onB, ex_onS, ex_int, ex_addI, ex_addS, ex_addT, ex_nil, ex_cons, ex_tup, ex_lst, ex_cb, ex_tupleL, ex_tupleT, get_0, get_s, ex_for, ex_nm, ex_gnil, ex_gcons, ex_gtup, ex_gtupL, ex_asg, ex_par, ex_iseq, ex_onSeqT, ex_onSeqL, ex_onSeqS, ex_ienum, ex_irev, ex_onLTt, ex_onLTl, ex_rng1, ex_ifE, ex_and, ex_or, ex_not, ex_andV, ex_orV, ex_notV, ex_ixL, ex_call, ex_callN, ex_rev, ex_revL, ex_cat, ex_rep, ex_sl, ex_slA, ex_slL, ex_nopt, ex_pt, ex_eq, ex_ne, ex_yes, ex_lc, ex_lenT, ex_lenL, ex_lenS, ex_int2, ex_augIx, ex_isT, ex_chain, ex_asg2, ex_neg, List.set, startD, List.replicate, List.map_nil, List.map_cons, List.length_cons, List.length_nil, List.cons_append, List.nil_append, Nat.sub_self, Nat.reduceSub, Nat.reduceAdd, wipeE, decide_true, decide_false, if_true, if_false, true_and, and_true, Bool.not_true, Bool.not_false, Bool.false_eq_true, ex_frz, ex_draw, ex_fld, ex_meth, ex_make, ex_isC, ex_joinS, ex_orS, ex_joined, ex_js, ex_js0, ex_fmt, ex_part, ex_split, ex_inS, ex_toStr, ex_toIntS, ex_ownT, ex_own, ex_listL, ex_listT, ex_reprT, ex_reprL, ex_reprI, ex_slS, ex_toIntB, ex_toIntI, ex_put, ex_drop, ex_never, isT1, isT2, isT3, isT4, tyI, tyT, tyS, pyI, pyB, pyT0, pyIs, Nat.zero_le, deqv_int, deqv_bl]
  refine while_of (fun (a : Nat × List Int) env => env = [.dat (.int a.1), .dat (.int b), .own (a.2.map .int)] ∧ rw b n = a.2 ++ rw b a.1 ∧ a.1 < 2 ^ BND) (fun a => a.1) (n, []) ⟨rfl, rfl, hn⟩ ?_
  rintro ⟨m, xs⟩ env K ⟨rfl, hx, hm⟩ hK
  dsimp only at hx hm
  simp only [ex_seq, ex_next, ex_if, ex_ret, ex_set, ex_setO, ex_app, ex_aug, ex_var, ex_vw, ex_c, ex_d2, ex_b, ex_onD, ex_onVd, ex_onVo, ex_onO, ex_onB, ex_onS, ex_int, ex_addI, ex_addS, ex_addT, ex_nil, ex_cons, ex_tup, ex_lst, ex_cb, ex_tupleL, ex_tupleT, get_0, get_s, ex_for, ex_nm, ex_gnil, ex_gcons, ex_gtup, ex_gtupL, ex_asg, ex_par, ex_iseq, ex_onSeqT, ex_onSeqL, ex_onSeqS, ex_ienum, ex_irev, ex_onLTt, ex_onLTl, ex_rng1, ex_ifE, ex_and, ex_or, ex_not, ex_andV, ex_orV, ex_notV, ex_ixL, ex_call, ex_callN, ex_rev, ex_revL, ex_cat, ex_rep, ex_sl, ex_slA, ex_slL, ex_nopt, ex_pt, ex_eq, ex_ne, ex_yes, ex_lc, ex_lenT, ex_lenL, ex_lenS, ex_int2, ex_augIx, ex_isT, ex_chain, ex_asg2, ex_neg, List.set, startD, List.replicate, List.map_nil, List.map_cons, List.length_cons, List.length_nil, List.cons_append, List.nil_append, Nat.sub_self, Nat.reduceSub, Nat.reduceAdd, wipeE, decide_true, decide_false, if_true, if_false, true_and, and_true, Bool.not_true, Bool.not_false, Bool.false_eq_true, ex_frz, ex_draw, ex_fld, ex_meth, ex_make, ex_isC, ex_joinS, ex_orS, ex_joined, ex_js, ex_js0, ex_fmt, ex_part, ex_split, ex_inS, ex_toStr, ex_toIntS, ex_ownT, ex_own, ex_listL, ex_listT, ex_reprT, ex_reprL, ex_reprI, ex_slS, ex_toIntB, ex_toIntI, ex_put, ex_drop, ex_never, isT1, isT2, isT3, isT4, tyI, tyT, tyS, pyI, pyB, pyT0, pyIs, Nat.zero_le, deqv_int, deqv_bl]
  by_cases h0 : m = 0
  · subst h0
    simp only [rw_zero, List.append_nil] at hx
    simp only [ex_seq, ex_next, ex_if, ex_ret, ex_set, ex_setO, ex_app, ex_aug, ex_var, ex_vw, ex_c, ex_d2, ex_b, ex_onD, ex_onVd, ex_onVo, ex_onO, ex_onB, ex_onS, ex_int, ex_addI, ex_addS, ex_addT, ex_nil, ex_cons, ex_tup, ex_lst, ex_cb, ex_tupleL, ex_tupleT, get_0, get_s, ex_for, ex_nm, ex_gnil, ex_gcons, ex_gtup, ex_gtupL, ex_asg, ex_par, ex_iseq, ex_onSeqT, ex_onSeqL, ex_onSeqS, ex_ienum, ex_irev, ex_onLTt, ex_onLTl, ex_rng1, ex_ifE, ex_and, ex_or, ex_not, ex_andV, ex_orV, ex_notV, ex_ixL, ex_call, ex_callN, ex_rev, ex_revL, ex_cat, ex_rep, ex_sl, ex_slA, ex_slL, ex_nopt, ex_pt, ex_eq, ex_ne, ex_yes, ex_lc, ex_lenT, ex_lenL, ex_lenS, ex_int2, ex_augIx, ex_isT, ex_chain, ex_asg2, ex_neg, List.set, startD, List.replicate, List.map_nil, List.map_cons, List.length_cons, List.length_nil, List.cons_append, List.nil_append, Nat.sub_self, Nat.reduceSub, Nat.reduceAdd, wipeE, decide_true, decide_false, if_true, if_false, true_and, and_true, Bool.not_true, Bool.not_false, Bool.false_eq_true, ex_frz, ex_draw, ex_fld, ex_meth, ex_make, ex_isC, ex_joinS, ex_orS, ex_joined, ex_js, ex_js0, ex_fmt, ex_part, ex_split, ex_inS, ex_toStr, ex_toIntS, ex_ownT, ex_own, ex_listL, ex_listT, ex_reprT, ex_reprL, ex_reprI, ex_slS, ex_toIntB, ex_toIntI, ex_put, ex_drop, ex_never, isT1, isT2, isT3, isT4, tyI, tyT, tyS, pyI, pyB, pyT0, pyIs, Nat.zero_le, deqv_int, deqv_bl, Int.lt_irrefl, Int.ofNat_zero, Int.natCast_zero]
    rw [hx] at hQ
    simpa [row] using hQ
  · rw [decide_eq_true (by omega), if_pos rfl]
    have hl := rw_len_le hb BND n hn
    have hl2 : xs.length < (rw b n).length := by rw [hx, List.length_append, rw_pos hb (by omega), List.length_cons]; omega
    refine ⟨by omega, by rw [List.length_map]; unfold BND SZ at *; omega, divOk (by omega) (by omega), hK (m / b, xs ++ [((m % b : Nat) : Int)]) _ ⟨?_, ?_, ?_⟩ (Nat.div_lt_self (by omega) (by omega))⟩
    · simp
    · rw [hx, rw_pos hb (by omega)]; simp
    · exact Nat.lt_of_le_of_lt (Nat.div_le_self _ _) hm
end MD
end
section
/-! Rows of limbs: more plain Lean. -/
namespace MD
open PySem L2
theorem wt_append {b : Nat} : ∀ (xs ys : List Int), wt b (xs ++ ys) = wt b xs + (b : Int) ^ xs.length * wt b ys
  | [], ys => by rw [List.nil_append, List.length_nil, Int.pow_zero, Int.one_mul]; show _ = 0 + _; omega
  | x :: xs, ys => by
    show x + b * wt b (xs ++ ys) = x + b * wt b xs + (b : Int) ^ (xs.length + 1) * wt b ys
    rw [wt_append xs ys, Int.mul_add, Int.pow_succ, Int.mul_comm ((b : Int) ^ xs.length) b, Int.mul_assoc]
    omega
theorem wt_one {b : Nat} (d : Int) : wt b [d] = d := by show d + b * 0 = d; omega
theorem Dg.append {b : Nat} {xs ys : List Int} (h : Dg b xs) (k : Dg b ys) : Dg b (xs ++ ys) := fun d hd => (List.mem_append.mp hd).elim (h d) (k d)
theorem Dg.left {b : Nat} {xs ys : List Int} (h : Dg b (xs ++ ys)) : Dg b xs := fun d hd => h d (List.mem_append_left _ hd)
theorem Dg.right {b : Nat} {xs ys : List Int} (h : Dg b (xs ++ ys)) : Dg b ys := fun d hd => h d (List.mem_append_right _ hd)
theorem dg_nil {b : Nat} : Dg b [] := fun d hd => by cases hd
theorem dg_one {b : Nat} {d : Int} (h : 0 ≤ d ∧ d < b) : Dg b [d] := fun e he => by cases List.mem_singleton.mp he; exact h
theorem pow_pos' {b : Nat} (hb : 2 ≤ b) (k : Nat) : (0 : Int) < (b : Int) ^ k := Int.pow_pos (by omega)
theorem wt_lt {b : Nat} (hb : 2 ≤ b) : ∀ {xs : List Int}, Dg b xs → wt b xs < (b : Int) ^ xs.length
  | [], _ => by show (0 : Int) < 1; decide
  | x :: xs, h => by
    have h1 := wt_lt hb h.cons.2
    have h2 := h.cons.1.2
    show x + b * wt b xs < (b : Int) ^ (xs.length + 1)
    rw [Int.pow_succ]
    have h3 : (b : Int) * (wt b xs + 1) ≤ b * (b : Int) ^ xs.length := Int.mul_le_mul_of_nonneg_left (by omega) (by omega)
    rw [Int.mul_add, Int.mul_one] at h3
    rw [Int.mul_comm ((b : Int) ^ xs.length)]
    omega
theorem strip_snoc0 : ∀ xs : List Int, strip (xs ++ [0]) = strip xs
  | [] => by decide
  | x :: xs => by
    show strip (x :: (xs ++ [0])) = _
    unfold strip
    rw [strip_snoc0 xs]
theorem strip_snoc {x : Int} (hx : x ≠ 0) : ∀ xs : List Int, strip (xs ++ [x]) = xs ++ [x]
  | [] => by
    show strip [x] = [x]
    unfold strip
    show (if x = 0 then [] else [x]) = [x]
    rw [if_neg hx]
  | y :: xs => by
    show strip (y :: (xs ++ [x])) = y :: (xs ++ [x])
    unfold strip
    rw [strip_snoc hx xs]
    cases h : xs ++ [x] with
    | nil => simp at h
    | cons a b => rfl
/-- digits without noughts behind are the limbs of their worth -/
theorem rw_of_ge {b : Nat} (hb : 2 ≤ b) {xs : List Int} (h : Dg b xs) (hne : xs ≠ []) (hw : (b : Int) ^ (xs.length - 1) ≤ wt b xs) : rw b (wt b xs).toNat = xs := by
  rw [← strip_rw hb xs h]
  rcases List.eq_nil_or_concat xs with e | ⟨ys, x, e⟩
  · exact absurd e hne
  · rw [List.concat_eq_append] at e
    subst e
    by_cases hx : x = 0
    · subst hx
      rw [wt_append, wt_one, Int.mul_zero, Int.add_zero] at hw
      have := wt_lt hb h.left
      rw [List.length_append, List.length_cons, List.length_nil, Nat.add_sub_cancel] at hw
      omega
    · exact strip_snoc hx ys
theorem rw_eq {b n : Nat} (hb : 2 ≤ b) {xs : List Int} (h : Dg b xs) (hw : wt b xs = n) (hg : xs ≠ [] → b ^ (xs.length - 1) ≤ n) : rw b n = xs := by
  by_cases hne : xs = []
  · subst hne
    have : n = 0 := by have e : (0 : Int) = n := hw; omega
    rw [this, rw_zero]
  · have := rw_of_ge hb h hne (by rw [hw]; exact_mod_cast hg hne)
    rw [hw, Int.toNat_natCast] at this
    exact this
theorem strip_eq {b n : Nat} (hb : 2 ≤ b) {xs : List Int} (h : Dg b xs) (hw : wt b xs = n) : strip xs = rw b n := by
  rw [strip_rw hb xs h, hw, Int.toNat_natCast]
theorem rw_lt {b : Nat} (hb : 2 ≤ b) (n : Nat) : n < b ^ (rw b n).length := by
  have := wt_lt hb (rw_dg hb n)
  rw [wt_rw hb] at this
  exact_mod_cast this
/-- the last limb is not nought -/
theorem rw_last {b : Nat} (hb : 2 ≤ b) : ∀ n, 0 < n → ∃ xs x, rw b n = xs ++ [x] ∧ 0 < x := fun n => by
  induction n using Nat.strongRecOn with
  | _ n ih =>
    intro hn
    rw [rw_pos hb hn]
    by_cases h : n / b = 0
    · have hlt : n < b := by
        rcases Nat.div_eq_zero_iff.mp h with h | h
        · omega
        · exact h
      rw [h, rw_zero, Nat.mod_eq_of_lt hlt]
      exact ⟨[], n, rfl, by omega⟩
    · obtain ⟨xs, x, e, hx⟩ := ih (n / b) (Nat.div_lt_self hn (by omega)) (Nat.pos_of_ne_zero h)
      rw [e]
      exact ⟨_ :: xs, x, rfl, hx⟩
theorem rw_ge {b : Nat} (hb : 2 ≤ b) {n : Nat} (hn : 0 < n) : b ^ ((rw b n).length - 1) ≤ n := by
  obtain ⟨xs, x, e, hx⟩ := rw_last hb n hn
  have hw := wt_rw hb n
  have hd := rw_dg hb n
  rw [e] at hw hd
  rw [wt_append, wt_one] at hw
  rw [e, List.length_append, List.length_cons, List.length_nil, Nat.add_sub_cancel]
  have h1 := wt_nn hd.left
  have h2 : (b : Int) ^ xs.length * 1 ≤ (b : Int) ^ xs.length * x := Int.mul_le_mul_of_nonneg_left (by omega) (Int.le_of_lt (pow_pos' hb _))
  have : ((b ^ xs.length : Nat) : Int) ≤ n := by
    rw [Int.natCast_pow]; omega
  exact_mod_cast this
/-- the limbs of a quotient and a rest by a power -/
theorem rw_split {b : Nat} (hb : 2 ≤ b) : ∀ (k n : Nat), ∃ lo hi, rw b n = lo ++ hi ∧ lo.length = min k (rw b n).length ∧ wt b lo = (n % b ^ k : Nat) ∧ hi = rw b (n / b ^ k)
  | 0, n => ⟨[], rw b n, rfl, by simp, by simp [wt, Nat.mod_one], by simp⟩
  | k + 1, n => by
    by_cases hn : n = 0
    · subst hn
      exact ⟨[], [], by rw [rw_zero]; rfl, by simp [rw_zero], by simp [wt], by simp [rw_zero]⟩
    · obtain ⟨lo, hi, e1, e2, e3, e4⟩ := rw_split hb k (n / b)
      rw [rw_pos hb (by omega), e1]
      refine ⟨((n % b : Nat) : Int) :: lo, hi, rfl, ?_, ?_, ?_⟩
      · rw [List.length_cons, e2, List.length_cons, ← e1]; omega
      · show ((n % b : Nat) : Int) + b * wt b lo = _
        rw [e3, Nat.pow_succ, Nat.mul_comm (b ^ k) b, Nat.mod_mul]
        simp
      · rw [e4, Nat.div_div_eq_div_mul, Nat.pow_succ, Nat.mul_comm (b ^ k) b]
theorem rw_take {b : Nat} (hb : 2 ≤ b) (k n : Nat) : Dg b ((rw b n).take k) ∧ wt b ((rw b n).take k) = (n % b ^ k : Nat) ∧ (rw b n).drop k = rw b (n / b ^ k) := by
  obtain ⟨lo, hi, e1, e2, e3, e4⟩ := rw_split hb k n
  have hd := rw_dg hb n
  by_cases hk : k ≤ (rw b n).length
  · rw [Nat.min_eq_left hk] at e2
    have t : (rw b n).take k = lo := by rw [e1, ← e2, List.take_left]
    have d : (rw b n).drop k = hi := by rw [e1, ← e2, List.drop_left]
    rw [e1] at hd
    rw [t, d]
    exact ⟨hd.left, e3, e4⟩
  · have h1 : n < b ^ k := Nat.lt_of_lt_of_le (rw_lt hb n) (Nat.pow_le_pow_right (by omega) (by omega))
    rw [List.take_of_length_le (by omega), List.drop_of_length_le (by omega), Nat.mod_eq_of_lt h1, Nat.div_eq_of_lt h1, rw_zero]
    exact ⟨hd, wt_rw hb n, rfl⟩
/-- order by the greatest limb first -/
theorem lexLt_wt {b : Nat} (hb : 2 ≤ b) : ∀ (xs ys : List Int), xs.length = ys.length → Dg b xs → Dg b ys → HT.lexLt xs ys = decide (wt b xs.reverse < wt b ys.reverse)
  | [], [], _, _, _ => by simp [HT.lexLt]
  | x :: xs, y :: ys, hl, hx, hy => by
    have hl' : xs.length = ys.length := by simpa using hl
    have ih := lexLt_wt hb xs ys hl' hx.cons.2 hy.cons.2
    have dx : Dg b xs.reverse := fun d hd => hx.cons.2 d (List.mem_reverse.mp hd)
    have dy : Dg b ys.reverse := fun d hd => hy.cons.2 d (List.mem_reverse.mp hd)
    have hp := pow_pos' hb xs.length
    rw [HT.lexLt_cons, List.reverse_cons, List.reverse_cons, wt_append, wt_append, wt_one, wt_one, List.length_reverse, List.length_reverse, ← hl']
    by_cases e : x = y
    · subst e
      rw [if_pos rfl, ih]
      congr 1
      apply propext
      omega
    · rw [if_neg e]
      have l1 := wt_lt hb dx
      have l2 := wt_lt hb dy
      have n1 := wt_nn dx
      have n2 := wt_nn dy
      rw [List.length_reverse] at l1 l2
      rw [← hl'] at l2
      congr 1
      apply propext
      rcases Int.lt_or_gt_of_ne e with h | h
      · have : (b : Int) ^ xs.length * (x + 1) ≤ (b : Int) ^ xs.length * y := Int.mul_le_mul_of_nonneg_left (by omega) (by omega)
        rw [Int.mul_add, Int.mul_one] at this
        exact ⟨fun _ => by omega, fun _ => h⟩
      · have : (b : Int) ^ xs.length * (y + 1) ≤ (b : Int) ^ xs.length * x := Int.mul_le_mul_of_nonneg_left (by omega) (by omega)
        rw [Int.mul_add, Int.mul_one] at this
        exact ⟨fun z => by omega, fun z => by omega⟩
theorem rw_len_lt {b m n : Nat} (hb : 2 ≤ b) (h : (rw b m).length < (rw b n).length) : m < n := by
  have h1 := rw_lt hb m
  have hn : 0 < n := by
    rcases Nat.eq_zero_or_pos n with z | z
    · subst z; rw [rw_zero] at h; simp at h
    · exact z
  have h2 := rw_ge hb hn
  exact Nat.lt_of_lt_of_le h1 (Nat.le_trans (Nat.pow_le_pow_right (by omega) (by omega)) h2)
theorem rw_len_mono {b m n : Nat} (hb : 2 ≤ b) (h : m ≤ n) : (rw b m).length ≤ (rw b n).length := by
  rcases Nat.lt_or_ge (rw b n).length (rw b m).length with z | z
  · have := rw_len_lt hb z; omega
  · exact z
end MD
namespace MD
theorem rw_getD {b : Nat} (hb : 2 ≤ b) : ∀ (i n : Nat), (rw b n).getD i 0 = ((n / b ^ i % b : Nat) : Int)
  | 0, n => by
    by_cases hn : n = 0
    · subst hn; rw [rw_zero]; simp
    · rw [rw_pos hb (by omega)]; simp
  | i + 1, n => by
    by_cases hn : n = 0
    · subst hn; rw [rw_zero]; simp
    · rw [rw_pos hb (by omega), Nat.pow_succ, Nat.mul_comm (b ^ i) b, ← Nat.div_div_eq_div_mul]
      exact rw_getD hb i (n / b)
theorem rw_get {b : Nat} (hb : 2 ≤ b) {i n : Nat} (h : i < (rw b n).length) : (rw b n)[i] = ((n / b ^ i % b : Nat) : Int) := by
  rw [← rw_getD hb i n]
  simp [List.getD, h]
theorem mod_succ (n b i : Nat) : ((n % b ^ (i + 1) : Nat) : Int) = (n % b ^ i : Nat) + (b : Int) ^ i * (n / b ^ i % b : Nat) := by
  rw [Nat.mod_pow_succ]
  push_cast
  rfl
theorem wt_snoc {b : Nat} (xs : List Int) (d : Int) : wt b (xs ++ [d]) = wt b xs + (b : Int) ^ xs.length * d := by rw [wt_append, wt_one]
theorem ediv_step {s b P : Int} : P * (s % b) + s / b * (P * b) = P * s := by
  have : s % b + b * (s / b) = s := by have := Int.emod_add_mul_ediv s b; omega
  have e : P * (s % b + b * (s / b)) = P * s := by rw [this]
  rw [← e, Int.mul_add, Int.mul_comm (s / b), Int.mul_assoc]
end MD
end
section
/-! What the defs promise. -/
namespace MD
open PySem L2
def Bs (b : Nat) : Prop := 2 ≤ b ∧ b ≤ 10000
def rwD (b n : Nat) : D := row (rw b n)
abbrev Post1 (d : D) : D → Prop := fun e => e = d
def S_is_whole : FS := ⟨Int, fun i => [.int i], fun _ => True, fun _ d => d = .bl true⟩
def S_is_base : FS := ⟨Int, fun i => [.int i], fun _ => True, fun i d => d = .bl (decide (2 ≤ i ∧ i ≤ 10000))⟩
def S_is_row : FS := ⟨Nat × Nat, fun x => [rwD x.1 x.2, .int x.1], fun x => Bs x.1 ∧ x.2 < 2 ^ BND, fun _ d => d = .bl true⟩
def S_row_of : FS := ⟨Nat × Nat, fun x => [.int x.1, .int x.2], fun x => Bs x.2 ∧ x.1 < 2 ^ BND, fun x d => d = rwD x.2 x.1⟩
def S_worth_of : FS := ⟨Nat × Nat, fun x => [rwD x.1 x.2, .int x.1], fun x => Bs x.1 ∧ x.2 < 2 ^ BND, fun x d => d = .int x.2⟩
def S_without_noughts : FS := ⟨Bool × List Int, fun x => [if x.1 = true then .lst (x.2.map .int) else row x.2], fun x => x.2.length ≤ SZ, fun x d => d = row (strip x.2)⟩
def S_limb_at : FS := ⟨List Int × Nat, fun x => [row x.1, .int x.2], fun _ => True, fun x d => d = .int (x.1.getD x.2 0)⟩
def S_is_less : FS := ⟨Nat × Nat × Nat, fun x => [rwD x.1 x.2.1, rwD x.1 x.2.2], fun x => Bs x.1, fun x d => d = .bl (decide (x.2.1 < x.2.2))⟩
def S_summed : FS := ⟨Nat × Nat × Nat, fun x => [rwD x.1 x.2.1, rwD x.1 x.2.2, .int x.1], fun x => Bs x.1 ∧ x.2.1 + x.2.2 < 2 ^ BND, fun x d => d = rwD x.1 (x.2.1 + x.2.2)⟩
def S_lessened : FS := ⟨Nat × Nat × Nat, fun x => [rwD x.1 x.2.1, rwD x.1 x.2.2, .int x.1], fun x => Bs x.1 ∧ x.2.2 ≤ x.2.1 ∧ x.2.1 < 2 ^ BND, fun x d => d = rwD x.1 (x.2.1 - x.2.2)⟩
def S_cut_at : FS := ⟨Nat × Nat × Nat, fun x => [rwD x.1 x.2.1, .int x.2.2], fun x => Bs x.1 ∧ x.2.1 < 2 ^ BND, fun x d => d = .tup [rwD x.1 (x.2.1 % x.1 ^ x.2.2), rwD x.1 (x.2.1 / x.1 ^ x.2.2)]⟩
/-- base, row, limb -/
def S_scaled : FS := ⟨Nat × Nat × Nat, fun x => [rwD x.1 x.2.1, .int x.2.2, .int x.1], fun x => Bs x.1 ∧ x.2.2 < x.1 ∧ x.2.1 < 2 ^ BND, fun x d => d = rwD x.1 (x.2.1 * x.2.2)⟩
def S_parted : FS := ⟨Nat × Nat × Nat, fun x => [rwD x.1 x.2.1, .int x.2.2, .int x.1], fun x => Bs x.1 ∧ 0 < x.2.2 ∧ x.2.2 ≤ 10000 ∧ x.2.1 < 2 ^ BND, fun x d => d = .tup [rwD x.1 (x.2.1 / x.2.2), .int (x.2.1 % x.2.2 : Nat)]⟩
def S_column_sums : FS := ⟨Nat × Nat × Nat, fun x => [rwD x.1 x.2.1, rwD x.1 x.2.2], fun x => Bs x.1 ∧ x.2.1 < 2 ^ BND ∧ x.2.2 < 2 ^ BND,
  fun x d => ∃ cs : List Int, d = row cs ∧ wt x.1 cs = (x.2.1 * x.2.2 : Nat) ∧ (x.2.1 * x.2.2 = 0 → cs = []) ∧ (0 < x.2.1 * x.2.2 → cs.length + 1 = (rw x.1 x.2.1).length + (rw x.1 x.2.2).length) ∧ ∀ c ∈ cs, 0 ≤ c⟩
/-- base, sums -/
def S_carried : FS := ⟨Nat × List Int × Nat, fun x => [row x.2.1, .int x.1], fun x => Bs x.1 ∧ x.2.1.length < SZ ∧ (∀ c ∈ x.2.1, 0 ≤ c) ∧ wt x.1 x.2.1 = x.2.2 ∧ x.2.2 < x.1 ^ (x.2.1.length + 1) ∧ (x.2.1 ≠ [] → x.1 ^ (x.2.1.length - 1) ≤ x.2.2),
  fun x d => ∃ cs : List Int, d = .tup [rwD x.1 x.2.2, row cs]⟩
def S_plain_product : FS := ⟨Nat × Nat × Nat, fun x => [rwD x.1 x.2.1, rwD x.1 x.2.2, .int x.1], fun x => Bs x.1 ∧ x.2.1 < 2 ^ BND ∧ x.2.2 < 2 ^ BND, fun x d => d = rwD x.1 (x.2.1 * x.2.2)⟩
/-- into, base, many -/
def S_base_power : FS := ⟨Nat × Nat × Nat, fun x => [.int x.2.2, .int x.1, .int x.2.1], fun x => Bs x.1 ∧ Bs x.2.1 ∧ x.2.1 ^ x.2.2 < 2 ^ BND, fun x d => d = rwD x.1 (x.2.1 ^ x.2.2)⟩
def S_rebased (k : Nat) : FS := ⟨Nat × Nat × Nat, fun x => [rwD x.2.1 x.2.2, .int x.1, .int x.2.1], fun x => Bs x.1 ∧ Bs x.2.1 ∧ 1 ≤ k ∧ (rw x.2.1 x.2.2).length ≤ 2 ^ (k - 1) ∧ x.2.2 < 2 ^ BND, fun x d => d = rwD x.1 x.2.2⟩
/-- base, row, divisor: a guess that is not too small -/
def S_guess_of : FS := ⟨Nat × Nat × Nat, fun x => [rwD x.1 x.2.1, rwD x.1 x.2.2, .int x.1], fun x => Bs x.1 ∧ 0 < x.2.2 ∧ x.2.1 < x.2.2 * x.1 ∧ x.2.2 * x.1 < 2 ^ BND, fun x d => ∃ g : Nat, d = .int g ∧ x.2.1 / x.2.2 ≤ g ∧ g < x.1⟩
/-- quotient limbs and rests, the greatest first, of limbs that follow a rest -/
def turns (b n : Nat) : Nat → List Int → List (Nat × Nat)
  | _, [] => []
  | r, d :: ds => ((d.toNat + b * r) / n, (d.toNat + b * r) % n) :: turns b n ((d.toNat + b * r) % n) ds
def turnD (b : Nat) (x : Int × Nat × Nat) : D := .tup [.int x.1, .int x.2.1, rwD b x.2.2]
def S_turns_of : FS := ⟨Nat × Nat × Nat, fun x => [rwD x.1 x.2.1, rwD x.1 x.2.2, .int x.1], fun x => Bs x.1 ∧ 0 < x.2.2 ∧ x.2.1 < 2 ^ BND ∧ x.2.2 * x.1 < 2 ^ BND,
  fun x d => ∃ ts : List (Int × Nat × Nat), d = .lst (ts.map (turnD x.1)) ∧ ts.map (·.2) = turns x.1 x.2.2 0 (rw x.1 x.2.1).reverse⟩
def S_lifted : FS := ⟨Nat × Nat × Nat, fun x => [rwD x.1 x.2.1, rwD x.1 x.2.2, .int x.1], fun x => Bs x.1 ∧ 0 < x.2.2 ∧ x.2.1 < 2 ^ BND ∧ x.2.2 < 2 ^ BND,
  fun x d => ∃ l : Nat, 1 ≤ l ∧ l < x.1 ∧ d = .tup [.int l, rwD x.1 (x.2.1 * l), rwD x.1 (x.2.2 * l)]⟩
def S_divided : FS := ⟨Nat × Nat × Nat, fun x => [rwD x.1 x.2.1, rwD x.1 x.2.2, .int x.1], fun x => Bs x.1 ∧ 0 < x.2.2 ∧ x.2.1 < 2 ^ 10000 ∧ x.2.2 < 2 ^ 10000,
  fun x d => d = .tup [rwD x.1 (x.2.1 / x.2.2), rwD x.1 (x.2.1 % x.2.2)]⟩
end MD
end
section
/-! The readings of the arithmetic, as gen_der.py prints them. -/
namespace MD
open PySem L2
def T_is_whole : DTS := (dRet (dAndV (dIsT "int" (dVar 0)) (dNotV (dIsT "bool" (dVar 0)))))
def T_is_base : DTS := (dRet (dAndV (dCall S_is_whole [] (dCons (dVar 0) dNil)) (dChain gLe gLe (dC (.int 2)) (dVar 0) (dC (.int 10000)))))
def gk_is_row_1_base (vs zs : List D) : List D := (vs ++ (((zs.drop 0).take 1) ++ []))
theorem e_gk_is_row_1_base (a0 b0 : D) : gk_is_row_1_base [a0] [b0] = [a0, b0] := rfl
def T_is_row : DTS := (dSeq (dIfS (dOr (dNot (dB (dIsT "tuple" (dVar 0)))) (dNot (dB (dCB gAll (dCons (dLc (iSeq (dVar 0)) (gNm 2) dYes (dAndV (dCall S_is_whole [] (dCons (dVar 2) dNil)) (dChain gLe gLt (dC (.int 0)) (dVar 2) (dVar 1))) [2]) dNil))))) (dRet (dC (.bl false))) dNext) (dRet (dOrV (d2 gEq (dVar 0) (dTup dNil)) (d2 gNe (dIx (dVar 0) (dNeg (dC (.int 1)))) (dC (.int 0))))))
def gk_row_of_1_base (vs zs : List D) : List D := (vs ++ (((zs.drop 0).take 1) ++ []))
theorem e_gk_row_of_1_base (a0 b0 : D) : gk_row_of_1_base [a0] [b0] = [a0, b0] := rfl
def gk_worth_of_1_base (vs zs : List D) : List D := (vs ++ (((zs.drop 0).take 1) ++ []))
theorem e_gk_worth_of_1_base (a0 b0 : D) : gk_worth_of_1_base [a0] [b0] = [a0, b0] := rfl
def T_worth_of : DTS := (dSeq (dSet 2 (dC (.int 0))) (dSeq (dFor (iSeq (dRev (dVar 0))) (gNm 3) (dSet 2 (d2 gAdd (d2 gMul (dVar 2) (dVar 1)) (dVar 3)))) (dRet (dVar 2))))
def T_without_noughts : DTS := (dSeq (dSet 1 (dCB gLen (dCons (dVar 0) dNil))) (dSeq (dWhile (dAnd (dB (d2 gGt (dVar 1) (dC (.int 0)))) (dB (d2 gEq (dIx (dVar 0) (d2 gSub (dVar 1) (dC (.int 1)))) (dC (.int 0))))) (dAugG 1 (dC (.int 1)) gSub)) (dRet (dCB gTuple (dCons (dSlA (dVar 0) dNoPt (dPt (dVar 1))) dNil)))))
def T_limb_at : DTS := (dSeq (dIfS (dB (d2 gLt (dVar 1) (dCB gLen (dCons (dVar 0) dNil)))) (dRet (dIx (dVar 0) (dVar 1))) dNext) (dRet (dC (.int 0))))
def T_is_less : DTS := (dSeq (dIfS (dB (d2 gNe (dCB gLen (dCons (dVar 0) dNil)) (dCB gLen (dCons (dVar 1) dNil)))) (dRet (d2 gLt (dCB gLen (dCons (dVar 0) dNil)) (dCB gLen (dCons (dVar 1) dNil)))) dNext) (dRet (d2 gLtT (dRev (dVar 0)) (dRev (dVar 1)))))
def gk_summed_2_base (vs zs : List D) : List D := (vs ++ (((zs.drop 0).take 1) ++ []))
theorem e_gk_summed_2_base (a0 a1 b0 : D) : gk_summed_2_base [a0, a1] [b0] = [a0, a1, b0] := rfl
def T_summed : DTS := (dSeq (dSetO 3 (dLst dNil)) (dSeq (dSet 4 (dC (.int 0))) (dSeq (dFor (iRange1 (dCons (dCB gMax2 (dCons (dCB gLen (dCons (dVar 0) dNil)) (dCons (dCB gLen (dCons (dVar 1) dNil)) dNil))) dNil)) (gNm 5) (dSeq (dAsg (dCB gDivmod (dCons (d2 gAdd (d2 gAdd (dCall S_limb_at [] (dCons (dVar 0) (dCons (dVar 5) dNil))) (dCall S_limb_at [] (dCons (dVar 1) (dCons (dVar 5) dNil)))) (dVar 4)) (dCons (dVar 2) dNil))) (gTupD 2 (gCons' (gNm 4) (gCons' (gNm 6) gNil')))) (dApp 3 (dVar 6)))) (dRet (dCB gTuple (dCons (dCat (dVw 3) (dRep (dLst (dCons (dC (.int 1)) dNil)) (dVar 4))) dNil))))))
def gk_lessened_2_base (vs zs : List D) : List D := (vs ++ (((zs.drop 0).take 1) ++ []))
theorem e_gk_lessened_2_base (a0 a1 b0 : D) : gk_lessened_2_base [a0, a1] [b0] = [a0, a1, b0] := rfl
def T_lessened : DTS := (dSeq (dIfS (dB (dCall S_is_less [] (dCons (dVar 0) (dCons (dVar 1) dNil)))) dNever dNext) (dSeq (dSetO 3 (dLst dNil)) (dSeq (dSet 4 (dC (.int 0))) (dSeq (dFor (iEnumD (dCons (dVar 0) dNil)) (gTupD 2 (gCons' (gNm 5) (gCons' (gNm 6) gNil'))) (dSeq (dSet 7 (d2 gSub (d2 gSub (dVar 6) (dCall S_limb_at [] (dCons (dVar 1) (dCons (dVar 5) dNil)))) (dVar 4))) (dSeq (dSet 4 (dCB gToInt (dCons (d2 gLt (dVar 7) (dC (.int 0))) dNil))) (dApp 3 (d2 gAdd (dVar 7) (d2 gMul (dVar 4) (dVar 2))))))) (dFrz 3 (dRet (dCall S_without_noughts [] (dCons (dVar 3) dNil))))))))
def T_cut_at : DTS := (dRet (dTup (dCons (dCall S_without_noughts [] (dCons (dSl (dVar 0) dNoPt (dPt (dVar 1))) dNil)) (dCons (dSl (dVar 0) (dPt (dVar 1)) dNoPt) dNil))))
def gk_scaled_2_base (vs zs : List D) : List D := (vs ++ (((zs.drop 0).take 1) ++ []))
theorem e_gk_scaled_2_base (a0 a1 b0 : D) : gk_scaled_2_base [a0, a1] [b0] = [a0, a1, b0] := rfl
def T_scaled : DTS := (dSeq (dSetO 3 (dLst dNil)) (dSeq (dSet 4 (dC (.int 0))) (dSeq (dFor (iSeq (dVar 0)) (gNm 5) (dSeq (dAsg (dCB gDivmod (dCons (d2 gAdd (d2 gMul (dVar 5) (dVar 1)) (dVar 4)) (dCons (dVar 2) dNil))) (gTupD 2 (gCons' (gNm 4) (gCons' (gNm 6) gNil')))) (dApp 3 (dVar 6)))) (dRet (dCall S_without_noughts [] (dCons (dCat (dVw 3) (dLst (dCons (dVar 4) dNil))) dNil))))))
def gk_parted_2_base (vs zs : List D) : List D := (vs ++ (((zs.drop 0).take 1) ++ []))
theorem e_gk_parted_2_base (a0 a1 b0 : D) : gk_parted_2_base [a0, a1] [b0] = [a0, a1, b0] := rfl
def T_parted : DTS := (dSeq (dSetO 3 (dLst dNil)) (dSeq (dSet 4 (dC (.int 0))) (dSeq (dFor (iSeq (dRev (dVar 0))) (gNm 5) (dSeq (dAsg (dCB gDivmod (dCons (d2 gAdd (d2 gMul (dVar 4) (dVar 2)) (dVar 5)) (dCons (dVar 1) dNil))) (gTupD 2 (gCons' (gNm 6) (gCons' (gNm 4) gNil')))) (dApp 3 (dVar 6)))) (dRet (dTup (dCons (dCall S_without_noughts [] (dCons (dRevL (dVw 3)) dNil)) (dCons (dVar 4) dNil)))))))
def T_column_sums : DTS := (dSeq (dIfS (dOr (dB (d2 gEq (dVar 0) (dTup dNil))) (dB (d2 gEq (dVar 1) (dTup dNil)))) (dRet (dTup dNil)) dNext) (dSeq (dSetO 2 (dRep (dLst (dCons (dC (.int 0)) dNil)) (d2 gSub (d2 gAdd (dCB gLen (dCons (dVar 0) dNil)) (dCB gLen (dCons (dVar 1) dNil))) (dC (.int 1))))) (dSeq (dFor (iEnumD (dCons (dVar 0) dNil)) (gTupD 2 (gCons' (gNm 3) (gCons' (gNm 4) gNil'))) (dFor (iEnumD (dCons (dVar 1) dNil)) (gTupD 2 (gCons' (gNm 5) (gCons' (gNm 6) gNil'))) (dAugIx 2 (d2 gAdd (dVar 3) (dVar 5)) (d2 gMul (dVar 4) (dVar 6)) fun i j => i + j))) (dRet (dCB gTuple (dCons (dVw 2) dNil))))))
def T_carried : DTS := (dSeq (dSetO 2 (dLst dNil)) (dSeq (dSetO 3 (dLst dNil)) (dSeq (dSet 4 (dC (.int 0))) (dSeq (dFor (iSeq (dVar 0)) (gNm 5) (dSeq (dAsg (dCB gDivmod (dCons (d2 gAdd (dVar 4) (dVar 5)) (dCons (dVar 1) dNil))) (gTupD 2 (gCons' (gNm 4) (gCons' (gNm 6) gNil')))) (dSeq (dApp 2 (dVar 6)) (dApp 3 (dVar 4))))) (dSeq (dIfS (dB (d2 gGt (dVar 4) (dC (.int 0)))) (dApp 2 (dVar 4)) dNext) (dRet (dTup (dCons (dCB gTuple (dCons (dVw 2) dNil)) (dCons (dCB gTuple (dCons (dVw 3) dNil)) dNil)))))))))
def gk_plain_product_2_base (vs zs : List D) : List D := (vs ++ (((zs.drop 0).take 1) ++ []))
theorem e_gk_plain_product_2_base (a0 a1 b0 : D) : gk_plain_product_2_base [a0, a1] [b0] = [a0, a1, b0] := rfl
def T_plain_product : DTS := (dSeq (dAsg (dCall S_carried [] (dCons (dCall S_column_sums [] (dCons (dVar 0) (dCons (dVar 1) dNil))) (dCons (dVar 2) dNil))) (gTupD 2 (gCons' (gNm 3) (gCons' (gNm 4) gNil')))) (dRet (dVar 3)))
def gk_base_power_1_into_base (vs zs : List D) : List D := (vs ++ (((zs.drop 0).take 1) ++ (((zs.drop 1).take 1) ++ [])))
theorem e_gk_base_power_1_into_base (a0 b0 b1 : D) : gk_base_power_1_into_base [a0] [b0, b1] = [a0, b0, b1] := rfl
def T_base_power : DTS := (dSeq (dSet 3 (dTup (dCons (dC (.int 1)) dNil))) (dSeq (dSet 4 (dCallN S_row_of gk_row_of_1_base 1 1 (dCons (dVar 2) dNil) (dCons (dVar 1) dNil))) (dSeq (dWhile (dB (d2 gGt (dVar 0) (dC (.int 0)))) (dSeq (dIfS (dB (d2 gEq (d2 gMod (dVar 0) (dC (.int 2))) (dC (.int 1)))) (dSet 3 (dCallN S_plain_product gk_plain_product_2_base 2 1 (dCons (dVar 3) (dCons (dVar 4) dNil)) (dCons (dVar 1) dNil))) dNext) (dSeq (dAugG 0 (dC (.int 2)) gFdiv) (dIfS (dB (d2 gGt (dVar 0) (dC (.int 0)))) (dSet 4 (dCallN S_plain_product gk_plain_product_2_base 2 1 (dCons (dVar 4) (dCons (dVar 4) dNil)) (dCons (dVar 1) dNil))) dNext)))) (dRet (dVar 3)))))
def gk_rebased_1_base_into (vs zs : List D) : List D := (vs ++ (((zs.drop 1).take 1) ++ (((zs.drop 0).take 1) ++ [])))
theorem e_gk_rebased_1_base_into (a0 b0 b1 : D) : gk_rebased_1_base_into [a0] [b0, b1] = [a0, b1, b0] := rfl
def gk_rebased_1_into_base (vs zs : List D) : List D := (vs ++ (((zs.drop 0).take 1) ++ (((zs.drop 1).take 1) ++ [])))
theorem e_gk_rebased_1_into_base (a0 b0 b1 : D) : gk_rebased_1_into_base [a0] [b0, b1] = [a0, b0, b1] := rfl
def gk_rebased_1_into (vs zs : List D) : List D := (vs ++ (((zs.drop 0).take 1) ++ ([.int 10] ++ [])))
theorem e_gk_rebased_1_into (a0 b0 : D) : gk_rebased_1_into [a0] [b0] = [a0, b0, .int 10] := rfl
def T_rebased (s : FS) : DTS := (dSeq (dIfS (dB (d2 gLt (dCB gLen (dCons (dVar 0) dNil)) (dC (.int 2)))) (dRet (dCallN S_row_of gk_row_of_1_base 1 1 (dCons (dCB gSum (dCons (dVar 0) dNil)) dNil) (dCons (dVar 1) dNil))) dNext) (dSeq (dSet 3 (d2 gFdiv (dCB gLen (dCons (dVar 0) dNil)) (dC (.int 2)))) (dSeq (dAsg (dLc (iSeq (dCall S_cut_at [] (dCons (dVar 0) (dCons (dVar 3) dNil)))) (gNm 4) dYes (dCallN s gk_rebased_1_into_base 1 2 (dCons (dVar 4) dNil) (dCons (dVar 1) (dCons (dVar 2) dNil))) [4]) (gTupD 2 (gCons' (gNm 5) (gCons' (gNm 6) gNil')))) (dRet (dCallN S_summed gk_summed_2_base 2 1 (dCons (dCallN S_plain_product gk_plain_product_2_base 2 1 (dCons (dVar 6) (dCons (dCallN S_base_power gk_base_power_1_into_base 1 2 (dCons (dVar 3) dNil) (dCons (dVar 1) (dCons (dVar 2) dNil))) dNil)) (dCons (dVar 1) dNil)) (dCons (dVar 5) dNil)) (dCons (dVar 1) dNil))))))
def T_guess_of : DTS := (dSeq (dSet 3 (dC (.int 0))) (dSeq (dFor (iRevD (dSl (dVar 0) (dPt (d2 gSub (dCB gLen (dCons (dVar 1) dNil)) (dC (.int 1)))) dNoPt)) (gNm 4) (dSet 3 (d2 gAdd (d2 gMul (dVar 3) (dVar 2)) (dVar 4)))) (dRet (dCB gMin2 (dCons (d2 gSub (dVar 2) (dC (.int 1))) (dCons (d2 gFdiv (dVar 3) (dIx (dVar 1) (dNeg (dC (.int 1))))) dNil))))))
def T_turns_of : DTS := (dSeq (dSetO 3 (dLst dNil)) (dSeq (dSet 4 (dTup dNil)) (dSeq (dFor (iSeq (dRev (dVar 0))) (gNm 5) (dSeq (dSet 6 (dCall S_without_noughts [] (dCons (d2 gAdd (dTup (dCons (dVar 5) dNil)) (dVar 4)) dNil))) (dSeq (dAsg2 (dCall S_guess_of [] (dCons (dVar 6) (dCons (dVar 1) (dCons (dVar 2) dNil)))) (gNm 7) (gNm 8)) (dSeq (dSet 9 (dCallN S_scaled gk_scaled_2_base 2 1 (dCons (dVar 1) (dCons (dVar 8) dNil)) (dCons (dVar 2) dNil))) (dSeq (dWhile (dB (dCall S_is_less [] (dCons (dVar 6) (dCons (dVar 9) dNil)))) (dSeq (dAugG 8 (dC (.int 1)) gSub) (dSet 9 (dCallN S_lessened gk_lessened_2_base 2 1 (dCons (dVar 9) (dCons (dVar 1) dNil)) (dCons (dVar 2) dNil))))) (dSeq (dSet 4 (dCallN S_lessened gk_lessened_2_base 2 1 (dCons (dVar 6) (dCons (dVar 9) dNil)) (dCons (dVar 2) dNil))) (dApp 3 (dTup (dCons (dVar 7) (dCons (dVar 8) (dCons (dVar 4) dNil))))))))))) (dRet (dVw 3)))))
def T_lifted : DTS := (dSeq (dSet 3 (d2 gFdiv (dVar 2) (d2 gAdd (dIx (dVar 1) (dNeg (dC (.int 1)))) (dC (.int 1))))) (dRet (dTup (dCons (dVar 3) (dCons (dCallN S_scaled gk_scaled_2_base 2 1 (dCons (dVar 0) (dCons (dVar 3) dNil)) (dCons (dVar 2) dNil)) (dCons (dCallN S_scaled gk_scaled_2_base 2 1 (dCons (dVar 1) (dCons (dVar 3) dNil)) (dCons (dVar 2) dNil)) dNil))))))
def gk_divided_2_base (vs zs : List D) : List D := (vs ++ (((zs.drop 0).take 1) ++ []))
theorem e_gk_divided_2_base (a0 a1 b0 : D) : gk_divided_2_base [a0, a1] [b0] = [a0, a1, b0] := rfl
def T_divided : DTS := (dSeq (dIfS (dB (d2 gEq (dVar 1) (dTup dNil))) dNever dNext) (dSeq (dAsg (dCall S_lifted [] (dCons (dVar 0) (dCons (dVar 1) (dCons (dVar 2) dNil)))) (gTupD 3 (gCons' (gNm 3) (gCons' (gNm 4) (gCons' (gNm 5) gNil'))))) (dSeq (dSet 6 (dTup dNil)) (dSeq (dSetO 7 (dLst dNil)) (dSeq (dFor (iSeq (dCall S_turns_of [] (dCons (dVar 4) (dCons (dVar 5) (dCons (dVar 2) dNil))))) (gTupD 3 (gCons' (gNm 8) (gCons' (gNm 9) (gCons' (gNm 6) gNil')))) (dApp 7 (dVar 9))) (dRet (dTup (dCons (dCall S_without_noughts [] (dCons (dRevL (dVw 7)) dNil)) (dCons (dIx (dCallN S_parted gk_parted_2_base 2 1 (dCons (dVar 6) (dCons (dVar 3) dNil)) (dCons (dVar 2) dNil)) (dC (.int 0))) dNil)))))))))
end MD
end
section
/-! The arithmetic keeps its promises (1). -/
namespace MD
open PySem L2
/-- a reading keeps a promise -/
abbrev Keeps (s : FS) (T : DTS) (n : Nat) : Prop := ∀ a, s.pre a → T ⟨fun _ => s.post a .non, s.post a, fun _ => False, fun _ => False⟩ (startD n (s.arg a))
theorem ok_is_whole : Keeps S_is_whole T_is_whole 1 := by
  intro (i : Int) _
  show T_is_whole ⟨_, _, _, _⟩ (startD 1 [.int i])
  simp only [T_is_whole, ex_seq, ex_next, ex_if, ex_ret, ex_set, ex_setO, ex_app, ex_aug, ex_var, ex_vw, ex_c, ex_d2, ex_b, ex_onD, ex_onVd, ex_onVo, ex_onO, ex_onB, ex_onS, ex_int, ex_addI, ex_addS, ex_addT, ex_nil, ex_cons, ex_tup, ex_lst, ex_cb, ex_tupleL, ex_tupleT, get_0, get_s, ex_for, ex_nm, ex_gnil, ex_gcons, ex_gtup, ex_gtupL, ex_asg, ex_par, ex_iseq, ex_onSeqT, ex_onSeqL, ex_onSeqS, ex_ienum, ex_irev, ex_onLTt, ex_onLTl, ex_rng1, ex_ifE, ex_and, ex_or, ex_not, ex_andV, ex_orV, ex_notV, ex_ixL, ex_call, ex_callN, ex_rev, ex_revL, ex_cat, ex_rep, ex_sl, ex_slA, ex_slL, ex_nopt, ex_pt, ex_eq, ex_ne, ex_yes, ex_lc, ex_lenT, ex_lenL, ex_lenS, ex_int2, ex_augIx, ex_isT, ex_chain, ex_asg2, ex_neg, List.set, startD, List.replicate, List.map_nil, List.map_cons, List.length_cons, List.length_nil, List.cons_append, List.nil_append, Nat.sub_self, Nat.reduceSub, Nat.reduceAdd, wipeE, decide_true, decide_false, if_true, if_false, true_and, and_true, Bool.not_true, Bool.not_false, Bool.false_eq_true, ex_frz, ex_draw, ex_fld, ex_meth, ex_make, ex_isC, ex_joinS, ex_orS, ex_joined, ex_js, ex_js0, ex_fmt, ex_part, ex_split, ex_inS, ex_toStr, ex_toIntS, ex_ownT, ex_own, ex_listL, ex_listT, ex_reprT, ex_reprL, ex_reprI, ex_slS, ex_toIntB, ex_toIntI, ex_put, ex_drop, ex_never, isT1, isT2, isT3, isT4, tyI, tyT, tyS, pyI, pyB, pyT0, pyIs, Nat.zero_le, deqv_int, deqv_bl]
  exact rfl
theorem ok_is_base : Keeps S_is_base T_is_base 1 := by
  intro (i : Int) _
  show T_is_base ⟨_, S_is_base.post i, _, _⟩ (startD 1 [.int i])
  simp only [T_is_base, ex_seq, ex_next, ex_if, ex_ret, ex_set, ex_setO, ex_app, ex_aug, ex_var, ex_vw, ex_c, ex_d2, ex_b, ex_onD, ex_onVd, ex_onVo, ex_onO, ex_onB, ex_onS, ex_int, ex_addI, ex_addS, ex_addT, ex_nil, ex_cons, ex_tup, ex_lst, ex_cb, ex_tupleL, ex_tupleT, get_0, get_s, ex_for, ex_nm, ex_gnil, ex_gcons, ex_gtup, ex_gtupL, ex_asg, ex_par, ex_iseq, ex_onSeqT, ex_onSeqL, ex_onSeqS, ex_ienum, ex_irev, ex_onLTt, ex_onLTl, ex_rng1, ex_ifE, ex_and, ex_or, ex_not, ex_andV, ex_orV, ex_notV, ex_ixL, ex_call, ex_callN, ex_rev, ex_revL, ex_cat, ex_rep, ex_sl, ex_slA, ex_slL, ex_nopt, ex_pt, ex_eq, ex_ne, ex_yes, ex_lc, ex_lenT, ex_lenL, ex_lenS, ex_int2, ex_augIx, ex_isT, ex_chain, ex_asg2, ex_neg, List.set, startD, List.replicate, List.map_nil, List.map_cons, List.length_cons, List.length_nil, List.cons_append, List.nil_append, Nat.sub_self, Nat.reduceSub, Nat.reduceAdd, wipeE, decide_true, decide_false, if_true, if_false, true_and, and_true, Bool.not_true, Bool.not_false, Bool.false_eq_true, ex_frz, ex_draw, ex_fld, ex_meth, ex_make, ex_isC, ex_joinS, ex_orS, ex_joined, ex_js, ex_js0, ex_fmt, ex_part, ex_split, ex_inS, ex_toStr, ex_toIntS, ex_ownT, ex_own, ex_listL, ex_listT, ex_reprT, ex_reprL, ex_reprI, ex_slS, ex_toIntB, ex_toIntI, ex_put, ex_drop, ex_never, isT1, isT2, isT3, isT4, tyI, tyT, tyS, pyI, pyB, pyT0, pyIs, Nat.zero_le, deqv_int, deqv_bl]
  refine ⟨i, rfl, trivial, fun d hd => ?_⟩
  subst hd
  simp only [ex_seq, ex_next, ex_if, ex_ret, ex_set, ex_setO, ex_app, ex_aug, ex_var, ex_vw, ex_c, ex_d2, ex_b, ex_onD, ex_onVd, ex_onVo, ex_onO, ex_onB, ex_onS, ex_int, ex_addI, ex_addS, ex_addT, ex_nil, ex_cons, ex_tup, ex_lst, ex_cb, ex_tupleL, ex_tupleT, get_0, get_s, ex_for, ex_nm, ex_gnil, ex_gcons, ex_gtup, ex_gtupL, ex_asg, ex_par, ex_iseq, ex_onSeqT, ex_onSeqL, ex_onSeqS, ex_ienum, ex_irev, ex_onLTt, ex_onLTl, ex_rng1, ex_ifE, ex_and, ex_or, ex_not, ex_andV, ex_orV, ex_notV, ex_ixL, ex_call, ex_callN, ex_rev, ex_revL, ex_cat, ex_rep, ex_sl, ex_slA, ex_slL, ex_nopt, ex_pt, ex_eq, ex_ne, ex_yes, ex_lc, ex_lenT, ex_lenL, ex_lenS, ex_int2, ex_augIx, ex_isT, ex_chain, ex_asg2, ex_neg, List.set, startD, List.replicate, List.map_nil, List.map_cons, List.length_cons, List.length_nil, List.cons_append, List.nil_append, Nat.sub_self, Nat.reduceSub, Nat.reduceAdd, wipeE, decide_true, decide_false, if_true, if_false, true_and, and_true, Bool.not_true, Bool.not_false, Bool.false_eq_true, ex_frz, ex_draw, ex_fld, ex_meth, ex_make, ex_isC, ex_joinS, ex_orS, ex_joined, ex_js, ex_js0, ex_fmt, ex_part, ex_split, ex_inS, ex_toStr, ex_toIntS, ex_ownT, ex_own, ex_listL, ex_listT, ex_reprT, ex_reprL, ex_reprI, ex_slS, ex_toIntB, ex_toIntI, ex_put, ex_drop, ex_never, isT1, isT2, isT3, isT4, tyI, tyT, tyS, pyI, pyB, pyT0, pyIs, Nat.zero_le, deqv_int, deqv_bl]
  by_cases h : 2 ≤ i
  · rw [decide_eq_true h, if_pos rfl]
    show _ = _
    simp [h]
  · rw [decide_eq_false h, if_neg (by decide)]
    show _ = _
    simp [h]
theorem ok_row_of : Keeps S_row_of T_row_of 3 := fun a h => run_row_of (n := a.1) (b := a.2) h.1.1 (by have := h.1.2; omega) h.2 _ rfl
theorem row_cons {d : Int} {r : List Int} : row (d :: r) = .tup (.int d :: r.map .int) := rfl
theorem row_nil : row [] = .tup [] := rfl
theorem pyOk_row (ns : List Int) : pyOk (row ns) = true := pyOk_ints ns
theorem deqv_row (ns ms : List Int) : deqv (row ns) (row ms) = decide (ns = ms) := deqv_ints ns ms
theorem len_SZ {b n : Nat} (hb : 2 ≤ b) (h : n < 2 ^ BND) : (rw b n).length ≤ 20000 := rw_len_le hb BND n h
theorem atI_last {α : Type} (xs : List α) (x : α) : L2.atI (xs ++ [x]) (-1) = some x := by
  unfold L2.atI L2.ixN
  rw [List.length_append, List.length_cons, List.length_nil, if_neg (by decide)]
  rw [if_pos (by omega)]
  have : ((-1 : Int) + ((xs.length + (0 + 1) : Nat) : Int)).toNat = xs.length := by omega
  rw [this]
  simp
theorem ok_is_row : Keeps S_is_row T_is_row 3 := by
  rintro ⟨b, n⟩ ⟨hb, hn⟩
  dsimp only at hb hn
  show T_is_row ⟨_, S_is_row.post (b, n), _, _⟩ (startD 3 [row (rw b n), .int b])
  simp only [T_is_row, row, ex_seq, ex_next, ex_if, ex_ret, ex_set, ex_setO, ex_app, ex_aug, ex_var, ex_vw, ex_c, ex_d2, ex_b, ex_onD, ex_onVd, ex_onVo, ex_onO, ex_onB, ex_onS, ex_int, ex_addI, ex_addS, ex_addT, ex_nil, ex_cons, ex_tup, ex_lst, ex_cb, ex_tupleL, ex_tupleT, get_0, get_s, ex_for, ex_nm, ex_gnil, ex_gcons, ex_gtup, ex_gtupL, ex_asg, ex_par, ex_iseq, ex_onSeqT, ex_onSeqL, ex_onSeqS, ex_ienum, ex_irev, ex_onLTt, ex_onLTl, ex_rng1, ex_ifE, ex_and, ex_or, ex_not, ex_andV, ex_orV, ex_notV, ex_ixL, ex_call, ex_callN, ex_rev, ex_revL, ex_cat, ex_rep, ex_sl, ex_slA, ex_slL, ex_nopt, ex_pt, ex_eq, ex_ne, ex_yes, ex_lc, ex_lenT, ex_lenL, ex_lenS, ex_int2, ex_augIx, ex_isT, ex_chain, ex_asg2, ex_neg, List.set, startD, List.replicate, List.map_nil, List.map_cons, List.length_cons, List.length_nil, List.cons_append, List.nil_append, Nat.sub_self, Nat.reduceSub, Nat.reduceAdd, wipeE, decide_true, decide_false, if_true, if_false, true_and, and_true, Bool.not_true, Bool.not_false, Bool.false_eq_true, ex_frz, ex_draw, ex_fld, ex_meth, ex_make, ex_isC, ex_joinS, ex_orS, ex_joined, ex_js, ex_js0, ex_fmt, ex_part, ex_split, ex_inS, ex_toStr, ex_toIntS, ex_ownT, ex_own, ex_listL, ex_listT, ex_reprT, ex_reprL, ex_reprI, ex_slS, ex_toIntB, ex_toIntI, ex_put, ex_drop, ex_never, isT1, isT2, isT3, isT4, tyI, tyT, tyS, pyI, pyB, pyT0, pyIs, Nat.zero_le, deqv_int, deqv_bl]
  have hd := rw_dg hb.1 n
  have hl := len_SZ hb.1 hn
  refine comp_map (α := Int) (fun d => .int d) (fun _ => .bl true) (rw b n) [] (by rw [List.length_nil]; unfold SZ; omega) (fun a ha R hR => ?_) ?_
  · simp only [ex_seq, ex_next, ex_if, ex_ret, ex_set, ex_setO, ex_app, ex_aug, ex_var, ex_vw, ex_c, ex_d2, ex_b, ex_onD, ex_onVd, ex_onVo, ex_onO, ex_onB, ex_onS, ex_int, ex_addI, ex_addS, ex_addT, ex_nil, ex_cons, ex_tup, ex_lst, ex_cb, ex_tupleL, ex_tupleT, get_0, get_s, ex_for, ex_nm, ex_gnil, ex_gcons, ex_gtup, ex_gtupL, ex_asg, ex_par, ex_iseq, ex_onSeqT, ex_onSeqL, ex_onSeqS, ex_ienum, ex_irev, ex_onLTt, ex_onLTl, ex_rng1, ex_ifE, ex_and, ex_or, ex_not, ex_andV, ex_orV, ex_notV, ex_ixL, ex_call, ex_callN, ex_rev, ex_revL, ex_cat, ex_rep, ex_sl, ex_slA, ex_slL, ex_nopt, ex_pt, ex_eq, ex_ne, ex_yes, ex_lc, ex_lenT, ex_lenL, ex_lenS, ex_int2, ex_augIx, ex_isT, ex_chain, ex_asg2, ex_neg, List.set, startD, List.replicate, List.map_nil, List.map_cons, List.length_cons, List.length_nil, List.cons_append, List.nil_append, Nat.sub_self, Nat.reduceSub, Nat.reduceAdd, wipeE, decide_true, decide_false, if_true, if_false, true_and, and_true, Bool.not_true, Bool.not_false, Bool.false_eq_true, ex_frz, ex_draw, ex_fld, ex_meth, ex_make, ex_isC, ex_joinS, ex_orS, ex_joined, ex_js, ex_js0, ex_fmt, ex_part, ex_split, ex_inS, ex_toStr, ex_toIntS, ex_ownT, ex_own, ex_listL, ex_listT, ex_reprT, ex_reprL, ex_reprI, ex_slS, ex_toIntB, ex_toIntI, ex_put, ex_drop, ex_never, isT1, isT2, isT3, isT4, tyI, tyT, tyS, pyI, pyB, pyT0, pyIs, Nat.zero_le, deqv_int, deqv_bl]
    refine ⟨a, rfl, trivial, fun d e => ?_⟩
    subst e
    simp only [ex_seq, ex_next, ex_if, ex_ret, ex_set, ex_setO, ex_app, ex_aug, ex_var, ex_vw, ex_c, ex_d2, ex_b, ex_onD, ex_onVd, ex_onVo, ex_onO, ex_onB, ex_onS, ex_int, ex_addI, ex_addS, ex_addT, ex_nil, ex_cons, ex_tup, ex_lst, ex_cb, ex_tupleL, ex_tupleT, get_0, get_s, ex_for, ex_nm, ex_gnil, ex_gcons, ex_gtup, ex_gtupL, ex_asg, ex_par, ex_iseq, ex_onSeqT, ex_onSeqL, ex_onSeqS, ex_ienum, ex_irev, ex_onLTt, ex_onLTl, ex_rng1, ex_ifE, ex_and, ex_or, ex_not, ex_andV, ex_orV, ex_notV, ex_ixL, ex_call, ex_callN, ex_rev, ex_revL, ex_cat, ex_rep, ex_sl, ex_slA, ex_slL, ex_nopt, ex_pt, ex_eq, ex_ne, ex_yes, ex_lc, ex_lenT, ex_lenL, ex_lenS, ex_int2, ex_augIx, ex_isT, ex_chain, ex_asg2, ex_neg, List.set, startD, List.replicate, List.map_nil, List.map_cons, List.length_cons, List.length_nil, List.cons_append, List.nil_append, Nat.sub_self, Nat.reduceSub, Nat.reduceAdd, wipeE, decide_true, decide_false, if_true, if_false, true_and, and_true, Bool.not_true, Bool.not_false, Bool.false_eq_true, ex_frz, ex_draw, ex_fld, ex_meth, ex_make, ex_isC, ex_joinS, ex_orS, ex_joined, ex_js, ex_js0, ex_fmt, ex_part, ex_split, ex_inS, ex_toStr, ex_toIntS, ex_ownT, ex_own, ex_listL, ex_listT, ex_reprT, ex_reprL, ex_reprI, ex_slS, ex_toIntB, ex_toIntI, ex_put, ex_drop, ex_never, isT1, isT2, isT3, isT4, tyI, tyT, tyS, pyI, pyB, pyT0, pyIs, Nat.zero_le, deqv_int, deqv_bl]
    rw [decide_eq_true (hd a ha).1, if_pos rfl, decide_eq_true (hd a ha).2]
    exact hR
  · refine ⟨(rw b n).map fun _ => true, by simp, ?_⟩
    have e : ((rw b n).map fun _ => true).all id = true := by simp
    simp only [ex_seq, ex_next, ex_if, ex_ret, ex_set, ex_setO, ex_app, ex_aug, ex_var, ex_vw, ex_c, ex_d2, ex_b, ex_onD, ex_onVd, ex_onVo, ex_onO, ex_onB, ex_onS, ex_int, ex_addI, ex_addS, ex_addT, ex_nil, ex_cons, ex_tup, ex_lst, ex_cb, ex_tupleL, ex_tupleT, get_0, get_s, ex_for, ex_nm, ex_gnil, ex_gcons, ex_gtup, ex_gtupL, ex_asg, ex_par, ex_iseq, ex_onSeqT, ex_onSeqL, ex_onSeqS, ex_ienum, ex_irev, ex_onLTt, ex_onLTl, ex_rng1, ex_ifE, ex_and, ex_or, ex_not, ex_andV, ex_orV, ex_notV, ex_ixL, ex_call, ex_callN, ex_rev, ex_revL, ex_cat, ex_rep, ex_sl, ex_slA, ex_slL, ex_nopt, ex_pt, ex_eq, ex_ne, ex_yes, ex_lc, ex_lenT, ex_lenL, ex_lenS, ex_int2, ex_augIx, ex_isT, ex_chain, ex_asg2, ex_neg, List.set, startD, List.replicate, List.map_nil, List.map_cons, List.length_cons, List.length_nil, List.cons_append, List.nil_append, Nat.sub_self, Nat.reduceSub, Nat.reduceAdd, wipeE, decide_true, decide_false, if_true, if_false, true_and, and_true, Bool.not_true, Bool.not_false, Bool.false_eq_true, ex_frz, ex_draw, ex_fld, ex_meth, ex_make, ex_isC, ex_joinS, ex_orS, ex_joined, ex_js, ex_js0, ex_fmt, ex_part, ex_split, ex_inS, ex_toStr, ex_toIntS, ex_ownT, ex_own, ex_listL, ex_listT, ex_reprT, ex_reprL, ex_reprI, ex_slS, ex_toIntB, ex_toIntI, ex_put, ex_drop, ex_never, isT1, isT2, isT3, isT4, tyI, tyT, tyS, pyI, pyB, pyT0, pyIs, Nat.zero_le, deqv_int, deqv_bl]
    rw [e]
    simp only [ex_seq, ex_next, ex_if, ex_ret, ex_set, ex_setO, ex_app, ex_aug, ex_var, ex_vw, ex_c, ex_d2, ex_b, ex_onD, ex_onVd, ex_onVo, ex_onO, ex_onB, ex_onS, ex_int, ex_addI, ex_addS, ex_addT, ex_nil, ex_cons, ex_tup, ex_lst, ex_cb, ex_tupleL, ex_tupleT, get_0, get_s, ex_for, ex_nm, ex_gnil, ex_gcons, ex_gtup, ex_gtupL, ex_asg, ex_par, ex_iseq, ex_onSeqT, ex_onSeqL, ex_onSeqS, ex_ienum, ex_irev, ex_onLTt, ex_onLTl, ex_rng1, ex_ifE, ex_and, ex_or, ex_not, ex_andV, ex_orV, ex_notV, ex_ixL, ex_call, ex_callN, ex_rev, ex_revL, ex_cat, ex_rep, ex_sl, ex_slA, ex_slL, ex_nopt, ex_pt, ex_eq, ex_ne, ex_yes, ex_lc, ex_lenT, ex_lenL, ex_lenS, ex_int2, ex_augIx, ex_isT, ex_chain, ex_asg2, ex_neg, List.set, startD, List.replicate, List.map_nil, List.map_cons, List.length_cons, List.length_nil, List.cons_append, List.nil_append, Nat.sub_self, Nat.reduceSub, Nat.reduceAdd, wipeE, decide_true, decide_false, if_true, if_false, true_and, and_true, Bool.not_true, Bool.not_false, Bool.false_eq_true, ex_frz, ex_draw, ex_fld, ex_meth, ex_make, ex_isC, ex_joinS, ex_orS, ex_joined, ex_js, ex_js0, ex_fmt, ex_part, ex_split, ex_inS, ex_toStr, ex_toIntS, ex_ownT, ex_own, ex_listL, ex_listT, ex_reprT, ex_reprL, ex_reprI, ex_slS, ex_toIntB, ex_toIntI, ex_put, ex_drop, ex_never, isT1, isT2, isT3, isT4, tyI, tyT, tyS, pyI, pyB, pyT0, pyIs, Nat.zero_le, deqv_int, deqv_bl]
    rw [show deqv (.tup ((rw b n).map D.int)) (.tup []) = decide (rw b n = []) from deqv_ints (rw b n) []]
    by_cases h0 : rw b n = []
    · rw [decide_eq_true h0, if_pos rfl]
      exact rfl
    · rw [decide_eq_false h0, if_neg (by decide)]
      obtain ⟨xs, x, e, hx⟩ := rw_last hb.1 n (by
        rcases Nat.eq_zero_or_pos n with h | h
        · exact absurd ((rw_nil hb.1).mpr h) h0
        · exact h)
      refine ⟨.int x, by rw [e, List.map_append]; exact atI_last _ _, ?_⟩
      simp only [ex_seq, ex_next, ex_if, ex_ret, ex_set, ex_setO, ex_app, ex_aug, ex_var, ex_vw, ex_c, ex_d2, ex_b, ex_onD, ex_onVd, ex_onVo, ex_onO, ex_onB, ex_onS, ex_int, ex_addI, ex_addS, ex_addT, ex_nil, ex_cons, ex_tup, ex_lst, ex_cb, ex_tupleL, ex_tupleT, get_0, get_s, ex_for, ex_nm, ex_gnil, ex_gcons, ex_gtup, ex_gtupL, ex_asg, ex_par, ex_iseq, ex_onSeqT, ex_onSeqL, ex_onSeqS, ex_ienum, ex_irev, ex_onLTt, ex_onLTl, ex_rng1, ex_ifE, ex_and, ex_or, ex_not, ex_andV, ex_orV, ex_notV, ex_ixL, ex_call, ex_callN, ex_rev, ex_revL, ex_cat, ex_rep, ex_sl, ex_slA, ex_slL, ex_nopt, ex_pt, ex_eq, ex_ne, ex_yes, ex_lc, ex_lenT, ex_lenL, ex_lenS, ex_int2, ex_augIx, ex_isT, ex_chain, ex_asg2, ex_neg, List.set, startD, List.replicate, List.map_nil, List.map_cons, List.length_cons, List.length_nil, List.cons_append, List.nil_append, Nat.sub_self, Nat.reduceSub, Nat.reduceAdd, wipeE, decide_true, decide_false, if_true, if_false, true_and, and_true, Bool.not_true, Bool.not_false, Bool.false_eq_true, ex_frz, ex_draw, ex_fld, ex_meth, ex_make, ex_isC, ex_joinS, ex_orS, ex_joined, ex_js, ex_js0, ex_fmt, ex_part, ex_split, ex_inS, ex_toStr, ex_toIntS, ex_ownT, ex_own, ex_listL, ex_listT, ex_reprT, ex_reprL, ex_reprI, ex_slS, ex_toIntB, ex_toIntI, ex_put, ex_drop, ex_never, isT1, isT2, isT3, isT4, tyI, tyT, tyS, pyI, pyB, pyT0, pyIs, Nat.zero_le, deqv_int, deqv_bl]
      rw [decide_eq_false (by omega)]
      rfl
end MD
end
section
/-! The arithmetic keeps its promises (2). -/
namespace MD
open PySem L2
theorem mulOkR {i : Int} {b : Nat} (h : b < 2 ^ 63) : MulOk i b := Or.inl (Or.inr ⟨by omega, by omega⟩)
theorem mulOkL {i : Int} {b : Nat} (h : b < 2 ^ 63) : MulOk b i := Or.inl (Or.inl ⟨by omega, by omega⟩)
theorem ok_worth_of : Keeps S_worth_of T_worth_of 4 := by
  rintro ⟨b, n⟩ ⟨hb, hn⟩
  dsimp only at hb hn
  show T_worth_of ⟨_, S_worth_of.post (b, n), _, _⟩ (startD 4 [row (rw b n), .int b])
  simp only [T_worth_of, row, ex_seq, ex_next, ex_if, ex_ret, ex_set, ex_setO, ex_app, ex_aug, ex_var, ex_vw, ex_c, ex_d2, ex_b, ex_onD, ex_onVd, ex_onVo, ex_onO, ex_onB, ex_onS, ex_int, ex_addI, ex_addS, ex_addT, ex_nil, ex_cons, ex_tup, ex_lst, ex_cb, ex_tupleL, ex_tupleT, get_0, get_s, ex_for, ex_nm, ex_gnil, ex_gcons, ex_gtup, ex_gtupL, ex_asg, ex_par, ex_iseq, ex_onSeqT, ex_onSeqL, ex_onSeqS, ex_ienum, ex_irev, ex_onLTt, ex_onLTl, ex_rng1, ex_ifE, ex_and, ex_or, ex_not, ex_andV, ex_orV, ex_notV, ex_ixL, ex_call, ex_callN, ex_rev, ex_revL, ex_cat, ex_rep, ex_sl, ex_slA, ex_slL, ex_nopt, ex_pt, ex_eq, ex_ne, ex_yes, ex_lc, ex_lenT, ex_lenL, ex_lenS, ex_int2, ex_augIx, ex_isT, ex_chain, ex_asg2, ex_neg, List.set, startD, List.replicate, List.map_nil, List.map_cons, List.length_cons, List.length_nil, List.cons_append, List.nil_append, Nat.sub_self, Nat.reduceSub, Nat.reduceAdd, wipeE, decide_true, decide_false, if_true, if_false, true_and, and_true, Bool.not_true, Bool.not_false, Bool.false_eq_true, ex_frz, ex_draw, ex_fld, ex_meth, ex_make, ex_isC, ex_joinS, ex_orS, ex_joined, ex_js, ex_js0, ex_fmt, ex_part, ex_split, ex_inS, ex_toStr, ex_toIntS, ex_ownT, ex_own, ex_listL, ex_listT, ex_reprT, ex_reprL, ex_reprI, ex_slS, ex_toIntB, ex_toIntI, ex_put, ex_drop, ex_never, isT1, isT2, isT3, isT4, tyI, tyT, tyS, pyI, pyB, pyT0, pyIs, Nat.zero_le, deqv_int, deqv_bl]
  rw [← List.map_reverse]
  refine for_of (α := Int) (fun d => .int d) (fun l env => ∃ (acc : Int) (s : Sl), env = [.dat (row (rw b n)), .dat (.int b), .dat (.int acc), s] ∧ acc * (b : Int) ^ l.length + wt b l.reverse = n) ?_ ?_ _ _ ⟨0, .un, rfl, by rw [List.reverse_reverse, wt_rw hb.1]; omega⟩
  · rintro a r env K ⟨acc, s, rfl, hw⟩ hK
    simp only [ex_seq, ex_next, ex_if, ex_ret, ex_set, ex_setO, ex_app, ex_aug, ex_var, ex_vw, ex_c, ex_d2, ex_b, ex_onD, ex_onVd, ex_onVo, ex_onO, ex_onB, ex_onS, ex_int, ex_addI, ex_addS, ex_addT, ex_nil, ex_cons, ex_tup, ex_lst, ex_cb, ex_tupleL, ex_tupleT, get_0, get_s, ex_for, ex_nm, ex_gnil, ex_gcons, ex_gtup, ex_gtupL, ex_asg, ex_par, ex_iseq, ex_onSeqT, ex_onSeqL, ex_onSeqS, ex_ienum, ex_irev, ex_onLTt, ex_onLTl, ex_rng1, ex_ifE, ex_and, ex_or, ex_not, ex_andV, ex_orV, ex_notV, ex_ixL, ex_call, ex_callN, ex_rev, ex_revL, ex_cat, ex_rep, ex_sl, ex_slA, ex_slL, ex_nopt, ex_pt, ex_eq, ex_ne, ex_yes, ex_lc, ex_lenT, ex_lenL, ex_lenS, ex_int2, ex_augIx, ex_isT, ex_chain, ex_asg2, ex_neg, List.set, startD, List.replicate, List.map_nil, List.map_cons, List.length_cons, List.length_nil, List.cons_append, List.nil_append, Nat.sub_self, Nat.reduceSub, Nat.reduceAdd, wipeE, decide_true, decide_false, if_true, if_false, true_and, and_true, Bool.not_true, Bool.not_false, Bool.false_eq_true, ex_frz, ex_draw, ex_fld, ex_meth, ex_make, ex_isC, ex_joinS, ex_orS, ex_joined, ex_js, ex_js0, ex_fmt, ex_part, ex_split, ex_inS, ex_toStr, ex_toIntS, ex_ownT, ex_own, ex_listL, ex_listT, ex_reprT, ex_reprL, ex_reprI, ex_slS, ex_toIntB, ex_toIntI, ex_put, ex_drop, ex_never, isT1, isT2, isT3, isT4, tyI, tyT, tyS, pyI, pyB, pyT0, pyIs, Nat.zero_le, deqv_int, deqv_bl]
    refine ⟨mulOkR (by have := hb.2; omega), hK _ ⟨acc * b + a, _, rfl, ?_⟩⟩
    rw [List.reverse_cons, wt_append, wt_one, List.length_cons, List.length_reverse, Int.pow_succ] at hw
    rw [← hw, Int.add_mul, Int.mul_assoc, Int.mul_comm (b : Int), Int.mul_comm a]
    omega
  · rintro env ⟨acc, s, rfl, hw⟩
    simp only [ex_seq, ex_next, ex_if, ex_ret, ex_set, ex_setO, ex_app, ex_aug, ex_var, ex_vw, ex_c, ex_d2, ex_b, ex_onD, ex_onVd, ex_onVo, ex_onO, ex_onB, ex_onS, ex_int, ex_addI, ex_addS, ex_addT, ex_nil, ex_cons, ex_tup, ex_lst, ex_cb, ex_tupleL, ex_tupleT, get_0, get_s, ex_for, ex_nm, ex_gnil, ex_gcons, ex_gtup, ex_gtupL, ex_asg, ex_par, ex_iseq, ex_onSeqT, ex_onSeqL, ex_onSeqS, ex_ienum, ex_irev, ex_onLTt, ex_onLTl, ex_rng1, ex_ifE, ex_and, ex_or, ex_not, ex_andV, ex_orV, ex_notV, ex_ixL, ex_call, ex_callN, ex_rev, ex_revL, ex_cat, ex_rep, ex_sl, ex_slA, ex_slL, ex_nopt, ex_pt, ex_eq, ex_ne, ex_yes, ex_lc, ex_lenT, ex_lenL, ex_lenS, ex_int2, ex_augIx, ex_isT, ex_chain, ex_asg2, ex_neg, List.set, startD, List.replicate, List.map_nil, List.map_cons, List.length_cons, List.length_nil, List.cons_append, List.nil_append, Nat.sub_self, Nat.reduceSub, Nat.reduceAdd, wipeE, decide_true, decide_false, if_true, if_false, true_and, and_true, Bool.not_true, Bool.not_false, Bool.false_eq_true, ex_frz, ex_draw, ex_fld, ex_meth, ex_make, ex_isC, ex_joinS, ex_orS, ex_joined, ex_js, ex_js0, ex_fmt, ex_part, ex_split, ex_inS, ex_toStr, ex_toIntS, ex_ownT, ex_own, ex_listL, ex_listT, ex_reprT, ex_reprL, ex_reprI, ex_slS, ex_toIntB, ex_toIntI, ex_put, ex_drop, ex_never, isT1, isT2, isT3, isT4, tyI, tyT, tyS, pyI, pyB, pyT0, pyIs, Nat.zero_le, deqv_int, deqv_bl]
    have : acc = n := by
      have : acc * 1 + 0 = (n : Int) := hw
      omega
    rw [this]
    rfl
theorem atI_lt {α : Type} {xs : List α} {i : Nat} (h : i < xs.length) : L2.atI xs (i : Int) = some xs[i] := by
  unfold L2.atI L2.ixN
  rw [if_pos (by omega), if_pos (by omega), Int.toNat_natCast]
  simp [h]
theorem cutD_take {α : Type} (xs : List α) (k : Nat) : cutD xs none (some (k : Int)) = xs.take k := by
  unfold cutD
  rw [HT.sIx_none, HT.sIx_nat, List.drop_zero, Nat.sub_zero]
  by_cases h : k ≤ xs.length
  · rw [Nat.min_eq_left h]
  · rw [Nat.min_eq_right (by omega), List.take_length, List.take_of_length_le (by omega)]
theorem cutD_drop {α : Type} (xs : List α) (k : Nat) : cutD xs (some (k : Int)) none = xs.drop k := by
  unfold cutD
  rw [HT.sIx_none, HT.sIx_nat]
  by_cases h : k ≤ xs.length
  · rw [Nat.min_eq_left h, List.take_of_length_le (by rw [List.length_drop]; exact Nat.le_refl _)]
  · rw [Nat.min_eq_right (by omega), Nat.sub_self, List.take_zero, List.drop_of_length_le (by omega)]
theorem strip_take {xs : List Int} {m : Nat} (h : m < xs.length) : (xs[m] = 0 → strip (xs.take (m + 1)) = strip (xs.take m)) ∧ (xs[m] ≠ 0 → strip (xs.take (m + 1)) = xs.take (m + 1)) := by
  have e : xs.take (m + 1) = xs.take m ++ [xs[m]] := by rw [List.take_succ_eq_append_getElem h]
  constructor
  · intro h0
    rw [e, h0, strip_snoc0]
  · intro h0
    rw [e, strip_snoc h0]
theorem ok_without_noughts : Keeps S_without_noughts T_without_noughts 2 := by
  rintro ⟨t, xs⟩ hl
  dsimp only [S_without_noughts] at hl
  have key : ∀ (x : D), (x = .lst (xs.map .int) ∨ x = .tup (xs.map .int)) → T_without_noughts ⟨fun _ => S_without_noughts.post (t, xs) .non, S_without_noughts.post (t, xs), fun _ => False, fun _ => False⟩ (startD 2 [x]) := by
    intro x hx
    simp only [T_without_noughts, ex_seq, ex_next, ex_if, ex_ret, ex_set, ex_setO, ex_app, ex_aug, ex_var, ex_vw, ex_c, ex_d2, ex_b, ex_onD, ex_onVd, ex_onVo, ex_onO, ex_onB, ex_onS, ex_int, ex_addI, ex_addS, ex_addT, ex_nil, ex_cons, ex_tup, ex_lst, ex_cb, ex_tupleL, ex_tupleT, get_0, get_s, ex_for, ex_nm, ex_gnil, ex_gcons, ex_gtup, ex_gtupL, ex_asg, ex_par, ex_iseq, ex_onSeqT, ex_onSeqL, ex_onSeqS, ex_ienum, ex_irev, ex_onLTt, ex_onLTl, ex_rng1, ex_ifE, ex_and, ex_or, ex_not, ex_andV, ex_orV, ex_notV, ex_ixL, ex_call, ex_callN, ex_rev, ex_revL, ex_cat, ex_rep, ex_sl, ex_slA, ex_slL, ex_nopt, ex_pt, ex_eq, ex_ne, ex_yes, ex_lc, ex_lenT, ex_lenL, ex_lenS, ex_int2, ex_augIx, ex_isT, ex_chain, ex_asg2, ex_neg, List.set, startD, List.replicate, List.map_nil, List.map_cons, List.length_cons, List.length_nil, List.cons_append, List.nil_append, Nat.sub_self, Nat.reduceSub, Nat.reduceAdd, wipeE, decide_true, decide_false, if_true, if_false, true_and, and_true, Bool.not_true, Bool.not_false, Bool.false_eq_true, ex_frz, ex_draw, ex_fld, ex_meth, ex_make, ex_isC, ex_joinS, ex_orS, ex_joined, ex_js, ex_js0, ex_fmt, ex_part, ex_split, ex_inS, ex_toStr, ex_toIntS, ex_ownT, ex_own, ex_listL, ex_listT, ex_reprT, ex_reprL, ex_reprI, ex_slS, ex_toIntB, ex_toIntI, ex_put, ex_drop, ex_never, isT1, isT2, isT3, isT4, tyI, tyT, tyS, pyI, pyB, pyT0, pyIs, Nat.zero_le, deqv_int, deqv_bl]
    have hlen : ∀ Q : D → Prop, Q (.int (xs.map D.int).length) → gLen [x] Q := fun Q q => by
      rcases hx with rfl | rfl
      · exact q
      · exact q
    refine hlen _ ?_
    refine while_of (fun (m : Nat) env => m ≤ xs.length ∧ env = [.dat x, .dat (.int m)] ∧ strip (xs.take m) = strip xs) id xs.length ⟨Nat.le_refl _, by rw [List.length_map], by rw [List.take_length]⟩ ?_
    rintro m env K ⟨hm, rfl, hs⟩ hK
    simp only [ex_seq, ex_next, ex_if, ex_ret, ex_set, ex_setO, ex_app, ex_aug, ex_var, ex_vw, ex_c, ex_d2, ex_b, ex_onD, ex_onVd, ex_onVo, ex_onO, ex_onB, ex_onS, ex_int, ex_addI, ex_addS, ex_addT, ex_nil, ex_cons, ex_tup, ex_lst, ex_cb, ex_tupleL, ex_tupleT, get_0, get_s, ex_for, ex_nm, ex_gnil, ex_gcons, ex_gtup, ex_gtupL, ex_asg, ex_par, ex_iseq, ex_onSeqT, ex_onSeqL, ex_onSeqS, ex_ienum, ex_irev, ex_onLTt, ex_onLTl, ex_rng1, ex_ifE, ex_and, ex_or, ex_not, ex_andV, ex_orV, ex_notV, ex_ixL, ex_call, ex_callN, ex_rev, ex_revL, ex_cat, ex_rep, ex_sl, ex_slA, ex_slL, ex_nopt, ex_pt, ex_eq, ex_ne, ex_yes, ex_lc, ex_lenT, ex_lenL, ex_lenS, ex_int2, ex_augIx, ex_isT, ex_chain, ex_asg2, ex_neg, List.set, startD, List.replicate, List.map_nil, List.map_cons, List.length_cons, List.length_nil, List.cons_append, List.nil_append, Nat.sub_self, Nat.reduceSub, Nat.reduceAdd, wipeE, decide_true, decide_false, if_true, if_false, true_and, and_true, Bool.not_true, Bool.not_false, Bool.false_eq_true, ex_frz, ex_draw, ex_fld, ex_meth, ex_make, ex_isC, ex_joinS, ex_orS, ex_joined, ex_js, ex_js0, ex_fmt, ex_part, ex_split, ex_inS, ex_toStr, ex_toIntS, ex_ownT, ex_own, ex_listL, ex_listT, ex_reprT, ex_reprL, ex_reprI, ex_slS, ex_toIntB, ex_toIntI, ex_put, ex_drop, ex_never, isT1, isT2, isT3, isT4, tyI, tyT, tyS, pyI, pyB, pyT0, pyIs, Nat.zero_le, deqv_int, deqv_bl]
    have fin : strip (xs.take m) = xs.take m → dCB gTuple (dCons (dSlA (dVar 0) dNoPt (dPt (dVar 1))) dNil) [.dat x, .dat (.int m)] (S_without_noughts.post (t, xs)) := fun e => by
      simp only [ex_seq, ex_next, ex_if, ex_ret, ex_set, ex_setO, ex_app, ex_aug, ex_var, ex_vw, ex_c, ex_d2, ex_b, ex_onD, ex_onVd, ex_onVo, ex_onO, ex_onB, ex_onS, ex_int, ex_addI, ex_addS, ex_addT, ex_nil, ex_cons, ex_tup, ex_lst, ex_cb, ex_tupleL, ex_tupleT, get_0, get_s, ex_for, ex_nm, ex_gnil, ex_gcons, ex_gtup, ex_gtupL, ex_asg, ex_par, ex_iseq, ex_onSeqT, ex_onSeqL, ex_onSeqS, ex_ienum, ex_irev, ex_onLTt, ex_onLTl, ex_rng1, ex_ifE, ex_and, ex_or, ex_not, ex_andV, ex_orV, ex_notV, ex_ixL, ex_call, ex_callN, ex_rev, ex_revL, ex_cat, ex_rep, ex_sl, ex_slA, ex_slL, ex_nopt, ex_pt, ex_eq, ex_ne, ex_yes, ex_lc, ex_lenT, ex_lenL, ex_lenS, ex_int2, ex_augIx, ex_isT, ex_chain, ex_asg2, ex_neg, List.set, startD, List.replicate, List.map_nil, List.map_cons, List.length_cons, List.length_nil, List.cons_append, List.nil_append, Nat.sub_self, Nat.reduceSub, Nat.reduceAdd, wipeE, decide_true, decide_false, if_true, if_false, true_and, and_true, Bool.not_true, Bool.not_false, Bool.false_eq_true, ex_frz, ex_draw, ex_fld, ex_meth, ex_make, ex_isC, ex_joinS, ex_orS, ex_joined, ex_js, ex_js0, ex_fmt, ex_part, ex_split, ex_inS, ex_toStr, ex_toIntS, ex_ownT, ex_own, ex_listL, ex_listT, ex_reprT, ex_reprL, ex_reprI, ex_slS, ex_toIntB, ex_toIntI, ex_put, ex_drop, ex_never, isT1, isT2, isT3, isT4, tyI, tyT, tyS, pyI, pyB, pyT0, pyIs, Nat.zero_le, deqv_int, deqv_bl]
      rcases hx with rfl | rfl <;> simp only [ex_seq, ex_next, ex_if, ex_ret, ex_set, ex_setO, ex_app, ex_aug, ex_var, ex_vw, ex_c, ex_d2, ex_b, ex_onD, ex_onVd, ex_onVo, ex_onO, ex_onB, ex_onS, ex_int, ex_addI, ex_addS, ex_addT, ex_nil, ex_cons, ex_tup, ex_lst, ex_cb, ex_tupleL, ex_tupleT, get_0, get_s, ex_for, ex_nm, ex_gnil, ex_gcons, ex_gtup, ex_gtupL, ex_asg, ex_par, ex_iseq, ex_onSeqT, ex_onSeqL, ex_onSeqS, ex_ienum, ex_irev, ex_onLTt, ex_onLTl, ex_rng1, ex_ifE, ex_and, ex_or, ex_not, ex_andV, ex_orV, ex_notV, ex_ixL, ex_call, ex_callN, ex_rev, ex_revL, ex_cat, ex_rep, ex_sl, ex_slA, ex_slL, ex_nopt, ex_pt, ex_eq, ex_ne, ex_yes, ex_lc, ex_lenT, ex_lenL, ex_lenS, ex_int2, ex_augIx, ex_isT, ex_chain, ex_asg2, ex_neg, List.set, startD, List.replicate, List.map_nil, List.map_cons, List.length_cons, List.length_nil, List.cons_append, List.nil_append, Nat.sub_self, Nat.reduceSub, Nat.reduceAdd, wipeE, decide_true, decide_false, if_true, if_false, true_and, and_true, Bool.not_true, Bool.not_false, Bool.false_eq_true, ex_frz, ex_draw, ex_fld, ex_meth, ex_make, ex_isC, ex_joinS, ex_orS, ex_joined, ex_js, ex_js0, ex_fmt, ex_part, ex_split, ex_inS, ex_toStr, ex_toIntS, ex_ownT, ex_own, ex_listL, ex_listT, ex_reprT, ex_reprL, ex_reprI, ex_slS, ex_toIntB, ex_toIntI, ex_put, ex_drop, ex_never, isT1, isT2, isT3, isT4, tyI, tyT, tyS, pyI, pyB, pyT0, pyIs, Nat.zero_le, deqv_int, deqv_bl]
      · rw [cutD_take, ← List.map_take, ← e, hs]
        rfl
      · rw [cutD_take, ← List.map_take, ← e, hs]
        rfl
    by_cases h0 : m = 0
    · subst h0
      simp only [Int.ofNat_zero, Int.natCast_zero, Int.lt_irrefl, ex_seq, ex_next, ex_if, ex_ret, ex_set, ex_setO, ex_app, ex_aug, ex_var, ex_vw, ex_c, ex_d2, ex_b, ex_onD, ex_onVd, ex_onVo, ex_onO, ex_onB, ex_onS, ex_int, ex_addI, ex_addS, ex_addT, ex_nil, ex_cons, ex_tup, ex_lst, ex_cb, ex_tupleL, ex_tupleT, get_0, get_s, ex_for, ex_nm, ex_gnil, ex_gcons, ex_gtup, ex_gtupL, ex_asg, ex_par, ex_iseq, ex_onSeqT, ex_onSeqL, ex_onSeqS, ex_ienum, ex_irev, ex_onLTt, ex_onLTl, ex_rng1, ex_ifE, ex_and, ex_or, ex_not, ex_andV, ex_orV, ex_notV, ex_ixL, ex_call, ex_callN, ex_rev, ex_revL, ex_cat, ex_rep, ex_sl, ex_slA, ex_slL, ex_nopt, ex_pt, ex_eq, ex_ne, ex_yes, ex_lc, ex_lenT, ex_lenL, ex_lenS, ex_int2, ex_augIx, ex_isT, ex_chain, ex_asg2, ex_neg, List.set, startD, List.replicate, List.map_nil, List.map_cons, List.length_cons, List.length_nil, List.cons_append, List.nil_append, Nat.sub_self, Nat.reduceSub, Nat.reduceAdd, wipeE, decide_true, decide_false, if_true, if_false, true_and, and_true, Bool.not_true, Bool.not_false, Bool.false_eq_true, ex_frz, ex_draw, ex_fld, ex_meth, ex_make, ex_isC, ex_joinS, ex_orS, ex_joined, ex_js, ex_js0, ex_fmt, ex_part, ex_split, ex_inS, ex_toStr, ex_toIntS, ex_ownT, ex_own, ex_listL, ex_listT, ex_reprT, ex_reprL, ex_reprI, ex_slS, ex_toIntB, ex_toIntI, ex_put, ex_drop, ex_never, isT1, isT2, isT3, isT4, tyI, tyT, tyS, pyI, pyB, pyT0, pyIs, Nat.zero_le, deqv_int, deqv_bl]
      have := fin (by rw [List.take_zero]; rfl)
      simp only [ex_seq, ex_next, ex_if, ex_ret, ex_set, ex_setO, ex_app, ex_aug, ex_var, ex_vw, ex_c, ex_d2, ex_b, ex_onD, ex_onVd, ex_onVo, ex_onO, ex_onB, ex_onS, ex_int, ex_addI, ex_addS, ex_addT, ex_nil, ex_cons, ex_tup, ex_lst, ex_cb, ex_tupleL, ex_tupleT, get_0, get_s, ex_for, ex_nm, ex_gnil, ex_gcons, ex_gtup, ex_gtupL, ex_asg, ex_par, ex_iseq, ex_onSeqT, ex_onSeqL, ex_onSeqS, ex_ienum, ex_irev, ex_onLTt, ex_onLTl, ex_rng1, ex_ifE, ex_and, ex_or, ex_not, ex_andV, ex_orV, ex_notV, ex_ixL, ex_call, ex_callN, ex_rev, ex_revL, ex_cat, ex_rep, ex_sl, ex_slA, ex_slL, ex_nopt, ex_pt, ex_eq, ex_ne, ex_yes, ex_lc, ex_lenT, ex_lenL, ex_lenS, ex_int2, ex_augIx, ex_isT, ex_chain, ex_asg2, ex_neg, List.set, startD, List.replicate, List.map_nil, List.map_cons, List.length_cons, List.length_nil, List.cons_append, List.nil_append, Nat.sub_self, Nat.reduceSub, Nat.reduceAdd, wipeE, decide_true, decide_false, if_true, if_false, true_and, and_true, Bool.not_true, Bool.not_false, Bool.false_eq_true, ex_frz, ex_draw, ex_fld, ex_meth, ex_make, ex_isC, ex_joinS, ex_orS, ex_joined, ex_js, ex_js0, ex_fmt, ex_part, ex_split, ex_inS, ex_toStr, ex_toIntS, ex_ownT, ex_own, ex_listL, ex_listT, ex_reprT, ex_reprL, ex_reprI, ex_slS, ex_toIntB, ex_toIntI, ex_put, ex_drop, ex_never, isT1, isT2, isT3, isT4, tyI, tyT, tyS, pyI, pyB, pyT0, pyIs, Nat.zero_le, deqv_int, deqv_bl] at this
      exact this
    · rw [decide_eq_true (by omega), if_pos rfl]
      obtain ⟨m, rfl⟩ : ∃ k, m = k + 1 := ⟨m - 1, by omega⟩
      have hm' : m < xs.length := by omega
      have e1 : ((m + 1 : Nat) : Int) - 1 = m := by omega
      rw [e1]
      have e : L2.atI (xs.map D.int) (m : Int) = some (.int xs[m]) := by
        rw [atI_lt (by rw [List.length_map]; exact hm')]
        simp
      have yes : xs[m] = 0 → K [Sl.dat x, Sl.dat (D.int ↑m)] := fun hz => by
        refine hK m _ ⟨by omega, rfl, ?_⟩ (Nat.lt_succ_self _)
        rw [← hs]
        exact ((strip_take hm').1 hz).symm
      have no : xs[m] ≠ 0 → strip (xs.take (m + 1)) = xs.take (m + 1) := (strip_take hm').2
      rcases hx with rfl | rfl <;> refine ⟨.int xs[m], e, ?_⟩ <;> simp only [ex_seq, ex_next, ex_if, ex_ret, ex_set, ex_setO, ex_app, ex_aug, ex_var, ex_vw, ex_c, ex_d2, ex_b, ex_onD, ex_onVd, ex_onVo, ex_onO, ex_onB, ex_onS, ex_int, ex_addI, ex_addS, ex_addT, ex_nil, ex_cons, ex_tup, ex_lst, ex_cb, ex_tupleL, ex_tupleT, get_0, get_s, ex_for, ex_nm, ex_gnil, ex_gcons, ex_gtup, ex_gtupL, ex_asg, ex_par, ex_iseq, ex_onSeqT, ex_onSeqL, ex_onSeqS, ex_ienum, ex_irev, ex_onLTt, ex_onLTl, ex_rng1, ex_ifE, ex_and, ex_or, ex_not, ex_andV, ex_orV, ex_notV, ex_ixL, ex_call, ex_callN, ex_rev, ex_revL, ex_cat, ex_rep, ex_sl, ex_slA, ex_slL, ex_nopt, ex_pt, ex_eq, ex_ne, ex_yes, ex_lc, ex_lenT, ex_lenL, ex_lenS, ex_int2, ex_augIx, ex_isT, ex_chain, ex_asg2, ex_neg, List.set, startD, List.replicate, List.map_nil, List.map_cons, List.length_cons, List.length_nil, List.cons_append, List.nil_append, Nat.sub_self, Nat.reduceSub, Nat.reduceAdd, wipeE, decide_true, decide_false, if_true, if_false, true_and, and_true, Bool.not_true, Bool.not_false, Bool.false_eq_true, ex_frz, ex_draw, ex_fld, ex_meth, ex_make, ex_isC, ex_joinS, ex_orS, ex_joined, ex_js, ex_js0, ex_fmt, ex_part, ex_split, ex_inS, ex_toStr, ex_toIntS, ex_ownT, ex_own, ex_listL, ex_listT, ex_reprT, ex_reprL, ex_reprI, ex_slS, ex_toIntB, ex_toIntI, ex_put, ex_drop, ex_never, isT1, isT2, isT3, isT4, tyI, tyT, tyS, pyI, pyB, pyT0, pyIs, Nat.zero_le, deqv_int, deqv_bl] <;> by_cases hz : xs[m] = 0
      · rw [decide_eq_true hz, if_pos rfl]
        exact yes hz
      · rw [decide_eq_false hz, if_neg (by decide), cutD_take, ← List.map_take, ← no hz, hs]
        rfl
      · rw [decide_eq_true hz, if_pos rfl]
        exact yes hz
      · rw [decide_eq_false hz, if_neg (by decide), cutD_take, ← List.map_take, ← no hz, hs]
        rfl
  cases t with
  | true => exact key _ (.inl rfl)
  | false => exact key _ (.inr rfl)
theorem ok_limb_at : Keeps S_limb_at T_limb_at 2 := by
  rintro ⟨xs, i⟩ _
  show T_limb_at ⟨_, S_limb_at.post (xs, i), _, _⟩ (startD 2 [row xs, .int i])
  simp only [T_limb_at, row, ex_seq, ex_next, ex_if, ex_ret, ex_set, ex_setO, ex_app, ex_aug, ex_var, ex_vw, ex_c, ex_d2, ex_b, ex_onD, ex_onVd, ex_onVo, ex_onO, ex_onB, ex_onS, ex_int, ex_addI, ex_addS, ex_addT, ex_nil, ex_cons, ex_tup, ex_lst, ex_cb, ex_tupleL, ex_tupleT, get_0, get_s, ex_for, ex_nm, ex_gnil, ex_gcons, ex_gtup, ex_gtupL, ex_asg, ex_par, ex_iseq, ex_onSeqT, ex_onSeqL, ex_onSeqS, ex_ienum, ex_irev, ex_onLTt, ex_onLTl, ex_rng1, ex_ifE, ex_and, ex_or, ex_not, ex_andV, ex_orV, ex_notV, ex_ixL, ex_call, ex_callN, ex_rev, ex_revL, ex_cat, ex_rep, ex_sl, ex_slA, ex_slL, ex_nopt, ex_pt, ex_eq, ex_ne, ex_yes, ex_lc, ex_lenT, ex_lenL, ex_lenS, ex_int2, ex_augIx, ex_isT, ex_chain, ex_asg2, ex_neg, List.set, startD, List.replicate, List.map_nil, List.map_cons, List.length_cons, List.length_nil, List.cons_append, List.nil_append, Nat.sub_self, Nat.reduceSub, Nat.reduceAdd, wipeE, decide_true, decide_false, if_true, if_false, true_and, and_true, Bool.not_true, Bool.not_false, Bool.false_eq_true, ex_frz, ex_draw, ex_fld, ex_meth, ex_make, ex_isC, ex_joinS, ex_orS, ex_joined, ex_js, ex_js0, ex_fmt, ex_part, ex_split, ex_inS, ex_toStr, ex_toIntS, ex_ownT, ex_own, ex_listL, ex_listT, ex_reprT, ex_reprL, ex_reprI, ex_slS, ex_toIntB, ex_toIntI, ex_put, ex_drop, ex_never, isT1, isT2, isT3, isT4, tyI, tyT, tyS, pyI, pyB, pyT0, pyIs, Nat.zero_le, deqv_int, deqv_bl]
  rw [List.length_map]
  by_cases h : i < xs.length
  · rw [decide_eq_true (by omega), if_pos rfl]
    refine ⟨.int xs[i], by rw [atI_lt (by rw [List.length_map]; exact h)]; simp, ?_⟩
    show _ = _
    simp [List.getD, h]
  · rw [decide_eq_false (by omega), if_neg (by decide)]
    show _ = _
    simp [List.getD, List.getElem?_eq_none (Nat.le_of_not_lt h)]
theorem ok_is_less : Keeps S_is_less T_is_less 2 := by
  rintro ⟨b, m, n⟩ hb
  show T_is_less ⟨_, S_is_less.post (b, m, n), _, _⟩ (startD 2 [row (rw b m), row (rw b n)])
  have hb : Bs b := hb
  simp only [T_is_less, row, ex_seq, ex_next, ex_if, ex_ret, ex_set, ex_setO, ex_app, ex_aug, ex_var, ex_vw, ex_c, ex_d2, ex_b, ex_onD, ex_onVd, ex_onVo, ex_onO, ex_onB, ex_onS, ex_int, ex_addI, ex_addS, ex_addT, ex_nil, ex_cons, ex_tup, ex_lst, ex_cb, ex_tupleL, ex_tupleT, get_0, get_s, ex_for, ex_nm, ex_gnil, ex_gcons, ex_gtup, ex_gtupL, ex_asg, ex_par, ex_iseq, ex_onSeqT, ex_onSeqL, ex_onSeqS, ex_ienum, ex_irev, ex_onLTt, ex_onLTl, ex_rng1, ex_ifE, ex_and, ex_or, ex_not, ex_andV, ex_orV, ex_notV, ex_ixL, ex_call, ex_callN, ex_rev, ex_revL, ex_cat, ex_rep, ex_sl, ex_slA, ex_slL, ex_nopt, ex_pt, ex_eq, ex_ne, ex_yes, ex_lc, ex_lenT, ex_lenL, ex_lenS, ex_int2, ex_augIx, ex_isT, ex_chain, ex_asg2, ex_neg, List.set, startD, List.replicate, List.map_nil, List.map_cons, List.length_cons, List.length_nil, List.cons_append, List.nil_append, Nat.sub_self, Nat.reduceSub, Nat.reduceAdd, wipeE, decide_true, decide_false, if_true, if_false, true_and, and_true, Bool.not_true, Bool.not_false, Bool.false_eq_true, ex_frz, ex_draw, ex_fld, ex_meth, ex_make, ex_isC, ex_joinS, ex_orS, ex_joined, ex_js, ex_js0, ex_fmt, ex_part, ex_split, ex_inS, ex_toStr, ex_toIntS, ex_ownT, ex_own, ex_listL, ex_listT, ex_reprT, ex_reprL, ex_reprI, ex_slS, ex_toIntB, ex_toIntI, ex_put, ex_drop, ex_never, isT1, isT2, isT3, isT4, tyI, tyT, tyS, pyI, pyB, pyT0, pyIs, Nat.zero_le, deqv_int, deqv_bl]
  rw [List.length_map, List.length_map]
  by_cases h : (rw b m).length = (rw b n).length
  · rw [decide_eq_true (by rw [h])]
    simp only [ex_seq, ex_next, ex_if, ex_ret, ex_set, ex_setO, ex_app, ex_aug, ex_var, ex_vw, ex_c, ex_d2, ex_b, ex_onD, ex_onVd, ex_onVo, ex_onO, ex_onB, ex_onS, ex_int, ex_addI, ex_addS, ex_addT, ex_nil, ex_cons, ex_tup, ex_lst, ex_cb, ex_tupleL, ex_tupleT, get_0, get_s, ex_for, ex_nm, ex_gnil, ex_gcons, ex_gtup, ex_gtupL, ex_asg, ex_par, ex_iseq, ex_onSeqT, ex_onSeqL, ex_onSeqS, ex_ienum, ex_irev, ex_onLTt, ex_onLTl, ex_rng1, ex_ifE, ex_and, ex_or, ex_not, ex_andV, ex_orV, ex_notV, ex_ixL, ex_call, ex_callN, ex_rev, ex_revL, ex_cat, ex_rep, ex_sl, ex_slA, ex_slL, ex_nopt, ex_pt, ex_eq, ex_ne, ex_yes, ex_lc, ex_lenT, ex_lenL, ex_lenS, ex_int2, ex_augIx, ex_isT, ex_chain, ex_asg2, ex_neg, List.set, startD, List.replicate, List.map_nil, List.map_cons, List.length_cons, List.length_nil, List.cons_append, List.nil_append, Nat.sub_self, Nat.reduceSub, Nat.reduceAdd, wipeE, decide_true, decide_false, if_true, if_false, true_and, and_true, Bool.not_true, Bool.not_false, Bool.false_eq_true, ex_frz, ex_draw, ex_fld, ex_meth, ex_make, ex_isC, ex_joinS, ex_orS, ex_joined, ex_js, ex_js0, ex_fmt, ex_part, ex_split, ex_inS, ex_toStr, ex_toIntS, ex_ownT, ex_own, ex_listL, ex_listT, ex_reprT, ex_reprL, ex_reprI, ex_slS, ex_toIntB, ex_toIntI, ex_put, ex_drop, ex_never, isT1, isT2, isT3, isT4, tyI, tyT, tyS, pyI, pyB, pyT0, pyIs, Nat.zero_le, deqv_int, deqv_bl]
    refine ⟨(rw b m).reverse, (rw b n).reverse, by rw [List.map_reverse], by rw [List.map_reverse], ?_⟩
    rw [lexLt_wt hb.1 _ _ (by simp [h]) (fun d hd => rw_dg hb.1 m d (List.mem_reverse.mp hd)) (fun d hd => rw_dg hb.1 n d (List.mem_reverse.mp hd)), List.reverse_reverse, List.reverse_reverse, wt_rw hb.1, wt_rw hb.1]
    show _ = _
    simp
  · rw [decide_eq_false (by omega)]
    simp only [ex_seq, ex_next, ex_if, ex_ret, ex_set, ex_setO, ex_app, ex_aug, ex_var, ex_vw, ex_c, ex_d2, ex_b, ex_onD, ex_onVd, ex_onVo, ex_onO, ex_onB, ex_onS, ex_int, ex_addI, ex_addS, ex_addT, ex_nil, ex_cons, ex_tup, ex_lst, ex_cb, ex_tupleL, ex_tupleT, get_0, get_s, ex_for, ex_nm, ex_gnil, ex_gcons, ex_gtup, ex_gtupL, ex_asg, ex_par, ex_iseq, ex_onSeqT, ex_onSeqL, ex_onSeqS, ex_ienum, ex_irev, ex_onLTt, ex_onLTl, ex_rng1, ex_ifE, ex_and, ex_or, ex_not, ex_andV, ex_orV, ex_notV, ex_ixL, ex_call, ex_callN, ex_rev, ex_revL, ex_cat, ex_rep, ex_sl, ex_slA, ex_slL, ex_nopt, ex_pt, ex_eq, ex_ne, ex_yes, ex_lc, ex_lenT, ex_lenL, ex_lenS, ex_int2, ex_augIx, ex_isT, ex_chain, ex_asg2, ex_neg, List.set, startD, List.replicate, List.map_nil, List.map_cons, List.length_cons, List.length_nil, List.cons_append, List.nil_append, Nat.sub_self, Nat.reduceSub, Nat.reduceAdd, wipeE, decide_true, decide_false, if_true, if_false, true_and, and_true, Bool.not_true, Bool.not_false, Bool.false_eq_true, ex_frz, ex_draw, ex_fld, ex_meth, ex_make, ex_isC, ex_joinS, ex_orS, ex_joined, ex_js, ex_js0, ex_fmt, ex_part, ex_split, ex_inS, ex_toStr, ex_toIntS, ex_ownT, ex_own, ex_listL, ex_listT, ex_reprT, ex_reprL, ex_reprI, ex_slS, ex_toIntB, ex_toIntI, ex_put, ex_drop, ex_never, isT1, isT2, isT3, isT4, tyI, tyT, tyS, pyI, pyB, pyT0, pyIs, Nat.zero_le, deqv_int, deqv_bl]
    show _ = _
    congr 1
    by_cases h2 : (rw b m).length < (rw b n).length
    · rw [decide_eq_true (by omega), decide_eq_true (rw_len_lt hb.1 h2)]
    · have := rw_len_lt hb.1 (show (rw b n).length < (rw b m).length by omega)
      rw [decide_eq_false (by omega)]
      exact (decide_eq_false (by show ¬ m < n; omega)).symm
theorem ok_cut_at : Keeps S_cut_at T_cut_at 2 := by
  rintro ⟨b, n, k⟩ ⟨hb, hn⟩
  dsimp only at hb hn
  show T_cut_at ⟨_, S_cut_at.post (b, n, k), _, _⟩ (startD 2 [row (rw b n), .int k])
  simp only [T_cut_at, row, ex_seq, ex_next, ex_if, ex_ret, ex_set, ex_setO, ex_app, ex_aug, ex_var, ex_vw, ex_c, ex_d2, ex_b, ex_onD, ex_onVd, ex_onVo, ex_onO, ex_onB, ex_onS, ex_int, ex_addI, ex_addS, ex_addT, ex_nil, ex_cons, ex_tup, ex_lst, ex_cb, ex_tupleL, ex_tupleT, get_0, get_s, ex_for, ex_nm, ex_gnil, ex_gcons, ex_gtup, ex_gtupL, ex_asg, ex_par, ex_iseq, ex_onSeqT, ex_onSeqL, ex_onSeqS, ex_ienum, ex_irev, ex_onLTt, ex_onLTl, ex_rng1, ex_ifE, ex_and, ex_or, ex_not, ex_andV, ex_orV, ex_notV, ex_ixL, ex_call, ex_callN, ex_rev, ex_revL, ex_cat, ex_rep, ex_sl, ex_slA, ex_slL, ex_nopt, ex_pt, ex_eq, ex_ne, ex_yes, ex_lc, ex_lenT, ex_lenL, ex_lenS, ex_int2, ex_augIx, ex_isT, ex_chain, ex_asg2, ex_neg, List.set, startD, List.replicate, List.map_nil, List.map_cons, List.length_cons, List.length_nil, List.cons_append, List.nil_append, Nat.sub_self, Nat.reduceSub, Nat.reduceAdd, wipeE, decide_true, decide_false, if_true, if_false, true_and, and_true, Bool.not_true, Bool.not_false, Bool.false_eq_true, ex_frz, ex_draw, ex_fld, ex_meth, ex_make, ex_isC, ex_joinS, ex_orS, ex_joined, ex_js, ex_js0, ex_fmt, ex_part, ex_split, ex_inS, ex_toStr, ex_toIntS, ex_ownT, ex_own, ex_listL, ex_listT, ex_reprT, ex_reprL, ex_reprI, ex_slS, ex_toIntB, ex_toIntI, ex_put, ex_drop, ex_never, isT1, isT2, isT3, isT4, tyI, tyT, tyS, pyI, pyB, pyT0, pyIs, Nat.zero_le, deqv_int, deqv_bl]
  obtain ⟨h1, h2, h3⟩ := rw_take hb.1 k n
  have hl := len_SZ hb.1 hn
  rw [cutD_take, cutD_drop, ← List.map_take, ← List.map_drop, h3]
  refine ⟨(false, (rw b n).take k), rfl, by show ((rw b n).take k).length ≤ SZ; rw [List.length_take]; unfold SZ; omega, fun d e => ?_⟩
  subst e
  refine ⟨by decide, ?_⟩
  show _ = _
  rw [strip_eq hb.1 h1 h2]
  rfl
end MD
end
section
/-! The arithmetic keeps its promises (3). -/
namespace MD
open PySem L2
theorem Sm.len {b n : Nat} (hb : Bs b) (h : n < 2 ^ BND) : (rw b n).length ≤ 20000 := rw_len_le hb.1 BND n h
theorem mod_of_len {b n k : Nat} (hb : 2 ≤ b) (h : (rw b n).length ≤ k) : n % b ^ k = n := Nat.mod_eq_of_lt (Nat.lt_of_lt_of_le (rw_lt hb n) (Nat.pow_le_pow_right (by omega) h))
theorem ok_summed : Keeps S_summed T_summed 7 := by
  rintro ⟨b, m, n⟩ ⟨hb, hmn⟩
  dsimp only at hb hmn
  have hb2 := hb.2
  have lm := Sm.len hb (show m < 2 ^ BND by omega)
  have ln := Sm.len hb (show n < 2 ^ BND by omega)
  show T_summed ⟨_, S_summed.post (b, m, n), _, _⟩ (startD 7 [row (rw b m), row (rw b n), .int b])
  simp only [T_summed, row, ex_seq, ex_next, ex_if, ex_ret, ex_set, ex_setO, ex_app, ex_aug, ex_var, ex_vw, ex_c, ex_d2, ex_b, ex_onD, ex_onVd, ex_onVo, ex_onO, ex_onB, ex_onS, ex_int, ex_addI, ex_addS, ex_addT, ex_nil, ex_cons, ex_tup, ex_lst, ex_cb, ex_tupleL, ex_tupleT, get_0, get_s, ex_for, ex_nm, ex_gnil, ex_gcons, ex_gtup, ex_gtupL, ex_asg, ex_par, ex_iseq, ex_onSeqT, ex_onSeqL, ex_onSeqS, ex_ienum, ex_irev, ex_onLTt, ex_onLTl, ex_rng1, ex_ifE, ex_and, ex_or, ex_not, ex_andV, ex_orV, ex_notV, ex_ixL, ex_call, ex_callN, ex_rev, ex_revL, ex_cat, ex_rep, ex_sl, ex_slA, ex_slL, ex_nopt, ex_pt, ex_eq, ex_ne, ex_yes, ex_lc, ex_lenT, ex_lenL, ex_lenS, ex_int2, ex_augIx, ex_isT, ex_chain, ex_asg2, ex_neg, List.set, startD, List.replicate, List.map_nil, List.map_cons, List.length_cons, List.length_nil, List.cons_append, List.nil_append, Nat.sub_self, Nat.reduceSub, Nat.reduceAdd, wipeE, decide_true, decide_false, if_true, if_false, true_and, and_true, Bool.not_true, Bool.not_false, Bool.false_eq_true, ex_frz, ex_draw, ex_fld, ex_meth, ex_make, ex_isC, ex_joinS, ex_orS, ex_joined, ex_js, ex_js0, ex_fmt, ex_part, ex_split, ex_inS, ex_toStr, ex_toIntS, ex_ownT, ex_own, ex_listL, ex_listT, ex_reprT, ex_reprL, ex_reprI, ex_slS, ex_toIntB, ex_toIntI, ex_put, ex_drop, ex_never, isT1, isT2, isT3, isT4, tyI, tyT, tyS, pyI, pyB, pyT0, pyIs, Nat.zero_le, deqv_int, deqv_bl]
  rw [List.length_map, List.length_map]
  have e0 : (max ((rw b m).length : Int) ((rw b n).length : Int)) = ((max (rw b m).length (rw b n).length : Nat) : Int) := by omega
  rw [e0]
  refine ⟨⟨by omega, by omega⟩, ?_⟩
  rw [Int.toNat_natCast]
  refine for_ix (fun i env => ∃ (L : List Int) (c : Nat) (s t : Sl), env = [.dat (row (rw b m)), .dat (row (rw b n)), .dat (.int b), .own (L.map .int), .dat (.int c), s, t] ∧ L.length = i ∧ Dg b L ∧ c ≤ 1 ∧ wt b L + c * (b : Int) ^ i = (m % b ^ i : Nat) + (n % b ^ i : Nat))
    ⟨[], 0, .un, .un, rfl, rfl, dg_nil, by omega, by simp [wt, Nat.mod_one]⟩ ?_ ?_
  · rintro i hi env K ⟨L, c, s, t, rfl, hL, hd, hc, hw⟩ hK
    rw [rangeD_get hi]
    rw [rangeD_len] at hi
    simp only [ex_seq, ex_next, ex_if, ex_ret, ex_set, ex_setO, ex_app, ex_aug, ex_var, ex_vw, ex_c, ex_d2, ex_b, ex_onD, ex_onVd, ex_onVo, ex_onO, ex_onB, ex_onS, ex_int, ex_addI, ex_addS, ex_addT, ex_nil, ex_cons, ex_tup, ex_lst, ex_cb, ex_tupleL, ex_tupleT, get_0, get_s, ex_for, ex_nm, ex_gnil, ex_gcons, ex_gtup, ex_gtupL, ex_asg, ex_par, ex_iseq, ex_onSeqT, ex_onSeqL, ex_onSeqS, ex_ienum, ex_irev, ex_onLTt, ex_onLTl, ex_rng1, ex_ifE, ex_and, ex_or, ex_not, ex_andV, ex_orV, ex_notV, ex_ixL, ex_call, ex_callN, ex_rev, ex_revL, ex_cat, ex_rep, ex_sl, ex_slA, ex_slL, ex_nopt, ex_pt, ex_eq, ex_ne, ex_yes, ex_lc, ex_lenT, ex_lenL, ex_lenS, ex_int2, ex_augIx, ex_isT, ex_chain, ex_asg2, ex_neg, List.set, startD, List.replicate, List.map_nil, List.map_cons, List.length_cons, List.length_nil, List.cons_append, List.nil_append, Nat.sub_self, Nat.reduceSub, Nat.reduceAdd, wipeE, decide_true, decide_false, if_true, if_false, true_and, and_true, Bool.not_true, Bool.not_false, Bool.false_eq_true, ex_frz, ex_draw, ex_fld, ex_meth, ex_make, ex_isC, ex_joinS, ex_orS, ex_joined, ex_js, ex_js0, ex_fmt, ex_part, ex_split, ex_inS, ex_toStr, ex_toIntS, ex_ownT, ex_own, ex_listL, ex_listT, ex_reprT, ex_reprL, ex_reprI, ex_slS, ex_toIntB, ex_toIntI, ex_put, ex_drop, ex_never, isT1, isT2, isT3, isT4, tyI, tyT, tyS, pyI, pyB, pyT0, pyIs, Nat.zero_le, deqv_int, deqv_bl, Int.zero_add]
    refine ⟨(rw b m, i), rfl, trivial, fun d e => ?_⟩
    subst e
    refine ⟨(rw b n, i), rfl, trivial, fun d e => ?_⟩
    subst e
    simp only [ex_seq, ex_next, ex_if, ex_ret, ex_set, ex_setO, ex_app, ex_aug, ex_var, ex_vw, ex_c, ex_d2, ex_b, ex_onD, ex_onVd, ex_onVo, ex_onO, ex_onB, ex_onS, ex_int, ex_addI, ex_addS, ex_addT, ex_nil, ex_cons, ex_tup, ex_lst, ex_cb, ex_tupleL, ex_tupleT, get_0, get_s, ex_for, ex_nm, ex_gnil, ex_gcons, ex_gtup, ex_gtupL, ex_asg, ex_par, ex_iseq, ex_onSeqT, ex_onSeqL, ex_onSeqS, ex_ienum, ex_irev, ex_onLTt, ex_onLTl, ex_rng1, ex_ifE, ex_and, ex_or, ex_not, ex_andV, ex_orV, ex_notV, ex_ixL, ex_call, ex_callN, ex_rev, ex_revL, ex_cat, ex_rep, ex_sl, ex_slA, ex_slL, ex_nopt, ex_pt, ex_eq, ex_ne, ex_yes, ex_lc, ex_lenT, ex_lenL, ex_lenS, ex_int2, ex_augIx, ex_isT, ex_chain, ex_asg2, ex_neg, List.set, startD, List.replicate, List.map_nil, List.map_cons, List.length_cons, List.length_nil, List.cons_append, List.nil_append, Nat.sub_self, Nat.reduceSub, Nat.reduceAdd, wipeE, decide_true, decide_false, if_true, if_false, true_and, and_true, Bool.not_true, Bool.not_false, Bool.false_eq_true, ex_frz, ex_draw, ex_fld, ex_meth, ex_make, ex_isC, ex_joinS, ex_orS, ex_joined, ex_js, ex_js0, ex_fmt, ex_part, ex_split, ex_inS, ex_toStr, ex_toIntS, ex_ownT, ex_own, ex_listL, ex_listT, ex_reprT, ex_reprL, ex_reprI, ex_slS, ex_toIntB, ex_toIntI, ex_put, ex_drop, ex_never, isT1, isT2, isT3, isT4, tyI, tyT, tyS, pyI, pyB, pyT0, pyIs, Nat.zero_le, deqv_int, deqv_bl, rw_getD hb.1]
    have hx := Nat.mod_lt (m / b ^ i) (show 0 < b by have := hb.1; omega)
    have hy := Nat.mod_lt (n / b ^ i) (show 0 < b by have := hb.1; omega)
    have e1 := mod_succ m b i
    have e2 := mod_succ n b i
    generalize m / b ^ i % b = x at hx e1 ⊢
    generalize n / b ^ i % b = y at hy e2 ⊢
    have b0 : (0 : Int) < b := by have := hb.1; omega
    refine ⟨⟨b0, by omega⟩, by rw [List.length_map]; unfold SZ; omega, ?_⟩
    obtain ⟨c', hc'⟩ : ∃ c' : Nat, ((x : Int) + y + c) / b = c' := ⟨(((x : Int) + y + c) / b).toNat, by have := Int.ediv_nonneg (show (0 : Int) ≤ (x : Int) + y + c by omega) (Int.le_of_lt b0); omega⟩
    refine hK _ ⟨L ++ [((x : Int) + y + c) % b], c', _, _, by rw [hc', List.map_append]; rfl, by rw [List.length_append, hL]; rfl, hd.append (dg_one ⟨Int.emod_nonneg _ (by omega), Int.emod_lt_of_pos _ b0⟩), ?_, ?_⟩
    · have : ((x : Int) + y + c) / b < 2 := Int.ediv_lt_of_lt_mul b0 (by omega)
      omega
    · rw [wt_snoc, hL, ← hc', Int.pow_succ, Int.add_assoc, ediv_step, e1, e2, Int.mul_add, Int.mul_add, Int.mul_comm _ (c : Int)]
      omega
  · rintro env ⟨L, c, s, t, rfl, hL, hd, hc, hw⟩
    rw [rangeD_len] at hL hw
    simp only [ex_seq, ex_next, ex_if, ex_ret, ex_set, ex_setO, ex_app, ex_aug, ex_var, ex_vw, ex_c, ex_d2, ex_b, ex_onD, ex_onVd, ex_onVo, ex_onO, ex_onB, ex_onS, ex_int, ex_addI, ex_addS, ex_addT, ex_nil, ex_cons, ex_tup, ex_lst, ex_cb, ex_tupleL, ex_tupleT, get_0, get_s, ex_for, ex_nm, ex_gnil, ex_gcons, ex_gtup, ex_gtupL, ex_asg, ex_par, ex_iseq, ex_onSeqT, ex_onSeqL, ex_onSeqS, ex_ienum, ex_irev, ex_onLTt, ex_onLTl, ex_rng1, ex_ifE, ex_and, ex_or, ex_not, ex_andV, ex_orV, ex_notV, ex_ixL, ex_call, ex_callN, ex_rev, ex_revL, ex_cat, ex_rep, ex_sl, ex_slA, ex_slL, ex_nopt, ex_pt, ex_eq, ex_ne, ex_yes, ex_lc, ex_lenT, ex_lenL, ex_lenS, ex_int2, ex_augIx, ex_isT, ex_chain, ex_asg2, ex_neg, List.set, startD, List.replicate, List.map_nil, List.map_cons, List.length_cons, List.length_nil, List.cons_append, List.nil_append, Nat.sub_self, Nat.reduceSub, Nat.reduceAdd, wipeE, decide_true, decide_false, if_true, if_false, true_and, and_true, Bool.not_true, Bool.not_false, Bool.false_eq_true, ex_frz, ex_draw, ex_fld, ex_meth, ex_make, ex_isC, ex_joinS, ex_orS, ex_joined, ex_js, ex_js0, ex_fmt, ex_part, ex_split, ex_inS, ex_toStr, ex_toIntS, ex_ownT, ex_own, ex_listL, ex_listT, ex_reprT, ex_reprL, ex_reprI, ex_slS, ex_toIntB, ex_toIntI, ex_put, ex_drop, ex_never, isT1, isT2, isT3, isT4, tyI, tyT, tyS, pyI, pyB, pyT0, pyIs, Nat.zero_le, deqv_int, deqv_bl, List.length_map]
    rw [mod_of_len hb.1 (Nat.le_max_left _ _), mod_of_len hb.1 (Nat.le_max_right _ _)] at hw
    have hge : 0 < L.length → b ^ (L.length - 1) ≤ m + n := fun hp => by
      rw [hL] at hp ⊢
      rcases Nat.le_total (rw b m).length (rw b n).length with z | z
      · rw [Nat.max_eq_right z] at hp ⊢
        have : 0 < n := Nat.pos_of_ne_zero fun q => by subst q; rw [rw_zero] at hp; exact absurd hp (by decide)
        exact Nat.le_trans (rw_ge hb.1 this) (Nat.le_add_left _ _)
      · rw [Nat.max_eq_left z] at hp ⊢
        have : 0 < m := Nat.pos_of_ne_zero fun q => by subst q; rw [rw_zero] at hp; exact absurd hp (by decide)
        exact Nat.le_trans (rw_ge hb.1 this) (Nat.le_add_right _ _)
    have hc2 : c = 0 ∨ c = 1 := by omega
    rcases hc2 with rfl | rfl
    · refine ⟨by decide, ⟨by decide, by decide, by decide⟩, by simp; rw [hL]; unfold SZ; omega, ?_⟩
      show _ = rwD b (m + n)
      have hw' : wt b L = ((m + n : Nat) : Int) := by simp at hw; omega
      rw [rwD, rw_eq hb.1 hd hw' (fun hne => hge (List.length_pos_iff.mpr hne))]
      simp [row]
    · refine ⟨by decide, ⟨by decide, by decide, by decide⟩, by simp; rw [hL]; unfold SZ; omega, ?_⟩
      show _ = rwD b (m + n)
      have hd' : Dg b (L ++ [1]) := hd.append (dg_one ⟨by decide, by have := hb.1; omega⟩)
      have hw' : wt b (L ++ [1]) = ((m + n : Nat) : Int) := by rw [wt_snoc, hL]; simp at hw ⊢; omega
      have hg' : b ^ ((L ++ [1]).length - 1) ≤ m + n := by
        rw [List.length_append, List.length_cons, List.length_nil, Nat.add_sub_cancel]
        have h1 := wt_nn hd
        rw [wt_snoc] at hw'
        have : ((b ^ L.length : Nat) : Int) ≤ ((m + n : Nat) : Int) := by rw [Int.natCast_pow]; omega
        exact_mod_cast this
      rw [rwD, rw_eq hb.1 hd' hw' (fun _ => hg')]
      simp [row]
end MD
end
section
/-! The arithmetic keeps its promises (4). -/
namespace MD
open PySem L2
theorem ok_lessened : Keeps S_lessened T_lessened 8 := by
  rintro ⟨b, m, n⟩ ⟨hb, hnm, hm⟩
  dsimp only at hb hnm hm
  have hb2 := hb.2
  have b0 : (0 : Int) < b := by have := hb.1; omega
  have lm := Sm.len hb hm
  have lnm := rw_len_mono hb.1 hnm
  show T_lessened ⟨_, S_lessened.post (b, m, n), _, _⟩ (startD 8 [row (rw b m), row (rw b n), .int b])
  simp only [T_lessened, row, ex_seq, ex_next, ex_if, ex_ret, ex_set, ex_setO, ex_app, ex_aug, ex_var, ex_vw, ex_c, ex_d2, ex_b, ex_onD, ex_onVd, ex_onVo, ex_onO, ex_onB, ex_onS, ex_int, ex_addI, ex_addS, ex_addT, ex_nil, ex_cons, ex_tup, ex_lst, ex_cb, ex_tupleL, ex_tupleT, get_0, get_s, ex_for, ex_nm, ex_gnil, ex_gcons, ex_gtup, ex_gtupL, ex_asg, ex_par, ex_iseq, ex_onSeqT, ex_onSeqL, ex_onSeqS, ex_ienum, ex_irev, ex_onLTt, ex_onLTl, ex_rng1, ex_ifE, ex_and, ex_or, ex_not, ex_andV, ex_orV, ex_notV, ex_ixL, ex_call, ex_callN, ex_rev, ex_revL, ex_cat, ex_rep, ex_sl, ex_slA, ex_slL, ex_nopt, ex_pt, ex_eq, ex_ne, ex_yes, ex_lc, ex_lenT, ex_lenL, ex_lenS, ex_int2, ex_augIx, ex_isT, ex_chain, ex_asg2, ex_neg, List.set, startD, List.replicate, List.map_nil, List.map_cons, List.length_cons, List.length_nil, List.cons_append, List.nil_append, Nat.sub_self, Nat.reduceSub, Nat.reduceAdd, wipeE, decide_true, decide_false, if_true, if_false, true_and, and_true, Bool.not_true, Bool.not_false, Bool.false_eq_true, ex_frz, ex_draw, ex_fld, ex_meth, ex_make, ex_isC, ex_joinS, ex_orS, ex_joined, ex_js, ex_js0, ex_fmt, ex_part, ex_split, ex_inS, ex_toStr, ex_toIntS, ex_ownT, ex_own, ex_listL, ex_listT, ex_reprT, ex_reprL, ex_reprI, ex_slS, ex_toIntB, ex_toIntI, ex_put, ex_drop, ex_never, isT1, isT2, isT3, isT4, tyI, tyT, tyS, pyI, pyB, pyT0, pyIs, Nat.zero_le, deqv_int, deqv_bl]
  refine ⟨(b, m, n), rfl, hb, fun d e => ?_⟩
  subst e
  simp only [ex_seq, ex_next, ex_if, ex_ret, ex_set, ex_setO, ex_app, ex_aug, ex_var, ex_vw, ex_c, ex_d2, ex_b, ex_onD, ex_onVd, ex_onVo, ex_onO, ex_onB, ex_onS, ex_int, ex_addI, ex_addS, ex_addT, ex_nil, ex_cons, ex_tup, ex_lst, ex_cb, ex_tupleL, ex_tupleT, get_0, get_s, ex_for, ex_nm, ex_gnil, ex_gcons, ex_gtup, ex_gtupL, ex_asg, ex_par, ex_iseq, ex_onSeqT, ex_onSeqL, ex_onSeqS, ex_ienum, ex_irev, ex_onLTt, ex_onLTl, ex_rng1, ex_ifE, ex_and, ex_or, ex_not, ex_andV, ex_orV, ex_notV, ex_ixL, ex_call, ex_callN, ex_rev, ex_revL, ex_cat, ex_rep, ex_sl, ex_slA, ex_slL, ex_nopt, ex_pt, ex_eq, ex_ne, ex_yes, ex_lc, ex_lenT, ex_lenL, ex_lenS, ex_int2, ex_augIx, ex_isT, ex_chain, ex_asg2, ex_neg, List.set, startD, List.replicate, List.map_nil, List.map_cons, List.length_cons, List.length_nil, List.cons_append, List.nil_append, Nat.sub_self, Nat.reduceSub, Nat.reduceAdd, wipeE, decide_true, decide_false, if_true, if_false, true_and, and_true, Bool.not_true, Bool.not_false, Bool.false_eq_true, ex_frz, ex_draw, ex_fld, ex_meth, ex_make, ex_isC, ex_joinS, ex_orS, ex_joined, ex_js, ex_js0, ex_fmt, ex_part, ex_split, ex_inS, ex_toStr, ex_toIntS, ex_ownT, ex_own, ex_listL, ex_listT, ex_reprT, ex_reprL, ex_reprI, ex_slS, ex_toIntB, ex_toIntI, ex_put, ex_drop, ex_never, isT1, isT2, isT3, isT4, tyI, tyT, tyS, pyI, pyB, pyT0, pyIs, Nat.zero_le, deqv_int, deqv_bl]
  rw [decide_eq_false (by show ¬ m < n; omega), if_neg (by decide)]
  refine for_ix (fun i env => ∃ (L : List Int) (c : Nat) (s t u : Sl), env = [.dat (row (rw b m)), .dat (row (rw b n)), .dat (.int b), .own (L.map .int), .dat (.int c), s, t, u] ∧ L.length = i ∧ Dg b L ∧ c ≤ 1 ∧ wt b L - c * (b : Int) ^ i = (m % b ^ i : Nat) - (n % b ^ i : Nat))
    ⟨[], 0, .un, .un, .un, rfl, rfl, dg_nil, by omega, by simp [wt, Nat.mod_one]⟩ ?_ ?_
  · rintro i hi env K ⟨L, c, s, t, u, rfl, hL, hd, hc, hw⟩ hK
    rw [enumD_get hi]
    rw [enumD_len, List.length_map] at hi
    simp only [ex_seq, ex_next, ex_if, ex_ret, ex_set, ex_setO, ex_app, ex_aug, ex_var, ex_vw, ex_c, ex_d2, ex_b, ex_onD, ex_onVd, ex_onVo, ex_onO, ex_onB, ex_onS, ex_int, ex_addI, ex_addS, ex_addT, ex_nil, ex_cons, ex_tup, ex_lst, ex_cb, ex_tupleL, ex_tupleT, get_0, get_s, ex_for, ex_nm, ex_gnil, ex_gcons, ex_gtup, ex_gtupL, ex_asg, ex_par, ex_iseq, ex_onSeqT, ex_onSeqL, ex_onSeqS, ex_ienum, ex_irev, ex_onLTt, ex_onLTl, ex_rng1, ex_ifE, ex_and, ex_or, ex_not, ex_andV, ex_orV, ex_notV, ex_ixL, ex_call, ex_callN, ex_rev, ex_revL, ex_cat, ex_rep, ex_sl, ex_slA, ex_slL, ex_nopt, ex_pt, ex_eq, ex_ne, ex_yes, ex_lc, ex_lenT, ex_lenL, ex_lenS, ex_int2, ex_augIx, ex_isT, ex_chain, ex_asg2, ex_neg, List.set, startD, List.replicate, List.map_nil, List.map_cons, List.length_cons, List.length_nil, List.cons_append, List.nil_append, Nat.sub_self, Nat.reduceSub, Nat.reduceAdd, wipeE, decide_true, decide_false, if_true, if_false, true_and, and_true, Bool.not_true, Bool.not_false, Bool.false_eq_true, ex_frz, ex_draw, ex_fld, ex_meth, ex_make, ex_isC, ex_joinS, ex_orS, ex_joined, ex_js, ex_js0, ex_fmt, ex_part, ex_split, ex_inS, ex_toStr, ex_toIntS, ex_ownT, ex_own, ex_listL, ex_listT, ex_reprT, ex_reprL, ex_reprI, ex_slS, ex_toIntB, ex_toIntI, ex_put, ex_drop, ex_never, isT1, isT2, isT3, isT4, tyI, tyT, tyS, pyI, pyB, pyT0, pyIs, Nat.zero_le, deqv_int, deqv_bl, Int.zero_add, List.getElem_map, rw_get hb.1 hi]
    refine ⟨(rw b n, i), rfl, trivial, fun d e => ?_⟩
    subst e
    simp only [ex_seq, ex_next, ex_if, ex_ret, ex_set, ex_setO, ex_app, ex_aug, ex_var, ex_vw, ex_c, ex_d2, ex_b, ex_onD, ex_onVd, ex_onVo, ex_onO, ex_onB, ex_onS, ex_int, ex_addI, ex_addS, ex_addT, ex_nil, ex_cons, ex_tup, ex_lst, ex_cb, ex_tupleL, ex_tupleT, get_0, get_s, ex_for, ex_nm, ex_gnil, ex_gcons, ex_gtup, ex_gtupL, ex_asg, ex_par, ex_iseq, ex_onSeqT, ex_onSeqL, ex_onSeqS, ex_ienum, ex_irev, ex_onLTt, ex_onLTl, ex_rng1, ex_ifE, ex_and, ex_or, ex_not, ex_andV, ex_orV, ex_notV, ex_ixL, ex_call, ex_callN, ex_rev, ex_revL, ex_cat, ex_rep, ex_sl, ex_slA, ex_slL, ex_nopt, ex_pt, ex_eq, ex_ne, ex_yes, ex_lc, ex_lenT, ex_lenL, ex_lenS, ex_int2, ex_augIx, ex_isT, ex_chain, ex_asg2, ex_neg, List.set, startD, List.replicate, List.map_nil, List.map_cons, List.length_cons, List.length_nil, List.cons_append, List.nil_append, Nat.sub_self, Nat.reduceSub, Nat.reduceAdd, wipeE, decide_true, decide_false, if_true, if_false, true_and, and_true, Bool.not_true, Bool.not_false, Bool.false_eq_true, ex_frz, ex_draw, ex_fld, ex_meth, ex_make, ex_isC, ex_joinS, ex_orS, ex_joined, ex_js, ex_js0, ex_fmt, ex_part, ex_split, ex_inS, ex_toStr, ex_toIntS, ex_ownT, ex_own, ex_listL, ex_listT, ex_reprT, ex_reprL, ex_reprI, ex_slS, ex_toIntB, ex_toIntI, ex_put, ex_drop, ex_never, isT1, isT2, isT3, isT4, tyI, tyT, tyS, pyI, pyB, pyT0, pyIs, Nat.zero_le, deqv_int, deqv_bl, rw_getD hb.1]
    have hx := Nat.mod_lt (m / b ^ i) (show 0 < b by have := hb.1; omega)
    have hy := Nat.mod_lt (n / b ^ i) (show 0 < b by have := hb.1; omega)
    have e1 := mod_succ m b i
    have e2 := mod_succ n b i
    generalize m / b ^ i % b = x at hx e1 ⊢
    generalize n / b ^ i % b = y at hy e2 ⊢
    have pw : (b : Int) ^ (i + 1) = (b : Int) ^ i * b := Int.pow_succ ..
    by_cases hneg : (x : Int) - y - c < 0
    · rw [decide_eq_true hneg]
      simp only [ex_seq, ex_next, ex_if, ex_ret, ex_set, ex_setO, ex_app, ex_aug, ex_var, ex_vw, ex_c, ex_d2, ex_b, ex_onD, ex_onVd, ex_onVo, ex_onO, ex_onB, ex_onS, ex_int, ex_addI, ex_addS, ex_addT, ex_nil, ex_cons, ex_tup, ex_lst, ex_cb, ex_tupleL, ex_tupleT, get_0, get_s, ex_for, ex_nm, ex_gnil, ex_gcons, ex_gtup, ex_gtupL, ex_asg, ex_par, ex_iseq, ex_onSeqT, ex_onSeqL, ex_onSeqS, ex_ienum, ex_irev, ex_onLTt, ex_onLTl, ex_rng1, ex_ifE, ex_and, ex_or, ex_not, ex_andV, ex_orV, ex_notV, ex_ixL, ex_call, ex_callN, ex_rev, ex_revL, ex_cat, ex_rep, ex_sl, ex_slA, ex_slL, ex_nopt, ex_pt, ex_eq, ex_ne, ex_yes, ex_lc, ex_lenT, ex_lenL, ex_lenS, ex_int2, ex_augIx, ex_isT, ex_chain, ex_asg2, ex_neg, List.set, startD, List.replicate, List.map_nil, List.map_cons, List.length_cons, List.length_nil, List.cons_append, List.nil_append, Nat.sub_self, Nat.reduceSub, Nat.reduceAdd, wipeE, decide_true, decide_false, if_true, if_false, true_and, and_true, Bool.not_true, Bool.not_false, Bool.false_eq_true, ex_frz, ex_draw, ex_fld, ex_meth, ex_make, ex_isC, ex_joinS, ex_orS, ex_joined, ex_js, ex_js0, ex_fmt, ex_part, ex_split, ex_inS, ex_toStr, ex_toIntS, ex_ownT, ex_own, ex_listL, ex_listT, ex_reprT, ex_reprL, ex_reprI, ex_slS, ex_toIntB, ex_toIntI, ex_put, ex_drop, ex_never, isT1, isT2, isT3, isT4, tyI, tyT, tyS, pyI, pyB, pyT0, pyIs, Nat.zero_le, deqv_int, deqv_bl]
      refine ⟨mulOkR (by omega), by rw [List.length_map]; unfold SZ; omega, hK _ ⟨L ++ [(x : Int) - y - c + 1 * b], 1, _, _, _, by rw [List.map_append]; rfl, by rw [List.length_append, hL]; rfl, hd.append (dg_one ⟨by omega, by omega⟩), by omega, ?_⟩⟩
      rw [wt_snoc, hL, e1, e2, pw, Int.mul_add, Int.mul_sub, Int.mul_sub, Int.one_mul]
      rw [Int.mul_comm (c : Int)] at hw
      omega
    · rw [decide_eq_false hneg]
      simp only [ex_seq, ex_next, ex_if, ex_ret, ex_set, ex_setO, ex_app, ex_aug, ex_var, ex_vw, ex_c, ex_d2, ex_b, ex_onD, ex_onVd, ex_onVo, ex_onO, ex_onB, ex_onS, ex_int, ex_addI, ex_addS, ex_addT, ex_nil, ex_cons, ex_tup, ex_lst, ex_cb, ex_tupleL, ex_tupleT, get_0, get_s, ex_for, ex_nm, ex_gnil, ex_gcons, ex_gtup, ex_gtupL, ex_asg, ex_par, ex_iseq, ex_onSeqT, ex_onSeqL, ex_onSeqS, ex_ienum, ex_irev, ex_onLTt, ex_onLTl, ex_rng1, ex_ifE, ex_and, ex_or, ex_not, ex_andV, ex_orV, ex_notV, ex_ixL, ex_call, ex_callN, ex_rev, ex_revL, ex_cat, ex_rep, ex_sl, ex_slA, ex_slL, ex_nopt, ex_pt, ex_eq, ex_ne, ex_yes, ex_lc, ex_lenT, ex_lenL, ex_lenS, ex_int2, ex_augIx, ex_isT, ex_chain, ex_asg2, ex_neg, List.set, startD, List.replicate, List.map_nil, List.map_cons, List.length_cons, List.length_nil, List.cons_append, List.nil_append, Nat.sub_self, Nat.reduceSub, Nat.reduceAdd, wipeE, decide_true, decide_false, if_true, if_false, true_and, and_true, Bool.not_true, Bool.not_false, Bool.false_eq_true, ex_frz, ex_draw, ex_fld, ex_meth, ex_make, ex_isC, ex_joinS, ex_orS, ex_joined, ex_js, ex_js0, ex_fmt, ex_part, ex_split, ex_inS, ex_toStr, ex_toIntS, ex_ownT, ex_own, ex_listL, ex_listT, ex_reprT, ex_reprL, ex_reprI, ex_slS, ex_toIntB, ex_toIntI, ex_put, ex_drop, ex_never, isT1, isT2, isT3, isT4, tyI, tyT, tyS, pyI, pyB, pyT0, pyIs, Nat.zero_le, deqv_int, deqv_bl]
      refine ⟨mulOkR (by omega), by rw [List.length_map]; unfold SZ; omega, hK _ ⟨L ++ [(x : Int) - y - c + 0 * b], 0, _, _, _, by rw [List.map_append]; rfl, by rw [List.length_append, hL]; rfl, hd.append (dg_one ⟨by omega, by omega⟩), by omega, ?_⟩⟩
      rw [wt_snoc, hL, e1, e2, pw, Int.mul_add, Int.mul_sub, Int.mul_sub, Int.zero_mul]
      rw [Int.mul_comm (c : Int)] at hw
      omega
  · rintro env ⟨L, c, s, t, u, rfl, hL, hd, hc, hw⟩
    rw [enumD_len, List.length_map] at hL hw
    rw [mod_of_len hb.1 (Nat.le_refl _), mod_of_len hb.1 lnm] at hw
    simp only [ex_seq, ex_next, ex_if, ex_ret, ex_set, ex_setO, ex_app, ex_aug, ex_var, ex_vw, ex_c, ex_d2, ex_b, ex_onD, ex_onVd, ex_onVo, ex_onO, ex_onB, ex_onS, ex_int, ex_addI, ex_addS, ex_addT, ex_nil, ex_cons, ex_tup, ex_lst, ex_cb, ex_tupleL, ex_tupleT, get_0, get_s, ex_for, ex_nm, ex_gnil, ex_gcons, ex_gtup, ex_gtupL, ex_asg, ex_par, ex_iseq, ex_onSeqT, ex_onSeqL, ex_onSeqS, ex_ienum, ex_irev, ex_onLTt, ex_onLTl, ex_rng1, ex_ifE, ex_and, ex_or, ex_not, ex_andV, ex_orV, ex_notV, ex_ixL, ex_call, ex_callN, ex_rev, ex_revL, ex_cat, ex_rep, ex_sl, ex_slA, ex_slL, ex_nopt, ex_pt, ex_eq, ex_ne, ex_yes, ex_lc, ex_lenT, ex_lenL, ex_lenS, ex_int2, ex_augIx, ex_isT, ex_chain, ex_asg2, ex_neg, List.set, startD, List.replicate, List.map_nil, List.map_cons, List.length_cons, List.length_nil, List.cons_append, List.nil_append, Nat.sub_self, Nat.reduceSub, Nat.reduceAdd, wipeE, decide_true, decide_false, if_true, if_false, true_and, and_true, Bool.not_true, Bool.not_false, Bool.false_eq_true, ex_frz, ex_draw, ex_fld, ex_meth, ex_make, ex_isC, ex_joinS, ex_orS, ex_joined, ex_js, ex_js0, ex_fmt, ex_part, ex_split, ex_inS, ex_toStr, ex_toIntS, ex_ownT, ex_own, ex_listL, ex_listT, ex_reprT, ex_reprL, ex_reprI, ex_slS, ex_toIntB, ex_toIntI, ex_put, ex_drop, ex_never, isT1, isT2, isT3, isT4, tyI, tyT, tyS, pyI, pyB, pyT0, pyIs, Nat.zero_le, deqv_int, deqv_bl]
    have h1 := wt_lt hb.1 hd
    have h2 := wt_nn hd
    have hc0 : c = 0 := by
      have hc2 : c = 0 ∨ c = 1 := by omega
      rcases hc2 with h | h
      · exact h
      · subst h
        rw [hL] at h1
        simp at hw
        omega
    subst hc0
    refine ⟨(true, L), rfl, by show L.length ≤ SZ; rw [hL]; unfold SZ; omega, fun d e => ?_⟩
    subst e
    show _ = rwD b (m - n)
    rw [strip_eq hb.1 hd (n := m - n) (by simp at hw; omega)]
    rfl
theorem ok_scaled : Keeps S_scaled T_scaled 7 := by
  rintro ⟨b, m, l⟩ ⟨hb, hl, hm⟩
  dsimp only at hb hl hm
  have hb2 := hb.2
  have b0 : (0 : Int) < b := by have := hb.1; omega
  have lm := Sm.len hb hm
  show T_scaled ⟨_, S_scaled.post (b, m, l), _, _⟩ (startD 7 [row (rw b m), .int l, .int b])
  simp only [T_scaled, row, ex_seq, ex_next, ex_if, ex_ret, ex_set, ex_setO, ex_app, ex_aug, ex_var, ex_vw, ex_c, ex_d2, ex_b, ex_onD, ex_onVd, ex_onVo, ex_onO, ex_onB, ex_onS, ex_int, ex_addI, ex_addS, ex_addT, ex_nil, ex_cons, ex_tup, ex_lst, ex_cb, ex_tupleL, ex_tupleT, get_0, get_s, ex_for, ex_nm, ex_gnil, ex_gcons, ex_gtup, ex_gtupL, ex_asg, ex_par, ex_iseq, ex_onSeqT, ex_onSeqL, ex_onSeqS, ex_ienum, ex_irev, ex_onLTt, ex_onLTl, ex_rng1, ex_ifE, ex_and, ex_or, ex_not, ex_andV, ex_orV, ex_notV, ex_ixL, ex_call, ex_callN, ex_rev, ex_revL, ex_cat, ex_rep, ex_sl, ex_slA, ex_slL, ex_nopt, ex_pt, ex_eq, ex_ne, ex_yes, ex_lc, ex_lenT, ex_lenL, ex_lenS, ex_int2, ex_augIx, ex_isT, ex_chain, ex_asg2, ex_neg, List.set, startD, List.replicate, List.map_nil, List.map_cons, List.length_cons, List.length_nil, List.cons_append, List.nil_append, Nat.sub_self, Nat.reduceSub, Nat.reduceAdd, wipeE, decide_true, decide_false, if_true, if_false, true_and, and_true, Bool.not_true, Bool.not_false, Bool.false_eq_true, ex_frz, ex_draw, ex_fld, ex_meth, ex_make, ex_isC, ex_joinS, ex_orS, ex_joined, ex_js, ex_js0, ex_fmt, ex_part, ex_split, ex_inS, ex_toStr, ex_toIntS, ex_ownT, ex_own, ex_listL, ex_listT, ex_reprT, ex_reprL, ex_reprI, ex_slS, ex_toIntB, ex_toIntI, ex_put, ex_drop, ex_never, isT1, isT2, isT3, isT4, tyI, tyT, tyS, pyI, pyB, pyT0, pyIs, Nat.zero_le, deqv_int, deqv_bl]
  refine for_ix (fun i env => ∃ (L : List Int) (c : Nat) (s t : Sl), env = [.dat (row (rw b m)), .dat (.int l), .dat (.int b), .own (L.map .int), .dat (.int c), s, t] ∧ L.length = i ∧ Dg b L ∧ c ≤ l ∧ wt b L + c * (b : Int) ^ i = (m % b ^ i : Nat) * l)
    ⟨[], 0, .un, .un, rfl, rfl, dg_nil, by omega, by simp [wt, Nat.mod_one]⟩ ?_ ?_
  · rintro i hi env K ⟨L, c, s, t, rfl, hL, hd, hc, hw⟩ hK
    rw [List.length_map] at hi
    simp only [ex_seq, ex_next, ex_if, ex_ret, ex_set, ex_setO, ex_app, ex_aug, ex_var, ex_vw, ex_c, ex_d2, ex_b, ex_onD, ex_onVd, ex_onVo, ex_onO, ex_onB, ex_onS, ex_int, ex_addI, ex_addS, ex_addT, ex_nil, ex_cons, ex_tup, ex_lst, ex_cb, ex_tupleL, ex_tupleT, get_0, get_s, ex_for, ex_nm, ex_gnil, ex_gcons, ex_gtup, ex_gtupL, ex_asg, ex_par, ex_iseq, ex_onSeqT, ex_onSeqL, ex_onSeqS, ex_ienum, ex_irev, ex_onLTt, ex_onLTl, ex_rng1, ex_ifE, ex_and, ex_or, ex_not, ex_andV, ex_orV, ex_notV, ex_ixL, ex_call, ex_callN, ex_rev, ex_revL, ex_cat, ex_rep, ex_sl, ex_slA, ex_slL, ex_nopt, ex_pt, ex_eq, ex_ne, ex_yes, ex_lc, ex_lenT, ex_lenL, ex_lenS, ex_int2, ex_augIx, ex_isT, ex_chain, ex_asg2, ex_neg, List.set, startD, List.replicate, List.map_nil, List.map_cons, List.length_cons, List.length_nil, List.cons_append, List.nil_append, Nat.sub_self, Nat.reduceSub, Nat.reduceAdd, wipeE, decide_true, decide_false, if_true, if_false, true_and, and_true, Bool.not_true, Bool.not_false, Bool.false_eq_true, ex_frz, ex_draw, ex_fld, ex_meth, ex_make, ex_isC, ex_joinS, ex_orS, ex_joined, ex_js, ex_js0, ex_fmt, ex_part, ex_split, ex_inS, ex_toStr, ex_toIntS, ex_ownT, ex_own, ex_listL, ex_listT, ex_reprT, ex_reprL, ex_reprI, ex_slS, ex_toIntB, ex_toIntI, ex_put, ex_drop, ex_never, isT1, isT2, isT3, isT4, tyI, tyT, tyS, pyI, pyB, pyT0, pyIs, Nat.zero_le, deqv_int, deqv_bl, List.getElem_map, rw_get hb.1 hi]
    have hx := Nat.mod_lt (m / b ^ i) (show 0 < b by have := hb.1; omega)
    have e1 := mod_succ m b i
    generalize m / b ^ i % b = x at hx e1 ⊢
    have hxl : (x : Int) * l ≤ ((b : Int) - 1) * l := Int.mul_le_mul_of_nonneg_right (by omega) (by omega)
    have hxl0 : (0 : Int) ≤ (x : Int) * l := Int.mul_nonneg (by omega) (by omega)
    rw [Int.sub_mul, Int.one_mul] at hxl
    refine ⟨mulOkR (by omega), ⟨b0, by omega⟩, by rw [List.length_map]; unfold SZ; omega, ?_⟩
    have q0 := Int.ediv_nonneg (show (0 : Int) ≤ (x : Int) * l + c by omega) (Int.le_of_lt b0)
    have q1 : ((x : Int) * l + c) / b ≤ l := by
      have : ((x : Int) * l + c) / b < l + 1 := Int.ediv_lt_of_lt_mul b0 (by rw [Int.add_mul, Int.one_mul, Int.mul_comm (l : Int)]; omega)
      omega
    obtain ⟨c', hc'⟩ : ∃ c' : Nat, ((x : Int) * l + c) / b = c' := ⟨(((x : Int) * l + c) / b).toNat, by omega⟩
    refine hK _ ⟨L ++ [((x : Int) * l + c) % b], c', _, _, by rw [hc', List.map_append]; rfl, by rw [List.length_append, hL]; rfl, hd.append (dg_one ⟨Int.emod_nonneg _ (by omega), Int.emod_lt_of_pos _ b0⟩), by omega, ?_⟩
    rw [wt_snoc, hL, ← hc', Int.pow_succ, Int.add_assoc, ediv_step, e1, Int.mul_add, Int.add_mul, Int.mul_assoc, ← hw, Int.mul_comm _ (c : Int)]
    omega
  · rintro env ⟨L, c, s, t, rfl, hL, hd, hc, hw⟩
    rw [List.length_map] at hL hw
    rw [mod_of_len hb.1 (Nat.le_refl _)] at hw
    simp only [ex_seq, ex_next, ex_if, ex_ret, ex_set, ex_setO, ex_app, ex_aug, ex_var, ex_vw, ex_c, ex_d2, ex_b, ex_onD, ex_onVd, ex_onVo, ex_onO, ex_onB, ex_onS, ex_int, ex_addI, ex_addS, ex_addT, ex_nil, ex_cons, ex_tup, ex_lst, ex_cb, ex_tupleL, ex_tupleT, get_0, get_s, ex_for, ex_nm, ex_gnil, ex_gcons, ex_gtup, ex_gtupL, ex_asg, ex_par, ex_iseq, ex_onSeqT, ex_onSeqL, ex_onSeqS, ex_ienum, ex_irev, ex_onLTt, ex_onLTl, ex_rng1, ex_ifE, ex_and, ex_or, ex_not, ex_andV, ex_orV, ex_notV, ex_ixL, ex_call, ex_callN, ex_rev, ex_revL, ex_cat, ex_rep, ex_sl, ex_slA, ex_slL, ex_nopt, ex_pt, ex_eq, ex_ne, ex_yes, ex_lc, ex_lenT, ex_lenL, ex_lenS, ex_int2, ex_augIx, ex_isT, ex_chain, ex_asg2, ex_neg, List.set, startD, List.replicate, List.map_nil, List.map_cons, List.length_cons, List.length_nil, List.cons_append, List.nil_append, Nat.sub_self, Nat.reduceSub, Nat.reduceAdd, wipeE, decide_true, decide_false, if_true, if_false, true_and, and_true, Bool.not_true, Bool.not_false, Bool.false_eq_true, ex_frz, ex_draw, ex_fld, ex_meth, ex_make, ex_isC, ex_joinS, ex_orS, ex_joined, ex_js, ex_js0, ex_fmt, ex_part, ex_split, ex_inS, ex_toStr, ex_toIntS, ex_ownT, ex_own, ex_listL, ex_listT, ex_reprT, ex_reprL, ex_reprI, ex_slS, ex_toIntB, ex_toIntI, ex_put, ex_drop, ex_never, isT1, isT2, isT3, isT4, tyI, tyT, tyS, pyI, pyB, pyT0, pyIs, Nat.zero_le, deqv_int, deqv_bl]
    refine ⟨by decide, by rw [List.length_map, hL]; unfold SZ; omega, (true, L ++ [(c : Int)]), by show [D.lst _] = [D.lst _]; rw [List.map_append]; rfl, by show (L ++ [(c : Int)]).length ≤ SZ; rw [List.length_append, hL]; unfold SZ; show _ + 1 ≤ _; omega, fun d e => ?_⟩
    subst e
    show _ = rwD b (m * l)
    rw [strip_eq hb.1 (hd.append (dg_one ⟨by omega, by omega⟩)) (n := m * l) (by rw [wt_snoc, hL, Int.mul_comm _ (c : Int), hw]; push_cast; rfl)]
    rfl
theorem ok_parted : Keeps S_parted T_parted 7 := by
  rintro ⟨b, m, l⟩ ⟨hb, hl0, hl, hm⟩
  dsimp only at hb hl0 hl hm
  have hb2 := hb.2
  have b0 : (0 : Int) < b := by have := hb.1; omega
  have lm := Sm.len hb hm
  show T_parted ⟨_, S_parted.post (b, m, l), _, _⟩ (startD 7 [row (rw b m), .int l, .int b])
  simp only [T_parted, row, ex_seq, ex_next, ex_if, ex_ret, ex_set, ex_setO, ex_app, ex_aug, ex_var, ex_vw, ex_c, ex_d2, ex_b, ex_onD, ex_onVd, ex_onVo, ex_onO, ex_onB, ex_onS, ex_int, ex_addI, ex_addS, ex_addT, ex_nil, ex_cons, ex_tup, ex_lst, ex_cb, ex_tupleL, ex_tupleT, get_0, get_s, ex_for, ex_nm, ex_gnil, ex_gcons, ex_gtup, ex_gtupL, ex_asg, ex_par, ex_iseq, ex_onSeqT, ex_onSeqL, ex_onSeqS, ex_ienum, ex_irev, ex_onLTt, ex_onLTl, ex_rng1, ex_ifE, ex_and, ex_or, ex_not, ex_andV, ex_orV, ex_notV, ex_ixL, ex_call, ex_callN, ex_rev, ex_revL, ex_cat, ex_rep, ex_sl, ex_slA, ex_slL, ex_nopt, ex_pt, ex_eq, ex_ne, ex_yes, ex_lc, ex_lenT, ex_lenL, ex_lenS, ex_int2, ex_augIx, ex_isT, ex_chain, ex_asg2, ex_neg, List.set, startD, List.replicate, List.map_nil, List.map_cons, List.length_cons, List.length_nil, List.cons_append, List.nil_append, Nat.sub_self, Nat.reduceSub, Nat.reduceAdd, wipeE, decide_true, decide_false, if_true, if_false, true_and, and_true, Bool.not_true, Bool.not_false, Bool.false_eq_true, ex_frz, ex_draw, ex_fld, ex_meth, ex_make, ex_isC, ex_joinS, ex_orS, ex_joined, ex_js, ex_js0, ex_fmt, ex_part, ex_split, ex_inS, ex_toStr, ex_toIntS, ex_ownT, ex_own, ex_listL, ex_listT, ex_reprT, ex_reprL, ex_reprI, ex_slS, ex_toIntB, ex_toIntI, ex_put, ex_drop, ex_never, isT1, isT2, isT3, isT4, tyI, tyT, tyS, pyI, pyB, pyT0, pyIs, Nat.zero_le, deqv_int, deqv_bl]
  rw [← List.map_reverse]
  refine for_of (α := Int) (fun d => .int d) (fun r env => ∃ (p : Nat) (L : List Int) (s t : Sl), env = [.dat (row (rw b m)), .dat (.int l), .dat (.int b), .own (L.map .int), .dat (.int (p % l : Nat)), s, t] ∧ L.length + r.length = (rw b m).length ∧ Dg b L ∧ Dg b r ∧ wt b L.reverse = (p / l : Nat) ∧ (p : Int) * (b : Int) ^ r.length + wt b r.reverse = m) ?_ ?_ _ _
    ⟨0, [], .un, .un, by simp [row], by simp, dg_nil, fun d hd => rw_dg hb.1 m d (List.mem_reverse.mp hd), by simp [wt], by rw [List.reverse_reverse, wt_rw hb.1]; simp⟩
  · rintro a r env K ⟨p, L, s, t, rfl, hL, hd, hr, hw, hp⟩ hK
    simp only [ex_seq, ex_next, ex_if, ex_ret, ex_set, ex_setO, ex_app, ex_aug, ex_var, ex_vw, ex_c, ex_d2, ex_b, ex_onD, ex_onVd, ex_onVo, ex_onO, ex_onB, ex_onS, ex_int, ex_addI, ex_addS, ex_addT, ex_nil, ex_cons, ex_tup, ex_lst, ex_cb, ex_tupleL, ex_tupleT, get_0, get_s, ex_for, ex_nm, ex_gnil, ex_gcons, ex_gtup, ex_gtupL, ex_asg, ex_par, ex_iseq, ex_onSeqT, ex_onSeqL, ex_onSeqS, ex_ienum, ex_irev, ex_onLTt, ex_onLTl, ex_rng1, ex_ifE, ex_and, ex_or, ex_not, ex_andV, ex_orV, ex_notV, ex_ixL, ex_call, ex_callN, ex_rev, ex_revL, ex_cat, ex_rep, ex_sl, ex_slA, ex_slL, ex_nopt, ex_pt, ex_eq, ex_ne, ex_yes, ex_lc, ex_lenT, ex_lenL, ex_lenS, ex_int2, ex_augIx, ex_isT, ex_chain, ex_asg2, ex_neg, List.set, startD, List.replicate, List.map_nil, List.map_cons, List.length_cons, List.length_nil, List.cons_append, List.nil_append, Nat.sub_self, Nat.reduceSub, Nat.reduceAdd, wipeE, decide_true, decide_false, if_true, if_false, true_and, and_true, Bool.not_true, Bool.not_false, Bool.false_eq_true, ex_frz, ex_draw, ex_fld, ex_meth, ex_make, ex_isC, ex_joinS, ex_orS, ex_joined, ex_js, ex_js0, ex_fmt, ex_part, ex_split, ex_inS, ex_toStr, ex_toIntS, ex_ownT, ex_own, ex_listL, ex_listT, ex_reprT, ex_reprL, ex_reprI, ex_slS, ex_toIntB, ex_toIntI, ex_put, ex_drop, ex_never, isT1, isT2, isT3, isT4, tyI, tyT, tyS, pyI, pyB, pyT0, pyIs, Nat.zero_le, deqv_int, deqv_bl]
    obtain ⟨x, rfl⟩ : ∃ x : Nat, a = x := ⟨a.toNat, by have := hr.cons.1.1; omega⟩
    have hx : x < b := by have := hr.cons.1.2; omega
    have hpl := Nat.mod_lt p hl0
    have hL1 : L.length < (rw b m).length := by rw [List.length_cons] at hL; omega
    refine ⟨mulOkR (by omega), ⟨by omega, by omega⟩, by rw [List.length_map]; unfold SZ; omega, ?_⟩
    have e0 : ((p % l : Nat) : Int) * b + x = ((p % l * b + x : Nat) : Int) := by push_cast; rfl
    rw [e0]
    have em : (p * b + x) = l * (p / l * b) + (p % l * b + x) := by
      have := Nat.div_add_mod p l
      have e : p * b = (l * (p / l) + p % l) * b := by rw [this]
      rw [e, Nat.add_mul, Nat.mul_assoc]; omega
    have e1 : (p * b + x) / l = p / l * b + (p % l * b + x) / l := by
      rw [em, Nat.mul_add_div hl0]
    have e2 : (p * b + x) % l = (p % l * b + x) % l := by
      rw [em, Nat.mul_add_mod]
    have q1 : (p % l * b + x) / l < b := by
      apply Nat.div_lt_of_lt_mul
      have : (p % l + 1) * b ≤ l * b := Nat.mul_le_mul_right b (by omega)
      rw [Nat.add_mul, Nat.one_mul] at this
      omega
    rw [show ((p % l * b + x : Nat) : Int) / l = (((p % l * b + x) / l : Nat) : Int) from (Int.natCast_ediv _ _).symm, show ((p % l * b + x : Nat) : Int) % l = (((p % l * b + x) % l : Nat) : Int) from (Int.natCast_emod _ _).symm, ← e2]
    refine hK _ ⟨p * b + x, L ++ [(((p % l * b + x) / l : Nat) : Int)], _, _, by rw [List.map_append]; rfl, by rw [List.length_append]; rw [List.length_cons] at hL; show L.length + 1 + r.length = _; omega, hd.append (dg_one ⟨Int.natCast_nonneg _, by exact_mod_cast q1⟩), hr.cons.2, ?_, ?_⟩
    · rw [List.reverse_append, List.reverse_cons, List.reverse_nil, List.nil_append, List.singleton_append]
      show _ + (b : Int) * wt b L.reverse = _
      rw [hw, e1, Int.mul_comm]
      push_cast
      omega
    · rw [List.reverse_cons, wt_snoc, List.length_cons, List.length_reverse, Int.pow_succ] at hp
      push_cast
      rw [← hp, Int.add_mul, Int.mul_assoc, Int.mul_comm (b : Int), Int.mul_comm (x : Int)]
      omega
  · rintro env ⟨p, L, s, t, rfl, hL, hd, hr, hw, hp⟩
    have ep : p = m := by
      have : (p : Int) * 1 + 0 = m := hp
      omega
    subst ep
    simp only [ex_seq, ex_next, ex_if, ex_ret, ex_set, ex_setO, ex_app, ex_aug, ex_var, ex_vw, ex_c, ex_d2, ex_b, ex_onD, ex_onVd, ex_onVo, ex_onO, ex_onB, ex_onS, ex_int, ex_addI, ex_addS, ex_addT, ex_nil, ex_cons, ex_tup, ex_lst, ex_cb, ex_tupleL, ex_tupleT, get_0, get_s, ex_for, ex_nm, ex_gnil, ex_gcons, ex_gtup, ex_gtupL, ex_asg, ex_par, ex_iseq, ex_onSeqT, ex_onSeqL, ex_onSeqS, ex_ienum, ex_irev, ex_onLTt, ex_onLTl, ex_rng1, ex_ifE, ex_and, ex_or, ex_not, ex_andV, ex_orV, ex_notV, ex_ixL, ex_call, ex_callN, ex_rev, ex_revL, ex_cat, ex_rep, ex_sl, ex_slA, ex_slL, ex_nopt, ex_pt, ex_eq, ex_ne, ex_yes, ex_lc, ex_lenT, ex_lenL, ex_lenS, ex_int2, ex_augIx, ex_isT, ex_chain, ex_asg2, ex_neg, List.set, startD, List.replicate, List.map_nil, List.map_cons, List.length_cons, List.length_nil, List.cons_append, List.nil_append, Nat.sub_self, Nat.reduceSub, Nat.reduceAdd, wipeE, decide_true, decide_false, if_true, if_false, true_and, and_true, Bool.not_true, Bool.not_false, Bool.false_eq_true, ex_frz, ex_draw, ex_fld, ex_meth, ex_make, ex_isC, ex_joinS, ex_orS, ex_joined, ex_js, ex_js0, ex_fmt, ex_part, ex_split, ex_inS, ex_toStr, ex_toIntS, ex_ownT, ex_own, ex_listL, ex_listT, ex_reprT, ex_reprL, ex_reprI, ex_slS, ex_toIntB, ex_toIntI, ex_put, ex_drop, ex_never, isT1, isT2, isT3, isT4, tyI, tyT, tyS, pyI, pyB, pyT0, pyIs, Nat.zero_le, deqv_int, deqv_bl]
    rw [← List.map_reverse]
    refine ⟨(true, L.reverse), rfl, by show L.reverse.length ≤ SZ; rw [List.length_reverse]; rw [List.length_nil] at hL; unfold SZ; omega, fun d e => ?_⟩
    subst e
    refine ⟨by decide, ?_⟩
    show _ = _
    rw [strip_eq hb.1 (fun d h => hd d (List.mem_reverse.mp h)) hw]
    rfl
end MD
end
section
/-! The arithmetic keeps its promises (5): products. -/
namespace MD
open PySem L2
theorem rep_ints (k : Nat) : (List.replicate k [D.int 0]).flatten = (List.replicate k (0 : Int)).map .int := by
  induction k with
  | zero => rfl
  | succ k ih => rw [List.replicate_succ, List.replicate_succ, List.flatten_cons, ih]; rfl
theorem wt_zero {b : Nat} (k : Nat) : wt b (List.replicate k 0) = 0 := by
  induction k with
  | zero => rfl
  | succ k ih => rw [List.replicate_succ]; show 0 + b * wt b (List.replicate k 0) = 0; rw [ih]; omega
theorem wt_set {b : Nat} : ∀ (xs : List Int) (k : Nat) (v x : Int), xs[k]? = some x → wt b (xs.set k (x + v)) = wt b xs + (b : Int) ^ k * v
  | [], k, v, x, h => by simp at h
  | y :: xs, 0, v, x, h => by
    simp at h
    subst h
    show y + v + b * wt b xs = y + b * wt b xs + (b : Int) ^ 0 * v
    rw [Int.pow_zero, Int.one_mul]; omega
  | y :: xs, k + 1, v, x, h => by
    have ih := wt_set (b := b) xs k v x (by simpa using h)
    show y + b * wt b (xs.set k (x + v)) = y + b * wt b xs + (b : Int) ^ (k + 1) * v
    rw [ih, Int.mul_add, Int.pow_succ, Int.mul_comm ((b : Int) ^ k) b, Int.mul_assoc]; omega
theorem ok_column_sums : Keeps S_column_sums T_column_sums 7 := by
  rintro ⟨b, m, n⟩ ⟨hb, hm, hn⟩
  dsimp only at hb hm hn
  have hb2 := hb.2
  have lm := Sm.len hb hm
  have ln := Sm.len hb hn
  show T_column_sums ⟨_, S_column_sums.post (b, m, n), _, _⟩ (startD 7 [row (rw b m), row (rw b n)])
  simp only [T_column_sums, row, ex_seq, ex_next, ex_if, ex_ret, ex_set, ex_setO, ex_app, ex_aug, ex_var, ex_vw, ex_c, ex_d2, ex_b, ex_onD, ex_onVd, ex_onVo, ex_onO, ex_onB, ex_onS, ex_int, ex_addI, ex_addS, ex_addT, ex_nil, ex_cons, ex_tup, ex_lst, ex_cb, ex_tupleL, ex_tupleT, get_0, get_s, ex_for, ex_nm, ex_gnil, ex_gcons, ex_gtup, ex_gtupL, ex_asg, ex_par, ex_iseq, ex_onSeqT, ex_onSeqL, ex_onSeqS, ex_ienum, ex_irev, ex_onLTt, ex_onLTl, ex_rng1, ex_ifE, ex_and, ex_or, ex_not, ex_andV, ex_orV, ex_notV, ex_ixL, ex_call, ex_callN, ex_rev, ex_revL, ex_cat, ex_rep, ex_sl, ex_slA, ex_slL, ex_nopt, ex_pt, ex_eq, ex_ne, ex_yes, ex_lc, ex_lenT, ex_lenL, ex_lenS, ex_int2, ex_augIx, ex_isT, ex_chain, ex_asg2, ex_neg, List.set, startD, List.replicate, List.map_nil, List.map_cons, List.length_cons, List.length_nil, List.cons_append, List.nil_append, Nat.sub_self, Nat.reduceSub, Nat.reduceAdd, wipeE, decide_true, decide_false, if_true, if_false, true_and, and_true, Bool.not_true, Bool.not_false, Bool.false_eq_true, ex_frz, ex_draw, ex_fld, ex_meth, ex_make, ex_isC, ex_joinS, ex_orS, ex_joined, ex_js, ex_js0, ex_fmt, ex_part, ex_split, ex_inS, ex_toStr, ex_toIntS, ex_ownT, ex_own, ex_listL, ex_listT, ex_reprT, ex_reprL, ex_reprI, ex_slS, ex_toIntB, ex_toIntI, ex_put, ex_drop, ex_never, isT1, isT2, isT3, isT4, tyI, tyT, tyS, pyI, pyB, pyT0, pyIs, Nat.zero_le, deqv_int, deqv_bl]
  rw [show deqv (.tup ((rw b m).map D.int)) (.tup []) = decide (rw b m = []) from deqv_ints (rw b m) []]
  by_cases h1 : rw b m = []
  · rw [decide_eq_true h1, if_pos rfl]
    have : m = 0 := (rw_nil hb.1).mp h1
    exact ⟨[], rfl, by show wt b [] = _; rw [this]; simp [wt], fun _ => rfl, fun h => by rw [show (b, m, n).2.1 = m from rfl, this] at h; simp at h, fun c hc => by cases hc⟩
  rw [decide_eq_false h1, if_neg (by decide), show deqv (.tup ((rw b n).map D.int)) (.tup []) = decide (rw b n = []) from deqv_ints (rw b n) []]
  by_cases h2 : rw b n = []
  · rw [decide_eq_true h2, if_pos rfl]
    have : n = 0 := (rw_nil hb.1).mp h2
    exact ⟨[], rfl, by show wt b [] = _; rw [this]; simp [wt], fun _ => rfl, fun h => by rw [show (b, m, n).2.2 = n from rfl, this] at h; simp at h, fun c hc => by cases hc⟩
  rw [decide_eq_false h2, if_neg (by decide), List.length_map, List.length_map]
  have p1 : 0 < (rw b m).length := List.length_pos_iff.mpr h1
  have p2 : 0 < (rw b n).length := List.length_pos_iff.mpr h2
  have ek : (((rw b m).length : Int) + ((rw b n).length : Int) - 1).toNat = (rw b m).length + (rw b n).length - 1 := by omega
  refine ⟨by decide, ⟨by omega, by omega, by rw [ek, Nat.one_mul]; unfold SZ; omega⟩, ?_⟩
  rw [ek, rep_ints]
  refine for_ix (fun i env => ∃ (F : List Int) (s t u v : Sl), env = [.dat (row (rw b m)), .dat (row (rw b n)), .own (F.map .int), s, t, u, v] ∧ F.length = (rw b m).length + (rw b n).length - 1 ∧ (∀ c ∈ F, 0 ≤ c) ∧ wt b F = (m % b ^ i : Nat) * n)
    ⟨_, .un, .un, .un, .un, rfl, by rw [List.length_replicate], fun c hc => by rw [(List.mem_replicate.mp hc).2]; decide, by rw [wt_zero]; simp [Nat.mod_one]⟩ ?_ ?_
  · rintro i hi env K ⟨F, s, t, u, v, rfl, hF, hp, hw⟩ hK
    rw [enumD_get hi]
    rw [enumD_len, List.length_map] at hi
    simp only [ex_seq, ex_next, ex_if, ex_ret, ex_set, ex_setO, ex_app, ex_aug, ex_var, ex_vw, ex_c, ex_d2, ex_b, ex_onD, ex_onVd, ex_onVo, ex_onO, ex_onB, ex_onS, ex_int, ex_addI, ex_addS, ex_addT, ex_nil, ex_cons, ex_tup, ex_lst, ex_cb, ex_tupleL, ex_tupleT, get_0, get_s, ex_for, ex_nm, ex_gnil, ex_gcons, ex_gtup, ex_gtupL, ex_asg, ex_par, ex_iseq, ex_onSeqT, ex_onSeqL, ex_onSeqS, ex_ienum, ex_irev, ex_onLTt, ex_onLTl, ex_rng1, ex_ifE, ex_and, ex_or, ex_not, ex_andV, ex_orV, ex_notV, ex_ixL, ex_call, ex_callN, ex_rev, ex_revL, ex_cat, ex_rep, ex_sl, ex_slA, ex_slL, ex_nopt, ex_pt, ex_eq, ex_ne, ex_yes, ex_lc, ex_lenT, ex_lenL, ex_lenS, ex_int2, ex_augIx, ex_isT, ex_chain, ex_asg2, ex_neg, List.set, startD, List.replicate, List.map_nil, List.map_cons, List.length_cons, List.length_nil, List.cons_append, List.nil_append, Nat.sub_self, Nat.reduceSub, Nat.reduceAdd, wipeE, decide_true, decide_false, if_true, if_false, true_and, and_true, Bool.not_true, Bool.not_false, Bool.false_eq_true, ex_frz, ex_draw, ex_fld, ex_meth, ex_make, ex_isC, ex_joinS, ex_orS, ex_joined, ex_js, ex_js0, ex_fmt, ex_part, ex_split, ex_inS, ex_toStr, ex_toIntS, ex_ownT, ex_own, ex_listL, ex_listT, ex_reprT, ex_reprL, ex_reprI, ex_slS, ex_toIntB, ex_toIntI, ex_put, ex_drop, ex_never, isT1, isT2, isT3, isT4, tyI, tyT, tyS, pyI, pyB, pyT0, pyIs, Nat.zero_le, deqv_int, deqv_bl, Int.zero_add, List.getElem_map, rw_get hb.1 hi]
    have hx := Nat.mod_lt (m / b ^ i) (show 0 < b by have := hb.1; omega)
    have e1 := mod_succ m b i
    generalize m / b ^ i % b = x at hx e1 ⊢
    refine for_ix (fun j env => ∃ (F : List Int) (u v : Sl), env = [.dat (row (rw b m)), .dat (row (rw b n)), .own (F.map .int), .dat (.int i), .dat (.int x), u, v] ∧ F.length = (rw b m).length + (rw b n).length - 1 ∧ (∀ c ∈ F, 0 ≤ c) ∧ wt b F = (m % b ^ i : Nat) * n + (b : Int) ^ i * x * (n % b ^ j : Nat))
      ⟨F, u, v, rfl, hF, hp, by rw [hw]; simp [Nat.mod_one]⟩ ?_ ?_
    · rintro j hj env K' ⟨F, u, v, rfl, hF, hp, hw⟩ hK'
      rw [enumD_get hj]
      rw [enumD_len, List.length_map] at hj
      simp only [ex_seq, ex_next, ex_if, ex_ret, ex_set, ex_setO, ex_app, ex_aug, ex_var, ex_vw, ex_c, ex_d2, ex_b, ex_onD, ex_onVd, ex_onVo, ex_onO, ex_onB, ex_onS, ex_int, ex_addI, ex_addS, ex_addT, ex_nil, ex_cons, ex_tup, ex_lst, ex_cb, ex_tupleL, ex_tupleT, get_0, get_s, ex_for, ex_nm, ex_gnil, ex_gcons, ex_gtup, ex_gtupL, ex_asg, ex_par, ex_iseq, ex_onSeqT, ex_onSeqL, ex_onSeqS, ex_ienum, ex_irev, ex_onLTt, ex_onLTl, ex_rng1, ex_ifE, ex_and, ex_or, ex_not, ex_andV, ex_orV, ex_notV, ex_ixL, ex_call, ex_callN, ex_rev, ex_revL, ex_cat, ex_rep, ex_sl, ex_slA, ex_slL, ex_nopt, ex_pt, ex_eq, ex_ne, ex_yes, ex_lc, ex_lenT, ex_lenL, ex_lenS, ex_int2, ex_augIx, ex_isT, ex_chain, ex_asg2, ex_neg, List.set, startD, List.replicate, List.map_nil, List.map_cons, List.length_cons, List.length_nil, List.cons_append, List.nil_append, Nat.sub_self, Nat.reduceSub, Nat.reduceAdd, wipeE, decide_true, decide_false, if_true, if_false, true_and, and_true, Bool.not_true, Bool.not_false, Bool.false_eq_true, ex_frz, ex_draw, ex_fld, ex_meth, ex_make, ex_isC, ex_joinS, ex_orS, ex_joined, ex_js, ex_js0, ex_fmt, ex_part, ex_split, ex_inS, ex_toStr, ex_toIntS, ex_ownT, ex_own, ex_listL, ex_listT, ex_reprT, ex_reprL, ex_reprI, ex_slS, ex_toIntB, ex_toIntI, ex_put, ex_drop, ex_never, isT1, isT2, isT3, isT4, tyI, tyT, tyS, pyI, pyB, pyT0, pyIs, Nat.zero_le, deqv_int, deqv_bl, Int.zero_add, List.getElem_map, rw_get hb.1 hj]
      have hy := Nat.mod_lt (n / b ^ j) (show 0 < b by have := hb.1; omega)
      have e2 := mod_succ n b j
      generalize n / b ^ j % b = y at hy e2 ⊢
      have eij : ((i : Int) + (j : Int)).toNat = i + j := by omega
      rw [eij]
      have hlt : i + j < F.length := by omega
      refine ⟨by omega, F[i + j], by simp [hlt], Or.inl (Or.inl ⟨by omega, by omega⟩), hK' _ ⟨F.set (i + j) (F[i + j] + (x : Int) * y), _, _, by rw [List.map_set], by rw [List.length_set, hF], fun c hc => ?_, ?_⟩⟩
      · rcases List.mem_or_eq_of_mem_set hc with h | h
        · exact hp c h
        · rw [h]
          have := hp _ (List.getElem_mem hlt)
          have := Int.mul_nonneg (show (0 : Int) ≤ x by omega) (show (0 : Int) ≤ y by omega)
          omega
      · rw [wt_set F (i + j) _ _ (List.getElem?_eq_getElem hlt), hw, e2, Int.pow_add, Int.mul_add]
        rw [show (b : Int) ^ i * x * ((b : Int) ^ j * y) = (b : Int) ^ i * (b : Int) ^ j * (x * y) by
          rw [Int.mul_assoc, Int.mul_assoc, Int.mul_left_comm (x : Int)]]
        omega
    · rintro env ⟨F, u, v, rfl, hF, hp, hw⟩
      rw [enumD_len, List.length_map] at hw
      rw [mod_of_len hb.1 (Nat.le_refl _)] at hw
      refine hK _ ⟨F, _, _, _, _, rfl, hF, hp, ?_⟩
      rw [hw, e1, Int.add_mul]
  · rintro env ⟨F, s, t, u, v, rfl, hF, hp, hw⟩
    rw [enumD_len, List.length_map] at hw
    rw [mod_of_len hb.1 (Nat.le_refl _)] at hw
    simp only [ex_seq, ex_next, ex_if, ex_ret, ex_set, ex_setO, ex_app, ex_aug, ex_var, ex_vw, ex_c, ex_d2, ex_b, ex_onD, ex_onVd, ex_onVo, ex_onO, ex_onB, ex_onS, ex_int, ex_addI, ex_addS, ex_addT, ex_nil, ex_cons, ex_tup, ex_lst, ex_cb, ex_tupleL, ex_tupleT, get_0, get_s, ex_for, ex_nm, ex_gnil, ex_gcons, ex_gtup, ex_gtupL, ex_asg, ex_par, ex_iseq, ex_onSeqT, ex_onSeqL, ex_onSeqS, ex_ienum, ex_irev, ex_onLTt, ex_onLTl, ex_rng1, ex_ifE, ex_and, ex_or, ex_not, ex_andV, ex_orV, ex_notV, ex_ixL, ex_call, ex_callN, ex_rev, ex_revL, ex_cat, ex_rep, ex_sl, ex_slA, ex_slL, ex_nopt, ex_pt, ex_eq, ex_ne, ex_yes, ex_lc, ex_lenT, ex_lenL, ex_lenS, ex_int2, ex_augIx, ex_isT, ex_chain, ex_asg2, ex_neg, List.set, startD, List.replicate, List.map_nil, List.map_cons, List.length_cons, List.length_nil, List.cons_append, List.nil_append, Nat.sub_self, Nat.reduceSub, Nat.reduceAdd, wipeE, decide_true, decide_false, if_true, if_false, true_and, and_true, Bool.not_true, Bool.not_false, Bool.false_eq_true, ex_frz, ex_draw, ex_fld, ex_meth, ex_make, ex_isC, ex_joinS, ex_orS, ex_joined, ex_js, ex_js0, ex_fmt, ex_part, ex_split, ex_inS, ex_toStr, ex_toIntS, ex_ownT, ex_own, ex_listL, ex_listT, ex_reprT, ex_reprL, ex_reprI, ex_slS, ex_toIntB, ex_toIntI, ex_put, ex_drop, ex_never, isT1, isT2, isT3, isT4, tyI, tyT, tyS, pyI, pyB, pyT0, pyIs, Nat.zero_le, deqv_int, deqv_bl]
    refine ⟨F, rfl, by rw [hw]; push_cast; rfl, fun h => ?_, fun _ => by rw [hF]; show _ - 1 + 1 = (rw b m).length + (rw b n).length; omega, hp⟩
    have q1 : 0 < m := Nat.pos_of_ne_zero fun q => h1 ((rw_nil hb.1).mpr q)
    have q2 : 0 < n := Nat.pos_of_ne_zero fun q => h2 ((rw_nil hb.1).mpr q)
    have := Nat.mul_pos q1 q2
    have h : m * n = 0 := h
    omega
theorem ok_carried : Keeps S_carried T_carried 7 := by
  rintro ⟨b, cs, N⟩ ⟨hb, hl, hp, hN, hlt, hge⟩
  dsimp only at hb hl hp hN hlt hge
  have hb2 := hb.2
  have b0 : (0 : Int) < b := by have := hb.1; omega
  show T_carried ⟨_, S_carried.post (b, cs, N), _, _⟩ (startD 7 [row cs, .int b])
  simp only [T_carried, row, ex_seq, ex_next, ex_if, ex_ret, ex_set, ex_setO, ex_app, ex_aug, ex_var, ex_vw, ex_c, ex_d2, ex_b, ex_onD, ex_onVd, ex_onVo, ex_onO, ex_onB, ex_onS, ex_int, ex_addI, ex_addS, ex_addT, ex_nil, ex_cons, ex_tup, ex_lst, ex_cb, ex_tupleL, ex_tupleT, get_0, get_s, ex_for, ex_nm, ex_gnil, ex_gcons, ex_gtup, ex_gtupL, ex_asg, ex_par, ex_iseq, ex_onSeqT, ex_onSeqL, ex_onSeqS, ex_ienum, ex_irev, ex_onLTt, ex_onLTl, ex_rng1, ex_ifE, ex_and, ex_or, ex_not, ex_andV, ex_orV, ex_notV, ex_ixL, ex_call, ex_callN, ex_rev, ex_revL, ex_cat, ex_rep, ex_sl, ex_slA, ex_slL, ex_nopt, ex_pt, ex_eq, ex_ne, ex_yes, ex_lc, ex_lenT, ex_lenL, ex_lenS, ex_int2, ex_augIx, ex_isT, ex_chain, ex_asg2, ex_neg, List.set, startD, List.replicate, List.map_nil, List.map_cons, List.length_cons, List.length_nil, List.cons_append, List.nil_append, Nat.sub_self, Nat.reduceSub, Nat.reduceAdd, wipeE, decide_true, decide_false, if_true, if_false, true_and, and_true, Bool.not_true, Bool.not_false, Bool.false_eq_true, ex_frz, ex_draw, ex_fld, ex_meth, ex_make, ex_isC, ex_joinS, ex_orS, ex_joined, ex_js, ex_js0, ex_fmt, ex_part, ex_split, ex_inS, ex_toStr, ex_toIntS, ex_ownT, ex_own, ex_listL, ex_listT, ex_reprT, ex_reprL, ex_reprI, ex_slS, ex_toIntB, ex_toIntI, ex_put, ex_drop, ex_never, isT1, isT2, isT3, isT4, tyI, tyT, tyS, pyI, pyB, pyT0, pyIs, Nat.zero_le, deqv_int, deqv_bl]
  refine for_ix (fun i env => ∃ (L M : List Int) (c : Nat) (s t : Sl), env = [.dat (row cs), .dat (.int b), .own (L.map .int), .own (M.map .int), .dat (.int c), s, t] ∧ L.length = i ∧ M.length = i ∧ Dg b L ∧ wt b L + c * (b : Int) ^ i = wt b (cs.take i))
    ⟨[], [], 0, .un, .un, rfl, rfl, rfl, dg_nil, by simp [wt]⟩ ?_ ?_
  · rintro i hi env K ⟨L, M, c, s, t, rfl, hL, hM, hd, hw⟩ hK
    rw [List.length_map] at hi
    simp only [ex_seq, ex_next, ex_if, ex_ret, ex_set, ex_setO, ex_app, ex_aug, ex_var, ex_vw, ex_c, ex_d2, ex_b, ex_onD, ex_onVd, ex_onVo, ex_onO, ex_onB, ex_onS, ex_int, ex_addI, ex_addS, ex_addT, ex_nil, ex_cons, ex_tup, ex_lst, ex_cb, ex_tupleL, ex_tupleT, get_0, get_s, ex_for, ex_nm, ex_gnil, ex_gcons, ex_gtup, ex_gtupL, ex_asg, ex_par, ex_iseq, ex_onSeqT, ex_onSeqL, ex_onSeqS, ex_ienum, ex_irev, ex_onLTt, ex_onLTl, ex_rng1, ex_ifE, ex_and, ex_or, ex_not, ex_andV, ex_orV, ex_notV, ex_ixL, ex_call, ex_callN, ex_rev, ex_revL, ex_cat, ex_rep, ex_sl, ex_slA, ex_slL, ex_nopt, ex_pt, ex_eq, ex_ne, ex_yes, ex_lc, ex_lenT, ex_lenL, ex_lenS, ex_int2, ex_augIx, ex_isT, ex_chain, ex_asg2, ex_neg, List.set, startD, List.replicate, List.map_nil, List.map_cons, List.length_cons, List.length_nil, List.cons_append, List.nil_append, Nat.sub_self, Nat.reduceSub, Nat.reduceAdd, wipeE, decide_true, decide_false, if_true, if_false, true_and, and_true, Bool.not_true, Bool.not_false, Bool.false_eq_true, ex_frz, ex_draw, ex_fld, ex_meth, ex_make, ex_isC, ex_joinS, ex_orS, ex_joined, ex_js, ex_js0, ex_fmt, ex_part, ex_split, ex_inS, ex_toStr, ex_toIntS, ex_ownT, ex_own, ex_listL, ex_listT, ex_reprT, ex_reprL, ex_reprI, ex_slS, ex_toIntB, ex_toIntI, ex_put, ex_drop, ex_never, isT1, isT2, isT3, isT4, tyI, tyT, tyS, pyI, pyB, pyT0, pyIs, Nat.zero_le, deqv_int, deqv_bl, List.getElem_map]
    have hx := hp _ (List.getElem_mem hi)
    have q0 := Int.ediv_nonneg (show (0 : Int) ≤ c + cs[i] by omega) (Int.le_of_lt b0)
    obtain ⟨c', hc'⟩ : ∃ c' : Nat, ((c : Int) + cs[i]) / b = c' := ⟨(((c : Int) + cs[i]) / b).toNat, by omega⟩
    refine ⟨⟨b0, by omega⟩, by rw [List.length_map]; omega, by rw [List.length_map]; omega, ?_⟩
    refine hK _ ⟨L ++ [((c : Int) + cs[i]) % b], M ++ [((c : Int) + cs[i]) / b], c', _, _, by rw [List.map_append, List.map_append, hc']; rfl, by rw [List.length_append, hL]; rfl, by rw [List.length_append, hM]; rfl, hd.append (dg_one ⟨Int.emod_nonneg _ (by omega), Int.emod_lt_of_pos _ b0⟩), ?_⟩
    rw [wt_snoc, hL, ← hc', Int.pow_succ, Int.add_assoc, ediv_step, List.take_succ_eq_append_getElem hi, wt_snoc, List.length_take, Nat.min_eq_left (by omega), ← hw, Int.mul_add, Int.mul_comm _ (c : Int)]
    omega
  · rintro env ⟨L, M, c, s, t, rfl, hL, hM, hd, hw⟩
    rw [List.length_map] at hL hM hw
    rw [List.take_length, hN] at hw
    simp only [ex_seq, ex_next, ex_if, ex_ret, ex_set, ex_setO, ex_app, ex_aug, ex_var, ex_vw, ex_c, ex_d2, ex_b, ex_onD, ex_onVd, ex_onVo, ex_onO, ex_onB, ex_onS, ex_int, ex_addI, ex_addS, ex_addT, ex_nil, ex_cons, ex_tup, ex_lst, ex_cb, ex_tupleL, ex_tupleT, get_0, get_s, ex_for, ex_nm, ex_gnil, ex_gcons, ex_gtup, ex_gtupL, ex_asg, ex_par, ex_iseq, ex_onSeqT, ex_onSeqL, ex_onSeqS, ex_ienum, ex_irev, ex_onLTt, ex_onLTl, ex_rng1, ex_ifE, ex_and, ex_or, ex_not, ex_andV, ex_orV, ex_notV, ex_ixL, ex_call, ex_callN, ex_rev, ex_revL, ex_cat, ex_rep, ex_sl, ex_slA, ex_slL, ex_nopt, ex_pt, ex_eq, ex_ne, ex_yes, ex_lc, ex_lenT, ex_lenL, ex_lenS, ex_int2, ex_augIx, ex_isT, ex_chain, ex_asg2, ex_neg, List.set, startD, List.replicate, List.map_nil, List.map_cons, List.length_cons, List.length_nil, List.cons_append, List.nil_append, Nat.sub_self, Nat.reduceSub, Nat.reduceAdd, wipeE, decide_true, decide_false, if_true, if_false, true_and, and_true, Bool.not_true, Bool.not_false, Bool.false_eq_true, ex_frz, ex_draw, ex_fld, ex_meth, ex_make, ex_isC, ex_joinS, ex_orS, ex_joined, ex_js, ex_js0, ex_fmt, ex_part, ex_split, ex_inS, ex_toStr, ex_toIntS, ex_ownT, ex_own, ex_listL, ex_listT, ex_reprT, ex_reprL, ex_reprI, ex_slS, ex_toIntB, ex_toIntI, ex_put, ex_drop, ex_never, isT1, isT2, isT3, isT4, tyI, tyT, tyS, pyI, pyB, pyT0, pyIs, Nat.zero_le, deqv_int, deqv_bl]
    have hp2 := pow_pos' hb.1 cs.length
    have h0 := wt_nn hd
    have hcb : c < b := by
      have h3 : (c : Int) * (b : Int) ^ cs.length < b * (b : Int) ^ cs.length := by
        have h4 : ((N : Nat) : Int) < ((b ^ (cs.length + 1) : Nat) : Int) := by exact_mod_cast hlt
        rw [Int.natCast_pow, Int.pow_succ, Int.mul_comm _ (b : Int)] at h4
        omega
      have := Int.lt_of_mul_lt_mul_right h3 (Int.le_of_lt hp2)
      omega
    by_cases hc : c = 0
    · subst hc
      simp only [ex_seq, ex_next, ex_if, ex_ret, ex_set, ex_setO, ex_app, ex_aug, ex_var, ex_vw, ex_c, ex_d2, ex_b, ex_onD, ex_onVd, ex_onVo, ex_onO, ex_onB, ex_onS, ex_int, ex_addI, ex_addS, ex_addT, ex_nil, ex_cons, ex_tup, ex_lst, ex_cb, ex_tupleL, ex_tupleT, get_0, get_s, ex_for, ex_nm, ex_gnil, ex_gcons, ex_gtup, ex_gtupL, ex_asg, ex_par, ex_iseq, ex_onSeqT, ex_onSeqL, ex_onSeqS, ex_ienum, ex_irev, ex_onLTt, ex_onLTl, ex_rng1, ex_ifE, ex_and, ex_or, ex_not, ex_andV, ex_orV, ex_notV, ex_ixL, ex_call, ex_callN, ex_rev, ex_revL, ex_cat, ex_rep, ex_sl, ex_slA, ex_slL, ex_nopt, ex_pt, ex_eq, ex_ne, ex_yes, ex_lc, ex_lenT, ex_lenL, ex_lenS, ex_int2, ex_augIx, ex_isT, ex_chain, ex_asg2, ex_neg, List.set, startD, List.replicate, List.map_nil, List.map_cons, List.length_cons, List.length_nil, List.cons_append, List.nil_append, Nat.sub_self, Nat.reduceSub, Nat.reduceAdd, wipeE, decide_true, decide_false, if_true, if_false, true_and, and_true, Bool.not_true, Bool.not_false, Bool.false_eq_true, ex_frz, ex_draw, ex_fld, ex_meth, ex_make, ex_isC, ex_joinS, ex_orS, ex_joined, ex_js, ex_js0, ex_fmt, ex_part, ex_split, ex_inS, ex_toStr, ex_toIntS, ex_ownT, ex_own, ex_listL, ex_listT, ex_reprT, ex_reprL, ex_reprI, ex_slS, ex_toIntB, ex_toIntI, ex_put, ex_drop, ex_never, isT1, isT2, isT3, isT4, tyI, tyT, tyS, pyI, pyB, pyT0, pyIs, Nat.zero_le, deqv_int, deqv_bl, Int.natCast_zero, Int.ofNat_zero, Int.lt_irrefl]
      refine ⟨by decide, M, ?_⟩
      rw [rwD, rw_eq hb.1 hd (by simpa using hw) (fun hne => by
        rw [hL]
        exact hge (fun z => hne (List.length_eq_zero_iff.mp (by rw [hL, z]; rfl))))]
      rfl
    · rw [decide_eq_true (by omega), if_pos rfl]
      refine ⟨by rw [List.length_map]; omega, by decide, M, ?_⟩
      have hd' : Dg b (L ++ [(c : Int)]) := hd.append (dg_one ⟨by omega, by omega⟩)
      rw [rwD, rw_eq hb.1 (n := N) hd' (by rw [wt_snoc, hL, Int.mul_comm _ (c : Int), hw]) (fun _ => by
        rw [List.length_append, List.length_cons, List.length_nil, Nat.add_sub_cancel, hL]
        have h5 : 1 * (b : Int) ^ cs.length ≤ c * (b : Int) ^ cs.length := Int.mul_le_mul_of_nonneg_right (by omega) (Int.le_of_lt hp2)
        have : ((b ^ cs.length : Nat) : Int) ≤ N := by rw [Int.natCast_pow]; omega
        exact_mod_cast this)]
      simp [row]
theorem rw_one {b : Nat} (hb : 2 ≤ b) : rw b 1 = [1] := by
  rw [rw_pos hb (by decide), Nat.mod_eq_of_lt (by omega), Nat.div_eq_of_lt (by omega), rw_zero]
  rfl
theorem ok_plain_product : Keeps S_plain_product T_plain_product 5 := by
  rintro ⟨b, m, n⟩ ⟨hb, hm, hn⟩
  dsimp only at hb hm hn
  have lm := Sm.len hb hm
  have ln := Sm.len hb hn
  show T_plain_product ⟨_, S_plain_product.post (b, m, n), _, _⟩ (startD 5 [rwD b m, rwD b n, .int b])
  simp only [T_plain_product, ex_seq, ex_next, ex_if, ex_ret, ex_set, ex_setO, ex_app, ex_aug, ex_var, ex_vw, ex_c, ex_d2, ex_b, ex_onD, ex_onVd, ex_onVo, ex_onO, ex_onB, ex_onS, ex_int, ex_addI, ex_addS, ex_addT, ex_nil, ex_cons, ex_tup, ex_lst, ex_cb, ex_tupleL, ex_tupleT, get_0, get_s, ex_for, ex_nm, ex_gnil, ex_gcons, ex_gtup, ex_gtupL, ex_asg, ex_par, ex_iseq, ex_onSeqT, ex_onSeqL, ex_onSeqS, ex_ienum, ex_irev, ex_onLTt, ex_onLTl, ex_rng1, ex_ifE, ex_and, ex_or, ex_not, ex_andV, ex_orV, ex_notV, ex_ixL, ex_call, ex_callN, ex_rev, ex_revL, ex_cat, ex_rep, ex_sl, ex_slA, ex_slL, ex_nopt, ex_pt, ex_eq, ex_ne, ex_yes, ex_lc, ex_lenT, ex_lenL, ex_lenS, ex_int2, ex_augIx, ex_isT, ex_chain, ex_asg2, ex_neg, List.set, startD, List.replicate, List.map_nil, List.map_cons, List.length_cons, List.length_nil, List.cons_append, List.nil_append, Nat.sub_self, Nat.reduceSub, Nat.reduceAdd, wipeE, decide_true, decide_false, if_true, if_false, true_and, and_true, Bool.not_true, Bool.not_false, Bool.false_eq_true, ex_frz, ex_draw, ex_fld, ex_meth, ex_make, ex_isC, ex_joinS, ex_orS, ex_joined, ex_js, ex_js0, ex_fmt, ex_part, ex_split, ex_inS, ex_toStr, ex_toIntS, ex_ownT, ex_own, ex_listL, ex_listT, ex_reprT, ex_reprL, ex_reprI, ex_slS, ex_toIntB, ex_toIntI, ex_put, ex_drop, ex_never, isT1, isT2, isT3, isT4, tyI, tyT, tyS, pyI, pyB, pyT0, pyIs, Nat.zero_le, deqv_int, deqv_bl]
  refine ⟨(b, m, n), rfl, ⟨hb, hm, hn⟩, fun d e => ?_⟩
  obtain ⟨cs, rfl, hw, h0, h1, hp⟩ := e
  dsimp only at hw h0 h1
  refine ⟨(b, cs, m * n), rfl, ⟨hb, ?_, hp, hw, ?_, fun hne => ?_⟩, fun d e => ?_⟩
  · show cs.length < SZ
    rcases Nat.eq_zero_or_pos (m * n) with z | z
    · rw [h0 z]; decide
    · have := h1 z
      unfold SZ; omega
  · show m * n < b ^ (cs.length + 1)
    rcases Nat.eq_zero_or_pos (m * n) with z | z
    · rw [z]; exact Nat.pow_pos (by have := hb.1; omega)
    · rw [h1 z, Nat.pow_add]
      exact Nat.mul_lt_mul'' (rw_lt hb.1 m) (rw_lt hb.1 n)
  · show b ^ (cs.length - 1) ≤ m * n
    rcases Nat.eq_zero_or_pos (m * n) with z | z
    · exact absurd (h0 z) hne
    · have q1 : 0 < m := Nat.pos_of_mul_pos_right z
      have q2 : 0 < n := Nat.pos_of_mul_pos_left z
      have l1 : 0 < (rw b m).length := List.length_pos_iff.mpr fun q => by have := (rw_nil hb.1).mp q; omega
      have l2 : 0 < (rw b n).length := List.length_pos_iff.mpr fun q => by have := (rw_nil hb.1).mp q; omega
      have e : cs.length - 1 = ((rw b m).length - 1) + ((rw b n).length - 1) := by have := h1 z; omega
      rw [e, Nat.pow_add]
      exact Nat.mul_le_mul (rw_ge hb.1 q1) (rw_ge hb.1 q2)
  · obtain ⟨es, rfl⟩ := e
    simp only [ex_seq, ex_next, ex_if, ex_ret, ex_set, ex_setO, ex_app, ex_aug, ex_var, ex_vw, ex_c, ex_d2, ex_b, ex_onD, ex_onVd, ex_onVo, ex_onO, ex_onB, ex_onS, ex_int, ex_addI, ex_addS, ex_addT, ex_nil, ex_cons, ex_tup, ex_lst, ex_cb, ex_tupleL, ex_tupleT, get_0, get_s, ex_for, ex_nm, ex_gnil, ex_gcons, ex_gtup, ex_gtupL, ex_asg, ex_par, ex_iseq, ex_onSeqT, ex_onSeqL, ex_onSeqS, ex_ienum, ex_irev, ex_onLTt, ex_onLTl, ex_rng1, ex_ifE, ex_and, ex_or, ex_not, ex_andV, ex_orV, ex_notV, ex_ixL, ex_call, ex_callN, ex_rev, ex_revL, ex_cat, ex_rep, ex_sl, ex_slA, ex_slL, ex_nopt, ex_pt, ex_eq, ex_ne, ex_yes, ex_lc, ex_lenT, ex_lenL, ex_lenS, ex_int2, ex_augIx, ex_isT, ex_chain, ex_asg2, ex_neg, List.set, startD, List.replicate, List.map_nil, List.map_cons, List.length_cons, List.length_nil, List.cons_append, List.nil_append, Nat.sub_self, Nat.reduceSub, Nat.reduceAdd, wipeE, decide_true, decide_false, if_true, if_false, true_and, and_true, Bool.not_true, Bool.not_false, Bool.false_eq_true, ex_frz, ex_draw, ex_fld, ex_meth, ex_make, ex_isC, ex_joinS, ex_orS, ex_joined, ex_js, ex_js0, ex_fmt, ex_part, ex_split, ex_inS, ex_toStr, ex_toIntS, ex_ownT, ex_own, ex_listL, ex_listT, ex_reprT, ex_reprL, ex_reprI, ex_slS, ex_toIntB, ex_toIntI, ex_put, ex_drop, ex_never, isT1, isT2, isT3, isT4, tyI, tyT, tyS, pyI, pyB, pyT0, pyIs, Nat.zero_le, deqv_int, deqv_bl]
    rfl
end MD
end
section
/-! The arithmetic keeps its promises (6): powers, another base. -/
namespace MD
open PySem L2
theorem ok_base_power : Keeps S_base_power T_base_power 5 := by
  rintro ⟨c, b, M⟩ ⟨hc, hb, hM⟩
  dsimp only at hc hb hM
  have hc2 := hc.2
  have hb2 := hb.2
  show T_base_power ⟨_, S_base_power.post (c, b, M), _, _⟩ (startD 5 [.int M, .int c, .int b])
  simp only [T_base_power, ex_seq, ex_next, ex_if, ex_ret, ex_set, ex_setO, ex_app, ex_aug, ex_var, ex_vw, ex_c, ex_d2, ex_b, ex_onD, ex_onVd, ex_onVo, ex_onO, ex_onB, ex_onS, ex_int, ex_addI, ex_addS, ex_addT, ex_nil, ex_cons, ex_tup, ex_lst, ex_cb, ex_tupleL, ex_tupleT, get_0, get_s, ex_for, ex_nm, ex_gnil, ex_gcons, ex_gtup, ex_gtupL, ex_asg, ex_par, ex_iseq, ex_onSeqT, ex_onSeqL, ex_onSeqS, ex_ienum, ex_irev, ex_onLTt, ex_onLTl, ex_rng1, ex_ifE, ex_and, ex_or, ex_not, ex_andV, ex_orV, ex_notV, ex_ixL, ex_call, ex_callN, ex_rev, ex_revL, ex_cat, ex_rep, ex_sl, ex_slA, ex_slL, ex_nopt, ex_pt, ex_eq, ex_ne, ex_yes, ex_lc, ex_lenT, ex_lenL, ex_lenS, ex_int2, ex_augIx, ex_isT, ex_chain, ex_asg2, ex_neg, List.set, startD, List.replicate, List.map_nil, List.map_cons, List.length_cons, List.length_nil, List.cons_append, List.nil_append, Nat.sub_self, Nat.reduceSub, Nat.reduceAdd, wipeE, decide_true, decide_false, if_true, if_false, true_and, and_true, Bool.not_true, Bool.not_false, Bool.false_eq_true, ex_frz, ex_draw, ex_fld, ex_meth, ex_make, ex_isC, ex_joinS, ex_orS, ex_joined, ex_js, ex_js0, ex_fmt, ex_part, ex_split, ex_inS, ex_toStr, ex_toIntS, ex_ownT, ex_own, ex_listL, ex_listT, ex_reprT, ex_reprL, ex_reprI, ex_slS, ex_toIntB, ex_toIntI, ex_put, ex_drop, ex_never, isT1, isT2, isT3, isT4, tyI, tyT, tyS, pyI, pyB, pyT0, pyIs, Nat.zero_le, deqv_int, deqv_bl, e_gk_row_of_1_base]
  have hbs : b < 2 ^ BND := Nat.lt_of_le_of_lt hb2 (Nat.lt_of_lt_of_le (show 10000 < 2 ^ 14 by decide) (Nat.pow_le_pow_right (by decide) (by decide)))
  refine ⟨by decide, (b, c), rfl, ⟨hc, hbs⟩, fun d e => ?_⟩
  subst e
  refine while_of (fun (a : Nat × Nat × Nat) env => env = [.dat (.int a.1), .dat (.int c), .dat (.int b), .dat (rwD c a.2.1), .dat (rwD c a.2.2)] ∧ 0 < a.2.1 ∧ 0 < a.2.2 ∧ a.2.1 < 2 ^ BND ∧ a.2.2 < 2 ^ BND ∧ a.2.1 * a.2.2 ^ a.1 = b ^ M) (fun a => a.1) (M, 1, b)
    ⟨by rw [rwD, rwD, rw_one hc.1]; rfl, (show 0 < 1 by decide), by have := hb.1; show 0 < b; omega, (show 1 < 2 ^ BND from Nat.one_lt_two_pow (by decide)), hbs, Nat.one_mul _⟩ ?_
  rintro ⟨k, f, g⟩ env K ⟨rfl, hf, hg, hfb, hgb, hw⟩ hK
  dsimp only at hf hg hfb hgb hw hK ⊢
  simp only [ex_seq, ex_next, ex_if, ex_ret, ex_set, ex_setO, ex_app, ex_aug, ex_var, ex_vw, ex_c, ex_d2, ex_b, ex_onD, ex_onVd, ex_onVo, ex_onO, ex_onB, ex_onS, ex_int, ex_addI, ex_addS, ex_addT, ex_nil, ex_cons, ex_tup, ex_lst, ex_cb, ex_tupleL, ex_tupleT, get_0, get_s, ex_for, ex_nm, ex_gnil, ex_gcons, ex_gtup, ex_gtupL, ex_asg, ex_par, ex_iseq, ex_onSeqT, ex_onSeqL, ex_onSeqS, ex_ienum, ex_irev, ex_onLTt, ex_onLTl, ex_rng1, ex_ifE, ex_and, ex_or, ex_not, ex_andV, ex_orV, ex_notV, ex_ixL, ex_call, ex_callN, ex_rev, ex_revL, ex_cat, ex_rep, ex_sl, ex_slA, ex_slL, ex_nopt, ex_pt, ex_eq, ex_ne, ex_yes, ex_lc, ex_lenT, ex_lenL, ex_lenS, ex_int2, ex_augIx, ex_isT, ex_chain, ex_asg2, ex_neg, List.set, startD, List.replicate, List.map_nil, List.map_cons, List.length_cons, List.length_nil, List.cons_append, List.nil_append, Nat.sub_self, Nat.reduceSub, Nat.reduceAdd, wipeE, decide_true, decide_false, if_true, if_false, true_and, and_true, Bool.not_true, Bool.not_false, Bool.false_eq_true, ex_frz, ex_draw, ex_fld, ex_meth, ex_make, ex_isC, ex_joinS, ex_orS, ex_joined, ex_js, ex_js0, ex_fmt, ex_part, ex_split, ex_inS, ex_toStr, ex_toIntS, ex_ownT, ex_own, ex_listL, ex_listT, ex_reprT, ex_reprL, ex_reprI, ex_slS, ex_toIntB, ex_toIntI, ex_put, ex_drop, ex_never, isT1, isT2, isT3, isT4, tyI, tyT, tyS, pyI, pyB, pyT0, pyIs, Nat.zero_le, deqv_int, deqv_bl]
  by_cases h0 : k = 0
  · subst h0
    simp only [ex_seq, ex_next, ex_if, ex_ret, ex_set, ex_setO, ex_app, ex_aug, ex_var, ex_vw, ex_c, ex_d2, ex_b, ex_onD, ex_onVd, ex_onVo, ex_onO, ex_onB, ex_onS, ex_int, ex_addI, ex_addS, ex_addT, ex_nil, ex_cons, ex_tup, ex_lst, ex_cb, ex_tupleL, ex_tupleT, get_0, get_s, ex_for, ex_nm, ex_gnil, ex_gcons, ex_gtup, ex_gtupL, ex_asg, ex_par, ex_iseq, ex_onSeqT, ex_onSeqL, ex_onSeqS, ex_ienum, ex_irev, ex_onLTt, ex_onLTl, ex_rng1, ex_ifE, ex_and, ex_or, ex_not, ex_andV, ex_orV, ex_notV, ex_ixL, ex_call, ex_callN, ex_rev, ex_revL, ex_cat, ex_rep, ex_sl, ex_slA, ex_slL, ex_nopt, ex_pt, ex_eq, ex_ne, ex_yes, ex_lc, ex_lenT, ex_lenL, ex_lenS, ex_int2, ex_augIx, ex_isT, ex_chain, ex_asg2, ex_neg, List.set, startD, List.replicate, List.map_nil, List.map_cons, List.length_cons, List.length_nil, List.cons_append, List.nil_append, Nat.sub_self, Nat.reduceSub, Nat.reduceAdd, wipeE, decide_true, decide_false, if_true, if_false, true_and, and_true, Bool.not_true, Bool.not_false, Bool.false_eq_true, ex_frz, ex_draw, ex_fld, ex_meth, ex_make, ex_isC, ex_joinS, ex_orS, ex_joined, ex_js, ex_js0, ex_fmt, ex_part, ex_split, ex_inS, ex_toStr, ex_toIntS, ex_ownT, ex_own, ex_listL, ex_listT, ex_reprT, ex_reprL, ex_reprI, ex_slS, ex_toIntB, ex_toIntI, ex_put, ex_drop, ex_never, isT1, isT2, isT3, isT4, tyI, tyT, tyS, pyI, pyB, pyT0, pyIs, Nat.zero_le, deqv_int, deqv_bl, Int.natCast_zero, Int.ofNat_zero, Int.lt_irrefl]
    rw [Nat.pow_zero, Nat.mul_one] at hw
    show _ = _
    rw [hw]
  · rw [decide_eq_true (by omega), if_pos rfl]
    refine ⟨by decide, ?_⟩
    -- the half
    have half : ∀ f', 0 < f' → f' < 2 ^ BND → f' * (g * g) ^ (k / 2) = b ^ M → DivOk (k : Int) 2 ∧ (if decide ((0 : Int) < (k : Int) / 2) = true then
        (([D.int 0, D.int 0].length = 2 ∧ [D.int c].length = 1) ∧ S_plain_product.g (gk_plain_product_2_base [rwD c g, rwD c g] [.int c]) fun d => K [.dat (.int ((k : Int) / 2)), .dat (.int c), .dat (.int b), .dat (rwD c f'), .dat d])
        else K [.dat (.int ((k : Int) / 2)), .dat (.int c), .dat (.int b), .dat (rwD c f'), .dat (rwD c g)]) := fun f' hf' hfb' hw' => by
      refine ⟨⟨by decide, by decide⟩, ?_⟩
      have ek : (k : Int) / 2 = ((k / 2 : Nat) : Int) := by omega
      rw [ek]
      by_cases hz : k / 2 = 0
      · rw [hz, decide_eq_false (by decide), if_neg (by decide)]
        refine hK (0, f', g) _ ⟨rfl, hf', hg, hfb', hgb, ?_⟩ (by show 0 < k; omega)
        rw [hz] at hw'
        simpa using hw'
      · rw [decide_eq_true (by omega), if_pos rfl]
        refine ⟨⟨rfl, rfl⟩, (c, g, g), rfl, ⟨hc, hgb, hgb⟩, fun d e => ?_⟩
        subst e
        have hgg : 0 < g * g := Nat.mul_pos hg hg
        have hle : g * g ≤ b ^ M := by
          rw [← hw']
          have h1 : g * g ≤ (g * g) ^ (k / 2) := Nat.le_self_pow hz _
          exact Nat.le_trans h1 (Nat.le_mul_of_pos_left _ hf')
        exact hK (k / 2, f', g * g) _ ⟨rfl, hf', hgg, hfb', (show g * g < 2 ^ BND by omega), hw'⟩ (by show k / 2 < k; omega)
    by_cases h1 : k % 2 = 1
    · have e1 : (k : Int) % 2 = 1 := by omega
      rw [e1, decide_eq_true rfl, if_pos rfl]
      refine ⟨(c, f, g), rfl, ⟨hc, hfb, hgb⟩, fun d e => ?_⟩
      subst e
      have hw' : f * g * (g * g) ^ (k / 2) = b ^ M := by
        rw [← hw]
        have ek : k = 2 * (k / 2) + 1 := by omega
        have e2 : g ^ k = g * (g * g) ^ (k / 2) := by
          rw [← Nat.pow_two, ← Nat.pow_mul, Nat.mul_comm g, ← Nat.pow_succ]
          congr 1
        rw [e2, Nat.mul_assoc]
      have hle : f * g ≤ b ^ M := by
        rw [← hw']
        exact Nat.le_mul_of_pos_right _ (Nat.pow_pos (Nat.mul_pos hg hg))
      have := half (f * g) (Nat.mul_pos hf hg) (by omega) hw'
      simpa only [ex_seq, ex_next, ex_if, ex_ret, ex_set, ex_setO, ex_app, ex_aug, ex_var, ex_vw, ex_c, ex_d2, ex_b, ex_onD, ex_onVd, ex_onVo, ex_onO, ex_onB, ex_onS, ex_int, ex_addI, ex_addS, ex_addT, ex_nil, ex_cons, ex_tup, ex_lst, ex_cb, ex_tupleL, ex_tupleT, get_0, get_s, ex_for, ex_nm, ex_gnil, ex_gcons, ex_gtup, ex_gtupL, ex_asg, ex_par, ex_iseq, ex_onSeqT, ex_onSeqL, ex_onSeqS, ex_ienum, ex_irev, ex_onLTt, ex_onLTl, ex_rng1, ex_ifE, ex_and, ex_or, ex_not, ex_andV, ex_orV, ex_notV, ex_ixL, ex_call, ex_callN, ex_rev, ex_revL, ex_cat, ex_rep, ex_sl, ex_slA, ex_slL, ex_nopt, ex_pt, ex_eq, ex_ne, ex_yes, ex_lc, ex_lenT, ex_lenL, ex_lenS, ex_int2, ex_augIx, ex_isT, ex_chain, ex_asg2, ex_neg, List.set, startD, List.replicate, List.map_nil, List.map_cons, List.length_cons, List.length_nil, List.cons_append, List.nil_append, Nat.sub_self, Nat.reduceSub, Nat.reduceAdd, wipeE, decide_true, decide_false, if_true, if_false, true_and, and_true, Bool.not_true, Bool.not_false, Bool.false_eq_true, ex_frz, ex_draw, ex_fld, ex_meth, ex_make, ex_isC, ex_joinS, ex_orS, ex_joined, ex_js, ex_js0, ex_fmt, ex_part, ex_split, ex_inS, ex_toStr, ex_toIntS, ex_ownT, ex_own, ex_listL, ex_listT, ex_reprT, ex_reprL, ex_reprI, ex_slS, ex_toIntB, ex_toIntI, ex_put, ex_drop, ex_never, isT1, isT2, isT3, isT4, tyI, tyT, tyS, pyI, pyB, pyT0, pyIs, Nat.zero_le, deqv_int, deqv_bl] using this
    · have e1 : (k : Int) % 2 = 0 := by omega
      rw [e1, decide_eq_false (by decide), if_neg (by decide)]
      have hw' : f * (g * g) ^ (k / 2) = b ^ M := by
        rw [← hw]
        have ek : k = 2 * (k / 2) := by omega
        have e2 : g ^ k = (g * g) ^ (k / 2) := by
          rw [← Nat.pow_two, ← Nat.pow_mul]
          congr 1
        rw [e2]
      have := half f hf hfb hw'
      simpa only [ex_seq, ex_next, ex_if, ex_ret, ex_set, ex_setO, ex_app, ex_aug, ex_var, ex_vw, ex_c, ex_d2, ex_b, ex_onD, ex_onVd, ex_onVo, ex_onO, ex_onB, ex_onS, ex_int, ex_addI, ex_addS, ex_addT, ex_nil, ex_cons, ex_tup, ex_lst, ex_cb, ex_tupleL, ex_tupleT, get_0, get_s, ex_for, ex_nm, ex_gnil, ex_gcons, ex_gtup, ex_gtupL, ex_asg, ex_par, ex_iseq, ex_onSeqT, ex_onSeqL, ex_onSeqS, ex_ienum, ex_irev, ex_onLTt, ex_onLTl, ex_rng1, ex_ifE, ex_and, ex_or, ex_not, ex_andV, ex_orV, ex_notV, ex_ixL, ex_call, ex_callN, ex_rev, ex_revL, ex_cat, ex_rep, ex_sl, ex_slA, ex_slL, ex_nopt, ex_pt, ex_eq, ex_ne, ex_yes, ex_lc, ex_lenT, ex_lenL, ex_lenS, ex_int2, ex_augIx, ex_isT, ex_chain, ex_asg2, ex_neg, List.set, startD, List.replicate, List.map_nil, List.map_cons, List.length_cons, List.length_nil, List.cons_append, List.nil_append, Nat.sub_self, Nat.reduceSub, Nat.reduceAdd, wipeE, decide_true, decide_false, if_true, if_false, true_and, and_true, Bool.not_true, Bool.not_false, Bool.false_eq_true, ex_frz, ex_draw, ex_fld, ex_meth, ex_make, ex_isC, ex_joinS, ex_orS, ex_joined, ex_js, ex_js0, ex_fmt, ex_part, ex_split, ex_inS, ex_toStr, ex_toIntS, ex_ownT, ex_own, ex_listL, ex_listT, ex_reprT, ex_reprL, ex_reprI, ex_slS, ex_toIntB, ex_toIntI, ex_put, ex_drop, ex_never, isT1, isT2, isT3, isT4, tyI, tyT, tyS, pyI, pyB, pyT0, pyIs, Nat.zero_le, deqv_int, deqv_bl] using this
theorem rw_len_pow {b : Nat} (hb : 2 ≤ b) {n k : Nat} (h : n < b ^ k) : (rw b n).length ≤ k := by
  rcases Nat.lt_or_ge k (rw b n).length with z | z
  · have hn : 0 < n := Nat.pos_of_ne_zero fun q => by subst q; rw [rw_zero] at z; simp at z
    have h1 := rw_ge hb hn
    have h2 : b ^ k ≤ b ^ ((rw b n).length - 1) := Nat.pow_le_pow_right (by omega) (by omega)
    omega
  · exact z
theorem no_rebased : ∀ a, ¬ (S_rebased 0).pre a := fun a h => absurd h.2.2.1 (by decide)
theorem ok_rebased (k : Nat) : Keeps (S_rebased (k + 1)) (T_rebased (S_rebased k)) 7 := by
  rintro ⟨c, b, n⟩ ⟨hc, hb, _, hl, hn⟩
  dsimp only at hc hb hl hn
  rw [Nat.add_sub_cancel] at hl
  have hb2 := hb.2
  have ln := Sm.len hb hn
  show T_rebased _ ⟨_, (S_rebased (k + 1)).post (c, b, n), _, _⟩ (startD 7 [row (rw b n), .int c, .int b])
  simp only [T_rebased, row, ex_seq, ex_next, ex_if, ex_ret, ex_set, ex_setO, ex_app, ex_aug, ex_var, ex_vw, ex_c, ex_d2, ex_b, ex_onD, ex_onVd, ex_onVo, ex_onO, ex_onB, ex_onS, ex_int, ex_addI, ex_addS, ex_addT, ex_nil, ex_cons, ex_tup, ex_lst, ex_cb, ex_tupleL, ex_tupleT, get_0, get_s, ex_for, ex_nm, ex_gnil, ex_gcons, ex_gtup, ex_gtupL, ex_asg, ex_par, ex_iseq, ex_onSeqT, ex_onSeqL, ex_onSeqS, ex_ienum, ex_irev, ex_onLTt, ex_onLTl, ex_rng1, ex_ifE, ex_and, ex_or, ex_not, ex_andV, ex_orV, ex_notV, ex_ixL, ex_call, ex_callN, ex_rev, ex_revL, ex_cat, ex_rep, ex_sl, ex_slA, ex_slL, ex_nopt, ex_pt, ex_eq, ex_ne, ex_yes, ex_lc, ex_lenT, ex_lenL, ex_lenS, ex_int2, ex_augIx, ex_isT, ex_chain, ex_asg2, ex_neg, List.set, startD, List.replicate, List.map_nil, List.map_cons, List.length_cons, List.length_nil, List.cons_append, List.nil_append, Nat.sub_self, Nat.reduceSub, Nat.reduceAdd, wipeE, decide_true, decide_false, if_true, if_false, true_and, and_true, Bool.not_true, Bool.not_false, Bool.false_eq_true, ex_frz, ex_draw, ex_fld, ex_meth, ex_make, ex_isC, ex_joinS, ex_orS, ex_joined, ex_js, ex_js0, ex_fmt, ex_part, ex_split, ex_inS, ex_toStr, ex_toIntS, ex_ownT, ex_own, ex_listL, ex_listT, ex_reprT, ex_reprL, ex_reprI, ex_slS, ex_toIntB, ex_toIntI, ex_put, ex_drop, ex_never, isT1, isT2, isT3, isT4, tyI, tyT, tyS, pyI, pyB, pyT0, pyIs, Nat.zero_le, deqv_int, deqv_bl, e_gk_row_of_1_base, e_gk_summed_2_base, e_gk_plain_product_2_base, e_gk_base_power_1_into_base, e_gk_rebased_1_into_base]
  rw [List.length_map]
  by_cases h2 : (rw b n).length < 2
  · rw [decide_eq_true (by omega), if_pos rfl]
    refine ⟨rw b n, .inr rfl, ?_⟩
    have es : (rw b n).sum = (n : Int) := by
      have hw := wt_rw hb.1 n
      cases h : rw b n with
      | nil => rw [h] at hw; simpa [wt] using hw
      | cons x r =>
        rw [h, List.length_cons] at h2
        have : r = [] := List.length_eq_zero_iff.mp (by omega)
        subst this
        rw [h, wt_one] at hw
        simp [hw]
    rw [es]
    refine ⟨(n, c), rfl, ⟨hc, hn⟩, fun d e => ?_⟩
    subst e
    exact rfl
  · rw [decide_eq_false (by omega), if_neg (by decide)]
    refine ⟨⟨by decide, by decide⟩, ?_⟩
    obtain ⟨h, hh⟩ : ∃ h, h = (rw b n).length / 2 := ⟨_, rfl⟩
    have eh : ((rw b n).length : Int) / 2 = (h : Int) := by omega
    rw [eh]
    refine ⟨(b, n, h), rfl, ⟨hb, hn⟩, fun d e => ?_⟩
    subst e
    simp only [ex_seq, ex_next, ex_if, ex_ret, ex_set, ex_setO, ex_app, ex_aug, ex_var, ex_vw, ex_c, ex_d2, ex_b, ex_onD, ex_onVd, ex_onVo, ex_onO, ex_onB, ex_onS, ex_int, ex_addI, ex_addS, ex_addT, ex_nil, ex_cons, ex_tup, ex_lst, ex_cb, ex_tupleL, ex_tupleT, get_0, get_s, ex_for, ex_nm, ex_gnil, ex_gcons, ex_gtup, ex_gtupL, ex_asg, ex_par, ex_iseq, ex_onSeqT, ex_onSeqL, ex_onSeqS, ex_ienum, ex_irev, ex_onLTt, ex_onLTl, ex_rng1, ex_ifE, ex_and, ex_or, ex_not, ex_andV, ex_orV, ex_notV, ex_ixL, ex_call, ex_callN, ex_rev, ex_revL, ex_cat, ex_rep, ex_sl, ex_slA, ex_slL, ex_nopt, ex_pt, ex_eq, ex_ne, ex_yes, ex_lc, ex_lenT, ex_lenL, ex_lenS, ex_int2, ex_augIx, ex_isT, ex_chain, ex_asg2, ex_neg, List.set, startD, List.replicate, List.map_nil, List.map_cons, List.length_cons, List.length_nil, List.cons_append, List.nil_append, Nat.sub_self, Nat.reduceSub, Nat.reduceAdd, wipeE, decide_true, decide_false, if_true, if_false, true_and, and_true, Bool.not_true, Bool.not_false, Bool.false_eq_true, ex_frz, ex_draw, ex_fld, ex_meth, ex_make, ex_isC, ex_joinS, ex_orS, ex_joined, ex_js, ex_js0, ex_fmt, ex_part, ex_split, ex_inS, ex_toStr, ex_toIntS, ex_ownT, ex_own, ex_listL, ex_listT, ex_reprT, ex_reprL, ex_reprI, ex_slS, ex_toIntB, ex_toIntI, ex_put, ex_drop, ex_never, isT1, isT2, isT3, isT4, tyI, tyT, tyS, pyI, pyB, pyT0, pyIs, Nat.zero_le, deqv_int, deqv_bl]
    have hk : 1 ≤ k := by
      rcases Nat.eq_zero_or_pos k with z | z
      · subst z; simp at hl; omega
      · exact z
    obtain ⟨j, rfl⟩ : ∃ j, k = j + 1 := ⟨k - 1, by omega⟩
    have hpow : (2 : Nat) ^ (j + 1) = 2 * 2 ^ j := by rw [Nat.pow_succ, Nat.mul_comm]
    have bp : 0 < b := by have := hb.1; omega
    have hlo : n % b ^ h < b ^ h := Nat.mod_lt _ (Nat.pow_pos bp)
    have hhi : n / b ^ h < b ^ ((rw b n).length - h) := by
      apply Nat.div_lt_of_lt_mul
      rw [← Nat.pow_add, show h + ((rw b n).length - h) = (rw b n).length by omega]
      exact rw_lt hb.1 n
    have hn0 : 0 < n := Nat.pos_of_ne_zero fun q => by subst q; rw [rw_zero] at h2; simp at h2
    have hbn : b ^ h ≤ n := Nat.le_trans (Nat.pow_le_pow_right bp (by omega)) (rw_ge hb.1 hn0)
    have l1 := rw_len_pow hb.1 hlo
    have l2 := rw_len_pow hb.1 hhi
    have q1 : n % b ^ h ≤ n := Nat.mod_le _ _
    have q2 : n / b ^ h ≤ n := Nat.div_le_self _ _
    refine comp_map (α := Nat) (fun x => rwD b x) (fun x => rwD c x) [n % b ^ h, n / b ^ h] [] (by show 0 + 2 ≤ SZ; decide) (fun a ha R hR => ?_) ?_
    · simp only [ex_seq, ex_next, ex_if, ex_ret, ex_set, ex_setO, ex_app, ex_aug, ex_var, ex_vw, ex_c, ex_d2, ex_b, ex_onD, ex_onVd, ex_onVo, ex_onO, ex_onB, ex_onS, ex_int, ex_addI, ex_addS, ex_addT, ex_nil, ex_cons, ex_tup, ex_lst, ex_cb, ex_tupleL, ex_tupleT, get_0, get_s, ex_for, ex_nm, ex_gnil, ex_gcons, ex_gtup, ex_gtupL, ex_asg, ex_par, ex_iseq, ex_onSeqT, ex_onSeqL, ex_onSeqS, ex_ienum, ex_irev, ex_onLTt, ex_onLTl, ex_rng1, ex_ifE, ex_and, ex_or, ex_not, ex_andV, ex_orV, ex_notV, ex_ixL, ex_call, ex_callN, ex_rev, ex_revL, ex_cat, ex_rep, ex_sl, ex_slA, ex_slL, ex_nopt, ex_pt, ex_eq, ex_ne, ex_yes, ex_lc, ex_lenT, ex_lenL, ex_lenS, ex_int2, ex_augIx, ex_isT, ex_chain, ex_asg2, ex_neg, List.set, startD, List.replicate, List.map_nil, List.map_cons, List.length_cons, List.length_nil, List.cons_append, List.nil_append, Nat.sub_self, Nat.reduceSub, Nat.reduceAdd, wipeE, decide_true, decide_false, if_true, if_false, true_and, and_true, Bool.not_true, Bool.not_false, Bool.false_eq_true, ex_frz, ex_draw, ex_fld, ex_meth, ex_make, ex_isC, ex_joinS, ex_orS, ex_joined, ex_js, ex_js0, ex_fmt, ex_part, ex_split, ex_inS, ex_toStr, ex_toIntS, ex_ownT, ex_own, ex_listL, ex_listT, ex_reprT, ex_reprL, ex_reprI, ex_slS, ex_toIntB, ex_toIntI, ex_put, ex_drop, ex_never, isT1, isT2, isT3, isT4, tyI, tyT, tyS, pyI, pyB, pyT0, pyIs, Nat.zero_le, deqv_int, deqv_bl]
      have : a < 2 ^ BND ∧ (rw b a).length ≤ 2 ^ j := by
        rcases List.mem_cons.mp ha with rfl | ha
        · exact ⟨by omega, by omega⟩
        · cases List.mem_singleton.mp ha
          exact ⟨by omega, by omega⟩
      refine ⟨(c, b, a), rfl, ⟨hc, hb, by omega, by rw [Nat.add_sub_cancel]; exact this.2, this.1⟩, fun d e => ?_⟩
      subst e
      exact hR
    · simp only [ex_seq, ex_next, ex_if, ex_ret, ex_set, ex_setO, ex_app, ex_aug, ex_var, ex_vw, ex_c, ex_d2, ex_b, ex_onD, ex_onVd, ex_onVo, ex_onO, ex_onB, ex_onS, ex_int, ex_addI, ex_addS, ex_addT, ex_nil, ex_cons, ex_tup, ex_lst, ex_cb, ex_tupleL, ex_tupleT, get_0, get_s, ex_for, ex_nm, ex_gnil, ex_gcons, ex_gtup, ex_gtupL, ex_asg, ex_par, ex_iseq, ex_onSeqT, ex_onSeqL, ex_onSeqS, ex_ienum, ex_irev, ex_onLTt, ex_onLTl, ex_rng1, ex_ifE, ex_and, ex_or, ex_not, ex_andV, ex_orV, ex_notV, ex_ixL, ex_call, ex_callN, ex_rev, ex_revL, ex_cat, ex_rep, ex_sl, ex_slA, ex_slL, ex_nopt, ex_pt, ex_eq, ex_ne, ex_yes, ex_lc, ex_lenT, ex_lenL, ex_lenS, ex_int2, ex_augIx, ex_isT, ex_chain, ex_asg2, ex_neg, List.set, startD, List.replicate, List.map_nil, List.map_cons, List.length_cons, List.length_nil, List.cons_append, List.nil_append, Nat.sub_self, Nat.reduceSub, Nat.reduceAdd, wipeE, decide_true, decide_false, if_true, if_false, true_and, and_true, Bool.not_true, Bool.not_false, Bool.false_eq_true, ex_frz, ex_draw, ex_fld, ex_meth, ex_make, ex_isC, ex_joinS, ex_orS, ex_joined, ex_js, ex_js0, ex_fmt, ex_part, ex_split, ex_inS, ex_toStr, ex_toIntS, ex_ownT, ex_own, ex_listL, ex_listT, ex_reprT, ex_reprL, ex_reprI, ex_slS, ex_toIntB, ex_toIntI, ex_put, ex_drop, ex_never, isT1, isT2, isT3, isT4, tyI, tyT, tyS, pyI, pyB, pyT0, pyIs, Nat.zero_le, deqv_int, deqv_bl]
      refine ⟨(c, b, h), rfl, ⟨hc, hb, by show b ^ h < _; omega⟩, fun d e => ?_⟩
      subst e
      refine ⟨(c, n / b ^ h, b ^ h), rfl, ⟨hc, by show n / b ^ h < _; omega, by show b ^ h < _; omega⟩, fun d e => ?_⟩
      subst e
      have et : n / b ^ h * b ^ h + n % b ^ h = n := by rw [Nat.mul_comm]; exact Nat.div_add_mod _ _
      refine ⟨(c, n / b ^ h * b ^ h, n % b ^ h), rfl, ⟨hc, by show n / b ^ h * b ^ h + n % b ^ h < _; rw [et]; exact hn⟩, fun d e => ?_⟩
      subst e
      show rwD c (n / b ^ h * b ^ h + n % b ^ h) = rwD c n
      rw [et]
end MD
end
section
/-! The arithmetic keeps its promises (7): division by guesses. -/
namespace MD
open PySem L2
theorem rw_lead {b n : Nat} (hb : 2 ≤ b) (hn : 0 < n) : ∃ xs : List Int, rw b n = xs ++ [((n / b ^ ((rw b n).length - 1) : Nat) : Int)] ∧ 0 < n / b ^ ((rw b n).length - 1) ∧ n / b ^ ((rw b n).length - 1) < b := by
  obtain ⟨xs, x, e, hx⟩ := rw_last hb n hn
  have hl : (rw b n).length = xs.length + 1 := by rw [e]; simp
  have hg := rw_get hb (i := xs.length) (n := n) (by omega)
  have hlt : n / b ^ xs.length < b := by
    apply Nat.div_lt_of_lt_mul
    show n < b ^ (xs.length + 1)
    rw [← hl]
    exact rw_lt hb n
  have hx2 : (rw b n)[xs.length]'(by omega) = x := by simp [e]
  rw [hx2, Nat.mod_eq_of_lt hlt] at hg
  rw [hl, Nat.add_sub_cancel, ← hg]
  exact ⟨xs, e, by omega, hlt⟩
theorem ok_guess_of : Keeps S_guess_of T_guess_of 5 := by
  rintro ⟨b, m, n⟩ ⟨hb, hn, hmn, hnb⟩
  dsimp only at hb hn hmn hnb
  have hb2 := hb.2
  have hn2 : n < 2 ^ BND := Nat.lt_of_le_of_lt (Nat.le_mul_of_pos_right n (by have := hb.1; omega)) hnb
  have ln := Sm.len hb hn2
  obtain ⟨xs, exs, x0, xb⟩ := rw_lead hb.1 hn
  show T_guess_of ⟨_, S_guess_of.post (b, m, n), _, _⟩ (startD 5 [row (rw b m), row (rw b n), .int b])
  simp only [T_guess_of, row, ex_seq, ex_next, ex_if, ex_ret, ex_set, ex_setO, ex_app, ex_aug, ex_var, ex_vw, ex_c, ex_d2, ex_b, ex_onD, ex_onVd, ex_onVo, ex_onO, ex_onB, ex_onS, ex_int, ex_addI, ex_addS, ex_addT, ex_nil, ex_cons, ex_tup, ex_lst, ex_cb, ex_tupleL, ex_tupleT, get_0, get_s, ex_for, ex_nm, ex_gnil, ex_gcons, ex_gtup, ex_gtupL, ex_asg, ex_par, ex_iseq, ex_onSeqT, ex_onSeqL, ex_onSeqS, ex_ienum, ex_irev, ex_onLTt, ex_onLTl, ex_rng1, ex_ifE, ex_and, ex_or, ex_not, ex_andV, ex_orV, ex_notV, ex_ixL, ex_call, ex_callN, ex_rev, ex_revL, ex_cat, ex_rep, ex_sl, ex_slA, ex_slL, ex_nopt, ex_pt, ex_eq, ex_ne, ex_yes, ex_lc, ex_lenT, ex_lenL, ex_lenS, ex_int2, ex_augIx, ex_isT, ex_chain, ex_asg2, ex_neg, List.set, startD, List.replicate, List.map_nil, List.map_cons, List.length_cons, List.length_nil, List.cons_append, List.nil_append, Nat.sub_self, Nat.reduceSub, Nat.reduceAdd, wipeE, decide_true, decide_false, if_true, if_false, true_and, and_true, Bool.not_true, Bool.not_false, Bool.false_eq_true, ex_frz, ex_draw, ex_fld, ex_meth, ex_make, ex_isC, ex_joinS, ex_orS, ex_joined, ex_js, ex_js0, ex_fmt, ex_part, ex_split, ex_inS, ex_toStr, ex_toIntS, ex_ownT, ex_own, ex_listL, ex_listT, ex_reprT, ex_reprL, ex_reprI, ex_slS, ex_toIntB, ex_toIntI, ex_put, ex_drop, ex_never, isT1, isT2, isT3, isT4, tyI, tyT, tyS, pyI, pyB, pyT0, pyIs, Nat.zero_le, deqv_int, deqv_bl]
  rw [List.length_map]
  have hl1 : 0 < (rw b n).length := by rw [exs]; simp
  have el : ((rw b n).length : Int) - 1 = (((rw b n).length - 1 : Nat) : Int) := by omega
  rw [el, cutD_drop, ← List.map_drop, (rw_take hb.1 _ m).2.2, ← List.map_reverse]
  generalize hP : b ^ ((rw b n).length - 1) = P at *
  refine for_of (α := Int) (fun d => .int d) (fun l env => ∃ (acc : Int) (s : Sl), env = [.dat (row (rw b m)), .dat (row (rw b n)), .dat (.int b), .dat (.int acc), s] ∧ acc * (b : Int) ^ l.length + wt b l.reverse = (m / P : Nat)) ?_ ?_ _ _ ⟨0, .un, rfl, by rw [List.reverse_reverse, wt_rw hb.1]; omega⟩
  · rintro a r env K ⟨acc, s, rfl, hw⟩ hK
    simp only [ex_seq, ex_next, ex_if, ex_ret, ex_set, ex_setO, ex_app, ex_aug, ex_var, ex_vw, ex_c, ex_d2, ex_b, ex_onD, ex_onVd, ex_onVo, ex_onO, ex_onB, ex_onS, ex_int, ex_addI, ex_addS, ex_addT, ex_nil, ex_cons, ex_tup, ex_lst, ex_cb, ex_tupleL, ex_tupleT, get_0, get_s, ex_for, ex_nm, ex_gnil, ex_gcons, ex_gtup, ex_gtupL, ex_asg, ex_par, ex_iseq, ex_onSeqT, ex_onSeqL, ex_onSeqS, ex_ienum, ex_irev, ex_onLTt, ex_onLTl, ex_rng1, ex_ifE, ex_and, ex_or, ex_not, ex_andV, ex_orV, ex_notV, ex_ixL, ex_call, ex_callN, ex_rev, ex_revL, ex_cat, ex_rep, ex_sl, ex_slA, ex_slL, ex_nopt, ex_pt, ex_eq, ex_ne, ex_yes, ex_lc, ex_lenT, ex_lenL, ex_lenS, ex_int2, ex_augIx, ex_isT, ex_chain, ex_asg2, ex_neg, List.set, startD, List.replicate, List.map_nil, List.map_cons, List.length_cons, List.length_nil, List.cons_append, List.nil_append, Nat.sub_self, Nat.reduceSub, Nat.reduceAdd, wipeE, decide_true, decide_false, if_true, if_false, true_and, and_true, Bool.not_true, Bool.not_false, Bool.false_eq_true, ex_frz, ex_draw, ex_fld, ex_meth, ex_make, ex_isC, ex_joinS, ex_orS, ex_joined, ex_js, ex_js0, ex_fmt, ex_part, ex_split, ex_inS, ex_toStr, ex_toIntS, ex_ownT, ex_own, ex_listL, ex_listT, ex_reprT, ex_reprL, ex_reprI, ex_slS, ex_toIntB, ex_toIntI, ex_put, ex_drop, ex_never, isT1, isT2, isT3, isT4, tyI, tyT, tyS, pyI, pyB, pyT0, pyIs, Nat.zero_le, deqv_int, deqv_bl]
    refine ⟨mulOkR (by omega), hK _ ⟨acc * b + a, _, rfl, ?_⟩⟩
    rw [List.reverse_cons, wt_append, wt_one, List.length_cons, List.length_reverse, Int.pow_succ] at hw
    rw [← hw, Int.add_mul, Int.mul_assoc, Int.mul_comm (b : Int), Int.mul_comm a]
    omega
  · rintro env ⟨acc, s, rfl, hw⟩
    have ea : acc = ((m / P : Nat) : Int) := by
      have : acc * 1 + 0 = ((m / P : Nat) : Int) := hw
      omega
    subst ea
    simp only [row, ex_seq, ex_next, ex_if, ex_ret, ex_set, ex_setO, ex_app, ex_aug, ex_var, ex_vw, ex_c, ex_d2, ex_b, ex_onD, ex_onVd, ex_onVo, ex_onO, ex_onB, ex_onS, ex_int, ex_addI, ex_addS, ex_addT, ex_nil, ex_cons, ex_tup, ex_lst, ex_cb, ex_tupleL, ex_tupleT, get_0, get_s, ex_for, ex_nm, ex_gnil, ex_gcons, ex_gtup, ex_gtupL, ex_asg, ex_par, ex_iseq, ex_onSeqT, ex_onSeqL, ex_onSeqS, ex_ienum, ex_irev, ex_onLTt, ex_onLTl, ex_rng1, ex_ifE, ex_and, ex_or, ex_not, ex_andV, ex_orV, ex_notV, ex_ixL, ex_call, ex_callN, ex_rev, ex_revL, ex_cat, ex_rep, ex_sl, ex_slA, ex_slL, ex_nopt, ex_pt, ex_eq, ex_ne, ex_yes, ex_lc, ex_lenT, ex_lenL, ex_lenS, ex_int2, ex_augIx, ex_isT, ex_chain, ex_asg2, ex_neg, List.set, startD, List.replicate, List.map_nil, List.map_cons, List.length_cons, List.length_nil, List.cons_append, List.nil_append, Nat.sub_self, Nat.reduceSub, Nat.reduceAdd, wipeE, decide_true, decide_false, if_true, if_false, true_and, and_true, Bool.not_true, Bool.not_false, Bool.false_eq_true, ex_frz, ex_draw, ex_fld, ex_meth, ex_make, ex_isC, ex_joinS, ex_orS, ex_joined, ex_js, ex_js0, ex_fmt, ex_part, ex_split, ex_inS, ex_toStr, ex_toIntS, ex_ownT, ex_own, ex_listL, ex_listT, ex_reprT, ex_reprL, ex_reprI, ex_slS, ex_toIntB, ex_toIntI, ex_put, ex_drop, ex_never, isT1, isT2, isT3, isT4, tyI, tyT, tyS, pyI, pyB, pyT0, pyIs, Nat.zero_le, deqv_int, deqv_bl]
    refine ⟨.int (n / P : Nat), by rw [exs, List.map_append]; exact atI_last _ _, ?_⟩
    simp only [ex_seq, ex_next, ex_if, ex_ret, ex_set, ex_setO, ex_app, ex_aug, ex_var, ex_vw, ex_c, ex_d2, ex_b, ex_onD, ex_onVd, ex_onVo, ex_onO, ex_onB, ex_onS, ex_int, ex_addI, ex_addS, ex_addT, ex_nil, ex_cons, ex_tup, ex_lst, ex_cb, ex_tupleL, ex_tupleT, get_0, get_s, ex_for, ex_nm, ex_gnil, ex_gcons, ex_gtup, ex_gtupL, ex_asg, ex_par, ex_iseq, ex_onSeqT, ex_onSeqL, ex_onSeqS, ex_ienum, ex_irev, ex_onLTt, ex_onLTl, ex_rng1, ex_ifE, ex_and, ex_or, ex_not, ex_andV, ex_orV, ex_notV, ex_ixL, ex_call, ex_callN, ex_rev, ex_revL, ex_cat, ex_rep, ex_sl, ex_slA, ex_slL, ex_nopt, ex_pt, ex_eq, ex_ne, ex_yes, ex_lc, ex_lenT, ex_lenL, ex_lenS, ex_int2, ex_augIx, ex_isT, ex_chain, ex_asg2, ex_neg, List.set, startD, List.replicate, List.map_nil, List.map_cons, List.length_cons, List.length_nil, List.cons_append, List.nil_append, Nat.sub_self, Nat.reduceSub, Nat.reduceAdd, wipeE, decide_true, decide_false, if_true, if_false, true_and, and_true, Bool.not_true, Bool.not_false, Bool.false_eq_true, ex_frz, ex_draw, ex_fld, ex_meth, ex_make, ex_isC, ex_joinS, ex_orS, ex_joined, ex_js, ex_js0, ex_fmt, ex_part, ex_split, ex_inS, ex_toStr, ex_toIntS, ex_ownT, ex_own, ex_listL, ex_listT, ex_reprT, ex_reprL, ex_reprI, ex_slS, ex_toIntB, ex_toIntI, ex_put, ex_drop, ex_never, isT1, isT2, isT3, isT4, tyI, tyT, tyS, pyI, pyB, pyT0, pyIs, Nat.zero_le, deqv_int, deqv_bl]
    refine ⟨divOk x0 (by omega), min (b - 1) (m / P / (n / P)), ?_, ?_, ?_⟩
    · show D.int _ = D.int _
      congr 1
      rw [show ((m / P : Nat) : Int) / ((n / P : Nat) : Int) = ((m / P / (n / P) : Nat) : Int) from (Int.natCast_ediv _ _).symm]
      have := hb.1
      omega
    · have h1 : m / n ≤ b - 1 := by
        have : m / n < b := Nat.div_lt_of_lt_mul hmn
        omega
      have hP0 : 0 < P := by rw [← hP]; exact Nat.pow_pos (by have := hb.1; omega)
      have h2 : m / n ≤ m / P / (n / P) := by
        rw [Nat.le_div_iff_mul_le x0, Nat.le_div_iff_mul_le hP0, Nat.mul_assoc]
        exact Nat.le_trans (Nat.mul_le_mul_left _ (Nat.div_mul_le_self n P)) (Nat.div_mul_le_self m n)
      show m / n ≤ min (b - 1) (m / P / (n / P))
      omega
    · have := hb.1
      show min (b - 1) (m / P / (n / P)) < b
      omega
theorem strip_cons {b d r : Nat} (hb : 2 ≤ b) (hd : d < b) : strip ((d : Int) :: rw b r) = rw b (d + b * r) := by
  refine strip_eq hb (n := d + b * r) (fun e he => ?_) ?_
  · rcases List.mem_cons.mp he with rfl | he
    · exact ⟨by omega, by omega⟩
    · exact rw_dg hb r e he
  · show (d : Int) + b * wt b (rw b r) = _
    rw [wt_rw hb]
    push_cast
    rfl
theorem ok_turns_of : Keeps S_turns_of T_turns_of 10 := by
  rintro ⟨b, m, n⟩ ⟨hb, hn, hm, hnb⟩
  dsimp only at hb hn hm hnb
  have hb2 := hb.2
  have bp : 0 < b := by have := hb.1; omega
  have hnn : n ≤ n * b := Nat.le_mul_of_pos_right n bp
  have lm := Sm.len hb hm
  show T_turns_of ⟨_, S_turns_of.post (b, m, n), _, _⟩ (startD 10 [row (rw b m), rwD b n, .int b])
  simp only [T_turns_of, row, ex_seq, ex_next, ex_if, ex_ret, ex_set, ex_setO, ex_app, ex_aug, ex_var, ex_vw, ex_c, ex_d2, ex_b, ex_onD, ex_onVd, ex_onVo, ex_onO, ex_onB, ex_onS, ex_int, ex_addI, ex_addS, ex_addT, ex_nil, ex_cons, ex_tup, ex_lst, ex_cb, ex_tupleL, ex_tupleT, get_0, get_s, ex_for, ex_nm, ex_gnil, ex_gcons, ex_gtup, ex_gtupL, ex_asg, ex_par, ex_iseq, ex_onSeqT, ex_onSeqL, ex_onSeqS, ex_ienum, ex_irev, ex_onLTt, ex_onLTl, ex_rng1, ex_ifE, ex_and, ex_or, ex_not, ex_andV, ex_orV, ex_notV, ex_ixL, ex_call, ex_callN, ex_rev, ex_revL, ex_cat, ex_rep, ex_sl, ex_slA, ex_slL, ex_nopt, ex_pt, ex_eq, ex_ne, ex_yes, ex_lc, ex_lenT, ex_lenL, ex_lenS, ex_int2, ex_augIx, ex_isT, ex_chain, ex_asg2, ex_neg, List.set, startD, List.replicate, List.map_nil, List.map_cons, List.length_cons, List.length_nil, List.cons_append, List.nil_append, Nat.sub_self, Nat.reduceSub, Nat.reduceAdd, wipeE, decide_true, decide_false, if_true, if_false, true_and, and_true, Bool.not_true, Bool.not_false, Bool.false_eq_true, ex_frz, ex_draw, ex_fld, ex_meth, ex_make, ex_isC, ex_joinS, ex_orS, ex_joined, ex_js, ex_js0, ex_fmt, ex_part, ex_split, ex_inS, ex_toStr, ex_toIntS, ex_ownT, ex_own, ex_listL, ex_listT, ex_reprT, ex_reprL, ex_reprI, ex_slS, ex_toIntB, ex_toIntI, ex_put, ex_drop, ex_never, isT1, isT2, isT3, isT4, tyI, tyT, tyS, pyI, pyB, pyT0, pyIs, Nat.zero_le, deqv_int, deqv_bl, e_gk_scaled_2_base, e_gk_lessened_2_base]
  rw [← List.map_reverse]
  refine for_of (α := Int) (fun d => .int d) (fun l env => ∃ (r : Nat) (ts : List (Int × Nat × Nat)) (s5 s6 s7 s8 s9 : Sl), env = [.dat (row (rw b m)), .dat (rwD b n), .dat (.int b), .own (ts.map (turnD b)), .dat (rwD b r), s5, s6, s7, s8, s9] ∧ r < n ∧ Dg b l ∧ ts.length + l.length = (rw b m).length ∧ ts.map (·.2) ++ turns b n r l = turns b n 0 (rw b m).reverse) ?_ ?_ _ _
    ⟨0, [], .un, .un, .un, .un, .un, by rw [show rwD b 0 = .tup [] by rw [rwD, rw_zero]; rfl]; rfl, hn, fun d hd => rw_dg hb.1 m d (List.mem_reverse.mp hd), by simp, rfl⟩
  · rintro a l env K ⟨r, ts, s5, s6, s7, s8, s9, rfl, hr, hd, hlen, ht⟩ hK
    obtain ⟨d, rfl⟩ : ∃ d : Nat, a = d := ⟨a.toNat, by have := hd.cons.1.1; omega⟩
    have hdb : d < b := by have := hd.cons.1.2; omega
    have hrm : r < 2 ^ BND := by omega
    have lr := Sm.len hb hrm
    simp only [rwD, row, ex_seq, ex_next, ex_if, ex_ret, ex_set, ex_setO, ex_app, ex_aug, ex_var, ex_vw, ex_c, ex_d2, ex_b, ex_onD, ex_onVd, ex_onVo, ex_onO, ex_onB, ex_onS, ex_int, ex_addI, ex_addS, ex_addT, ex_nil, ex_cons, ex_tup, ex_lst, ex_cb, ex_tupleL, ex_tupleT, get_0, get_s, ex_for, ex_nm, ex_gnil, ex_gcons, ex_gtup, ex_gtupL, ex_asg, ex_par, ex_iseq, ex_onSeqT, ex_onSeqL, ex_onSeqS, ex_ienum, ex_irev, ex_onLTt, ex_onLTl, ex_rng1, ex_ifE, ex_and, ex_or, ex_not, ex_andV, ex_orV, ex_notV, ex_ixL, ex_call, ex_callN, ex_rev, ex_revL, ex_cat, ex_rep, ex_sl, ex_slA, ex_slL, ex_nopt, ex_pt, ex_eq, ex_ne, ex_yes, ex_lc, ex_lenT, ex_lenL, ex_lenS, ex_int2, ex_augIx, ex_isT, ex_chain, ex_asg2, ex_neg, List.set, startD, List.replicate, List.map_nil, List.map_cons, List.length_cons, List.length_nil, List.cons_append, List.nil_append, Nat.sub_self, Nat.reduceSub, Nat.reduceAdd, wipeE, decide_true, decide_false, if_true, if_false, true_and, and_true, Bool.not_true, Bool.not_false, Bool.false_eq_true, ex_frz, ex_draw, ex_fld, ex_meth, ex_make, ex_isC, ex_joinS, ex_orS, ex_joined, ex_js, ex_js0, ex_fmt, ex_part, ex_split, ex_inS, ex_toStr, ex_toIntS, ex_ownT, ex_own, ex_listL, ex_listT, ex_reprT, ex_reprL, ex_reprI, ex_slS, ex_toIntB, ex_toIntI, ex_put, ex_drop, ex_never, isT1, isT2, isT3, isT4, tyI, tyT, tyS, pyI, pyB, pyT0, pyIs, Nat.zero_le, deqv_int, deqv_bl]
    have hp : d + b * r < n * b := by
      have : b * (r + 1) ≤ b * n := Nat.mul_le_mul_left b (by omega)
      rw [Nat.mul_add, Nat.mul_one, Nat.mul_comm b n] at this
      omega
    rw [List.length_map]
    refine ⟨by decide, by unfold SZ; omega, (false, (d : Int) :: rw b r), rfl, by show (rw b r).length + 1 ≤ SZ; unfold SZ; omega, fun x e => ?_⟩
    subst e
    rw [strip_cons hb.1 hdb]
    generalize hpp : d + b * r = p at hp ⊢
    refine ⟨(b, p, n), rfl, ⟨hb, hn, hp, hnb⟩, fun x e => ?_⟩
    obtain ⟨g, rfl, hg1, hg2⟩ := e
    refine ⟨(b, n, g), rfl, ⟨hb, hg2, by show n < _; omega⟩, fun x e => ?_⟩
    subst e
    dsimp only at hg1 hg2
    have hgb : n * g < 2 ^ BND := by
      have : n * g ≤ n * b := Nat.mul_le_mul_left n (by omega)
      omega
    refine while_of (fun (o : Nat) env => env = [.dat (row (rw b m)), .dat (rwD b n), .dat (.int b), .own (ts.map (turnD b)), .dat (rwD b r), .dat (.int d), .dat (rwD b p), .dat (.int g), .dat (.int o), .dat (rwD b (n * o))] ∧ p / n ≤ o ∧ o ≤ g) id g ⟨rfl, hg1, Nat.le_refl _⟩ ?_
    rintro o env K' ⟨rfl, ho1, ho2⟩ hK'
    have hob : n * o ≤ n * g := Nat.mul_le_mul_left n ho2
    simp only [ex_seq, ex_next, ex_if, ex_ret, ex_set, ex_setO, ex_app, ex_aug, ex_var, ex_vw, ex_c, ex_d2, ex_b, ex_onD, ex_onVd, ex_onVo, ex_onO, ex_onB, ex_onS, ex_int, ex_addI, ex_addS, ex_addT, ex_nil, ex_cons, ex_tup, ex_lst, ex_cb, ex_tupleL, ex_tupleT, get_0, get_s, ex_for, ex_nm, ex_gnil, ex_gcons, ex_gtup, ex_gtupL, ex_asg, ex_par, ex_iseq, ex_onSeqT, ex_onSeqL, ex_onSeqS, ex_ienum, ex_irev, ex_onLTt, ex_onLTl, ex_rng1, ex_ifE, ex_and, ex_or, ex_not, ex_andV, ex_orV, ex_notV, ex_ixL, ex_call, ex_callN, ex_rev, ex_revL, ex_cat, ex_rep, ex_sl, ex_slA, ex_slL, ex_nopt, ex_pt, ex_eq, ex_ne, ex_yes, ex_lc, ex_lenT, ex_lenL, ex_lenS, ex_int2, ex_augIx, ex_isT, ex_chain, ex_asg2, ex_neg, List.set, startD, List.replicate, List.map_nil, List.map_cons, List.length_cons, List.length_nil, List.cons_append, List.nil_append, Nat.sub_self, Nat.reduceSub, Nat.reduceAdd, wipeE, decide_true, decide_false, if_true, if_false, true_and, and_true, Bool.not_true, Bool.not_false, Bool.false_eq_true, ex_frz, ex_draw, ex_fld, ex_meth, ex_make, ex_isC, ex_joinS, ex_orS, ex_joined, ex_js, ex_js0, ex_fmt, ex_part, ex_split, ex_inS, ex_toStr, ex_toIntS, ex_ownT, ex_own, ex_listL, ex_listT, ex_reprT, ex_reprL, ex_reprI, ex_slS, ex_toIntB, ex_toIntI, ex_put, ex_drop, ex_never, isT1, isT2, isT3, isT4, tyI, tyT, tyS, pyI, pyB, pyT0, pyIs, Nat.zero_le, deqv_int, deqv_bl]
    refine ⟨(b, p, n * o), rfl, hb, fun x e => ?_⟩
    subst e
    simp only [ex_seq, ex_next, ex_if, ex_ret, ex_set, ex_setO, ex_app, ex_aug, ex_var, ex_vw, ex_c, ex_d2, ex_b, ex_onD, ex_onVd, ex_onVo, ex_onO, ex_onB, ex_onS, ex_int, ex_addI, ex_addS, ex_addT, ex_nil, ex_cons, ex_tup, ex_lst, ex_cb, ex_tupleL, ex_tupleT, get_0, get_s, ex_for, ex_nm, ex_gnil, ex_gcons, ex_gtup, ex_gtupL, ex_asg, ex_par, ex_iseq, ex_onSeqT, ex_onSeqL, ex_onSeqS, ex_ienum, ex_irev, ex_onLTt, ex_onLTl, ex_rng1, ex_ifE, ex_and, ex_or, ex_not, ex_andV, ex_orV, ex_notV, ex_ixL, ex_call, ex_callN, ex_rev, ex_revL, ex_cat, ex_rep, ex_sl, ex_slA, ex_slL, ex_nopt, ex_pt, ex_eq, ex_ne, ex_yes, ex_lc, ex_lenT, ex_lenL, ex_lenS, ex_int2, ex_augIx, ex_isT, ex_chain, ex_asg2, ex_neg, List.set, startD, List.replicate, List.map_nil, List.map_cons, List.length_cons, List.length_nil, List.cons_append, List.nil_append, Nat.sub_self, Nat.reduceSub, Nat.reduceAdd, wipeE, decide_true, decide_false, if_true, if_false, true_and, and_true, Bool.not_true, Bool.not_false, Bool.false_eq_true, ex_frz, ex_draw, ex_fld, ex_meth, ex_make, ex_isC, ex_joinS, ex_orS, ex_joined, ex_js, ex_js0, ex_fmt, ex_part, ex_split, ex_inS, ex_toStr, ex_toIntS, ex_ownT, ex_own, ex_listL, ex_listT, ex_reprT, ex_reprL, ex_reprI, ex_slS, ex_toIntB, ex_toIntI, ex_put, ex_drop, ex_never, isT1, isT2, isT3, isT4, tyI, tyT, tyS, pyI, pyB, pyT0, pyIs, Nat.zero_le, deqv_int, deqv_bl]
    by_cases hlt : p < n * o
    · rw [decide_eq_true hlt, if_pos rfl]
      obtain ⟨o, rfl⟩ : ∃ k, o = k + 1 := ⟨o - 1, by
        have : o ≠ 0 := fun z => by subst z; simp at hlt
        omega⟩
      refine ⟨(b, n * (o + 1), n), rfl, ⟨hb, by show n ≤ n * (o + 1); exact Nat.le_mul_of_pos_right n (by omega), by show n * (o + 1) < _; omega⟩, fun x e => ?_⟩
      subst e
      have e1 : ((o + 1 : Nat) : Int) - 1 = (o : Int) := by omega
      have e2 : n * (o + 1) - n = n * o := by rw [Nat.mul_add, Nat.mul_one, Nat.add_sub_cancel]
      show K' [_, _, _, _, _, _, _, _, Sl.dat (.int (((o + 1 : Nat) : Int) - 1)), Sl.dat (rwD b (n * (o + 1) - n))]
      rw [e1, e2]
      have hq : p / n < o + 1 := Nat.div_lt_of_lt_mul hlt
      exact hK' o _ ⟨rfl, by omega, by omega⟩ (Nat.lt_succ_self _)
    · rw [decide_eq_false hlt, if_neg (by decide)]
      have hoq : o = p / n := by
        have : o ≤ p / n := (Nat.le_div_iff_mul_le hn).mpr (by rw [Nat.mul_comm]; omega)
        omega
      refine ⟨(b, p, n * o), rfl, ⟨hb, by show n * o ≤ p; omega, by show p < _; omega⟩, fun x e => ?_⟩
      subst e
      have er : p - n * o = p % n := by
        rw [hoq]
        have := Nat.div_add_mod p n
        omega
      refine ⟨by decide, by rw [List.length_map]; rw [List.length_cons] at hlen; unfold SZ; omega, hK _ ⟨p % n, ts ++ [((g : Int), o, p % n)], .dat (.int d), .dat (rwD b p), .dat (.int g), .dat (.int o), .dat (rwD b (n * o)), ?_, Nat.mod_lt _ hn, hd.cons.2, by rw [List.length_append]; rw [List.length_cons] at hlen; show ts.length + 1 + l.length = _; omega, ?_⟩⟩
      · rw [List.map_append, ← er]
        rfl
      · rw [List.map_append, List.append_assoc, ← ht]
        show _ ++ ((o, p % n) :: turns b n (p % n) l) = _ ++ ((((d : Int).toNat + b * r) / n, ((d : Int).toNat + b * r) % n) :: turns b n (((d : Int).toNat + b * r) % n) l)
        rw [Int.toNat_natCast, hpp, hoq]
  · rintro env ⟨r, ts, s5, s6, s7, s8, s9, rfl, hr, hd, hlen, ht⟩
    simp only [ex_seq, ex_next, ex_if, ex_ret, ex_set, ex_setO, ex_app, ex_aug, ex_var, ex_vw, ex_c, ex_d2, ex_b, ex_onD, ex_onVd, ex_onVo, ex_onO, ex_onB, ex_onS, ex_int, ex_addI, ex_addS, ex_addT, ex_nil, ex_cons, ex_tup, ex_lst, ex_cb, ex_tupleL, ex_tupleT, get_0, get_s, ex_for, ex_nm, ex_gnil, ex_gcons, ex_gtup, ex_gtupL, ex_asg, ex_par, ex_iseq, ex_onSeqT, ex_onSeqL, ex_onSeqS, ex_ienum, ex_irev, ex_onLTt, ex_onLTl, ex_rng1, ex_ifE, ex_and, ex_or, ex_not, ex_andV, ex_orV, ex_notV, ex_ixL, ex_call, ex_callN, ex_rev, ex_revL, ex_cat, ex_rep, ex_sl, ex_slA, ex_slL, ex_nopt, ex_pt, ex_eq, ex_ne, ex_yes, ex_lc, ex_lenT, ex_lenL, ex_lenS, ex_int2, ex_augIx, ex_isT, ex_chain, ex_asg2, ex_neg, List.set, startD, List.replicate, List.map_nil, List.map_cons, List.length_cons, List.length_nil, List.cons_append, List.nil_append, Nat.sub_self, Nat.reduceSub, Nat.reduceAdd, wipeE, decide_true, decide_false, if_true, if_false, true_and, and_true, Bool.not_true, Bool.not_false, Bool.false_eq_true, ex_frz, ex_draw, ex_fld, ex_meth, ex_make, ex_isC, ex_joinS, ex_orS, ex_joined, ex_js, ex_js0, ex_fmt, ex_part, ex_split, ex_inS, ex_toStr, ex_toIntS, ex_ownT, ex_own, ex_listL, ex_listT, ex_reprT, ex_reprL, ex_reprI, ex_slS, ex_toIntB, ex_toIntI, ex_put, ex_drop, ex_never, isT1, isT2, isT3, isT4, tyI, tyT, tyS, pyI, pyB, pyT0, pyIs, Nat.zero_le, deqv_int, deqv_bl]
    refine ⟨ts, rfl, ?_⟩
    rw [← ht]
    show _ = _ ++ []
    rw [List.append_nil]
theorem ok_lifted : Keeps S_lifted T_lifted 4 := by
  rintro ⟨b, m, n⟩ ⟨hb, hn, hm, hn2⟩
  dsimp only at hb hn hm hn2
  have hb2 := hb.2
  obtain ⟨xs, exs, x0, xb⟩ := rw_lead hb.1 hn
  generalize n / b ^ ((rw b n).length - 1) = x at exs x0 xb
  show T_lifted ⟨_, S_lifted.post (b, m, n), _, _⟩ (startD 4 [rwD b m, rwD b n, .int b])
  simp only [T_lifted, ex_seq, ex_next, ex_if, ex_ret, ex_set, ex_setO, ex_app, ex_aug, ex_var, ex_vw, ex_c, ex_d2, ex_b, ex_onD, ex_onVd, ex_onVo, ex_onO, ex_onB, ex_onS, ex_int, ex_addI, ex_addS, ex_addT, ex_nil, ex_cons, ex_tup, ex_lst, ex_cb, ex_tupleL, ex_tupleT, get_0, get_s, ex_for, ex_nm, ex_gnil, ex_gcons, ex_gtup, ex_gtupL, ex_asg, ex_par, ex_iseq, ex_onSeqT, ex_onSeqL, ex_onSeqS, ex_ienum, ex_irev, ex_onLTt, ex_onLTl, ex_rng1, ex_ifE, ex_and, ex_or, ex_not, ex_andV, ex_orV, ex_notV, ex_ixL, ex_call, ex_callN, ex_rev, ex_revL, ex_cat, ex_rep, ex_sl, ex_slA, ex_slL, ex_nopt, ex_pt, ex_eq, ex_ne, ex_yes, ex_lc, ex_lenT, ex_lenL, ex_lenS, ex_int2, ex_augIx, ex_isT, ex_chain, ex_asg2, ex_neg, List.set, startD, List.replicate, List.map_nil, List.map_cons, List.length_cons, List.length_nil, List.cons_append, List.nil_append, Nat.sub_self, Nat.reduceSub, Nat.reduceAdd, wipeE, decide_true, decide_false, if_true, if_false, true_and, and_true, Bool.not_true, Bool.not_false, Bool.false_eq_true, ex_frz, ex_draw, ex_fld, ex_meth, ex_make, ex_isC, ex_joinS, ex_orS, ex_joined, ex_js, ex_js0, ex_fmt, ex_part, ex_split, ex_inS, ex_toStr, ex_toIntS, ex_ownT, ex_own, ex_listL, ex_listT, ex_reprT, ex_reprL, ex_reprI, ex_slS, ex_toIntB, ex_toIntI, ex_put, ex_drop, ex_never, isT1, isT2, isT3, isT4, tyI, tyT, tyS, pyI, pyB, pyT0, pyIs, Nat.zero_le, deqv_int, deqv_bl, e_gk_scaled_2_base]
  have e1 : (rwD b n) = .tup ((xs.map .int) ++ [.int x]) := by rw [rwD, row, exs, List.map_append]; rfl
  have hix : ∀ Q : D → Prop, Q (.int x) → (match rwD b n, D.int (-1) with
        | .lst xs, .int i => ∃ d, L2.atI xs i = some d ∧ Q d
        | .tup xs, .int i => ∃ d, L2.atI xs i = some d ∧ Q d
        | .str z, .int i => z.length ≤ SZ ∧ ∃ c, L2.atI z.cps.toList i = some c ∧ Q (.str ⟨#[c]⟩)
        | _, _ => False) := fun Q q => by
    rw [e1]
    exact ⟨_, atI_last _ _, q⟩
  refine hix _ ?_
  simp only [ex_seq, ex_next, ex_if, ex_ret, ex_set, ex_setO, ex_app, ex_aug, ex_var, ex_vw, ex_c, ex_d2, ex_b, ex_onD, ex_onVd, ex_onVo, ex_onO, ex_onB, ex_onS, ex_int, ex_addI, ex_addS, ex_addT, ex_nil, ex_cons, ex_tup, ex_lst, ex_cb, ex_tupleL, ex_tupleT, get_0, get_s, ex_for, ex_nm, ex_gnil, ex_gcons, ex_gtup, ex_gtupL, ex_asg, ex_par, ex_iseq, ex_onSeqT, ex_onSeqL, ex_onSeqS, ex_ienum, ex_irev, ex_onLTt, ex_onLTl, ex_rng1, ex_ifE, ex_and, ex_or, ex_not, ex_andV, ex_orV, ex_notV, ex_ixL, ex_call, ex_callN, ex_rev, ex_revL, ex_cat, ex_rep, ex_sl, ex_slA, ex_slL, ex_nopt, ex_pt, ex_eq, ex_ne, ex_yes, ex_lc, ex_lenT, ex_lenL, ex_lenS, ex_int2, ex_augIx, ex_isT, ex_chain, ex_asg2, ex_neg, List.set, startD, List.replicate, List.map_nil, List.map_cons, List.length_cons, List.length_nil, List.cons_append, List.nil_append, Nat.sub_self, Nat.reduceSub, Nat.reduceAdd, wipeE, decide_true, decide_false, if_true, if_false, true_and, and_true, Bool.not_true, Bool.not_false, Bool.false_eq_true, ex_frz, ex_draw, ex_fld, ex_meth, ex_make, ex_isC, ex_joinS, ex_orS, ex_joined, ex_js, ex_js0, ex_fmt, ex_part, ex_split, ex_inS, ex_toStr, ex_toIntS, ex_ownT, ex_own, ex_listL, ex_listT, ex_reprT, ex_reprL, ex_reprI, ex_slS, ex_toIntB, ex_toIntI, ex_put, ex_drop, ex_never, isT1, isT2, isT3, isT4, tyI, tyT, tyS, pyI, pyB, pyT0, pyIs, Nat.zero_le, deqv_int, deqv_bl]
  have ex : (x : Int) + 1 = ((x + 1 : Nat) : Int) := by omega
  rw [ex, show (b : Int) / ((x + 1 : Nat) : Int) = ((b / (x + 1) : Nat) : Int) from (Int.natCast_ediv _ _).symm]
  have l1 : 1 ≤ b / (x + 1) := (Nat.le_div_iff_mul_le (by omega)).mpr (by omega)
  have l2 : b / (x + 1) < b := Nat.div_lt_self (by have := hb.1; omega) (by omega)
  refine ⟨divOk (by omega) (by omega), (b, m, b / (x + 1)), rfl, ⟨hb, l2, hm⟩, fun d e => ?_⟩
  subst e
  refine ⟨(b, n, b / (x + 1)), rfl, ⟨hb, l2, hn2⟩, fun d e => ?_⟩
  subst e
  exact ⟨by decide, _, l1, l2, rfl⟩
end MD
end
section
/-! The arithmetic keeps its promises (8): division. -/
namespace MD
open PySem L2
def lastRest : Nat → List (Nat × Nat) → Nat
  | r, [] => r
  | _, x :: l => lastRest x.2 l
theorem lastRest_snoc (r : Nat) : ∀ (l : List (Nat × Nat)) (x : Nat × Nat), lastRest r (l ++ [x]) = x.2
  | [], _ => rfl
  | y :: l, x => lastRest_snoc y.2 l x
/-- quotient and rest of the whole by what the turns give -/
theorem turns_spec {b N : Nat} (hb : 2 ≤ b) (hN : 0 < N) : ∀ (ds : List Int) (r : Nat), r < N → Dg b ds → ∃ p : Nat, (p : Int) = (r : Int) * (b : Int) ^ ds.length + wt b ds.reverse ∧
    wt b ((turns b N r ds).map fun x => ((x.1 : Nat) : Int)).reverse = (p / N : Nat) ∧ lastRest r (turns b N r ds) = p % N ∧ Dg b ((turns b N r ds).map fun x => ((x.1 : Nat) : Int)) ∧ (turns b N r ds).length = ds.length
  | [], r, hr, _ => ⟨r, by simp [wt], by simp [turns, wt, Nat.div_eq_of_lt hr], by show r = r % N; rw [Nat.mod_eq_of_lt hr], dg_nil, rfl⟩
  | a :: ds, r, hr, hd => by
    obtain ⟨d, rfl⟩ : ∃ d : Nat, a = d := ⟨a.toNat, by have := hd.cons.1.1; omega⟩
    have hdb : d < b := by have := hd.cons.1.2; omega
    have hq : (d + b * r) / N < b := by
      apply Nat.div_lt_of_lt_mul
      have : b * (r + 1) ≤ b * N := Nat.mul_le_mul_left b (by omega)
      rw [Nat.mul_add, Nat.mul_one, Nat.mul_comm b N] at this
      omega
    obtain ⟨p, e1, e2, e3, e4, e5⟩ := turns_spec hb hN ds ((d + b * r) % N) (Nat.mod_lt _ hN) hd.cons.2
    have hp0 : 0 < b ^ ds.length := Nat.pow_pos (by omega)
    have ew : p < N * b ^ ds.length := by
      have h1 := wt_lt hb (xs := ds.reverse) (fun x hx => hd.cons.2 x (List.mem_reverse.mp hx))
      rw [List.length_reverse] at h1
      have h2 : ((d + b * r) % N + 1) * b ^ ds.length ≤ N * b ^ ds.length := Nat.mul_le_mul_right _ (Nat.mod_lt _ hN)
      rw [Nat.add_mul, Nat.one_mul] at h2
      have h3 : (p : Int) < ((N * b ^ ds.length : Nat) : Int) := by
        have h4 : ((((d + b * r) % N) * b ^ ds.length + b ^ ds.length : Nat) : Int) ≤ ((N * b ^ ds.length : Nat) : Int) := by exact_mod_cast h2
        rw [Int.natCast_add, Int.natCast_mul, Int.natCast_pow] at h4
        rw [e1]
        omega
      exact_mod_cast h3
    refine ⟨N * ((d + b * r) / N * b ^ ds.length) + p, ?_, ?_, ?_, ?_, ?_⟩
    · have hm := Nat.div_add_mod (d + b * r) N
      rw [List.reverse_cons, wt_snoc, List.length_reverse, List.length_cons, Int.pow_succ]
      push_cast
      push_cast at e1
      rw [e1]
      have hm' : (N : Int) * (((d : Int) + b * r) / N) + ((d : Int) + b * r) % N = (d : Int) + b * r := by exact_mod_cast hm
      rw [← Int.mul_assoc, ← Int.add_assoc, ← Int.add_mul, hm', Int.add_mul, Int.mul_comm (d : Int), Int.mul_comm ((b : Int) ^ ds.length) (b : Int), ← Int.mul_assoc, Int.mul_comm (b : Int) (r : Int)]
      omega
    · show wt b ((((((d : Int).toNat + b * r) / N : Nat) : Int)) :: (turns b N (((d : Int).toNat + b * r) % N) ds).map fun x => ((x.1 : Nat) : Int)).reverse = _
      rw [Int.toNat_natCast, List.reverse_cons, wt_snoc, List.length_reverse, List.length_map, e5, e2, Nat.mul_add_div hN]
      push_cast
      rw [Int.mul_comm ((b : Int) ^ ds.length)]
      omega
    · show lastRest (((d : Int).toNat + b * r) % N) (turns b N (((d : Int).toNat + b * r) % N) ds) = _
      rw [Int.toNat_natCast, e3, Nat.mul_add_mod]
    · show Dg b ((((((d : Int).toNat + b * r) / N : Nat) : Int)) :: (turns b N (((d : Int).toNat + b * r) % N) ds).map fun x => ((x.1 : Nat) : Int))
      rw [Int.toNat_natCast]
      intro x hx
      rcases List.mem_cons.mp hx with rfl | hx
      · exact ⟨Int.natCast_nonneg _, by exact_mod_cast hq⟩
      · exact e4 x hx
    · show (turns b N (((d : Int).toNat + b * r) % N) ds).length + 1 = _
      rw [Int.toNat_natCast, e5]; rfl
theorem ok_divided : Keeps S_divided T_divided 10 := by
  rintro ⟨b, m, n⟩ ⟨hb, hn, hm, hn2⟩
  dsimp only at hb hn hm hn2
  have hb2 := hb.2
  have hbp : 2 ^ 10000 * 2 ^ 14 < 2 ^ BND := by rw [← Nat.pow_add]; exact Nat.pow_lt_pow_right (by decide) (by decide)
  have hbig : 2 ^ 10000 * 2 ^ 28 < 2 ^ BND := by rw [← Nat.pow_add]; exact Nat.pow_lt_pow_right (by decide) (by decide)
  have h14 : 10000 < 2 ^ 14 := by decide
  have mono : ∀ x, x < 2 ^ 10000 → x < 2 ^ BND := fun x h => Nat.lt_of_lt_of_le h (Nat.pow_le_pow_right (by decide) (by decide))
  show T_divided ⟨_, S_divided.post (b, m, n), _, _⟩ (startD 10 [rwD b m, row (rw b n), .int b])
  simp only [T_divided, row, ex_seq, ex_next, ex_if, ex_ret, ex_set, ex_setO, ex_app, ex_aug, ex_var, ex_vw, ex_c, ex_d2, ex_b, ex_onD, ex_onVd, ex_onVo, ex_onO, ex_onB, ex_onS, ex_int, ex_addI, ex_addS, ex_addT, ex_nil, ex_cons, ex_tup, ex_lst, ex_cb, ex_tupleL, ex_tupleT, get_0, get_s, ex_for, ex_nm, ex_gnil, ex_gcons, ex_gtup, ex_gtupL, ex_asg, ex_par, ex_iseq, ex_onSeqT, ex_onSeqL, ex_onSeqS, ex_ienum, ex_irev, ex_onLTt, ex_onLTl, ex_rng1, ex_ifE, ex_and, ex_or, ex_not, ex_andV, ex_orV, ex_notV, ex_ixL, ex_call, ex_callN, ex_rev, ex_revL, ex_cat, ex_rep, ex_sl, ex_slA, ex_slL, ex_nopt, ex_pt, ex_eq, ex_ne, ex_yes, ex_lc, ex_lenT, ex_lenL, ex_lenS, ex_int2, ex_augIx, ex_isT, ex_chain, ex_asg2, ex_neg, List.set, startD, List.replicate, List.map_nil, List.map_cons, List.length_cons, List.length_nil, List.cons_append, List.nil_append, Nat.sub_self, Nat.reduceSub, Nat.reduceAdd, wipeE, decide_true, decide_false, if_true, if_false, true_and, and_true, Bool.not_true, Bool.not_false, Bool.false_eq_true, ex_frz, ex_draw, ex_fld, ex_meth, ex_make, ex_isC, ex_joinS, ex_orS, ex_joined, ex_js, ex_js0, ex_fmt, ex_part, ex_split, ex_inS, ex_toStr, ex_toIntS, ex_ownT, ex_own, ex_listL, ex_listT, ex_reprT, ex_reprL, ex_reprI, ex_slS, ex_toIntB, ex_toIntI, ex_put, ex_drop, ex_never, isT1, isT2, isT3, isT4, tyI, tyT, tyS, pyI, pyB, pyT0, pyIs, Nat.zero_le, deqv_int, deqv_bl, e_gk_parted_2_base]
  rw [show deqv (.tup ((rw b n).map D.int)) (.tup []) = decide (rw b n = []) from deqv_ints (rw b n) [], decide_eq_false (fun h => by have := (rw_nil hb.1).mp h; omega), if_neg (by decide)]
  refine ⟨(b, m, n), rfl, ⟨hb, hn, mono m hm, mono n hn2⟩, fun d e => ?_⟩
  obtain ⟨l, l1, l2, rfl⟩ := e
  dsimp only at l1 l2
  simp only [ex_seq, ex_next, ex_if, ex_ret, ex_set, ex_setO, ex_app, ex_aug, ex_var, ex_vw, ex_c, ex_d2, ex_b, ex_onD, ex_onVd, ex_onVo, ex_onO, ex_onB, ex_onS, ex_int, ex_addI, ex_addS, ex_addT, ex_nil, ex_cons, ex_tup, ex_lst, ex_cb, ex_tupleL, ex_tupleT, get_0, get_s, ex_for, ex_nm, ex_gnil, ex_gcons, ex_gtup, ex_gtupL, ex_asg, ex_par, ex_iseq, ex_onSeqT, ex_onSeqL, ex_onSeqS, ex_ienum, ex_irev, ex_onLTt, ex_onLTl, ex_rng1, ex_ifE, ex_and, ex_or, ex_not, ex_andV, ex_orV, ex_notV, ex_ixL, ex_call, ex_callN, ex_rev, ex_revL, ex_cat, ex_rep, ex_sl, ex_slA, ex_slL, ex_nopt, ex_pt, ex_eq, ex_ne, ex_yes, ex_lc, ex_lenT, ex_lenL, ex_lenS, ex_int2, ex_augIx, ex_isT, ex_chain, ex_asg2, ex_neg, List.set, startD, List.replicate, List.map_nil, List.map_cons, List.length_cons, List.length_nil, List.cons_append, List.nil_append, Nat.sub_self, Nat.reduceSub, Nat.reduceAdd, wipeE, decide_true, decide_false, if_true, if_false, true_and, and_true, Bool.not_true, Bool.not_false, Bool.false_eq_true, ex_frz, ex_draw, ex_fld, ex_meth, ex_make, ex_isC, ex_joinS, ex_orS, ex_joined, ex_js, ex_js0, ex_fmt, ex_part, ex_split, ex_inS, ex_toStr, ex_toIntS, ex_ownT, ex_own, ex_listL, ex_listT, ex_reprT, ex_reprL, ex_reprI, ex_slS, ex_toIntB, ex_toIntI, ex_put, ex_drop, ex_never, isT1, isT2, isT3, isT4, tyI, tyT, tyS, pyI, pyB, pyT0, pyIs, Nat.zero_le, deqv_int, deqv_bl]
  have hnl : 0 < n * l := Nat.mul_pos hn l1
  have bml : m * l < 2 ^ BND := Nat.lt_of_le_of_lt (Nat.mul_le_mul (Nat.le_of_lt hm) (show l ≤ 2 ^ 14 by omega)) hbp
  have bnl : n * l * b < 2 ^ BND := by
    have : n * l * b ≤ 2 ^ 10000 * 2 ^ 28 := by
      rw [Nat.mul_assoc]
      refine Nat.mul_le_mul (Nat.le_of_lt hn2) ?_
      have : l * b ≤ 2 ^ 14 * 2 ^ 14 := Nat.mul_le_mul (by omega) (by omega)
      rw [← Nat.pow_add] at this
      exact this
    omega
  refine ⟨(b, m * l, n * l), rfl, ⟨hb, hnl, bml, bnl⟩, fun d e => ?_⟩
  obtain ⟨ts, rfl, hts⟩ := e
  dsimp only at hts
  simp only [ex_seq, ex_next, ex_if, ex_ret, ex_set, ex_setO, ex_app, ex_aug, ex_var, ex_vw, ex_c, ex_d2, ex_b, ex_onD, ex_onVd, ex_onVo, ex_onO, ex_onB, ex_onS, ex_int, ex_addI, ex_addS, ex_addT, ex_nil, ex_cons, ex_tup, ex_lst, ex_cb, ex_tupleL, ex_tupleT, get_0, get_s, ex_for, ex_nm, ex_gnil, ex_gcons, ex_gtup, ex_gtupL, ex_asg, ex_par, ex_iseq, ex_onSeqT, ex_onSeqL, ex_onSeqS, ex_ienum, ex_irev, ex_onLTt, ex_onLTl, ex_rng1, ex_ifE, ex_and, ex_or, ex_not, ex_andV, ex_orV, ex_notV, ex_ixL, ex_call, ex_callN, ex_rev, ex_revL, ex_cat, ex_rep, ex_sl, ex_slA, ex_slL, ex_nopt, ex_pt, ex_eq, ex_ne, ex_yes, ex_lc, ex_lenT, ex_lenL, ex_lenS, ex_int2, ex_augIx, ex_isT, ex_chain, ex_asg2, ex_neg, List.set, startD, List.replicate, List.map_nil, List.map_cons, List.length_cons, List.length_nil, List.cons_append, List.nil_append, Nat.sub_self, Nat.reduceSub, Nat.reduceAdd, wipeE, decide_true, decide_false, if_true, if_false, true_and, and_true, Bool.not_true, Bool.not_false, Bool.false_eq_true, ex_frz, ex_draw, ex_fld, ex_meth, ex_make, ex_isC, ex_joinS, ex_orS, ex_joined, ex_js, ex_js0, ex_fmt, ex_part, ex_split, ex_inS, ex_toStr, ex_toIntS, ex_ownT, ex_own, ex_listL, ex_listT, ex_reprT, ex_reprL, ex_reprI, ex_slS, ex_toIntB, ex_toIntI, ex_put, ex_drop, ex_never, isT1, isT2, isT3, isT4, tyI, tyT, tyS, pyI, pyB, pyT0, pyIs, Nat.zero_le, deqv_int, deqv_bl]
  obtain ⟨p, e1, e2, e3, e4, e5⟩ := turns_spec hb.1 hnl (rw b (m * l)).reverse 0 hnl (fun d hd => rw_dg hb.1 _ d (List.mem_reverse.mp hd))
  rw [List.reverse_reverse, wt_rw hb.1] at e1
  have ep : p = m * l := by
    have : (p : Int) = ((m * l : Nat) : Int) := by rw [e1]; simp
    exact_mod_cast this
  subst ep
  rw [← hts] at e2 e3 e4 e5
  rw [List.length_map, List.length_reverse] at e5
  have ll := Sm.len hb bml
  refine for_of (α := Int × Nat × Nat) (turnD b) (fun r env => ∃ (done : List (Int × Nat × Nat)) (s8 s9 : Sl), env = [.dat (rwD b m), .dat (row (rw b n)), .dat (.int b), .dat (.int l), .dat (rwD b (m * l)), .dat (rwD b (n * l)), .dat (rwD b (lastRest 0 (done.map (·.2)))), .own (done.map fun x => .int (x.2.1 : Nat)), s8, s9] ∧ done ++ r = ts) ?_ ?_ ts _
    ⟨[], .un, .un, by rw [show rwD b (lastRest 0 (([] : List (Int × Nat × Nat)).map (·.2))) = .tup [] by show rwD b 0 = _; rw [rwD, rw_zero]; rfl]; rfl, rfl⟩
  · rintro ⟨g, q, x⟩ r env K ⟨done, s8, s9, rfl, hr⟩ hK
    unfold turnD
    simp only [ex_seq, ex_next, ex_if, ex_ret, ex_set, ex_setO, ex_app, ex_aug, ex_var, ex_vw, ex_c, ex_d2, ex_b, ex_onD, ex_onVd, ex_onVo, ex_onO, ex_onB, ex_onS, ex_int, ex_addI, ex_addS, ex_addT, ex_nil, ex_cons, ex_tup, ex_lst, ex_cb, ex_tupleL, ex_tupleT, get_0, get_s, ex_for, ex_nm, ex_gnil, ex_gcons, ex_gtup, ex_gtupL, ex_asg, ex_par, ex_iseq, ex_onSeqT, ex_onSeqL, ex_onSeqS, ex_ienum, ex_irev, ex_onLTt, ex_onLTl, ex_rng1, ex_ifE, ex_and, ex_or, ex_not, ex_andV, ex_orV, ex_notV, ex_ixL, ex_call, ex_callN, ex_rev, ex_revL, ex_cat, ex_rep, ex_sl, ex_slA, ex_slL, ex_nopt, ex_pt, ex_eq, ex_ne, ex_yes, ex_lc, ex_lenT, ex_lenL, ex_lenS, ex_int2, ex_augIx, ex_isT, ex_chain, ex_asg2, ex_neg, List.set, startD, List.replicate, List.map_nil, List.map_cons, List.length_cons, List.length_nil, List.cons_append, List.nil_append, Nat.sub_self, Nat.reduceSub, Nat.reduceAdd, wipeE, decide_true, decide_false, if_true, if_false, true_and, and_true, Bool.not_true, Bool.not_false, Bool.false_eq_true, ex_frz, ex_draw, ex_fld, ex_meth, ex_make, ex_isC, ex_joinS, ex_orS, ex_joined, ex_js, ex_js0, ex_fmt, ex_part, ex_split, ex_inS, ex_toStr, ex_toIntS, ex_ownT, ex_own, ex_listL, ex_listT, ex_reprT, ex_reprL, ex_reprI, ex_slS, ex_toIntB, ex_toIntI, ex_put, ex_drop, ex_never, isT1, isT2, isT3, isT4, tyI, tyT, tyS, pyI, pyB, pyT0, pyIs, Nat.zero_le, deqv_int, deqv_bl]
    refine ⟨by
      rw [List.length_map]
      have : done.length ≤ ts.length := by rw [← hr, List.length_append]; omega
      unfold SZ; omega, hK _ ⟨done ++ [(g, q, x)], .dat (.int g), .dat (.int q), ?_, by rw [List.append_assoc]; exact hr⟩⟩
    rw [List.map_append, List.map_append, List.map_cons, List.map_nil, lastRest_snoc]
    rfl
  · rintro env ⟨done, s8, s9, rfl, hr⟩
    rw [List.append_nil] at hr
    subst hr
    simp only [ex_seq, ex_next, ex_if, ex_ret, ex_set, ex_setO, ex_app, ex_aug, ex_var, ex_vw, ex_c, ex_d2, ex_b, ex_onD, ex_onVd, ex_onVo, ex_onO, ex_onB, ex_onS, ex_int, ex_addI, ex_addS, ex_addT, ex_nil, ex_cons, ex_tup, ex_lst, ex_cb, ex_tupleL, ex_tupleT, get_0, get_s, ex_for, ex_nm, ex_gnil, ex_gcons, ex_gtup, ex_gtupL, ex_asg, ex_par, ex_iseq, ex_onSeqT, ex_onSeqL, ex_onSeqS, ex_ienum, ex_irev, ex_onLTt, ex_onLTl, ex_rng1, ex_ifE, ex_and, ex_or, ex_not, ex_andV, ex_orV, ex_notV, ex_ixL, ex_call, ex_callN, ex_rev, ex_revL, ex_cat, ex_rep, ex_sl, ex_slA, ex_slL, ex_nopt, ex_pt, ex_eq, ex_ne, ex_yes, ex_lc, ex_lenT, ex_lenL, ex_lenS, ex_int2, ex_augIx, ex_isT, ex_chain, ex_asg2, ex_neg, List.set, startD, List.replicate, List.map_nil, List.map_cons, List.length_cons, List.length_nil, List.cons_append, List.nil_append, Nat.sub_self, Nat.reduceSub, Nat.reduceAdd, wipeE, decide_true, decide_false, if_true, if_false, true_and, and_true, Bool.not_true, Bool.not_false, Bool.false_eq_true, ex_frz, ex_draw, ex_fld, ex_meth, ex_make, ex_isC, ex_joinS, ex_orS, ex_joined, ex_js, ex_js0, ex_fmt, ex_part, ex_split, ex_inS, ex_toStr, ex_toIntS, ex_ownT, ex_own, ex_listL, ex_listT, ex_reprT, ex_reprL, ex_reprI, ex_slS, ex_toIntB, ex_toIntI, ex_put, ex_drop, ex_never, isT1, isT2, isT3, isT4, tyI, tyT, tyS, pyI, pyB, pyT0, pyIs, Nat.zero_le, deqv_int, deqv_bl]
    have ed : (done.map fun x => D.int ((x.2.1 : Nat) : Int)) = ((done.map (·.2)).map fun x => ((x.1 : Nat) : Int)).map .int := by
      rw [List.map_map, List.map_map]; rfl
    rw [ed, ← List.map_reverse]
    refine ⟨(true, ((done.map (·.2)).map fun x => ((x.1 : Nat) : Int)).reverse), rfl, by show List.length _ ≤ SZ; rw [List.length_reverse, List.length_map, List.length_map, e5]; unfold SZ; omega, fun d e => ?_⟩
    subst e
    have q1 : m * l / (n * l) = m / n := Nat.mul_div_mul_right m n l1
    have q2 : m * l % (n * l) = m % n * l := Nat.mul_mod_mul_right l m n
    rw [strip_eq hb.1 (fun d h => e4 d (List.mem_reverse.mp h)) e2, q1, e3, q2]
    have bm : m % n * l < 2 ^ BND := Nat.lt_of_le_of_lt (Nat.mul_le_mul_right l (Nat.mod_le m n)) bml
    refine ⟨(b, m % n * l, l), rfl, ⟨hb, l1, by show l ≤ 10000; omega, bm⟩, fun d e => ?_⟩
    subst e
    refine ⟨_, rfl, by decide, ?_⟩
    show _ = _
    rw [show (b, m % n * l, l).2.1 / (b, m % n * l, l).2.2 = m % n from Nat.mul_div_cancel _ l1]
    rfl
end MD
end
section
/-! What Longs, texts and the law's own defs promise. -/
namespace MD
open PySem L2
def nS (n : Nat) : Str := toString (n : Int)
def digS (d : Int) : Str := toString d
def rowS (b n : Nat) : Str := if n = 0 then "0" else Txt.join "." ((rw b n).reverse.map digS)
/-- a Long: base, number, below nought -/
def LO (b n : Nat) (s : Bool) : D := .ob "Long" [("row", rwD b n), ("base", .int b), ("below", .bl s)]
def longS (b n : Nat) (s : Bool) : Str := ((((Str.empty ++ (if s then "-" else "")) ++ rowS b n) ++ ":") ++ nS b)
/-- of few limbs -/
def Few (b n : Nat) : Prop := (rw b n).length ≤ 400
def S_limbs_text : FS := ⟨Nat × Nat, fun x => [rwD x.1 x.2], fun x => Bs x.1 ∧ Few x.1 x.2, fun x d => d = .str (rowS x.1 x.2)⟩
def S_Long_init : FI := ⟨Nat × Nat × Bool, fun x => [rwD x.1 x.2.1, .int x.1, .bl x.2.2], fun x => 2 ≤ x.1, fun x => [("row", rwD x.1 x.2.1), ("base", .int x.1), ("below", .bl (x.2.2 && !decide (x.2.1 = 0)))]⟩
def S_Long_eq : FS := ⟨Nat × (Nat × Bool) × (Nat × Bool), fun x => [LO x.1 x.2.1.1 x.2.1.2, LO x.1 x.2.2.1 x.2.2.2], fun x => 2 ≤ x.1, fun x d => d = .bl (decide (x.2.1 = x.2.2))⟩
def S_Long_str : FS := ⟨Nat × Nat × Bool, fun x => [LO x.1 x.2.1 x.2.2], fun x => Bs x.1 ∧ Few x.1 x.2.1, fun x d => d = .str (longS x.1 x.2.1 x.2.2)⟩
def S_Long_repr : FS := ⟨Nat × Nat × Bool, fun x => [LO x.1 x.2.1 x.2.2], fun x => Bs x.1 ∧ Few x.1 x.2.1, fun x d => d = .str (("Long(" ++ longS x.1 x.2.1 x.2.2) ++ ")")⟩
def S_Long_must_be_alike : FS := ⟨Nat × (Nat × Bool) × (Nat × Bool), fun x => [LO x.1 x.2.1.1 x.2.1.2, LO x.1 x.2.2.1 x.2.2.2], fun _ => True, fun _ d => d = .non⟩
/-- the sum of two signed numbers -/
def addS (x y : Nat × Bool) : Nat × Bool :=
  let g := if x.1 < y.1 then y else x
  let l := if x.1 < y.1 then x else y
  let n := if x.2 = y.2 then g.1 + l.1 else g.1 - l.1
  (n, g.2 && !decide (n = 0))
abbrev negS (x : Nat × Bool) : Nat × Bool := (x.1, !x.2 && !decide (x.1 = 0))
def mulS (x y : Nat × Bool) : Nat × Bool := (x.1 * y.1, (x.2 != y.2) && !decide (x.1 * y.1 = 0))
/-- // and % as over gives them -/
def divS (x y : Nat × Bool) : Nat × Bool :=
  let q := if x.2 = true ∧ x.1 % y.1 ≠ 0 then x.1 / y.1 + 1 else x.1 / y.1
  (q, (x.2 != y.2) && !decide (q = 0))
def modS (x y : Nat × Bool) : Nat := if x.2 = true ∧ x.1 % y.1 ≠ 0 then y.1 - x.1 % y.1 else x.1 % y.1
def LOp (b : Nat) (x : Nat × Bool) : D := LO b x.1 x.2
abbrev Two (x : Nat × (Nat × Bool) × (Nat × Bool)) : List D := [LO x.1 x.2.1.1 x.2.1.2, LO x.1 x.2.2.1 x.2.2.2]
def Sm2 (n : Nat) : Prop := n < 2 ^ 10000
abbrev Bd2 (x : Nat × (Nat × Bool) × (Nat × Bool)) : Prop := Bs x.1 ∧ Sm2 x.2.1.1 ∧ Sm2 x.2.2.1
def S_Long_plus : FS := ⟨Nat × (Nat × Bool) × (Nat × Bool), Two, Bd2, fun x d => d = LOp x.1 (addS x.2.1 x.2.2)⟩
def S_Long_minus : FS := ⟨Nat × (Nat × Bool) × (Nat × Bool), Two, Bd2, fun x d => d = LOp x.1 (addS x.2.1 (negS x.2.2))⟩
def S_Long_times : FS := ⟨Nat × (Nat × Bool) × (Nat × Bool), Two, Bd2, fun x d => d = LOp x.1 (mulS x.2.1 x.2.2)⟩
def S_Long_over : FS := ⟨Nat × (Nat × Bool) × (Nat × Bool), Two, fun x => Bd2 x ∧ 0 < x.2.2.1, fun x d => d = .tup [LOp x.1 (divS x.2.1 x.2.2), LO x.1 (modS x.2.1 x.2.2) false]⟩
def S__law_any_base : FS := ⟨Unit, fun _ => [.res 0], fun _ => True, fun _ d => ∃ b : Nat, d = .int b ∧ Bs b⟩
/-- base, most -/
def S__law_row : FS := ⟨Nat × Nat, fun x => [.res 0, .int x.1, .int x.2], fun x => Bs x.1 ∧ x.2 ≤ 100, fun x d => ∃ n : Nat, d = rwD x.1 n ∧ n < x.1 ^ x.2⟩
def S__law_worth : FS := S_worth_of
def S__law_row_of : FS := S_row_of
end MD
end
section
/-! The readings of Longs and of the law's small defs, as gen_der.py prints them. -/
namespace MD
open PySem L2
def T_limbs_text : DTS := (dRet (dOrS (dJoin (dC (.str ".")) (dLc (iSeq (dRev (dVar 0))) (gNm 1) dYes (dCB gToStr (dCons (dVar 1) dNil)) [1])) (dC (.str "0"))))
def gk_Long_1_base_below (vs zs : List D) : List D := (vs ++ (((zs.drop 0).take 1) ++ (((zs.drop 1).take 1) ++ [])))
theorem e_gk_Long_1_base_below (a0 b0 b1 : D) : gk_Long_1_base_below [a0] [b0, b1] = [a0, b0, b1] := rfl
def gk_Long_1_base (vs zs : List D) : List D := (vs ++ (((zs.drop 0).take 1) ++ ([.bl false] ++ [])))
theorem e_gk_Long_1_base (a0 b0 : D) : gk_Long_1_base [a0] [b0] = [a0, b0, .bl false] := rfl
def gk_Long_1_below_base (vs zs : List D) : List D := (vs ++ (((zs.drop 1).take 1) ++ (((zs.drop 0).take 1) ++ [])))
theorem e_gk_Long_1_below_base (a0 b0 b1 : D) : gk_Long_1_below_base [a0] [b0, b1] = [a0, b1, b0] := rfl
def L_Long_init : List (Str × DT) := ("row", (dVar 1)) :: ("base", (dVar 2)) :: ("below", (dAndV (dVar 3) (d2 gNe (dVar 1) (dTup dNil)))) :: []
def T_Long_eq : DTS := (dSeq (dIfS (dNot (dB (dIsC "Long" (dVar 1)))) (dRet (dC (.bl false))) dNext) (dRet (d2 gEq (dTup (dCons (dFld "Long" "row" (dVar 0)) (dCons (dFld "Long" "base" (dVar 0)) (dCons (dFld "Long" "below" (dVar 0)) dNil)))) (dTup (dCons (dFld "Long" "row" (dVar 1)) (dCons (dFld "Long" "base" (dVar 1)) (dCons (dFld "Long" "below" (dVar 1)) dNil)))))))
def T_Long_str : DTS := (dSeq (dSet 1 (dIf (dB (dFld "Long" "below" (dVar 0))) (dC (.str "-")) (dC (.str "")))) (dRet (dJoined [(dFmt (dVar 1)), (dFmt (dCall S_limbs_text [] (dCons (dFld "Long" "row" (dVar 0)) dNil))), (dC (.str ":")), (dFmt (dFld "Long" "base" (dVar 0)))])))
def T_Long_repr : DTS := (dRet (dJoined [(dC (.str "Long(")), (dFmt (dCB (gOwnTxt "Long" S_Long_str) (dCons (dVar 0) dNil))), (dC (.str ")"))]))
def T_Long_must_be_alike : DTS := (dIfS (dB (d2 gNe (dFld "Long" "base" (dVar 0)) (dFld "Long" "base" (dVar 1)))) dNever dNext)
def T_Long_plus : DTS := (dSeq (dDrop (dMeth "Long" "must_be_alike" S_Long_must_be_alike [] (dVar 0) (dCons (dVar 1) dNil))) (dSeq (dPar 2 3 (dVar 0) (dVar 1)) (dSeq (dIfS (dB (dCall S_is_less [] (dCons (dFld "Long" "row" (dVar 0)) (dCons (dFld "Long" "row" (dVar 1)) dNil)))) (dPar 2 3 (dVar 1) (dVar 0)) dNext) (dSeq (dIfS (dB (d2 gEq (dFld "Long" "below" (dVar 0)) (dFld "Long" "below" (dVar 1)))) (dSet 4 (dCallN S_summed gk_summed_2_base 2 1 (dCons (dFld "Long" "row" (dVar 2)) (dCons (dFld "Long" "row" (dVar 3)) dNil)) (dCons (dFld "Long" "base" (dVar 0)) dNil))) (dSet 4 (dCallN S_lessened gk_lessened_2_base 2 1 (dCons (dFld "Long" "row" (dVar 2)) (dCons (dFld "Long" "row" (dVar 3)) dNil)) (dCons (dFld "Long" "base" (dVar 0)) dNil)))) (dRet (dMake "Long" S_Long_init gk_Long_1_base_below 1 2 (dCons (dVar 4) dNil) (dCons (dFld "Long" "base" (dVar 0)) (dCons (dFld "Long" "below" (dVar 2)) dNil))))))))
def T_Long_minus : DTS := (dSeq (dDrop (dMeth "Long" "must_be_alike" S_Long_must_be_alike [] (dVar 0) (dCons (dVar 1) dNil))) (dRet (dMeth "Long" "plus" S_Long_plus [] (dVar 0) (dCons (dMake "Long" S_Long_init gk_Long_1_base_below 1 2 (dCons (dFld "Long" "row" (dVar 1)) dNil) (dCons (dFld "Long" "base" (dVar 1)) (dCons (dNotV (dFld "Long" "below" (dVar 1))) dNil))) dNil))))
def T_Long_times : DTS := (dSeq (dDrop (dMeth "Long" "must_be_alike" S_Long_must_be_alike [] (dVar 0) (dCons (dVar 1) dNil))) (dSeq (dSet 2 (dCallN S_plain_product gk_plain_product_2_base 2 1 (dCons (dFld "Long" "row" (dVar 0)) (dCons (dFld "Long" "row" (dVar 1)) dNil)) (dCons (dFld "Long" "base" (dVar 0)) dNil))) (dRet (dMake "Long" S_Long_init gk_Long_1_base_below 1 2 (dCons (dVar 2) dNil) (dCons (dFld "Long" "base" (dVar 0)) (dCons (d2 gNe (dFld "Long" "below" (dVar 0)) (dFld "Long" "below" (dVar 1))) dNil))))))
def T_Long_over : DTS := (dSeq (dDrop (dMeth "Long" "must_be_alike" S_Long_must_be_alike [] (dVar 0) (dCons (dVar 1) dNil))) (dSeq (dIfS (dB (d2 gEq (dFld "Long" "row" (dVar 1)) (dTup dNil))) dNever dNext) (dSeq (dAsg (dCallN S_divided gk_divided_2_base 2 1 (dCons (dFld "Long" "row" (dVar 0)) (dCons (dFld "Long" "row" (dVar 1)) dNil)) (dCons (dFld "Long" "base" (dVar 0)) dNil)) (gTupD 2 (gCons' (gNm 2) (gCons' (gNm 3) gNil')))) (dSeq (dIfS (dAnd (dB (dFld "Long" "below" (dVar 0))) (dB (d2 gNe (dVar 3) (dTup dNil)))) (dSeq (dSet 2 (dCallN S_summed gk_summed_2_base 2 1 (dCons (dVar 2) (dCons (dTup (dCons (dC (.int 1)) dNil)) dNil)) (dCons (dFld "Long" "base" (dVar 0)) dNil))) (dSet 3 (dCallN S_lessened gk_lessened_2_base 2 1 (dCons (dFld "Long" "row" (dVar 1)) (dCons (dVar 3) dNil)) (dCons (dFld "Long" "base" (dVar 0)) dNil)))) dNext) (dSeq (dSet 4 (d2 gNe (dFld "Long" "below" (dVar 0)) (dFld "Long" "below" (dVar 1)))) (dRet (dTup (dCons (dMake "Long" S_Long_init gk_Long_1_base_below 1 2 (dCons (dVar 2) dNil) (dCons (dFld "Long" "base" (dVar 0)) (dCons (dVar 4) dNil))) (dCons (dMake "Long" S_Long_init gk_Long_1_base 1 1 (dCons (dVar 3) dNil) (dCons (dFld "Long" "base" (dVar 0)) dNil)) dNil)))))))))
def T__law_any_base : DTS := (dSeq (dSet 1 (dDraw (dCons (dVar 0) (dCons (dC (.int 8)) dNil)))) (dSeq (dSet 2 (dLst (dCons (dC (.int 10)) (dCons (dC (.int 2)) (dCons (dC (.int 10000)) (dCons (dC (.int 3)) (dCons (d2 gAdd (dC (.int 2)) (dDraw (dCons (dVar 0) (dCons (dC (.int 8)) dNil)))) (dCons (dC (.int 10)) (dCons (d2 gAdd (dC (.int 2)) (dDraw (dCons (dVar 0) (dCons (dC (.int 9999)) dNil)))) (dCons (dC (.int 9999)) dNil)))))))))) (dRet (dIx (dVar 2) (dVar 1)))))
def T__law_row : DTS := (dSeq (dSet 3 (dDraw (dCons (dVar 0) (dCons (dC (.int 6)) dNil)))) (dSeq (dSet 4 (dDraw (dCons (dVar 0) (dCons (d2 gAdd (dVar 2) (dC (.int 1))) dNil)))) (dSeq (dSetO 5 (dLst dNil)) (dSeq (dFor (iRange1 (dCons (dVar 4) dNil)) (gNm 6) (dSeq (dSet 7 (dDraw (dCons (dVar 0) (dCons (dVar 1) dNil)))) (dApp 5 (dIx (dLst (dCons (dVar 7) (dCons (d2 gSub (dVar 1) (dC (.int 1))) (dCons (dC (.int 0)) (dCons (dIx (dLst (dCons (dC (.int 0)) (dCons (d2 gSub (dVar 1) (dC (.int 1))) dNil))) (d2 gMod (dVar 7) (dC (.int 2)))) (dCons (d2 gMod (dVar 7) (dC (.int 2))) (dCons (dC (.int 0)) dNil))))))) (dVar 3))))) (dSeq (dIfS (dAnd (dB (d2 gGt (dVar 4) (dC (.int 0)))) (dB (d2 gEq (dIx (dVw 5) (dNeg (dC (.int 1)))) (dC (.int 0))))) (dPut 5 (dNeg (dC (.int 1))) (dIx (dLst (dCons (d2 gAdd (dC (.int 1)) (dDraw (dCons (dVar 0) (dCons (d2 gSub (dVar 1) (dC (.int 1))) dNil)))) (dCons (d2 gSub (dVar 1) (dC (.int 1))) (dCons (dC (.int 1)) dNil)))) (dDraw (dCons (dVar 0) (dCons (dC (.int 3)) dNil))))) dNext) (dRet (dCB gTuple (dCons (dVw 5) dNil))))))))
def T__law_worth : DTS := (dSeq (dSet 2 (dC (.int 0))) (dSeq (dFor (iSeq (dRev (dVar 0))) (gNm 3) (dSet 2 (d2 gAdd (d2 gMul (dVar 2) (dVar 1)) (dVar 3)))) (dRet (dVar 2))))
def T__law_row_of : DTS := (dSeq (dSetO 2 (dLst dNil)) (dSeq (dWhile (dB (d2 gGt (dVar 0) (dC (.int 0)))) (dSeq (dApp 2 (d2 gMod (dVar 0) (dVar 1))) (dSet 0 (d2 gFdiv (dVar 0) (dVar 1))))) (dRet (dCB gTuple (dCons (dVw 2) dNil)))))
end MD
end
section
/-! Longs keep their promises. -/
namespace MD
open PySem L2
theorem deqv_rwD {b m n : Nat} (hb : 2 ≤ b) : deqv (rwD b m) (rwD b n) = decide (m = n) := by
  rw [rwD, rwD, row, row, deqv_ints]
  by_cases h : m = n
  · subst h; simp
  · rw [decide_eq_false h, decide_eq_false (fun z => h ((rw_inj hb).mp z))]
theorem pyOk_rwD (b n : Nat) : pyOk (rwD b n) = true := pyOk_ints _
theorem deqv_rw0 {b n : Nat} (hb : 2 ≤ b) : deqv (rwD b n) (.tup []) = decide (n = 0) := by
  have := deqv_rwD (m := n) (n := 0) hb
  rw [show rwD b 0 = .tup [] by rw [rwD, rw_zero]; rfl] at this
  exact this
theorem lk1 {b n : Nat} {s : Bool} : List.lookup ("row" : Str) [("row", rwD b n), ("base", D.int b), ("below", .bl s)] = some (rwD b n) := by rfl
theorem lk2 {b n : Nat} {s : Bool} : List.lookup ("base" : Str) [("row", rwD b n), ("base", D.int b), ("below", .bl s)] = some (.int b) := by rfl
theorem lk3 {b n : Nat} {s : Bool} : List.lookup ("below" : Str) [("row", rwD b n), ("base", D.int b), ("below", .bl s)] = some (.bl s) := by rfl
theorem fR {b n : Nat} {s : Bool} {Q : D → Prop} : (∃ gs v, LO b n s = .ob "Long" gs ∧ gs.lookup ("row" : Str) = some v ∧ Q v) = Q (rwD b n) := propext ⟨fun ⟨gs, v, e, l, q⟩ => by
  cases e; rw [lk1] at l; cases l; exact q, fun q => ⟨_, _, rfl, lk1, q⟩⟩
theorem fB {b n : Nat} {s : Bool} {Q : D → Prop} : (∃ gs v, LO b n s = .ob "Long" gs ∧ gs.lookup ("base" : Str) = some v ∧ Q v) = Q (.int b) := propext ⟨fun ⟨gs, v, e, l, q⟩ => by
  cases e; rw [lk2] at l; cases l; exact q, fun q => ⟨_, _, rfl, lk2, q⟩⟩
theorem fS {b n : Nat} {s : Bool} {Q : D → Prop} : (∃ gs v, LO b n s = .ob "Long" gs ∧ gs.lookup ("below" : Str) = some v ∧ Q v) = Q (.bl s) := propext ⟨fun ⟨gs, v, e, l, q⟩ => by
  cases e; rw [lk3] at l; cases l; exact q, fun q => ⟨_, _, rfl, lk3, q⟩⟩
theorem fC {b n : Nat} {s : Bool} {Q : D → Prop} : (∃ gs, LO b n s = .ob "Long" gs ∧ Q (.bl true)) = Q (.bl true) := propext ⟨fun ⟨gs, e, q⟩ => q, fun q => ⟨_, rfl, q⟩⟩
theorem lkm {b n : Nat} {s : Bool} {m : Str} (h : ("row" : Str) ≠ m) (h2 : ("base" : Str) ≠ m) (h3 : ("below" : Str) ≠ m) : List.lookup m [("row", rwD b n), ("base", D.int b), ("below", D.bl s)] = none := by
  have e1 : (m == ("row" : Str)) = false := beq_eq_false_iff_ne.mpr (Ne.symm h)
  have e2 : (m == ("base" : Str)) = false := beq_eq_false_iff_ne.mpr (Ne.symm h2)
  have e3 : (m == ("below" : Str)) = false := beq_eq_false_iff_ne.mpr (Ne.symm h3)
  rw [List.lookup_cons, e1, List.lookup_cons, e2, List.lookup_cons, e3]
  rfl
theorem pd1 {a : D} : putD ("row" : Str) a [] = [(("row" : Str), a)] := rfl
theorem pd2 {a c : D} : putD ("base" : Str) c [(("row" : Str), a)] = [(("row" : Str), a), (("base" : Str), c)] := by
  unfold putD
  rw [if_neg (by decide)]
  rfl
theorem pd3 {a c d : D} : putD ("below" : Str) d [(("row" : Str), a), (("base" : Str), c)] = [(("row" : Str), a), (("base" : Str), c), (("below" : Str), d)] := by
  unfold putD
  rw [if_neg (by decide)]
  unfold putD
  rw [if_neg (by decide)]
  rfl
theorem ok_Long_init : ∀ a, S_Long_init.pre a → dInit L_Long_init (.un :: startD 3 (S_Long_init.arg a)) [] fun gs => gs = S_Long_init.fs a := by
  rintro ⟨b, n, s⟩ hb
  have hb : 2 ≤ b := hb
  show dInit L_Long_init (.un :: startD 3 [rwD b n, .int b, .bl s]) [] _
  simp only [L_Long_init, dInit, ex_seq, ex_next, ex_if, ex_ret, ex_set, ex_setO, ex_app, ex_aug, ex_var, ex_vw, ex_c, ex_d2, ex_b, ex_onD, ex_onVd, ex_onVo, ex_onO, ex_onB, ex_onS, ex_int, ex_addI, ex_addS, ex_addT, ex_nil, ex_cons, ex_tup, ex_lst, ex_cb, ex_tupleL, ex_tupleT, get_0, get_s, ex_for, ex_nm, ex_gnil, ex_gcons, ex_gtup, ex_gtupL, ex_asg, ex_par, ex_iseq, ex_onSeqT, ex_onSeqL, ex_onSeqS, ex_ienum, ex_irev, ex_onLTt, ex_onLTl, ex_rng1, ex_ifE, ex_and, ex_or, ex_not, ex_andV, ex_orV, ex_notV, ex_ixL, ex_call, ex_callN, ex_rev, ex_revL, ex_cat, ex_rep, ex_sl, ex_slA, ex_slL, ex_nopt, ex_pt, ex_eq, ex_ne, ex_yes, ex_lc, ex_lenT, ex_lenL, ex_lenS, ex_int2, ex_augIx, ex_isT, ex_chain, ex_asg2, ex_neg, List.set, startD, List.replicate, List.map_nil, List.map_cons, List.length_cons, List.length_nil, List.cons_append, List.nil_append, Nat.sub_self, Nat.reduceSub, Nat.reduceAdd, wipeE, decide_true, decide_false, if_true, if_false, true_and, and_true, Bool.not_true, Bool.not_false, Bool.false_eq_true, ex_frz, ex_draw, ex_fld, ex_meth, ex_make, ex_isC, ex_joinS, ex_orS, ex_joined, ex_js, ex_js0, ex_fmt, ex_part, ex_split, ex_inS, ex_toStr, ex_toIntS, ex_ownT, ex_own, ex_listL, ex_listT, ex_reprT, ex_reprL, ex_reprI, ex_slS, ex_toIntB, ex_toIntI, ex_put, ex_drop, ex_never, isT1, isT2, isT3, isT4, tyI, tyT, tyS, pyI, pyB, pyT0, pyIs, Nat.zero_le, deqv_int, deqv_bl, pd1, pd2]
  refine ⟨by decide, by decide, ?_⟩
  cases s with
  | false =>
    simp only [ex_seq, ex_next, ex_if, ex_ret, ex_set, ex_setO, ex_app, ex_aug, ex_var, ex_vw, ex_c, ex_d2, ex_b, ex_onD, ex_onVd, ex_onVo, ex_onO, ex_onB, ex_onS, ex_int, ex_addI, ex_addS, ex_addT, ex_nil, ex_cons, ex_tup, ex_lst, ex_cb, ex_tupleL, ex_tupleT, get_0, get_s, ex_for, ex_nm, ex_gnil, ex_gcons, ex_gtup, ex_gtupL, ex_asg, ex_par, ex_iseq, ex_onSeqT, ex_onSeqL, ex_onSeqS, ex_ienum, ex_irev, ex_onLTt, ex_onLTl, ex_rng1, ex_ifE, ex_and, ex_or, ex_not, ex_andV, ex_orV, ex_notV, ex_ixL, ex_call, ex_callN, ex_rev, ex_revL, ex_cat, ex_rep, ex_sl, ex_slA, ex_slL, ex_nopt, ex_pt, ex_eq, ex_ne, ex_yes, ex_lc, ex_lenT, ex_lenL, ex_lenS, ex_int2, ex_augIx, ex_isT, ex_chain, ex_asg2, ex_neg, List.set, startD, List.replicate, List.map_nil, List.map_cons, List.length_cons, List.length_nil, List.cons_append, List.nil_append, Nat.sub_self, Nat.reduceSub, Nat.reduceAdd, wipeE, decide_true, decide_false, if_true, if_false, true_and, and_true, Bool.not_true, Bool.not_false, Bool.false_eq_true, ex_frz, ex_draw, ex_fld, ex_meth, ex_make, ex_isC, ex_joinS, ex_orS, ex_joined, ex_js, ex_js0, ex_fmt, ex_part, ex_split, ex_inS, ex_toStr, ex_toIntS, ex_ownT, ex_own, ex_listL, ex_listT, ex_reprT, ex_reprL, ex_reprI, ex_slS, ex_toIntB, ex_toIntI, ex_put, ex_drop, ex_never, isT1, isT2, isT3, isT4, tyI, tyT, tyS, pyI, pyB, pyT0, pyIs, Nat.zero_le, deqv_int, deqv_bl, pd3]
    refine ⟨by decide, ?_⟩
    rfl
  | true =>
    simp only [ex_seq, ex_next, ex_if, ex_ret, ex_set, ex_setO, ex_app, ex_aug, ex_var, ex_vw, ex_c, ex_d2, ex_b, ex_onD, ex_onVd, ex_onVo, ex_onO, ex_onB, ex_onS, ex_int, ex_addI, ex_addS, ex_addT, ex_nil, ex_cons, ex_tup, ex_lst, ex_cb, ex_tupleL, ex_tupleT, get_0, get_s, ex_for, ex_nm, ex_gnil, ex_gcons, ex_gtup, ex_gtupL, ex_asg, ex_par, ex_iseq, ex_onSeqT, ex_onSeqL, ex_onSeqS, ex_ienum, ex_irev, ex_onLTt, ex_onLTl, ex_rng1, ex_ifE, ex_and, ex_or, ex_not, ex_andV, ex_orV, ex_notV, ex_ixL, ex_call, ex_callN, ex_rev, ex_revL, ex_cat, ex_rep, ex_sl, ex_slA, ex_slL, ex_nopt, ex_pt, ex_eq, ex_ne, ex_yes, ex_lc, ex_lenT, ex_lenL, ex_lenS, ex_int2, ex_augIx, ex_isT, ex_chain, ex_asg2, ex_neg, List.set, startD, List.replicate, List.map_nil, List.map_cons, List.length_cons, List.length_nil, List.cons_append, List.nil_append, Nat.sub_self, Nat.reduceSub, Nat.reduceAdd, wipeE, decide_true, decide_false, if_true, if_false, true_and, and_true, Bool.not_true, Bool.not_false, Bool.false_eq_true, ex_frz, ex_draw, ex_fld, ex_meth, ex_make, ex_isC, ex_joinS, ex_orS, ex_joined, ex_js, ex_js0, ex_fmt, ex_part, ex_split, ex_inS, ex_toStr, ex_toIntS, ex_ownT, ex_own, ex_listL, ex_listT, ex_reprT, ex_reprL, ex_reprI, ex_slS, ex_toIntB, ex_toIntI, ex_put, ex_drop, ex_never, isT1, isT2, isT3, isT4, tyI, tyT, tyS, pyI, pyB, pyT0, pyIs, Nat.zero_le, deqv_int, deqv_bl, pd3]
    refine ⟨pyOk_rwD _ _, by decide, ?_⟩
    rw [deqv_rw0 hb]
    rfl
theorem ok_Long_must_be_alike : Keeps S_Long_must_be_alike T_Long_must_be_alike 2 := by
  rintro ⟨b, ⟨m, s⟩, ⟨n, t⟩⟩ _
  show T_Long_must_be_alike ⟨_, _, _, _⟩ (startD 2 [LO b m s, LO b n t])
  simp only [T_Long_must_be_alike, ex_seq, ex_next, ex_if, ex_ret, ex_set, ex_setO, ex_app, ex_aug, ex_var, ex_vw, ex_c, ex_d2, ex_b, ex_onD, ex_onVd, ex_onVo, ex_onO, ex_onB, ex_onS, ex_int, ex_addI, ex_addS, ex_addT, ex_nil, ex_cons, ex_tup, ex_lst, ex_cb, ex_tupleL, ex_tupleT, get_0, get_s, ex_for, ex_nm, ex_gnil, ex_gcons, ex_gtup, ex_gtupL, ex_asg, ex_par, ex_iseq, ex_onSeqT, ex_onSeqL, ex_onSeqS, ex_ienum, ex_irev, ex_onLTt, ex_onLTl, ex_rng1, ex_ifE, ex_and, ex_or, ex_not, ex_andV, ex_orV, ex_notV, ex_ixL, ex_call, ex_callN, ex_rev, ex_revL, ex_cat, ex_rep, ex_sl, ex_slA, ex_slL, ex_nopt, ex_pt, ex_eq, ex_ne, ex_yes, ex_lc, ex_lenT, ex_lenL, ex_lenS, ex_int2, ex_augIx, ex_isT, ex_chain, ex_asg2, ex_neg, List.set, startD, List.replicate, List.map_nil, List.map_cons, List.length_cons, List.length_nil, List.cons_append, List.nil_append, Nat.sub_self, Nat.reduceSub, Nat.reduceAdd, wipeE, decide_true, decide_false, if_true, if_false, true_and, and_true, Bool.not_true, Bool.not_false, Bool.false_eq_true, ex_frz, ex_draw, ex_fld, ex_meth, ex_make, ex_isC, ex_joinS, ex_orS, ex_joined, ex_js, ex_js0, ex_fmt, ex_part, ex_split, ex_inS, ex_toStr, ex_toIntS, ex_ownT, ex_own, ex_listL, ex_listT, ex_reprT, ex_reprL, ex_reprI, ex_slS, ex_toIntB, ex_toIntI, ex_put, ex_drop, ex_never, isT1, isT2, isT3, isT4, tyI, tyT, tyS, pyI, pyB, pyT0, pyIs, Nat.zero_le, deqv_int, deqv_bl, fB]
  exact rfl
theorem ok_Long_eq : Keeps S_Long_eq T_Long_eq 2 := by
  rintro ⟨b, ⟨m, s⟩, ⟨n, t⟩⟩ hb
  have hb : 2 ≤ b := hb
  show T_Long_eq ⟨_, S_Long_eq.post (b, (m, s), (n, t)), _, _⟩ (startD 2 [LO b m s, LO b n t])
  simp only [T_Long_eq, ex_seq, ex_next, ex_if, ex_ret, ex_set, ex_setO, ex_app, ex_aug, ex_var, ex_vw, ex_c, ex_d2, ex_b, ex_onD, ex_onVd, ex_onVo, ex_onO, ex_onB, ex_onS, ex_int, ex_addI, ex_addS, ex_addT, ex_nil, ex_cons, ex_tup, ex_lst, ex_cb, ex_tupleL, ex_tupleT, get_0, get_s, ex_for, ex_nm, ex_gnil, ex_gcons, ex_gtup, ex_gtupL, ex_asg, ex_par, ex_iseq, ex_onSeqT, ex_onSeqL, ex_onSeqS, ex_ienum, ex_irev, ex_onLTt, ex_onLTl, ex_rng1, ex_ifE, ex_and, ex_or, ex_not, ex_andV, ex_orV, ex_notV, ex_ixL, ex_call, ex_callN, ex_rev, ex_revL, ex_cat, ex_rep, ex_sl, ex_slA, ex_slL, ex_nopt, ex_pt, ex_eq, ex_ne, ex_yes, ex_lc, ex_lenT, ex_lenL, ex_lenS, ex_int2, ex_augIx, ex_isT, ex_chain, ex_asg2, ex_neg, List.set, startD, List.replicate, List.map_nil, List.map_cons, List.length_cons, List.length_nil, List.cons_append, List.nil_append, Nat.sub_self, Nat.reduceSub, Nat.reduceAdd, wipeE, decide_true, decide_false, if_true, if_false, true_and, and_true, Bool.not_true, Bool.not_false, Bool.false_eq_true, ex_frz, ex_draw, ex_fld, ex_meth, ex_make, ex_isC, ex_joinS, ex_orS, ex_joined, ex_js, ex_js0, ex_fmt, ex_part, ex_split, ex_inS, ex_toStr, ex_toIntS, ex_ownT, ex_own, ex_listL, ex_listT, ex_reprT, ex_reprL, ex_reprI, ex_slS, ex_toIntB, ex_toIntI, ex_put, ex_drop, ex_never, isT1, isT2, isT3, isT4, tyI, tyT, tyS, pyI, pyB, pyT0, pyIs, Nat.zero_le, deqv_int, deqv_bl, fR, fB, fS, fC]
  have pk : ∀ (m : Nat) (s : Bool), pyOk (.tup [rwD b m, .int b, .bl s]) = true := fun m s => by
    unfold pyOk
    rw [Bool.and_eq_true]
    have h1 := pyOk_rwD b m
    unfold pyOk at h1
    rw [Bool.and_eq_true] at h1
    refine ⟨by show (isPy (rwD b m) && _) = true; rw [h1.1]; rfl, ?_⟩
    unfold SeqAt.shaped
    rw [Bool.and_eq_true]
    have c := canLay_ints (rw b m)
    have dp := depth_ints (rw b m)
    refine ⟨by show (PyData.canLayAll0 (toPyL ((rw b m).map D.int)) && _) = true; rw [c]; rfl, ?_⟩
    show decide (max (PyData.depthAll (toPyL ((rw b m).map D.int)) + 1) _ + 1 ≤ 64) = true
    rw [dp]
    rfl
  refine ⟨_, rfl, by decide, by decide, pk _ _, pk _ _, ?_⟩
  show _ = _
  have e : deqv (.tup [rwD b m, .int b, .bl s]) (.tup [rwD b n, .int b, .bl t]) = (deqv (rwD b m) (rwD b n) && (deqv (.int b) (.int b) && (deqv (.bl s) (.bl t) && true))) := rfl
  rw [e, deqv_rwD hb, deqv_int, deqv_bl]
  simp
end MD
end
section
/-! Longs keep their promises (2). -/
namespace MD
open PySem L2
theorem fM {b n : Nat} {s : Bool} {m : Str} {Q : List (Str × D) → Prop} (h : ("row" : Str) ≠ m) (h2 : ("base" : Str) ≠ m) (h3 : ("below" : Str) ≠ m) :
    (∃ gs, LO b n s = .ob "Long" gs ∧ List.lookup m gs = none ∧ Q gs) = Q [("row", rwD b n), ("base", D.int b), ("below", D.bl s)] :=
  propext ⟨fun ⟨gs, e, l, q⟩ => by cases e; exact q, fun q => ⟨_, rfl, lkm h h2 h3, q⟩⟩
theorem mAlike {b m n : Nat} {s t : Bool} {P : Prop} (q : P) : S_Long_must_be_alike.g [LO b m s, LO b n t] fun _ => P := ⟨(b, (m, s), (n, t)), rfl, trivial, fun _ _ => q⟩
theorem mMake {b n : Nat} {s : Bool} {Q : D → Prop} (hb : 2 ≤ b) (q : Q (LO b n (s && !decide (n = 0)))) : ∃ a, [rwD b n, .int b, .bl s] = S_Long_init.arg a ∧ S_Long_init.pre a ∧ Q (.ob "Long" (S_Long_init.fs a)) :=
  ⟨(b, n, s), rfl, hb, q⟩
theorem big2 {m n : Nat} (hm : Sm2 m) (hn : Sm2 n) : m + n < 2 ^ BND := by
  unfold Sm2 at hm hn
  have : (2 : Nat) ^ 10000 * 2 ≤ 2 ^ BND := by rw [← Nat.pow_succ]; exact Nat.pow_le_pow_right (by decide) (by decide)
  omega
theorem big1 {m : Nat} (hm : Sm2 m) : m < 2 ^ BND := Nat.lt_of_lt_of_le hm (Nat.pow_le_pow_right (by decide) (by decide))
theorem addS_1 {m n : Nat} {s t : Bool} (hl : m < n) : addS (m, s) (n, t) = (if t = s then n + m else n - m, t && !decide ((if t = s then n + m else n - m) = 0)) := by
  cases s <;> cases t <;> simp [addS, hl]
theorem addS_2 {m n : Nat} {s t : Bool} (hl : ¬ m < n) : addS (m, s) (n, t) = (if s = t then m + n else m - n, s && !decide ((if s = t then m + n else m - n) = 0)) := by
  cases s <;> cases t <;> simp [addS, hl]
theorem ok_Long_plus : Keeps S_Long_plus T_Long_plus 5 := by
  rintro ⟨b, ⟨m, s⟩, ⟨n, t⟩⟩ ⟨hb, hm, hn⟩
  have hb : Bs b := hb
  have hm : Sm2 m := hm
  have hn : Sm2 n := hn
  show T_Long_plus ⟨_, S_Long_plus.post (b, (m, s), (n, t)), _, _⟩ (startD 5 [LO b m s, LO b n t])
  simp only [T_Long_plus, ex_seq, ex_next, ex_if, ex_ret, ex_set, ex_setO, ex_app, ex_aug, ex_var, ex_vw, ex_c, ex_d2, ex_b, ex_onD, ex_onVd, ex_onVo, ex_onO, ex_onB, ex_onS, ex_int, ex_addI, ex_addS, ex_addT, ex_nil, ex_cons, ex_tup, ex_lst, ex_cb, ex_tupleL, ex_tupleT, get_0, get_s, ex_for, ex_nm, ex_gnil, ex_gcons, ex_gtup, ex_gtupL, ex_asg, ex_par, ex_iseq, ex_onSeqT, ex_onSeqL, ex_onSeqS, ex_ienum, ex_irev, ex_onLTt, ex_onLTl, ex_rng1, ex_ifE, ex_and, ex_or, ex_not, ex_andV, ex_orV, ex_notV, ex_ixL, ex_call, ex_callN, ex_rev, ex_revL, ex_cat, ex_rep, ex_sl, ex_slA, ex_slL, ex_nopt, ex_pt, ex_eq, ex_ne, ex_yes, ex_lc, ex_lenT, ex_lenL, ex_lenS, ex_int2, ex_augIx, ex_isT, ex_chain, ex_asg2, ex_neg, List.set, startD, List.replicate, List.map_nil, List.map_cons, List.length_cons, List.length_nil, List.cons_append, List.nil_append, Nat.sub_self, Nat.reduceSub, Nat.reduceAdd, wipeE, decide_true, decide_false, if_true, if_false, true_and, and_true, Bool.not_true, Bool.not_false, Bool.false_eq_true, ex_frz, ex_draw, ex_fld, ex_meth, ex_make, ex_isC, ex_joinS, ex_orS, ex_joined, ex_js, ex_js0, ex_fmt, ex_part, ex_split, ex_inS, ex_toStr, ex_toIntS, ex_ownT, ex_own, ex_listL, ex_listT, ex_reprT, ex_reprL, ex_reprI, ex_slS, ex_toIntB, ex_toIntI, ex_put, ex_drop, ex_never, isT1, isT2, isT3, isT4, tyI, tyT, tyS, pyI, pyB, pyT0, pyIs, Nat.zero_le, deqv_int, deqv_bl, e_gk_summed_2_base, e_gk_lessened_2_base, e_gk_Long_1_base_below, fR, fB, fS]
  refine ⟨_, rfl, lkm (by decide) (by decide) (by decide), mAlike ?_⟩
  refine ⟨(b, m, n), rfl, hb, fun d e => ?_⟩
  subst e
  have key : ∀ (gm : Nat) (gs : Bool) (lm : Nat) (ls : Bool), lm ≤ gm → gm + lm < 2 ^ BND →
      (LOp b (if gs = ls then gm + lm else gm - lm, gs && !decide ((if gs = ls then gm + lm else gm - lm) = 0)) = LOp b (addS (m, s) (n, t))) → (gs = ls ↔ s = t) →
      (if deqv (.bl s) (.bl t) = true then S_summed.g [rwD b gm, rwD b lm, .int b] fun d => ∃ a, [d, .int b, .bl gs] = S_Long_init.arg a ∧ S_Long_init.pre a ∧ S_Long_plus.post (b, (m, s), n, t) (.ob "Long" (S_Long_init.fs a))
        else S_lessened.g [rwD b gm, rwD b lm, .int b] fun d => ∃ a, [d, .int b, .bl gs] = S_Long_init.arg a ∧ S_Long_init.pre a ∧ S_Long_plus.post (b, (m, s), n, t) (.ob "Long" (S_Long_init.fs a))) := by
    intro gm gs lm ls hle hlt he hst
    rw [deqv_bl]
    by_cases hs : s = t
    · rw [if_pos (hst.mpr hs)] at he
      rw [decide_eq_true hs, if_pos rfl]
      refine ⟨(b, gm, lm), rfl, ⟨hb, hlt⟩, fun d e => ?_⟩
      subst e
      exact mMake hb.1 he
    · rw [if_neg (fun h => hs (hst.mp h))] at he
      rw [decide_eq_false hs, if_neg (by decide)]
      refine ⟨(b, gm, lm), rfl, ⟨hb, hle, Nat.lt_of_le_of_lt (Nat.le_add_right _ _) hlt⟩, fun d e => ?_⟩
      subst e
      exact mMake hb.1 he
  have hsum := big2 hm hn
  by_cases hl : m < n
  · simp only [decide_eq_true hl, ex_seq, ex_next, ex_if, ex_ret, ex_set, ex_setO, ex_app, ex_aug, ex_var, ex_vw, ex_c, ex_d2, ex_b, ex_onD, ex_onVd, ex_onVo, ex_onO, ex_onB, ex_onS, ex_int, ex_addI, ex_addS, ex_addT, ex_nil, ex_cons, ex_tup, ex_lst, ex_cb, ex_tupleL, ex_tupleT, get_0, get_s, ex_for, ex_nm, ex_gnil, ex_gcons, ex_gtup, ex_gtupL, ex_asg, ex_par, ex_iseq, ex_onSeqT, ex_onSeqL, ex_onSeqS, ex_ienum, ex_irev, ex_onLTt, ex_onLTl, ex_rng1, ex_ifE, ex_and, ex_or, ex_not, ex_andV, ex_orV, ex_notV, ex_ixL, ex_call, ex_callN, ex_rev, ex_revL, ex_cat, ex_rep, ex_sl, ex_slA, ex_slL, ex_nopt, ex_pt, ex_eq, ex_ne, ex_yes, ex_lc, ex_lenT, ex_lenL, ex_lenS, ex_int2, ex_augIx, ex_isT, ex_chain, ex_asg2, ex_neg, List.set, startD, List.replicate, List.map_nil, List.map_cons, List.length_cons, List.length_nil, List.cons_append, List.nil_append, Nat.sub_self, Nat.reduceSub, Nat.reduceAdd, wipeE, decide_true, decide_false, if_true, if_false, true_and, and_true, Bool.not_true, Bool.not_false, Bool.false_eq_true, ex_frz, ex_draw, ex_fld, ex_meth, ex_make, ex_isC, ex_joinS, ex_orS, ex_joined, ex_js, ex_js0, ex_fmt, ex_part, ex_split, ex_inS, ex_toStr, ex_toIntS, ex_ownT, ex_own, ex_listL, ex_listT, ex_reprT, ex_reprL, ex_reprI, ex_slS, ex_toIntB, ex_toIntI, ex_put, ex_drop, ex_never, isT1, isT2, isT3, isT4, tyI, tyT, tyS, pyI, pyB, pyT0, pyIs, Nat.zero_le, deqv_int, deqv_bl, fR, fB, fS, e_gk_summed_2_base, e_gk_lessened_2_base, e_gk_Long_1_base_below]
    refine key n t m s (Nat.le_of_lt hl) (Nat.add_comm m n ▸ hsum) ?_ ⟨Eq.symm, Eq.symm⟩
    rw [addS_1 hl]
  · simp only [decide_eq_false hl, ex_seq, ex_next, ex_if, ex_ret, ex_set, ex_setO, ex_app, ex_aug, ex_var, ex_vw, ex_c, ex_d2, ex_b, ex_onD, ex_onVd, ex_onVo, ex_onO, ex_onB, ex_onS, ex_int, ex_addI, ex_addS, ex_addT, ex_nil, ex_cons, ex_tup, ex_lst, ex_cb, ex_tupleL, ex_tupleT, get_0, get_s, ex_for, ex_nm, ex_gnil, ex_gcons, ex_gtup, ex_gtupL, ex_asg, ex_par, ex_iseq, ex_onSeqT, ex_onSeqL, ex_onSeqS, ex_ienum, ex_irev, ex_onLTt, ex_onLTl, ex_rng1, ex_ifE, ex_and, ex_or, ex_not, ex_andV, ex_orV, ex_notV, ex_ixL, ex_call, ex_callN, ex_rev, ex_revL, ex_cat, ex_rep, ex_sl, ex_slA, ex_slL, ex_nopt, ex_pt, ex_eq, ex_ne, ex_yes, ex_lc, ex_lenT, ex_lenL, ex_lenS, ex_int2, ex_augIx, ex_isT, ex_chain, ex_asg2, ex_neg, List.set, startD, List.replicate, List.map_nil, List.map_cons, List.length_cons, List.length_nil, List.cons_append, List.nil_append, Nat.sub_self, Nat.reduceSub, Nat.reduceAdd, wipeE, decide_true, decide_false, if_true, if_false, true_and, and_true, Bool.not_true, Bool.not_false, Bool.false_eq_true, ex_frz, ex_draw, ex_fld, ex_meth, ex_make, ex_isC, ex_joinS, ex_orS, ex_joined, ex_js, ex_js0, ex_fmt, ex_part, ex_split, ex_inS, ex_toStr, ex_toIntS, ex_ownT, ex_own, ex_listL, ex_listT, ex_reprT, ex_reprL, ex_reprI, ex_slS, ex_toIntB, ex_toIntI, ex_put, ex_drop, ex_never, isT1, isT2, isT3, isT4, tyI, tyT, tyS, pyI, pyB, pyT0, pyIs, Nat.zero_le, deqv_int, deqv_bl, fR, fB, fS, e_gk_summed_2_base, e_gk_lessened_2_base, e_gk_Long_1_base_below]
    refine key m s n t (Nat.le_of_not_lt hl) hsum ?_ Iff.rfl
    rw [addS_2 hl]
theorem ok_Long_minus : Keeps S_Long_minus T_Long_minus 2 := by
  rintro ⟨b, ⟨m, s⟩, ⟨n, t⟩⟩ ⟨hb, hm, hn⟩
  have hb : Bs b := hb
  have hm : Sm2 m := hm
  have hn : Sm2 n := hn
  show T_Long_minus ⟨_, S_Long_minus.post (b, (m, s), (n, t)), _, _⟩ (startD 2 [LO b m s, LO b n t])
  simp only [T_Long_minus, ex_seq, ex_next, ex_if, ex_ret, ex_set, ex_setO, ex_app, ex_aug, ex_var, ex_vw, ex_c, ex_d2, ex_b, ex_onD, ex_onVd, ex_onVo, ex_onO, ex_onB, ex_onS, ex_int, ex_addI, ex_addS, ex_addT, ex_nil, ex_cons, ex_tup, ex_lst, ex_cb, ex_tupleL, ex_tupleT, get_0, get_s, ex_for, ex_nm, ex_gnil, ex_gcons, ex_gtup, ex_gtupL, ex_asg, ex_par, ex_iseq, ex_onSeqT, ex_onSeqL, ex_onSeqS, ex_ienum, ex_irev, ex_onLTt, ex_onLTl, ex_rng1, ex_ifE, ex_and, ex_or, ex_not, ex_andV, ex_orV, ex_notV, ex_ixL, ex_call, ex_callN, ex_rev, ex_revL, ex_cat, ex_rep, ex_sl, ex_slA, ex_slL, ex_nopt, ex_pt, ex_eq, ex_ne, ex_yes, ex_lc, ex_lenT, ex_lenL, ex_lenS, ex_int2, ex_augIx, ex_isT, ex_chain, ex_asg2, ex_neg, List.set, startD, List.replicate, List.map_nil, List.map_cons, List.length_cons, List.length_nil, List.cons_append, List.nil_append, Nat.sub_self, Nat.reduceSub, Nat.reduceAdd, wipeE, decide_true, decide_false, if_true, if_false, true_and, and_true, Bool.not_true, Bool.not_false, Bool.false_eq_true, ex_frz, ex_draw, ex_fld, ex_meth, ex_make, ex_isC, ex_joinS, ex_orS, ex_joined, ex_js, ex_js0, ex_fmt, ex_part, ex_split, ex_inS, ex_toStr, ex_toIntS, ex_ownT, ex_own, ex_listL, ex_listT, ex_reprT, ex_reprL, ex_reprI, ex_slS, ex_toIntB, ex_toIntI, ex_put, ex_drop, ex_never, isT1, isT2, isT3, isT4, tyI, tyT, tyS, pyI, pyB, pyT0, pyIs, Nat.zero_le, deqv_int, deqv_bl, e_gk_Long_1_base_below, fR, fB, fS]
  refine ⟨_, rfl, lkm (by decide) (by decide) (by decide), mAlike ?_⟩
  refine ⟨_, rfl, lkm (by decide) (by decide) (by decide), mMake (Q := fun d => S_Long_plus.g [LO b m s, d] _) hb.1 ?_⟩
  exact ⟨(b, (m, s), (n, !t && !decide (n = 0))), rfl, ⟨hb, hm, hn⟩, fun d e => e⟩
theorem mul_big {m n : Nat} (hm : Sm2 m) (hn : Sm2 n) : m * n < 2 ^ BND := by
  have : m * n < 2 ^ 10000 * 2 ^ 10000 := Nat.mul_lt_mul'' hm hn
  rw [← Nat.pow_add] at this
  exact this
theorem ok_Long_times : Keeps S_Long_times T_Long_times 3 := by
  rintro ⟨b, ⟨m, s⟩, ⟨n, t⟩⟩ ⟨hb, hm, hn⟩
  have hb : Bs b := hb
  have hm : Sm2 m := hm
  have hn : Sm2 n := hn
  show T_Long_times ⟨_, S_Long_times.post (b, (m, s), (n, t)), _, _⟩ (startD 3 [LO b m s, LO b n t])
  simp only [T_Long_times, ex_seq, ex_next, ex_if, ex_ret, ex_set, ex_setO, ex_app, ex_aug, ex_var, ex_vw, ex_c, ex_d2, ex_b, ex_onD, ex_onVd, ex_onVo, ex_onO, ex_onB, ex_onS, ex_int, ex_addI, ex_addS, ex_addT, ex_nil, ex_cons, ex_tup, ex_lst, ex_cb, ex_tupleL, ex_tupleT, get_0, get_s, ex_for, ex_nm, ex_gnil, ex_gcons, ex_gtup, ex_gtupL, ex_asg, ex_par, ex_iseq, ex_onSeqT, ex_onSeqL, ex_onSeqS, ex_ienum, ex_irev, ex_onLTt, ex_onLTl, ex_rng1, ex_ifE, ex_and, ex_or, ex_not, ex_andV, ex_orV, ex_notV, ex_ixL, ex_call, ex_callN, ex_rev, ex_revL, ex_cat, ex_rep, ex_sl, ex_slA, ex_slL, ex_nopt, ex_pt, ex_eq, ex_ne, ex_yes, ex_lc, ex_lenT, ex_lenL, ex_lenS, ex_int2, ex_augIx, ex_isT, ex_chain, ex_asg2, ex_neg, List.set, startD, List.replicate, List.map_nil, List.map_cons, List.length_cons, List.length_nil, List.cons_append, List.nil_append, Nat.sub_self, Nat.reduceSub, Nat.reduceAdd, wipeE, decide_true, decide_false, if_true, if_false, true_and, and_true, Bool.not_true, Bool.not_false, Bool.false_eq_true, ex_frz, ex_draw, ex_fld, ex_meth, ex_make, ex_isC, ex_joinS, ex_orS, ex_joined, ex_js, ex_js0, ex_fmt, ex_part, ex_split, ex_inS, ex_toStr, ex_toIntS, ex_ownT, ex_own, ex_listL, ex_listT, ex_reprT, ex_reprL, ex_reprI, ex_slS, ex_toIntB, ex_toIntI, ex_put, ex_drop, ex_never, isT1, isT2, isT3, isT4, tyI, tyT, tyS, pyI, pyB, pyT0, pyIs, Nat.zero_le, deqv_int, deqv_bl, e_gk_plain_product_2_base, e_gk_Long_1_base_below, fR, fB, fS]
  refine ⟨_, rfl, lkm (by decide) (by decide) (by decide), mAlike ?_⟩
  refine ⟨(b, m, n), rfl, ⟨hb, big1 hm, big1 hn⟩, fun d e => ?_⟩
  subst e
  simp only [ex_seq, ex_next, ex_if, ex_ret, ex_set, ex_setO, ex_app, ex_aug, ex_var, ex_vw, ex_c, ex_d2, ex_b, ex_onD, ex_onVd, ex_onVo, ex_onO, ex_onB, ex_onS, ex_int, ex_addI, ex_addS, ex_addT, ex_nil, ex_cons, ex_tup, ex_lst, ex_cb, ex_tupleL, ex_tupleT, get_0, get_s, ex_for, ex_nm, ex_gnil, ex_gcons, ex_gtup, ex_gtupL, ex_asg, ex_par, ex_iseq, ex_onSeqT, ex_onSeqL, ex_onSeqS, ex_ienum, ex_irev, ex_onLTt, ex_onLTl, ex_rng1, ex_ifE, ex_and, ex_or, ex_not, ex_andV, ex_orV, ex_notV, ex_ixL, ex_call, ex_callN, ex_rev, ex_revL, ex_cat, ex_rep, ex_sl, ex_slA, ex_slL, ex_nopt, ex_pt, ex_eq, ex_ne, ex_yes, ex_lc, ex_lenT, ex_lenL, ex_lenS, ex_int2, ex_augIx, ex_isT, ex_chain, ex_asg2, ex_neg, List.set, startD, List.replicate, List.map_nil, List.map_cons, List.length_cons, List.length_nil, List.cons_append, List.nil_append, Nat.sub_self, Nat.reduceSub, Nat.reduceAdd, wipeE, decide_true, decide_false, if_true, if_false, true_and, and_true, Bool.not_true, Bool.not_false, Bool.false_eq_true, ex_frz, ex_draw, ex_fld, ex_meth, ex_make, ex_isC, ex_joinS, ex_orS, ex_joined, ex_js, ex_js0, ex_fmt, ex_part, ex_split, ex_inS, ex_toStr, ex_toIntS, ex_ownT, ex_own, ex_listL, ex_listT, ex_reprT, ex_reprL, ex_reprI, ex_slS, ex_toIntB, ex_toIntI, ex_put, ex_drop, ex_never, isT1, isT2, isT3, isT4, tyI, tyT, tyS, pyI, pyB, pyT0, pyIs, Nat.zero_le, deqv_int, deqv_bl]
  refine mMake hb.1 ?_
  show _ = LOp b (mulS (m, s) (n, t))
  unfold mulS
  cases s <;> cases t <;> rfl
theorem two_SZ {x y : D} : [x, y].length ≤ SZ := by show 2 ≤ SZ; decide
theorem one_SZ {x : D} : [x].length ≤ SZ := by show 1 ≤ SZ; decide
theorem sm1 : Sm2 1 := Nat.one_lt_two_pow (n := 10000) (by decide)
end MD
end
section
/-! Longs keep their promises (3). -/
namespace MD
open PySem L2
theorem over_fin {b m n : Nat} {s t : Bool} (hb : 2 ≤ b) : ∀ q r : Nat, q = (divS (m, s) (n, t)).1 → r = modS (m, s) (n, t) →
      (∃ a, [rwD b q, .int b, .bl (s != t)] = S_Long_init.arg a ∧ S_Long_init.pre a ∧ ∃ a', [rwD b r, .int b, .bl false] = S_Long_init.arg a' ∧ S_Long_init.pre a' ∧ [D.ob "Long" (S_Long_init.fs a), .ob "Long" (S_Long_init.fs a')].length ≤ SZ ∧ S_Long_over.post (b, (m, s), n, t) (.tup [D.ob "Long" (S_Long_init.fs a), .ob "Long" (S_Long_init.fs a')])) := by
  rintro q r rfl rfl
  exact ⟨(b, _, s != t), rfl, hb, (b, _, false), rfl, hb, two_SZ, rfl⟩
theorem div_a {m n : Nat} {t : Bool} : m / n = (divS (m, false) (n, t)).1 ∧ m % n = modS (m, false) (n, t) := by unfold divS modS; simp
theorem div_b {m n : Nat} {t : Bool} (hr : m % n = 0) : m / n = (divS (m, true) (n, t)).1 ∧ m % n = modS (m, true) (n, t) := by unfold divS modS; simp [hr]
theorem div_c {m n : Nat} {t : Bool} (hr : ¬ m % n = 0) : m / n + 1 = (divS (m, true) (n, t)).1 ∧ n - m % n = modS (m, true) (n, t) := by unfold divS modS; simp [hr]
theorem ne_a {t : Bool} : (!decide (false = t)) = (false != t) := by cases t <;> rfl
theorem ne_b {t : Bool} : (!decide (true = t)) = (true != t) := by cases t <;> rfl
theorem ok_Long_over : Keeps S_Long_over T_Long_over 5 := by
  rintro ⟨b, ⟨m, s⟩, ⟨n, t⟩⟩ ⟨⟨hb, hm, hn⟩, hn0⟩
  have hb : Bs b := hb
  have hm : Sm2 m := hm
  have hn : Sm2 n := hn
  have hn0 : 0 < n := hn0
  show T_Long_over ⟨_, S_Long_over.post (b, (m, s), (n, t)), _, _⟩ (startD 5 [LO b m s, LO b n t])
  simp only [T_Long_over, ex_seq, ex_next, ex_if, ex_ret, ex_set, ex_setO, ex_app, ex_aug, ex_var, ex_vw, ex_c, ex_d2, ex_b, ex_onD, ex_onVd, ex_onVo, ex_onO, ex_onB, ex_onS, ex_int, ex_addI, ex_addS, ex_addT, ex_nil, ex_cons, ex_tup, ex_lst, ex_cb, ex_tupleL, ex_tupleT, get_0, get_s, ex_for, ex_nm, ex_gnil, ex_gcons, ex_gtup, ex_gtupL, ex_asg, ex_par, ex_iseq, ex_onSeqT, ex_onSeqL, ex_onSeqS, ex_ienum, ex_irev, ex_onLTt, ex_onLTl, ex_rng1, ex_ifE, ex_and, ex_or, ex_not, ex_andV, ex_orV, ex_notV, ex_ixL, ex_call, ex_callN, ex_rev, ex_revL, ex_cat, ex_rep, ex_sl, ex_slA, ex_slL, ex_nopt, ex_pt, ex_eq, ex_ne, ex_yes, ex_lc, ex_lenT, ex_lenL, ex_lenS, ex_int2, ex_augIx, ex_isT, ex_chain, ex_asg2, ex_neg, List.set, startD, List.replicate, List.map_nil, List.map_cons, List.length_cons, List.length_nil, List.cons_append, List.nil_append, Nat.sub_self, Nat.reduceSub, Nat.reduceAdd, wipeE, decide_true, decide_false, if_true, if_false, true_and, and_true, Bool.not_true, Bool.not_false, Bool.false_eq_true, ex_frz, ex_draw, ex_fld, ex_meth, ex_make, ex_isC, ex_joinS, ex_orS, ex_joined, ex_js, ex_js0, ex_fmt, ex_part, ex_split, ex_inS, ex_toStr, ex_toIntS, ex_ownT, ex_own, ex_listL, ex_listT, ex_reprT, ex_reprL, ex_reprI, ex_slS, ex_toIntB, ex_toIntI, ex_put, ex_drop, ex_never, isT1, isT2, isT3, isT4, tyI, tyT, tyS, pyI, pyB, pyT0, pyIs, Nat.zero_le, deqv_int, deqv_bl, e_gk_divided_2_base, e_gk_summed_2_base, e_gk_lessened_2_base, e_gk_Long_1_base_below, e_gk_Long_1_base, fR, fB, fS]
  refine ⟨_, rfl, lkm (by decide) (by decide) (by decide), mAlike ⟨pyOk_rwD _ _, ?_⟩⟩
  rw [deqv_rw0 hb.1, decide_eq_false (Nat.ne_of_gt hn0), if_neg (by decide)]
  refine ⟨(b, m, n), rfl, ⟨hb, hn0, hm, hn⟩, fun d e => ?_⟩
  subst e
  rw [ex_gtup]
  refine ⟨rfl, ?_⟩
  rw [ex_gcons, ex_nm, ex_gcons, ex_nm, ex_gnil]
  have hqm : Sm2 (m / n) := Nat.lt_of_le_of_lt (Nat.div_le_self _ _) hm
  have hrn : m % n < n := Nat.mod_lt _ hn0
  have bq : (!deqv (.bl s) (.bl t)) = (s != t) := by rw [deqv_bl]; cases s <;> cases t <;> rfl
  cases s with
  | false =>
    simp only [ex_seq, ex_next, ex_if, ex_ret, ex_set, ex_setO, ex_app, ex_aug, ex_var, ex_vw, ex_c, ex_d2, ex_b, ex_onD, ex_onVd, ex_onVo, ex_onO, ex_onB, ex_onS, ex_int, ex_addI, ex_addS, ex_addT, ex_nil, ex_cons, ex_tup, ex_lst, ex_cb, ex_tupleL, ex_tupleT, get_0, get_s, ex_for, ex_nm, ex_gnil, ex_gcons, ex_gtup, ex_gtupL, ex_asg, ex_par, ex_iseq, ex_onSeqT, ex_onSeqL, ex_onSeqS, ex_ienum, ex_irev, ex_onLTt, ex_onLTl, ex_rng1, ex_ifE, ex_and, ex_or, ex_not, ex_andV, ex_orV, ex_notV, ex_ixL, ex_call, ex_callN, ex_rev, ex_revL, ex_cat, ex_rep, ex_sl, ex_slA, ex_slL, ex_nopt, ex_pt, ex_eq, ex_ne, ex_yes, ex_lc, ex_lenT, ex_lenL, ex_lenS, ex_int2, ex_augIx, ex_isT, ex_chain, ex_asg2, ex_neg, List.set, startD, List.replicate, List.map_nil, List.map_cons, List.length_cons, List.length_nil, List.cons_append, List.nil_append, Nat.sub_self, Nat.reduceSub, Nat.reduceAdd, wipeE, decide_true, decide_false, if_true, if_false, true_and, and_true, Bool.not_true, Bool.not_false, Bool.false_eq_true, ex_frz, ex_draw, ex_fld, ex_meth, ex_make, ex_isC, ex_joinS, ex_orS, ex_joined, ex_js, ex_js0, ex_fmt, ex_part, ex_split, ex_inS, ex_toStr, ex_toIntS, ex_ownT, ex_own, ex_listL, ex_listT, ex_reprT, ex_reprL, ex_reprI, ex_slS, ex_toIntB, ex_toIntI, ex_put, ex_drop, ex_never, isT1, isT2, isT3, isT4, tyI, tyT, tyS, pyI, pyB, pyT0, pyIs, Nat.zero_le, deqv_int, deqv_bl, fR, fB, fS, e_gk_Long_1_base_below, e_gk_Long_1_base]
    have := over_fin (b := b) hb.1 _ _ (div_a (m := m) (n := n) (t := t)).1 (div_a (m := m) (n := n) (t := t)).2
    rw [ne_a]
    simp only [ex_seq, ex_next, ex_if, ex_ret, ex_set, ex_setO, ex_app, ex_aug, ex_var, ex_vw, ex_c, ex_d2, ex_b, ex_onD, ex_onVd, ex_onVo, ex_onO, ex_onB, ex_onS, ex_int, ex_addI, ex_addS, ex_addT, ex_nil, ex_cons, ex_tup, ex_lst, ex_cb, ex_tupleL, ex_tupleT, get_0, get_s, ex_for, ex_nm, ex_gnil, ex_gcons, ex_gtup, ex_gtupL, ex_asg, ex_par, ex_iseq, ex_onSeqT, ex_onSeqL, ex_onSeqS, ex_ienum, ex_irev, ex_onLTt, ex_onLTl, ex_rng1, ex_ifE, ex_and, ex_or, ex_not, ex_andV, ex_orV, ex_notV, ex_ixL, ex_call, ex_callN, ex_rev, ex_revL, ex_cat, ex_rep, ex_sl, ex_slA, ex_slL, ex_nopt, ex_pt, ex_eq, ex_ne, ex_yes, ex_lc, ex_lenT, ex_lenL, ex_lenS, ex_int2, ex_augIx, ex_isT, ex_chain, ex_asg2, ex_neg, List.set, startD, List.replicate, List.map_nil, List.map_cons, List.length_cons, List.length_nil, List.cons_append, List.nil_append, Nat.sub_self, Nat.reduceSub, Nat.reduceAdd, wipeE, decide_true, decide_false, if_true, if_false, true_and, and_true, Bool.not_true, Bool.not_false, Bool.false_eq_true, ex_frz, ex_draw, ex_fld, ex_meth, ex_make, ex_isC, ex_joinS, ex_orS, ex_joined, ex_js, ex_js0, ex_fmt, ex_part, ex_split, ex_inS, ex_toStr, ex_toIntS, ex_ownT, ex_own, ex_listL, ex_listT, ex_reprT, ex_reprL, ex_reprI, ex_slS, ex_toIntB, ex_toIntI, ex_put, ex_drop, ex_never, isT1, isT2, isT3, isT4, tyI, tyT, tyS, pyI, pyB, pyT0, pyIs, Nat.zero_le, deqv_int, deqv_bl] at this
    exact this
  | true =>
    simp only [ex_seq, ex_next, ex_if, ex_ret, ex_set, ex_setO, ex_app, ex_aug, ex_var, ex_vw, ex_c, ex_d2, ex_b, ex_onD, ex_onVd, ex_onVo, ex_onO, ex_onB, ex_onS, ex_int, ex_addI, ex_addS, ex_addT, ex_nil, ex_cons, ex_tup, ex_lst, ex_cb, ex_tupleL, ex_tupleT, get_0, get_s, ex_for, ex_nm, ex_gnil, ex_gcons, ex_gtup, ex_gtupL, ex_asg, ex_par, ex_iseq, ex_onSeqT, ex_onSeqL, ex_onSeqS, ex_ienum, ex_irev, ex_onLTt, ex_onLTl, ex_rng1, ex_ifE, ex_and, ex_or, ex_not, ex_andV, ex_orV, ex_notV, ex_ixL, ex_call, ex_callN, ex_rev, ex_revL, ex_cat, ex_rep, ex_sl, ex_slA, ex_slL, ex_nopt, ex_pt, ex_eq, ex_ne, ex_yes, ex_lc, ex_lenT, ex_lenL, ex_lenS, ex_int2, ex_augIx, ex_isT, ex_chain, ex_asg2, ex_neg, List.set, startD, List.replicate, List.map_nil, List.map_cons, List.length_cons, List.length_nil, List.cons_append, List.nil_append, Nat.sub_self, Nat.reduceSub, Nat.reduceAdd, wipeE, decide_true, decide_false, if_true, if_false, true_and, and_true, Bool.not_true, Bool.not_false, Bool.false_eq_true, ex_frz, ex_draw, ex_fld, ex_meth, ex_make, ex_isC, ex_joinS, ex_orS, ex_joined, ex_js, ex_js0, ex_fmt, ex_part, ex_split, ex_inS, ex_toStr, ex_toIntS, ex_ownT, ex_own, ex_listL, ex_listT, ex_reprT, ex_reprL, ex_reprI, ex_slS, ex_toIntB, ex_toIntI, ex_put, ex_drop, ex_never, isT1, isT2, isT3, isT4, tyI, tyT, tyS, pyI, pyB, pyT0, pyIs, Nat.zero_le, deqv_int, deqv_bl, fR, fB, fS]
    refine ⟨pyOk_rwD _ _, ?_⟩
    rw [deqv_rw0 hb.1]
    by_cases hr : m % n = 0
    · rw [decide_eq_true hr]
      simp only [ex_seq, ex_next, ex_if, ex_ret, ex_set, ex_setO, ex_app, ex_aug, ex_var, ex_vw, ex_c, ex_d2, ex_b, ex_onD, ex_onVd, ex_onVo, ex_onO, ex_onB, ex_onS, ex_int, ex_addI, ex_addS, ex_addT, ex_nil, ex_cons, ex_tup, ex_lst, ex_cb, ex_tupleL, ex_tupleT, get_0, get_s, ex_for, ex_nm, ex_gnil, ex_gcons, ex_gtup, ex_gtupL, ex_asg, ex_par, ex_iseq, ex_onSeqT, ex_onSeqL, ex_onSeqS, ex_ienum, ex_irev, ex_onLTt, ex_onLTl, ex_rng1, ex_ifE, ex_and, ex_or, ex_not, ex_andV, ex_orV, ex_notV, ex_ixL, ex_call, ex_callN, ex_rev, ex_revL, ex_cat, ex_rep, ex_sl, ex_slA, ex_slL, ex_nopt, ex_pt, ex_eq, ex_ne, ex_yes, ex_lc, ex_lenT, ex_lenL, ex_lenS, ex_int2, ex_augIx, ex_isT, ex_chain, ex_asg2, ex_neg, List.set, startD, List.replicate, List.map_nil, List.map_cons, List.length_cons, List.length_nil, List.cons_append, List.nil_append, Nat.sub_self, Nat.reduceSub, Nat.reduceAdd, wipeE, decide_true, decide_false, if_true, if_false, true_and, and_true, Bool.not_true, Bool.not_false, Bool.false_eq_true, ex_frz, ex_draw, ex_fld, ex_meth, ex_make, ex_isC, ex_joinS, ex_orS, ex_joined, ex_js, ex_js0, ex_fmt, ex_part, ex_split, ex_inS, ex_toStr, ex_toIntS, ex_ownT, ex_own, ex_listL, ex_listT, ex_reprT, ex_reprL, ex_reprI, ex_slS, ex_toIntB, ex_toIntI, ex_put, ex_drop, ex_never, isT1, isT2, isT3, isT4, tyI, tyT, tyS, pyI, pyB, pyT0, pyIs, Nat.zero_le, deqv_int, deqv_bl, fR, fB, fS, e_gk_Long_1_base_below, e_gk_Long_1_base]
      have := over_fin (b := b) hb.1 _ _ (div_b (t := t) hr).1 (div_b (t := t) hr).2
      rw [ne_b]
      simp only [ex_seq, ex_next, ex_if, ex_ret, ex_set, ex_setO, ex_app, ex_aug, ex_var, ex_vw, ex_c, ex_d2, ex_b, ex_onD, ex_onVd, ex_onVo, ex_onO, ex_onB, ex_onS, ex_int, ex_addI, ex_addS, ex_addT, ex_nil, ex_cons, ex_tup, ex_lst, ex_cb, ex_tupleL, ex_tupleT, get_0, get_s, ex_for, ex_nm, ex_gnil, ex_gcons, ex_gtup, ex_gtupL, ex_asg, ex_par, ex_iseq, ex_onSeqT, ex_onSeqL, ex_onSeqS, ex_ienum, ex_irev, ex_onLTt, ex_onLTl, ex_rng1, ex_ifE, ex_and, ex_or, ex_not, ex_andV, ex_orV, ex_notV, ex_ixL, ex_call, ex_callN, ex_rev, ex_revL, ex_cat, ex_rep, ex_sl, ex_slA, ex_slL, ex_nopt, ex_pt, ex_eq, ex_ne, ex_yes, ex_lc, ex_lenT, ex_lenL, ex_lenS, ex_int2, ex_augIx, ex_isT, ex_chain, ex_asg2, ex_neg, List.set, startD, List.replicate, List.map_nil, List.map_cons, List.length_cons, List.length_nil, List.cons_append, List.nil_append, Nat.sub_self, Nat.reduceSub, Nat.reduceAdd, wipeE, decide_true, decide_false, if_true, if_false, true_and, and_true, Bool.not_true, Bool.not_false, Bool.false_eq_true, ex_frz, ex_draw, ex_fld, ex_meth, ex_make, ex_isC, ex_joinS, ex_orS, ex_joined, ex_js, ex_js0, ex_fmt, ex_part, ex_split, ex_inS, ex_toStr, ex_toIntS, ex_ownT, ex_own, ex_listL, ex_listT, ex_reprT, ex_reprL, ex_reprI, ex_slS, ex_toIntB, ex_toIntI, ex_put, ex_drop, ex_never, isT1, isT2, isT3, isT4, tyI, tyT, tyS, pyI, pyB, pyT0, pyIs, Nat.zero_le, deqv_int, deqv_bl] at this
      exact this
    · rw [decide_eq_false hr]
      simp only [ex_seq, ex_next, ex_if, ex_ret, ex_set, ex_setO, ex_app, ex_aug, ex_var, ex_vw, ex_c, ex_d2, ex_b, ex_onD, ex_onVd, ex_onVo, ex_onO, ex_onB, ex_onS, ex_int, ex_addI, ex_addS, ex_addT, ex_nil, ex_cons, ex_tup, ex_lst, ex_cb, ex_tupleL, ex_tupleT, get_0, get_s, ex_for, ex_nm, ex_gnil, ex_gcons, ex_gtup, ex_gtupL, ex_asg, ex_par, ex_iseq, ex_onSeqT, ex_onSeqL, ex_onSeqS, ex_ienum, ex_irev, ex_onLTt, ex_onLTl, ex_rng1, ex_ifE, ex_and, ex_or, ex_not, ex_andV, ex_orV, ex_notV, ex_ixL, ex_call, ex_callN, ex_rev, ex_revL, ex_cat, ex_rep, ex_sl, ex_slA, ex_slL, ex_nopt, ex_pt, ex_eq, ex_ne, ex_yes, ex_lc, ex_lenT, ex_lenL, ex_lenS, ex_int2, ex_augIx, ex_isT, ex_chain, ex_asg2, ex_neg, List.set, startD, List.replicate, List.map_nil, List.map_cons, List.length_cons, List.length_nil, List.cons_append, List.nil_append, Nat.sub_self, Nat.reduceSub, Nat.reduceAdd, wipeE, decide_true, decide_false, if_true, if_false, true_and, and_true, Bool.not_true, Bool.not_false, Bool.false_eq_true, ex_frz, ex_draw, ex_fld, ex_meth, ex_make, ex_isC, ex_joinS, ex_orS, ex_joined, ex_js, ex_js0, ex_fmt, ex_part, ex_split, ex_inS, ex_toStr, ex_toIntS, ex_ownT, ex_own, ex_listL, ex_listT, ex_reprT, ex_reprL, ex_reprI, ex_slS, ex_toIntB, ex_toIntI, ex_put, ex_drop, ex_never, isT1, isT2, isT3, isT4, tyI, tyT, tyS, pyI, pyB, pyT0, pyIs, Nat.zero_le, deqv_int, deqv_bl, fR, fB, fS, e_gk_Long_1_base_below, e_gk_Long_1_base, e_gk_summed_2_base, e_gk_lessened_2_base]
      refine ⟨by decide, (b, m / n, 1), ?_, ⟨hb, big2 hqm sm1⟩, fun d e => ?_⟩
      · show [rwD b (m / n), .tup [.int 1], .int b] = [rwD b (m / n), rwD b 1, .int b]
        rw [rwD, rwD, rw_one hb.1]
        rfl
      subst e
      refine ⟨(b, n, m % n), rfl, ⟨hb, Nat.le_of_lt hrn, big1 hn⟩, fun d e => ?_⟩
      subst e
      simp only [ex_seq, ex_next, ex_if, ex_ret, ex_set, ex_setO, ex_app, ex_aug, ex_var, ex_vw, ex_c, ex_d2, ex_b, ex_onD, ex_onVd, ex_onVo, ex_onO, ex_onB, ex_onS, ex_int, ex_addI, ex_addS, ex_addT, ex_nil, ex_cons, ex_tup, ex_lst, ex_cb, ex_tupleL, ex_tupleT, get_0, get_s, ex_for, ex_nm, ex_gnil, ex_gcons, ex_gtup, ex_gtupL, ex_asg, ex_par, ex_iseq, ex_onSeqT, ex_onSeqL, ex_onSeqS, ex_ienum, ex_irev, ex_onLTt, ex_onLTl, ex_rng1, ex_ifE, ex_and, ex_or, ex_not, ex_andV, ex_orV, ex_notV, ex_ixL, ex_call, ex_callN, ex_rev, ex_revL, ex_cat, ex_rep, ex_sl, ex_slA, ex_slL, ex_nopt, ex_pt, ex_eq, ex_ne, ex_yes, ex_lc, ex_lenT, ex_lenL, ex_lenS, ex_int2, ex_augIx, ex_isT, ex_chain, ex_asg2, ex_neg, List.set, startD, List.replicate, List.map_nil, List.map_cons, List.length_cons, List.length_nil, List.cons_append, List.nil_append, Nat.sub_self, Nat.reduceSub, Nat.reduceAdd, wipeE, decide_true, decide_false, if_true, if_false, true_and, and_true, Bool.not_true, Bool.not_false, Bool.false_eq_true, ex_frz, ex_draw, ex_fld, ex_meth, ex_make, ex_isC, ex_joinS, ex_orS, ex_joined, ex_js, ex_js0, ex_fmt, ex_part, ex_split, ex_inS, ex_toStr, ex_toIntS, ex_ownT, ex_own, ex_listL, ex_listT, ex_reprT, ex_reprL, ex_reprI, ex_slS, ex_toIntB, ex_toIntI, ex_put, ex_drop, ex_never, isT1, isT2, isT3, isT4, tyI, tyT, tyS, pyI, pyB, pyT0, pyIs, Nat.zero_le, deqv_int, deqv_bl, fR, fB, fS, e_gk_Long_1_base_below, e_gk_Long_1_base]
      have := over_fin (b := b) hb.1 _ _ (div_c (t := t) hr).1 (div_c (t := t) hr).2
      rw [ne_b]
      simp only [ex_seq, ex_next, ex_if, ex_ret, ex_set, ex_setO, ex_app, ex_aug, ex_var, ex_vw, ex_c, ex_d2, ex_b, ex_onD, ex_onVd, ex_onVo, ex_onO, ex_onB, ex_onS, ex_int, ex_addI, ex_addS, ex_addT, ex_nil, ex_cons, ex_tup, ex_lst, ex_cb, ex_tupleL, ex_tupleT, get_0, get_s, ex_for, ex_nm, ex_gnil, ex_gcons, ex_gtup, ex_gtupL, ex_asg, ex_par, ex_iseq, ex_onSeqT, ex_onSeqL, ex_onSeqS, ex_ienum, ex_irev, ex_onLTt, ex_onLTl, ex_rng1, ex_ifE, ex_and, ex_or, ex_not, ex_andV, ex_orV, ex_notV, ex_ixL, ex_call, ex_callN, ex_rev, ex_revL, ex_cat, ex_rep, ex_sl, ex_slA, ex_slL, ex_nopt, ex_pt, ex_eq, ex_ne, ex_yes, ex_lc, ex_lenT, ex_lenL, ex_lenS, ex_int2, ex_augIx, ex_isT, ex_chain, ex_asg2, ex_neg, List.set, startD, List.replicate, List.map_nil, List.map_cons, List.length_cons, List.length_nil, List.cons_append, List.nil_append, Nat.sub_self, Nat.reduceSub, Nat.reduceAdd, wipeE, decide_true, decide_false, if_true, if_false, true_and, and_true, Bool.not_true, Bool.not_false, Bool.false_eq_true, ex_frz, ex_draw, ex_fld, ex_meth, ex_make, ex_isC, ex_joinS, ex_orS, ex_joined, ex_js, ex_js0, ex_fmt, ex_part, ex_split, ex_inS, ex_toStr, ex_toIntS, ex_ownT, ex_own, ex_listL, ex_listT, ex_reprT, ex_reprL, ex_reprI, ex_slS, ex_toIntB, ex_toIntI, ex_put, ex_drop, ex_never, isT1, isT2, isT3, isT4, tyI, tyT, tyS, pyI, pyB, pyT0, pyIs, Nat.zero_le, deqv_int, deqv_bl] at this
      exact this
end MD
end
section
/-! The law's small defs keep their promises. -/
namespace MD
open PySem L2
theorem ok__law_worth : Keeps S__law_worth T__law_worth 4 := ok_worth_of
theorem ok__law_row_of : Keeps S__law_row_of T__law_row_of 3 := ok_row_of
theorem ok__law_any_base : Keeps S__law_any_base T__law_any_base 3 := by
  intro _ _
  show T__law_any_base ⟨_, S__law_any_base.post (), _, _⟩ (startD 3 [.res 0])
  simp only [T__law_any_base, ex_seq, ex_next, ex_if, ex_ret, ex_set, ex_setO, ex_app, ex_aug, ex_var, ex_vw, ex_c, ex_d2, ex_b, ex_onD, ex_onVd, ex_onVo, ex_onO, ex_onB, ex_onS, ex_int, ex_addI, ex_addS, ex_addT, ex_nil, ex_cons, ex_tup, ex_lst, ex_cb, ex_tupleL, ex_tupleT, get_0, get_s, ex_for, ex_nm, ex_gnil, ex_gcons, ex_gtup, ex_gtupL, ex_asg, ex_par, ex_iseq, ex_onSeqT, ex_onSeqL, ex_onSeqS, ex_ienum, ex_irev, ex_onLTt, ex_onLTl, ex_rng1, ex_ifE, ex_and, ex_or, ex_not, ex_andV, ex_orV, ex_notV, ex_ixL, ex_call, ex_callN, ex_rev, ex_revL, ex_cat, ex_rep, ex_sl, ex_slA, ex_slL, ex_nopt, ex_pt, ex_eq, ex_ne, ex_yes, ex_lc, ex_lenT, ex_lenL, ex_lenS, ex_int2, ex_augIx, ex_isT, ex_chain, ex_asg2, ex_neg, List.set, startD, List.replicate, List.map_nil, List.map_cons, List.length_cons, List.length_nil, List.cons_append, List.nil_append, Nat.sub_self, Nat.reduceSub, Nat.reduceAdd, wipeE, decide_true, decide_false, if_true, if_false, true_and, and_true, Bool.not_true, Bool.not_false, Bool.false_eq_true, ex_frz, ex_draw, ex_fld, ex_meth, ex_make, ex_isC, ex_joinS, ex_orS, ex_joined, ex_js, ex_js0, ex_fmt, ex_part, ex_split, ex_inS, ex_toStr, ex_toIntS, ex_ownT, ex_own, ex_listL, ex_listT, ex_reprT, ex_reprL, ex_reprI, ex_slS, ex_toIntB, ex_toIntI, ex_put, ex_drop, ex_never, isT1, isT2, isT3, isT4, tyI, tyT, tyS, pyI, pyB, pyT0, pyIs, Nat.zero_le, deqv_int, deqv_bl]
  refine ⟨by decide, fun r r0 r1 => ⟨by decide, fun k k0 k1 => ⟨by decide, fun j j0 j1 => ⟨by decide, ?_⟩⟩⟩⟩
  obtain ⟨i, rfl⟩ : ∃ i : Nat, r = (i : Int) := ⟨r.toNat, by omega⟩
  have hi : i < 8 := by omega
  obtain ⟨k, rfl⟩ : ∃ i : Nat, k = (i : Int) := ⟨k.toNat, by omega⟩
  obtain ⟨j, rfl⟩ : ∃ i : Nat, j = (i : Int) := ⟨j.toNat, by omega⟩
  have e : (2 : Int) + (k : Int) = ((2 + k : Nat) : Int) := by omega
  have e2 : (2 : Int) + (j : Int) = ((2 + j : Nat) : Int) := by omega
  rw [e, e2]
  match i, hi with
  | 0, _ => exact ⟨_, rfl, 10, rfl, by decide, by decide⟩
  | 1, _ => exact ⟨_, rfl, 2, rfl, by decide, by decide⟩
  | 2, _ => exact ⟨_, rfl, 10000, rfl, by decide, by decide⟩
  | 3, _ => exact ⟨_, rfl, 3, rfl, by decide, by decide⟩
  | 4, _ => exact ⟨_, rfl, 2 + k, rfl, by constructor <;> omega⟩
  | 5, _ => exact ⟨_, rfl, 10, rfl, by decide, by decide⟩
  | 6, _ => exact ⟨_, rfl, 2 + j, rfl, by constructor <;> omega⟩
  | 7, _ => exact ⟨_, rfl, 9999, rfl, by decide, by decide⟩
end MD
end
section
/-! A drawn row is a row. -/
namespace MD
open PySem L2
theorem row_is {b : Nat} (hb : 2 ≤ b) {xs : List Int} (h : Dg b xs) (hl : xs = [] ∨ ∃ ys x, xs = ys ++ [x] ∧ x ≠ 0) : ∃ n : Nat, row xs = rwD b n ∧ n < b ^ xs.length := by
  have e : strip xs = xs := by
    rcases hl with rfl | ⟨ys, x, rfl, hx⟩
    · rfl
    · exact strip_snoc hx ys
  have e2 := strip_rw hb xs h
  rw [e] at e2
  refine ⟨(wt b xs).toNat, by rw [rwD, ← e2], ?_⟩
  have h1 := wt_lt hb h
  have h2 := wt_nn h
  have : ((wt b xs).toNat : Int) < ((b ^ xs.length : Nat) : Int) := by
    rw [Int.toNat_of_nonneg h2, Int.natCast_pow]
    exact h1
  exact_mod_cast this
theorem ok__law_row : Keeps S__law_row T__law_row 8 := by
  rintro ⟨b, m⟩ ⟨hb, hm⟩
  have hb : Bs b := hb
  have hm : m ≤ 100 := hm
  have hb1 := hb.1
  have hb2 := hb.2
  show T__law_row ⟨_, S__law_row.post (b, m), _, _⟩ (startD 8 [.res 0, .int b, .int m])
  simp only [T__law_row, ex_seq, ex_next, ex_if, ex_ret, ex_set, ex_setO, ex_app, ex_aug, ex_var, ex_vw, ex_c, ex_d2, ex_b, ex_onD, ex_onVd, ex_onVo, ex_onO, ex_onB, ex_onS, ex_int, ex_addI, ex_addS, ex_addT, ex_nil, ex_cons, ex_tup, ex_lst, ex_cb, ex_tupleL, ex_tupleT, get_0, get_s, ex_for, ex_nm, ex_gnil, ex_gcons, ex_gtup, ex_gtupL, ex_asg, ex_par, ex_iseq, ex_onSeqT, ex_onSeqL, ex_onSeqS, ex_ienum, ex_irev, ex_onLTt, ex_onLTl, ex_rng1, ex_ifE, ex_and, ex_or, ex_not, ex_andV, ex_orV, ex_notV, ex_ixL, ex_call, ex_callN, ex_rev, ex_revL, ex_cat, ex_rep, ex_sl, ex_slA, ex_slL, ex_nopt, ex_pt, ex_eq, ex_ne, ex_yes, ex_lc, ex_lenT, ex_lenL, ex_lenS, ex_int2, ex_augIx, ex_isT, ex_chain, ex_asg2, ex_neg, List.set, startD, List.replicate, List.map_nil, List.map_cons, List.length_cons, List.length_nil, List.cons_append, List.nil_append, Nat.sub_self, Nat.reduceSub, Nat.reduceAdd, wipeE, decide_true, decide_false, if_true, if_false, true_and, and_true, Bool.not_true, Bool.not_false, Bool.false_eq_true, ex_frz, ex_draw, ex_fld, ex_meth, ex_make, ex_isC, ex_joinS, ex_orS, ex_joined, ex_js, ex_js0, ex_fmt, ex_part, ex_split, ex_inS, ex_toStr, ex_toIntS, ex_ownT, ex_own, ex_listL, ex_listT, ex_reprT, ex_reprL, ex_reprI, ex_slS, ex_toIntB, ex_toIntI, ex_put, ex_drop, ex_never, isT1, isT2, isT3, isT4, tyI, tyT, tyS, pyI, pyB, pyT0, pyIs, Nat.zero_le, deqv_int, deqv_bl]
  refine ⟨by decide, fun k k0 k1 => ⟨by omega, fun l l0 l1 => ?_⟩⟩
  obtain ⟨k, rfl⟩ : ∃ i : Nat, k = (i : Int) := ⟨k.toNat, by omega⟩
  have hk : k < 6 := by omega
  obtain ⟨l, rfl⟩ : ∃ i : Nat, l = (i : Int) := ⟨l.toNat, by omega⟩
  have hl : l ≤ m := by omega
  refine ⟨by omega, ?_⟩
  refine for_ix (fun i env => ∃ (xs : List Int) (s6 s7 : Sl), xs.length = i ∧ Dg b xs ∧ env = [.dat (.res 0), .dat (.int b), .dat (.int m), .dat (.int (k : Nat)), .dat (.int (l : Nat)), .own (xs.map .int), s6, s7]) ⟨[], .un, .un, rfl, dg_nil, rfl⟩ ?_ ?_
  · rintro i hi env K ⟨xs, s6, s7, hx, hd, rfl⟩ hK
    rw [rangeD_len] at hi
    simp only [ex_seq, ex_next, ex_if, ex_ret, ex_set, ex_setO, ex_app, ex_aug, ex_var, ex_vw, ex_c, ex_d2, ex_b, ex_onD, ex_onVd, ex_onVo, ex_onO, ex_onB, ex_onS, ex_int, ex_addI, ex_addS, ex_addT, ex_nil, ex_cons, ex_tup, ex_lst, ex_cb, ex_tupleL, ex_tupleT, get_0, get_s, ex_for, ex_nm, ex_gnil, ex_gcons, ex_gtup, ex_gtupL, ex_asg, ex_par, ex_iseq, ex_onSeqT, ex_onSeqL, ex_onSeqS, ex_ienum, ex_irev, ex_onLTt, ex_onLTl, ex_rng1, ex_ifE, ex_and, ex_or, ex_not, ex_andV, ex_orV, ex_notV, ex_ixL, ex_call, ex_callN, ex_rev, ex_revL, ex_cat, ex_rep, ex_sl, ex_slA, ex_slL, ex_nopt, ex_pt, ex_eq, ex_ne, ex_yes, ex_lc, ex_lenT, ex_lenL, ex_lenS, ex_int2, ex_augIx, ex_isT, ex_chain, ex_asg2, ex_neg, List.set, startD, List.replicate, List.map_nil, List.map_cons, List.length_cons, List.length_nil, List.cons_append, List.nil_append, Nat.sub_self, Nat.reduceSub, Nat.reduceAdd, wipeE, decide_true, decide_false, if_true, if_false, true_and, and_true, Bool.not_true, Bool.not_false, Bool.false_eq_true, ex_frz, ex_draw, ex_fld, ex_meth, ex_make, ex_isC, ex_joinS, ex_orS, ex_joined, ex_js, ex_js0, ex_fmt, ex_part, ex_split, ex_inS, ex_toStr, ex_toIntS, ex_ownT, ex_own, ex_listL, ex_listT, ex_reprT, ex_reprL, ex_reprI, ex_slS, ex_toIntB, ex_toIntI, ex_put, ex_drop, ex_never, isT1, isT2, isT3, isT4, tyI, tyT, tyS, pyI, pyB, pyT0, pyIs, Nat.zero_le, deqv_int, deqv_bl]
    refine ⟨⟨by omega, by omega⟩, fun r r0 r1 => ⟨by decide, by decide, ?_⟩⟩
    obtain ⟨v, e1, v0, v1⟩ : ∃ v : Int, L2.atI [D.int 0, D.int ((b : Int) - 1)] (r % 2) = some (.int v) ∧ 0 ≤ v ∧ v < b := by
      rcases (by omega : r % 2 = 0 ∨ r % 2 = 1) with h | h
      · rw [h]; exact ⟨0, rfl, by omega, by omega⟩
      · rw [h]; exact ⟨(b : Int) - 1, rfl, by omega, by omega⟩
    refine ⟨_, e1, by decide, by decide, ?_⟩
    obtain ⟨w, e2, w0, w1⟩ : ∃ w : Int, L2.atI [D.int r, D.int ((b : Int) - 1), D.int 0, D.int v, D.int (r % 2), D.int 0] (k : Nat) = some (.int w) ∧ 0 ≤ w ∧ w < b := by
      match k, hk with
      | 0, _ => exact ⟨_, rfl, r0, r1⟩
      | 1, _ => exact ⟨_, rfl, by omega, by omega⟩
      | 2, _ => exact ⟨_, rfl, by omega, by omega⟩
      | 3, _ => exact ⟨_, rfl, v0, v1⟩
      | 4, _ => exact ⟨_, rfl, by omega, by omega⟩
      | 5, _ => exact ⟨_, rfl, by omega, by omega⟩
    refine ⟨_, e2, by rw [List.length_map]; unfold SZ; omega, hK _ ?_⟩
    rw [show xs.map D.int ++ [D.int w] = (xs ++ [w]).map D.int by rw [List.map_append]; rfl]
    exact ⟨xs ++ [w], _, _, by rw [List.length_append, hx]; rfl, hd.append (dg_one ⟨w0, w1⟩), rfl⟩
  · rintro env ⟨xs, s6, s7, hx, hd, rfl⟩
    simp only [ex_seq, ex_next, ex_if, ex_ret, ex_set, ex_setO, ex_app, ex_aug, ex_var, ex_vw, ex_c, ex_d2, ex_b, ex_onD, ex_onVd, ex_onVo, ex_onO, ex_onB, ex_onS, ex_int, ex_addI, ex_addS, ex_addT, ex_nil, ex_cons, ex_tup, ex_lst, ex_cb, ex_tupleL, ex_tupleT, get_0, get_s, ex_for, ex_nm, ex_gnil, ex_gcons, ex_gtup, ex_gtupL, ex_asg, ex_par, ex_iseq, ex_onSeqT, ex_onSeqL, ex_onSeqS, ex_ienum, ex_irev, ex_onLTt, ex_onLTl, ex_rng1, ex_ifE, ex_and, ex_or, ex_not, ex_andV, ex_orV, ex_notV, ex_ixL, ex_call, ex_callN, ex_rev, ex_revL, ex_cat, ex_rep, ex_sl, ex_slA, ex_slL, ex_nopt, ex_pt, ex_eq, ex_ne, ex_yes, ex_lc, ex_lenT, ex_lenL, ex_lenS, ex_int2, ex_augIx, ex_isT, ex_chain, ex_asg2, ex_neg, List.set, startD, List.replicate, List.map_nil, List.map_cons, List.length_cons, List.length_nil, List.cons_append, List.nil_append, Nat.sub_self, Nat.reduceSub, Nat.reduceAdd, wipeE, decide_true, decide_false, if_true, if_false, true_and, and_true, Bool.not_true, Bool.not_false, Bool.false_eq_true, ex_frz, ex_draw, ex_fld, ex_meth, ex_make, ex_isC, ex_joinS, ex_orS, ex_joined, ex_js, ex_js0, ex_fmt, ex_part, ex_split, ex_inS, ex_toStr, ex_toIntS, ex_ownT, ex_own, ex_listL, ex_listT, ex_reprT, ex_reprL, ex_reprI, ex_slS, ex_toIntB, ex_toIntI, ex_put, ex_drop, ex_never, isT1, isT2, isT3, isT4, tyI, tyT, tyS, pyI, pyB, pyT0, pyIs, Nat.zero_le, deqv_int, deqv_bl]
    rw [rangeD_len] at hx
    have hx : xs.length = l := by omega
    have fin : ∀ ys : List Int, ys.length = l → Dg b ys → (ys = [] ∨ ∃ zs x, ys = zs ++ [x] ∧ x ≠ 0) → S__law_row.post (b, m) (.tup (ys.map .int)) := by
      intro ys h1 h2 h3
      obtain ⟨n, e, hn⟩ := row_is hb1 h2 h3
      exact ⟨n, e, Nat.lt_of_lt_of_le hn (Nat.pow_le_pow_right (by omega) (by omega))⟩
    rcases List.eq_nil_or_concat xs with e | ⟨ys, x, e⟩
    · subst e
      have : l = 0 := hx.symm
      subst this
      exact fin [] rfl hd (Or.inl rfl)
    · rw [List.concat_eq_append] at e
      subst e
      rw [List.length_append, List.length_cons, List.length_nil] at hx
      rw [decide_eq_true (by omega), if_pos rfl]
      refine ⟨.int x, by rw [List.map_append]; exact atI_last _ _, by rfl, ?_⟩
      rw [deqv_int]
      by_cases h0 : x = 0
      · rw [decide_eq_true h0, if_pos rfl]
        refine ⟨⟨by omega, by omega⟩, fun r r0 r1 => ⟨by decide, by decide, fun j j0 j1 => ?_⟩⟩
        obtain ⟨j, rfl⟩ : ∃ i : Nat, j = (i : Int) := ⟨j.toNat, by omega⟩
        have hj : j < 3 := by omega
        obtain ⟨w, e2, w0, w1⟩ : ∃ w : Int, L2.atI [D.int (1 + r), D.int ((b : Int) - 1), D.int 1] (j : Nat) = some (.int w) ∧ 0 < w ∧ w < b := by
          match j, hj with
          | 0, _ => exact ⟨_, rfl, by omega, by omega⟩
          | 1, _ => exact ⟨_, rfl, by omega, by omega⟩
          | 2, _ => exact ⟨_, rfl, by omega, by omega⟩
        refine ⟨_, e2, ys.length, ?_, ?_⟩
        · unfold L2.ixN
          rw [List.length_map, List.length_append, List.length_cons, List.length_nil, if_neg (by decide), if_pos (by omega)]
          congr 1
          omega
        · have e3 : ((ys ++ [x]).map D.int).set ys.length (.int w) = (ys ++ [w]).map D.int := by
            rw [List.map_append, List.map_append, List.set_append_right _ _ (by rw [List.length_map]; exact Nat.le_refl _), List.length_map, Nat.sub_self]
            rfl
          rw [e3]
          exact fin _ (by rw [List.length_append]; exact hx) (hd.left.append (dg_one ⟨by omega, w1⟩)) (Or.inr ⟨ys, w, rfl, by omega⟩)
      · rw [decide_eq_false h0, if_neg (by decide)]
        exact fin _ (by rw [List.length_append]; exact hx) hd (Or.inr ⟨ys, x, rfl, h0⟩)
end MD
end
section
/-! Words: plain Lean. -/
namespace MD
open PySem L2
theorem nS_tl (n : Nat) : TL.tl (nS n) = TL.numL n := TL.tl_num n
theorem digS_nat (n : Nat) : digS (n : Int) = nS n := rfl
theorem dig_nS {b : Nat} {d : Int} (h : 0 ≤ d ∧ d < b) : digS d = nS d.toNat := by
  show (toString d : Str) = toString ((d.toNat : Nat) : Int)
  rw [Int.toNat_of_nonneg h.1]
def partsL (b n : Nat) : List (List Nat) := (rw b n).reverse.map fun d => TL.numL d.toNat
theorem parts_tl {b : Nat} (hb : 2 ≤ b) (n : Nat) : ((rw b n).reverse.map digS).map TL.tl = partsL b n := by
  rw [List.map_map, partsL]
  refine List.map_congr_left fun d hd => ?_
  show TL.tl (digS d) = _
  rw [dig_nS (rw_dg hb n d (List.mem_reverse.mp hd)), nS_tl]
theorem rowS_tl {b n : Nat} (hb : 2 ≤ b) (h : n ≠ 0) : TL.tl (rowS b n) = TL.joinL [46] (partsL b n) := by
  rw [rowS, if_neg h, TL.join_eq, TL.tl_join, parts_tl hb]
  rfl
theorem joinL_mem {S : List Nat} {c : Nat} : ∀ {ps : List (List Nat)}, c ∈ TL.joinL S ps → c ∈ S ∨ ∃ p ∈ ps, c ∈ p
  | [], h => by cases h
  | [p], h => Or.inr ⟨p, List.mem_singleton.mpr rfl, h⟩
  | p :: q :: r, h => by
    rcases List.mem_append.mp (show c ∈ p ++ (S ++ TL.joinL S (q :: r)) from h) with h | h
    · exact Or.inr ⟨p, List.mem_cons_self .., h⟩
    · rcases List.mem_append.mp h with h | h
      · exact Or.inl h
      · rcases joinL_mem h with h | ⟨x, hx, h⟩
        · exact Or.inl h
        · exact Or.inr ⟨x, List.mem_cons_of_mem _ hx, h⟩
theorem joinL_len {S : List Nat} {k : Nat} : ∀ {ps : List (List Nat)}, (∀ p ∈ ps, p.length ≤ k) → (TL.joinL S ps).length ≤ (k + S.length) * ps.length
  | [], _ => Nat.zero_le _
  | [p], h => by
    have := h p (List.mem_singleton.mpr rfl)
    show p.length ≤ (k + S.length) * 1
    omega
  | p :: q :: r, h => by
    have h1 := h p (List.mem_cons_self ..)
    have h2 := joinL_len (S := S) (ps := q :: r) fun x hx => h x (List.mem_cons_of_mem _ hx)
    show (p ++ (S ++ TL.joinL S (q :: r))).length ≤ (k + S.length) * ((q :: r).length + 1)
    rw [List.length_append, List.length_append, Nat.mul_add, Nat.mul_one]
    omega
theorem parts_mem {b n : Nat} (hb : Bs b) {p : List Nat} (h : p ∈ partsL b n) : ∃ d : Nat, d < b ∧ p = TL.numL d := by
  obtain ⟨d, hd, e⟩ := List.mem_map.mp h
  have := rw_dg hb.1 n d (List.mem_reverse.mp hd)
  exact ⟨d.toNat, by omega, e.symm⟩
theorem num_len {d : Nat} (h : d < 10 ^ 5) : (TL.numL d).length ≤ 5 := TL.numL_len (by decide) h
/-- the signs of a row's text: figures and points -/
theorem rowS_signs {b n : Nat} (hb : Bs b) {c : Nat} (h : c ∈ TL.tl (rowS b n)) : c = 46 ∨ 48 ≤ c ∧ c ≤ 57 := by
  by_cases h0 : n = 0
  · rw [rowS, if_pos h0] at h
    have : c ∈ [48] := h
    rw [List.mem_singleton] at this
    omega
  · rw [rowS_tl hb.1 h0] at h
    rcases joinL_mem h with h | ⟨p, hp, h⟩
    · exact Or.inl (List.mem_singleton.mp h)
    · obtain ⟨d, _, rfl⟩ := parts_mem hb hp
      exact Or.inr (TL.numL_digits d c h)
theorem rowS_len {b n : Nat} (hb : Bs b) (hf : Few b n) : (rowS b n).length ≤ 2400 := by
  by_cases h0 : n = 0
  · rw [rowS, if_pos h0]
    decide
  · rw [TL.len_tl, rowS_tl hb.1 h0]
    have := joinL_len (S := [46]) (k := 5) (ps := partsL b n) fun p hp => by
      obtain ⟨d, hd, rfl⟩ := parts_mem hb hp
      exact num_len (by have := hb.2; omega)
    rw [partsL, List.length_map, List.length_reverse] at this
    have h2 : (rw b n).length ≤ 400 := hf
    show (TL.joinL [46] (partsL b n)).length ≤ 2400
    rw [partsL]
    refine Nat.le_trans this ?_
    show 6 * _ ≤ _
    omega
theorem rowS_ne {b n : Nat} (hb : Bs b) : TL.tl (rowS b n) ≠ [] := by
  by_cases h0 : n = 0
  · rw [rowS, if_pos h0]
    decide
  · rw [rowS_tl hb.1 h0]
    cases e : partsL b n with
    | nil =>
      rw [partsL, List.map_eq_nil_iff, List.reverse_eq_nil_iff] at e
      exact absurd ((rw_nil hb.1).mp e) h0
    | cons p r =>
      have hp : p ≠ [] := by
        obtain ⟨d, _, rfl⟩ := parts_mem hb (n := n) (p := p) (by rw [e]; exact List.mem_cons_self ..)
        exact TL.numL_ne d
      cases r with
      | nil => exact hp
      | cons q r => exact fun h => hp (List.append_eq_nil_iff.mp h).1
end MD
end
section
/-! A Long's text. -/
namespace MD
open PySem L2
theorem log_small {i : Int} (h : 0 ≤ i ∧ i ≤ 10000) : i.natAbs.log2 < 1920 := by
  have : i.natAbs.log2 ≤ i.natAbs := Nat.log2_le_self _
  by_cases h0 : i.natAbs = 0
  · rw [h0]; decide
  · have : i.natAbs < 2 ^ 14 := by omega
    have := (Nat.log2_lt h0).mpr this
    omega
theorem sum_le {α : Type} {f : α → Nat} {k : Nat} : ∀ {l : List α}, (∀ a ∈ l, f a ≤ k) → (l.map f).sum ≤ k * l.length
  | [], _ => Nat.zero_le _
  | a :: r, h => by
    have h1 := h a (List.mem_cons_self ..)
    have h2 := sum_le fun x hx => h x (List.mem_cons_of_mem _ hx)
    rw [List.map_cons, List.sum_cons, List.length_cons, Nat.mul_add, Nat.mul_one]
    omega
theorem ok_limbs_text : Keeps S_limbs_text T_limbs_text 2 := by
  rintro ⟨b, n⟩ ⟨hb, hf⟩
  have hb : Bs b := hb
  have hf : Few b n := hf
  have hl : (rw b n).length ≤ 400 := hf
  show T_limbs_text ⟨_, S_limbs_text.post (b, n), _, _⟩ (startD 2 [row (rw b n)])
  simp only [T_limbs_text, row, ex_seq, ex_next, ex_if, ex_ret, ex_set, ex_setO, ex_app, ex_aug, ex_var, ex_vw, ex_c, ex_d2, ex_b, ex_onD, ex_onVd, ex_onVo, ex_onO, ex_onB, ex_onS, ex_int, ex_addI, ex_addS, ex_addT, ex_nil, ex_cons, ex_tup, ex_lst, ex_cb, ex_tupleL, ex_tupleT, get_0, get_s, ex_for, ex_nm, ex_gnil, ex_gcons, ex_gtup, ex_gtupL, ex_asg, ex_par, ex_iseq, ex_onSeqT, ex_onSeqL, ex_onSeqS, ex_ienum, ex_irev, ex_onLTt, ex_onLTl, ex_rng1, ex_ifE, ex_and, ex_or, ex_not, ex_andV, ex_orV, ex_notV, ex_ixL, ex_call, ex_callN, ex_rev, ex_revL, ex_cat, ex_rep, ex_sl, ex_slA, ex_slL, ex_nopt, ex_pt, ex_eq, ex_ne, ex_yes, ex_lc, ex_lenT, ex_lenL, ex_lenS, ex_int2, ex_augIx, ex_isT, ex_chain, ex_asg2, ex_neg, List.set, startD, List.replicate, List.map_nil, List.map_cons, List.length_cons, List.length_nil, List.cons_append, List.nil_append, Nat.sub_self, Nat.reduceSub, Nat.reduceAdd, wipeE, decide_true, decide_false, if_true, if_false, true_and, and_true, Bool.not_true, Bool.not_false, Bool.false_eq_true, ex_frz, ex_draw, ex_fld, ex_meth, ex_make, ex_isC, ex_joinS, ex_orS, ex_joined, ex_js, ex_js0, ex_fmt, ex_part, ex_split, ex_inS, ex_toStr, ex_toIntS, ex_ownT, ex_own, ex_listL, ex_listT, ex_reprT, ex_reprL, ex_reprI, ex_slS, ex_toIntB, ex_toIntI, ex_put, ex_drop, ex_never, isT1, isT2, isT3, isT4, tyI, tyT, tyS, pyI, pyB, pyT0, pyIs, Nat.zero_le, deqv_int, deqv_bl]
  rw [← List.map_reverse]
  have hdg : ∀ d ∈ (rw b n).reverse, 0 ≤ d ∧ d < b := fun d hd => rw_dg hb.1 n d (List.mem_reverse.mp hd)
  refine comp_map (α := Int) (fun d => .int d) (fun d => .str (digS d)) (rw b n).reverse [] (by rw [List.length_nil, List.length_reverse]; unfold SZ; omega) (fun d hd R hR => ?_) ?_
  · simp only [ex_seq, ex_next, ex_if, ex_ret, ex_set, ex_setO, ex_app, ex_aug, ex_var, ex_vw, ex_c, ex_d2, ex_b, ex_onD, ex_onVd, ex_onVo, ex_onO, ex_onB, ex_onS, ex_int, ex_addI, ex_addS, ex_addT, ex_nil, ex_cons, ex_tup, ex_lst, ex_cb, ex_tupleL, ex_tupleT, get_0, get_s, ex_for, ex_nm, ex_gnil, ex_gcons, ex_gtup, ex_gtupL, ex_asg, ex_par, ex_iseq, ex_onSeqT, ex_onSeqL, ex_onSeqS, ex_ienum, ex_irev, ex_onLTt, ex_onLTl, ex_rng1, ex_ifE, ex_and, ex_or, ex_not, ex_andV, ex_orV, ex_notV, ex_ixL, ex_call, ex_callN, ex_rev, ex_revL, ex_cat, ex_rep, ex_sl, ex_slA, ex_slL, ex_nopt, ex_pt, ex_eq, ex_ne, ex_yes, ex_lc, ex_lenT, ex_lenL, ex_lenS, ex_int2, ex_augIx, ex_isT, ex_chain, ex_asg2, ex_neg, List.set, startD, List.replicate, List.map_nil, List.map_cons, List.length_cons, List.length_nil, List.cons_append, List.nil_append, Nat.sub_self, Nat.reduceSub, Nat.reduceAdd, wipeE, decide_true, decide_false, if_true, if_false, true_and, and_true, Bool.not_true, Bool.not_false, Bool.false_eq_true, ex_frz, ex_draw, ex_fld, ex_meth, ex_make, ex_isC, ex_joinS, ex_orS, ex_joined, ex_js, ex_js0, ex_fmt, ex_part, ex_split, ex_inS, ex_toStr, ex_toIntS, ex_ownT, ex_own, ex_listL, ex_listT, ex_reprT, ex_reprL, ex_reprI, ex_slS, ex_toIntB, ex_toIntI, ex_put, ex_drop, ex_never, isT1, isT2, isT3, isT4, tyI, tyT, tyS, pyI, pyB, pyT0, pyIs, Nat.zero_le, deqv_int, deqv_bl]
    exact ⟨log_small (by have := hdg d hd; have := hb.2; omega), hR⟩
  · have e : (Txt.join "." ((rw b n).reverse.map digS)) = if n = 0 then Str.empty else rowS b n := by
      by_cases h0 : n = 0
      · rw [if_pos h0, h0, rw_zero]; rfl
      · rw [if_neg h0, rowS, if_neg h0]
    have hlen := rowS_len hb hf
    refine ⟨(rw b n).reverse.map digS, Or.inl (by rw [List.nil_append, List.map_map]; rfl), ?_, ?_⟩
    · rw [List.length_map, List.length_reverse, List.map_map]
      have : ((rw b n).reverse.map ((fun x : Str => x.length) ∘ digS)).sum ≤ 5 * (rw b n).reverse.length := by
        refine sum_le fun d hd => ?_
        have := hdg d hd
        show (digS d).length ≤ 5
        rw [dig_nS this, TL.len_tl, nS_tl]
        exact num_len (by have := hb.2; omega)
      rw [List.length_reverse] at this
      show _ + _ * 1 ≤ _
      omega
    · show (Txt.join "." ((rw b n).reverse.map digS)).length ≤ SZ ∧ if (Txt.join "." ((rw b n).reverse.map digS)).length = 0 then S_limbs_text.post (b, n) (.str "0") else S_limbs_text.post (b, n) (.str (Txt.join "." ((rw b n).reverse.map digS)))
      rw [e]
      by_cases h0 : n = 0
      · rw [if_pos h0]
        refine ⟨by decide, ?_⟩
        rw [if_pos (by rfl)]
        show _ = D.str (rowS b n)
        rw [rowS, if_pos h0]
      · rw [if_neg h0]
        refine ⟨by unfold SZ; omega, ?_⟩
        rw [if_neg (by rw [TL.len_tl]; exact fun h => rowS_ne hb (List.eq_nil_of_length_eq_zero h))]
        exact rfl
end MD
end
section
/-! A Long's str and repr. -/
namespace MD
open PySem L2
theorem len_app (x y : Str) : (x ++ y).length = x.length + y.length := by rw [TL.len_tl, TL.tl_append, List.length_append, TL.len_tl, TL.len_tl]
theorem nS_len {n : Nat} (h : n ≤ 10000) : (nS n).length ≤ 5 := by
  rw [TL.len_tl, nS_tl]
  exact num_len (by omega)
theorem longS_len {b n : Nat} {s : Bool} (hb : Bs b) (hf : Few b n) : (longS b n s).length ≤ 2407 := by
  have h1 := rowS_len hb hf
  have h2 := nS_len hb.2
  have h3 : (Str.ofString (if s then "-" else "")).length ≤ 1 := by cases s <;> decide
  rw [longS, len_app, len_app, len_app, len_app, show (Str.empty : Str).length = 0 from rfl, show (":" : Str).length = 1 from rfl]
  omega
theorem str_fin {b n : Nat} {s : Bool} (hb : Bs b) (hf : Few b n) {z : Str} (hz : z.length ≤ 1) (e : z = Str.ofString (if s then "-" else "")) :
    (rowS b n).length ≤ SZ ∧ (Str.empty ++ z).length + (rowS b n).length ≤ SZ ∧ ((Str.empty ++ z) ++ rowS b n).length + (":" : Str).length ≤ SZ ∧ (b : Int).natAbs.log2 < 1920 ∧ (((Str.empty ++ z) ++ rowS b n) ++ ":").length + (nS b).length ≤ SZ ∧ S_Long_str.post (b, n, s) (.str ((((Str.empty ++ z) ++ rowS b n) ++ ":") ++ nS b)) := by
  have h1 := rowS_len hb hf
  have h2 := nS_len hb.2
  have hlog := log_small (i := (b : Int)) (by have := hb.2; omega)
  have p : (":" : Str).length = 1 := rfl
  have q : (Str.empty : Str).length = 0 := rfl
  refine ⟨by unfold SZ; omega, by rw [len_app]; unfold SZ; omega, by rw [len_app, len_app]; unfold SZ; omega, hlog, by rw [len_app, len_app, len_app]; unfold SZ; omega, ?_⟩
  subst e
  exact rfl
theorem ok_Long_str : Keeps S_Long_str T_Long_str 2 := by
  rintro ⟨b, n, s⟩ ⟨hb, hf⟩
  have hb : Bs b := hb
  have hf : Few b n := hf
  show T_Long_str ⟨_, S_Long_str.post (b, n, s), _, _⟩ (startD 2 [LO b n s])
  cases s with
  | false =>
    simp only [T_Long_str, ex_seq, ex_next, ex_if, ex_ret, ex_set, ex_setO, ex_app, ex_aug, ex_var, ex_vw, ex_c, ex_d2, ex_b, ex_onD, ex_onVd, ex_onVo, ex_onO, ex_onB, ex_onS, ex_int, ex_addI, ex_addS, ex_addT, ex_nil, ex_cons, ex_tup, ex_lst, ex_cb, ex_tupleL, ex_tupleT, get_0, get_s, ex_for, ex_nm, ex_gnil, ex_gcons, ex_gtup, ex_gtupL, ex_asg, ex_par, ex_iseq, ex_onSeqT, ex_onSeqL, ex_onSeqS, ex_ienum, ex_irev, ex_onLTt, ex_onLTl, ex_rng1, ex_ifE, ex_and, ex_or, ex_not, ex_andV, ex_orV, ex_notV, ex_ixL, ex_call, ex_callN, ex_rev, ex_revL, ex_cat, ex_rep, ex_sl, ex_slA, ex_slL, ex_nopt, ex_pt, ex_eq, ex_ne, ex_yes, ex_lc, ex_lenT, ex_lenL, ex_lenS, ex_int2, ex_augIx, ex_isT, ex_chain, ex_asg2, ex_neg, List.set, startD, List.replicate, List.map_nil, List.map_cons, List.length_cons, List.length_nil, List.cons_append, List.nil_append, Nat.sub_self, Nat.reduceSub, Nat.reduceAdd, wipeE, decide_true, decide_false, if_true, if_false, true_and, and_true, Bool.not_true, Bool.not_false, Bool.false_eq_true, ex_frz, ex_draw, ex_fld, ex_meth, ex_make, ex_isC, ex_joinS, ex_orS, ex_joined, ex_js, ex_js0, ex_fmt, ex_part, ex_split, ex_inS, ex_toStr, ex_toIntS, ex_ownT, ex_own, ex_listL, ex_listT, ex_reprT, ex_reprL, ex_reprI, ex_slS, ex_toIntB, ex_toIntI, ex_put, ex_drop, ex_never, isT1, isT2, isT3, isT4, tyI, tyT, tyS, pyI, pyB, pyT0, pyIs, Nat.zero_le, deqv_int, deqv_bl, fR, fB, fS]
    refine ⟨by decide, by decide, (b, n), rfl, ⟨hb, hf⟩, fun d e => ?_⟩
    obtain rfl : d = .str (rowS b n) := e
    exact str_fin (s := false) hb hf (by decide) rfl
  | true =>
    simp only [T_Long_str, ex_seq, ex_next, ex_if, ex_ret, ex_set, ex_setO, ex_app, ex_aug, ex_var, ex_vw, ex_c, ex_d2, ex_b, ex_onD, ex_onVd, ex_onVo, ex_onO, ex_onB, ex_onS, ex_int, ex_addI, ex_addS, ex_addT, ex_nil, ex_cons, ex_tup, ex_lst, ex_cb, ex_tupleL, ex_tupleT, get_0, get_s, ex_for, ex_nm, ex_gnil, ex_gcons, ex_gtup, ex_gtupL, ex_asg, ex_par, ex_iseq, ex_onSeqT, ex_onSeqL, ex_onSeqS, ex_ienum, ex_irev, ex_onLTt, ex_onLTl, ex_rng1, ex_ifE, ex_and, ex_or, ex_not, ex_andV, ex_orV, ex_notV, ex_ixL, ex_call, ex_callN, ex_rev, ex_revL, ex_cat, ex_rep, ex_sl, ex_slA, ex_slL, ex_nopt, ex_pt, ex_eq, ex_ne, ex_yes, ex_lc, ex_lenT, ex_lenL, ex_lenS, ex_int2, ex_augIx, ex_isT, ex_chain, ex_asg2, ex_neg, List.set, startD, List.replicate, List.map_nil, List.map_cons, List.length_cons, List.length_nil, List.cons_append, List.nil_append, Nat.sub_self, Nat.reduceSub, Nat.reduceAdd, wipeE, decide_true, decide_false, if_true, if_false, true_and, and_true, Bool.not_true, Bool.not_false, Bool.false_eq_true, ex_frz, ex_draw, ex_fld, ex_meth, ex_make, ex_isC, ex_joinS, ex_orS, ex_joined, ex_js, ex_js0, ex_fmt, ex_part, ex_split, ex_inS, ex_toStr, ex_toIntS, ex_ownT, ex_own, ex_listL, ex_listT, ex_reprT, ex_reprL, ex_reprI, ex_slS, ex_toIntB, ex_toIntI, ex_put, ex_drop, ex_never, isT1, isT2, isT3, isT4, tyI, tyT, tyS, pyI, pyB, pyT0, pyIs, Nat.zero_le, deqv_int, deqv_bl, fR, fB, fS]
    refine ⟨by decide, by decide, (b, n), rfl, ⟨hb, hf⟩, fun d e => ?_⟩
    obtain rfl : d = .str (rowS b n) := e
    exact str_fin (s := true) hb hf (by decide) rfl
theorem ok_Long_repr : Keeps S_Long_repr T_Long_repr 1 := by
  rintro ⟨b, n, s⟩ ⟨hb, hf⟩
  have hb : Bs b := hb
  have hf : Few b n := hf
  have h1 := longS_len (s := s) hb hf
  show T_Long_repr ⟨_, S_Long_repr.post (b, n, s), _, _⟩ (startD 1 [LO b n s])
  simp only [T_Long_repr, ex_seq, ex_next, ex_if, ex_ret, ex_set, ex_setO, ex_app, ex_aug, ex_var, ex_vw, ex_c, ex_d2, ex_b, ex_onD, ex_onVd, ex_onVo, ex_onO, ex_onB, ex_onS, ex_int, ex_addI, ex_addS, ex_addT, ex_nil, ex_cons, ex_tup, ex_lst, ex_cb, ex_tupleL, ex_tupleT, get_0, get_s, ex_for, ex_nm, ex_gnil, ex_gcons, ex_gtup, ex_gtupL, ex_asg, ex_par, ex_iseq, ex_onSeqT, ex_onSeqL, ex_onSeqS, ex_ienum, ex_irev, ex_onLTt, ex_onLTl, ex_rng1, ex_ifE, ex_and, ex_or, ex_not, ex_andV, ex_orV, ex_notV, ex_ixL, ex_call, ex_callN, ex_rev, ex_revL, ex_cat, ex_rep, ex_sl, ex_slA, ex_slL, ex_nopt, ex_pt, ex_eq, ex_ne, ex_yes, ex_lc, ex_lenT, ex_lenL, ex_lenS, ex_int2, ex_augIx, ex_isT, ex_chain, ex_asg2, ex_neg, List.set, startD, List.replicate, List.map_nil, List.map_cons, List.length_cons, List.length_nil, List.cons_append, List.nil_append, Nat.sub_self, Nat.reduceSub, Nat.reduceAdd, wipeE, decide_true, decide_false, if_true, if_false, true_and, and_true, Bool.not_true, Bool.not_false, Bool.false_eq_true, ex_frz, ex_draw, ex_fld, ex_meth, ex_make, ex_isC, ex_joinS, ex_orS, ex_joined, ex_js, ex_js0, ex_fmt, ex_part, ex_split, ex_inS, ex_toStr, ex_toIntS, ex_ownT, ex_own, ex_listL, ex_listT, ex_reprT, ex_reprL, ex_reprI, ex_slS, ex_toIntB, ex_toIntI, ex_put, ex_drop, ex_never, isT1, isT2, isT3, isT4, tyI, tyT, tyS, pyI, pyB, pyT0, pyIs, Nat.zero_le, deqv_int, deqv_bl]
  have p : ("Long(" : Str).length = 5 := rfl
  have p2 : (")" : Str).length = 1 := rfl
  have q : (Str.empty : Str).length = 0 := rfl
  refine ⟨by decide, _, rfl, (b, n, s), rfl, ⟨hb, hf⟩, fun d e => ?_⟩
  obtain rfl : d = .str (longS b n s) := e
  refine ⟨by unfold SZ; omega, by rw [len_app]; unfold SZ; omega, by rw [len_app, len_app]; unfold SZ; omega, ?_⟩
  show D.str _ = .str _
  congr 1
end MD
end
section
/-! What the readers of words promise. -/
namespace MD
open PySem L2
def S_number_in : FS := ⟨Nat, fun n => [.str (nS n)], fun n => n ≤ 10000, fun n d => d = .int n⟩
def S_limbs_in : FS := ⟨Nat × Nat, fun x => [.str (rowS x.1 x.2)], fun x => Bs x.1 ∧ Few x.1 x.2, fun x d => d = rwD x.1 x.2⟩
def S_read_long : FS := ⟨Nat × Nat × Bool, fun x => [.str (longS x.1 x.2.1 x.2.2)], fun x => Bs x.1 ∧ Few x.1 x.2.1 ∧ (x.2.2 = true → x.2.1 ≠ 0), fun x d => d = LO x.1 x.2.1 x.2.2⟩
def T_number_in : DTS := (dSeq (dIfS (dOr (dNot (dB (dChain gLe gLe (dC (.int 1)) (dCB gLen (dCons (dVar 0) dNil)) (dC (.int 5))))) (dNot (dB (dCB gAll (dCons (dLc (iSeq (dVar 0)) (gNm 1) dYes (d2 (gInS false) (dVar 1) (dC (.str "0123456789"))) [1]) dNil))))) dNever dNext) (dRet (dCB gToInt (dCons (dVar 0) dNil))))
def T_limbs_in : DTS := (dSeq (dIfS (dB (d2 gEq (dVar 0) (dC (.str "0")))) (dRet (dTup dNil)) dNext) (dRet (dCB gTuple (dCons (dLc (iSeq (dRevL (dSplit (dVar 0) (dC (.str "."))))) (gNm 1) dYes (dCall S_number_in [] (dCons (dVar 1) dNil)) [1]) dNil))))
def T_read_long : DTS := (dSeq (dIfS (dNot (dB (dIsT "str" (dVar 0)))) dNever dNext) (dSeq (dAsg (dPart (dVar 0) (dC (.str ":"))) (gTupD 3 (gCons' (gNm 1) (gCons' (gNm 2) (gCons' (gNm 3) gNil'))))) (dSeq (dSet 4 (d2 gEq (dSl (dVar 1) dNoPt (dPt (dC (.int 1)))) (dC (.str "-")))) (dSeq (dSet 5 (dCall S_number_in [] (dCons (dVar 3) dNil))) (dSeq (dSet 6 (dCall S_limbs_in [] (dCons (dIf (dB (dVar 4)) (dSl (dVar 1) (dPt (dC (.int 1))) dNoPt) (dVar 1)) dNil))) (dSeq (dIfS (dOr (dNot (dB (dCall S_is_base [] (dCons (dVar 5) dNil)))) (dOr (dB (d2 gGt (dCB gLen (dCons (dVar 6) dNil)) (dC (.int 400)))) (dNot (dB (dCallN S_is_row gk_is_row_1_base 1 1 (dCons (dVar 6) dNil) (dCons (dVar 5) dNil)))))) dNever dNext) (dSeq (dSet 7 (dMake "Long" S_Long_init gk_Long_1_below_base 1 2 (dCons (dVar 6) dNil) (dCons (dVar 4) (dCons (dVar 5) dNil)))) (dSeq (dIfS (dB (d2 gNe (dCB (gOwnTxt "Long" S_Long_str) (dCons (dVar 7) dNil)) (dVar 0))) dNever dNext) (dRet (dVar 7))))))))))
end MD
end
section
/-! The readers of words keep their promises. -/
namespace MD
open PySem L2
theorem pyOk_str {z : Str} (h : ∀ c ∈ TL.tl z, c < 128) : pyOk (.str z) = true := by
  have e : PyData.strOk z = true := by
    unfold PyData.strOk
    rw [← Array.all_toList, List.all_eq_true]
    exact fun c hc => decide_eq_true (Nat.lt_trans (h c hc) (by decide))
  unfold pyOk SeqAt.shaped
  show (true && (PyData.strOk z && true)) = true
  rw [e]
  rfl
theorem in_digits {c : Nat} (h : 48 ≤ c ∧ c ≤ 57) : inStr (⟨#[c]⟩ : Str) ("0123456789" : Str) = true := by
  show (!(Builtin.Str.occurrences _ _ 0 _ 1).isEmpty) = true
  rw [PySem.StrLaws.found_one]
  obtain ⟨h1, h2⟩ := h
  rw [decide_eq_true_eq]
  show c ∈ [48, 49, 50, 51, 52, 53, 54, 55, 56, 57]
  rcases (by omega : c = 48 ∨ c = 49 ∨ c = 50 ∨ c = 51 ∨ c = 52 ∨ c = 53 ∨ c = 54 ∨ c = 55 ∨ c = 56 ∨ c = 57) with h | h | h | h | h | h | h | h | h | h <;> subst h <;> decide
theorem nS_pos (n : Nat) : 1 ≤ (nS n).length := by
  rw [TL.len_tl, nS_tl]
  exact Nat.pos_of_ne_zero fun h => TL.numL_ne n (List.eq_nil_of_length_eq_zero h)
theorem ok_number_in : Keeps S_number_in T_number_in 2 := by
  intro (n : Nat) hn
  have hn : n ≤ 10000 := hn
  have h1 := nS_len hn
  have h2 := nS_pos n
  show T_number_in ⟨_, S_number_in.post n, _, _⟩ (startD 2 [.str (nS n)])
  simp only [T_number_in, ex_seq, ex_next, ex_if, ex_ret, ex_set, ex_setO, ex_app, ex_aug, ex_var, ex_vw, ex_c, ex_d2, ex_b, ex_onD, ex_onVd, ex_onVo, ex_onO, ex_onB, ex_onS, ex_int, ex_addI, ex_addS, ex_addT, ex_nil, ex_cons, ex_tup, ex_lst, ex_cb, ex_tupleL, ex_tupleT, get_0, get_s, ex_for, ex_nm, ex_gnil, ex_gcons, ex_gtup, ex_gtupL, ex_asg, ex_par, ex_iseq, ex_onSeqT, ex_onSeqL, ex_onSeqS, ex_ienum, ex_irev, ex_onLTt, ex_onLTl, ex_rng1, ex_ifE, ex_and, ex_or, ex_not, ex_andV, ex_orV, ex_notV, ex_ixL, ex_call, ex_callN, ex_rev, ex_revL, ex_cat, ex_rep, ex_sl, ex_slA, ex_slL, ex_nopt, ex_pt, ex_eq, ex_ne, ex_yes, ex_lc, ex_lenT, ex_lenL, ex_lenS, ex_int2, ex_augIx, ex_isT, ex_chain, ex_asg2, ex_neg, List.set, startD, List.replicate, List.map_nil, List.map_cons, List.length_cons, List.length_nil, List.cons_append, List.nil_append, Nat.sub_self, Nat.reduceSub, Nat.reduceAdd, wipeE, decide_true, decide_false, if_true, if_false, true_and, and_true, Bool.not_true, Bool.not_false, Bool.false_eq_true, ex_frz, ex_draw, ex_fld, ex_meth, ex_make, ex_isC, ex_joinS, ex_orS, ex_joined, ex_js, ex_js0, ex_fmt, ex_part, ex_split, ex_inS, ex_toStr, ex_toIntS, ex_ownT, ex_own, ex_listL, ex_listT, ex_reprT, ex_reprL, ex_reprI, ex_slS, ex_toIntB, ex_toIntI, ex_put, ex_drop, ex_never, isT1, isT2, isT3, isT4, tyI, tyT, tyS, pyI, pyB, pyT0, pyIs, Nat.zero_le, deqv_int, deqv_bl]
  refine ⟨by unfold SZ; omega, ?_⟩
  rw [decide_eq_true (by omega), if_pos rfl, decide_eq_true (by omega), if_neg (by decide)]
  refine comp_map (α := Nat) (fun c => .str ⟨#[c]⟩) (fun _ => .bl true) (TL.tl (nS n)) [] (by rw [List.length_nil, ← TL.len_tl]; unfold SZ; omega) (fun c hc R hR => ?_) ?_
  · simp only [ex_seq, ex_next, ex_if, ex_ret, ex_set, ex_setO, ex_app, ex_aug, ex_var, ex_vw, ex_c, ex_d2, ex_b, ex_onD, ex_onVd, ex_onVo, ex_onO, ex_onB, ex_onS, ex_int, ex_addI, ex_addS, ex_addT, ex_nil, ex_cons, ex_tup, ex_lst, ex_cb, ex_tupleL, ex_tupleT, get_0, get_s, ex_for, ex_nm, ex_gnil, ex_gcons, ex_gtup, ex_gtupL, ex_asg, ex_par, ex_iseq, ex_onSeqT, ex_onSeqL, ex_onSeqS, ex_ienum, ex_irev, ex_onLTt, ex_onLTl, ex_rng1, ex_ifE, ex_and, ex_or, ex_not, ex_andV, ex_orV, ex_notV, ex_ixL, ex_call, ex_callN, ex_rev, ex_revL, ex_cat, ex_rep, ex_sl, ex_slA, ex_slL, ex_nopt, ex_pt, ex_eq, ex_ne, ex_yes, ex_lc, ex_lenT, ex_lenL, ex_lenS, ex_int2, ex_augIx, ex_isT, ex_chain, ex_asg2, ex_neg, List.set, startD, List.replicate, List.map_nil, List.map_cons, List.length_cons, List.length_nil, List.cons_append, List.nil_append, Nat.sub_self, Nat.reduceSub, Nat.reduceAdd, wipeE, decide_true, decide_false, if_true, if_false, true_and, and_true, Bool.not_true, Bool.not_false, Bool.false_eq_true, ex_frz, ex_draw, ex_fld, ex_meth, ex_make, ex_isC, ex_joinS, ex_orS, ex_joined, ex_js, ex_js0, ex_fmt, ex_part, ex_split, ex_inS, ex_toStr, ex_toIntS, ex_ownT, ex_own, ex_listL, ex_listT, ex_reprT, ex_reprL, ex_reprI, ex_slS, ex_toIntB, ex_toIntI, ex_put, ex_drop, ex_never, isT1, isT2, isT3, isT4, tyI, tyT, tyS, pyI, pyB, pyT0, pyIs, Nat.zero_le, deqv_int, deqv_bl]
    rw [nS_tl] at hc
    rw [in_digits (TL.numL_digits n c hc)]
    exact hR
  · refine ⟨(TL.tl (nS n)).map fun _ => true, by rw [List.nil_append, List.map_map]; rfl, ?_⟩
    have e : ((TL.tl (nS n)).map fun _ => true).all id = true := by simp
    rw [e]
    simp only [ex_seq, ex_next, ex_if, ex_ret, ex_set, ex_setO, ex_app, ex_aug, ex_var, ex_vw, ex_c, ex_d2, ex_b, ex_onD, ex_onVd, ex_onVo, ex_onO, ex_onB, ex_onS, ex_int, ex_addI, ex_addS, ex_addT, ex_nil, ex_cons, ex_tup, ex_lst, ex_cb, ex_tupleL, ex_tupleT, get_0, get_s, ex_for, ex_nm, ex_gnil, ex_gcons, ex_gtup, ex_gtupL, ex_asg, ex_par, ex_iseq, ex_onSeqT, ex_onSeqL, ex_onSeqS, ex_ienum, ex_irev, ex_onLTt, ex_onLTl, ex_rng1, ex_ifE, ex_and, ex_or, ex_not, ex_andV, ex_orV, ex_notV, ex_ixL, ex_call, ex_callN, ex_rev, ex_revL, ex_cat, ex_rep, ex_sl, ex_slA, ex_slL, ex_nopt, ex_pt, ex_eq, ex_ne, ex_yes, ex_lc, ex_lenT, ex_lenL, ex_lenS, ex_int2, ex_augIx, ex_isT, ex_chain, ex_asg2, ex_neg, List.set, startD, List.replicate, List.map_nil, List.map_cons, List.length_cons, List.length_nil, List.cons_append, List.nil_append, Nat.sub_self, Nat.reduceSub, Nat.reduceAdd, wipeE, decide_true, decide_false, if_true, if_false, true_and, and_true, Bool.not_true, Bool.not_false, Bool.false_eq_true, ex_frz, ex_draw, ex_fld, ex_meth, ex_make, ex_isC, ex_joinS, ex_orS, ex_joined, ex_js, ex_js0, ex_fmt, ex_part, ex_split, ex_inS, ex_toStr, ex_toIntS, ex_ownT, ex_own, ex_listL, ex_listT, ex_reprT, ex_reprL, ex_reprI, ex_slS, ex_toIntB, ex_toIntI, ex_put, ex_drop, ex_never, isT1, isT2, isT3, isT4, tyI, tyT, tyS, pyI, pyB, pyT0, pyIs, Nat.zero_le, deqv_int, deqv_bl]
    refine ⟨by omega, n, TL.int_num (by have := num_len (d := n) (by omega); omega), rfl⟩
theorem limb_text {b : Nat} {c : Nat} {d : Nat} (h : c < 48 ∨ 57 < c) : c ∉ TL.tl (nS d) := by
  rw [nS_tl]
  exact TL.numL_free h
theorem digS_nat' {b n : Nat} (hb : 2 ≤ b) : (rw b n).reverse.map digS = ((rw b n).reverse.map Int.toNat).map nS := by
  rw [List.map_map]
  exact List.map_congr_left fun d hd => dig_nS (rw_dg hb n d (List.mem_reverse.mp hd))
theorem rowS_one {b n : Nat} (hb : Bs b) : rowS b n = "0" ↔ n = 0 := by
  constructor
  · intro h
    refine Decidable.byContradiction fun h0 => ?_
    have e := congrArg TL.tl h
    rw [rowS_tl hb.1 h0] at e
    obtain ⟨xs, x, ex, hx⟩ := rw_last hb.1 n (Nat.pos_of_ne_zero h0)
    have hxd := rw_dg hb.1 n x (by rw [ex]; exact List.mem_append_right _ (List.mem_singleton.mpr rfl))
    rw [partsL, ex, List.reverse_append, List.reverse_cons, List.reverse_nil, List.nil_append, List.singleton_append, List.map_cons] at e
    have z : TL.tl ("0" : Str) = TL.numL 0 := rfl
    rw [z] at e
    cases hr : xs.reverse.map (fun d : Int => TL.numL d.toNat) with
    | nil =>
      rw [hr] at e
      have := TL.numL_inj (show TL.numL x.toNat = TL.numL 0 from e)
      omega
    | cons q r =>
      rw [hr] at e
      have l := congrArg List.length (show TL.numL x.toNat ++ ([46] ++ TL.joinL [46] (q :: r)) = TL.numL 0 from e)
      rw [List.length_append, List.length_append] at l
      have : 0 < (TL.numL x.toNat).length := List.length_pos_iff.mpr (TL.numL_ne _)
      rw [show (TL.numL 0).length = 1 from rfl, show [46].length = 1 from rfl] at l
      omega
  · intro h
    rw [rowS, if_pos h]
theorem ok_limbs_in : Keeps S_limbs_in T_limbs_in 2 := by
  rintro ⟨b, n⟩ ⟨hb, hf⟩
  have hb : Bs b := hb
  have hf : Few b n := hf
  have hl : (rw b n).length ≤ 400 := hf
  have h1 := rowS_len hb hf
  show T_limbs_in ⟨_, S_limbs_in.post (b, n), _, _⟩ (startD 2 [.str (rowS b n)])
  simp only [T_limbs_in, ex_seq, ex_next, ex_if, ex_ret, ex_set, ex_setO, ex_app, ex_aug, ex_var, ex_vw, ex_c, ex_d2, ex_b, ex_onD, ex_onVd, ex_onVo, ex_onO, ex_onB, ex_onS, ex_int, ex_addI, ex_addS, ex_addT, ex_nil, ex_cons, ex_tup, ex_lst, ex_cb, ex_tupleL, ex_tupleT, get_0, get_s, ex_for, ex_nm, ex_gnil, ex_gcons, ex_gtup, ex_gtupL, ex_asg, ex_par, ex_iseq, ex_onSeqT, ex_onSeqL, ex_onSeqS, ex_ienum, ex_irev, ex_onLTt, ex_onLTl, ex_rng1, ex_ifE, ex_and, ex_or, ex_not, ex_andV, ex_orV, ex_notV, ex_ixL, ex_call, ex_callN, ex_rev, ex_revL, ex_cat, ex_rep, ex_sl, ex_slA, ex_slL, ex_nopt, ex_pt, ex_eq, ex_ne, ex_yes, ex_lc, ex_lenT, ex_lenL, ex_lenS, ex_int2, ex_augIx, ex_isT, ex_chain, ex_asg2, ex_neg, List.set, startD, List.replicate, List.map_nil, List.map_cons, List.length_cons, List.length_nil, List.cons_append, List.nil_append, Nat.sub_self, Nat.reduceSub, Nat.reduceAdd, wipeE, decide_true, decide_false, if_true, if_false, true_and, and_true, Bool.not_true, Bool.not_false, Bool.false_eq_true, ex_frz, ex_draw, ex_fld, ex_meth, ex_make, ex_isC, ex_joinS, ex_orS, ex_joined, ex_js, ex_js0, ex_fmt, ex_part, ex_split, ex_inS, ex_toStr, ex_toIntS, ex_ownT, ex_own, ex_listL, ex_listT, ex_reprT, ex_reprL, ex_reprI, ex_slS, ex_toIntB, ex_toIntI, ex_put, ex_drop, ex_never, isT1, isT2, isT3, isT4, tyI, tyT, tyS, pyI, pyB, pyT0, pyIs, Nat.zero_le, deqv_int, deqv_bl]
  refine ⟨pyOk_str fun c hc => by have := rowS_signs hb hc; omega, pyOk_str (by decide), ?_⟩
  rw [deqv_str]
  by_cases h0 : n = 0
  · rw [decide_eq_true ((rowS_one hb).mpr h0), if_pos rfl]
    show _ = rwD b n
    rw [h0, rwD, rw_zero]
    rfl
  · rw [decide_eq_false (fun h => h0 ((rowS_one hb).mp h)), if_neg (by decide)]
    refine ⟨⟨by decide, by unfold SZ; omega⟩, ?_⟩
    have es : Txt.split (rowS b n) "." = (rw b n).reverse.map digS := by
      rw [rowS, if_neg h0]
      refine TL.split_join (s := 46) (S := []) rfl (by decide +kernel) (fun h => ?_) (fun p hp => ?_)
      · rw [List.map_eq_nil_iff, List.reverse_eq_nil_iff] at h
        exact h0 ((rw_nil hb.1).mp h)
      · obtain ⟨d, hd, rfl⟩ := List.mem_map.mp hp
        rw [dig_nS (rw_dg hb.1 n d (List.mem_reverse.mp hd)), nS_tl]
        exact TL.numL_free (by decide)
    rw [es, ← List.map_reverse, ← List.map_reverse, List.reverse_reverse, List.map_map]
    refine comp_map (α := Int) (D.str ∘ digS) (fun d => .int d) (rw b n) [] (by rw [List.length_nil]; unfold SZ; omega) (fun d hd R hR => ?_) ?_
    · have hd := rw_dg hb.1 n d hd
      simp only [ex_seq, ex_next, ex_if, ex_ret, ex_set, ex_setO, ex_app, ex_aug, ex_var, ex_vw, ex_c, ex_d2, ex_b, ex_onD, ex_onVd, ex_onVo, ex_onO, ex_onB, ex_onS, ex_int, ex_addI, ex_addS, ex_addT, ex_nil, ex_cons, ex_tup, ex_lst, ex_cb, ex_tupleL, ex_tupleT, get_0, get_s, ex_for, ex_nm, ex_gnil, ex_gcons, ex_gtup, ex_gtupL, ex_asg, ex_par, ex_iseq, ex_onSeqT, ex_onSeqL, ex_onSeqS, ex_ienum, ex_irev, ex_onLTt, ex_onLTl, ex_rng1, ex_ifE, ex_and, ex_or, ex_not, ex_andV, ex_orV, ex_notV, ex_ixL, ex_call, ex_callN, ex_rev, ex_revL, ex_cat, ex_rep, ex_sl, ex_slA, ex_slL, ex_nopt, ex_pt, ex_eq, ex_ne, ex_yes, ex_lc, ex_lenT, ex_lenL, ex_lenS, ex_int2, ex_augIx, ex_isT, ex_chain, ex_asg2, ex_neg, List.set, startD, List.replicate, List.map_nil, List.map_cons, List.length_cons, List.length_nil, List.cons_append, List.nil_append, Nat.sub_self, Nat.reduceSub, Nat.reduceAdd, wipeE, decide_true, decide_false, if_true, if_false, true_and, and_true, Bool.not_true, Bool.not_false, Bool.false_eq_true, ex_frz, ex_draw, ex_fld, ex_meth, ex_make, ex_isC, ex_joinS, ex_orS, ex_joined, ex_js, ex_js0, ex_fmt, ex_part, ex_split, ex_inS, ex_toStr, ex_toIntS, ex_ownT, ex_own, ex_listL, ex_listT, ex_reprT, ex_reprL, ex_reprI, ex_slS, ex_toIntB, ex_toIntI, ex_put, ex_drop, ex_never, isT1, isT2, isT3, isT4, tyI, tyT, tyS, pyI, pyB, pyT0, pyIs, Nat.zero_le, deqv_int, deqv_bl]
      refine ⟨d.toNat, by show [D.str (digS d)] = [D.str (nS d.toNat)]; rw [dig_nS hd], by show d.toNat ≤ 10000; have := hb.2; omega, fun e he => ?_⟩
      obtain rfl : e = .int d.toNat := he
      rw [Int.toNat_of_nonneg hd.1]
      exact hR
    · exact rfl
end MD
end
section
/-! A Long's text is read back. -/
namespace MD
open PySem L2
theorem tl_cut1 (z : Str) : TL.tl (cutS z none (some 1)) = (TL.tl z).take 1 := by
  show ((TL.tl z).drop 0).take (HT.sIx z.length z.length (some ((1 : Nat) : Int)) - 0) = _
  rw [HT.sIx_nat, List.drop_zero, Nat.sub_zero, TL.len_tl, ← List.take_eq_take_min]
theorem tl_cutd (z : Str) : TL.tl (cutS z (some 1) none) = (TL.tl z).drop 1 := by
  show ((TL.tl z).drop (HT.sIx z.length 0 (some ((1 : Nat) : Int)))).take (z.length - HT.sIx z.length 0 (some ((1 : Nat) : Int))) = _
  rw [HT.sIx_nat, TL.len_tl]
  cases TL.tl z with
  | nil => rfl
  | cons c r =>
    rw [show min 1 (c :: r).length = 1 by rw [List.length_cons]; omega]
    exact List.take_of_length_le (by simp)
def signS (s : Bool) : Str := Str.ofString (if s then "-" else "")
theorem signS_len (s : Bool) : (signS s).length ≤ 1 := by cases s <;> decide
theorem headS_len {b n : Nat} (s : Bool) (hb : Bs b) (hf : Few b n) : ((Str.empty ++ signS s) ++ rowS b n).length ≤ 2401 := by
  have h1 := rowS_len hb hf
  have h2 := signS_len s
  rw [len_app, len_app, show (Str.empty : Str).length = 0 from rfl]
  omega
theorem longS_part {b n : Nat} {s : Bool} (hb : Bs b) : Txt.partition (longS b n s) ":" = ((Str.empty ++ signS s) ++ rowS b n, (":" : Str), nS b) := by
  refine TL.partition_app (s := 58) (S := []) rfl fun h => ?_
  rw [TL.tl_append, TL.tl_append, List.mem_append, List.mem_append] at h
  rcases h with (h | h) | h
  · cases h
  · cases s
    · cases h
    · have : (58 : Nat) ∈ [45] := h
      simp at this
  · have := rowS_signs hb h
    omega
theorem signs_ok {b n : Nat} {s : Bool} (hb : Bs b) : ∀ c ∈ TL.tl ((Str.empty ++ signS s) ++ rowS b n), c < 128 := fun c h => by
  rw [TL.tl_append, TL.tl_append, List.mem_append, List.mem_append] at h
  rcases h with (h | h) | h
  · cases h
  · cases s
    · cases h
    · have : c ∈ [45] := h
      rw [List.mem_singleton] at this
      omega
  · have := rowS_signs hb h
    omega
theorem head_neg {b n : Nat} {s : Bool} (hb : Bs b) : decide (cutS ((Str.empty ++ signS s) ++ rowS b n) none (some 1) = ("-" : Str)) = s := by
  cases s with
  | true =>
    rw [decide_eq_true_eq]
    refine TL.ext_tl ?_
    rw [tl_cut1, TL.tl_append, TL.tl_append]
    rfl
  | false =>
    rw [decide_eq_false_iff_not]
    intro h
    have e := congrArg TL.tl h
    rw [tl_cut1, TL.tl_append, TL.tl_append] at e
    have e2 : (TL.tl (rowS b n)).take 1 = [45] := e
    have : (45 : Nat) ∈ TL.tl (rowS b n) := List.mem_of_mem_take (by rw [e2]; exact List.mem_singleton.mpr rfl)
    have := rowS_signs hb this
    omega
theorem head_row {b n : Nat} : cutS ((Str.empty ++ signS true) ++ rowS b n) (some 1) none = rowS b n := by
  refine TL.ext_tl ?_
  rw [tl_cutd, TL.tl_append, TL.tl_append]
  rfl
theorem head_row0 {b n : Nat} : ((Str.empty ++ signS false) ++ rowS b n : Str) = rowS b n := by
  refine TL.ext_tl ?_
  rw [TL.tl_append, TL.tl_append]
  rfl
theorem nS_ascii (n : Nat) : ∀ c ∈ TL.tl (nS n), c < 128 := fun c h => by
  rw [nS_tl] at h
  have := TL.numL_digits n c h
  omega
theorem longS_ascii {b n : Nat} {s : Bool} (hb : Bs b) : ∀ c ∈ TL.tl (longS b n s), c < 128 := fun c h => by
  have e : longS b n s = (((Str.empty ++ signS s) ++ rowS b n) ++ ":") ++ nS b := rfl
  rw [e, TL.tl_append, TL.tl_append, List.mem_append, List.mem_append] at h
  rcases h with (h | h) | h
  · exact signs_ok hb c h
  · have : c ∈ [58] := h
    rw [List.mem_singleton] at this
    omega
  · exact nS_ascii b c h
theorem few_bnd {b n : Nat} (hb : Bs b) (hf : Few b n) : n < 2 ^ BND := by
  have h := rw_lt hb.1 n
  have hl : (rw b n).length ≤ 400 := hf
  refine Nat.lt_of_lt_of_le h ?_
  refine Nat.le_trans (Nat.pow_le_pow_left (show b ≤ 2 ^ 14 by have := hb.2; omega) _) ?_
  rw [← Nat.pow_mul]
  exact Nat.pow_le_pow_right (by decide) (by unfold BND; omega)
def ReadTail (b n : Nat) (s : Bool) (d d1 : D) : Prop := S_is_base.g [d] fun d_2 => onB d_2 fun c => if (!c) = true then False else gLen [d1] fun a => gGt a (D.int 400) fun d_3 => onB d_3 fun c => if c = true then False else
  S_is_row.g (gk_is_row_1_base [d1] [d]) fun d_4 => onB d_4 fun c => if (!c) = true then False else ∃ a, gk_Long_1_below_base [d1] [D.bl s, d] = S_Long_init.arg a ∧ S_Long_init.pre a ∧ ∃ gs, [D.ob "Long" (S_Long_init.fs a)] = [D.ob "Long" gs] ∧
  S_Long_str.g [D.ob "Long" (S_Long_init.fs a)] fun d => onS d fun z => pyOk (D.str z) = true ∧ pyOk (D.str (longS b n s)) = true ∧ if (!deqv (D.str z) (D.str (longS b n s))) = true then False else S_read_long.post (b, n, s) (D.ob "Long" (S_Long_init.fs a))
theorem read_tail {b n : Nat} {s : Bool} (hb : Bs b) (hf : Few b n) (hs : s = true → n ≠ 0) : ReadTail b n s (.int b) (rwD b n) := by
  have hl : (rw b n).length ≤ 400 := hf
  have hbn : n < 2 ^ BND := few_bnd hb hf
  have e0 : (s && !decide (n = 0)) = s := by
    cases s with
    | false => rfl
    | true => rw [decide_eq_false (hs rfl)]; rfl
  have e1 : D.ob "Long" (S_Long_init.fs (b, n, s)) = LO b n s := by
    show D.ob "Long" [("row", rwD b n), ("base", .int b), ("below", .bl (s && !decide (n = 0)))] = _
    rw [e0]
    rfl
  refine ⟨(b : Int), rfl, trivial, fun d hd => ?_⟩
  obtain rfl : d = .bl (decide (2 ≤ (b : Int) ∧ (b : Int) ≤ 10000)) := hd
  rw [decide_eq_true (by have := hb.1; have := hb.2; omega)]
  simp only [rwD, row, ex_seq, ex_next, ex_if, ex_ret, ex_set, ex_setO, ex_app, ex_aug, ex_var, ex_vw, ex_c, ex_d2, ex_b, ex_onD, ex_onVd, ex_onVo, ex_onO, ex_onB, ex_onS, ex_int, ex_addI, ex_addS, ex_addT, ex_nil, ex_cons, ex_tup, ex_lst, ex_cb, ex_tupleL, ex_tupleT, get_0, get_s, ex_for, ex_nm, ex_gnil, ex_gcons, ex_gtup, ex_gtupL, ex_asg, ex_par, ex_iseq, ex_onSeqT, ex_onSeqL, ex_onSeqS, ex_ienum, ex_irev, ex_onLTt, ex_onLTl, ex_rng1, ex_ifE, ex_and, ex_or, ex_not, ex_andV, ex_orV, ex_notV, ex_ixL, ex_call, ex_callN, ex_rev, ex_revL, ex_cat, ex_rep, ex_sl, ex_slA, ex_slL, ex_nopt, ex_pt, ex_eq, ex_ne, ex_yes, ex_lc, ex_lenT, ex_lenL, ex_lenS, ex_int2, ex_augIx, ex_isT, ex_chain, ex_asg2, ex_neg, List.set, startD, List.replicate, List.map_nil, List.map_cons, List.length_cons, List.length_nil, List.cons_append, List.nil_append, Nat.sub_self, Nat.reduceSub, Nat.reduceAdd, wipeE, decide_true, decide_false, if_true, if_false, true_and, and_true, Bool.not_true, Bool.not_false, Bool.false_eq_true, ex_frz, ex_draw, ex_fld, ex_meth, ex_make, ex_isC, ex_joinS, ex_orS, ex_joined, ex_js, ex_js0, ex_fmt, ex_part, ex_split, ex_inS, ex_toStr, ex_toIntS, ex_ownT, ex_own, ex_listL, ex_listT, ex_reprT, ex_reprL, ex_reprI, ex_slS, ex_toIntB, ex_toIntI, ex_put, ex_drop, ex_never, isT1, isT2, isT3, isT4, tyI, tyT, tyS, pyI, pyB, pyT0, pyIs, Nat.zero_le, deqv_int, deqv_bl]
  rw [decide_eq_false (by rw [List.length_map]; omega), if_neg (by decide)]
  refine ⟨(b, n), rfl, ⟨hb, hbn⟩, fun d hd => ?_⟩
  obtain rfl : d = .bl true := hd
  simp only [ex_seq, ex_next, ex_if, ex_ret, ex_set, ex_setO, ex_app, ex_aug, ex_var, ex_vw, ex_c, ex_d2, ex_b, ex_onD, ex_onVd, ex_onVo, ex_onO, ex_onB, ex_onS, ex_int, ex_addI, ex_addS, ex_addT, ex_nil, ex_cons, ex_tup, ex_lst, ex_cb, ex_tupleL, ex_tupleT, get_0, get_s, ex_for, ex_nm, ex_gnil, ex_gcons, ex_gtup, ex_gtupL, ex_asg, ex_par, ex_iseq, ex_onSeqT, ex_onSeqL, ex_onSeqS, ex_ienum, ex_irev, ex_onLTt, ex_onLTl, ex_rng1, ex_ifE, ex_and, ex_or, ex_not, ex_andV, ex_orV, ex_notV, ex_ixL, ex_call, ex_callN, ex_rev, ex_revL, ex_cat, ex_rep, ex_sl, ex_slA, ex_slL, ex_nopt, ex_pt, ex_eq, ex_ne, ex_yes, ex_lc, ex_lenT, ex_lenL, ex_lenS, ex_int2, ex_augIx, ex_isT, ex_chain, ex_asg2, ex_neg, List.set, startD, List.replicate, List.map_nil, List.map_cons, List.length_cons, List.length_nil, List.cons_append, List.nil_append, Nat.sub_self, Nat.reduceSub, Nat.reduceAdd, wipeE, decide_true, decide_false, if_true, if_false, true_and, and_true, Bool.not_true, Bool.not_false, Bool.false_eq_true, ex_frz, ex_draw, ex_fld, ex_meth, ex_make, ex_isC, ex_joinS, ex_orS, ex_joined, ex_js, ex_js0, ex_fmt, ex_part, ex_split, ex_inS, ex_toStr, ex_toIntS, ex_ownT, ex_own, ex_listL, ex_listT, ex_reprT, ex_reprL, ex_reprI, ex_slS, ex_toIntB, ex_toIntI, ex_put, ex_drop, ex_never, isT1, isT2, isT3, isT4, tyI, tyT, tyS, pyI, pyB, pyT0, pyIs, Nat.zero_le, deqv_int, deqv_bl]
  refine ⟨(b, n, s), rfl, hb.1, _, rfl, (b, n, s), ?_, ⟨hb, hf⟩, fun d hd => ?_⟩
  · rw [e1]; rfl
  · obtain rfl : d = .str (longS b n s) := hd
    simp only [ex_seq, ex_next, ex_if, ex_ret, ex_set, ex_setO, ex_app, ex_aug, ex_var, ex_vw, ex_c, ex_d2, ex_b, ex_onD, ex_onVd, ex_onVo, ex_onO, ex_onB, ex_onS, ex_int, ex_addI, ex_addS, ex_addT, ex_nil, ex_cons, ex_tup, ex_lst, ex_cb, ex_tupleL, ex_tupleT, get_0, get_s, ex_for, ex_nm, ex_gnil, ex_gcons, ex_gtup, ex_gtupL, ex_asg, ex_par, ex_iseq, ex_onSeqT, ex_onSeqL, ex_onSeqS, ex_ienum, ex_irev, ex_onLTt, ex_onLTl, ex_rng1, ex_ifE, ex_and, ex_or, ex_not, ex_andV, ex_orV, ex_notV, ex_ixL, ex_call, ex_callN, ex_rev, ex_revL, ex_cat, ex_rep, ex_sl, ex_slA, ex_slL, ex_nopt, ex_pt, ex_eq, ex_ne, ex_yes, ex_lc, ex_lenT, ex_lenL, ex_lenS, ex_int2, ex_augIx, ex_isT, ex_chain, ex_asg2, ex_neg, List.set, startD, List.replicate, List.map_nil, List.map_cons, List.length_cons, List.length_nil, List.cons_append, List.nil_append, Nat.sub_self, Nat.reduceSub, Nat.reduceAdd, wipeE, decide_true, decide_false, if_true, if_false, true_and, and_true, Bool.not_true, Bool.not_false, Bool.false_eq_true, ex_frz, ex_draw, ex_fld, ex_meth, ex_make, ex_isC, ex_joinS, ex_orS, ex_joined, ex_js, ex_js0, ex_fmt, ex_part, ex_split, ex_inS, ex_toStr, ex_toIntS, ex_ownT, ex_own, ex_listL, ex_listT, ex_reprT, ex_reprL, ex_reprI, ex_slS, ex_toIntB, ex_toIntI, ex_put, ex_drop, ex_never, isT1, isT2, isT3, isT4, tyI, tyT, tyS, pyI, pyB, pyT0, pyIs, Nat.zero_le, deqv_int, deqv_bl]
    refine ⟨pyOk_str (longS_ascii hb), pyOk_str (longS_ascii hb), ?_⟩
    rw [deqv_str, decide_eq_true rfl, if_neg (by decide), e1]
    exact rfl
theorem ok_read_long : Keeps S_read_long T_read_long 8 := by
  rintro ⟨b, n, s⟩ ⟨hb, hf, hs⟩
  have hb : Bs b := hb
  have hf : Few b n := hf
  have hs : s = true → n ≠ 0 := hs
  have h1 := longS_len (s := s) hb hf
  have h2 := headS_len s hb hf
  have h3 := rowS_len hb hf
  show T_read_long ⟨_, S_read_long.post (b, n, s), _, _⟩ (startD 8 [.str (longS b n s)])
  simp only [T_read_long, ex_seq, ex_next, ex_if, ex_ret, ex_set, ex_setO, ex_app, ex_aug, ex_var, ex_vw, ex_c, ex_d2, ex_b, ex_onD, ex_onVd, ex_onVo, ex_onO, ex_onB, ex_onS, ex_int, ex_addI, ex_addS, ex_addT, ex_nil, ex_cons, ex_tup, ex_lst, ex_cb, ex_tupleL, ex_tupleT, get_0, get_s, ex_for, ex_nm, ex_gnil, ex_gcons, ex_gtup, ex_gtupL, ex_asg, ex_par, ex_iseq, ex_onSeqT, ex_onSeqL, ex_onSeqS, ex_ienum, ex_irev, ex_onLTt, ex_onLTl, ex_rng1, ex_ifE, ex_and, ex_or, ex_not, ex_andV, ex_orV, ex_notV, ex_ixL, ex_call, ex_callN, ex_rev, ex_revL, ex_cat, ex_rep, ex_sl, ex_slA, ex_slL, ex_nopt, ex_pt, ex_eq, ex_ne, ex_yes, ex_lc, ex_lenT, ex_lenL, ex_lenS, ex_int2, ex_augIx, ex_isT, ex_chain, ex_asg2, ex_neg, List.set, startD, List.replicate, List.map_nil, List.map_cons, List.length_cons, List.length_nil, List.cons_append, List.nil_append, Nat.sub_self, Nat.reduceSub, Nat.reduceAdd, wipeE, decide_true, decide_false, if_true, if_false, true_and, and_true, Bool.not_true, Bool.not_false, Bool.false_eq_true, ex_frz, ex_draw, ex_fld, ex_meth, ex_make, ex_isC, ex_joinS, ex_orS, ex_joined, ex_js, ex_js0, ex_fmt, ex_part, ex_split, ex_inS, ex_toStr, ex_toIntS, ex_ownT, ex_own, ex_listL, ex_listT, ex_reprT, ex_reprL, ex_reprI, ex_slS, ex_toIntB, ex_toIntI, ex_put, ex_drop, ex_never, isT1, isT2, isT3, isT4, tyI, tyT, tyS, pyI, pyB, pyT0, pyIs, Nat.zero_le, deqv_int, deqv_bl, -ex_gtup]
  refine ⟨⟨by decide, by unfold SZ; omega⟩, ?_⟩
  rw [longS_part hb]
  dsimp only
  rw [ex_gtup]
  refine ⟨rfl, ?_⟩
  rw [ex_gcons, ex_nm, ex_gcons, ex_nm, ex_gcons, ex_nm, ex_gnil]
  simp only [ex_seq, ex_next, ex_if, ex_ret, ex_set, ex_setO, ex_app, ex_aug, ex_var, ex_vw, ex_c, ex_d2, ex_b, ex_onD, ex_onVd, ex_onVo, ex_onO, ex_onB, ex_onS, ex_int, ex_addI, ex_addS, ex_addT, ex_nil, ex_cons, ex_tup, ex_lst, ex_cb, ex_tupleL, ex_tupleT, get_0, get_s, ex_for, ex_nm, ex_gnil, ex_gcons, ex_gtup, ex_gtupL, ex_asg, ex_par, ex_iseq, ex_onSeqT, ex_onSeqL, ex_onSeqS, ex_ienum, ex_irev, ex_onLTt, ex_onLTl, ex_rng1, ex_ifE, ex_and, ex_or, ex_not, ex_andV, ex_orV, ex_notV, ex_ixL, ex_call, ex_callN, ex_rev, ex_revL, ex_cat, ex_rep, ex_sl, ex_slA, ex_slL, ex_nopt, ex_pt, ex_eq, ex_ne, ex_yes, ex_lc, ex_lenT, ex_lenL, ex_lenS, ex_int2, ex_augIx, ex_isT, ex_chain, ex_asg2, ex_neg, List.set, startD, List.replicate, List.map_nil, List.map_cons, List.length_cons, List.length_nil, List.cons_append, List.nil_append, Nat.sub_self, Nat.reduceSub, Nat.reduceAdd, wipeE, decide_true, decide_false, if_true, if_false, true_and, and_true, Bool.not_true, Bool.not_false, Bool.false_eq_true, ex_frz, ex_draw, ex_fld, ex_meth, ex_make, ex_isC, ex_joinS, ex_orS, ex_joined, ex_js, ex_js0, ex_fmt, ex_part, ex_split, ex_inS, ex_toStr, ex_toIntS, ex_ownT, ex_own, ex_listL, ex_listT, ex_reprT, ex_reprL, ex_reprI, ex_slS, ex_toIntB, ex_toIntI, ex_put, ex_drop, ex_never, isT1, isT2, isT3, isT4, tyI, tyT, tyS, pyI, pyB, pyT0, pyIs, Nat.zero_le, deqv_int, deqv_bl]
  have eb : deqv (D.str (cutS ((Str.empty ++ signS s) ++ rowS b n) none (some 1))) (D.str "-") = s := by
    rw [deqv_str]
    exact head_neg hb
  have ha : ∀ c ∈ TL.tl (cutS ((Str.empty ++ signS s) ++ rowS b n) none (some 1)), c < 128 := fun c hc => by
    rw [tl_cut1] at hc
    exact signs_ok hb c (List.mem_of_mem_take hc)
  refine ⟨by unfold SZ; omega, pyOk_str ha, pyOk_str (by decide), b, rfl, show b ≤ 10000 from hb.2, fun d hd => ?_⟩
  obtain rfl : d = .int b := hd
  rw [eb]
  cases s with
  | true =>
    rw [if_pos rfl, head_row]
    refine ⟨by unfold SZ; omega, (b, n), rfl, ⟨hb, hf⟩, fun d hd => ?_⟩
    obtain rfl : d = rwD b n := hd
    exact read_tail hb hf hs
  | false =>
    rw [if_neg (by decide), head_row0]
    refine ⟨(b, n), rfl, ⟨hb, hf⟩, fun d hd => ?_⟩
    obtain rfl : d = rwD b n := hd
    exact read_tail hb hf hs
end MD
end
section
/-! repr of plain data: what is asked of it holds. -/
namespace MD
open PySem L2
mutual
/-- numbers of at most eight figures, truths, tuples and lists of these -/
def plD : D → Bool
  | .non => true
  | .bl _ => true
  | .int i => decide (0 ≤ i ∧ i < 100000000)
  | .tup ds => plL ds
  | .lst ds => plL ds
  | _ => false
def plL : List D → Bool
  | [] => true
  | d :: ds => plD d && plL ds
end
theorem plL_map {α : Type} {f : α → D} : ∀ {xs : List α}, (∀ x ∈ xs, plD (f x) = true) → plL (xs.map f) = true
  | [], _ => rfl
  | x :: xs, h => by
    show (plD (f x) && plL (xs.map f)) = true
    rw [h x (List.mem_cons_self ..), plL_map fun y hy => h y (List.mem_cons_of_mem _ hy)]
    rfl
theorem log_small8 {i : Int} (h : 0 ≤ i ∧ i < 100000000) : i.natAbs.log2 < 1920 := by
  by_cases h0 : i.natAbs = 0
  · rw [h0]; decide
  · have : i.natAbs < 2 ^ 27 := by omega
    have := (Nat.log2_lt h0).mpr this
    omega
mutual
theorem pl_py : ∀ {d : D}, plD d = true → isPy d = true
  | .non, _ => rfl
  | .bl _, _ => rfl
  | .int _, _ => rfl
  | .tup ds, h => pl_pyL (ds := ds) h
  | .lst ds, h => pl_pyL (ds := ds) h
  | .str _, h => by cases h
  | .ob _ _, h => by cases h
  | .fn _, h => by cases h
  | .scr _, h => by cases h
  | .res _, h => by cases h
theorem pl_pyL : ∀ {ds : List D}, plL ds = true → isPyL ds = true
  | [], _ => rfl
  | d :: ds, h => by
    have h : (plD d && plL ds) = true := h
    rw [Bool.and_eq_true] at h
    show (isPy d && isPyL ds) = true
    rw [pl_py h.1, pl_pyL h.2]
    rfl
end
mutual
theorem pl_show : ∀ {d : D}, plD d = true → (toPy d).showable = true
  | .non, _ => rfl
  | .bl _, _ => rfl
  | .int i, h => by
    have h : 0 ≤ i ∧ i < 100000000 := of_decide_eq_true h
    exact decide_eq_true (log_small8 h)
  | .tup ds, h => pl_showL (ds := ds) h
  | .lst ds, h => pl_showL (ds := ds) h
  | .str _, h => by cases h
  | .ob _ _, h => by cases h
  | .fn _, h => by cases h
  | .scr _, h => by cases h
  | .res _, h => by cases h
theorem pl_showL : ∀ {ds : List D}, plL ds = true → PyData.showableAll (toPyL ds) = true
  | [], _ => rfl
  | d :: ds, h => by
    have h : (plD d && plL ds) = true := h
    rw [Bool.and_eq_true] at h
    show ((toPy d).showable && PyData.showableAll (toPyL ds)) = true
    rw [pl_show h.1, pl_showL h.2]
    rfl
end
theorem digN_len {i : Int} (h : 0 ≤ i ∧ i < 100000000) : (toString i : Str).length ≤ 8 := by
  obtain ⟨n, rfl⟩ := Int.eq_ofNat_of_zero_le h.1
  rw [TL.len_tl]
  show (TL.tl (nS n)).length ≤ 8
  rw [nS_tl]
  exact TL.numL_len (by decide) (show n < 10 ^ 8 by omega)
mutual
theorem pl_short : ∀ {d : D}, plD d = true → (toPy d).leavesShort 8 = true
  | .non, _ => rfl
  | .bl _, _ => rfl
  | .int i, h => decide_eq_true (digN_len (of_decide_eq_true h))
  | .tup ds, h => pl_shortL (ds := ds) h
  | .lst ds, h => pl_shortL (ds := ds) h
  | .str _, h => by cases h
  | .ob _ _, h => by cases h
  | .fn _, h => by cases h
  | .scr _, h => by cases h
  | .res _, h => by cases h
theorem pl_shortL : ∀ {ds : List D}, plL ds = true → PyData.leavesShortAll 8 (toPyL ds) = true
  | [], _ => rfl
  | d :: ds, h => by
    have h : (plD d && plL ds) = true := h
    rw [Bool.and_eq_true] at h
    show ((toPy d).leavesShort 8 && PyData.leavesShortAll 8 (toPyL ds)) = true
    rw [pl_short h.1, pl_shortL h.2]
    rfl
end
theorem join_mem {S : Str} {ts : List Str} {c : Nat} (h : c ∈ TL.tl (Str.join S ts)) : c ∈ TL.tl S ∨ ∃ t ∈ ts, c ∈ TL.tl t := by
  rw [TL.tl_join] at h
  rcases joinL_mem h with h | ⟨p, hp, h⟩
  · exact Or.inl h
  · obtain ⟨t, ht, rfl⟩ := List.mem_map.mp hp
    exact Or.inr ⟨t, ht, h⟩
theorem tupleText_mem {ts : List Str} {c : Nat} (h : c ∈ TL.tl (tupleText ts)) : c < 128 ∨ ∃ t ∈ ts, c ∈ TL.tl t := by
  unfold tupleText at h
  rw [TL.tl_append, TL.tl_append, List.mem_append, List.mem_append] at h
  rcases h with (h | h) | h
  · have : c ∈ [40] := h
    rw [List.mem_singleton] at this
    exact Or.inl (by omega)
  · rcases join_mem h with h | h
    · have : c ∈ [44, 32] := h
      simp only [List.mem_cons, List.not_mem_nil, or_false] at this
      exact Or.inl (by omega)
    · exact Or.inr h
  · split at h
    · have : c ∈ [44, 41] := h
      simp only [List.mem_cons, List.not_mem_nil, or_false] at this
      exact Or.inl (by omega)
    · have : c ∈ [41] := h
      rw [List.mem_singleton] at this
      exact Or.inl (by omega)
theorem textFrom_mem {c : Nat} : ∀ {ts : List Str} {k : Nat} {acc : Str}, c ∈ TL.tl (textFrom k acc ts) → c < 128 ∨ c ∈ TL.tl acc ∨ ∃ t ∈ ts, c ∈ TL.tl t
  | [], k, acc, h => Or.inr (Or.inl h)
  | t :: ts, k, acc, h => by
    rcases textFrom_mem (show c ∈ TL.tl (textFrom (k + 1) (acc ++ (if k > 0 then ", " else "" : String) ++ t) ts) from h) with h | h | ⟨u, hu, h⟩
    · exact Or.inl h
    · rw [TL.tl_append, TL.tl_append, List.mem_append, List.mem_append] at h
      rcases h with (h | h) | h
      · exact Or.inr (Or.inl h)
      · split at h
        · have : c ∈ [44, 32] := h
          simp only [List.mem_cons, List.not_mem_nil, or_false] at this
          exact Or.inl (by omega)
        · cases h
      · exact Or.inr (Or.inr ⟨t, List.mem_cons_self .., h⟩)
    · exact Or.inr (Or.inr ⟨u, List.mem_cons_of_mem _ hu, h⟩)
theorem listText_mem {ts : List Str} {c : Nat} (h : c ∈ TL.tl (listText ts)) : c < 128 ∨ ∃ t ∈ ts, c ∈ TL.tl t := by
  unfold listText at h
  rw [TL.tl_append, List.mem_append] at h
  rcases h with h | h
  · rcases textFrom_mem h with h | h | h
    · exact Or.inl h
    · have : c ∈ [91] := h
      rw [List.mem_singleton] at this
      exact Or.inl (by omega)
    · exact Or.inr h
  · have : c ∈ [93] := h
    rw [List.mem_singleton] at this
    exact Or.inl (by omega)
mutual
theorem pl_ascii : ∀ {d : D}, plD d = true → ∀ c ∈ TL.tl (toPy d).shown, c < 128
  | .non, _, c, hc => by
    have : c ∈ [78, 111, 110, 101] := hc
    simp only [List.mem_cons, List.not_mem_nil, or_false] at this
    omega
  | .bl b, _, c, hc => by
    cases b
    · have : c ∈ [70, 97, 108, 115, 101] := hc
      simp only [List.mem_cons, List.not_mem_nil, or_false] at this
      omega
    · have : c ∈ [84, 114, 117, 101] := hc
      simp only [List.mem_cons, List.not_mem_nil, or_false] at this
      omega
  | .int i, h, c, hc => by
    have h : 0 ≤ i ∧ i < 100000000 := of_decide_eq_true h
    obtain ⟨n, rfl⟩ := Int.eq_ofNat_of_zero_le h.1
    exact nS_ascii n c hc
  | .tup ds, h, c, hc => by
    rcases tupleText_mem (show c ∈ TL.tl (tupleText (PyData.shownAll (toPyL ds))) from hc) with h' | ⟨t, ht, h'⟩
    · exact h'
    · exact pl_asciiL (ds := ds) h t ht c h'
  | .lst ds, h, c, hc => by
    rcases listText_mem (show c ∈ TL.tl (listText (PyData.shownAll (toPyL ds))) from hc) with h' | ⟨t, ht, h'⟩
    · exact h'
    · exact pl_asciiL (ds := ds) h t ht c h'
  | .str _, h, _, _ => by cases h
  | .ob _ _, h, _, _ => by cases h
  | .fn _, h, _, _ => by cases h
  | .scr _, h, _, _ => by cases h
  | .res _, h, _, _ => by cases h
theorem pl_asciiL : ∀ {ds : List D}, plL ds = true → ∀ t ∈ PyData.shownAll (toPyL ds), ∀ c ∈ TL.tl t, c < 128
  | [], _, t, ht, _, _ => by cases ht
  | d :: ds, h, t, ht, c, hc => by
    have h : (plD d && plL ds) = true := h
    rw [Bool.and_eq_true] at h
    rcases List.mem_cons.mp (show t ∈ (toPy d).shown :: PyData.shownAll (toPyL ds) from ht) with e | ht
    · subst e
      exact pl_ascii h.1 c hc
    · exact pl_asciiL h.2 t ht c hc
end
/-- what a repr asks, and what its text is to == -/
theorem repr_ok {d : D} (h : plD d = true) (hd : (toPy d).depth ≤ 20) (hw : (toPy d).weight ≤ 9000) : showOk d = true ∧ pyOk (.str (shownD d)) = true := by
  refine ⟨?_, pyOk_str (pl_ascii h)⟩
  unfold showOk
  have h1 := PyData.shown_le 8 (by decide) (toPy d) (pl_short h)
  rw [pl_py h, pl_show h, decide_eq_true hd, decide_eq_true (show (toPy d).shown.length ≤ SZ by unfold SZ; omega)]
  rfl
theorem weight_int {i : Int} (h : 0 ≤ i ∧ i < 16384) : (toPy (.int i)).weight ≤ 14 := by
  show (if (i == 0) = true then 0 else i.natAbs.log2 + 1) ≤ 14
  by_cases h0 : i = 0
  · rw [if_pos (by rw [h0]; rfl)]
    omega
  · rw [if_neg (by rw [beq_iff_eq]; exact h0)]
    have := (Nat.log2_lt (show i.natAbs ≠ 0 by omega)).mpr (show i.natAbs < 2 ^ 14 by omega)
    omega
theorem weight_ints : ∀ ns : List Int, (∀ i ∈ ns, 0 ≤ i ∧ i < 16384) → PyData.weightAll (toPyL (ns.map D.int)) ≤ 15 * ns.length
  | [], _ => Nat.zero_le _
  | n :: ns, h => by
    have h1 := weight_int (h n (List.mem_cons_self ..))
    have h2 := weight_ints ns fun i hi => h i (List.mem_cons_of_mem _ hi)
    show ((toPy (.int n)).weight + 1 + PyData.weightAll (toPyL (ns.map D.int))) ≤ 15 * (ns.length + 1)
    omega
theorem pl_row {b n : Nat} (hb : Bs b) : plD (rwD b n) = true := plL_map fun d hd => decide_eq_true (by
  have := rw_dg hb.1 n d hd
  have := hb.2
  omega)
theorem weight_row {b n : Nat} (hb : Bs b) : (toPy (rwD b n)).weight ≤ 15 * (rw b n).length := weight_ints _ fun d hd => by
  have := rw_dg hb.1 n d hd
  have := hb.2
  omega
theorem depth_row {b n : Nat} : (toPy (rwD b n)).depth = 1 := by
  show PyData.depthAll (toPyL ((rw b n).map D.int)) + 1 = 1
  rw [depth_ints]
theorem repr_row {b n : Nat} (hb : Bs b) (hl : (rw b n).length ≤ 600) : showOk (rwD b n) = true ∧ pyOk (.str (shownD (rwD b n))) = true := by
  refine repr_ok (pl_row hb) (by rw [depth_row]; decide) ?_
  have := weight_row (n := n) hb
  omega
end MD
end
section
/-! int(sign, 36). -/
namespace MD
open PySem PySem.Spec PyProof.Rows L2
/-- a figure to base 36 -/
def IsFig (c : Nat) : Prop := c ∈ [48, 49, 50, 51, 52, 53, 54, 55, 56, 57, 97, 98, 99, 100, 101, 102, 103, 104, 105, 106, 107, 108, 109, 110, 111, 112, 113, 114, 115, 116, 117, 118, 119, 120, 121, 122]
def figV (c : Nat) : Nat := if c < 97 then c - 48 else c - 87
open PySem.NumText PySem.Calls in
theorem read_fig {c : Nat} (h : IsFig c) : (int_private% "readNumeral") 0 36 [c] = (int_private% "Numeral.value") ((figV c : Nat) : Int) := by
  unfold IsFig at h
  simp only [List.mem_cons, List.not_mem_nil, or_false] at h
  rcases h with h | h | h | h | h | h | h | h | h | h | h | h | h | h | h | h | h | h | h | h | h | h | h | h | h | h | h | h | h | h | h | h | h | h | h | h <;> subst h <;> rfl
open PySem.NumText PySem.Calls in
theorem seen_fig {c : Nat} (h : IsFig c) : numTextOf (⟨#[c]⟩ : PySem.Str) = [c] ∧ numSeenOf (⟨#[c]⟩ : PySem.Str) = [c] := by
  unfold IsFig at h
  simp only [List.mem_cons, List.not_mem_nil, or_false] at h
  rcases h with h | h | h | h | h | h | h | h | h | h | h | h | h | h | h | h | h | h | h | h | h | h | h | h | h | h | h | h | h | h | h | h | h | h | h | h <;> subst h <;> exact ⟨by decide +kernel, by decide +kernel⟩
open PySem.NumText PySem.Calls in
set_option maxHeartbeats 4000000 in
theorem gives_fig {c : Nat} {u t : Tok} (h : IsFig c) :
    Gives (Builtin.«int.__new__» ⟨[.type "int", .str ⟨#[c]⟩ u, .int 36 t], []⟩) (.int ((figV c : Nat) : Int)) :=
  .of_wp fun M A E s Q hQ => by
    obtain ⟨hp, g, d, tk, os⟩ := s
    have f1 := F.conv_sub_int
    have f2 := F.madeHere_int
    have f6 : typeOf (.str ⟨#[c]⟩ u) = pure (.type "str") := rfl
    obtain ⟨e1, e2⟩ := seen_fig h
    have hk := Hx.Hid.mk (show (numSeenOf (⟨#[c]⟩ : PySem.Str)).length ≤ 640 ∧ (int_private% "readNumeral") 0 36 (numSeenOf (⟨#[c]⟩ : PySem.Str)) = (int_private% "Numeral.value") ((figV c : Nat) : Int) ∧ ((numSeenOf (⟨#[c]⟩ : PySem.Str)).length == (numTextOf (⟨#[c]⟩ : PySem.Str)).length) = true from by
      rw [e1, e2]
      exact ⟨(show 1 ≤ 640 by omega), read_fig h, rfl⟩)
    clear e1 e2 h
    repeat (any_goals (first
      | assumption
      | ((with_reducible show wpAny _ _ ((int_private% "intFromText") _ _ _) _ _ _); refine Hx.wp_textB hk.out.1 hk.out.2.1 hk.out.2.2 ?_)
      | wp_step))
    all_goals first | exact ⟨_, rfl, hQ⟩ | skip
theorem call_fig {prog : Program} {w : World} {A : Around} {E : Value → Shared → Prop} {s : Shared} {Q : Value → Shared → Prop} {c : Nat} {u t : Tok} (h : IsFig c)
    (hQ : Q (.int ((figV c : Nat) : Int) s.toks) { s with toks := s.toks + 1 }) : wpAny (model prog w) A (call (.type "int") [.str ⟨#[c]⟩ u, .int 36 t]) Q E s :=
  callType_new F.called_int F.newNe_int (Hx.typeCall_int_2 _ _) (Hx.newCall_int_2 _ _) (fun obj => F.initArgs_range_2 obj _ _) F.entry_int_new (gives_fig h).meets (show (Made.int ((figV c : Nat) : Int)).post _ s from ⟨rfl, hQ⟩)
def rFig : List V → Hp → VK → Prop := fun xs H Q => ∃ c : Nat, xs = [.str ⟨#[c]⟩, .int 36] ∧ IsFig c ∧ Q (.int ((figV c : Nat) : Int)) H
theorem call_intFig {X : Cx} : CallR X (.type "int") rFig := by
  intro pins s σ H xs us Q I r h
  obtain ⟨c, rfl, hc, q⟩ := h
  obtain ⟨u, w', rfl, r1, r2⟩ := vals2 r
  obtain ⟨t1, rfl⟩ := r1
  obtain ⟨t2, rfl⟩ := r2
  exact call_fig hc ⟨.int ((figV c : Nat) : Int), H, I.tok _, ⟨_, rfl⟩, q⟩
/-- int(sign, 36) -/
def gInt36 : GC := fun ds Q => match ds with
  | [.str x, .int b] => b = 36 ∧ ∃ c : Nat, x = ⟨#[c]⟩ ∧ IsFig c ∧ Q (.int (figV c))
  | _ => False
theorem dc_int36 {X : Cx} : DC X (.type "int") gInt36 := ⟨_, call_intFig, fun R _ _ _ _ _ _ _ S vs ds r Qd Q h k => by
  unfold gInt36 at h
  split at h
  · obtain ⟨rfl, c, rfl, hc, q⟩ := h
    cases r with
    | cons r1 r =>
      cases r with
      | cons r2 r =>
        cases r
        rw [r1.str', r2.int']
        exact ⟨c, rfl, hc, k _ _ _ q .refl (.int _)⟩
  · exact h.elim⟩
end MD
end
section
/-! sorted: pairs of a number and data, where equal numbers have equal data. -/
namespace MD
open PySem PySem.Spec PyProof.Rows L2
/-- the number at the head of a tuple -/
def keyAt (h : Heap) (v : Value) : Int := match v with
  | .ref a => match h.get? a with
    | some o => match o.data with
      | .seq xs _ => match xs[0]? with
        | some (Value.int n _) => n
        | _ => 0
      | _ => 0
    | none => 0
  | _ => 0
/-- a tuple of the number n and of data e -/
def Pw (h : Heap) (v : Value) (n : Int) (e : PyData) : Prop := ∃ a o t w k as, v = .ref a ∧ h.get? a = some o ∧ o.cls = .type "tuple" ∧ o.data = .seq #[.int n t, w] k ∧ Reads h w e as ∧ SeqAt.shaped e = true
theorem Pw.key {h : Heap} {v : Value} {n : Int} {e : PyData} (p : Pw h v n e) : keyAt h v = n := by
  obtain ⟨a, o, t, w, k, as, rfl, ho, hc, hd, _⟩ := p
  unfold keyAt
  simp only [ho, hd]
  rfl
theorem Pw.keeps {h h' : Heap} {v : Value} {n : Int} {e : PyData} (p : Pw h v n e) (kp : ∀ b o, h.get? b = some o → h'.get? b = some o) : Pw h' v n e := by
  obtain ⟨a, o, t, w, k, as, rfl, ho, hc, hd, r, s⟩ := p
  exact ⟨a, o, t, w, k, as, rfl, kp _ _ ho, hc, hd, Reads.keeps kp r, s⟩
/-- of all items: what they are, and equal numbers have equal data -/
def Pws (h : Heap) (vs : List Value) (f : Value → PyData) : Prop := (∀ v ∈ vs, Pw h v (keyAt h v) (f v)) ∧ ∀ v ∈ vs, ∀ u ∈ vs, keyAt h v = keyAt h u → PyData.eqv (f v) (f u) = true
theorem swo_key (h : Heap) : SrtO.Swo fun v u => decide (keyAt h v < keyAt h u) := by
  refine ⟨fun x y h => ?_, fun x y z h1 h2 => ?_⟩
  · have := of_decide_eq_true h
    exact decide_eq_false (by omega)
  · have := of_decide_eq_false h1
    have := of_decide_eq_false h2
    exact decide_eq_false (by omega)
section
variable {prog : Program} {w : World} {A : Around} {E : Value → Shared → Prop} {s : Shared}
theorem firsts_pw {h : Heap} : ∀ {vs : List Value}, (∀ v ∈ vs, ∃ n e, Pw h v n e) → ∃ fs, PySem.W.KatTups h vs fs ∧ fs.length = vs.length ∧ ∀ f ∈ fs, ∃ n t, f = Value.int n t
  | [], _ => ⟨[], PySem.W.KatTups.nil, rfl, fun f hf => by cases hf⟩
  | v :: vs, hx => by
    obtain ⟨fs, h1, h2, h3⟩ := firsts_pw fun u hu => hx u (List.mem_cons_of_mem _ hu)
    obtain ⟨n, e, a, o, t, w, k, as, rfl, ho, hc, hd, _⟩ := hx v (List.mem_cons_self ..)
    refine ⟨.int n t :: fs, PySem.W.KatTups.cons ho hc hd (by rfl) h1, by rw [List.length_cons, List.length_cons, h2], fun f hf => ?_⟩
    rcases List.mem_cons.mp hf with rfl | hf
    · exact ⟨n, t, rfl⟩
    · exact h3 f hf
theorem pw_cmp {h0 : Heap} {vs : List Value} {f : Value → PyData} (hp : Pws h0 vs f) (kp : ∀ b o, h0.get? b = some o → s.heap.get? b = some o) (hu : A.units + 64 < cLine) :
    SrtO.Cmp prog w A s (tuples' true) (fun p => p.1 ∈ vs) (SrtO.lt2 fun v u => decide (keyAt h0 v < keyAt h0 u)) := by
  intro p q hm hm'
  have h1 := (hp.1 _ hm).keeps kp
  have h2 := (hp.1 _ hm').keeps kp
  have h3 := hp.2 _ hm _ hm'
  show wpAny (model prog w) A (keyLt' (tuples' true) p.1 q.1) (fun r s' => s' = s ∧ r = decide (keyAt h0 p.1 < keyAt h0 q.1)) (fun _ _ => False) s
  revert h1 h2 h3
  generalize keyAt h0 p.1 = x
  generalize keyAt h0 q.1 = y
  intro h1 h2 h3
  obtain ⟨a, o, t, u, n, as, e, ho, hc, hd, r1, s1⟩ := h1
  obtain ⟨a', o', t', u', n', as', e', ho', hc', hd', r2, s2⟩ := h2
  rw [e, e']
  refine PySem.W.kat_lt ho hd ho' hd' ?_
  show PySem.W.KatLex prog w A true (decide (2 < 2)) _ [(.int x t, .int y t'), (u, u')] 0 s
  refine PySem.W.kat_cons (SeqAt.EqAt.int_int x t y t' prog w _ _ ?_)
  refine PySem.W.kat_go (fun e1 => ?_) (fun e1 => ?_)
  · have ex : x = y := by simpa using e1
    refine PySem.W.kat_yes (PySem.W.kat_cons (SeqAt.eqBoolOverData prog w A _ s _ _ _ _ as as' _ r1 r2 (SeqAt.canLay_of_shaped s1) (SeqAt.canLay_of_shaped s2) (SeqAt.room_of_shaped s1 hu) ?_))
    rw [h3 ex]
    refine PySem.W.kat_yes (PySem.W.kat_nil ⟨rfl, ?_⟩)
    rw [ex]
    exact (decide_eq_false (Int.lt_irrefl _)).symm
  · exact PySem.W.kat_no (oneLt_int ⟨rfl, rfl⟩)
end

def fwd : V → Value
  | .ref a => .ref a
  | _ => .none
/-- the items: tuples of a number and of data -/
def PwL (K : PySem.W.Frag) (H : Hp) (x : V) (n : Int) (e : PyData) : Prop := ∃ t w, x = .ref t ∧ SqT K H t [.int n, w] ∧ Dp K H w e ∧ SeqAt.shaped e = true
def rSortW (K : PySem.W.Frag) : List V → Hp → VK → Prop := fun vs H Q => ∃ (a : Addr) (zs : List (V × Int × PyData)), vs = [V.ref a] ∧ SqL K H a (zs.map (·.1)) ∧ (∀ z ∈ zs, PwL K H z.1 z.2.1 z.2.2) ∧
  (∀ z ∈ zs, ∀ z' ∈ zs, z.2.1 = z'.2.1 → PyData.eqv z.2.2 z'.2.2 = true) ∧
  ∀ (key : V → Int) ys p, (∀ z ∈ zs, key z.1 = z.2.1) → ys.Perm (zs.map (·.1)) → ys.Pairwise (fun x y => key x ≤ key y) → H p = none → Q (.ref p) (upd H p (.lst ys))
section
variable {X : Cx}
theorem pwL_at {pins : List (Addr × Obj)} {σ : L2.St} {H : Hp} {s : Shared} {x : V} {v : Value} {n : Int} {e : PyData} (I : Inv X pins σ H s) (r : RelV x v) (h : PwL X.K H x n e) : v = fwd x ∧ Pw s.heap v n e := by
  obtain ⟨t, w, rfl, ht, hd, sh⟩ := h
  cases r
  obtain ⟨its, rv, ⟨o, ho, hc, k, hdat⟩, _⟩ := I.tuple ht
  obtain ⟨u1, u2, rfl, r1, r2⟩ := vals2 rv
  obtain ⟨tk, rfl⟩ := r1
  obtain ⟨as, rd⟩ := Dp.reads I e w u2 hd r2
  exact ⟨rfl, t, o, tk, u2, k, as, rfl, ho, hc, hdat, rd, sh⟩
open Classical in
theorem cr_sortW (hu : X.A.in1.in1.units + 64 < cLine) : CallR X (.builtin "sorted") (rSortW X.K) := by
  intro pins s σ H vs us Q I r h
  obtain ⟨a, zs, rfl, hs, hx, heq, q⟩ := h
  obtain ⟨its, rv, hl, hz⟩ := I.list hs
  obtain ⟨u, rfl, ru⟩ := vals1 r
  obtain rfl : u = Value.ref a := ru
  obtain ⟨e1, e2⟩ := refs_back rv fun x m => by
    obtain ⟨z, hz, rfl⟩ := List.mem_map.mp m
    obtain ⟨t, w, e, _⟩ := hx z hz
    exact ⟨t, e⟩
  have back : ∀ v ∈ its, RelV (backV v) v := fun v hv => by
    obtain ⟨b, rfl⟩ := e2 v hv
    exact rfl
  have ex : ∀ v ∈ its, ∃ z, z ∈ zs ∧ z.1 = backV v := fun v hv => by
    have m : backV v ∈ zs.map (·.1) := by rw [e1]; exact List.mem_map.mpr ⟨_, hv, rfl⟩
    obtain ⟨z, hz, e⟩ := List.mem_map.mp m
    exact ⟨z, hz, e⟩
  have ex2 : ∀ v, ∃ z : V × Int × PyData, v ∈ its → z ∈ zs ∧ z.1 = backV v := fun v => by
    by_cases hv : v ∈ its
    · obtain ⟨z, h⟩ := ex v hv
      exact ⟨z, fun _ => h⟩
    · exact ⟨(.non, 0, .none), fun h => absurd h hv⟩
  let zf : Value → V × Int × PyData := fun v => choose (ex2 v)
  have hzf : ∀ v ∈ its, zf v ∈ zs ∧ (zf v).1 = backV v := fun v hv => choose_spec (ex2 v) hv
  have hpw : ∀ v ∈ its, Pw s.heap v (zf v).2.1 (zf v).2.2 := fun v hv => by
    obtain ⟨m, e⟩ := hzf v hv
    exact (pwL_at I (by rw [e]; exact back v hv) (hx _ m)).2
  have hP : Pws s.heap its fun v => (zf v).2.2 := by
    refine ⟨fun v hv => ?_, fun v hv u hu e => ?_⟩
    · rw [(hpw v hv).key]
      exact hpw v hv
    · rw [(hpw v hv).key, (hpw u hu).key] at e
      exact heq _ (hzf v hv).1 _ (hzf u hu).1 e
  refine SrtO.sorted_ord (ltv := fun v u => decide (keyAt s.heap v < keyAt s.heap u)) (swo_key s.heap) hl.isList (by rw [← rv.length]; exact hz) (fun h2 h₁ a' ha' kk => ?_) fun out h1 h2 => ?_
  · intro h' keep
    have kp : ∀ b o, s.heap.get? b = some o → h'.get? b = some o := fun b o e => keep b o (kk b o e).1 (kk b o e).2
    obtain ⟨fs, f1, f2, f3⟩ := firsts_pw (h := h') (vs := its) fun v hv => ⟨_, _, (hP.1 v hv).keeps kp⟩
    refine ⟨tuples' true, fun Q E hq => ?_, pw_cmp (s := { s with heap := h' }) hP kp hu⟩
    refine PySem.W.kat_kind (T := .type "int") f1 (by omega) (fun f hm => ?_) (by rfl) ?_
    · obtain ⟨x, t, rfl⟩ := f3 f hm
      exact PySem.W.Looks.now
    · have e : (Value.type "int" != Value.type "tuple") = true := by first | decide +kernel | rfl | decide
      rw [e]
      exact hq
  · have h3 : ∀ u ∈ out, ∃ a, u = Value.ref a := fun u hu => e2 u (h2.perm.mem_iff.mp hu)
    obtain ⟨ep, he'⟩ := PyProof.Rows.sortedAll_at s.heap its out.toArray
    have hlen : (out.map backV).length ≤ sizeLine := by
      rw [List.length_map, h2.perm.length_eq]
      rw [e1, List.length_map] at hz
      exact hz
    refine ⟨.ref (s.heap.objs.size + 1), upd H (s.heap.objs.size + 1) (.lst (out.map backV)), I.laid (t' := s.toks) (fun _ _ => PyProof.Rows.sortedAll_old) (Nat.le_succ _) ⟨hlen, out, ep, vals_back h3, he'⟩, rfl, ?_⟩
    refine q (fun x => keyAt s.heap (fwd x)) _ _ (fun z hz => ?_) ?_ ?_ (I.hok.fresh (Nat.le_succ _))
    · have m : z.1 ∈ its.map backV := by rw [← e1]; exact List.mem_map.mpr ⟨z, hz, rfl⟩
      obtain ⟨v, hv, e⟩ := List.mem_map.mp m
      obtain ⟨hf, hp⟩ := pwL_at I (by rw [← e]; exact back v hv) (hx z hz)
      show keyAt s.heap (fwd z.1) = _
      rw [← hf]
      exact hp.key
    · rw [e1]
      exact h2.perm.map backV
    · refine List.pairwise_map.mpr (h1.imp_of_mem fun {x y} hx hy h => ?_)
      obtain ⟨b, rfl⟩ := h3 x hx
      obtain ⟨c, rfl⟩ := h3 y hy
      exact Int.not_lt.mp (of_decide_eq_false h)
end
theorem perm_lift {α β : Type} {f : α → β} : ∀ {zs : List α} {ys : List β}, ys.Perm (zs.map f) → ∃ zs' : List α, zs'.Perm zs ∧ zs'.map f = ys := fun {zs ys} h => by
  generalize e : zs.map f = xs at h
  induction h generalizing zs with
  | nil =>
    obtain rfl := List.map_eq_nil_iff.mp e
    exact ⟨[], .refl _, rfl⟩
  | cons x h ih =>
    cases zs with
    | nil => cases e
    | cons z zs =>
      injection e with e1 e2
      obtain ⟨zs', p, q⟩ := ih e2
      exact ⟨z :: zs', p.cons z, by rw [List.map_cons, q, e1]⟩
  | swap x y l =>
    match zs, e with
    | z :: z2 :: zs, e =>
      injection e with e1 e
      injection e with e2 e
      exact ⟨z2 :: z :: zs, .swap _ _ _, by rw [List.map_cons, List.map_cons, e1, e2, e]⟩
  | trans h1 h2 ih1 ih2 =>
    obtain ⟨zs', p, q⟩ := ih2 e
    obtain ⟨zs2, p2, q2⟩ := ih1 q
    exact ⟨zs2, p2.trans p, q2⟩
/-- a number and data, as a tuple -/
abbrev pwD (p : Int × D) : D := .tup [.int p.1, p.2]
def gSort2 : GC := fun ds Q => ∃ ps : List (Int × D), ds = [.lst (ps.map pwD)] ∧ (∀ p ∈ ps, pyOk p.2 = true) ∧ (∀ p ∈ ps, ∀ q ∈ ps, p.1 = q.1 → deqv p.2 q.2 = true) ∧ ∀ qs : List (Int × D), qs.Perm ps → qs.Pairwise (fun p q => p.1 ≤ q.1) → Q (.lst (qs.map pwD))
theorem rpl_zip {W : Wd} {B : Addr → Prop} {H : Hp} {f : Int × D → D} : ∀ {ps : List (Int × D)} {xs : List V}, RpL W B H xs (ps.map f) → ∃ zs : List (V × Int × D), zs.map (·.1) = xs ∧ zs.map (·.2) = ps ∧ ∀ z ∈ zs, Rp W B H z.1 (f z.2)
  | [], _, h => by cases h; exact ⟨[], rfl, rfl, fun _ h => nomatch h⟩
  | p :: ps, _, h => by
    cases h with
    | cons h l =>
      rename_i v vs
      obtain ⟨zs, e1, e2, h3⟩ := rpl_zip l
      refine ⟨(v, p) :: zs, by rw [List.map_cons, e1], by rw [List.map_cons, e2], fun z hz => ?_⟩
      rcases List.mem_cons.mp hz with rfl | hz
      · exact h
      · exact h3 z hz
theorem rpl_of {W : Wd} {B : Addr → Prop} {H : Hp} {f : Int × D → D} : ∀ {zs : List (V × Int × D)}, (∀ z ∈ zs, Rp W B H z.1 (f z.2)) → RpL W B H (zs.map (·.1)) ((zs.map (·.2)).map f)
  | [], _ => .nil
  | z :: zs, h => .cons (h z (List.mem_cons_self ..)) (rpl_of fun y hy => h y (List.mem_cons_of_mem _ hy))
theorem dc_sort2 {X : Cx} {k : Nat} (hr : RmG k X.A) : DCF X (.builtin "sorted") gSort2 := ⟨_, cr_sortW (by have := hr.r.un; show X.A.units + 1 + 1 + 64 < _; omega), fun R _ _ _ _ _ _ _ S vs ds r Qd Q h kk => by
  obtain ⟨ps, rfl, hok, heq, q⟩ := h
  obtain ⟨v, rfl, r1⟩ := pair1 r
  obtain ⟨a, xs, rfl, h1, l⟩ := r1.lst'
  obtain ⟨zs, e1, e2, hz⟩ := rpl_zip l
  refine ⟨a, zs.map fun z => (z.1, z.2.1, toPy z.2.2), rfl, ?_, fun z' hz' => ?_, fun z' hz' u' hu' e => ?_, fun key ys p hk hp hw hn => ?_⟩
  · rw [List.map_map]
    show SqL _ _ a (zs.map (·.1))
    rw [e1]
    exact .of h1
  · obtain ⟨z, hm, rfl⟩ := List.mem_map.mp hz'
    have hmem : z.2 ∈ ps := by rw [← e2]; exact List.mem_map.mpr ⟨z, hm, rfl⟩
    obtain ⟨t, ws, e, hs, l2⟩ := (hz z hm).tup'
    cases l2 with
    | cons ri l2 =>
      cases l2 with
      | cons rw_ l2 =>
        cases l2
        cases ri
        obtain ⟨o1, o2⟩ := Bool.and_eq_true_iff.mp (hok _ hmem)
        exact ⟨t, _, e, hs, rw_.dp o1, o2⟩
  · obtain ⟨z, hm, rfl⟩ := List.mem_map.mp hz'
    obtain ⟨u, hm', rfl⟩ := List.mem_map.mp hu'
    have m1 : z.2 ∈ ps := by rw [← e2]; exact List.mem_map.mpr ⟨z, hm, rfl⟩
    have m2 : u.2 ∈ ps := by rw [← e2]; exact List.mem_map.mpr ⟨u, hm', rfl⟩
    exact heq _ m1 _ m2 e
  · rw [List.map_map] at hp
    obtain ⟨zs', p1, p2⟩ := perm_lift (f := fun z : V × Int × D => z.1) hp
    have hq := q (zs'.map (·.2)) (by rw [← e2]; exact p1.map _) ?_
    · refine kk ((zs'.map (·.2)).map pwD) p ys _ hq hn (gr_new hn) upd_same ?_
      rw [← p2]
      exact fresh_add S hn (rpl_of fun z hm => hz z (p1.mem_iff.mp hm))
    · rw [← p2] at hw
      refine List.pairwise_map.mpr ((List.pairwise_map.mp hw).imp_of_mem fun {x y} hx hy h => ?_)
      have k1 := hk _ (List.mem_map.mpr ⟨x, p1.mem_iff.mp hx, rfl⟩)
      have k2 := hk _ (List.mem_map.mpr ⟨y, p1.mem_iff.mp hy, rfl⟩)
      dsimp only at k1 k2
      rw [k1, k2] at h
      exact h⟩
end MD
end
section
/-! What figures promise. -/
namespace MD
open PySem L2
def figC (d : Int) : Nat := if d < 10 then 48 + d.toNat else 87 + d.toNat
def figS (b n : Nat) : Str := if n = 0 then "0" else ⟨((rw b n).reverse.map figC).toArray⟩
def S_figures_of : FS := ⟨Nat × Nat, fun x => [rwD x.1 x.2, .int x.1], fun x => Bs x.1 ∧ x.1 ≤ 36 ∧ Few x.1 x.2, fun x d => d = .str (figS x.1 x.2)⟩
def S_read_figures : FS := ⟨Nat × Nat, fun x => [.str (figS x.1 x.2), .int x.1], fun x => Bs x.1 ∧ x.1 ≤ 36 ∧ Few x.1 x.2, fun x d => d = rwD x.1 x.2⟩
def gk_figures_of_1_base (vs zs : List D) : List D := (vs ++ (((zs.drop 0).take 1) ++ []))
theorem e_gk_figures_of_1_base (a0 b0 : D) : gk_figures_of_1_base [a0] [b0] = [a0, b0] := rfl
def T_figures_of : DTS := (dRet (dOrS (dJoin (dC (.str "")) (dLc (iSeq (dRev (dVar 0))) (gNm 2) dYes (dIx (dC (.str "0123456789abcdefghijklmnopqrstuvwxyz")) (dVar 2)) [2])) (dIx (dC (.str "0123456789abcdefghijklmnopqrstuvwxyz")) (dC (.int 0)))))
def gk_read_figures_1_base (vs zs : List D) : List D := (vs ++ (((zs.drop 0).take 1) ++ []))
theorem e_gk_read_figures_1_base (a0 b0 : D) : gk_read_figures_1_base [a0] [b0] = [a0, b0] := rfl
def T_read_figures : DTS := (dSeq (dIfS (dNot (dB (dIsT "str" (dVar 0)))) dNever dNext) (dSeq (dIfS (dB (d2 gEq (dVar 0) (dIx (dC (.str "0123456789abcdefghijklmnopqrstuvwxyz")) (dC (.int 0))))) (dRet (dTup dNil)) dNext) (dSeq (dIfS (dNot (dB (dCB gAll (dCons (dLc (iSeq (dVar 0)) (gNm 2) dYes (d2 (gInS false) (dVar 2) (dC (.str "0123456789abcdefghijklmnopqrstuvwxyz"))) [2]) dNil)))) dNever dNext) (dSeq (dSet 3 (dCB gTuple (dCons (dLc (iSeq (dRev (dVar 0))) (gNm 2) dYes (dCB gInt36 (dCons (dVar 2) (dCons (dC (.int 36)) dNil))) [2]) dNil))) (dSeq (dIfS (dOr (dB (d2 gEq (dVar 3) (dTup dNil))) (dNot (dB (dCallN S_is_row gk_is_row_1_base 1 1 (dCons (dVar 3) dNil) (dCons (dVar 1) dNil))))) dNever dNext) (dRet (dVar 3)))))))
end MD
end
section
/-! Figures, written and read. -/
namespace MD
open PySem L2
theorem joinL_one {α : Type} (f : α → Nat) : ∀ l : List α, TL.joinL [] (l.map fun d => [f d]) = l.map f
  | [] => rfl
  | [d] => rfl
  | d :: e :: r => by
    show [f d] ++ ([] ++ TL.joinL [] ((e :: r).map fun d => [f d])) = _
    rw [joinL_one f (e :: r)]
    rfl
theorem sgn_at {d : Int} (h : 0 ≤ d ∧ d < 36) : L2.atI ("0123456789abcdefghijklmnopqrstuvwxyz" : Str).cps.toList d = some (figC d) := by
  obtain ⟨k, rfl⟩ := Int.eq_ofNat_of_zero_le h.1
  have hk : k < 36 := by omega
  have : ∀ k : Nat, k < 36 → L2.atI ("0123456789abcdefghijklmnopqrstuvwxyz" : Str).cps.toList (k : Int) = some (figC (k : Int)) := by decide +kernel
  exact this k hk
theorem figC_fig {d : Int} (h : 0 ≤ d ∧ d < 36) : IsFig (figC d) ∧ (figV (figC d) : Int) = d := by
  obtain ⟨k, rfl⟩ := Int.eq_ofNat_of_zero_le h.1
  have hk : k < 36 := by omega
  have : ∀ k : Nat, k < 36 → (figC (k : Int) ∈ [48, 49, 50, 51, 52, 53, 54, 55, 56, 57, 97, 98, 99, 100, 101, 102, 103, 104, 105, 106, 107, 108, 109, 110, 111, 112, 113, 114, 115, 116, 117, 118, 119, 120, 121, 122]) ∧ (figV (figC (k : Int)) : Int) = k := by decide +kernel
  exact this k hk
theorem fig_rng {c : Nat} (h : IsFig c) : 48 ≤ c ∧ c ≤ 122 := by
  unfold IsFig at h
  simp only [List.mem_cons, List.not_mem_nil, or_false] at h
  omega
theorem fig_in {c : Nat} (h : IsFig c) : inStr (⟨#[c]⟩ : Str) ("0123456789abcdefghijklmnopqrstuvwxyz" : Str) = true := by
  show (!(Builtin.Str.occurrences _ _ 0 _ 1).isEmpty) = true
  rw [PySem.StrLaws.found_one, decide_eq_true_eq]
  exact h
theorem figS_tl {b n : Nat} (h : n ≠ 0) : TL.tl (figS b n) = (rw b n).reverse.map figC := by
  rw [figS, if_neg h]
theorem dg36 {b n : Nat} (hb : Bs b) (h36 : b ≤ 36) : ∀ d ∈ (rw b n).reverse, 0 ≤ d ∧ d < 36 := fun d hd => by
  have := rw_dg hb.1 n d (List.mem_reverse.mp hd)
  omega
theorem figS_len {b n : Nat} (hf : Few b n) : (figS b n).length ≤ 400 := by
  by_cases h0 : n = 0
  · rw [figS, if_pos h0]
    decide
  · rw [TL.len_tl, figS_tl h0, List.length_map, List.length_reverse]
    exact hf
theorem figS_ascii {b n : Nat} (hb : Bs b) (h36 : b ≤ 36) : ∀ c ∈ TL.tl (figS b n), c < 128 := fun c hc => by
  by_cases h0 : n = 0
  · rw [figS, if_pos h0] at hc
    have : c ∈ [48] := hc
    rw [List.mem_singleton] at this
    omega
  · rw [figS_tl h0] at hc
    obtain ⟨d, hd, rfl⟩ := List.mem_map.mp hc
    have := fig_rng (figC_fig (dg36 hb h36 d hd)).1
    omega
theorem figS_nought {b n : Nat} (hb : Bs b) (h36 : b ≤ 36) : figS b n = "0" ↔ n = 0 := by
  constructor
  · intro h
    refine Decidable.byContradiction fun h0 => ?_
    have e := congrArg TL.tl h
    rw [figS_tl h0] at e
    obtain ⟨xs, x, ex, hx⟩ := rw_last hb.1 n (Nat.pos_of_ne_zero h0)
    rw [ex, List.reverse_append, List.reverse_cons, List.reverse_nil, List.nil_append, List.singleton_append, List.map_cons] at e
    have e1 : figC x = 48 := (List.cons.inj (show figC x :: _ = [48] from e)).1
    have hd := dg36 hb h36 (n := n) x (by rw [ex]; simp)
    have := (figC_fig hd).2
    rw [e1] at this
    have : (0 : Int) = x := this
    omega
  · intro h
    rw [figS, if_pos h]
theorem ok_figures_of : Keeps S_figures_of T_figures_of 3 := by
  rintro ⟨b, n⟩ ⟨hb, h36, hf⟩
  have hb : Bs b := hb
  have h36 : b ≤ 36 := h36
  have hf : Few b n := hf
  have hl : (rw b n).length ≤ 400 := hf
  show T_figures_of ⟨_, S_figures_of.post (b, n), _, _⟩ (startD 3 [row (rw b n), .int b])
  simp only [T_figures_of, row, ex_seq, ex_next, ex_if, ex_ret, ex_set, ex_setO, ex_app, ex_aug, ex_var, ex_vw, ex_c, ex_d2, ex_b, ex_onD, ex_onVd, ex_onVo, ex_onO, ex_onB, ex_onS, ex_int, ex_addI, ex_addS, ex_addT, ex_nil, ex_cons, ex_tup, ex_lst, ex_cb, ex_tupleL, ex_tupleT, get_0, get_s, ex_for, ex_nm, ex_gnil, ex_gcons, ex_gtup, ex_gtupL, ex_asg, ex_par, ex_iseq, ex_onSeqT, ex_onSeqL, ex_onSeqS, ex_ienum, ex_irev, ex_onLTt, ex_onLTl, ex_rng1, ex_ifE, ex_and, ex_or, ex_not, ex_andV, ex_orV, ex_notV, ex_ixL, ex_call, ex_callN, ex_rev, ex_revL, ex_cat, ex_rep, ex_sl, ex_slA, ex_slL, ex_nopt, ex_pt, ex_eq, ex_ne, ex_yes, ex_lc, ex_lenT, ex_lenL, ex_lenS, ex_int2, ex_augIx, ex_isT, ex_chain, ex_asg2, ex_neg, List.set, startD, List.replicate, List.map_nil, List.map_cons, List.length_cons, List.length_nil, List.cons_append, List.nil_append, Nat.sub_self, Nat.reduceSub, Nat.reduceAdd, wipeE, decide_true, decide_false, if_true, if_false, true_and, and_true, Bool.not_true, Bool.not_false, Bool.false_eq_true, ex_frz, ex_draw, ex_fld, ex_meth, ex_make, ex_isC, ex_joinS, ex_orS, ex_joined, ex_js, ex_js0, ex_fmt, ex_part, ex_split, ex_inS, ex_toStr, ex_toIntS, ex_ownT, ex_own, ex_listL, ex_listT, ex_reprT, ex_reprL, ex_reprI, ex_slS, ex_toIntB, ex_toIntI, ex_put, ex_drop, ex_never, isT1, isT2, isT3, isT4, tyI, tyT, tyS, pyI, pyB, pyT0, pyIs, Nat.zero_le, deqv_int, deqv_bl]
  rw [← List.map_reverse]
  refine comp_map (α := Int) (fun d => .int d) (fun d => .str ⟨#[figC d]⟩) (rw b n).reverse [] (by rw [List.length_nil, List.length_reverse]; unfold SZ; omega) (fun d hd R hR => ?_) ?_
  · simp only [ex_seq, ex_next, ex_if, ex_ret, ex_set, ex_setO, ex_app, ex_aug, ex_var, ex_vw, ex_c, ex_d2, ex_b, ex_onD, ex_onVd, ex_onVo, ex_onO, ex_onB, ex_onS, ex_int, ex_addI, ex_addS, ex_addT, ex_nil, ex_cons, ex_tup, ex_lst, ex_cb, ex_tupleL, ex_tupleT, get_0, get_s, ex_for, ex_nm, ex_gnil, ex_gcons, ex_gtup, ex_gtupL, ex_asg, ex_par, ex_iseq, ex_onSeqT, ex_onSeqL, ex_onSeqS, ex_ienum, ex_irev, ex_onLTt, ex_onLTl, ex_rng1, ex_ifE, ex_and, ex_or, ex_not, ex_andV, ex_orV, ex_notV, ex_ixL, ex_call, ex_callN, ex_rev, ex_revL, ex_cat, ex_rep, ex_sl, ex_slA, ex_slL, ex_nopt, ex_pt, ex_eq, ex_ne, ex_yes, ex_lc, ex_lenT, ex_lenL, ex_lenS, ex_int2, ex_augIx, ex_isT, ex_chain, ex_asg2, ex_neg, List.set, startD, List.replicate, List.map_nil, List.map_cons, List.length_cons, List.length_nil, List.cons_append, List.nil_append, Nat.sub_self, Nat.reduceSub, Nat.reduceAdd, wipeE, decide_true, decide_false, if_true, if_false, true_and, and_true, Bool.not_true, Bool.not_false, Bool.false_eq_true, ex_frz, ex_draw, ex_fld, ex_meth, ex_make, ex_isC, ex_joinS, ex_orS, ex_joined, ex_js, ex_js0, ex_fmt, ex_part, ex_split, ex_inS, ex_toStr, ex_toIntS, ex_ownT, ex_own, ex_listL, ex_listT, ex_reprT, ex_reprL, ex_reprI, ex_slS, ex_toIntB, ex_toIntI, ex_put, ex_drop, ex_never, isT1, isT2, isT3, isT4, tyI, tyT, tyS, pyI, pyB, pyT0, pyIs, Nat.zero_le, deqv_int, deqv_bl]
    exact ⟨by decide, _, sgn_at (dg36 hb h36 d hd), hR⟩
  · have ej : TL.tl (Txt.join "" ((rw b n).reverse.map fun d => (⟨#[figC d]⟩ : Str))) = (rw b n).reverse.map figC := by
      rw [TL.join_eq, TL.tl_join, List.map_map]
      exact joinL_one figC _
    have el : (Txt.join "" ((rw b n).reverse.map fun d => (⟨#[figC d]⟩ : Str))).length = (rw b n).length := by
      rw [TL.len_tl, ej, List.length_map, List.length_reverse]
    refine ⟨(rw b n).reverse.map fun d => (⟨#[figC d]⟩ : Str), Or.inl (by rw [List.nil_append, List.map_map]; rfl), ?_, by rw [el]; unfold SZ; omega, ?_⟩
    · rw [List.length_map, List.length_reverse, List.map_map]
      have : ((rw b n).reverse.map ((fun x : Str => x.length) ∘ fun d => (⟨#[figC d]⟩ : Str))).sum ≤ 1 * (rw b n).reverse.length := sum_le fun d hd => Nat.le_refl 1
      rw [List.length_reverse] at this
      show _ + _ * 0 ≤ _
      omega
    · rw [el]
      by_cases h0 : n = 0
      · rw [if_pos (by rw [h0, rw_zero]; rfl)]
        refine ⟨by decide, 48, by decide, ?_⟩
        show _ = D.str (figS b n)
        rw [figS, if_pos h0]
        rfl
      · rw [if_neg (fun h => h0 ((rw_nil hb.1).mp (List.eq_nil_of_length_eq_zero h)))]
        show D.str _ = .str (figS b n)
        congr 1
        exact TL.ext_tl (ej.trans (figS_tl h0).symm)
theorem ok_read_figures : Keeps S_read_figures T_read_figures 4 := by
  rintro ⟨b, n⟩ ⟨hb, h36, hf⟩
  have hb : Bs b := hb
  have h36 : b ≤ 36 := h36
  have hf : Few b n := hf
  have hl : (rw b n).length ≤ 400 := hf
  have hbn := few_bnd hb hf
  have hlen := figS_len hf
  show T_read_figures ⟨_, S_read_figures.post (b, n), _, _⟩ (startD 4 [.str (figS b n), .int b])
  simp only [T_read_figures, ex_seq, ex_next, ex_if, ex_ret, ex_set, ex_setO, ex_app, ex_aug, ex_var, ex_vw, ex_c, ex_d2, ex_b, ex_onD, ex_onVd, ex_onVo, ex_onO, ex_onB, ex_onS, ex_int, ex_addI, ex_addS, ex_addT, ex_nil, ex_cons, ex_tup, ex_lst, ex_cb, ex_tupleL, ex_tupleT, get_0, get_s, ex_for, ex_nm, ex_gnil, ex_gcons, ex_gtup, ex_gtupL, ex_asg, ex_par, ex_iseq, ex_onSeqT, ex_onSeqL, ex_onSeqS, ex_ienum, ex_irev, ex_onLTt, ex_onLTl, ex_rng1, ex_ifE, ex_and, ex_or, ex_not, ex_andV, ex_orV, ex_notV, ex_ixL, ex_call, ex_callN, ex_rev, ex_revL, ex_cat, ex_rep, ex_sl, ex_slA, ex_slL, ex_nopt, ex_pt, ex_eq, ex_ne, ex_yes, ex_lc, ex_lenT, ex_lenL, ex_lenS, ex_int2, ex_augIx, ex_isT, ex_chain, ex_asg2, ex_neg, List.set, startD, List.replicate, List.map_nil, List.map_cons, List.length_cons, List.length_nil, List.cons_append, List.nil_append, Nat.sub_self, Nat.reduceSub, Nat.reduceAdd, wipeE, decide_true, decide_false, if_true, if_false, true_and, and_true, Bool.not_true, Bool.not_false, Bool.false_eq_true, ex_frz, ex_draw, ex_fld, ex_meth, ex_make, ex_isC, ex_joinS, ex_orS, ex_joined, ex_js, ex_js0, ex_fmt, ex_part, ex_split, ex_inS, ex_toStr, ex_toIntS, ex_ownT, ex_own, ex_listL, ex_listT, ex_reprT, ex_reprL, ex_reprI, ex_slS, ex_toIntB, ex_toIntI, ex_put, ex_drop, ex_never, isT1, isT2, isT3, isT4, tyI, tyT, tyS, pyI, pyB, pyT0, pyIs, Nat.zero_le, deqv_int, deqv_bl]
  refine ⟨by decide, 48, by decide, pyOk_str (figS_ascii hb h36), pyOk_str (by decide), ?_⟩
  rw [deqv_str]
  by_cases h0 : n = 0
  · rw [decide_eq_true (by rw [(figS_nought hb h36).mpr h0]; rfl), if_pos rfl]
    show _ = rwD b n
    rw [h0, rwD, rw_zero]
    rfl
  · rw [decide_eq_false (fun h => h0 ((figS_nought hb h36).mp (h.trans rfl))), if_neg (by decide)]
    have esg : signs (figS b n) = (rw b n).reverse.map fun d => D.str ⟨#[figC d]⟩ := by
      show (TL.tl (figS b n)).map _ = _
      rw [figS_tl h0, List.map_map]
      rfl
    have esr : signs (revS (figS b n)) = (rw b n).map fun d => D.str ⟨#[figC d]⟩ := by
      show (TL.tl (figS b n)).reverse.map _ = _
      rw [figS_tl h0, ← List.map_reverse, List.reverse_reverse, List.map_map]
      rfl
    rw [esg]
    refine comp_map (α := Int) (fun d => D.str ⟨#[figC d]⟩) (fun _ => .bl true) (rw b n).reverse [] (by rw [List.length_nil, List.length_reverse]; unfold SZ; omega) (fun d hd R hR => ?_) ?_
    · simp only [ex_seq, ex_next, ex_if, ex_ret, ex_set, ex_setO, ex_app, ex_aug, ex_var, ex_vw, ex_c, ex_d2, ex_b, ex_onD, ex_onVd, ex_onVo, ex_onO, ex_onB, ex_onS, ex_int, ex_addI, ex_addS, ex_addT, ex_nil, ex_cons, ex_tup, ex_lst, ex_cb, ex_tupleL, ex_tupleT, get_0, get_s, ex_for, ex_nm, ex_gnil, ex_gcons, ex_gtup, ex_gtupL, ex_asg, ex_par, ex_iseq, ex_onSeqT, ex_onSeqL, ex_onSeqS, ex_ienum, ex_irev, ex_onLTt, ex_onLTl, ex_rng1, ex_ifE, ex_and, ex_or, ex_not, ex_andV, ex_orV, ex_notV, ex_ixL, ex_call, ex_callN, ex_rev, ex_revL, ex_cat, ex_rep, ex_sl, ex_slA, ex_slL, ex_nopt, ex_pt, ex_eq, ex_ne, ex_yes, ex_lc, ex_lenT, ex_lenL, ex_lenS, ex_int2, ex_augIx, ex_isT, ex_chain, ex_asg2, ex_neg, List.set, startD, List.replicate, List.map_nil, List.map_cons, List.length_cons, List.length_nil, List.cons_append, List.nil_append, Nat.sub_self, Nat.reduceSub, Nat.reduceAdd, wipeE, decide_true, decide_false, if_true, if_false, true_and, and_true, Bool.not_true, Bool.not_false, Bool.false_eq_true, ex_frz, ex_draw, ex_fld, ex_meth, ex_make, ex_isC, ex_joinS, ex_orS, ex_joined, ex_js, ex_js0, ex_fmt, ex_part, ex_split, ex_inS, ex_toStr, ex_toIntS, ex_ownT, ex_own, ex_listL, ex_listT, ex_reprT, ex_reprL, ex_reprI, ex_slS, ex_toIntB, ex_toIntI, ex_put, ex_drop, ex_never, isT1, isT2, isT3, isT4, tyI, tyT, tyS, pyI, pyB, pyT0, pyIs, Nat.zero_le, deqv_int, deqv_bl]
      rw [fig_in (figC_fig (dg36 hb h36 d hd)).1]
      exact hR
    · refine ⟨(rw b n).reverse.map fun _ => true, by rw [List.nil_append, List.map_map]; rfl, ?_⟩
      have e : ((rw b n).reverse.map fun _ => true).all id = true := by simp
      rw [e]
      simp only [ex_seq, ex_next, ex_if, ex_ret, ex_set, ex_setO, ex_app, ex_aug, ex_var, ex_vw, ex_c, ex_d2, ex_b, ex_onD, ex_onVd, ex_onVo, ex_onO, ex_onB, ex_onS, ex_int, ex_addI, ex_addS, ex_addT, ex_nil, ex_cons, ex_tup, ex_lst, ex_cb, ex_tupleL, ex_tupleT, get_0, get_s, ex_for, ex_nm, ex_gnil, ex_gcons, ex_gtup, ex_gtupL, ex_asg, ex_par, ex_iseq, ex_onSeqT, ex_onSeqL, ex_onSeqS, ex_ienum, ex_irev, ex_onLTt, ex_onLTl, ex_rng1, ex_ifE, ex_and, ex_or, ex_not, ex_andV, ex_orV, ex_notV, ex_ixL, ex_call, ex_callN, ex_rev, ex_revL, ex_cat, ex_rep, ex_sl, ex_slA, ex_slL, ex_nopt, ex_pt, ex_eq, ex_ne, ex_yes, ex_lc, ex_lenT, ex_lenL, ex_lenS, ex_int2, ex_augIx, ex_isT, ex_chain, ex_asg2, ex_neg, List.set, startD, List.replicate, List.map_nil, List.map_cons, List.length_cons, List.length_nil, List.cons_append, List.nil_append, Nat.sub_self, Nat.reduceSub, Nat.reduceAdd, wipeE, decide_true, decide_false, if_true, if_false, true_and, and_true, Bool.not_true, Bool.not_false, Bool.false_eq_true, ex_frz, ex_draw, ex_fld, ex_meth, ex_make, ex_isC, ex_joinS, ex_orS, ex_joined, ex_js, ex_js0, ex_fmt, ex_part, ex_split, ex_inS, ex_toStr, ex_toIntS, ex_ownT, ex_own, ex_listL, ex_listT, ex_reprT, ex_reprL, ex_reprI, ex_slS, ex_toIntB, ex_toIntI, ex_put, ex_drop, ex_never, isT1, isT2, isT3, isT4, tyI, tyT, tyS, pyI, pyB, pyT0, pyIs, Nat.zero_le, deqv_int, deqv_bl]
      refine ⟨by unfold SZ; omega, ?_⟩
      rw [esr]
      refine comp_map (α := Int) (fun d => D.str ⟨#[figC d]⟩) (fun d => .int d) (rw b n) [] (by rw [List.length_nil]; unfold SZ; omega) (fun d hd R hR => ?_) ?_
      · simp only [ex_seq, ex_next, ex_if, ex_ret, ex_set, ex_setO, ex_app, ex_aug, ex_var, ex_vw, ex_c, ex_d2, ex_b, ex_onD, ex_onVd, ex_onVo, ex_onO, ex_onB, ex_onS, ex_int, ex_addI, ex_addS, ex_addT, ex_nil, ex_cons, ex_tup, ex_lst, ex_cb, ex_tupleL, ex_tupleT, get_0, get_s, ex_for, ex_nm, ex_gnil, ex_gcons, ex_gtup, ex_gtupL, ex_asg, ex_par, ex_iseq, ex_onSeqT, ex_onSeqL, ex_onSeqS, ex_ienum, ex_irev, ex_onLTt, ex_onLTl, ex_rng1, ex_ifE, ex_and, ex_or, ex_not, ex_andV, ex_orV, ex_notV, ex_ixL, ex_call, ex_callN, ex_rev, ex_revL, ex_cat, ex_rep, ex_sl, ex_slA, ex_slL, ex_nopt, ex_pt, ex_eq, ex_ne, ex_yes, ex_lc, ex_lenT, ex_lenL, ex_lenS, ex_int2, ex_augIx, ex_isT, ex_chain, ex_asg2, ex_neg, List.set, startD, List.replicate, List.map_nil, List.map_cons, List.length_cons, List.length_nil, List.cons_append, List.nil_append, Nat.sub_self, Nat.reduceSub, Nat.reduceAdd, wipeE, decide_true, decide_false, if_true, if_false, true_and, and_true, Bool.not_true, Bool.not_false, Bool.false_eq_true, ex_frz, ex_draw, ex_fld, ex_meth, ex_make, ex_isC, ex_joinS, ex_orS, ex_joined, ex_js, ex_js0, ex_fmt, ex_part, ex_split, ex_inS, ex_toStr, ex_toIntS, ex_ownT, ex_own, ex_listL, ex_listT, ex_reprT, ex_reprL, ex_reprI, ex_slS, ex_toIntB, ex_toIntI, ex_put, ex_drop, ex_never, isT1, isT2, isT3, isT4, tyI, tyT, tyS, pyI, pyB, pyT0, pyIs, Nat.zero_le, deqv_int, deqv_bl]
        obtain ⟨h1, h2⟩ := figC_fig (dg36 hb h36 d (List.mem_reverse.mpr hd))
        refine ⟨rfl, _, rfl, h1, ?_⟩
        rw [h2]
        exact hR
      · rw [List.nil_append]
        simp only [ex_seq, ex_next, ex_if, ex_ret, ex_set, ex_setO, ex_app, ex_aug, ex_var, ex_vw, ex_c, ex_d2, ex_b, ex_onD, ex_onVd, ex_onVo, ex_onO, ex_onB, ex_onS, ex_int, ex_addI, ex_addS, ex_addT, ex_nil, ex_cons, ex_tup, ex_lst, ex_cb, ex_tupleL, ex_tupleT, get_0, get_s, ex_for, ex_nm, ex_gnil, ex_gcons, ex_gtup, ex_gtupL, ex_asg, ex_par, ex_iseq, ex_onSeqT, ex_onSeqL, ex_onSeqS, ex_ienum, ex_irev, ex_onLTt, ex_onLTl, ex_rng1, ex_ifE, ex_and, ex_or, ex_not, ex_andV, ex_orV, ex_notV, ex_ixL, ex_call, ex_callN, ex_rev, ex_revL, ex_cat, ex_rep, ex_sl, ex_slA, ex_slL, ex_nopt, ex_pt, ex_eq, ex_ne, ex_yes, ex_lc, ex_lenT, ex_lenL, ex_lenS, ex_int2, ex_augIx, ex_isT, ex_chain, ex_asg2, ex_neg, List.set, startD, List.replicate, List.map_nil, List.map_cons, List.length_cons, List.length_nil, List.cons_append, List.nil_append, Nat.sub_self, Nat.reduceSub, Nat.reduceAdd, wipeE, decide_true, decide_false, if_true, if_false, true_and, and_true, Bool.not_true, Bool.not_false, Bool.false_eq_true, ex_frz, ex_draw, ex_fld, ex_meth, ex_make, ex_isC, ex_joinS, ex_orS, ex_joined, ex_js, ex_js0, ex_fmt, ex_part, ex_split, ex_inS, ex_toStr, ex_toIntS, ex_ownT, ex_own, ex_listL, ex_listT, ex_reprT, ex_reprL, ex_reprI, ex_slS, ex_toIntB, ex_toIntI, ex_put, ex_drop, ex_never, isT1, isT2, isT3, isT4, tyI, tyT, tyS, pyI, pyB, pyT0, pyIs, Nat.zero_le, deqv_int, deqv_bl]
        show if deqv (rwD b n) (.tup []) = true then _ else _
        rw [deqv_rw0 hb.1, decide_eq_false h0, if_neg (by decide)]
        refine ⟨(b, n), rfl, ⟨hb, hbn⟩, fun d hd => ?_⟩
        obtain rfl : d = .bl true := hd
        simp only [ex_seq, ex_next, ex_if, ex_ret, ex_set, ex_setO, ex_app, ex_aug, ex_var, ex_vw, ex_c, ex_d2, ex_b, ex_onD, ex_onVd, ex_onVo, ex_onO, ex_onB, ex_onS, ex_int, ex_addI, ex_addS, ex_addT, ex_nil, ex_cons, ex_tup, ex_lst, ex_cb, ex_tupleL, ex_tupleT, get_0, get_s, ex_for, ex_nm, ex_gnil, ex_gcons, ex_gtup, ex_gtupL, ex_asg, ex_par, ex_iseq, ex_onSeqT, ex_onSeqL, ex_onSeqS, ex_ienum, ex_irev, ex_onLTt, ex_onLTl, ex_rng1, ex_ifE, ex_and, ex_or, ex_not, ex_andV, ex_orV, ex_notV, ex_ixL, ex_call, ex_callN, ex_rev, ex_revL, ex_cat, ex_rep, ex_sl, ex_slA, ex_slL, ex_nopt, ex_pt, ex_eq, ex_ne, ex_yes, ex_lc, ex_lenT, ex_lenL, ex_lenS, ex_int2, ex_augIx, ex_isT, ex_chain, ex_asg2, ex_neg, List.set, startD, List.replicate, List.map_nil, List.map_cons, List.length_cons, List.length_nil, List.cons_append, List.nil_append, Nat.sub_self, Nat.reduceSub, Nat.reduceAdd, wipeE, decide_true, decide_false, if_true, if_false, true_and, and_true, Bool.not_true, Bool.not_false, Bool.false_eq_true, ex_frz, ex_draw, ex_fld, ex_meth, ex_make, ex_isC, ex_joinS, ex_orS, ex_joined, ex_js, ex_js0, ex_fmt, ex_part, ex_split, ex_inS, ex_toStr, ex_toIntS, ex_ownT, ex_own, ex_listL, ex_listT, ex_reprT, ex_reprL, ex_reprI, ex_slS, ex_toIntB, ex_toIntI, ex_put, ex_drop, ex_never, isT1, isT2, isT3, isT4, tyI, tyT, tyS, pyI, pyB, pyT0, pyIs, Nat.zero_le, deqv_int, deqv_bl]
        exact rfl
end MD
end
section
/-! What the law's own defs promise. -/
namespace MD
open PySem L2
def Sm1 (n : Nat) : Prop := n < 2 ^ 200
def S__law_texts_right : FS := ⟨Nat × Nat × Bool, fun x => [rwD x.1 x.2.1, .int x.1, .bl x.2.2], fun x => Bs x.1 ∧ Few x.1 x.2.1, fun _ d => d = .bl true⟩
/-- two bases, a row, a sign -/
def S__law_put_right : FS := ⟨Nat × Nat × Nat × Bool, fun x => [rwD x.1 x.2.2.1, .int x.1, .int x.2.1, .bl x.2.2.2], fun x => Bs x.1 ∧ Bs x.2.1 ∧ Sm1 x.2.2.1, fun _ d => d = .bl true⟩
def toldN (m n : Nat) : List Nat := [m + n, m * n, max m n - min m n] ++ if n = 0 then [] else [m / n, m % n]
def S__law_told : FS := ⟨Nat × Nat × Nat, fun x => [rwD x.1 x.2.1, rwD x.1 x.2.2, .int x.1], fun x => Bs x.1 ∧ Sm1 x.2.1 ∧ Sm1 x.2.2, fun x d => d = .lst ((toldN x.2.1 x.2.2).map (rwD x.1))⟩
def S__law_same_there : FS := ⟨Nat × Nat × Nat × Nat, fun x => [rwD x.1 x.2.2.1, rwD x.1 x.2.2.2, .int x.1, .int x.2.1], fun x => Bs x.1 ∧ Bs x.2.1 ∧ Sm1 x.2.2.1 ∧ Sm1 x.2.2.2, fun _ d => d = .bl true⟩
def Sm3 (n : Nat) : Prop := n < 2 ^ 402
def S__law_long_there : FS := ⟨Nat × Nat × Nat × Bool, fun x => [LO x.1 x.2.2.1 x.2.2.2, .int x.2.1], fun x => Bs x.1 ∧ Bs x.2.1 ∧ Sm3 x.2.2.1, fun x d => d = LO x.2.1 x.2.2.1 (x.2.2.2 && !decide (x.2.2.1 = 0))⟩
def S__law_longs_right : FS := ⟨Nat × Nat × (Nat × Bool) × (Nat × Bool), fun x => [LO x.1 x.2.2.1.1 x.2.2.1.2, LO x.1 x.2.2.2.1 x.2.2.2.2, .int x.2.1],
  fun x => Bs x.1 ∧ Bs x.2.1 ∧ Sm1 x.2.2.1.1 ∧ Sm1 x.2.2.2.1 ∧ (x.2.2.1.2 = true → x.2.2.1.1 ≠ 0) ∧ (x.2.2.2.2 = true → x.2.2.2.1 ≠ 0), fun _ d => d = .bl true⟩
def T__law_texts_right : DTS := (dSeq (dSet 3 (dMake "Long" S_Long_init gk_Long_1_base_below 1 2 (dCons (dVar 0) dNil) (dCons (dVar 1) (dCons (dVar 2) dNil)))) (dSeq (dIfS (dOr (dB (d2 (gOwn true "Long" S_Long_eq) (dCall S_read_long [] (dCons (dCB (gOwnTxt "Long" S_Long_str) (dCons (dVar 3) dNil)) dNil)) (dVar 3))) (dB (d2 gNe (dCB (gOwnTxt "Long" S_Long_repr) (dCons (dCall S_read_long [] (dCons (dCB (gOwnTxt "Long" S_Long_str) (dCons (dVar 3) dNil)) dNil)) dNil)) (dCB (gOwnTxt "Long" S_Long_repr) (dCons (dVar 3) dNil))))) (dRet (dC (.bl false))) dNext) (dRet (dOrV (d2 gGt (dVar 1) (dC (.int 36))) (d2 gEq (dCB gRepr (dCons (dCallN S_read_figures gk_read_figures_1_base 1 1 (dCons (dCallN S_figures_of gk_figures_of_1_base 1 1 (dCons (dVar 0) dNil) (dCons (dVar 1) dNil)) dNil) (dCons (dVar 1) dNil)) dNil)) (dCB gRepr (dCons (dVar 0) dNil)))))))
def T__law_put_right : DTS := (dSeq (dSet 4 (dCall S__law_worth [] (dCons (dVar 0) (dCons (dVar 1) dNil)))) (dSeq (dSet 5 (dCallN (S_rebased 12) gk_rebased_1_into_base 1 2 (dCons (dVar 0) dNil) (dCons (dVar 2) (dCons (dVar 1) dNil)))) (dSeq (dIfS (dOr (dB (d2 gNe (dCB gRepr (dCons (dVar 5) dNil)) (dCB gRepr (dCons (dCall S__law_row_of [] (dCons (dVar 4) (dCons (dVar 2) dNil))) dNil)))) (dB (d2 gNe (dCB gRepr (dCons (dCallN (S_rebased 12) gk_rebased_1_base_into 1 2 (dCons (dVar 5) dNil) (dCons (dVar 2) (dCons (dVar 1) dNil))) dNil)) (dCB gRepr (dCons (dVar 0) dNil))))) (dRet (dC (.bl false))) dNext) (dSeq (dIfS (dOr (dB (d2 gNe (dCB gRepr (dCons (dCallN S_worth_of gk_worth_of_1_base 1 1 (dCons (dVar 5) dNil) (dCons (dVar 2) dNil)) dNil)) (dCB gRepr (dCons (dVar 4) dNil)))) (dB (d2 gNe (dCallN S_row_of gk_row_of_1_base 1 1 (dCons (dCallN S_worth_of gk_worth_of_1_base 1 1 (dCons (dVar 0) dNil) (dCons (dVar 1) dNil)) dNil) (dCons (dVar 2) dNil)) (dVar 5)))) (dRet (dC (.bl false))) dNext) (dSeq (dIfS (dOr (dAnd (dB (d2 gEq (dVar 1) (dC (.int 10)))) (dB (d2 gNe (dCallN (S_rebased 12) gk_rebased_1_into 1 1 (dCons (dVar 0) dNil) (dCons (dVar 2) dNil)) (dVar 5)))) (dAnd (dB (d2 gEq (dVar 2) (dC (.int 10)))) (dB (d2 gNe (dCallN (S_rebased 12) gk_rebased_1_into 1 1 (dCons (dVar 5) dNil) (dCons (dVar 1) dNil)) (dVar 0))))) (dRet (dC (.bl false))) dNext) (dRet (dAndV (dCall S__law_texts_right [] (dCons (dVar 0) (dCons (dVar 1) (dCons (dVar 3) dNil)))) (dCall S__law_texts_right [] (dCons (dVar 5) (dCons (dVar 2) (dCons (dNotV (dVar 3)) dNil)))))))))))
def T__law_told : DTS := (dSeq (dAsg (dCB gSort2 (dCons (dLc (iSeq (dTup (dCons (dVar 0) (dCons (dVar 1) dNil)))) (gNm 3) dYes (dTup (dCons (dCall S__law_worth [] (dCons (dVar 3) (dCons (dVar 2) dNil))) (dCons (dVar 3) dNil))) [3]) dNil)) (gTupD 2 (gCons' (gNm 4) (gCons' (gNm 5) gNil')))) (dSeq (dSet 6 (dLst (dCons (dCallN S_summed gk_summed_2_base 2 1 (dCons (dVar 0) (dCons (dVar 1) dNil)) (dCons (dVar 2) dNil)) (dCons (dCallN S_plain_product gk_plain_product_2_base 2 1 (dCons (dVar 0) (dCons (dVar 1) dNil)) (dCons (dVar 2) dNil)) (dCons (dCallN S_lessened gk_lessened_2_base 2 1 (dCons (dIx (dVar 5) (dC (.int 1))) (dCons (dIx (dVar 4) (dC (.int 1))) dNil)) (dCons (dVar 2) dNil)) dNil))))) (dRet (dIf (dB (d2 gEq (dVar 1) (dTup dNil))) (dVar 6) (dCat (dVar 6) (dCB gList (dCons (dCallN S_divided gk_divided_2_base 2 1 (dCons (dVar 0) (dCons (dVar 1) dNil)) (dCons (dVar 2) dNil)) dNil)))))))
def T__law_same_there : DTS := (dSeq (dSet 5 (dLc (iSeq (dTup (dCons (dVar 0) (dCons (dVar 1) dNil)))) (gNm 4) dYes (dCallN (S_rebased 12) gk_rebased_1_into_base 1 2 (dCons (dVar 4) dNil) (dCons (dVar 3) (dCons (dVar 2) dNil))) [4])) (dSeq (dIfS (dB (d2 gNe (dCall S_is_less [] (dCons (dVar 0) (dCons (dVar 1) dNil))) (dCall S_is_less [] (dCons (dIx (dVar 5) (dC (.int 0))) (dCons (dIx (dVar 5) (dC (.int 1))) dNil))))) (dRet (dC (.bl false))) dNext) (dSeq (dSet 6 (dLc (iSeq (dCall S__law_told [] (dCons (dVar 0) (dCons (dVar 1) (dCons (dVar 2) dNil))))) (gNm 4) dYes (dCallN (S_rebased 12) gk_rebased_1_into_base 1 2 (dCons (dVar 4) dNil) (dCons (dVar 3) (dCons (dVar 2) dNil))) [4])) (dRet (d2 gEq (dCB gRepr (dCons (dCall S__law_told [] (dCons (dIx (dVar 5) (dC (.int 0))) (dCons (dIx (dVar 5) (dC (.int 1))) (dCons (dVar 3) dNil)))) dNil)) (dCB gRepr (dCons (dVar 6) dNil)))))))
def T__law_long_there : DTS := (dRet (dMake "Long" S_Long_init gk_Long_1_base_below 1 2 (dCons (dCallN (S_rebased 12) gk_rebased_1_into_base 1 2 (dCons (dFld "Long" "row" (dVar 0)) dNil) (dCons (dVar 1) (dCons (dFld "Long" "base" (dVar 0)) dNil))) dNil) (dCons (dVar 1) (dCons (dFld "Long" "below" (dVar 0)) dNil))))
def T__law_longs_right : DTS := (dSeq (dSet 3 (dLst (dCons (dCall S__law_long_there [] (dCons (dVar 0) (dCons (dVar 2) dNil))) (dCons (dCall S__law_long_there [] (dCons (dVar 1) (dCons (dVar 2) dNil))) dNil)))) (dSeq (dSet 4 (dLst (dCons (dMeth "Long" "plus" S_Long_plus [] (dVar 0) (dCons (dVar 1) dNil)) (dCons (dMeth "Long" "minus" S_Long_minus [] (dVar 0) (dCons (dVar 1) dNil)) (dCons (dMeth "Long" "times" S_Long_times [] (dVar 0) (dCons (dVar 1) dNil)) dNil))))) (dSeq (dSet 5 (dLst (dCons (dMeth "Long" "plus" S_Long_plus [] (dIx (dVar 3) (dC (.int 0))) (dCons (dIx (dVar 3) (dC (.int 1))) dNil)) (dCons (dMeth "Long" "minus" S_Long_minus [] (dIx (dVar 3) (dC (.int 0))) (dCons (dIx (dVar 3) (dC (.int 1))) dNil)) (dCons (dMeth "Long" "times" S_Long_times [] (dIx (dVar 3) (dC (.int 0))) (dCons (dIx (dVar 3) (dC (.int 1))) dNil)) dNil))))) (dSeq (dIfS (dB (d2 gNe (dFld "Long" "row" (dVar 1)) (dTup dNil))) (dSeq (dSet 4 (dCat (dVar 4) (dCB gList (dCons (dMeth "Long" "over" S_Long_over [] (dVar 0) (dCons (dVar 1) dNil)) dNil)))) (dSet 5 (dCat (dVar 5) (dCB gList (dCons (dMeth "Long" "over" S_Long_over [] (dIx (dVar 3) (dC (.int 0))) (dCons (dIx (dVar 3) (dC (.int 1))) dNil)) dNil))))) dNext) (dRet (d2 gEq (dLc (iRange1 (dCons (dCB gLen (dCons (dVar 4) dNil)) dNil)) (gNm 6) (dB (d2 (gOwn true "Long" S_Long_eq) (dCall S__law_long_there [] (dCons (dIx (dVar 4) (dVar 6)) (dCons (dVar 2) dNil))) (dIx (dVar 5) (dVar 6)))) (dVar 6) [6]) (dLst dNil)))))))
end MD
end
section
/-! texts_right. -/
namespace MD
open PySem L2
theorem ld_eq {b n : Nat} {s : Bool} : D.ob "Long" (S_Long_init.fs (b, n, s)) = LO b n (s && !decide (n = 0)) := rfl
theorem val_s {n : Nat} {s : Bool} : (s && !decide (n = 0)) = true → n ≠ 0 := fun h => by
  rw [Bool.and_eq_true, Bool.not_eq_true', decide_eq_false_iff_not] at h
  exact h.2
theorem ok__law_texts_right : Keeps S__law_texts_right T__law_texts_right 4 := by
  rintro ⟨b, n, s⟩ ⟨hb, hf⟩
  have hb : Bs b := hb
  have hf : Few b n := hf
  have hl : (rw b n).length ≤ 400 := hf
  show T__law_texts_right ⟨_, S__law_texts_right.post (b, n, s), _, _⟩ (startD 4 [rwD b n, .int b, .bl s])
  simp only [T__law_texts_right, ex_seq, ex_next, ex_if, ex_ret, ex_set, ex_setO, ex_app, ex_aug, ex_var, ex_vw, ex_c, ex_d2, ex_b, ex_onD, ex_onVd, ex_onVo, ex_onO, ex_onB, ex_onS, ex_int, ex_addI, ex_addS, ex_addT, ex_nil, ex_cons, ex_tup, ex_lst, ex_cb, ex_tupleL, ex_tupleT, get_0, get_s, ex_for, ex_nm, ex_gnil, ex_gcons, ex_gtup, ex_gtupL, ex_asg, ex_par, ex_iseq, ex_onSeqT, ex_onSeqL, ex_onSeqS, ex_ienum, ex_irev, ex_onLTt, ex_onLTl, ex_rng1, ex_ifE, ex_and, ex_or, ex_not, ex_andV, ex_orV, ex_notV, ex_ixL, ex_call, ex_callN, ex_rev, ex_revL, ex_cat, ex_rep, ex_sl, ex_slA, ex_slL, ex_nopt, ex_pt, ex_eq, ex_ne, ex_yes, ex_lc, ex_lenT, ex_lenL, ex_lenS, ex_int2, ex_augIx, ex_isT, ex_chain, ex_asg2, ex_neg, List.set, startD, List.replicate, List.map_nil, List.map_cons, List.length_cons, List.length_nil, List.cons_append, List.nil_append, Nat.sub_self, Nat.reduceSub, Nat.reduceAdd, wipeE, decide_true, decide_false, if_true, if_false, true_and, and_true, Bool.not_true, Bool.not_false, Bool.false_eq_true, ex_frz, ex_draw, ex_fld, ex_meth, ex_make, ex_isC, ex_joinS, ex_orS, ex_joined, ex_js, ex_js0, ex_fmt, ex_part, ex_split, ex_inS, ex_toStr, ex_toIntS, ex_ownT, ex_own, ex_listL, ex_listT, ex_reprT, ex_reprL, ex_reprI, ex_slS, ex_toIntB, ex_toIntI, ex_put, ex_drop, ex_never, isT1, isT2, isT3, isT4, tyI, tyT, tyS, pyI, pyB, pyT0, pyIs, Nat.zero_le, deqv_int, deqv_bl, e_gk_Long_1_base_below]
  refine ⟨(b, n, s), rfl, hb.1, ?_⟩
  rw [ld_eq]
  have hs := val_s (n := n) (s := s)
  revert hs
  generalize (s && !decide (n = 0)) = s'
  intro hs
  refine ⟨_, rfl, (b, n, s'), rfl, ⟨hb, hf⟩, fun d e => ?_⟩
  obtain rfl : d = .str (longS b n s') := e
  simp only [ex_seq, ex_next, ex_if, ex_ret, ex_set, ex_setO, ex_app, ex_aug, ex_var, ex_vw, ex_c, ex_d2, ex_b, ex_onD, ex_onVd, ex_onVo, ex_onO, ex_onB, ex_onS, ex_int, ex_addI, ex_addS, ex_addT, ex_nil, ex_cons, ex_tup, ex_lst, ex_cb, ex_tupleL, ex_tupleT, get_0, get_s, ex_for, ex_nm, ex_gnil, ex_gcons, ex_gtup, ex_gtupL, ex_asg, ex_par, ex_iseq, ex_onSeqT, ex_onSeqL, ex_onSeqS, ex_ienum, ex_irev, ex_onLTt, ex_onLTl, ex_rng1, ex_ifE, ex_and, ex_or, ex_not, ex_andV, ex_orV, ex_notV, ex_ixL, ex_call, ex_callN, ex_rev, ex_revL, ex_cat, ex_rep, ex_sl, ex_slA, ex_slL, ex_nopt, ex_pt, ex_eq, ex_ne, ex_yes, ex_lc, ex_lenT, ex_lenL, ex_lenS, ex_int2, ex_augIx, ex_isT, ex_chain, ex_asg2, ex_neg, List.set, startD, List.replicate, List.map_nil, List.map_cons, List.length_cons, List.length_nil, List.cons_append, List.nil_append, Nat.sub_self, Nat.reduceSub, Nat.reduceAdd, wipeE, decide_true, decide_false, if_true, if_false, true_and, and_true, Bool.not_true, Bool.not_false, Bool.false_eq_true, ex_frz, ex_draw, ex_fld, ex_meth, ex_make, ex_isC, ex_joinS, ex_orS, ex_joined, ex_js, ex_js0, ex_fmt, ex_part, ex_split, ex_inS, ex_toStr, ex_toIntS, ex_ownT, ex_own, ex_listL, ex_listT, ex_reprT, ex_reprL, ex_reprI, ex_slS, ex_toIntB, ex_toIntI, ex_put, ex_drop, ex_never, isT1, isT2, isT3, isT4, tyI, tyT, tyS, pyI, pyB, pyT0, pyIs, Nat.zero_le, deqv_int, deqv_bl]
  refine ⟨(b, n, s'), rfl, ⟨hb, hf, hs⟩, fun d e => ?_⟩
  obtain rfl : d = LO b n s' := e
  refine ⟨_, _, rfl, rfl, (b, (n, s'), (n, s')), rfl, hb.1, fun d e => ?_⟩
  obtain rfl : d = .bl (decide ((n, s') = (n, s'))) := e
  rw [decide_eq_true rfl]
  simp only [ex_seq, ex_next, ex_if, ex_ret, ex_set, ex_setO, ex_app, ex_aug, ex_var, ex_vw, ex_c, ex_d2, ex_b, ex_onD, ex_onVd, ex_onVo, ex_onO, ex_onB, ex_onS, ex_int, ex_addI, ex_addS, ex_addT, ex_nil, ex_cons, ex_tup, ex_lst, ex_cb, ex_tupleL, ex_tupleT, get_0, get_s, ex_for, ex_nm, ex_gnil, ex_gcons, ex_gtup, ex_gtupL, ex_asg, ex_par, ex_iseq, ex_onSeqT, ex_onSeqL, ex_onSeqS, ex_ienum, ex_irev, ex_onLTt, ex_onLTl, ex_rng1, ex_ifE, ex_and, ex_or, ex_not, ex_andV, ex_orV, ex_notV, ex_ixL, ex_call, ex_callN, ex_rev, ex_revL, ex_cat, ex_rep, ex_sl, ex_slA, ex_slL, ex_nopt, ex_pt, ex_eq, ex_ne, ex_yes, ex_lc, ex_lenT, ex_lenL, ex_lenS, ex_int2, ex_augIx, ex_isT, ex_chain, ex_asg2, ex_neg, List.set, startD, List.replicate, List.map_nil, List.map_cons, List.length_cons, List.length_nil, List.cons_append, List.nil_append, Nat.sub_self, Nat.reduceSub, Nat.reduceAdd, wipeE, decide_true, decide_false, if_true, if_false, true_and, and_true, Bool.not_true, Bool.not_false, Bool.false_eq_true, ex_frz, ex_draw, ex_fld, ex_meth, ex_make, ex_isC, ex_joinS, ex_orS, ex_joined, ex_js, ex_js0, ex_fmt, ex_part, ex_split, ex_inS, ex_toStr, ex_toIntS, ex_ownT, ex_own, ex_listL, ex_listT, ex_reprT, ex_reprL, ex_reprI, ex_slS, ex_toIntB, ex_toIntI, ex_put, ex_drop, ex_never, isT1, isT2, isT3, isT4, tyI, tyT, tyS, pyI, pyB, pyT0, pyIs, Nat.zero_le, deqv_int, deqv_bl]
  refine ⟨_, rfl, (b, n, s'), rfl, ⟨hb, hf⟩, fun d e => ?_⟩
  obtain rfl : d = .str (longS b n s') := e
  simp only [ex_seq, ex_next, ex_if, ex_ret, ex_set, ex_setO, ex_app, ex_aug, ex_var, ex_vw, ex_c, ex_d2, ex_b, ex_onD, ex_onVd, ex_onVo, ex_onO, ex_onB, ex_onS, ex_int, ex_addI, ex_addS, ex_addT, ex_nil, ex_cons, ex_tup, ex_lst, ex_cb, ex_tupleL, ex_tupleT, get_0, get_s, ex_for, ex_nm, ex_gnil, ex_gcons, ex_gtup, ex_gtupL, ex_asg, ex_par, ex_iseq, ex_onSeqT, ex_onSeqL, ex_onSeqS, ex_ienum, ex_irev, ex_onLTt, ex_onLTl, ex_rng1, ex_ifE, ex_and, ex_or, ex_not, ex_andV, ex_orV, ex_notV, ex_ixL, ex_call, ex_callN, ex_rev, ex_revL, ex_cat, ex_rep, ex_sl, ex_slA, ex_slL, ex_nopt, ex_pt, ex_eq, ex_ne, ex_yes, ex_lc, ex_lenT, ex_lenL, ex_lenS, ex_int2, ex_augIx, ex_isT, ex_chain, ex_asg2, ex_neg, List.set, startD, List.replicate, List.map_nil, List.map_cons, List.length_cons, List.length_nil, List.cons_append, List.nil_append, Nat.sub_self, Nat.reduceSub, Nat.reduceAdd, wipeE, decide_true, decide_false, if_true, if_false, true_and, and_true, Bool.not_true, Bool.not_false, Bool.false_eq_true, ex_frz, ex_draw, ex_fld, ex_meth, ex_make, ex_isC, ex_joinS, ex_orS, ex_joined, ex_js, ex_js0, ex_fmt, ex_part, ex_split, ex_inS, ex_toStr, ex_toIntS, ex_ownT, ex_own, ex_listL, ex_listT, ex_reprT, ex_reprL, ex_reprI, ex_slS, ex_toIntB, ex_toIntI, ex_put, ex_drop, ex_never, isT1, isT2, isT3, isT4, tyI, tyT, tyS, pyI, pyB, pyT0, pyIs, Nat.zero_le, deqv_int, deqv_bl]
  refine ⟨(b, n, s'), rfl, ⟨hb, hf, hs⟩, fun d e => ?_⟩
  obtain rfl : d = LO b n s' := e
  refine ⟨_, rfl, (b, n, s'), rfl, ⟨hb, hf⟩, fun d e => ?_⟩
  obtain rfl : d = .str (("Long(" ++ longS b n s') ++ ")") := e
  simp only [ex_seq, ex_next, ex_if, ex_ret, ex_set, ex_setO, ex_app, ex_aug, ex_var, ex_vw, ex_c, ex_d2, ex_b, ex_onD, ex_onVd, ex_onVo, ex_onO, ex_onB, ex_onS, ex_int, ex_addI, ex_addS, ex_addT, ex_nil, ex_cons, ex_tup, ex_lst, ex_cb, ex_tupleL, ex_tupleT, get_0, get_s, ex_for, ex_nm, ex_gnil, ex_gcons, ex_gtup, ex_gtupL, ex_asg, ex_par, ex_iseq, ex_onSeqT, ex_onSeqL, ex_onSeqS, ex_ienum, ex_irev, ex_onLTt, ex_onLTl, ex_rng1, ex_ifE, ex_and, ex_or, ex_not, ex_andV, ex_orV, ex_notV, ex_ixL, ex_call, ex_callN, ex_rev, ex_revL, ex_cat, ex_rep, ex_sl, ex_slA, ex_slL, ex_nopt, ex_pt, ex_eq, ex_ne, ex_yes, ex_lc, ex_lenT, ex_lenL, ex_lenS, ex_int2, ex_augIx, ex_isT, ex_chain, ex_asg2, ex_neg, List.set, startD, List.replicate, List.map_nil, List.map_cons, List.length_cons, List.length_nil, List.cons_append, List.nil_append, Nat.sub_self, Nat.reduceSub, Nat.reduceAdd, wipeE, decide_true, decide_false, if_true, if_false, true_and, and_true, Bool.not_true, Bool.not_false, Bool.false_eq_true, ex_frz, ex_draw, ex_fld, ex_meth, ex_make, ex_isC, ex_joinS, ex_orS, ex_joined, ex_js, ex_js0, ex_fmt, ex_part, ex_split, ex_inS, ex_toStr, ex_toIntS, ex_ownT, ex_own, ex_listL, ex_listT, ex_reprT, ex_reprL, ex_reprI, ex_slS, ex_toIntB, ex_toIntI, ex_put, ex_drop, ex_never, isT1, isT2, isT3, isT4, tyI, tyT, tyS, pyI, pyB, pyT0, pyIs, Nat.zero_le, deqv_int, deqv_bl]
  refine ⟨_, rfl, (b, n, s'), rfl, ⟨hb, hf⟩, fun d e => ?_⟩
  obtain rfl : d = .str (("Long(" ++ longS b n s') ++ ")") := e
  simp only [ex_seq, ex_next, ex_if, ex_ret, ex_set, ex_setO, ex_app, ex_aug, ex_var, ex_vw, ex_c, ex_d2, ex_b, ex_onD, ex_onVd, ex_onVo, ex_onO, ex_onB, ex_onS, ex_int, ex_addI, ex_addS, ex_addT, ex_nil, ex_cons, ex_tup, ex_lst, ex_cb, ex_tupleL, ex_tupleT, get_0, get_s, ex_for, ex_nm, ex_gnil, ex_gcons, ex_gtup, ex_gtupL, ex_asg, ex_par, ex_iseq, ex_onSeqT, ex_onSeqL, ex_onSeqS, ex_ienum, ex_irev, ex_onLTt, ex_onLTl, ex_rng1, ex_ifE, ex_and, ex_or, ex_not, ex_andV, ex_orV, ex_notV, ex_ixL, ex_call, ex_callN, ex_rev, ex_revL, ex_cat, ex_rep, ex_sl, ex_slA, ex_slL, ex_nopt, ex_pt, ex_eq, ex_ne, ex_yes, ex_lc, ex_lenT, ex_lenL, ex_lenS, ex_int2, ex_augIx, ex_isT, ex_chain, ex_asg2, ex_neg, List.set, startD, List.replicate, List.map_nil, List.map_cons, List.length_cons, List.length_nil, List.cons_append, List.nil_append, Nat.sub_self, Nat.reduceSub, Nat.reduceAdd, wipeE, decide_true, decide_false, if_true, if_false, true_and, and_true, Bool.not_true, Bool.not_false, Bool.false_eq_true, ex_frz, ex_draw, ex_fld, ex_meth, ex_make, ex_isC, ex_joinS, ex_orS, ex_joined, ex_js, ex_js0, ex_fmt, ex_part, ex_split, ex_inS, ex_toStr, ex_toIntS, ex_ownT, ex_own, ex_listL, ex_listT, ex_reprT, ex_reprL, ex_reprI, ex_slS, ex_toIntB, ex_toIntI, ex_put, ex_drop, ex_never, isT1, isT2, isT3, isT4, tyI, tyT, tyS, pyI, pyB, pyT0, pyIs, Nat.zero_le, deqv_int, deqv_bl]
  have hp : pyOk (.str (("Long(" ++ longS b n s') ++ ")")) = true := pyOk_str fun c hc => by
    rw [TL.tl_append, TL.tl_append, List.mem_append, List.mem_append] at hc
    rcases hc with (hc | hc) | hc
    · have : c ∈ [76, 111, 110, 103, 40] := hc
      simp only [List.mem_cons, List.not_mem_nil, or_false] at this
      omega
    · exact longS_ascii hb c hc
    · have : c ∈ [41] := hc
      rw [List.mem_singleton] at this
      omega
  refine ⟨hp, hp, ?_⟩
  rw [deqv_str, decide_eq_true rfl, if_neg (by decide)]
  by_cases h36 : (36 : Int) < b
  · rw [decide_eq_true h36, if_pos rfl]
    exact rfl
  · rw [decide_eq_false h36, if_neg (by decide)]
    have h36 : b ≤ 36 := by omega
    simp only [ex_seq, ex_next, ex_if, ex_ret, ex_set, ex_setO, ex_app, ex_aug, ex_var, ex_vw, ex_c, ex_d2, ex_b, ex_onD, ex_onVd, ex_onVo, ex_onO, ex_onB, ex_onS, ex_int, ex_addI, ex_addS, ex_addT, ex_nil, ex_cons, ex_tup, ex_lst, ex_cb, ex_tupleL, ex_tupleT, get_0, get_s, ex_for, ex_nm, ex_gnil, ex_gcons, ex_gtup, ex_gtupL, ex_asg, ex_par, ex_iseq, ex_onSeqT, ex_onSeqL, ex_onSeqS, ex_ienum, ex_irev, ex_onLTt, ex_onLTl, ex_rng1, ex_ifE, ex_and, ex_or, ex_not, ex_andV, ex_orV, ex_notV, ex_ixL, ex_call, ex_callN, ex_rev, ex_revL, ex_cat, ex_rep, ex_sl, ex_slA, ex_slL, ex_nopt, ex_pt, ex_eq, ex_ne, ex_yes, ex_lc, ex_lenT, ex_lenL, ex_lenS, ex_int2, ex_augIx, ex_isT, ex_chain, ex_asg2, ex_neg, List.set, startD, List.replicate, List.map_nil, List.map_cons, List.length_cons, List.length_nil, List.cons_append, List.nil_append, Nat.sub_self, Nat.reduceSub, Nat.reduceAdd, wipeE, decide_true, decide_false, if_true, if_false, true_and, and_true, Bool.not_true, Bool.not_false, Bool.false_eq_true, ex_frz, ex_draw, ex_fld, ex_meth, ex_make, ex_isC, ex_joinS, ex_orS, ex_joined, ex_js, ex_js0, ex_fmt, ex_part, ex_split, ex_inS, ex_toStr, ex_toIntS, ex_ownT, ex_own, ex_listL, ex_listT, ex_reprT, ex_reprL, ex_reprI, ex_slS, ex_toIntB, ex_toIntI, ex_put, ex_drop, ex_never, isT1, isT2, isT3, isT4, tyI, tyT, tyS, pyI, pyB, pyT0, pyIs, Nat.zero_le, deqv_int, deqv_bl, e_gk_figures_of_1_base, e_gk_read_figures_1_base]
    refine ⟨(b, n), rfl, ⟨hb, h36, hf⟩, fun d e => ?_⟩
    obtain rfl : d = .str (figS b n) := e
    refine ⟨(b, n), rfl, ⟨hb, h36, hf⟩, fun d e => ?_⟩
    obtain rfl : d = rwD b n := e
    obtain ⟨r1, r2⟩ := repr_row (n := n) hb (by omega)
    refine ⟨r1, r1, r2, r2, ?_⟩
    rw [deqv_str, decide_eq_true rfl]
    exact rfl
end MD
end
section
/-! put_right. -/
namespace MD
open PySem L2
theorem sm_bnd {n : Nat} (h : Sm1 n) : n < 2 ^ BND := Nat.lt_of_lt_of_le h (Nat.pow_le_pow_right (by decide) (by unfold BND; omega))
theorem sm_len {b n : Nat} (hb : Bs b) (h : Sm1 n) : (rw b n).length ≤ 200 := rw_len_le hb.1 200 n h
theorem sm_few {b n : Nat} (hb : Bs b) (h : Sm1 n) : Few b n := Nat.le_trans (sm_len hb h) (by decide)
theorem log_pow {n k : Nat} (h : n < 2 ^ k) (hk : k ≤ 1919) : (n : Int).natAbs.log2 < 1920 := by
  show n.log2 < 1920
  by_cases h0 : n = 0
  · rw [h0]; decide
  · have := (Nat.log2_lt h0).mpr h
    omega
theorem pyOk_nS (n : Nat) : pyOk (.str (nS n)) = true := pyOk_str (nS_ascii n)
theorem ok__law_put_right : Keeps S__law_put_right T__law_put_right 6 := by
  rintro ⟨b, c, n, s⟩ ⟨hb, hc, hn⟩
  have hb : Bs b := hb
  have hc : Bs c := hc
  have hn : Sm1 n := hn
  have hB := sm_bnd hn
  have hlb := sm_len hb hn
  have hlc := sm_len hc hn
  obtain ⟨rb1, rb2⟩ := repr_row (n := n) hb (by omega)
  obtain ⟨rc1, rc2⟩ := repr_row (n := n) hc (by omega)
  have hlog : (n : Int).natAbs.log2 < 1920 := log_pow hn (by decide)
  have h11 : (12 : Nat) - 1 = 11 := rfl
  have lb : (rw b n).length ≤ 2 ^ (12 - 1) := Nat.le_trans hlb (by decide)
  have lc : (rw c n).length ≤ 2 ^ (12 - 1) := Nat.le_trans hlc (by decide)
  show T__law_put_right ⟨_, S__law_put_right.post (b, c, n, s), _, _⟩ (startD 6 [rwD b n, .int b, .int c, .bl s])
  simp only [T__law_put_right, ex_seq, ex_next, ex_if, ex_ret, ex_set, ex_setO, ex_app, ex_aug, ex_var, ex_vw, ex_c, ex_d2, ex_b, ex_onD, ex_onVd, ex_onVo, ex_onO, ex_onB, ex_onS, ex_int, ex_addI, ex_addS, ex_addT, ex_nil, ex_cons, ex_tup, ex_lst, ex_cb, ex_tupleL, ex_tupleT, get_0, get_s, ex_for, ex_nm, ex_gnil, ex_gcons, ex_gtup, ex_gtupL, ex_asg, ex_par, ex_iseq, ex_onSeqT, ex_onSeqL, ex_onSeqS, ex_ienum, ex_irev, ex_onLTt, ex_onLTl, ex_rng1, ex_ifE, ex_and, ex_or, ex_not, ex_andV, ex_orV, ex_notV, ex_ixL, ex_call, ex_callN, ex_rev, ex_revL, ex_cat, ex_rep, ex_sl, ex_slA, ex_slL, ex_nopt, ex_pt, ex_eq, ex_ne, ex_yes, ex_lc, ex_lenT, ex_lenL, ex_lenS, ex_int2, ex_augIx, ex_isT, ex_chain, ex_asg2, ex_neg, List.set, startD, List.replicate, List.map_nil, List.map_cons, List.length_cons, List.length_nil, List.cons_append, List.nil_append, Nat.sub_self, Nat.reduceSub, Nat.reduceAdd, wipeE, decide_true, decide_false, if_true, if_false, true_and, and_true, Bool.not_true, Bool.not_false, Bool.false_eq_true, ex_frz, ex_draw, ex_fld, ex_meth, ex_make, ex_isC, ex_joinS, ex_orS, ex_joined, ex_js, ex_js0, ex_fmt, ex_part, ex_split, ex_inS, ex_toStr, ex_toIntS, ex_ownT, ex_own, ex_listL, ex_listT, ex_reprT, ex_reprL, ex_reprI, ex_slS, ex_toIntB, ex_toIntI, ex_put, ex_drop, ex_never, isT1, isT2, isT3, isT4, tyI, tyT, tyS, pyI, pyB, pyT0, pyIs, Nat.zero_le, deqv_int, deqv_bl, e_gk_rebased_1_into_base, e_gk_rebased_1_base_into, e_gk_rebased_1_into, e_gk_worth_of_1_base, e_gk_row_of_1_base]
  refine ⟨(b, n), rfl, ⟨hb, hB⟩, fun d e => ?_⟩
  obtain rfl : d = .int n := e
  refine ⟨(c, b, n), rfl, ⟨hc, hb, by decide, lb, hB⟩, fun d e => ?_⟩
  obtain rfl : d = rwD c n := e
  refine ⟨rc1, (n, c), rfl, ⟨hc, hB⟩, fun d e => ?_⟩
  obtain rfl : d = rwD c n := e
  refine ⟨rc1, rc2, rc2, ?_⟩
  rw [deqv_str, decide_eq_true rfl]
  simp only [ex_seq, ex_next, ex_if, ex_ret, ex_set, ex_setO, ex_app, ex_aug, ex_var, ex_vw, ex_c, ex_d2, ex_b, ex_onD, ex_onVd, ex_onVo, ex_onO, ex_onB, ex_onS, ex_int, ex_addI, ex_addS, ex_addT, ex_nil, ex_cons, ex_tup, ex_lst, ex_cb, ex_tupleL, ex_tupleT, get_0, get_s, ex_for, ex_nm, ex_gnil, ex_gcons, ex_gtup, ex_gtupL, ex_asg, ex_par, ex_iseq, ex_onSeqT, ex_onSeqL, ex_onSeqS, ex_ienum, ex_irev, ex_onLTt, ex_onLTl, ex_rng1, ex_ifE, ex_and, ex_or, ex_not, ex_andV, ex_orV, ex_notV, ex_ixL, ex_call, ex_callN, ex_rev, ex_revL, ex_cat, ex_rep, ex_sl, ex_slA, ex_slL, ex_nopt, ex_pt, ex_eq, ex_ne, ex_yes, ex_lc, ex_lenT, ex_lenL, ex_lenS, ex_int2, ex_augIx, ex_isT, ex_chain, ex_asg2, ex_neg, List.set, startD, List.replicate, List.map_nil, List.map_cons, List.length_cons, List.length_nil, List.cons_append, List.nil_append, Nat.sub_self, Nat.reduceSub, Nat.reduceAdd, wipeE, decide_true, decide_false, if_true, if_false, true_and, and_true, Bool.not_true, Bool.not_false, Bool.false_eq_true, ex_frz, ex_draw, ex_fld, ex_meth, ex_make, ex_isC, ex_joinS, ex_orS, ex_joined, ex_js, ex_js0, ex_fmt, ex_part, ex_split, ex_inS, ex_toStr, ex_toIntS, ex_ownT, ex_own, ex_listL, ex_listT, ex_reprT, ex_reprL, ex_reprI, ex_slS, ex_toIntB, ex_toIntI, ex_put, ex_drop, ex_never, isT1, isT2, isT3, isT4, tyI, tyT, tyS, pyI, pyB, pyT0, pyIs, Nat.zero_le, deqv_int, deqv_bl]
  refine ⟨(b, c, n), rfl, ⟨hb, hc, by decide, lc, hB⟩, fun d e => ?_⟩
  obtain rfl : d = rwD b n := e
  refine ⟨rb1, rb1, rb2, rb2, ?_⟩
  rw [deqv_str, decide_eq_true rfl]
  simp only [ex_seq, ex_next, ex_if, ex_ret, ex_set, ex_setO, ex_app, ex_aug, ex_var, ex_vw, ex_c, ex_d2, ex_b, ex_onD, ex_onVd, ex_onVo, ex_onO, ex_onB, ex_onS, ex_int, ex_addI, ex_addS, ex_addT, ex_nil, ex_cons, ex_tup, ex_lst, ex_cb, ex_tupleL, ex_tupleT, get_0, get_s, ex_for, ex_nm, ex_gnil, ex_gcons, ex_gtup, ex_gtupL, ex_asg, ex_par, ex_iseq, ex_onSeqT, ex_onSeqL, ex_onSeqS, ex_ienum, ex_irev, ex_onLTt, ex_onLTl, ex_rng1, ex_ifE, ex_and, ex_or, ex_not, ex_andV, ex_orV, ex_notV, ex_ixL, ex_call, ex_callN, ex_rev, ex_revL, ex_cat, ex_rep, ex_sl, ex_slA, ex_slL, ex_nopt, ex_pt, ex_eq, ex_ne, ex_yes, ex_lc, ex_lenT, ex_lenL, ex_lenS, ex_int2, ex_augIx, ex_isT, ex_chain, ex_asg2, ex_neg, List.set, startD, List.replicate, List.map_nil, List.map_cons, List.length_cons, List.length_nil, List.cons_append, List.nil_append, Nat.sub_self, Nat.reduceSub, Nat.reduceAdd, wipeE, decide_true, decide_false, if_true, if_false, true_and, and_true, Bool.not_true, Bool.not_false, Bool.false_eq_true, ex_frz, ex_draw, ex_fld, ex_meth, ex_make, ex_isC, ex_joinS, ex_orS, ex_joined, ex_js, ex_js0, ex_fmt, ex_part, ex_split, ex_inS, ex_toStr, ex_toIntS, ex_ownT, ex_own, ex_listL, ex_listT, ex_reprT, ex_reprL, ex_reprI, ex_slS, ex_toIntB, ex_toIntI, ex_put, ex_drop, ex_never, isT1, isT2, isT3, isT4, tyI, tyT, tyS, pyI, pyB, pyT0, pyIs, Nat.zero_le, deqv_int, deqv_bl]
  refine ⟨(c, n), rfl, ⟨hc, hB⟩, fun d e => ?_⟩
  obtain rfl : d = .int n := e
  refine ⟨hlog, hlog, pyOk_nS n, pyOk_nS n, ?_⟩
  rw [deqv_str, decide_eq_true rfl]
  simp only [ex_seq, ex_next, ex_if, ex_ret, ex_set, ex_setO, ex_app, ex_aug, ex_var, ex_vw, ex_c, ex_d2, ex_b, ex_onD, ex_onVd, ex_onVo, ex_onO, ex_onB, ex_onS, ex_int, ex_addI, ex_addS, ex_addT, ex_nil, ex_cons, ex_tup, ex_lst, ex_cb, ex_tupleL, ex_tupleT, get_0, get_s, ex_for, ex_nm, ex_gnil, ex_gcons, ex_gtup, ex_gtupL, ex_asg, ex_par, ex_iseq, ex_onSeqT, ex_onSeqL, ex_onSeqS, ex_ienum, ex_irev, ex_onLTt, ex_onLTl, ex_rng1, ex_ifE, ex_and, ex_or, ex_not, ex_andV, ex_orV, ex_notV, ex_ixL, ex_call, ex_callN, ex_rev, ex_revL, ex_cat, ex_rep, ex_sl, ex_slA, ex_slL, ex_nopt, ex_pt, ex_eq, ex_ne, ex_yes, ex_lc, ex_lenT, ex_lenL, ex_lenS, ex_int2, ex_augIx, ex_isT, ex_chain, ex_asg2, ex_neg, List.set, startD, List.replicate, List.map_nil, List.map_cons, List.length_cons, List.length_nil, List.cons_append, List.nil_append, Nat.sub_self, Nat.reduceSub, Nat.reduceAdd, wipeE, decide_true, decide_false, if_true, if_false, true_and, and_true, Bool.not_true, Bool.not_false, Bool.false_eq_true, ex_frz, ex_draw, ex_fld, ex_meth, ex_make, ex_isC, ex_joinS, ex_orS, ex_joined, ex_js, ex_js0, ex_fmt, ex_part, ex_split, ex_inS, ex_toStr, ex_toIntS, ex_ownT, ex_own, ex_listL, ex_listT, ex_reprT, ex_reprL, ex_reprI, ex_slS, ex_toIntB, ex_toIntI, ex_put, ex_drop, ex_never, isT1, isT2, isT3, isT4, tyI, tyT, tyS, pyI, pyB, pyT0, pyIs, Nat.zero_le, deqv_int, deqv_bl]
  refine ⟨(b, n), rfl, ⟨hb, hB⟩, fun d e => ?_⟩
  obtain rfl : d = .int n := e
  refine ⟨(n, c), rfl, ⟨hc, hB⟩, fun d e => ?_⟩
  obtain rfl : d = rwD c n := e
  refine ⟨pyOk_rwD _ _, pyOk_rwD _ _, ?_⟩
  rw [deqv_rwD hc.1, decide_eq_true rfl]
  simp only [ex_seq, ex_next, ex_if, ex_ret, ex_set, ex_setO, ex_app, ex_aug, ex_var, ex_vw, ex_c, ex_d2, ex_b, ex_onD, ex_onVd, ex_onVo, ex_onO, ex_onB, ex_onS, ex_int, ex_addI, ex_addS, ex_addT, ex_nil, ex_cons, ex_tup, ex_lst, ex_cb, ex_tupleL, ex_tupleT, get_0, get_s, ex_for, ex_nm, ex_gnil, ex_gcons, ex_gtup, ex_gtupL, ex_asg, ex_par, ex_iseq, ex_onSeqT, ex_onSeqL, ex_onSeqS, ex_ienum, ex_irev, ex_onLTt, ex_onLTl, ex_rng1, ex_ifE, ex_and, ex_or, ex_not, ex_andV, ex_orV, ex_notV, ex_ixL, ex_call, ex_callN, ex_rev, ex_revL, ex_cat, ex_rep, ex_sl, ex_slA, ex_slL, ex_nopt, ex_pt, ex_eq, ex_ne, ex_yes, ex_lc, ex_lenT, ex_lenL, ex_lenS, ex_int2, ex_augIx, ex_isT, ex_chain, ex_asg2, ex_neg, List.set, startD, List.replicate, List.map_nil, List.map_cons, List.length_cons, List.length_nil, List.cons_append, List.nil_append, Nat.sub_self, Nat.reduceSub, Nat.reduceAdd, wipeE, decide_true, decide_false, if_true, if_false, true_and, and_true, Bool.not_true, Bool.not_false, Bool.false_eq_true, ex_frz, ex_draw, ex_fld, ex_meth, ex_make, ex_isC, ex_joinS, ex_orS, ex_joined, ex_js, ex_js0, ex_fmt, ex_part, ex_split, ex_inS, ex_toStr, ex_toIntS, ex_ownT, ex_own, ex_listL, ex_listT, ex_reprT, ex_reprL, ex_reprI, ex_slS, ex_toIntB, ex_toIntI, ex_put, ex_drop, ex_never, isT1, isT2, isT3, isT4, tyI, tyT, tyS, pyI, pyB, pyT0, pyIs, Nat.zero_le, deqv_int, deqv_bl]
  have fin : S__law_texts_right.g [rwD b n, .int b, .bl s] (fun d => onB d fun k => if k = true then S__law_texts_right.g [rwD c n, .int c, .bl !s] (S__law_put_right.post (b, c, n, s)) else S__law_put_right.post (b, c, n, s) (.bl false)) := by
    refine ⟨(b, n, s), rfl, ⟨hb, sm_few hb hn⟩, fun d e => ?_⟩
    obtain rfl : d = .bl true := e
    simp only [ex_seq, ex_next, ex_if, ex_ret, ex_set, ex_setO, ex_app, ex_aug, ex_var, ex_vw, ex_c, ex_d2, ex_b, ex_onD, ex_onVd, ex_onVo, ex_onO, ex_onB, ex_onS, ex_int, ex_addI, ex_addS, ex_addT, ex_nil, ex_cons, ex_tup, ex_lst, ex_cb, ex_tupleL, ex_tupleT, get_0, get_s, ex_for, ex_nm, ex_gnil, ex_gcons, ex_gtup, ex_gtupL, ex_asg, ex_par, ex_iseq, ex_onSeqT, ex_onSeqL, ex_onSeqS, ex_ienum, ex_irev, ex_onLTt, ex_onLTl, ex_rng1, ex_ifE, ex_and, ex_or, ex_not, ex_andV, ex_orV, ex_notV, ex_ixL, ex_call, ex_callN, ex_rev, ex_revL, ex_cat, ex_rep, ex_sl, ex_slA, ex_slL, ex_nopt, ex_pt, ex_eq, ex_ne, ex_yes, ex_lc, ex_lenT, ex_lenL, ex_lenS, ex_int2, ex_augIx, ex_isT, ex_chain, ex_asg2, ex_neg, List.set, startD, List.replicate, List.map_nil, List.map_cons, List.length_cons, List.length_nil, List.cons_append, List.nil_append, Nat.sub_self, Nat.reduceSub, Nat.reduceAdd, wipeE, decide_true, decide_false, if_true, if_false, true_and, and_true, Bool.not_true, Bool.not_false, Bool.false_eq_true, ex_frz, ex_draw, ex_fld, ex_meth, ex_make, ex_isC, ex_joinS, ex_orS, ex_joined, ex_js, ex_js0, ex_fmt, ex_part, ex_split, ex_inS, ex_toStr, ex_toIntS, ex_ownT, ex_own, ex_listL, ex_listT, ex_reprT, ex_reprL, ex_reprI, ex_slS, ex_toIntB, ex_toIntI, ex_put, ex_drop, ex_never, isT1, isT2, isT3, isT4, tyI, tyT, tyS, pyI, pyB, pyT0, pyIs, Nat.zero_le, deqv_int, deqv_bl]
    exact ⟨(c, n, !s), rfl, ⟨hc, sm_few hc hn⟩, fun d e => e⟩
  have mid : if decide ((c : Int) = 10) = true then (S_rebased 12).g [rwD c n, .int b, .int 10] (fun a => pyOk a = true ∧ pyOk (rwD b n) = true ∧ if (!deqv a (rwD b n)) = true then S__law_put_right.post (b, c, n, s) (.bl false) else
        S__law_texts_right.g [rwD b n, .int b, .bl s] fun d => onB d fun k => if k = true then S__law_texts_right.g [rwD c n, .int c, .bl !s] (S__law_put_right.post (b, c, n, s)) else S__law_put_right.post (b, c, n, s) (.bl false))
      else S__law_texts_right.g [rwD b n, .int b, .bl s] fun d => onB d fun k => if k = true then S__law_texts_right.g [rwD c n, .int c, .bl !s] (S__law_put_right.post (b, c, n, s)) else S__law_put_right.post (b, c, n, s) (.bl false) := by
    by_cases h : (c : Int) = 10
    · rw [decide_eq_true h, if_pos rfl]
      refine ⟨(b, c, n), by show [rwD c n, .int b, .int 10] = [rwD c n, .int b, .int c]; rw [h], ⟨hb, hc, by decide, lc, hB⟩, fun d e => ?_⟩
      obtain rfl : d = rwD b n := e
      refine ⟨pyOk_rwD _ _, pyOk_rwD _ _, ?_⟩
      rw [deqv_rwD hb.1, decide_eq_true rfl, if_neg (by decide)]
      exact fin
    · rw [decide_eq_false h, if_neg (by decide)]
      exact fin
  by_cases h : (b : Int) = 10
  · rw [decide_eq_true h, if_pos rfl]
    refine ⟨(c, b, n), by show [rwD b n, .int c, .int 10] = [rwD b n, .int c, .int b]; rw [h], ⟨hc, hb, by decide, lb, hB⟩, fun d e => ?_⟩
    obtain rfl : d = rwD c n := e
    refine ⟨pyOk_rwD _ _, pyOk_rwD _ _, ?_⟩
    rw [deqv_rwD hc.1, decide_eq_true rfl, if_neg (by decide)]
    exact mid
  · rw [decide_eq_false h, if_neg (by decide)]
    exact mid
end MD
end
section
/-! How long a repr may be. -/
namespace MD
open PySem L2
mutual
def wdD : D → Nat
  | .tup ds => wdL ds + 3
  | .lst ds => wdL ds + 3
  | _ => 8
def wdL : List D → Nat
  | [] => 0
  | d :: ds => wdD d + 2 + wdL ds
end
mutual
theorem pl_wd : ∀ {d : D}, plD d = true → (toPy d).shown.length ≤ wdD d
  | .non, _ => (show 4 ≤ 8 by decide)
  | .bl b, _ => by cases b <;> decide
  | .int i, h => digN_len (of_decide_eq_true h)
  | .tup ds, h => by
    have h1 := pl_wdL (ds := ds) h
    have h2 := tupleText_len_le (PyData.shownAll (toPyL ds))
    show (tupleText (PyData.shownAll (toPyL ds))).length ≤ wdL ds + 3
    omega
  | .lst ds, h => by
    have h1 := pl_wdL (ds := ds) h
    have h2 := listText_len_le (PyData.shownAll (toPyL ds))
    show (listText (PyData.shownAll (toPyL ds))).length ≤ wdL ds + 3
    omega
  | .str _, h => by cases h
  | .ob _ _, h => by cases h
  | .fn _, h => by cases h
  | .scr _, h => by cases h
  | .res _, h => by cases h
theorem pl_wdL : ∀ {ds : List D}, plL ds = true → ((PyData.shownAll (toPyL ds)).map (·.length)).sum + 2 * (PyData.shownAll (toPyL ds)).length ≤ wdL ds
  | [], _ => Nat.le_refl 0
  | d :: ds, h => by
    have h : (plD d && plL ds) = true := h
    rw [Bool.and_eq_true] at h
    have h1 := pl_wd h.1
    have h2 := pl_wdL h.2
    show ((toPy d).shown.length :: (PyData.shownAll (toPyL ds)).map (·.length)).sum + 2 * ((PyData.shownAll (toPyL ds)).length + 1) ≤ wdD d + 2 + wdL ds
    rw [List.sum_cons]
    omega
end
theorem repr_ok' {d : D} (h : plD d = true) (hd : (toPy d).depth ≤ 20) (hw : wdD d ≤ SZ) : showOk d = true ∧ pyOk (.str (shownD d)) = true := by
  refine ⟨?_, pyOk_str (pl_ascii h)⟩
  unfold showOk
  have h1 := pl_wd h
  rw [pl_py h, pl_show h, decide_eq_true hd, decide_eq_true (show (toPy d).shown.length ≤ SZ by omega)]
  rfl
theorem wdL_ints : ∀ ns : List Int, wdL (ns.map D.int) = 10 * ns.length
  | [] => rfl
  | n :: ns => by
    show 8 + 2 + wdL (ns.map D.int) = 10 * (ns.length + 1)
    rw [wdL_ints ns]
    omega
theorem wdL_le {α : Type} {f : α → D} {k : Nat} : ∀ {xs : List α}, (∀ x ∈ xs, wdD (f x) ≤ k) → wdL (xs.map f) ≤ (k + 2) * xs.length
  | [], _ => Nat.zero_le _
  | x :: xs, h => by
    have h1 := h x (List.mem_cons_self ..)
    have h2 := wdL_le fun y hy => h y (List.mem_cons_of_mem _ hy)
    show wdD (f x) + 2 + wdL (xs.map f) ≤ (k + 2) * (xs.length + 1)
    rw [Nat.mul_add]
    omega
theorem wd_row (b n : Nat) : wdD (rwD b n) = 10 * (rw b n).length + 3 := by
  show wdL ((rw b n).map D.int) + 3 = _
  rw [wdL_ints]
theorem depthL_le {α : Type} {f : α → D} {k : Nat} : ∀ {xs : List α}, (∀ x ∈ xs, (toPy (f x)).depth ≤ k) → PyData.depthAll (toPyL (xs.map f)) ≤ k
  | [], _ => Nat.zero_le _
  | x :: xs, h => by
    have h1 := h x (List.mem_cons_self ..)
    have h2 := depthL_le fun y hy => h y (List.mem_cons_of_mem _ hy)
    show max (toPy (f x)).depth (PyData.depthAll (toPyL (xs.map f))) ≤ k
    exact Nat.max_le.mpr ⟨h1, h2⟩
/-- a list of rows -/
theorem repr_rowsL {b : Nat} (hb : Bs b) {ns : List Nat} (hl : ∀ n ∈ ns, (rw b n).length ≤ 500) (hn : ns.length ≤ 15) : showOk (.lst (ns.map (rwD b))) = true ∧ pyOk (.str (shownD (.lst (ns.map (rwD b))))) = true := by
  refine repr_ok' (plL_map fun n _ => pl_row hb) ?_ ?_
  · show PyData.depthAll (toPyL (ns.map (rwD b))) + 1 ≤ 20
    have := depthL_le (f := rwD b) (k := 1) (xs := ns) fun n _ => Nat.le_of_eq depth_row
    omega
  · show wdL (ns.map (rwD b)) + 3 ≤ SZ
    have := wdL_le (f := rwD b) (k := 5003) (xs := ns) fun n hn => by rw [wd_row]; have := hl n hn; omega
    unfold SZ
    have : (5003 + 2) * ns.length ≤ 5005 * 15 := Nat.mul_le_mul_left _ hn
    omega
end MD
end
section
/-! told, same_there. -/
namespace MD
open PySem L2
theorem perm2 {α : Type} {p q : α} {qs : List α} (h : qs.Perm [p, q]) : qs = [p, q] ∨ qs = [q, p] := by
  match qs, h with
  | [], h => exact absurd h.length_eq (by simp)
  | [_], h => exact absurd h.length_eq (by simp)
  | _ :: _ :: _ :: _, h => exact absurd h.length_eq (by simp)
  | [x, y], h =>
    have hx : x ∈ [p, q] := h.mem_iff.mp (List.mem_cons_self ..)
    rcases List.mem_cons.mp hx with rfl | hx
    · have := h.cons_inv
      rw [List.perm_singleton] at this
      injection this with this
      exact Or.inl (by rw [this])
    · rw [List.mem_singleton] at hx
      subst hx
      have := (h.trans (.swap _ _ _)).cons_inv
      rw [List.perm_singleton] at this
      injection this with this
      exact Or.inr (by rw [this])
theorem sm_add {m n : Nat} (hm : Sm1 m) (hn : Sm1 n) : m + n < 2 ^ 402 := by
  have : (2 : Nat) ^ 200 + 2 ^ 200 ≤ 2 ^ 402 := by decide +kernel
  unfold Sm1 at hm hn
  omega
theorem sm_mul {m n : Nat} (hm : Sm1 m) (hn : Sm1 n) : m * n < 2 ^ 402 := by
  unfold Sm1 at hm hn
  have h := Nat.mul_le_mul (Nat.le_of_lt hm) (Nat.le_of_lt hn)
  rw [← Nat.pow_add] at h
  exact Nat.lt_of_le_of_lt h (Nat.pow_lt_pow_right (by decide) (by decide))
theorem bnd402 {n : Nat} (h : n < 2 ^ 402) : n < 2 ^ BND := Nat.lt_of_lt_of_le h (Nat.pow_le_pow_right (by decide) (by unfold BND; omega))
theorem s402 {n : Nat} (h : n < 2 ^ 402) : Sm2 n := Nat.lt_of_lt_of_le h (Nat.pow_le_pow_right (by decide) (by decide))
theorem sm402 {n : Nat} (h : Sm1 n) : n < 2 ^ 402 := Nat.lt_of_lt_of_le h (Nat.pow_le_pow_right (by decide) (by decide))
def ToldTail (b m n : Nat) (g l : D) : Prop := S_summed.g [rwD b m, rwD b n, .int b] fun d1 => S_plain_product.g [rwD b m, rwD b n, .int b] fun d2 => ∃ x, L2.atI [.int (max m n : Nat), g] 1 = some x ∧ ∃ y, L2.atI [.int (min m n : Nat), l] 1 = some y ∧ S_lessened.g [x, y, .int b] fun d3 => 3 ≤ SZ ∧ pyOk (rwD b n) = true ∧
  if deqv (rwD b n) (.tup []) = true then S__law_told.post (b, m, n) (.lst [d1, d2, d3]) else S_divided.g [rwD b m, rwD b n, .int b] fun d => gList [d] fun e => match (D.lst [d1, d2, d3]), e with | .lst xs, .lst ys => xs.length + ys.length ≤ SZ ∧ S__law_told.post (b, m, n) (.lst (xs ++ ys)) | _, _ => False
theorem told_tail {b m n : Nat} (hb : Bs b) (hm : Sm1 m) (hn : Sm1 n) : ToldTail b m n (rwD b (max m n)) (rwD b (min m n)) := by
  refine ⟨(b, m, n), rfl, ⟨hb, bnd402 (sm_add hm hn)⟩, fun d e => ?_⟩
  obtain rfl : d = rwD b (m + n) := e
  refine ⟨(b, m, n), rfl, ⟨hb, sm_bnd hm, sm_bnd hn⟩, fun d e => ?_⟩
  obtain rfl : d = rwD b (m * n) := e
  refine ⟨_, rfl, _, rfl, (b, max m n, min m n), rfl, ⟨hb, by show min m n ≤ max m n; omega, by show max m n < _; rcases Nat.le_total m n with h | h; rw [Nat.max_eq_right h]; exact sm_bnd hn; rw [Nat.max_eq_left h]; exact sm_bnd hm⟩, fun d e => ?_⟩
  obtain rfl : d = rwD b (max m n - min m n) := e
  refine ⟨by decide, pyOk_rwD _ _, ?_⟩
  rw [deqv_rw0 hb.1]
  by_cases h0 : n = 0
  · rw [decide_eq_true h0, if_pos rfl]
    show _ = D.lst ((toldN m n).map (rwD b))
    rw [toldN, if_pos h0]
    rfl
  · rw [decide_eq_false h0, if_neg (by decide)]
    refine ⟨(b, m, n), rfl, ⟨hb, Nat.pos_of_ne_zero h0, s402 (sm402 hm), s402 (sm402 hn)⟩, fun d e => ?_⟩
    obtain rfl : d = .tup [rwD b (m / n), rwD b (m % n)] := e
    refine ⟨(show 5 ≤ SZ by decide), ?_⟩
    show _ = D.lst ((toldN m n).map (rwD b))
    rw [toldN, if_neg h0]
    rfl
theorem ok__law_told : Keeps S__law_told T__law_told 7 := by
  rintro ⟨b, m, n⟩ ⟨hb, hm, hn⟩
  have hb : Bs b := hb
  have hm : Sm1 m := hm
  have hn : Sm1 n := hn
  show T__law_told ⟨_, S__law_told.post (b, m, n), _, _⟩ (startD 7 [rwD b m, rwD b n, .int b])
  simp only [T__law_told, ex_seq, ex_next, ex_if, ex_ret, ex_set, ex_setO, ex_app, ex_aug, ex_var, ex_vw, ex_c, ex_d2, ex_b, ex_onD, ex_onVd, ex_onVo, ex_onO, ex_onB, ex_onS, ex_int, ex_addI, ex_addS, ex_addT, ex_nil, ex_cons, ex_tup, ex_lst, ex_cb, ex_tupleL, ex_tupleT, get_0, get_s, ex_for, ex_nm, ex_gnil, ex_gcons, ex_gtup, ex_gtupL, ex_asg, ex_par, ex_iseq, ex_onSeqT, ex_onSeqL, ex_onSeqS, ex_ienum, ex_irev, ex_onLTt, ex_onLTl, ex_rng1, ex_ifE, ex_and, ex_or, ex_not, ex_andV, ex_orV, ex_notV, ex_ixL, ex_call, ex_callN, ex_rev, ex_revL, ex_cat, ex_rep, ex_sl, ex_slA, ex_slL, ex_nopt, ex_pt, ex_eq, ex_ne, ex_yes, ex_lc, ex_lenT, ex_lenL, ex_lenS, ex_int2, ex_augIx, ex_isT, ex_chain, ex_asg2, ex_neg, List.set, startD, List.replicate, List.map_nil, List.map_cons, List.length_cons, List.length_nil, List.cons_append, List.nil_append, Nat.sub_self, Nat.reduceSub, Nat.reduceAdd, wipeE, decide_true, decide_false, if_true, if_false, true_and, and_true, Bool.not_true, Bool.not_false, Bool.false_eq_true, ex_frz, ex_draw, ex_fld, ex_meth, ex_make, ex_isC, ex_joinS, ex_orS, ex_joined, ex_js, ex_js0, ex_fmt, ex_part, ex_split, ex_inS, ex_toStr, ex_toIntS, ex_ownT, ex_own, ex_listL, ex_listT, ex_reprT, ex_reprL, ex_reprI, ex_slS, ex_toIntB, ex_toIntI, ex_put, ex_drop, ex_never, isT1, isT2, isT3, isT4, tyI, tyT, tyS, pyI, pyB, pyT0, pyIs, Nat.zero_le, deqv_int, deqv_bl, -ex_gtup, -ex_gtupL, e_gk_summed_2_base, e_gk_plain_product_2_base, e_gk_lessened_2_base, e_gk_divided_2_base]
  refine ⟨by decide, ?_⟩
  refine comp_map (α := Nat) (rwD b) (fun k => pwD ((k : Int), rwD b k)) [m, n] [] (show 2 ≤ SZ by decide) (fun k hk R hR => ?_) ?_
  · have hkb : k < 2 ^ BND := by
      rcases List.mem_cons.mp hk with rfl | hk
      · exact sm_bnd hm
      · rw [List.mem_singleton] at hk
        subst hk
        exact sm_bnd hn
    simp only [ex_seq, ex_next, ex_if, ex_ret, ex_set, ex_setO, ex_app, ex_aug, ex_var, ex_vw, ex_c, ex_d2, ex_b, ex_onD, ex_onVd, ex_onVo, ex_onO, ex_onB, ex_onS, ex_int, ex_addI, ex_addS, ex_addT, ex_nil, ex_cons, ex_tup, ex_lst, ex_cb, ex_tupleL, ex_tupleT, get_0, get_s, ex_for, ex_nm, ex_gnil, ex_gcons, ex_gtup, ex_gtupL, ex_asg, ex_par, ex_iseq, ex_onSeqT, ex_onSeqL, ex_onSeqS, ex_ienum, ex_irev, ex_onLTt, ex_onLTl, ex_rng1, ex_ifE, ex_and, ex_or, ex_not, ex_andV, ex_orV, ex_notV, ex_ixL, ex_call, ex_callN, ex_rev, ex_revL, ex_cat, ex_rep, ex_sl, ex_slA, ex_slL, ex_nopt, ex_pt, ex_eq, ex_ne, ex_yes, ex_lc, ex_lenT, ex_lenL, ex_lenS, ex_int2, ex_augIx, ex_isT, ex_chain, ex_asg2, ex_neg, List.set, startD, List.replicate, List.map_nil, List.map_cons, List.length_cons, List.length_nil, List.cons_append, List.nil_append, Nat.sub_self, Nat.reduceSub, Nat.reduceAdd, wipeE, decide_true, decide_false, if_true, if_false, true_and, and_true, Bool.not_true, Bool.not_false, Bool.false_eq_true, ex_frz, ex_draw, ex_fld, ex_meth, ex_make, ex_isC, ex_joinS, ex_orS, ex_joined, ex_js, ex_js0, ex_fmt, ex_part, ex_split, ex_inS, ex_toStr, ex_toIntS, ex_ownT, ex_own, ex_listL, ex_listT, ex_reprT, ex_reprL, ex_reprI, ex_slS, ex_toIntB, ex_toIntI, ex_put, ex_drop, ex_never, isT1, isT2, isT3, isT4, tyI, tyT, tyS, pyI, pyB, pyT0, pyIs, Nat.zero_le, deqv_int, deqv_bl]
    refine ⟨(b, k), rfl, ⟨hb, hkb⟩, fun d e => ?_⟩
    obtain rfl : d = .int k := e
    exact ⟨by decide, hR⟩
  · have fin : ∀ (x y : Nat), x = min m n → y = max m n → gTupD 2 (gCons' (gNm 4) (gCons' (gNm 5) gNil')) (.lst [pwD ((x : Int), rwD b x), pwD ((y : Int), rwD b y)]) [.dat (rwD b m), .dat (rwD b n), .dat (.int b), .un, .un, .un, .un]
        (((dSeq (dSet 6 (dLst (dCons (dCallN S_summed gk_summed_2_base 2 1 (dCons (dVar 0) (dCons (dVar 1) dNil)) (dCons (dVar 2) dNil)) (dCons (dCallN S_plain_product gk_plain_product_2_base 2 1 (dCons (dVar 0) (dCons (dVar 1) dNil)) (dCons (dVar 2) dNil)) (dCons (dCallN S_lessened gk_lessened_2_base 2 1 (dCons (dIx (dVar 5) (dC (.int 1))) (dCons (dIx (dVar 4) (dC (.int 1))) dNil)) (dCons (dVar 2) dNil)) dNil))))) (dRet (dIf (dB (d2 gEq (dVar 1) (dTup dNil))) (dVar 6) (dCat (dVar 6) (dCB gList (dCons (dCallN S_divided gk_divided_2_base 2 1 (dCons (dVar 0) (dCons (dVar 1) dNil)) (dCons (dVar 2) dNil)) dNil))))))) ⟨fun _ => S__law_told.post (b, m, n) .non, S__law_told.post (b, m, n), fun _ => False, fun _ => False⟩) := by
      rintro x y rfl rfl
      rw [ex_gtupL]
      refine ⟨rfl, ?_⟩
      rw [ex_gcons, ex_nm, ex_gcons, ex_nm, ex_gnil]
      simp only [ex_seq, ex_next, ex_if, ex_ret, ex_set, ex_setO, ex_app, ex_aug, ex_var, ex_vw, ex_c, ex_d2, ex_b, ex_onD, ex_onVd, ex_onVo, ex_onO, ex_onB, ex_onS, ex_int, ex_addI, ex_addS, ex_addT, ex_nil, ex_cons, ex_tup, ex_lst, ex_cb, ex_tupleL, ex_tupleT, get_0, get_s, ex_for, ex_nm, ex_gnil, ex_gcons, ex_gtup, ex_gtupL, ex_asg, ex_par, ex_iseq, ex_onSeqT, ex_onSeqL, ex_onSeqS, ex_ienum, ex_irev, ex_onLTt, ex_onLTl, ex_rng1, ex_ifE, ex_and, ex_or, ex_not, ex_andV, ex_orV, ex_notV, ex_ixL, ex_call, ex_callN, ex_rev, ex_revL, ex_cat, ex_rep, ex_sl, ex_slA, ex_slL, ex_nopt, ex_pt, ex_eq, ex_ne, ex_yes, ex_lc, ex_lenT, ex_lenL, ex_lenS, ex_int2, ex_augIx, ex_isT, ex_chain, ex_asg2, ex_neg, List.set, startD, List.replicate, List.map_nil, List.map_cons, List.length_cons, List.length_nil, List.cons_append, List.nil_append, Nat.sub_self, Nat.reduceSub, Nat.reduceAdd, wipeE, decide_true, decide_false, if_true, if_false, true_and, and_true, Bool.not_true, Bool.not_false, Bool.false_eq_true, ex_frz, ex_draw, ex_fld, ex_meth, ex_make, ex_isC, ex_joinS, ex_orS, ex_joined, ex_js, ex_js0, ex_fmt, ex_part, ex_split, ex_inS, ex_toStr, ex_toIntS, ex_ownT, ex_own, ex_listL, ex_listT, ex_reprT, ex_reprL, ex_reprI, ex_slS, ex_toIntB, ex_toIntI, ex_put, ex_drop, ex_never, isT1, isT2, isT3, isT4, tyI, tyT, tyS, pyI, pyB, pyT0, pyIs, Nat.zero_le, deqv_int, deqv_bl, e_gk_summed_2_base, e_gk_plain_product_2_base, e_gk_lessened_2_base, e_gk_divided_2_base]
      exact told_tail hb hm hn
    refine ⟨[((m : Int), rwD b m), ((n : Int), rwD b n)], rfl, fun p hp => ?_, fun p hp q hq e => ?_, fun qs h1 h2 => ?_⟩
    · rcases List.mem_cons.mp hp with rfl | hp
      · exact pyOk_rwD _ _
      · rw [List.mem_singleton] at hp
        subst hp
        exact pyOk_rwD _ _
    · have hd : ∀ p ∈ [((m : Int), rwD b m), ((n : Int), rwD b n)], ∃ k : Nat, p = ((k : Int), rwD b k) := fun p hp => by
        rcases List.mem_cons.mp hp with rfl | hp
        · exact ⟨m, rfl⟩
        · rw [List.mem_singleton] at hp
          exact ⟨n, hp⟩
      obtain ⟨k, rfl⟩ := hd p hp
      obtain ⟨l, rfl⟩ := hd q hq
      have : k = l := by
        have : (k : Int) = l := e
        omega
      subst this
      rw [deqv_rwD hb.1, decide_eq_true rfl]
    · rcases perm2 h1 with rfl | rfl
      · have h3 : (m : Int) ≤ n := (List.pairwise_cons.mp h2).1 _ (List.mem_singleton.mpr rfl)
        exact fin m n (by omega) (by omega)
      · have h3 : (n : Int) ≤ m := (List.pairwise_cons.mp h2).1 _ (List.mem_singleton.mpr rfl)
        exact fin n m (by omega) (by omega)
theorem told_sm {m n : Nat} (hm : Sm1 m) (hn : Sm1 n) : ∀ k ∈ toldN m n, k < 2 ^ 402 := fun k hk => by
  unfold toldN at hk
  rcases List.mem_append.mp hk with hk | hk
  · simp only [List.mem_cons, List.not_mem_nil, or_false] at hk
    rcases hk with rfl | rfl | rfl
    · exact sm_add hm hn
    · exact sm_mul hm hn
    · refine Nat.lt_of_le_of_lt (Nat.sub_le _ _) ?_
      rcases Nat.le_total m n with h | h
      · rw [Nat.max_eq_right h]; exact sm402 hn
      · rw [Nat.max_eq_left h]; exact sm402 hm
  · split at hk
    · cases hk
    · simp only [List.mem_cons, List.not_mem_nil, or_false] at hk
      rcases hk with rfl | rfl
      · exact sm402 (Nat.lt_of_le_of_lt (Nat.div_le_self _ _) hm)
      · exact sm402 (Nat.lt_of_le_of_lt (Nat.mod_le _ _) hm)
theorem told_len (m n : Nat) : (toldN m n).length ≤ 5 := by
  unfold toldN
  split <;> simp
theorem len402 {b n : Nat} (hb : Bs b) (h : n < 2 ^ 402) : (rw b n).length ≤ 402 := rw_len_le hb.1 402 n h
theorem reb402 {b c n : Nat} (hb : Bs b) (hc : Bs c) (h : n < 2 ^ 402) : (S_rebased 12).pre (c, b, n) := ⟨hc, hb, by decide, Nat.le_trans (len402 hb h) (by decide), bnd402 h⟩
theorem ok__law_same_there : Keeps S__law_same_there T__law_same_there 7 := by
  rintro ⟨b, c, m, n⟩ ⟨hb, hc, hm, hn⟩
  have hb : Bs b := hb
  have hc : Bs c := hc
  have hm : Sm1 m := hm
  have hn : Sm1 n := hn
  show T__law_same_there ⟨_, S__law_same_there.post (b, c, m, n), _, _⟩ (startD 7 [rwD b m, rwD b n, .int b, .int c])
  simp only [T__law_same_there, ex_seq, ex_next, ex_if, ex_ret, ex_set, ex_setO, ex_app, ex_aug, ex_var, ex_vw, ex_c, ex_d2, ex_b, ex_onD, ex_onVd, ex_onVo, ex_onO, ex_onB, ex_onS, ex_int, ex_addI, ex_addS, ex_addT, ex_nil, ex_cons, ex_tup, ex_lst, ex_cb, ex_tupleL, ex_tupleT, get_0, get_s, ex_for, ex_nm, ex_gnil, ex_gcons, ex_gtup, ex_gtupL, ex_asg, ex_par, ex_iseq, ex_onSeqT, ex_onSeqL, ex_onSeqS, ex_ienum, ex_irev, ex_onLTt, ex_onLTl, ex_rng1, ex_ifE, ex_and, ex_or, ex_not, ex_andV, ex_orV, ex_notV, ex_ixL, ex_call, ex_callN, ex_rev, ex_revL, ex_cat, ex_rep, ex_sl, ex_slA, ex_slL, ex_nopt, ex_pt, ex_eq, ex_ne, ex_yes, ex_lc, ex_lenT, ex_lenL, ex_lenS, ex_int2, ex_augIx, ex_isT, ex_chain, ex_asg2, ex_neg, List.set, startD, List.replicate, List.map_nil, List.map_cons, List.length_cons, List.length_nil, List.cons_append, List.nil_append, Nat.sub_self, Nat.reduceSub, Nat.reduceAdd, wipeE, decide_true, decide_false, if_true, if_false, true_and, and_true, Bool.not_true, Bool.not_false, Bool.false_eq_true, ex_frz, ex_draw, ex_fld, ex_meth, ex_make, ex_isC, ex_joinS, ex_orS, ex_joined, ex_js, ex_js0, ex_fmt, ex_part, ex_split, ex_inS, ex_toStr, ex_toIntS, ex_ownT, ex_own, ex_listL, ex_listT, ex_reprT, ex_reprL, ex_reprI, ex_slS, ex_toIntB, ex_toIntI, ex_put, ex_drop, ex_never, isT1, isT2, isT3, isT4, tyI, tyT, tyS, pyI, pyB, pyT0, pyIs, Nat.zero_le, deqv_int, deqv_bl, e_gk_rebased_1_into_base]
  refine ⟨by decide, ?_⟩
  refine comp_map (α := Nat) (rwD b) (rwD c) [m, n] [] (show 2 ≤ SZ by decide) (fun k hk R hR => ?_) ?_
  · have hk2 : k < 2 ^ 402 := by
      rcases List.mem_cons.mp hk with rfl | hk
      · exact sm402 hm
      · rw [List.mem_singleton] at hk
        subst hk
        exact sm402 hn
    simp only [ex_seq, ex_next, ex_if, ex_ret, ex_set, ex_setO, ex_app, ex_aug, ex_var, ex_vw, ex_c, ex_d2, ex_b, ex_onD, ex_onVd, ex_onVo, ex_onO, ex_onB, ex_onS, ex_int, ex_addI, ex_addS, ex_addT, ex_nil, ex_cons, ex_tup, ex_lst, ex_cb, ex_tupleL, ex_tupleT, get_0, get_s, ex_for, ex_nm, ex_gnil, ex_gcons, ex_gtup, ex_gtupL, ex_asg, ex_par, ex_iseq, ex_onSeqT, ex_onSeqL, ex_onSeqS, ex_ienum, ex_irev, ex_onLTt, ex_onLTl, ex_rng1, ex_ifE, ex_and, ex_or, ex_not, ex_andV, ex_orV, ex_notV, ex_ixL, ex_call, ex_callN, ex_rev, ex_revL, ex_cat, ex_rep, ex_sl, ex_slA, ex_slL, ex_nopt, ex_pt, ex_eq, ex_ne, ex_yes, ex_lc, ex_lenT, ex_lenL, ex_lenS, ex_int2, ex_augIx, ex_isT, ex_chain, ex_asg2, ex_neg, List.set, startD, List.replicate, List.map_nil, List.map_cons, List.length_cons, List.length_nil, List.cons_append, List.nil_append, Nat.sub_self, Nat.reduceSub, Nat.reduceAdd, wipeE, decide_true, decide_false, if_true, if_false, true_and, and_true, Bool.not_true, Bool.not_false, Bool.false_eq_true, ex_frz, ex_draw, ex_fld, ex_meth, ex_make, ex_isC, ex_joinS, ex_orS, ex_joined, ex_js, ex_js0, ex_fmt, ex_part, ex_split, ex_inS, ex_toStr, ex_toIntS, ex_ownT, ex_own, ex_listL, ex_listT, ex_reprT, ex_reprL, ex_reprI, ex_slS, ex_toIntB, ex_toIntI, ex_put, ex_drop, ex_never, isT1, isT2, isT3, isT4, tyI, tyT, tyS, pyI, pyB, pyT0, pyIs, Nat.zero_le, deqv_int, deqv_bl, e_gk_rebased_1_into_base]
    refine ⟨(c, b, k), rfl, reb402 hb hc hk2, fun d e => ?_⟩
    obtain rfl : d = rwD c k := e
    exact hR
  · simp only [ex_seq, ex_next, ex_if, ex_ret, ex_set, ex_setO, ex_app, ex_aug, ex_var, ex_vw, ex_c, ex_d2, ex_b, ex_onD, ex_onVd, ex_onVo, ex_onO, ex_onB, ex_onS, ex_int, ex_addI, ex_addS, ex_addT, ex_nil, ex_cons, ex_tup, ex_lst, ex_cb, ex_tupleL, ex_tupleT, get_0, get_s, ex_for, ex_nm, ex_gnil, ex_gcons, ex_gtup, ex_gtupL, ex_asg, ex_par, ex_iseq, ex_onSeqT, ex_onSeqL, ex_onSeqS, ex_ienum, ex_irev, ex_onLTt, ex_onLTl, ex_rng1, ex_ifE, ex_and, ex_or, ex_not, ex_andV, ex_orV, ex_notV, ex_ixL, ex_call, ex_callN, ex_rev, ex_revL, ex_cat, ex_rep, ex_sl, ex_slA, ex_slL, ex_nopt, ex_pt, ex_eq, ex_ne, ex_yes, ex_lc, ex_lenT, ex_lenL, ex_lenS, ex_int2, ex_augIx, ex_isT, ex_chain, ex_asg2, ex_neg, List.set, startD, List.replicate, List.map_nil, List.map_cons, List.length_cons, List.length_nil, List.cons_append, List.nil_append, Nat.sub_self, Nat.reduceSub, Nat.reduceAdd, wipeE, decide_true, decide_false, if_true, if_false, true_and, and_true, Bool.not_true, Bool.not_false, Bool.false_eq_true, ex_frz, ex_draw, ex_fld, ex_meth, ex_make, ex_isC, ex_joinS, ex_orS, ex_joined, ex_js, ex_js0, ex_fmt, ex_part, ex_split, ex_inS, ex_toStr, ex_toIntS, ex_ownT, ex_own, ex_listL, ex_listT, ex_reprT, ex_reprL, ex_reprI, ex_slS, ex_toIntB, ex_toIntI, ex_put, ex_drop, ex_never, isT1, isT2, isT3, isT4, tyI, tyT, tyS, pyI, pyB, pyT0, pyIs, Nat.zero_le, deqv_int, deqv_bl, e_gk_rebased_1_into_base]
    refine ⟨(b, m, n), rfl, hb, fun d e => ?_⟩
    obtain rfl : d = .bl (decide (m < n)) := e
    refine ⟨_, rfl, _, rfl, (c, m, n), rfl, hc, fun d e => ?_⟩
    obtain rfl : d = .bl (decide (m < n)) := e
    refine ⟨rfl, rfl, ?_⟩
    rw [deqv_bl, decide_eq_true rfl, if_neg (by decide)]
    refine ⟨(b, m, n), rfl, ⟨hb, hm, hn⟩, fun d e => ?_⟩
    obtain rfl : d = .lst ((toldN m n).map (rwD b)) := e
    rw [ex_onSeqL]
    refine comp_map (α := Nat) (rwD b) (rwD c) (toldN m n) [] (by have := told_len m n; rw [List.length_nil]; unfold SZ; omega) (fun k hk R hR => ?_) ?_
    · have hk2 := told_sm hm hn k hk
      simp only [ex_seq, ex_next, ex_if, ex_ret, ex_set, ex_setO, ex_app, ex_aug, ex_var, ex_vw, ex_c, ex_d2, ex_b, ex_onD, ex_onVd, ex_onVo, ex_onO, ex_onB, ex_onS, ex_int, ex_addI, ex_addS, ex_addT, ex_nil, ex_cons, ex_tup, ex_lst, ex_cb, ex_tupleL, ex_tupleT, get_0, get_s, ex_for, ex_nm, ex_gnil, ex_gcons, ex_gtup, ex_gtupL, ex_asg, ex_par, ex_iseq, ex_onSeqT, ex_onSeqL, ex_onSeqS, ex_ienum, ex_irev, ex_onLTt, ex_onLTl, ex_rng1, ex_ifE, ex_and, ex_or, ex_not, ex_andV, ex_orV, ex_notV, ex_ixL, ex_call, ex_callN, ex_rev, ex_revL, ex_cat, ex_rep, ex_sl, ex_slA, ex_slL, ex_nopt, ex_pt, ex_eq, ex_ne, ex_yes, ex_lc, ex_lenT, ex_lenL, ex_lenS, ex_int2, ex_augIx, ex_isT, ex_chain, ex_asg2, ex_neg, List.set, startD, List.replicate, List.map_nil, List.map_cons, List.length_cons, List.length_nil, List.cons_append, List.nil_append, Nat.sub_self, Nat.reduceSub, Nat.reduceAdd, wipeE, decide_true, decide_false, if_true, if_false, true_and, and_true, Bool.not_true, Bool.not_false, Bool.false_eq_true, ex_frz, ex_draw, ex_fld, ex_meth, ex_make, ex_isC, ex_joinS, ex_orS, ex_joined, ex_js, ex_js0, ex_fmt, ex_part, ex_split, ex_inS, ex_toStr, ex_toIntS, ex_ownT, ex_own, ex_listL, ex_listT, ex_reprT, ex_reprL, ex_reprI, ex_slS, ex_toIntB, ex_toIntI, ex_put, ex_drop, ex_never, isT1, isT2, isT3, isT4, tyI, tyT, tyS, pyI, pyB, pyT0, pyIs, Nat.zero_le, deqv_int, deqv_bl, e_gk_rebased_1_into_base]
      refine ⟨(c, b, k), rfl, reb402 hb hc hk2, fun d e => ?_⟩
      obtain rfl : d = rwD c k := e
      exact hR
    · rw [List.nil_append]
      obtain ⟨r1, r2⟩ := repr_rowsL (ns := toldN m n) hc (fun k hk => Nat.le_trans (len402 hc (told_sm hm hn k hk)) (by decide)) (Nat.le_trans (told_len m n) (by decide))
      refine ⟨_, rfl, _, rfl, (c, m, n), rfl, ⟨hc, hm, hn⟩, fun d e => ?_⟩
      obtain rfl : d = .lst ((toldN m n).map (rwD c)) := e
      refine ⟨r1, r1, r2, r2, ?_⟩
      rw [deqv_str, decide_eq_true rfl]
      exact rfl
end MD
end
section
/-! long_there, longs_right. -/
namespace MD
open PySem L2
theorem comp_none {G : DG} {Tt : DTT} {Te : DT} {env : Ev} {Q : List D → Prop} {α : Type} (f : α → D) : ∀ (l : List α) (acc : List D), (∀ a ∈ l, ∀ (P : Ev → Prop) (R : Prop), R → G (f a) env fun env' => Tt env' fun b => if b = true then P env' else R) → Q acc → compD G Tt Te env Q (l.map f) acc
  | [], acc, _, q => q
  | a :: r, acc, hs, q => hs a (List.mem_cons_self ..) (fun env' => Te env' fun x => acc.length < SZ ∧ compD G Tt Te env Q (r.map f) (acc ++ [x])) (compD G Tt Te env Q (r.map f) acc) (comp_none f r acc (fun b hb => hs b (List.mem_cons_of_mem _ hb)) q)
theorem ok__law_long_there : Keeps S__law_long_there T__law_long_there 2 := by
  rintro ⟨b, c, n, s⟩ ⟨hb, hc, hn⟩
  have hb : Bs b := hb
  have hc : Bs c := hc
  have hn : n < 2 ^ 402 := hn
  show T__law_long_there ⟨_, S__law_long_there.post (b, c, n, s), _, _⟩ (startD 2 [LO b n s, .int c])
  simp only [T__law_long_there, ex_seq, ex_next, ex_if, ex_ret, ex_set, ex_setO, ex_app, ex_aug, ex_var, ex_vw, ex_c, ex_d2, ex_b, ex_onD, ex_onVd, ex_onVo, ex_onO, ex_onB, ex_onS, ex_int, ex_addI, ex_addS, ex_addT, ex_nil, ex_cons, ex_tup, ex_lst, ex_cb, ex_tupleL, ex_tupleT, get_0, get_s, ex_for, ex_nm, ex_gnil, ex_gcons, ex_gtup, ex_gtupL, ex_asg, ex_par, ex_iseq, ex_onSeqT, ex_onSeqL, ex_onSeqS, ex_ienum, ex_irev, ex_onLTt, ex_onLTl, ex_rng1, ex_ifE, ex_and, ex_or, ex_not, ex_andV, ex_orV, ex_notV, ex_ixL, ex_call, ex_callN, ex_rev, ex_revL, ex_cat, ex_rep, ex_sl, ex_slA, ex_slL, ex_nopt, ex_pt, ex_eq, ex_ne, ex_yes, ex_lc, ex_lenT, ex_lenL, ex_lenS, ex_int2, ex_augIx, ex_isT, ex_chain, ex_asg2, ex_neg, List.set, startD, List.replicate, List.map_nil, List.map_cons, List.length_cons, List.length_nil, List.cons_append, List.nil_append, Nat.sub_self, Nat.reduceSub, Nat.reduceAdd, wipeE, decide_true, decide_false, if_true, if_false, true_and, and_true, Bool.not_true, Bool.not_false, Bool.false_eq_true, ex_frz, ex_draw, ex_fld, ex_meth, ex_make, ex_isC, ex_joinS, ex_orS, ex_joined, ex_js, ex_js0, ex_fmt, ex_part, ex_split, ex_inS, ex_toStr, ex_toIntS, ex_ownT, ex_own, ex_listL, ex_listT, ex_reprT, ex_reprL, ex_reprI, ex_slS, ex_toIntB, ex_toIntI, ex_put, ex_drop, ex_never, isT1, isT2, isT3, isT4, tyI, tyT, tyS, pyI, pyB, pyT0, pyIs, Nat.zero_le, deqv_int, deqv_bl, e_gk_rebased_1_into_base, e_gk_Long_1_base_below, fR, fB, fS]
  refine ⟨(c, b, n), rfl, reb402 hb hc hn, fun d e => ?_⟩
  obtain rfl : d = rwD c n := e
  exact ⟨(c, n, s), rfl, hc.1, rfl⟩
/-- a number with a sign that nought has not -/
def Val (z : Nat × Bool) : Prop := (z.2 = true → z.1 ≠ 0) ∧ z.1 < 2 ^ 402
def here3 (x y : Nat × Bool) : List (Nat × Bool) := [addS x y, addS x (negS y), mulS x y]
def here5 (x y : Nat × Bool) : List (Nat × Bool) := here3 x y ++ [divS x y, (modS x y, false)]
theorem addS_le (x y : Nat × Bool) : (addS x y).1 ≤ x.1 + y.1 := by
  unfold addS
  dsimp only
  split <;> split <;> omega
theorem addS_val (x y : Nat × Bool) : (addS x y).2 = true → (addS x y).1 ≠ 0 := fun h => val_s h
theorem here_val {x y : Nat × Bool} (hx : Sm1 x.1) (hy : Sm1 y.1) : ∀ z ∈ here5 x y, Val z := fun z hz => by
  simp only [here5, here3, List.cons_append, List.nil_append, List.mem_cons, List.not_mem_nil, or_false] at hz
  have ha := sm_add hx hy
  rcases hz with rfl | rfl | rfl | rfl | rfl
  · exact ⟨addS_val _ _, Nat.lt_of_le_of_lt (addS_le _ _) ha⟩
  · exact ⟨addS_val _ _, Nat.lt_of_le_of_lt (addS_le _ _) ha⟩
  · exact ⟨fun h => val_s (s := x.2 != y.2) h, sm_mul hx hy⟩
  · refine ⟨fun h => val_s (s := x.2 != y.2) h, ?_⟩
    have h1 : (divS x y).1 ≤ x.1 + 1 := by
      have := Nat.div_le_self x.1 y.1
      unfold divS
      dsimp only
      split <;> omega
    have h2 : x.1 + 1 < 2 ^ 402 := by
      have : (2 : Nat) ^ 200 + 1 < 2 ^ 402 := by decide +kernel
      unfold Sm1 at hx
      omega
    exact Nat.lt_of_le_of_lt h1 h2
  · refine ⟨fun h => (by cases h), ?_⟩
    have h1 : modS x y ≤ x.1 + y.1 := by
      have := Nat.mod_le x.1 y.1
      unfold modS
      split <;> omega
    exact Nat.lt_of_le_of_lt h1 ha
theorem back_val {c : Nat} {z : Nat × Bool} (h : Val z) : LO c z.1 (z.2 && !decide (z.1 = 0)) = LOp c z := by
  unfold LOp
  congr 1
  cases e : z.2 with
  | false => rfl
  | true => rw [decide_eq_false (h.1 e)]; rfl
theorem lp_lk (b : Nat) (x : Nat × Bool) {m : Str} (h : ("row" : Str) ≠ m ∧ ("base" : Str) ≠ m ∧ ("below" : Str) ≠ m) : List.lookup m [("row", rwD b x.1), ("base", D.int b), ("below", D.bl x.2)] = none := lkm h.1 h.2.1 h.2.2
theorem neg_ok {b : Nat} {y : Nat × Bool} : LOp b (negS y) = LO b y.1 (!y.2 && !decide (y.1 = 0)) := rfl
theorem longs_end {b c : Nat} {d0 d1 d3 : D} {P : D → Prop} (hb : Bs b) (hc : Bs c) {zs : List (Nat × Bool)} (hz : ∀ z ∈ zs, Val z) (hl : zs.length ≤ 5) (hP : P (.bl true)) :
    ((dRet (d2 gEq (dLc (iRange1 (dCons (dCB gLen (dCons (dVar 4) dNil)) dNil)) (gNm 6) (dB (d2 (gOwn true "Long" S_Long_eq) (dCall S__law_long_there [] (dCons (dIx (dVar 4) (dVar 6)) (dCons (dVar 2) dNil))) (dIx (dVar 5) (dVar 6)))) (dVar 6) [6]) (dLst dNil))) : DTS) ⟨fun _ => P .non, P, fun _ => False, fun _ => False⟩ [.dat d0, .dat d1, .dat (.int c), .dat d3, .dat (.lst (zs.map (LOp b))), .dat (.lst (zs.map (LOp c))), .un] := by
  simp only [ex_seq, ex_next, ex_if, ex_ret, ex_set, ex_setO, ex_app, ex_aug, ex_var, ex_vw, ex_c, ex_d2, ex_b, ex_onD, ex_onVd, ex_onVo, ex_onO, ex_onB, ex_onS, ex_int, ex_addI, ex_addS, ex_addT, ex_nil, ex_cons, ex_tup, ex_lst, ex_cb, ex_tupleL, ex_tupleT, get_0, get_s, ex_for, ex_nm, ex_gnil, ex_gcons, ex_gtup, ex_gtupL, ex_asg, ex_par, ex_iseq, ex_onSeqT, ex_onSeqL, ex_onSeqS, ex_ienum, ex_irev, ex_onLTt, ex_onLTl, ex_rng1, ex_ifE, ex_and, ex_or, ex_not, ex_andV, ex_orV, ex_notV, ex_ixL, ex_call, ex_callN, ex_rev, ex_revL, ex_cat, ex_rep, ex_sl, ex_slA, ex_slL, ex_nopt, ex_pt, ex_eq, ex_ne, ex_yes, ex_lc, ex_lenT, ex_lenL, ex_lenS, ex_int2, ex_augIx, ex_isT, ex_chain, ex_asg2, ex_neg, List.set, startD, List.replicate, List.map_nil, List.map_cons, List.length_cons, List.length_nil, List.cons_append, List.nil_append, Nat.sub_self, Nat.reduceSub, Nat.reduceAdd, wipeE, decide_true, decide_false, if_true, if_false, true_and, and_true, Bool.not_true, Bool.not_false, Bool.false_eq_true, ex_frz, ex_draw, ex_fld, ex_meth, ex_make, ex_isC, ex_joinS, ex_orS, ex_joined, ex_js, ex_js0, ex_fmt, ex_part, ex_split, ex_inS, ex_toStr, ex_toIntS, ex_ownT, ex_own, ex_listL, ex_listT, ex_reprT, ex_reprL, ex_reprI, ex_slS, ex_toIntB, ex_toIntI, ex_put, ex_drop, ex_never, isT1, isT2, isT3, isT4, tyI, tyT, tyS, pyI, pyB, pyT0, pyIs, Nat.zero_le, deqv_int, deqv_bl]
  refine ⟨by rw [List.length_map]; omega, ?_⟩
  rw [List.length_map]
  refine comp_none (α := Nat) (fun i => D.int (0 + (i : Nat))) (List.range (zs.length : Int).toNat) [] (fun i hi R Q hQ => ?_) ?_
  · have hi : i < zs.length := by rw [List.mem_range] at hi; omega
    have g1 : ∀ e : Nat, L2.atI (zs.map (LOp e)) (0 + (i : Int)) = some (LOp e zs[i]) := fun e => by
      rw [Int.zero_add, atI_lt (by rw [List.length_map]; exact hi), List.getElem_map]
    have hv := hz _ (List.getElem_mem hi)
    simp only [ex_seq, ex_next, ex_if, ex_ret, ex_set, ex_setO, ex_app, ex_aug, ex_var, ex_vw, ex_c, ex_d2, ex_b, ex_onD, ex_onVd, ex_onVo, ex_onO, ex_onB, ex_onS, ex_int, ex_addI, ex_addS, ex_addT, ex_nil, ex_cons, ex_tup, ex_lst, ex_cb, ex_tupleL, ex_tupleT, get_0, get_s, ex_for, ex_nm, ex_gnil, ex_gcons, ex_gtup, ex_gtupL, ex_asg, ex_par, ex_iseq, ex_onSeqT, ex_onSeqL, ex_onSeqS, ex_ienum, ex_irev, ex_onLTt, ex_onLTl, ex_rng1, ex_ifE, ex_and, ex_or, ex_not, ex_andV, ex_orV, ex_notV, ex_ixL, ex_call, ex_callN, ex_rev, ex_revL, ex_cat, ex_rep, ex_sl, ex_slA, ex_slL, ex_nopt, ex_pt, ex_eq, ex_ne, ex_yes, ex_lc, ex_lenT, ex_lenL, ex_lenS, ex_int2, ex_augIx, ex_isT, ex_chain, ex_asg2, ex_neg, List.set, startD, List.replicate, List.map_nil, List.map_cons, List.length_cons, List.length_nil, List.cons_append, List.nil_append, Nat.sub_self, Nat.reduceSub, Nat.reduceAdd, wipeE, decide_true, decide_false, if_true, if_false, true_and, and_true, Bool.not_true, Bool.not_false, Bool.false_eq_true, ex_frz, ex_draw, ex_fld, ex_meth, ex_make, ex_isC, ex_joinS, ex_orS, ex_joined, ex_js, ex_js0, ex_fmt, ex_part, ex_split, ex_inS, ex_toStr, ex_toIntS, ex_ownT, ex_own, ex_listL, ex_listT, ex_reprT, ex_reprL, ex_reprI, ex_slS, ex_toIntB, ex_toIntI, ex_put, ex_drop, ex_never, isT1, isT2, isT3, isT4, tyI, tyT, tyS, pyI, pyB, pyT0, pyIs, Nat.zero_le, deqv_int, deqv_bl]
    refine ⟨_, g1 b, (b, c, zs[i]), rfl, ⟨hb, hc, hv.2⟩, fun d e => ?_⟩
    obtain rfl : d = LO c zs[i].1 (zs[i].2 && !decide (zs[i].1 = 0)) := e
    rw [back_val hv]
    refine ⟨_, g1 c, _, _, rfl, rfl, (c, zs[i], zs[i]), rfl, hc.1, fun d e => ?_⟩
    obtain rfl : d = .bl (decide (zs[i] = zs[i])) := e
    rw [decide_eq_true rfl]
    simp only [ex_seq, ex_next, ex_if, ex_ret, ex_set, ex_setO, ex_app, ex_aug, ex_var, ex_vw, ex_c, ex_d2, ex_b, ex_onD, ex_onVd, ex_onVo, ex_onO, ex_onB, ex_onS, ex_int, ex_addI, ex_addS, ex_addT, ex_nil, ex_cons, ex_tup, ex_lst, ex_cb, ex_tupleL, ex_tupleT, get_0, get_s, ex_for, ex_nm, ex_gnil, ex_gcons, ex_gtup, ex_gtupL, ex_asg, ex_par, ex_iseq, ex_onSeqT, ex_onSeqL, ex_onSeqS, ex_ienum, ex_irev, ex_onLTt, ex_onLTl, ex_rng1, ex_ifE, ex_and, ex_or, ex_not, ex_andV, ex_orV, ex_notV, ex_ixL, ex_call, ex_callN, ex_rev, ex_revL, ex_cat, ex_rep, ex_sl, ex_slA, ex_slL, ex_nopt, ex_pt, ex_eq, ex_ne, ex_yes, ex_lc, ex_lenT, ex_lenL, ex_lenS, ex_int2, ex_augIx, ex_isT, ex_chain, ex_asg2, ex_neg, List.set, startD, List.replicate, List.map_nil, List.map_cons, List.length_cons, List.length_nil, List.cons_append, List.nil_append, Nat.sub_self, Nat.reduceSub, Nat.reduceAdd, wipeE, decide_true, decide_false, if_true, if_false, true_and, and_true, Bool.not_true, Bool.not_false, Bool.false_eq_true, ex_frz, ex_draw, ex_fld, ex_meth, ex_make, ex_isC, ex_joinS, ex_orS, ex_joined, ex_js, ex_js0, ex_fmt, ex_part, ex_split, ex_inS, ex_toStr, ex_toIntS, ex_ownT, ex_own, ex_listL, ex_listT, ex_reprT, ex_reprL, ex_reprI, ex_slS, ex_toIntB, ex_toIntI, ex_put, ex_drop, ex_never, isT1, isT2, isT3, isT4, tyI, tyT, tyS, pyI, pyB, pyT0, pyIs, Nat.zero_le, deqv_int, deqv_bl]
    exact hQ
  · exact ⟨by decide, by decide, hP⟩
theorem ok__law_longs_right : Keeps S__law_longs_right T__law_longs_right 7 := by
  rintro ⟨b, c, x, y⟩ ⟨hb, hc, hx, hy, vx, vy⟩
  have hb : Bs b := hb
  have hc : Bs c := hc
  have hx : Sm1 x.1 := hx
  have hy : Sm1 y.1 := hy
  have vx : x.2 = true → x.1 ≠ 0 := vx
  have vy : y.2 = true → y.1 ≠ 0 := vy
  have bd : ∀ b, Bs b → Bd2 (b, x, y) := fun b hb => ⟨hb, s402 (sm402 hx), s402 (sm402 hy)⟩
  show T__law_longs_right ⟨_, S__law_longs_right.post (b, c, x, y), _, _⟩ (startD 7 [LOp b x, LOp b y, .int c])
  simp only [T__law_longs_right, ex_seq, ex_next, ex_if, ex_ret, ex_set, ex_setO, ex_app, ex_aug, ex_var, ex_vw, ex_c, ex_d2, ex_b, ex_onD, ex_onVd, ex_onVo, ex_onO, ex_onB, ex_onS, ex_int, ex_addI, ex_addS, ex_addT, ex_nil, ex_cons, ex_tup, ex_lst, ex_cb, ex_tupleL, ex_tupleT, get_0, get_s, ex_for, ex_nm, ex_gnil, ex_gcons, ex_gtup, ex_gtupL, ex_asg, ex_par, ex_iseq, ex_onSeqT, ex_onSeqL, ex_onSeqS, ex_ienum, ex_irev, ex_onLTt, ex_onLTl, ex_rng1, ex_ifE, ex_and, ex_or, ex_not, ex_andV, ex_orV, ex_notV, ex_ixL, ex_call, ex_callN, ex_rev, ex_revL, ex_cat, ex_rep, ex_sl, ex_slA, ex_slL, ex_nopt, ex_pt, ex_eq, ex_ne, ex_yes, ex_lc, ex_lenT, ex_lenL, ex_lenS, ex_int2, ex_augIx, ex_isT, ex_chain, ex_asg2, ex_neg, List.set, startD, List.replicate, List.map_nil, List.map_cons, List.length_cons, List.length_nil, List.cons_append, List.nil_append, Nat.sub_self, Nat.reduceSub, Nat.reduceAdd, wipeE, decide_true, decide_false, if_true, if_false, true_and, and_true, Bool.not_true, Bool.not_false, Bool.false_eq_true, ex_frz, ex_draw, ex_fld, ex_meth, ex_make, ex_isC, ex_joinS, ex_orS, ex_joined, ex_js, ex_js0, ex_fmt, ex_part, ex_split, ex_inS, ex_toStr, ex_toIntS, ex_ownT, ex_own, ex_listL, ex_listT, ex_reprT, ex_reprL, ex_reprI, ex_slS, ex_toIntB, ex_toIntI, ex_put, ex_drop, ex_never, isT1, isT2, isT3, isT4, tyI, tyT, tyS, pyI, pyB, pyT0, pyIs, Nat.zero_le, deqv_int, deqv_bl]
  have c0 : ∀ z : Nat × Bool, Val z → ∀ Q : D → Prop, Q (LOp c z) → S__law_long_there.g [LOp b z, .int c] Q := fun z hz Q q => ⟨(b, c, z), rfl, ⟨hb, hc, hz.2⟩, fun d e => by
    obtain rfl : d = LO c z.1 (z.2 && !decide (z.1 = 0)) := e
    rw [back_val hz]
    exact q⟩
  have cp : ∀ b, Bs b → ∀ Q : D → Prop, Q (LOp b (addS x y)) → S_Long_plus.g [LOp b x, LOp b y] Q := fun b hb Q q => ⟨(b, x, y), rfl, bd b hb, fun d e => by
    obtain rfl : d = LOp b (addS x y) := e
    exact q⟩
  have cm : ∀ b, Bs b → ∀ Q : D → Prop, Q (LOp b (addS x (negS y))) → S_Long_minus.g [LOp b x, LOp b y] Q := fun b hb Q q => ⟨(b, x, y), rfl, bd b hb, fun d e => by
    obtain rfl : d = LOp b (addS x (negS y)) := e
    exact q⟩
  have ct : ∀ b, Bs b → ∀ Q : D → Prop, Q (LOp b (mulS x y)) → S_Long_times.g [LOp b x, LOp b y] Q := fun b hb Q q => ⟨(b, x, y), rfl, bd b hb, fun d e => by
    obtain rfl : d = LOp b (mulS x y) := e
    exact q⟩
  have cv : y.1 ≠ 0 → ∀ b, Bs b → ∀ Q : D → Prop, Q (.tup [LOp b (divS x y), LOp b (modS x y, false)]) → S_Long_over.g [LOp b x, LOp b y] Q := fun h b hb Q q => ⟨(b, x, y), rfl, ⟨bd b hb, Nat.pos_of_ne_zero h⟩, fun d e => by
    obtain rfl : d = .tup [LOp b (divS x y), LOp b (modS x y, false)] := e
    exact q⟩
  refine c0 x ⟨vx, sm402 hx⟩ _ (c0 y ⟨vy, sm402 hy⟩ _ ⟨by decide, ?_⟩)
  refine ⟨_, rfl, lp_lk b x (by decide), cp b hb _ ⟨_, rfl, lp_lk b x (by decide), cm b hb _ ⟨_, rfl, lp_lk b x (by decide), ct b hb _ ⟨by decide, ?_⟩⟩⟩⟩
  refine ⟨_, rfl, _, rfl, lp_lk c x (by decide), _, rfl, cp c hc _ ⟨_, rfl, _, rfl, lp_lk c x (by decide), _, rfl, cm c hc _ ⟨_, rfl, _, rfl, lp_lk c x (by decide), _, rfl, ct c hc _ ⟨by decide, ?_⟩⟩⟩⟩
  refine ⟨_, _, rfl, lk1, pyOk_rwD b y.1, ?_⟩
  rw [deqv_rw0 hb.1]
  by_cases h0 : y.1 = 0
  · rw [decide_eq_true h0, if_neg (by decide)]
    have := longs_end (d0 := LOp b x) (d1 := LOp b y) (d3 := .lst [LOp c x, LOp c y]) (P := S__law_longs_right.post (b, c, x, y)) hb hc (zs := here3 x y) (fun z hz => here_val hx hy z (List.mem_append_left _ hz)) (by simp [here3]) rfl
    simp only [here3, ex_seq, ex_next, ex_if, ex_ret, ex_set, ex_setO, ex_app, ex_aug, ex_var, ex_vw, ex_c, ex_d2, ex_b, ex_onD, ex_onVd, ex_onVo, ex_onO, ex_onB, ex_onS, ex_int, ex_addI, ex_addS, ex_addT, ex_nil, ex_cons, ex_tup, ex_lst, ex_cb, ex_tupleL, ex_tupleT, get_0, get_s, ex_for, ex_nm, ex_gnil, ex_gcons, ex_gtup, ex_gtupL, ex_asg, ex_par, ex_iseq, ex_onSeqT, ex_onSeqL, ex_onSeqS, ex_ienum, ex_irev, ex_onLTt, ex_onLTl, ex_rng1, ex_ifE, ex_and, ex_or, ex_not, ex_andV, ex_orV, ex_notV, ex_ixL, ex_call, ex_callN, ex_rev, ex_revL, ex_cat, ex_rep, ex_sl, ex_slA, ex_slL, ex_nopt, ex_pt, ex_eq, ex_ne, ex_yes, ex_lc, ex_lenT, ex_lenL, ex_lenS, ex_int2, ex_augIx, ex_isT, ex_chain, ex_asg2, ex_neg, List.set, startD, List.replicate, List.map_nil, List.map_cons, List.length_cons, List.length_nil, List.cons_append, List.nil_append, Nat.sub_self, Nat.reduceSub, Nat.reduceAdd, wipeE, decide_true, decide_false, if_true, if_false, true_and, and_true, Bool.not_true, Bool.not_false, Bool.false_eq_true, ex_frz, ex_draw, ex_fld, ex_meth, ex_make, ex_isC, ex_joinS, ex_orS, ex_joined, ex_js, ex_js0, ex_fmt, ex_part, ex_split, ex_inS, ex_toStr, ex_toIntS, ex_ownT, ex_own, ex_listL, ex_listT, ex_reprT, ex_reprL, ex_reprI, ex_slS, ex_toIntB, ex_toIntI, ex_put, ex_drop, ex_never, isT1, isT2, isT3, isT4, tyI, tyT, tyS, pyI, pyB, pyT0, pyIs, Nat.zero_le, deqv_int, deqv_bl] at this
    exact this
  · rw [decide_eq_false h0, if_pos (by decide)]
    refine ⟨_, rfl, lp_lk b x (by decide), cv h0 b hb _ ⟨(show 5 ≤ SZ by decide), _, rfl, _, rfl, lp_lk c x (by decide), _, rfl, cv h0 c hc _ ⟨(show 5 ≤ SZ by decide), ?_⟩⟩⟩
    have := longs_end (d0 := LOp b x) (d1 := LOp b y) (d3 := .lst [LOp c x, LOp c y]) (P := S__law_longs_right.post (b, c, x, y)) hb hc (zs := here5 x y) (here_val hx hy) (by simp [here5, here3]) rfl
    simp only [here5, here3, ex_seq, ex_next, ex_if, ex_ret, ex_set, ex_setO, ex_app, ex_aug, ex_var, ex_vw, ex_c, ex_d2, ex_b, ex_onD, ex_onVd, ex_onVo, ex_onO, ex_onB, ex_onS, ex_int, ex_addI, ex_addS, ex_addT, ex_nil, ex_cons, ex_tup, ex_lst, ex_cb, ex_tupleL, ex_tupleT, get_0, get_s, ex_for, ex_nm, ex_gnil, ex_gcons, ex_gtup, ex_gtupL, ex_asg, ex_par, ex_iseq, ex_onSeqT, ex_onSeqL, ex_onSeqS, ex_ienum, ex_irev, ex_onLTt, ex_onLTl, ex_rng1, ex_ifE, ex_and, ex_or, ex_not, ex_andV, ex_orV, ex_notV, ex_ixL, ex_call, ex_callN, ex_rev, ex_revL, ex_cat, ex_rep, ex_sl, ex_slA, ex_slL, ex_nopt, ex_pt, ex_eq, ex_ne, ex_yes, ex_lc, ex_lenT, ex_lenL, ex_lenS, ex_int2, ex_augIx, ex_isT, ex_chain, ex_asg2, ex_neg, List.set, startD, List.replicate, List.map_nil, List.map_cons, List.length_cons, List.length_nil, List.cons_append, List.nil_append, Nat.sub_self, Nat.reduceSub, Nat.reduceAdd, wipeE, decide_true, decide_false, if_true, if_false, true_and, and_true, Bool.not_true, Bool.not_false, Bool.false_eq_true, ex_frz, ex_draw, ex_fld, ex_meth, ex_make, ex_isC, ex_joinS, ex_orS, ex_joined, ex_js, ex_js0, ex_fmt, ex_part, ex_split, ex_inS, ex_toStr, ex_toIntS, ex_ownT, ex_own, ex_listL, ex_listT, ex_reprT, ex_reprL, ex_reprI, ex_slS, ex_toIntB, ex_toIntI, ex_put, ex_drop, ex_never, isT1, isT2, isT3, isT4, tyI, tyT, tyS, pyI, pyB, pyT0, pyIs, Nat.zero_le, deqv_int, deqv_bl] at this
    exact this
end MD
end
section
/-! The deck, the law's reading. -/
namespace MD
open PySem L2
abbrev S__law_deck := S_law_deck
def T__law_deck : DTS := (dSeq (dSet 1 (dCB gList (dCons (dSlS (dVar 0) dNoPt (dPt (dC (.int 63)))) dNil))) (dRet (dLst (dCons (dRevL (dVar 1)) (dCons (d2 gAdd (dCB gSum (dCons (dLc (iSeq (dVar 1)) (gNm 2) dYes (d2 gMod (dVar 2) (dC (.int 1000003))) [2]) dNil)) (d2 gMul (dC (.int 7919)) (dCB gLen (dCons (dVar 1) dNil)))) (dCons (dC (.int 0)) dNil))))))
def T_law : DTS := (dSeq (dFor (iRange1 (dCons (dC (.int 2)) dNil)) (gNm 2) (dSeq (dSet 3 (d2 gEq (dDraw (dCons (dVar 1) (dCons (dC (.int 8)) dNil))) (dC (.int 5)))) (dSeq (dSet 4 (dLst (dCons (d2 gEq (dDraw (dCons (dVar 1) (dCons (dC (.int 2)) dNil))) (dC (.int 1))) (dCons (d2 gEq (dDraw (dCons (dVar 1) (dCons (dC (.int 2)) dNil))) (dC (.int 1))) dNil)))) (dSeq (dPar 5 6 (dCall S__law_any_base [] (dCons (dVar 1) dNil)) (dCall S__law_any_base [] (dCons (dVar 1) dNil))) (dSeq (dPar 7 8 (dCall S__law_row [] (dCons (dVar 1) (dCons (dVar 5) (dCons (dIx (dLst (dCons (dC (.int 8)) (dCons (dC (.int 14)) dNil))) (dCB gToInt (dCons (dVar 3) dNil))) dNil)))) (dCall S__law_row [] (dCons (dVar 1) (dCons (dVar 5) (dCons (dC (.int 8)) dNil))))) (dSeq (dIfS (dOr (dNot (dB (dCall S__law_put_right [] (dCons (dVar 7) (dCons (dVar 5) (dCons (dVar 6) (dCons (dIx (dVar 4) (dC (.int 0))) dNil))))))) (dNot (dB (dCall S__law_put_right [] (dCons (dVar 8) (dCons (dVar 5) (dCons (dVar 6) (dCons (dIx (dVar 4) (dC (.int 1))) dNil)))))))) (dRet (dC (.bl false))) dNext) (dSeq (dIfS (dOr (dNot (dB (dCall S__law_same_there [] (dCons (dVar 7) (dCons (dVar 8) (dCons (dVar 5) (dCons (dVar 6) dNil))))))) (dNot (dB (dCall S__law_same_there [] (dCons (dVar 8) (dCons (dVar 7) (dCons (dVar 5) (dCons (dVar 6) dNil)))))))) (dRet (dC (.bl false))) dNext) (dIfS (dNot (dB (dCall S__law_longs_right [] (dCons (dMake "Long" S_Long_init gk_Long_1_base_below 1 2 (dCons (dVar 7) dNil) (dCons (dVar 5) (dCons (dIx (dVar 4) (dC (.int 0))) dNil))) (dCons (dMake "Long" S_Long_init gk_Long_1_base_below 1 2 (dCons (dVar 8) dNil) (dCons (dVar 5) (dCons (dIx (dVar 4) (dC (.int 1))) dNil))) (dCons (dVar 6) dNil)))))) (dRet (dC (.bl false))) dNext)))))))) (dRet (dC (.bl true))))
end MD
end
section
/-! The deck is made; the law holds. -/
namespace MD
open PySem L2
theorem ok__law_deck : ∀ a, S_law_deck.pre a → T__law_deck ⟨fun _ => S_law_deck.post a .non, S_law_deck.post a, fun _ => False, fun _ => False⟩ (startD 3 (S_law_deck.arg a)) := by
  intro (ns : List Int) hns
  have hns : ns.length ≤ 63 := hns
  show T__law_deck ⟨_, S_law_deck.post ns, _, _⟩ (startD 3 [.scr ns])
  simp only [T__law_deck, ex_seq, ex_next, ex_if, ex_ret, ex_set, ex_setO, ex_app, ex_aug, ex_var, ex_vw, ex_c, ex_d2, ex_b, ex_onD, ex_onVd, ex_onVo, ex_onO, ex_onB, ex_onS, ex_int, ex_addI, ex_addS, ex_addT, ex_nil, ex_cons, ex_tup, ex_lst, ex_cb, ex_tupleL, ex_tupleT, get_0, get_s, ex_for, ex_nm, ex_gnil, ex_gcons, ex_gtup, ex_gtupL, ex_asg, ex_par, ex_iseq, ex_onSeqT, ex_onSeqL, ex_onSeqS, ex_ienum, ex_irev, ex_onLTt, ex_onLTl, ex_rng1, ex_ifE, ex_and, ex_or, ex_not, ex_andV, ex_orV, ex_notV, ex_ixL, ex_call, ex_callN, ex_rev, ex_revL, ex_cat, ex_rep, ex_sl, ex_slA, ex_slL, ex_nopt, ex_pt, ex_eq, ex_ne, ex_yes, ex_lc, ex_lenT, ex_lenL, ex_lenS, ex_int2, ex_augIx, ex_isT, ex_chain, ex_asg2, ex_neg, List.set, startD, List.replicate, List.map_nil, List.map_cons, List.length_cons, List.length_nil, List.cons_append, List.nil_append, Nat.sub_self, Nat.reduceSub, Nat.reduceAdd, wipeE, decide_true, decide_false, if_true, if_false, true_and, and_true, Bool.not_true, Bool.not_false, Bool.false_eq_true, ex_frz, ex_draw, ex_fld, ex_meth, ex_make, ex_isC, ex_joinS, ex_orS, ex_joined, ex_js, ex_js0, ex_fmt, ex_part, ex_split, ex_inS, ex_toStr, ex_toIntS, ex_ownT, ex_own, ex_listL, ex_listT, ex_reprT, ex_reprL, ex_reprI, ex_slS, ex_toIntB, ex_toIntI, ex_put, ex_drop, ex_never, isT1, isT2, isT3, isT4, tyI, tyT, tyS, pyI, pyB, pyT0, pyIs, Nat.zero_le, deqv_int, deqv_bl]
  have hl : (cutD ns none (some 63)).length ≤ 63 := by
    unfold cutD
    rw [List.length_take, List.length_drop]
    omega
  generalize cutD ns none (some 63) = ms at hl
  refine comp_map (α := Int) (fun n => .int n) (fun n => .int (n % 1000003)) ms [] (by rw [List.length_nil]; unfold SZ; omega) (fun n hn R hR => ?_) ?_
  · simp only [ex_seq, ex_next, ex_if, ex_ret, ex_set, ex_setO, ex_app, ex_aug, ex_var, ex_vw, ex_c, ex_d2, ex_b, ex_onD, ex_onVd, ex_onVo, ex_onO, ex_onB, ex_onS, ex_int, ex_addI, ex_addS, ex_addT, ex_nil, ex_cons, ex_tup, ex_lst, ex_cb, ex_tupleL, ex_tupleT, get_0, get_s, ex_for, ex_nm, ex_gnil, ex_gcons, ex_gtup, ex_gtupL, ex_asg, ex_par, ex_iseq, ex_onSeqT, ex_onSeqL, ex_onSeqS, ex_ienum, ex_irev, ex_onLTt, ex_onLTl, ex_rng1, ex_ifE, ex_and, ex_or, ex_not, ex_andV, ex_orV, ex_notV, ex_ixL, ex_call, ex_callN, ex_rev, ex_revL, ex_cat, ex_rep, ex_sl, ex_slA, ex_slL, ex_nopt, ex_pt, ex_eq, ex_ne, ex_yes, ex_lc, ex_lenT, ex_lenL, ex_lenS, ex_int2, ex_augIx, ex_isT, ex_chain, ex_asg2, ex_neg, List.set, startD, List.replicate, List.map_nil, List.map_cons, List.length_cons, List.length_nil, List.cons_append, List.nil_append, Nat.sub_self, Nat.reduceSub, Nat.reduceAdd, wipeE, decide_true, decide_false, if_true, if_false, true_and, and_true, Bool.not_true, Bool.not_false, Bool.false_eq_true, ex_frz, ex_draw, ex_fld, ex_meth, ex_make, ex_isC, ex_joinS, ex_orS, ex_joined, ex_js, ex_js0, ex_fmt, ex_part, ex_split, ex_inS, ex_toStr, ex_toIntS, ex_ownT, ex_own, ex_listL, ex_listT, ex_reprT, ex_reprL, ex_reprI, ex_slS, ex_toIntB, ex_toIntI, ex_put, ex_drop, ex_never, isT1, isT2, isT3, isT4, tyI, tyT, tyS, pyI, pyB, pyT0, pyIs, Nat.zero_le, deqv_int, deqv_bl]
    exact ⟨by omega, hR⟩
  · refine ⟨ms.map fun n => n % 1000003, Or.inl (by rw [List.nil_append, List.map_map]; rfl), ?_⟩
    simp only [ex_seq, ex_next, ex_if, ex_ret, ex_set, ex_setO, ex_app, ex_aug, ex_var, ex_vw, ex_c, ex_d2, ex_b, ex_onD, ex_onVd, ex_onVo, ex_onO, ex_onB, ex_onS, ex_int, ex_addI, ex_addS, ex_addT, ex_nil, ex_cons, ex_tup, ex_lst, ex_cb, ex_tupleL, ex_tupleT, get_0, get_s, ex_for, ex_nm, ex_gnil, ex_gcons, ex_gtup, ex_gtupL, ex_asg, ex_par, ex_iseq, ex_onSeqT, ex_onSeqL, ex_onSeqS, ex_ienum, ex_irev, ex_onLTt, ex_onLTl, ex_rng1, ex_ifE, ex_and, ex_or, ex_not, ex_andV, ex_orV, ex_notV, ex_ixL, ex_call, ex_callN, ex_rev, ex_revL, ex_cat, ex_rep, ex_sl, ex_slA, ex_slL, ex_nopt, ex_pt, ex_eq, ex_ne, ex_yes, ex_lc, ex_lenT, ex_lenL, ex_lenS, ex_int2, ex_augIx, ex_isT, ex_chain, ex_asg2, ex_neg, List.set, startD, List.replicate, List.map_nil, List.map_cons, List.length_cons, List.length_nil, List.cons_append, List.nil_append, Nat.sub_self, Nat.reduceSub, Nat.reduceAdd, wipeE, decide_true, decide_false, if_true, if_false, true_and, and_true, Bool.not_true, Bool.not_false, Bool.false_eq_true, ex_frz, ex_draw, ex_fld, ex_meth, ex_make, ex_isC, ex_joinS, ex_orS, ex_joined, ex_js, ex_js0, ex_fmt, ex_part, ex_split, ex_inS, ex_toStr, ex_toIntS, ex_ownT, ex_own, ex_listL, ex_listT, ex_reprT, ex_reprL, ex_reprI, ex_slS, ex_toIntB, ex_toIntI, ex_put, ex_drop, ex_never, isT1, isT2, isT3, isT4, tyI, tyT, tyS, pyI, pyB, pyT0, pyIs, Nat.zero_le, deqv_int, deqv_bl]
    refine ⟨Or.inl (Or.inl (by decide)), by decide, ?_⟩
    rw [← List.map_reverse]
    exact ⟨ms.reverse, _, _, by rw [List.length_reverse]; omega, rfl⟩
theorem sm_row {b m n : Nat} (hb : Bs b) (hm : m ≤ 14) (h : n < b ^ m) : Sm1 n := by
  refine Nat.lt_of_lt_of_le h (Nat.le_trans (Nat.pow_le_pow_left (show b ≤ 2 ^ 14 by have := hb.2; omega) _) ?_)
  rw [← Nat.pow_mul]
  exact Nat.pow_le_pow_right (by decide) (by omega)
theorem ok_law : T_law { nx := fun _ => False, rt := fun d => d = .bl true } (startL 9) := by
  show T_law _ [.un, .dat (.res 0), .un, .un, .un, .un, .un, .un, .un]
  simp only [T_law, ex_seq, ex_next, ex_if, ex_ret, ex_set, ex_setO, ex_app, ex_aug, ex_var, ex_vw, ex_c, ex_d2, ex_b, ex_onD, ex_onVd, ex_onVo, ex_onO, ex_onB, ex_onS, ex_int, ex_addI, ex_addS, ex_addT, ex_nil, ex_cons, ex_tup, ex_lst, ex_cb, ex_tupleL, ex_tupleT, get_0, get_s, ex_for, ex_nm, ex_gnil, ex_gcons, ex_gtup, ex_gtupL, ex_asg, ex_par, ex_iseq, ex_onSeqT, ex_onSeqL, ex_onSeqS, ex_ienum, ex_irev, ex_onLTt, ex_onLTl, ex_rng1, ex_ifE, ex_and, ex_or, ex_not, ex_andV, ex_orV, ex_notV, ex_ixL, ex_call, ex_callN, ex_rev, ex_revL, ex_cat, ex_rep, ex_sl, ex_slA, ex_slL, ex_nopt, ex_pt, ex_eq, ex_ne, ex_yes, ex_lc, ex_lenT, ex_lenL, ex_lenS, ex_int2, ex_augIx, ex_isT, ex_chain, ex_asg2, ex_neg, List.set, startD, List.replicate, List.map_nil, List.map_cons, List.length_cons, List.length_nil, List.cons_append, List.nil_append, Nat.sub_self, Nat.reduceSub, Nat.reduceAdd, wipeE, decide_true, decide_false, if_true, if_false, true_and, and_true, Bool.not_true, Bool.not_false, Bool.false_eq_true, ex_frz, ex_draw, ex_fld, ex_meth, ex_make, ex_isC, ex_joinS, ex_orS, ex_joined, ex_js, ex_js0, ex_fmt, ex_part, ex_split, ex_inS, ex_toStr, ex_toIntS, ex_ownT, ex_own, ex_listL, ex_listT, ex_reprT, ex_reprL, ex_reprI, ex_slS, ex_toIntB, ex_toIntI, ex_put, ex_drop, ex_never, isT1, isT2, isT3, isT4, tyI, tyT, tyS, pyI, pyB, pyT0, pyIs, Nat.zero_le, deqv_int, deqv_bl]
  refine ⟨by decide, ?_⟩
  refine for_ix (fun i env => ∃ s2 s3 s4 s5 s6 s7 s8, env = [.un, .dat (.res 0), s2, s3, s4, s5, s6, s7, s8]) ⟨_, _, _, _, _, _, _, rfl⟩ ?_ ?_
  · rintro i hi env K ⟨s2, s3, s4, s5, s6, s7, s8, rfl⟩ hK
    simp only [ex_seq, ex_next, ex_if, ex_ret, ex_set, ex_setO, ex_app, ex_aug, ex_var, ex_vw, ex_c, ex_d2, ex_b, ex_onD, ex_onVd, ex_onVo, ex_onO, ex_onB, ex_onS, ex_int, ex_addI, ex_addS, ex_addT, ex_nil, ex_cons, ex_tup, ex_lst, ex_cb, ex_tupleL, ex_tupleT, get_0, get_s, ex_for, ex_nm, ex_gnil, ex_gcons, ex_gtup, ex_gtupL, ex_asg, ex_par, ex_iseq, ex_onSeqT, ex_onSeqL, ex_onSeqS, ex_ienum, ex_irev, ex_onLTt, ex_onLTl, ex_rng1, ex_ifE, ex_and, ex_or, ex_not, ex_andV, ex_orV, ex_notV, ex_ixL, ex_call, ex_callN, ex_rev, ex_revL, ex_cat, ex_rep, ex_sl, ex_slA, ex_slL, ex_nopt, ex_pt, ex_eq, ex_ne, ex_yes, ex_lc, ex_lenT, ex_lenL, ex_lenS, ex_int2, ex_augIx, ex_isT, ex_chain, ex_asg2, ex_neg, List.set, startD, List.replicate, List.map_nil, List.map_cons, List.length_cons, List.length_nil, List.cons_append, List.nil_append, Nat.sub_self, Nat.reduceSub, Nat.reduceAdd, wipeE, decide_true, decide_false, if_true, if_false, true_and, and_true, Bool.not_true, Bool.not_false, Bool.false_eq_true, ex_frz, ex_draw, ex_fld, ex_meth, ex_make, ex_isC, ex_joinS, ex_orS, ex_joined, ex_js, ex_js0, ex_fmt, ex_part, ex_split, ex_inS, ex_toStr, ex_toIntS, ex_ownT, ex_own, ex_listL, ex_listT, ex_reprT, ex_reprL, ex_reprI, ex_slS, ex_toIntB, ex_toIntI, ex_put, ex_drop, ex_never, isT1, isT2, isT3, isT4, tyI, tyT, tyS, pyI, pyB, pyT0, pyIs, Nat.zero_le, deqv_int, deqv_bl]
    refine ⟨by decide, fun r0 _ _ => ⟨by decide, fun r1 _ _ => ⟨by decide, fun r2 _ _ => ⟨by decide, ?_⟩⟩⟩⟩
    refine ⟨(), rfl, trivial, fun d e => ?_⟩
    obtain ⟨b, rfl, hb⟩ : ∃ b : Nat, d = .int b ∧ Bs b := e
    refine ⟨(), rfl, trivial, fun d e => ?_⟩
    obtain ⟨c, rfl, hc⟩ : ∃ b : Nat, d = .int b ∧ Bs b := e
    obtain ⟨m, em, hm⟩ : ∃ m : Nat, L2.atI [D.int 8, D.int 14] (if decide (r0 = 5) = true then 1 else 0) = some (.int m) ∧ m ≤ 14 := by
      by_cases h : r0 = 5
      · rw [decide_eq_true h]; exact ⟨14, rfl, by decide⟩
      · rw [decide_eq_false h]; exact ⟨8, rfl, by decide⟩
    refine ⟨by decide, _, em, (b, m), rfl, ⟨hb, by show m ≤ 100; omega⟩, fun d e => ?_⟩
    obtain ⟨x, rfl, hx⟩ : ∃ n : Nat, d = rwD b n ∧ n < b ^ m := e
    refine ⟨(b, 8), rfl, ⟨hb, (show 8 ≤ 100 by decide)⟩, fun d e => ?_⟩
    obtain ⟨y, rfl, hy⟩ : ∃ n : Nat, d = rwD b n ∧ n < b ^ 8 := e
    have hx := sm_row hb hm hx
    have hy := sm_row hb (by decide) hy
    generalize decide (r1 = 1) = s
    generalize decide (r2 = 1) = t
    refine ⟨_, rfl, (b, c, x, s), rfl, ⟨hb, hc, hx⟩, fun d e => ?_⟩
    obtain rfl : d = .bl true := e
    simp only [ex_seq, ex_next, ex_if, ex_ret, ex_set, ex_setO, ex_app, ex_aug, ex_var, ex_vw, ex_c, ex_d2, ex_b, ex_onD, ex_onVd, ex_onVo, ex_onO, ex_onB, ex_onS, ex_int, ex_addI, ex_addS, ex_addT, ex_nil, ex_cons, ex_tup, ex_lst, ex_cb, ex_tupleL, ex_tupleT, get_0, get_s, ex_for, ex_nm, ex_gnil, ex_gcons, ex_gtup, ex_gtupL, ex_asg, ex_par, ex_iseq, ex_onSeqT, ex_onSeqL, ex_onSeqS, ex_ienum, ex_irev, ex_onLTt, ex_onLTl, ex_rng1, ex_ifE, ex_and, ex_or, ex_not, ex_andV, ex_orV, ex_notV, ex_ixL, ex_call, ex_callN, ex_rev, ex_revL, ex_cat, ex_rep, ex_sl, ex_slA, ex_slL, ex_nopt, ex_pt, ex_eq, ex_ne, ex_yes, ex_lc, ex_lenT, ex_lenL, ex_lenS, ex_int2, ex_augIx, ex_isT, ex_chain, ex_asg2, ex_neg, List.set, startD, List.replicate, List.map_nil, List.map_cons, List.length_cons, List.length_nil, List.cons_append, List.nil_append, Nat.sub_self, Nat.reduceSub, Nat.reduceAdd, wipeE, decide_true, decide_false, if_true, if_false, true_and, and_true, Bool.not_true, Bool.not_false, Bool.false_eq_true, ex_frz, ex_draw, ex_fld, ex_meth, ex_make, ex_isC, ex_joinS, ex_orS, ex_joined, ex_js, ex_js0, ex_fmt, ex_part, ex_split, ex_inS, ex_toStr, ex_toIntS, ex_ownT, ex_own, ex_listL, ex_listT, ex_reprT, ex_reprL, ex_reprI, ex_slS, ex_toIntB, ex_toIntI, ex_put, ex_drop, ex_never, isT1, isT2, isT3, isT4, tyI, tyT, tyS, pyI, pyB, pyT0, pyIs, Nat.zero_le, deqv_int, deqv_bl]
    refine ⟨_, rfl, (b, c, y, t), rfl, ⟨hb, hc, hy⟩, fun d e => ?_⟩
    obtain rfl : d = .bl true := e
    simp only [ex_seq, ex_next, ex_if, ex_ret, ex_set, ex_setO, ex_app, ex_aug, ex_var, ex_vw, ex_c, ex_d2, ex_b, ex_onD, ex_onVd, ex_onVo, ex_onO, ex_onB, ex_onS, ex_int, ex_addI, ex_addS, ex_addT, ex_nil, ex_cons, ex_tup, ex_lst, ex_cb, ex_tupleL, ex_tupleT, get_0, get_s, ex_for, ex_nm, ex_gnil, ex_gcons, ex_gtup, ex_gtupL, ex_asg, ex_par, ex_iseq, ex_onSeqT, ex_onSeqL, ex_onSeqS, ex_ienum, ex_irev, ex_onLTt, ex_onLTl, ex_rng1, ex_ifE, ex_and, ex_or, ex_not, ex_andV, ex_orV, ex_notV, ex_ixL, ex_call, ex_callN, ex_rev, ex_revL, ex_cat, ex_rep, ex_sl, ex_slA, ex_slL, ex_nopt, ex_pt, ex_eq, ex_ne, ex_yes, ex_lc, ex_lenT, ex_lenL, ex_lenS, ex_int2, ex_augIx, ex_isT, ex_chain, ex_asg2, ex_neg, List.set, startD, List.replicate, List.map_nil, List.map_cons, List.length_cons, List.length_nil, List.cons_append, List.nil_append, Nat.sub_self, Nat.reduceSub, Nat.reduceAdd, wipeE, decide_true, decide_false, if_true, if_false, true_and, and_true, Bool.not_true, Bool.not_false, Bool.false_eq_true, ex_frz, ex_draw, ex_fld, ex_meth, ex_make, ex_isC, ex_joinS, ex_orS, ex_joined, ex_js, ex_js0, ex_fmt, ex_part, ex_split, ex_inS, ex_toStr, ex_toIntS, ex_ownT, ex_own, ex_listL, ex_listT, ex_reprT, ex_reprL, ex_reprI, ex_slS, ex_toIntB, ex_toIntI, ex_put, ex_drop, ex_never, isT1, isT2, isT3, isT4, tyI, tyT, tyS, pyI, pyB, pyT0, pyIs, Nat.zero_le, deqv_int, deqv_bl]
    refine ⟨(b, c, x, y), rfl, ⟨hb, hc, hx, hy⟩, fun d e => ?_⟩
    obtain rfl : d = .bl true := e
    simp only [ex_seq, ex_next, ex_if, ex_ret, ex_set, ex_setO, ex_app, ex_aug, ex_var, ex_vw, ex_c, ex_d2, ex_b, ex_onD, ex_onVd, ex_onVo, ex_onO, ex_onB, ex_onS, ex_int, ex_addI, ex_addS, ex_addT, ex_nil, ex_cons, ex_tup, ex_lst, ex_cb, ex_tupleL, ex_tupleT, get_0, get_s, ex_for, ex_nm, ex_gnil, ex_gcons, ex_gtup, ex_gtupL, ex_asg, ex_par, ex_iseq, ex_onSeqT, ex_onSeqL, ex_onSeqS, ex_ienum, ex_irev, ex_onLTt, ex_onLTl, ex_rng1, ex_ifE, ex_and, ex_or, ex_not, ex_andV, ex_orV, ex_notV, ex_ixL, ex_call, ex_callN, ex_rev, ex_revL, ex_cat, ex_rep, ex_sl, ex_slA, ex_slL, ex_nopt, ex_pt, ex_eq, ex_ne, ex_yes, ex_lc, ex_lenT, ex_lenL, ex_lenS, ex_int2, ex_augIx, ex_isT, ex_chain, ex_asg2, ex_neg, List.set, startD, List.replicate, List.map_nil, List.map_cons, List.length_cons, List.length_nil, List.cons_append, List.nil_append, Nat.sub_self, Nat.reduceSub, Nat.reduceAdd, wipeE, decide_true, decide_false, if_true, if_false, true_and, and_true, Bool.not_true, Bool.not_false, Bool.false_eq_true, ex_frz, ex_draw, ex_fld, ex_meth, ex_make, ex_isC, ex_joinS, ex_orS, ex_joined, ex_js, ex_js0, ex_fmt, ex_part, ex_split, ex_inS, ex_toStr, ex_toIntS, ex_ownT, ex_own, ex_listL, ex_listT, ex_reprT, ex_reprL, ex_reprI, ex_slS, ex_toIntB, ex_toIntI, ex_put, ex_drop, ex_never, isT1, isT2, isT3, isT4, tyI, tyT, tyS, pyI, pyB, pyT0, pyIs, Nat.zero_le, deqv_int, deqv_bl]
    refine ⟨(b, c, y, x), rfl, ⟨hb, hc, hy, hx⟩, fun d e => ?_⟩
    obtain rfl : d = .bl true := e
    simp only [ex_seq, ex_next, ex_if, ex_ret, ex_set, ex_setO, ex_app, ex_aug, ex_var, ex_vw, ex_c, ex_d2, ex_b, ex_onD, ex_onVd, ex_onVo, ex_onO, ex_onB, ex_onS, ex_int, ex_addI, ex_addS, ex_addT, ex_nil, ex_cons, ex_tup, ex_lst, ex_cb, ex_tupleL, ex_tupleT, get_0, get_s, ex_for, ex_nm, ex_gnil, ex_gcons, ex_gtup, ex_gtupL, ex_asg, ex_par, ex_iseq, ex_onSeqT, ex_onSeqL, ex_onSeqS, ex_ienum, ex_irev, ex_onLTt, ex_onLTl, ex_rng1, ex_ifE, ex_and, ex_or, ex_not, ex_andV, ex_orV, ex_notV, ex_ixL, ex_call, ex_callN, ex_rev, ex_revL, ex_cat, ex_rep, ex_sl, ex_slA, ex_slL, ex_nopt, ex_pt, ex_eq, ex_ne, ex_yes, ex_lc, ex_lenT, ex_lenL, ex_lenS, ex_int2, ex_augIx, ex_isT, ex_chain, ex_asg2, ex_neg, List.set, startD, List.replicate, List.map_nil, List.map_cons, List.length_cons, List.length_nil, List.cons_append, List.nil_append, Nat.sub_self, Nat.reduceSub, Nat.reduceAdd, wipeE, decide_true, decide_false, if_true, if_false, true_and, and_true, Bool.not_true, Bool.not_false, Bool.false_eq_true, ex_frz, ex_draw, ex_fld, ex_meth, ex_make, ex_isC, ex_joinS, ex_orS, ex_joined, ex_js, ex_js0, ex_fmt, ex_part, ex_split, ex_inS, ex_toStr, ex_toIntS, ex_ownT, ex_own, ex_listL, ex_listT, ex_reprT, ex_reprL, ex_reprI, ex_slS, ex_toIntB, ex_toIntI, ex_put, ex_drop, ex_never, isT1, isT2, isT3, isT4, tyI, tyT, tyS, pyI, pyB, pyT0, pyIs, Nat.zero_le, deqv_int, deqv_bl, e_gk_Long_1_base_below]
    refine ⟨_, rfl, (b, x, s), rfl, hb.1, _, rfl, (b, y, t), rfl, hb.1, (b, c, (x, s && !decide (x = 0)), (y, t && !decide (y = 0))), rfl, ⟨hb, hc, hx, hy, val_s, val_s⟩, fun d e => ?_⟩
    obtain rfl : d = .bl true := e
    simp only [ex_seq, ex_next, ex_if, ex_ret, ex_set, ex_setO, ex_app, ex_aug, ex_var, ex_vw, ex_c, ex_d2, ex_b, ex_onD, ex_onVd, ex_onVo, ex_onO, ex_onB, ex_onS, ex_int, ex_addI, ex_addS, ex_addT, ex_nil, ex_cons, ex_tup, ex_lst, ex_cb, ex_tupleL, ex_tupleT, get_0, get_s, ex_for, ex_nm, ex_gnil, ex_gcons, ex_gtup, ex_gtupL, ex_asg, ex_par, ex_iseq, ex_onSeqT, ex_onSeqL, ex_onSeqS, ex_ienum, ex_irev, ex_onLTt, ex_onLTl, ex_rng1, ex_ifE, ex_and, ex_or, ex_not, ex_andV, ex_orV, ex_notV, ex_ixL, ex_call, ex_callN, ex_rev, ex_revL, ex_cat, ex_rep, ex_sl, ex_slA, ex_slL, ex_nopt, ex_pt, ex_eq, ex_ne, ex_yes, ex_lc, ex_lenT, ex_lenL, ex_lenS, ex_int2, ex_augIx, ex_isT, ex_chain, ex_asg2, ex_neg, List.set, startD, List.replicate, List.map_nil, List.map_cons, List.length_cons, List.length_nil, List.cons_append, List.nil_append, Nat.sub_self, Nat.reduceSub, Nat.reduceAdd, wipeE, decide_true, decide_false, if_true, if_false, true_and, and_true, Bool.not_true, Bool.not_false, Bool.false_eq_true, ex_frz, ex_draw, ex_fld, ex_meth, ex_make, ex_isC, ex_joinS, ex_orS, ex_joined, ex_js, ex_js0, ex_fmt, ex_part, ex_split, ex_inS, ex_toStr, ex_toIntS, ex_ownT, ex_own, ex_listL, ex_listT, ex_reprT, ex_reprL, ex_reprI, ex_slS, ex_toIntB, ex_toIntI, ex_put, ex_drop, ex_never, isT1, isT2, isT3, isT4, tyI, tyT, tyS, pyI, pyB, pyT0, pyIs, Nat.zero_le, deqv_int, deqv_bl]
    exact hK _ ⟨_, _, _, _, _, _, _, rfl⟩
  · rintro env ⟨s2, s3, s4, s5, s6, s7, s8, rfl⟩
    exact rfl
end MD
end
section
set_option maxHeartbeats 0
namespace Hd
open PySem PySem.Spec PyProof.Rows L2
def top (i : Nat) : Stmt := PySem.Challenge.pw_manyroads_k84_through_texts_and_bases.main.body.getD i (.Pass ⟨0, 0, 0, 0⟩)
abbrev s0 : Stmt := inClass (top 5) 0
def d0 : He.DefD := ⟨("NotSame", some "__init__"), "__init__", "NotSame.__init__", defArgs s0, defBody s0, defScope s0, [], []⟩
abbrev s1 : Stmt := top 10
def d1 : He.DefD := ⟨("is_whole", none), "is_whole", "is_whole", defArgs s1, defBody s1, defScope s1, [], []⟩
abbrev s2 : Stmt := top 11
def d2 : He.DefD := ⟨("is_base", none), "is_base", "is_base", defArgs s2, defBody s2, defScope s2, [], []⟩
abbrev s3 : Stmt := top 12
def d3 : He.DefD := ⟨("is_row", none), "is_row", "is_row", defArgs s3, defBody s3, defScope s3, [], [("base", .int 10)]⟩
abbrev s4 : Stmt := top 13
def d4 : He.DefD := ⟨("row_of", none), "row_of", "row_of", defArgs s4, defBody s4, defScope s4, [], [("base", .int 10)]⟩
abbrev s5 : Stmt := top 14
def d5 : He.DefD := ⟨("worth_of", none), "worth_of", "worth_of", defArgs s5, defBody s5, defScope s5, [], [("base", .int 10)]⟩
abbrev s6 : Stmt := top 16
def d6 : He.DefD := ⟨("without_noughts", none), "without_noughts", "without_noughts", defArgs s6, defBody s6, defScope s6, [], []⟩
abbrev s7 : Stmt := top 17
def d7 : He.DefD := ⟨("limb_at", none), "limb_at", "limb_at", defArgs s7, defBody s7, defScope s7, [], []⟩
abbrev s8 : Stmt := top 18
def d8 : He.DefD := ⟨("is_less", none), "is_less", "is_less", defArgs s8, defBody s8, defScope s8, [], []⟩
abbrev s9 : Stmt := top 19
def d9 : He.DefD := ⟨("summed", none), "summed", "summed", defArgs s9, defBody s9, defScope s9, [], [("base", .int 10)]⟩
abbrev s10 : Stmt := top 20
def d10 : He.DefD := ⟨("lessened", none), "lessened", "lessened", defArgs s10, defBody s10, defScope s10, [], [("base", .int 10)]⟩
abbrev s11 : Stmt := top 21
def d11 : He.DefD := ⟨("cut_at", none), "cut_at", "cut_at", defArgs s11, defBody s11, defScope s11, [], []⟩
abbrev s12 : Stmt := top 22
def d12 : He.DefD := ⟨("scaled", none), "scaled", "scaled", defArgs s12, defBody s12, defScope s12, [], [("base", .int 10)]⟩
abbrev s13 : Stmt := top 23
def d13 : He.DefD := ⟨("parted", none), "parted", "parted", defArgs s13, defBody s13, defScope s13, [], [("base", .int 10)]⟩
abbrev s14 : Stmt := top 25
def d14 : He.DefD := ⟨("column_sums", none), "column_sums", "column_sums", defArgs s14, defBody s14, defScope s14, [], []⟩
abbrev s15 : Stmt := top 26
def d15 : He.DefD := ⟨("carried", none), "carried", "carried", defArgs s15, defBody s15, defScope s15, [], []⟩
abbrev s16 : Stmt := top 27
def d16 : He.DefD := ⟨("plain_product", none), "plain_product", "plain_product", defArgs s16, defBody s16, defScope s16, [], [("base", .int 10)]⟩
abbrev s17 : Stmt := top 29
def d17 : He.DefD := ⟨("base_power", none), "base_power", "base_power", defArgs s17, defBody s17, defScope s17, [], []⟩
abbrev s18 : Stmt := top 30
def d18 : He.DefD := ⟨("rebased", none), "rebased", "rebased", defArgs s18, defBody s18, defScope s18, [], [("base", .int 10)]⟩
abbrev s19 : Stmt := top 32
def d19 : He.DefD := ⟨("guess_of", none), "guess_of", "guess_of", defArgs s19, defBody s19, defScope s19, [], []⟩
abbrev s20 : Stmt := top 33
def d20 : He.DefD := ⟨("turns_of", none), "turns_of", "turns_of", defArgs s20, defBody s20, defScope s20, [], []⟩
abbrev s21 : Stmt := top 34
def d21 : He.DefD := ⟨("lifted", none), "lifted", "lifted", defArgs s21, defBody s21, defScope s21, [], []⟩
abbrev s22 : Stmt := top 35
def d22 : He.DefD := ⟨("divided", none), "divided", "divided", defArgs s22, defBody s22, defScope s22, [], [("base", .int 10)]⟩
abbrev s23 : Stmt := top 37
def d23 : He.DefD := ⟨("limbs_text", none), "limbs_text", "limbs_text", defArgs s23, defBody s23, defScope s23, [], []⟩
abbrev s24 : Stmt := inClass (top 38) 0
def d24 : He.DefD := ⟨("Long", some "__init__"), "__init__", "Long.__init__", defArgs s24, defBody s24, defScope s24, [.adr (He.dflAt ("Long", some "__init__") 0)], [("base", .int 10), ("below", .bl false)]⟩
abbrev s25 : Stmt := inClass (top 38) 1
def d25 : He.DefD := ⟨("Long", some "__len__"), "__len__", "Long.__len__", defArgs s25, defBody s25, defScope s25, [], []⟩
abbrev s26 : Stmt := inClass (top 38) 2
def d26 : He.DefD := ⟨("Long", some "__eq__"), "__eq__", "Long.__eq__", defArgs s26, defBody s26, defScope s26, [], []⟩
abbrev s27 : Stmt := inClass (top 38) 3
def d27 : He.DefD := ⟨("Long", some "__str__"), "__str__", "Long.__str__", defArgs s27, defBody s27, defScope s27, [], []⟩
abbrev s28 : Stmt := inClass (top 38) 4
def d28 : He.DefD := ⟨("Long", some "__repr__"), "__repr__", "Long.__repr__", defArgs s28, defBody s28, defScope s28, [], []⟩
abbrev s29 : Stmt := inClass (top 38) 5
def d29 : He.DefD := ⟨("Long", some "must_be_alike"), "must_be_alike", "Long.must_be_alike", defArgs s29, defBody s29, defScope s29, [], []⟩
abbrev s30 : Stmt := inClass (top 38) 6
def d30 : He.DefD := ⟨("Long", some "plus"), "plus", "Long.plus", defArgs s30, defBody s30, defScope s30, [], []⟩
abbrev s31 : Stmt := inClass (top 38) 7
def d31 : He.DefD := ⟨("Long", some "minus"), "minus", "Long.minus", defArgs s31, defBody s31, defScope s31, [], []⟩
abbrev s32 : Stmt := inClass (top 38) 8
def d32 : He.DefD := ⟨("Long", some "times"), "times", "Long.times", defArgs s32, defBody s32, defScope s32, [], []⟩
abbrev s33 : Stmt := inClass (top 38) 9
def d33 : He.DefD := ⟨("Long", some "over"), "over", "Long.over", defArgs s33, defBody s33, defScope s33, [], []⟩
abbrev s34 : Stmt := top 45
def d34 : He.DefD := ⟨("number_in", none), "number_in", "number_in", defArgs s34, defBody s34, defScope s34, [], []⟩
abbrev s35 : Stmt := top 46
def d35 : He.DefD := ⟨("limbs_in", none), "limbs_in", "limbs_in", defArgs s35, defBody s35, defScope s35, [], []⟩
abbrev s36 : Stmt := top 47
def d36 : He.DefD := ⟨("read_long", none), "read_long", "read_long", defArgs s36, defBody s36, defScope s36, [], []⟩
abbrev s37 : Stmt := top 48
def d37 : He.DefD := ⟨("figures_of", none), "figures_of", "figures_of", defArgs s37, defBody s37, defScope s37, [], [("base", .int 10)]⟩
abbrev s38 : Stmt := top 49
def d38 : He.DefD := ⟨("read_figures", none), "read_figures", "read_figures", defArgs s38, defBody s38, defScope s38, [], [("base", .int 10)]⟩
abbrev s39 : Stmt := top 51
def d39 : He.DefD := ⟨("_law_deck", none), "_law_deck", "_law_deck", defArgs s39, defBody s39, defScope s39, [], []⟩
abbrev s40 : Stmt := top 52
def d40 : He.DefD := ⟨("_law_draw", none), "_law_draw", "_law_draw", defArgs s40, defBody s40, defScope s40, [], []⟩
abbrev s41 : Stmt := top 53
def d41 : He.DefD := ⟨("_law_any_base", none), "_law_any_base", "_law_any_base", defArgs s41, defBody s41, defScope s41, [], []⟩
abbrev s42 : Stmt := top 54
def d42 : He.DefD := ⟨("_law_row", none), "_law_row", "_law_row", defArgs s42, defBody s42, defScope s42, [], []⟩
abbrev s43 : Stmt := top 55
def d43 : He.DefD := ⟨("_law_worth", none), "_law_worth", "_law_worth", defArgs s43, defBody s43, defScope s43, [], []⟩
abbrev s44 : Stmt := top 56
def d44 : He.DefD := ⟨("_law_row_of", none), "_law_row_of", "_law_row_of", defArgs s44, defBody s44, defScope s44, [], []⟩
abbrev s45 : Stmt := top 57
def d45 : He.DefD := ⟨("_law_texts_right", none), "_law_texts_right", "_law_texts_right", defArgs s45, defBody s45, defScope s45, [], []⟩
abbrev s46 : Stmt := top 58
def d46 : He.DefD := ⟨("_law_put_right", none), "_law_put_right", "_law_put_right", defArgs s46, defBody s46, defScope s46, [], []⟩
abbrev s47 : Stmt := top 59
def d47 : He.DefD := ⟨("_law_told", none), "_law_told", "_law_told", defArgs s47, defBody s47, defScope s47, [], []⟩
abbrev s48 : Stmt := top 60
def d48 : He.DefD := ⟨("_law_same_there", none), "_law_same_there", "_law_same_there", defArgs s48, defBody s48, defScope s48, [], []⟩
abbrev s49 : Stmt := top 61
def d49 : He.DefD := ⟨("_law_long_there", none), "_law_long_there", "_law_long_there", defArgs s49, defBody s49, defScope s49, [], []⟩
abbrev s50 : Stmt := top 62
def d50 : He.DefD := ⟨("_law_longs_right", none), "_law_longs_right", "_law_longs_right", defArgs s50, defBody s50, defScope s50, [], []⟩
abbrev s51 : Stmt := top 63
def d51 : He.DefD := ⟨("law", none), "law", "law", defArgs s51, defBody s51, defScope s51, [], []⟩
def fn : List He.DefD := [d0, d1, d2, d3, d4, d5, d6, d7, d8, d9, d10, d11, d12, d13, d14, d15, d16, d17, d18, d19, d20, d21, d22, d23, d24, d25, d26, d27, d28, d29, d30, d31, d32, d33, d34, d35, d36, d37, d38, d39, d40, d41, d42, d43, d44, d45, d46, d47, d48, d49, d50, d51]
def fa : List He.Fa := [.glo "is_whole", .glo "is_base", .glo "is_row", .glo "row_of", .glo "worth_of", .glo "without_noughts", .glo "limb_at", .glo "is_less", .glo "summed", .glo "lessened", .glo "cut_at", .glo "scaled", .glo "parted", .glo "column_sums", .glo "carried", .glo "plain_product", .glo "base_power", .glo "rebased", .glo "guess_of", .glo "turns_of", .glo "lifted", .glo "divided", .glo "limbs_text", .glo "number_in", .glo "limbs_in", .glo "read_long", .glo "figures_of", .glo "read_figures", .glo "_law_deck", .glo "_law_draw", .glo "_law_any_base", .glo "_law_row", .glo "_law_worth", .glo "_law_row_of", .glo "_law_texts_right", .glo "_law_put_right", .glo "_law_told", .glo "_law_same_there", .glo "_law_long_there", .glo "_law_longs_right", .glo "law", .free "tuple", .free "list", .free "len", .free "max", .free "min", .free "sum", .free "all", .free "divmod", .free "isinstance", .free "repr", .free "sorted", .free "int", .free "str", .free "bool", .free "range", .free "enumerate", .free "reversed", .int "BASE" 10, .int "LEAST_BASE" 2, .int "MOST_BASE" 10000, .str "SIGNS" "0123456789abcdefghijklmnopqrstuvwxyz", .str "FIGURES" "0123456789", .int "MOST_FIGURES" 5, .int "MOST_LIMBS" 400, .int "MOST_SIGNS" 36, .glo "Long", .cls "Long", .mkr "Long", .noat "Long" "row", .noat "Long" "base", .noat "Long" "below", .meth "Long" "__len__", .meth "Long" "__eq__", .meth "Long" "__str__", .meth "Long" "__repr__", .meth "Long" "must_be_alike", .meth "Long" "plus", .meth "Long" "minus", .meth "Long" "times", .meth "Long" "over"]
def names : List PySem.Str := (["RoadError", "NoText", "TooGreat", "NoQuotient", "NotSame", "BASE", "LEAST_BASE", "MOST_BASE", "is_whole", "is_base", "is_row", "row_of", "worth_of", "without_noughts", "limb_at", "is_less", "summed", "lessened", "cut_at", "scaled", "parted", "column_sums", "carried", "plain_product", "base_power"] : List PySem.Str) ++ (["rebased", "guess_of", "turns_of", "lifted", "divided", "limbs_text", "Long", "SIGNS", "FIGURES", "MOST_FIGURES", "MOST_LIMBS", "MOST_SIGNS", "number_in", "limbs_in", "read_long", "figures_of", "read_figures", "_law_deck", "_law_draw", "_law_any_base", "_law_row", "_law_worth", "_law_row_of", "_law_texts_right", "_law_put_right"] : List PySem.Str) ++ (["_law_told", "_law_same_there", "_law_long_there", "_law_longs_right"] : List PySem.Str)
def ex (K : PySem.W.Frag) : Bool := MD.exC "Long" K
abbrev R : PySem.W.OpenRow := PySem.W.OpenLaw.row PySem.Challenge.rw_manyroads_k84_through_texts_and_bases
abbrev hk : PySem.W.Hook := He.hookX 4 fa fn [] [] ex
def ob (s : PySem.W.SharedT) : He.AlX := He.obsX 4 fa fn [] [] ex (HandSHeadRun.getT s)
theorem ob_eq (s : PySem.W.SharedT) : ob s = hk.obs s.abs := He.obsX_eq (HandSHeadRun.getT_eq s)
theorem run (w : World) : HandSHeadRun.RunEq R (PySem.W.view R.prog [63]) hk ob 20000 names w := by
  intro os
  kernel_rfl
end Hd
end
section
namespace MD
open PySem PySem.Spec PyProof.Rows L2
structure Fx (K : PySem.W.Frag) (mg : Str → Option Value) (base : Heap) : Prop where
  c : He.SaysD Hd.fa Hd.fn K
  e : Hd.ex K = true
  X : K.In base
  G : base.Ns mainGlobals mg
section
variable {K : PySem.W.Frag} {mg : Str → Option Value} {base : Heap}
theorem Fx.gl_is_whole (h : Fx K mg base) : mg "is_whole" = some (.ref (He.ga K "is_whole")) := He.glo_ok h.X h.G (h.c.fact 0 (f := .glo "is_whole") rfl)
theorem Fx.gl_is_base (h : Fx K mg base) : mg "is_base" = some (.ref (He.ga K "is_base")) := He.glo_ok h.X h.G (h.c.fact 1 (f := .glo "is_base") rfl)
theorem Fx.gl_is_row (h : Fx K mg base) : mg "is_row" = some (.ref (He.ga K "is_row")) := He.glo_ok h.X h.G (h.c.fact 2 (f := .glo "is_row") rfl)
theorem Fx.gl_row_of (h : Fx K mg base) : mg "row_of" = some (.ref (He.ga K "row_of")) := He.glo_ok h.X h.G (h.c.fact 3 (f := .glo "row_of") rfl)
theorem Fx.gl_worth_of (h : Fx K mg base) : mg "worth_of" = some (.ref (He.ga K "worth_of")) := He.glo_ok h.X h.G (h.c.fact 4 (f := .glo "worth_of") rfl)
theorem Fx.gl_without_noughts (h : Fx K mg base) : mg "without_noughts" = some (.ref (He.ga K "without_noughts")) := He.glo_ok h.X h.G (h.c.fact 5 (f := .glo "without_noughts") rfl)
theorem Fx.gl_limb_at (h : Fx K mg base) : mg "limb_at" = some (.ref (He.ga K "limb_at")) := He.glo_ok h.X h.G (h.c.fact 6 (f := .glo "limb_at") rfl)
theorem Fx.gl_is_less (h : Fx K mg base) : mg "is_less" = some (.ref (He.ga K "is_less")) := He.glo_ok h.X h.G (h.c.fact 7 (f := .glo "is_less") rfl)
theorem Fx.gl_summed (h : Fx K mg base) : mg "summed" = some (.ref (He.ga K "summed")) := He.glo_ok h.X h.G (h.c.fact 8 (f := .glo "summed") rfl)
theorem Fx.gl_lessened (h : Fx K mg base) : mg "lessened" = some (.ref (He.ga K "lessened")) := He.glo_ok h.X h.G (h.c.fact 9 (f := .glo "lessened") rfl)
theorem Fx.gl_cut_at (h : Fx K mg base) : mg "cut_at" = some (.ref (He.ga K "cut_at")) := He.glo_ok h.X h.G (h.c.fact 10 (f := .glo "cut_at") rfl)
theorem Fx.gl_scaled (h : Fx K mg base) : mg "scaled" = some (.ref (He.ga K "scaled")) := He.glo_ok h.X h.G (h.c.fact 11 (f := .glo "scaled") rfl)
theorem Fx.gl_parted (h : Fx K mg base) : mg "parted" = some (.ref (He.ga K "parted")) := He.glo_ok h.X h.G (h.c.fact 12 (f := .glo "parted") rfl)
theorem Fx.gl_column_sums (h : Fx K mg base) : mg "column_sums" = some (.ref (He.ga K "column_sums")) := He.glo_ok h.X h.G (h.c.fact 13 (f := .glo "column_sums") rfl)
theorem Fx.gl_carried (h : Fx K mg base) : mg "carried" = some (.ref (He.ga K "carried")) := He.glo_ok h.X h.G (h.c.fact 14 (f := .glo "carried") rfl)
theorem Fx.gl_plain_product (h : Fx K mg base) : mg "plain_product" = some (.ref (He.ga K "plain_product")) := He.glo_ok h.X h.G (h.c.fact 15 (f := .glo "plain_product") rfl)
theorem Fx.gl_base_power (h : Fx K mg base) : mg "base_power" = some (.ref (He.ga K "base_power")) := He.glo_ok h.X h.G (h.c.fact 16 (f := .glo "base_power") rfl)
theorem Fx.gl_rebased (h : Fx K mg base) : mg "rebased" = some (.ref (He.ga K "rebased")) := He.glo_ok h.X h.G (h.c.fact 17 (f := .glo "rebased") rfl)
theorem Fx.gl_guess_of (h : Fx K mg base) : mg "guess_of" = some (.ref (He.ga K "guess_of")) := He.glo_ok h.X h.G (h.c.fact 18 (f := .glo "guess_of") rfl)
theorem Fx.gl_turns_of (h : Fx K mg base) : mg "turns_of" = some (.ref (He.ga K "turns_of")) := He.glo_ok h.X h.G (h.c.fact 19 (f := .glo "turns_of") rfl)
theorem Fx.gl_lifted (h : Fx K mg base) : mg "lifted" = some (.ref (He.ga K "lifted")) := He.glo_ok h.X h.G (h.c.fact 20 (f := .glo "lifted") rfl)
theorem Fx.gl_divided (h : Fx K mg base) : mg "divided" = some (.ref (He.ga K "divided")) := He.glo_ok h.X h.G (h.c.fact 21 (f := .glo "divided") rfl)
theorem Fx.gl_limbs_text (h : Fx K mg base) : mg "limbs_text" = some (.ref (He.ga K "limbs_text")) := He.glo_ok h.X h.G (h.c.fact 22 (f := .glo "limbs_text") rfl)
theorem Fx.gl_number_in (h : Fx K mg base) : mg "number_in" = some (.ref (He.ga K "number_in")) := He.glo_ok h.X h.G (h.c.fact 23 (f := .glo "number_in") rfl)
theorem Fx.gl_limbs_in (h : Fx K mg base) : mg "limbs_in" = some (.ref (He.ga K "limbs_in")) := He.glo_ok h.X h.G (h.c.fact 24 (f := .glo "limbs_in") rfl)
theorem Fx.gl_read_long (h : Fx K mg base) : mg "read_long" = some (.ref (He.ga K "read_long")) := He.glo_ok h.X h.G (h.c.fact 25 (f := .glo "read_long") rfl)
theorem Fx.gl_figures_of (h : Fx K mg base) : mg "figures_of" = some (.ref (He.ga K "figures_of")) := He.glo_ok h.X h.G (h.c.fact 26 (f := .glo "figures_of") rfl)
theorem Fx.gl_read_figures (h : Fx K mg base) : mg "read_figures" = some (.ref (He.ga K "read_figures")) := He.glo_ok h.X h.G (h.c.fact 27 (f := .glo "read_figures") rfl)
theorem Fx.gl__law_deck (h : Fx K mg base) : mg "_law_deck" = some (.ref (He.ga K "_law_deck")) := He.glo_ok h.X h.G (h.c.fact 28 (f := .glo "_law_deck") rfl)
theorem Fx.gl__law_draw (h : Fx K mg base) : mg "_law_draw" = some (.ref (He.ga K "_law_draw")) := He.glo_ok h.X h.G (h.c.fact 29 (f := .glo "_law_draw") rfl)
theorem Fx.gl__law_any_base (h : Fx K mg base) : mg "_law_any_base" = some (.ref (He.ga K "_law_any_base")) := He.glo_ok h.X h.G (h.c.fact 30 (f := .glo "_law_any_base") rfl)
theorem Fx.gl__law_row (h : Fx K mg base) : mg "_law_row" = some (.ref (He.ga K "_law_row")) := He.glo_ok h.X h.G (h.c.fact 31 (f := .glo "_law_row") rfl)
theorem Fx.gl__law_worth (h : Fx K mg base) : mg "_law_worth" = some (.ref (He.ga K "_law_worth")) := He.glo_ok h.X h.G (h.c.fact 32 (f := .glo "_law_worth") rfl)
theorem Fx.gl__law_row_of (h : Fx K mg base) : mg "_law_row_of" = some (.ref (He.ga K "_law_row_of")) := He.glo_ok h.X h.G (h.c.fact 33 (f := .glo "_law_row_of") rfl)
theorem Fx.gl__law_texts_right (h : Fx K mg base) : mg "_law_texts_right" = some (.ref (He.ga K "_law_texts_right")) := He.glo_ok h.X h.G (h.c.fact 34 (f := .glo "_law_texts_right") rfl)
theorem Fx.gl__law_put_right (h : Fx K mg base) : mg "_law_put_right" = some (.ref (He.ga K "_law_put_right")) := He.glo_ok h.X h.G (h.c.fact 35 (f := .glo "_law_put_right") rfl)
theorem Fx.gl__law_told (h : Fx K mg base) : mg "_law_told" = some (.ref (He.ga K "_law_told")) := He.glo_ok h.X h.G (h.c.fact 36 (f := .glo "_law_told") rfl)
theorem Fx.gl__law_same_there (h : Fx K mg base) : mg "_law_same_there" = some (.ref (He.ga K "_law_same_there")) := He.glo_ok h.X h.G (h.c.fact 37 (f := .glo "_law_same_there") rfl)
theorem Fx.gl__law_long_there (h : Fx K mg base) : mg "_law_long_there" = some (.ref (He.ga K "_law_long_there")) := He.glo_ok h.X h.G (h.c.fact 38 (f := .glo "_law_long_there") rfl)
theorem Fx.gl__law_longs_right (h : Fx K mg base) : mg "_law_longs_right" = some (.ref (He.ga K "_law_longs_right")) := He.glo_ok h.X h.G (h.c.fact 39 (f := .glo "_law_longs_right") rfl)
theorem Fx.gl_law (h : Fx K mg base) : mg "law" = some (.ref (He.ga K "law")) := He.glo_ok h.X h.G (h.c.fact 40 (f := .glo "law") rfl)
theorem Fx.fr_tuple (h : Fx K mg base) : mg "tuple" = none := He.free_ok h.X h.G (h.c.fact 41 (f := .free "tuple") rfl)
theorem Fx.fr_list (h : Fx K mg base) : mg "list" = none := He.free_ok h.X h.G (h.c.fact 42 (f := .free "list") rfl)
theorem Fx.fr_len (h : Fx K mg base) : mg "len" = none := He.free_ok h.X h.G (h.c.fact 43 (f := .free "len") rfl)
theorem Fx.fr_max (h : Fx K mg base) : mg "max" = none := He.free_ok h.X h.G (h.c.fact 44 (f := .free "max") rfl)
theorem Fx.fr_min (h : Fx K mg base) : mg "min" = none := He.free_ok h.X h.G (h.c.fact 45 (f := .free "min") rfl)
theorem Fx.fr_sum (h : Fx K mg base) : mg "sum" = none := He.free_ok h.X h.G (h.c.fact 46 (f := .free "sum") rfl)
theorem Fx.fr_all (h : Fx K mg base) : mg "all" = none := He.free_ok h.X h.G (h.c.fact 47 (f := .free "all") rfl)
theorem Fx.fr_divmod (h : Fx K mg base) : mg "divmod" = none := He.free_ok h.X h.G (h.c.fact 48 (f := .free "divmod") rfl)
theorem Fx.fr_isinstance (h : Fx K mg base) : mg "isinstance" = none := He.free_ok h.X h.G (h.c.fact 49 (f := .free "isinstance") rfl)
theorem Fx.fr_repr (h : Fx K mg base) : mg "repr" = none := He.free_ok h.X h.G (h.c.fact 50 (f := .free "repr") rfl)
theorem Fx.fr_sorted (h : Fx K mg base) : mg "sorted" = none := He.free_ok h.X h.G (h.c.fact 51 (f := .free "sorted") rfl)
theorem Fx.fr_int (h : Fx K mg base) : mg "int" = none := He.free_ok h.X h.G (h.c.fact 52 (f := .free "int") rfl)
theorem Fx.fr_str (h : Fx K mg base) : mg "str" = none := He.free_ok h.X h.G (h.c.fact 53 (f := .free "str") rfl)
theorem Fx.fr_bool (h : Fx K mg base) : mg "bool" = none := He.free_ok h.X h.G (h.c.fact 54 (f := .free "bool") rfl)
theorem Fx.fr_range (h : Fx K mg base) : mg "range" = none := He.free_ok h.X h.G (h.c.fact 55 (f := .free "range") rfl)
theorem Fx.fr_enumerate (h : Fx K mg base) : mg "enumerate" = none := He.free_ok h.X h.G (h.c.fact 56 (f := .free "enumerate") rfl)
theorem Fx.fr_reversed (h : Fx K mg base) : mg "reversed" = none := He.free_ok h.X h.G (h.c.fact 57 (f := .free "reversed") rfl)
theorem Fx.gi_BASE (h : Fx K mg base) : ∃ t, mg "BASE" = some (.int 10 t) := He.int_ok h.X h.G (h.c.fact 58 (f := .int "BASE" 10) rfl)
theorem Fx.gi_LEAST_BASE (h : Fx K mg base) : ∃ t, mg "LEAST_BASE" = some (.int 2 t) := He.int_ok h.X h.G (h.c.fact 59 (f := .int "LEAST_BASE" 2) rfl)
theorem Fx.gi_MOST_BASE (h : Fx K mg base) : ∃ t, mg "MOST_BASE" = some (.int 10000 t) := He.int_ok h.X h.G (h.c.fact 60 (f := .int "MOST_BASE" 10000) rfl)
theorem Fx.gs_SIGNS (h : Fx K mg base) : ∃ t, mg "SIGNS" = some (.str "0123456789abcdefghijklmnopqrstuvwxyz" t) := He.str_ok h.X h.G (h.c.fact 61 (f := .str "SIGNS" "0123456789abcdefghijklmnopqrstuvwxyz") rfl)
theorem Fx.gs_FIGURES (h : Fx K mg base) : ∃ t, mg "FIGURES" = some (.str "0123456789" t) := He.str_ok h.X h.G (h.c.fact 62 (f := .str "FIGURES" "0123456789") rfl)
theorem Fx.gi_MOST_FIGURES (h : Fx K mg base) : ∃ t, mg "MOST_FIGURES" = some (.int 5 t) := He.int_ok h.X h.G (h.c.fact 63 (f := .int "MOST_FIGURES" 5) rfl)
theorem Fx.gi_MOST_LIMBS (h : Fx K mg base) : ∃ t, mg "MOST_LIMBS" = some (.int 400 t) := He.int_ok h.X h.G (h.c.fact 64 (f := .int "MOST_LIMBS" 400) rfl)
theorem Fx.gi_MOST_SIGNS (h : Fx K mg base) : ∃ t, mg "MOST_SIGNS" = some (.int 36 t) := He.int_ok h.X h.G (h.c.fact 65 (f := .int "MOST_SIGNS" 36) rfl)
theorem Fx.Long_g (h : Fx K mg base) : mg "Long" = some (.ref (He.ga K "Long")) := He.glo_ok h.X h.G (h.c.fact 66 (f := .glo "Long") rfl)
theorem Fx.Long_cl (h : Fx K mg base) : Cls K (He.ga K "Long") := He.cls_ok (h.c.fact 67 (f := .cls "Long") rfl)
theorem Fx.Long_mk (h : Fx K mg base) : Mk K (He.ga K "Long") (He.ma K (He.ga K "Long") "__init__") := He.mkr_ok (h.c.fact 68 (f := .mkr "Long") rfl)
theorem Fx.Long_na_row (h : Fx K mg base) : NoAttr K (He.ga K "Long") "row" := He.noat_ok (h.c.fact 69 (f := .noat "Long" "row") rfl)
theorem Fx.Long_na_base (h : Fx K mg base) : NoAttr K (He.ga K "Long") "base" := He.noat_ok (h.c.fact 70 (f := .noat "Long" "base") rfl)
theorem Fx.Long_na_below (h : Fx K mg base) : NoAttr K (He.ga K "Long") "below" := He.noat_ok (h.c.fact 71 (f := .noat "Long" "below") rfl)
theorem Fx.mt_Long_len (h : Fx K mg base) : Meth K (He.ga K "Long") "__len__" (He.ma K (He.ga K "Long") "__len__") := He.meth_ok (h.c.fact 72 (f := .meth "Long" "__len__") rfl)
theorem Fx.mt_Long_eq (h : Fx K mg base) : Meth K (He.ga K "Long") "__eq__" (He.ma K (He.ga K "Long") "__eq__") := He.meth_ok (h.c.fact 73 (f := .meth "Long" "__eq__") rfl)
theorem Fx.mt_Long_str (h : Fx K mg base) : Meth K (He.ga K "Long") "__str__" (He.ma K (He.ga K "Long") "__str__") := He.meth_ok (h.c.fact 74 (f := .meth "Long" "__str__") rfl)
theorem Fx.mt_Long_repr (h : Fx K mg base) : Meth K (He.ga K "Long") "__repr__" (He.ma K (He.ga K "Long") "__repr__") := He.meth_ok (h.c.fact 75 (f := .meth "Long" "__repr__") rfl)
theorem Fx.mt_Long_must_be_alike (h : Fx K mg base) : Meth K (He.ga K "Long") "must_be_alike" (He.ma K (He.ga K "Long") "must_be_alike") := He.meth_ok (h.c.fact 76 (f := .meth "Long" "must_be_alike") rfl)
theorem Fx.mt_Long_plus (h : Fx K mg base) : Meth K (He.ga K "Long") "plus" (He.ma K (He.ga K "Long") "plus") := He.meth_ok (h.c.fact 77 (f := .meth "Long" "plus") rfl)
theorem Fx.mt_Long_minus (h : Fx K mg base) : Meth K (He.ga K "Long") "minus" (He.ma K (He.ga K "Long") "minus") := He.meth_ok (h.c.fact 78 (f := .meth "Long" "minus") rfl)
theorem Fx.mt_Long_times (h : Fx K mg base) : Meth K (He.ga K "Long") "times" (He.ma K (He.ga K "Long") "times") := He.meth_ok (h.c.fact 79 (f := .meth "Long" "times") rfl)
theorem Fx.mt_Long_over (h : Fx K mg base) : Meth K (He.ga K "Long") "over" (He.ma K (He.ga K "Long") "over") := He.meth_ok (h.c.fact 80 (f := .meth "Long" "over") rfl)
theorem Fx.Long_ic (h : Fx K mg base) : C8.InsC K (He.ga K "Long") := (exC_at h.e).1 h.Long_cl
theorem Fx.Long_mo (h : Fx K mg base) : PySem.W.mroIn K (He.ga K "Long") (.type "object") = some true := (exC_at h.e).2.1
theorem Fx.Long_ne (h : Fx K mg base) : PySem.W.findIn K (.ref (He.ga K "Long")) "__ne__" = some (some (.builtin "object.__ne__")) := (exC_at h.e).2.2
end

theorem b_is_whole {K : PySem.W.Frag} {f : Addr} {fd : FuncData} (F : FunD K Hd.d1.name Hd.d1.qual Hd.d1.params Hd.d1.body Hd.d1.scope (Hd.d1.dvs K) (Hd.d1.kws K) f fd) : Binds K fd ["thing"] [] := FunD.bindsN F fun kV doc pm an cdv ct us hl => match us, hl with | [_], _ => rfl
theorem b_is_base {K : PySem.W.Frag} {f : Addr} {fd : FuncData} (F : FunD K Hd.d2.name Hd.d2.qual Hd.d2.params Hd.d2.body Hd.d2.scope (Hd.d2.dvs K) (Hd.d2.kws K) f fd) : Binds K fd ["thing"] [] := FunD.bindsN F fun kV doc pm an cdv ct us hl => match us, hl with | [_], _ => rfl
theorem bgk_is_row_1_base {K : PySem.W.Frag} {f : Addr} {fd : FuncData} (F : FunD K Hd.d3.name Hd.d3.qual Hd.d3.params Hd.d3.body Hd.d3.scope (Hd.d3.dvs K) (Hd.d3.kws K) f fd) : ∃ g, KBn K fd ["thing", "base"] 1 ["base"] g (fun vs zs => (vs ++ (((zs.drop 0).take 1) ++ []))) := ⟨_, kbAll F 1 ["base"] (fun us ws => (us ++ (((ws.drop 0).take 1) ++ []))) (fun r1 r2 => r1.append (((r2.drop 0).take 1).append .nil)) fun kV doc pm an cdv ct us ws h1 h2 => match us, h1, ws, h2 with | [_], _, [_], _ => rfl⟩
theorem rgk_is_row_1_base {K : PySem.W.Frag} {W : Wd} {B : Addr → Prop} {H : Hp} {vs zs : List V} {ds fs : List D} (e : W.K = K) (h1 : RpL W B H vs ds) (h2 : RpL W B H zs fs) : RpL W B H ((fun vs zs => (vs ++ (((zs.drop 0).take 1) ++ []))) vs zs) (gk_is_row_1_base ds fs) := h1.append (((h2.drop 0).take 1).append .nil)
theorem bgk_row_of_1_base {K : PySem.W.Frag} {f : Addr} {fd : FuncData} (F : FunD K Hd.d4.name Hd.d4.qual Hd.d4.params Hd.d4.body Hd.d4.scope (Hd.d4.dvs K) (Hd.d4.kws K) f fd) : ∃ g, KBn K fd ["number", "base"] 1 ["base"] g (fun vs zs => (vs ++ (((zs.drop 0).take 1) ++ []))) := ⟨_, kbAll F 1 ["base"] (fun us ws => (us ++ (((ws.drop 0).take 1) ++ []))) (fun r1 r2 => r1.append (((r2.drop 0).take 1).append .nil)) fun kV doc pm an cdv ct us ws h1 h2 => match us, h1, ws, h2 with | [_], _, [_], _ => rfl⟩
theorem rgk_row_of_1_base {K : PySem.W.Frag} {W : Wd} {B : Addr → Prop} {H : Hp} {vs zs : List V} {ds fs : List D} (e : W.K = K) (h1 : RpL W B H vs ds) (h2 : RpL W B H zs fs) : RpL W B H ((fun vs zs => (vs ++ (((zs.drop 0).take 1) ++ []))) vs zs) (gk_row_of_1_base ds fs) := h1.append (((h2.drop 0).take 1).append .nil)
theorem bgk_worth_of_1_base {K : PySem.W.Frag} {f : Addr} {fd : FuncData} (F : FunD K Hd.d5.name Hd.d5.qual Hd.d5.params Hd.d5.body Hd.d5.scope (Hd.d5.dvs K) (Hd.d5.kws K) f fd) : ∃ g, KBn K fd ["row", "base"] 1 ["base"] g (fun vs zs => (vs ++ (((zs.drop 0).take 1) ++ []))) := ⟨_, kbAll F 1 ["base"] (fun us ws => (us ++ (((ws.drop 0).take 1) ++ []))) (fun r1 r2 => r1.append (((r2.drop 0).take 1).append .nil)) fun kV doc pm an cdv ct us ws h1 h2 => match us, h1, ws, h2 with | [_], _, [_], _ => rfl⟩
theorem rgk_worth_of_1_base {K : PySem.W.Frag} {W : Wd} {B : Addr → Prop} {H : Hp} {vs zs : List V} {ds fs : List D} (e : W.K = K) (h1 : RpL W B H vs ds) (h2 : RpL W B H zs fs) : RpL W B H ((fun vs zs => (vs ++ (((zs.drop 0).take 1) ++ []))) vs zs) (gk_worth_of_1_base ds fs) := h1.append (((h2.drop 0).take 1).append .nil)
theorem b_without_noughts {K : PySem.W.Frag} {f : Addr} {fd : FuncData} (F : FunD K Hd.d6.name Hd.d6.qual Hd.d6.params Hd.d6.body Hd.d6.scope (Hd.d6.dvs K) (Hd.d6.kws K) f fd) : Binds K fd ["limbs"] [] := FunD.bindsN F fun kV doc pm an cdv ct us hl => match us, hl with | [_], _ => rfl
theorem b_limb_at {K : PySem.W.Frag} {f : Addr} {fd : FuncData} (F : FunD K Hd.d7.name Hd.d7.qual Hd.d7.params Hd.d7.body Hd.d7.scope (Hd.d7.dvs K) (Hd.d7.kws K) f fd) : Binds K fd ["row", "place"] [] := FunD.bindsN F fun kV doc pm an cdv ct us hl => match us, hl with | [_, _], _ => rfl
theorem b_is_less {K : PySem.W.Frag} {f : Addr} {fd : FuncData} (F : FunD K Hd.d8.name Hd.d8.qual Hd.d8.params Hd.d8.body Hd.d8.scope (Hd.d8.dvs K) (Hd.d8.kws K) f fd) : Binds K fd ["one", "other"] [] := FunD.bindsN F fun kV doc pm an cdv ct us hl => match us, hl with | [_, _], _ => rfl
theorem bgk_summed_2_base {K : PySem.W.Frag} {f : Addr} {fd : FuncData} (F : FunD K Hd.d9.name Hd.d9.qual Hd.d9.params Hd.d9.body Hd.d9.scope (Hd.d9.dvs K) (Hd.d9.kws K) f fd) : ∃ g, KBn K fd ["one", "other", "base"] 2 ["base"] g (fun vs zs => (vs ++ (((zs.drop 0).take 1) ++ []))) := ⟨_, kbAll F 2 ["base"] (fun us ws => (us ++ (((ws.drop 0).take 1) ++ []))) (fun r1 r2 => r1.append (((r2.drop 0).take 1).append .nil)) fun kV doc pm an cdv ct us ws h1 h2 => match us, h1, ws, h2 with | [_, _], _, [_], _ => rfl⟩
theorem rgk_summed_2_base {K : PySem.W.Frag} {W : Wd} {B : Addr → Prop} {H : Hp} {vs zs : List V} {ds fs : List D} (e : W.K = K) (h1 : RpL W B H vs ds) (h2 : RpL W B H zs fs) : RpL W B H ((fun vs zs => (vs ++ (((zs.drop 0).take 1) ++ []))) vs zs) (gk_summed_2_base ds fs) := h1.append (((h2.drop 0).take 1).append .nil)
theorem bgk_lessened_2_base {K : PySem.W.Frag} {f : Addr} {fd : FuncData} (F : FunD K Hd.d10.name Hd.d10.qual Hd.d10.params Hd.d10.body Hd.d10.scope (Hd.d10.dvs K) (Hd.d10.kws K) f fd) : ∃ g, KBn K fd ["one", "other", "base"] 2 ["base"] g (fun vs zs => (vs ++ (((zs.drop 0).take 1) ++ []))) := ⟨_, kbAll F 2 ["base"] (fun us ws => (us ++ (((ws.drop 0).take 1) ++ []))) (fun r1 r2 => r1.append (((r2.drop 0).take 1).append .nil)) fun kV doc pm an cdv ct us ws h1 h2 => match us, h1, ws, h2 with | [_, _], _, [_], _ => rfl⟩
theorem rgk_lessened_2_base {K : PySem.W.Frag} {W : Wd} {B : Addr → Prop} {H : Hp} {vs zs : List V} {ds fs : List D} (e : W.K = K) (h1 : RpL W B H vs ds) (h2 : RpL W B H zs fs) : RpL W B H ((fun vs zs => (vs ++ (((zs.drop 0).take 1) ++ []))) vs zs) (gk_lessened_2_base ds fs) := h1.append (((h2.drop 0).take 1).append .nil)
theorem b_cut_at {K : PySem.W.Frag} {f : Addr} {fd : FuncData} (F : FunD K Hd.d11.name Hd.d11.qual Hd.d11.params Hd.d11.body Hd.d11.scope (Hd.d11.dvs K) (Hd.d11.kws K) f fd) : Binds K fd ["row", "many"] [] := FunD.bindsN F fun kV doc pm an cdv ct us hl => match us, hl with | [_, _], _ => rfl
theorem bgk_scaled_2_base {K : PySem.W.Frag} {f : Addr} {fd : FuncData} (F : FunD K Hd.d12.name Hd.d12.qual Hd.d12.params Hd.d12.body Hd.d12.scope (Hd.d12.dvs K) (Hd.d12.kws K) f fd) : ∃ g, KBn K fd ["row", "limb", "base"] 2 ["base"] g (fun vs zs => (vs ++ (((zs.drop 0).take 1) ++ []))) := ⟨_, kbAll F 2 ["base"] (fun us ws => (us ++ (((ws.drop 0).take 1) ++ []))) (fun r1 r2 => r1.append (((r2.drop 0).take 1).append .nil)) fun kV doc pm an cdv ct us ws h1 h2 => match us, h1, ws, h2 with | [_, _], _, [_], _ => rfl⟩
theorem rgk_scaled_2_base {K : PySem.W.Frag} {W : Wd} {B : Addr → Prop} {H : Hp} {vs zs : List V} {ds fs : List D} (e : W.K = K) (h1 : RpL W B H vs ds) (h2 : RpL W B H zs fs) : RpL W B H ((fun vs zs => (vs ++ (((zs.drop 0).take 1) ++ []))) vs zs) (gk_scaled_2_base ds fs) := h1.append (((h2.drop 0).take 1).append .nil)
theorem bgk_parted_2_base {K : PySem.W.Frag} {f : Addr} {fd : FuncData} (F : FunD K Hd.d13.name Hd.d13.qual Hd.d13.params Hd.d13.body Hd.d13.scope (Hd.d13.dvs K) (Hd.d13.kws K) f fd) : ∃ g, KBn K fd ["row", "limb", "base"] 2 ["base"] g (fun vs zs => (vs ++ (((zs.drop 0).take 1) ++ []))) := ⟨_, kbAll F 2 ["base"] (fun us ws => (us ++ (((ws.drop 0).take 1) ++ []))) (fun r1 r2 => r1.append (((r2.drop 0).take 1).append .nil)) fun kV doc pm an cdv ct us ws h1 h2 => match us, h1, ws, h2 with | [_, _], _, [_], _ => rfl⟩
theorem rgk_parted_2_base {K : PySem.W.Frag} {W : Wd} {B : Addr → Prop} {H : Hp} {vs zs : List V} {ds fs : List D} (e : W.K = K) (h1 : RpL W B H vs ds) (h2 : RpL W B H zs fs) : RpL W B H ((fun vs zs => (vs ++ (((zs.drop 0).take 1) ++ []))) vs zs) (gk_parted_2_base ds fs) := h1.append (((h2.drop 0).take 1).append .nil)
theorem b_column_sums {K : PySem.W.Frag} {f : Addr} {fd : FuncData} (F : FunD K Hd.d14.name Hd.d14.qual Hd.d14.params Hd.d14.body Hd.d14.scope (Hd.d14.dvs K) (Hd.d14.kws K) f fd) : Binds K fd ["one", "other"] [] := FunD.bindsN F fun kV doc pm an cdv ct us hl => match us, hl with | [_, _], _ => rfl
theorem b_carried {K : PySem.W.Frag} {f : Addr} {fd : FuncData} (F : FunD K Hd.d15.name Hd.d15.qual Hd.d15.params Hd.d15.body Hd.d15.scope (Hd.d15.dvs K) (Hd.d15.kws K) f fd) : Binds K fd ["sums", "base"] [] := FunD.bindsN F fun kV doc pm an cdv ct us hl => match us, hl with | [_, _], _ => rfl
theorem bgk_plain_product_2_base {K : PySem.W.Frag} {f : Addr} {fd : FuncData} (F : FunD K Hd.d16.name Hd.d16.qual Hd.d16.params Hd.d16.body Hd.d16.scope (Hd.d16.dvs K) (Hd.d16.kws K) f fd) : ∃ g, KBn K fd ["one", "other", "base"] 2 ["base"] g (fun vs zs => (vs ++ (((zs.drop 0).take 1) ++ []))) := ⟨_, kbAll F 2 ["base"] (fun us ws => (us ++ (((ws.drop 0).take 1) ++ []))) (fun r1 r2 => r1.append (((r2.drop 0).take 1).append .nil)) fun kV doc pm an cdv ct us ws h1 h2 => match us, h1, ws, h2 with | [_, _], _, [_], _ => rfl⟩
theorem rgk_plain_product_2_base {K : PySem.W.Frag} {W : Wd} {B : Addr → Prop} {H : Hp} {vs zs : List V} {ds fs : List D} (e : W.K = K) (h1 : RpL W B H vs ds) (h2 : RpL W B H zs fs) : RpL W B H ((fun vs zs => (vs ++ (((zs.drop 0).take 1) ++ []))) vs zs) (gk_plain_product_2_base ds fs) := h1.append (((h2.drop 0).take 1).append .nil)
theorem bgk_base_power_1_into_base {K : PySem.W.Frag} {f : Addr} {fd : FuncData} (F : FunD K Hd.d17.name Hd.d17.qual Hd.d17.params Hd.d17.body Hd.d17.scope (Hd.d17.dvs K) (Hd.d17.kws K) f fd) : ∃ g, KBn K fd ["many", "into", "base"] 1 ["into", "base"] g (fun vs zs => (vs ++ (((zs.drop 0).take 1) ++ (((zs.drop 1).take 1) ++ [])))) := ⟨_, kbAll F 1 ["into", "base"] (fun us ws => (us ++ (((ws.drop 0).take 1) ++ (((ws.drop 1).take 1) ++ [])))) (fun r1 r2 => r1.append (((r2.drop 0).take 1).append (((r2.drop 1).take 1).append .nil))) fun kV doc pm an cdv ct us ws h1 h2 => match us, h1, ws, h2 with | [_], _, [_, _], _ => rfl⟩
theorem rgk_base_power_1_into_base {K : PySem.W.Frag} {W : Wd} {B : Addr → Prop} {H : Hp} {vs zs : List V} {ds fs : List D} (e : W.K = K) (h1 : RpL W B H vs ds) (h2 : RpL W B H zs fs) : RpL W B H ((fun vs zs => (vs ++ (((zs.drop 0).take 1) ++ (((zs.drop 1).take 1) ++ [])))) vs zs) (gk_base_power_1_into_base ds fs) := h1.append (((h2.drop 0).take 1).append (((h2.drop 1).take 1).append .nil))
theorem bgk_rebased_1_base_into {K : PySem.W.Frag} {f : Addr} {fd : FuncData} (F : FunD K Hd.d18.name Hd.d18.qual Hd.d18.params Hd.d18.body Hd.d18.scope (Hd.d18.dvs K) (Hd.d18.kws K) f fd) : ∃ g, KBn K fd ["row", "into", "base"] 1 ["base", "into"] g (fun vs zs => (vs ++ (((zs.drop 1).take 1) ++ (((zs.drop 0).take 1) ++ [])))) := ⟨_, kbAll F 1 ["base", "into"] (fun us ws => (us ++ (((ws.drop 1).take 1) ++ (((ws.drop 0).take 1) ++ [])))) (fun r1 r2 => r1.append (((r2.drop 1).take 1).append (((r2.drop 0).take 1).append .nil))) fun kV doc pm an cdv ct us ws h1 h2 => match us, h1, ws, h2 with | [_], _, [_, _], _ => rfl⟩
theorem rgk_rebased_1_base_into {K : PySem.W.Frag} {W : Wd} {B : Addr → Prop} {H : Hp} {vs zs : List V} {ds fs : List D} (e : W.K = K) (h1 : RpL W B H vs ds) (h2 : RpL W B H zs fs) : RpL W B H ((fun vs zs => (vs ++ (((zs.drop 1).take 1) ++ (((zs.drop 0).take 1) ++ [])))) vs zs) (gk_rebased_1_base_into ds fs) := h1.append (((h2.drop 1).take 1).append (((h2.drop 0).take 1).append .nil))
theorem bgk_rebased_1_into_base {K : PySem.W.Frag} {f : Addr} {fd : FuncData} (F : FunD K Hd.d18.name Hd.d18.qual Hd.d18.params Hd.d18.body Hd.d18.scope (Hd.d18.dvs K) (Hd.d18.kws K) f fd) : ∃ g, KBn K fd ["row", "into", "base"] 1 ["into", "base"] g (fun vs zs => (vs ++ (((zs.drop 0).take 1) ++ (((zs.drop 1).take 1) ++ [])))) := ⟨_, kbAll F 1 ["into", "base"] (fun us ws => (us ++ (((ws.drop 0).take 1) ++ (((ws.drop 1).take 1) ++ [])))) (fun r1 r2 => r1.append (((r2.drop 0).take 1).append (((r2.drop 1).take 1).append .nil))) fun kV doc pm an cdv ct us ws h1 h2 => match us, h1, ws, h2 with | [_], _, [_, _], _ => rfl⟩
theorem rgk_rebased_1_into_base {K : PySem.W.Frag} {W : Wd} {B : Addr → Prop} {H : Hp} {vs zs : List V} {ds fs : List D} (e : W.K = K) (h1 : RpL W B H vs ds) (h2 : RpL W B H zs fs) : RpL W B H ((fun vs zs => (vs ++ (((zs.drop 0).take 1) ++ (((zs.drop 1).take 1) ++ [])))) vs zs) (gk_rebased_1_into_base ds fs) := h1.append (((h2.drop 0).take 1).append (((h2.drop 1).take 1).append .nil))
theorem bgk_rebased_1_into {K : PySem.W.Frag} {f : Addr} {fd : FuncData} (F : FunD K Hd.d18.name Hd.d18.qual Hd.d18.params Hd.d18.body Hd.d18.scope (Hd.d18.dvs K) (Hd.d18.kws K) f fd) : ∃ g, KBn K fd ["row", "into", "base"] 1 ["into"] g (fun vs zs => (vs ++ (((zs.drop 0).take 1) ++ ((((([("base", .int 10)] : List (Str × V)).map (·.2)).drop 0).take 1) ++ [])))) := let ⟨_, z⟩ := FunD.kbinds0 F 1 ["into"] [("base", .int 10)] (fun us mv ws => (us ++ (((ws.drop 0).take 1) ++ (((mv.drop 0).take 1) ++ [])))) (by simp [Hd.d18, He.DefD.kws]) (by simp [Hd.d18, He.DefD.kws, He.Dv.v]) (fun r1 rm r2 => r1.append (((r2.drop 0).take 1).append (((rm.drop 0).take 1).append .nil))) (fun D doc pm an cdv ct us mv ws h1 hm h2 => match us, h1, mv, hm, ws, h2 with | [_], _, [_], _, [_], _ => ⟨_, _, _, _, _, _, rfl, rfl, (show (_ : Sem _) = _ from rfl)⟩); ⟨_, z⟩
theorem rgk_rebased_1_into {K : PySem.W.Frag} {W : Wd} {B : Addr → Prop} {H : Hp} {vs zs : List V} {ds fs : List D} (e : W.K = K) (h1 : RpL W B H vs ds) (h2 : RpL W B H zs fs) : RpL W B H ((fun vs zs => (vs ++ (((zs.drop 0).take 1) ++ ((((([("base", .int 10)] : List (Str × V)).map (·.2)).drop 0).take 1) ++ [])))) vs zs) (gk_rebased_1_into ds fs) := h1.append (((h2.drop 0).take 1).append ((show RpL W B H [.int 10] [.int 10] from .cons (.int _) .nil).append .nil))
theorem b_guess_of {K : PySem.W.Frag} {f : Addr} {fd : FuncData} (F : FunD K Hd.d19.name Hd.d19.qual Hd.d19.params Hd.d19.body Hd.d19.scope (Hd.d19.dvs K) (Hd.d19.kws K) f fd) : Binds K fd ["row", "other", "base"] [] := FunD.bindsN F fun kV doc pm an cdv ct us hl => match us, hl with | [_, _, _], _ => rfl
theorem b_turns_of {K : PySem.W.Frag} {f : Addr} {fd : FuncData} (F : FunD K Hd.d20.name Hd.d20.qual Hd.d20.params Hd.d20.body Hd.d20.scope (Hd.d20.dvs K) (Hd.d20.kws K) f fd) : Binds K fd ["one", "other", "base"] [] := FunD.bindsN F fun kV doc pm an cdv ct us hl => match us, hl with | [_, _, _], _ => rfl
theorem b_lifted {K : PySem.W.Frag} {f : Addr} {fd : FuncData} (F : FunD K Hd.d21.name Hd.d21.qual Hd.d21.params Hd.d21.body Hd.d21.scope (Hd.d21.dvs K) (Hd.d21.kws K) f fd) : Binds K fd ["one", "other", "base"] [] := FunD.bindsN F fun kV doc pm an cdv ct us hl => match us, hl with | [_, _, _], _ => rfl
theorem bgk_divided_2_base {K : PySem.W.Frag} {f : Addr} {fd : FuncData} (F : FunD K Hd.d22.name Hd.d22.qual Hd.d22.params Hd.d22.body Hd.d22.scope (Hd.d22.dvs K) (Hd.d22.kws K) f fd) : ∃ g, KBn K fd ["one", "other", "base"] 2 ["base"] g (fun vs zs => (vs ++ (((zs.drop 0).take 1) ++ []))) := ⟨_, kbAll F 2 ["base"] (fun us ws => (us ++ (((ws.drop 0).take 1) ++ []))) (fun r1 r2 => r1.append (((r2.drop 0).take 1).append .nil)) fun kV doc pm an cdv ct us ws h1 h2 => match us, h1, ws, h2 with | [_, _], _, [_], _ => rfl⟩
theorem rgk_divided_2_base {K : PySem.W.Frag} {W : Wd} {B : Addr → Prop} {H : Hp} {vs zs : List V} {ds fs : List D} (e : W.K = K) (h1 : RpL W B H vs ds) (h2 : RpL W B H zs fs) : RpL W B H ((fun vs zs => (vs ++ (((zs.drop 0).take 1) ++ []))) vs zs) (gk_divided_2_base ds fs) := h1.append (((h2.drop 0).take 1).append .nil)
theorem b_limbs_text {K : PySem.W.Frag} {f : Addr} {fd : FuncData} (F : FunD K Hd.d23.name Hd.d23.qual Hd.d23.params Hd.d23.body Hd.d23.scope (Hd.d23.dvs K) (Hd.d23.kws K) f fd) : Binds K fd ["row"] [] := FunD.bindsN F fun kV doc pm an cdv ct us hl => match us, hl with | [_], _ => rfl
theorem bgk_Long_1_base_below {K : PySem.W.Frag} {f : Addr} {fd : FuncData} (F : FunD K Hd.d24.name Hd.d24.qual Hd.d24.params Hd.d24.body Hd.d24.scope (Hd.d24.dvs K) (Hd.d24.kws K) f fd) : ∃ g, KBn K fd ["self", "row", "base", "below"] 2 ["base", "below"] g (fun vs zs => (vs ++ (((zs.drop 0).take 1) ++ (((zs.drop 1).take 1) ++ [])))) := let ⟨_, z⟩ := FunD.kbindsD F 2 ["base", "below"] (fun us its ws => (us ++ (((ws.drop 0).take 1) ++ (((ws.drop 1).take 1) ++ [])))) (by simp [Hd.d24, He.DefD.dvs]) (fun r1 rd r2 => r1.append (((r2.drop 0).take 1).append (((r2.drop 1).take 1).append .nil))) (fun T kV doc pm an cdv ct us its ws h1 hd h2 => match us, h1, its, hd, ws, h2 with | [_, _], _, [_], _, [_, _], _ => ⟨_, rfl, rfl⟩); ⟨_, z⟩
theorem rgk_Long_1_base_below {K : PySem.W.Frag} {W : Wd} {B : Addr → Prop} {H : Hp} {y : V} {vs zs : List V} {ds fs : List D} (e : W.K = K) (h1 : RpL W B H vs ds) (h2 : RpL W B H zs fs) : ∃ vs', (fun vs zs => (vs ++ (((zs.drop 0).take 1) ++ (((zs.drop 1).take 1) ++ [])))) (y :: vs) zs = y :: vs' ∧ RpL W B H vs' (gk_Long_1_base_below ds fs) := ⟨_, rfl, h1.append (((h2.drop 0).take 1).append (((h2.drop 1).take 1).append .nil))⟩
theorem bgk_Long_1_base {K : PySem.W.Frag} {f : Addr} {fd : FuncData} (F : FunD K Hd.d24.name Hd.d24.qual Hd.d24.params Hd.d24.body Hd.d24.scope (Hd.d24.dvs K) (Hd.d24.kws K) f fd) : ∃ g, KBn K fd ["self", "row", "base", "below"] 2 ["base"] g (fun vs zs => (vs ++ (((zs.drop 0).take 1) ++ ((((([("below", .bl false)] : List (Str × V)).map (·.2)).drop 0).take 1) ++ [])))) := let ⟨_, _, z⟩ := FunD.kbinds F 2 ["base"] [("below", .bl false)] (fun us its mv ws => (us ++ (((ws.drop 0).take 1) ++ (((mv.drop 0).take 1) ++ [])))) (by simp [Hd.d24, He.DefD.dvs]) (by simp [Hd.d24, He.DefD.kws]) (by simp [Hd.d24, He.DefD.kws, He.Dv.v]) (fun r1 rd rm r2 => r1.append (((r2.drop 0).take 1).append (((rm.drop 0).take 1).append .nil))) (fun T D doc pm an cdv ct us its mv ws h1 hd hm h2 => match us, h1, its, hd, mv, hm, ws, h2 with | [_, _], _, [_], _, [_], _, [_], _ => ⟨_, rfl, ⟨_, _, _, _, _, _, rfl, rfl, (show (_ : Sem _) = _ from rfl)⟩⟩); ⟨_, z⟩
theorem rgk_Long_1_base {K : PySem.W.Frag} {W : Wd} {B : Addr → Prop} {H : Hp} {y : V} {vs zs : List V} {ds fs : List D} (e : W.K = K) (h1 : RpL W B H vs ds) (h2 : RpL W B H zs fs) : ∃ vs', (fun vs zs => (vs ++ (((zs.drop 0).take 1) ++ ((((([("below", .bl false)] : List (Str × V)).map (·.2)).drop 0).take 1) ++ [])))) (y :: vs) zs = y :: vs' ∧ RpL W B H vs' (gk_Long_1_base ds fs) := ⟨_, rfl, h1.append (((h2.drop 0).take 1).append ((show RpL W B H [.bl false] [.bl false] from .cons (.bl _) .nil).append .nil))⟩
theorem bgk_Long_1_below_base {K : PySem.W.Frag} {f : Addr} {fd : FuncData} (F : FunD K Hd.d24.name Hd.d24.qual Hd.d24.params Hd.d24.body Hd.d24.scope (Hd.d24.dvs K) (Hd.d24.kws K) f fd) : ∃ g, KBn K fd ["self", "row", "base", "below"] 2 ["below", "base"] g (fun vs zs => (vs ++ (((zs.drop 1).take 1) ++ (((zs.drop 0).take 1) ++ [])))) := let ⟨_, z⟩ := FunD.kbindsD F 2 ["below", "base"] (fun us its ws => (us ++ (((ws.drop 1).take 1) ++ (((ws.drop 0).take 1) ++ [])))) (by simp [Hd.d24, He.DefD.dvs]) (fun r1 rd r2 => r1.append (((r2.drop 1).take 1).append (((r2.drop 0).take 1).append .nil))) (fun T kV doc pm an cdv ct us its ws h1 hd h2 => match us, h1, its, hd, ws, h2 with | [_, _], _, [_], _, [_, _], _ => ⟨_, rfl, rfl⟩); ⟨_, z⟩
theorem rgk_Long_1_below_base {K : PySem.W.Frag} {W : Wd} {B : Addr → Prop} {H : Hp} {y : V} {vs zs : List V} {ds fs : List D} (e : W.K = K) (h1 : RpL W B H vs ds) (h2 : RpL W B H zs fs) : ∃ vs', (fun vs zs => (vs ++ (((zs.drop 1).take 1) ++ (((zs.drop 0).take 1) ++ [])))) (y :: vs) zs = y :: vs' ∧ RpL W B H vs' (gk_Long_1_below_base ds fs) := ⟨_, rfl, h1.append (((h2.drop 1).take 1).append (((h2.drop 0).take 1).append .nil))⟩
theorem b_Long_eq {K : PySem.W.Frag} {f : Addr} {fd : FuncData} (F : FunD K Hd.d26.name Hd.d26.qual Hd.d26.params Hd.d26.body Hd.d26.scope (Hd.d26.dvs K) (Hd.d26.kws K) f fd) : Binds K fd ["self", "other"] [] := FunD.bindsN F fun kV doc pm an cdv ct us hl => match us, hl with | [_, _], _ => rfl
theorem b_Long_str {K : PySem.W.Frag} {f : Addr} {fd : FuncData} (F : FunD K Hd.d27.name Hd.d27.qual Hd.d27.params Hd.d27.body Hd.d27.scope (Hd.d27.dvs K) (Hd.d27.kws K) f fd) : Binds K fd ["self"] [] := FunD.bindsN F fun kV doc pm an cdv ct us hl => match us, hl with | [_], _ => rfl
theorem b_Long_repr {K : PySem.W.Frag} {f : Addr} {fd : FuncData} (F : FunD K Hd.d28.name Hd.d28.qual Hd.d28.params Hd.d28.body Hd.d28.scope (Hd.d28.dvs K) (Hd.d28.kws K) f fd) : Binds K fd ["self"] [] := FunD.bindsN F fun kV doc pm an cdv ct us hl => match us, hl with | [_], _ => rfl
theorem b_Long_must_be_alike {K : PySem.W.Frag} {f : Addr} {fd : FuncData} (F : FunD K Hd.d29.name Hd.d29.qual Hd.d29.params Hd.d29.body Hd.d29.scope (Hd.d29.dvs K) (Hd.d29.kws K) f fd) : Binds K fd ["self", "other"] [] := FunD.bindsN F fun kV doc pm an cdv ct us hl => match us, hl with | [_, _], _ => rfl
theorem b_Long_plus {K : PySem.W.Frag} {f : Addr} {fd : FuncData} (F : FunD K Hd.d30.name Hd.d30.qual Hd.d30.params Hd.d30.body Hd.d30.scope (Hd.d30.dvs K) (Hd.d30.kws K) f fd) : Binds K fd ["self", "other"] [] := FunD.bindsN F fun kV doc pm an cdv ct us hl => match us, hl with | [_, _], _ => rfl
theorem b_Long_minus {K : PySem.W.Frag} {f : Addr} {fd : FuncData} (F : FunD K Hd.d31.name Hd.d31.qual Hd.d31.params Hd.d31.body Hd.d31.scope (Hd.d31.dvs K) (Hd.d31.kws K) f fd) : Binds K fd ["self", "other"] [] := FunD.bindsN F fun kV doc pm an cdv ct us hl => match us, hl with | [_, _], _ => rfl
theorem b_Long_times {K : PySem.W.Frag} {f : Addr} {fd : FuncData} (F : FunD K Hd.d32.name Hd.d32.qual Hd.d32.params Hd.d32.body Hd.d32.scope (Hd.d32.dvs K) (Hd.d32.kws K) f fd) : Binds K fd ["self", "other"] [] := FunD.bindsN F fun kV doc pm an cdv ct us hl => match us, hl with | [_, _], _ => rfl
theorem b_Long_over {K : PySem.W.Frag} {f : Addr} {fd : FuncData} (F : FunD K Hd.d33.name Hd.d33.qual Hd.d33.params Hd.d33.body Hd.d33.scope (Hd.d33.dvs K) (Hd.d33.kws K) f fd) : Binds K fd ["self", "other"] [] := FunD.bindsN F fun kV doc pm an cdv ct us hl => match us, hl with | [_, _], _ => rfl
theorem b_number_in {K : PySem.W.Frag} {f : Addr} {fd : FuncData} (F : FunD K Hd.d34.name Hd.d34.qual Hd.d34.params Hd.d34.body Hd.d34.scope (Hd.d34.dvs K) (Hd.d34.kws K) f fd) : Binds K fd ["word"] [] := FunD.bindsN F fun kV doc pm an cdv ct us hl => match us, hl with | [_], _ => rfl
theorem b_limbs_in {K : PySem.W.Frag} {f : Addr} {fd : FuncData} (F : FunD K Hd.d35.name Hd.d35.qual Hd.d35.params Hd.d35.body Hd.d35.scope (Hd.d35.dvs K) (Hd.d35.kws K) f fd) : Binds K fd ["text"] [] := FunD.bindsN F fun kV doc pm an cdv ct us hl => match us, hl with | [_], _ => rfl
theorem b_read_long {K : PySem.W.Frag} {f : Addr} {fd : FuncData} (F : FunD K Hd.d36.name Hd.d36.qual Hd.d36.params Hd.d36.body Hd.d36.scope (Hd.d36.dvs K) (Hd.d36.kws K) f fd) : Binds K fd ["text"] [] := FunD.bindsN F fun kV doc pm an cdv ct us hl => match us, hl with | [_], _ => rfl
theorem bgk_figures_of_1_base {K : PySem.W.Frag} {f : Addr} {fd : FuncData} (F : FunD K Hd.d37.name Hd.d37.qual Hd.d37.params Hd.d37.body Hd.d37.scope (Hd.d37.dvs K) (Hd.d37.kws K) f fd) : ∃ g, KBn K fd ["row", "base"] 1 ["base"] g (fun vs zs => (vs ++ (((zs.drop 0).take 1) ++ []))) := ⟨_, kbAll F 1 ["base"] (fun us ws => (us ++ (((ws.drop 0).take 1) ++ []))) (fun r1 r2 => r1.append (((r2.drop 0).take 1).append .nil)) fun kV doc pm an cdv ct us ws h1 h2 => match us, h1, ws, h2 with | [_], _, [_], _ => rfl⟩
theorem rgk_figures_of_1_base {K : PySem.W.Frag} {W : Wd} {B : Addr → Prop} {H : Hp} {vs zs : List V} {ds fs : List D} (e : W.K = K) (h1 : RpL W B H vs ds) (h2 : RpL W B H zs fs) : RpL W B H ((fun vs zs => (vs ++ (((zs.drop 0).take 1) ++ []))) vs zs) (gk_figures_of_1_base ds fs) := h1.append (((h2.drop 0).take 1).append .nil)
theorem bgk_read_figures_1_base {K : PySem.W.Frag} {f : Addr} {fd : FuncData} (F : FunD K Hd.d38.name Hd.d38.qual Hd.d38.params Hd.d38.body Hd.d38.scope (Hd.d38.dvs K) (Hd.d38.kws K) f fd) : ∃ g, KBn K fd ["text", "base"] 1 ["base"] g (fun vs zs => (vs ++ (((zs.drop 0).take 1) ++ []))) := ⟨_, kbAll F 1 ["base"] (fun us ws => (us ++ (((ws.drop 0).take 1) ++ []))) (fun r1 r2 => r1.append (((r2.drop 0).take 1).append .nil)) fun kV doc pm an cdv ct us ws h1 h2 => match us, h1, ws, h2 with | [_], _, [_], _ => rfl⟩
theorem rgk_read_figures_1_base {K : PySem.W.Frag} {W : Wd} {B : Addr → Prop} {H : Hp} {vs zs : List V} {ds fs : List D} (e : W.K = K) (h1 : RpL W B H vs ds) (h2 : RpL W B H zs fs) : RpL W B H ((fun vs zs => (vs ++ (((zs.drop 0).take 1) ++ []))) vs zs) (gk_read_figures_1_base ds fs) := h1.append (((h2.drop 0).take 1).append .nil)
theorem b__law_deck {K : PySem.W.Frag} {f : Addr} {fd : FuncData} (F : FunD K Hd.d39.name Hd.d39.qual Hd.d39.params Hd.d39.body Hd.d39.scope (Hd.d39.dvs K) (Hd.d39.kws K) f fd) : Binds K fd ["_law_script"] [] := FunD.bindsN F fun kV doc pm an cdv ct us hl => match us, hl with | [_], _ => rfl
theorem b__law_draw {K : PySem.W.Frag} {f : Addr} {fd : FuncData} (F : FunD K Hd.d40.name Hd.d40.qual Hd.d40.params Hd.d40.body Hd.d40.scope (Hd.d40.dvs K) (Hd.d40.kws K) f fd) : Binds K fd ["_law_deck_here", "_law_most"] [] := FunD.bindsN F fun kV doc pm an cdv ct us hl => match us, hl with | [_, _], _ => rfl
theorem b__law_any_base {K : PySem.W.Frag} {f : Addr} {fd : FuncData} (F : FunD K Hd.d41.name Hd.d41.qual Hd.d41.params Hd.d41.body Hd.d41.scope (Hd.d41.dvs K) (Hd.d41.kws K) f fd) : Binds K fd ["_law_deck_here"] [] := FunD.bindsN F fun kV doc pm an cdv ct us hl => match us, hl with | [_], _ => rfl
theorem b__law_row {K : PySem.W.Frag} {f : Addr} {fd : FuncData} (F : FunD K Hd.d42.name Hd.d42.qual Hd.d42.params Hd.d42.body Hd.d42.scope (Hd.d42.dvs K) (Hd.d42.kws K) f fd) : Binds K fd ["_law_deck_here", "_law_to", "_law_most"] [] := FunD.bindsN F fun kV doc pm an cdv ct us hl => match us, hl with | [_, _, _], _ => rfl
theorem b__law_worth {K : PySem.W.Frag} {f : Addr} {fd : FuncData} (F : FunD K Hd.d43.name Hd.d43.qual Hd.d43.params Hd.d43.body Hd.d43.scope (Hd.d43.dvs K) (Hd.d43.kws K) f fd) : Binds K fd ["_law_limbs", "_law_to"] [] := FunD.bindsN F fun kV doc pm an cdv ct us hl => match us, hl with | [_, _], _ => rfl
theorem b__law_row_of {K : PySem.W.Frag} {f : Addr} {fd : FuncData} (F : FunD K Hd.d44.name Hd.d44.qual Hd.d44.params Hd.d44.body Hd.d44.scope (Hd.d44.dvs K) (Hd.d44.kws K) f fd) : Binds K fd ["_law_rest", "_law_to"] [] := FunD.bindsN F fun kV doc pm an cdv ct us hl => match us, hl with | [_, _], _ => rfl
theorem b__law_texts_right {K : PySem.W.Frag} {f : Addr} {fd : FuncData} (F : FunD K Hd.d45.name Hd.d45.qual Hd.d45.params Hd.d45.body Hd.d45.scope (Hd.d45.dvs K) (Hd.d45.kws K) f fd) : Binds K fd ["_law_row_here", "_law_to", "_law_sign"] [] := FunD.bindsN F fun kV doc pm an cdv ct us hl => match us, hl with | [_, _, _], _ => rfl
theorem b__law_put_right {K : PySem.W.Frag} {f : Addr} {fd : FuncData} (F : FunD K Hd.d46.name Hd.d46.qual Hd.d46.params Hd.d46.body Hd.d46.scope (Hd.d46.dvs K) (Hd.d46.kws K) f fd) : Binds K fd ["_law_row_here", "_law_to", "_law_far_to", "_law_sign"] [] := FunD.bindsN F fun kV doc pm an cdv ct us hl => match us, hl with | [_, _, _, _], _ => rfl
theorem b__law_told {K : PySem.W.Frag} {f : Addr} {fd : FuncData} (F : FunD K Hd.d47.name Hd.d47.qual Hd.d47.params Hd.d47.body Hd.d47.scope (Hd.d47.dvs K) (Hd.d47.kws K) f fd) : Binds K fd ["_law_x", "_law_y", "_law_to"] [] := FunD.bindsN F fun kV doc pm an cdv ct us hl => match us, hl with | [_, _, _], _ => rfl
theorem b__law_same_there {K : PySem.W.Frag} {f : Addr} {fd : FuncData} (F : FunD K Hd.d48.name Hd.d48.qual Hd.d48.params Hd.d48.body Hd.d48.scope (Hd.d48.dvs K) (Hd.d48.kws K) f fd) : Binds K fd ["_law_x", "_law_y", "_law_to", "_law_far_to"] [] := FunD.bindsN F fun kV doc pm an cdv ct us hl => match us, hl with | [_, _, _, _], _ => rfl
theorem b__law_long_there {K : PySem.W.Frag} {f : Addr} {fd : FuncData} (F : FunD K Hd.d49.name Hd.d49.qual Hd.d49.params Hd.d49.body Hd.d49.scope (Hd.d49.dvs K) (Hd.d49.kws K) f fd) : Binds K fd ["_law_long", "_law_far_to"] [] := FunD.bindsN F fun kV doc pm an cdv ct us hl => match us, hl with | [_, _], _ => rfl
theorem b__law_longs_right {K : PySem.W.Frag} {f : Addr} {fd : FuncData} (F : FunD K Hd.d50.name Hd.d50.qual Hd.d50.params Hd.d50.body Hd.d50.scope (Hd.d50.dvs K) (Hd.d50.kws K) f fd) : Binds K fd ["_law_first", "_law_second", "_law_far_to"] [] := FunD.bindsN F fun kV doc pm an cdv ct us hl => match us, hl with | [_, _, _], _ => rfl
theorem b_law {K : PySem.W.Frag} {f : Addr} {fd : FuncData} (F : FunD K Hd.d51.name Hd.d51.qual Hd.d51.params Hd.d51.body Hd.d51.scope (Hd.d51.dvs K) (Hd.d51.kws K) f fd) : Binds K fd ["_law_script"] [] := FunD.bindsN F fun kV doc pm an cdv ct us hl => match us, hl with | [_], _ => rfl
section
variable {P : Program} {w : World} {K : PySem.W.Frag} {mg : Str → Option Value} {base : Heap}
theorem sc_is_whole : FnScope ["thing"] ["thing"] (defScope Hd.s1) := ⟨rfl, rfl, rfl, by decide +kernel, rfl, by decide +kernel, by decide +kernel⟩
theorem c_is_whole (h : Fx K mg base) : Cal P w K mg base Hd.d1 1 ["thing"] (spD K mg S_is_whole) := by
  obtain ⟨fd, F⟩ := h.c.def_ 1 (d := Hd.d1) rfl
  have nd := sc_is_whole.nd
  exact ⟨_, fd, F, h.gl_is_whole, fnD (T := T_is_whole) F sc_is_whole (fun _ => rfl) 1 rfl (fun cdv A outer st H E hr => (dss_one (ds_ret ((de_and (de_isT h.fr_isinstance h.fr_int boot_int' (by decide) (de_var 0) boot_isinstance') (de_one (de_not (de_isT h.fr_isinstance h.fr_bool boot_bool' (by decide) (de_var 0) boot_isinstance'))))).dv))) ok_is_whole⟩
theorem sc_is_base : FnScope ["thing"] ["thing"] (defScope Hd.s2) := ⟨rfl, rfl, rfl, by decide +kernel, rfl, by decide +kernel, by decide +kernel⟩
theorem c_is_base (h : Fx K mg base) : Cal P w K mg base Hd.d2 2 ["thing"] (spD K mg S_is_base) := by
  obtain ⟨fd, F⟩ := h.c.def_ 2 (d := Hd.d2) rfl
  have nd := sc_is_base.nd
  exact ⟨_, fd, F, h.gl_is_base, fnD (T := T_is_base) F sc_is_base (fun _ => rfl) 1 rfl (fun cdv A outer st H E hr => (dss_one (ds_ret ((de_and (dx_call (c_is_whole h) hr (by decide) (fun F => ⟨[], .nil, b_is_whole F⟩) (da_cons (de_var 0) da_nil)) (de_one (de_chain do_le do_le (de_gint h.gi_LEAST_BASE) (de_var 0) (de_gint h.gi_MOST_BASE))))).dv))) ok_is_base⟩
theorem sc_is_row : FnScope ["thing", "base", "limb"] ["thing", "base"] (defScope Hd.s3) := ⟨rfl, rfl, rfl, by decide +kernel, rfl, by decide +kernel, by decide +kernel⟩
theorem c_is_row (h : Fx K mg base) : Cal P w K mg base Hd.d3 2 ["thing", "base"] (spD K mg S_is_row) := by
  obtain ⟨fd, F⟩ := h.c.def_ 3 (d := Hd.d3) rfl
  have nd := sc_is_row.nd
  exact ⟨_, fd, F, h.gl_is_row, fnD (T := T_is_row) F sc_is_row (fun _ => rfl) 3 rfl (fun cdv A outer st H E hr => (dss_cons (ds_if ((dw_or (db_not (db_val (de_isT h.fr_isinstance h.fr_tuple boot_tuple' (by decide) (de_var 0) boot_isinstance'))) (dw_or1 (db_not (db_val (de_callB (dc_all rfl) h.fr_all boot_all' (daw_cons ((df_lc (own := [("limb", 2)]) rfl nd (di_seq (de_var 0)) (show BlkOk ["thing", "base", "limb"] (defScope Hd.s3) _ _ from ⟨rfl, by decide +kernel, by decide +kernel, by decide +kernel, by decide +kernel⟩) (fun _ => (dw_name 2 nd)) (fun _ => dps_nil) (fun _ => (de_and (dx_call (c_is_whole h) hr (by decide) (fun F => ⟨[], .nil, b_is_whole F⟩) (da_cons (de_var 2) da_nil)) (de_one (de_chain do_le do_lt de_int (de_var 2) (de_var 1))))))).dv daw_nil))))))).db (dss_one (ds_ret (de_bl).dv)) dss_nil) (dss_one (ds_ret ((de_or (de_cmp (do_eq hr.r) (de_var 0) (de_tup da_nil)) (de_one (de_cmp (do_ne hr.r) (de_ix ((de_var 0)).dv (de_neg de_int)) de_int)))).dv)))) ok_is_row⟩
theorem sc_row_of : FnScope ["number", "base", "limbs"] ["number", "base"] (defScope Hd.s4) := ⟨rfl, rfl, rfl, by decide +kernel, rfl, by decide +kernel, by decide +kernel⟩
theorem c_row_of (h : Fx K mg base) : Cal P w K mg base Hd.d4 1 ["number", "base"] (spD K mg S_row_of) := by
  obtain ⟨fd, F⟩ := h.c.def_ 4 (d := Hd.d4) rfl
  have nd := sc_row_of.nd
  exact ⟨_, fd, F, h.gl_row_of, fnD (T := T_row_of) F sc_row_of (fun _ => rfl) 3 rfl (fun cdv A outer st H E hr => (dss_cons (ds_setO 2 nd (df_lst da_nil)) (dss_cons (ds_while .leaving (db_cmp do_gt (de_var 0) de_int) (dss_cons (ds_app 2 (de_bin do_mod (de_var 0) (de_var 1)) (pn := pv 2)) (dss_one (ds_augDiv 0 nd (de_var 1))))) (dss_one (ds_ret ((de_callTy dc_tuple h.fr_tuple boot_tuple' (daw_cons (dv_var 2) daw_nil))).dv))))) ok_row_of⟩
theorem sc_worth_of : FnScope ["row", "base", "number", "limb"] ["row", "base"] (defScope Hd.s5) := ⟨rfl, rfl, rfl, by decide +kernel, rfl, by decide +kernel, by decide +kernel⟩
theorem c_worth_of (h : Fx K mg base) : Cal P w K mg base Hd.d5 1 ["row", "base"] (spD K mg S_worth_of) := by
  obtain ⟨fd, F⟩ := h.c.def_ 5 (d := Hd.d5) rfl
  have nd := sc_worth_of.nd
  exact ⟨_, fd, F, h.gl_worth_of, fnD (T := T_worth_of) F sc_worth_of (fun _ => rfl) 4 rfl (fun cdv A outer st H E hr => (dss_cons (ds_set 2 nd de_int) (dss_cons (ds_for .leaving rfl (di_seq (de_rev (de_var 0))) (dg_name 3 nd) (dss_one (ds_set 2 nd (de_bin do_add (de_bin do_mul (de_var 2) (de_var 1)) (de_var 3))))) (dss_one (ds_ret ((de_var 2)).dv))))) ok_worth_of⟩
theorem sc_without_noughts : FnScope ["limbs", "many"] ["limbs"] (defScope Hd.s6) := ⟨rfl, rfl, rfl, by decide +kernel, rfl, by decide +kernel, by decide +kernel⟩
theorem c_without_noughts (h : Fx K mg base) : Cal P w K mg base Hd.d6 1 ["limbs"] (spD K mg S_without_noughts) := by
  obtain ⟨fd, F⟩ := h.c.def_ 6 (d := Hd.d6) rfl
  have nd := sc_without_noughts.nd
  exact ⟨_, fd, F, h.gl_without_noughts, fnD (T := T_without_noughts) F sc_without_noughts (fun _ => rfl) 2 rfl (fun cdv A outer st H E hr => (dss_cons (ds_set 1 nd (de_callB dc_len h.fr_len boot_len' (daw_cons ((de_var 0)).dv daw_nil))) (dss_cons (ds_while .leaving ((dw_and (db_cmp do_gt (de_var 1) de_int) (dw_and1 (db_cmp (do_eq hr.r) (de_ix ((de_var 0)).dv (de_bin do_sub (de_var 1) de_int)) de_int)))).db (dss_one (ds_augSub 1 nd de_int))) (dss_one (ds_ret ((de_callTy dc_tuple h.fr_tuple boot_tuple' (daw_cons ((de_slA (de_var 0) dpt_none (dpt_some (de_var 1)))).dv daw_nil))).dv))))) ok_without_noughts⟩
theorem sc_limb_at : FnScope ["row", "place"] ["row", "place"] (defScope Hd.s7) := ⟨rfl, rfl, rfl, by decide +kernel, rfl, by decide +kernel, by decide +kernel⟩
theorem c_limb_at (h : Fx K mg base) : Cal P w K mg base Hd.d7 1 ["row", "place"] (spD K mg S_limb_at) := by
  obtain ⟨fd, F⟩ := h.c.def_ 7 (d := Hd.d7) rfl
  have nd := sc_limb_at.nd
  exact ⟨_, fd, F, h.gl_limb_at, fnD (T := T_limb_at) F sc_limb_at (fun _ => rfl) 2 rfl (fun cdv A outer st H E hr => (dss_cons (ds_if (db_cmp do_lt (de_var 1) (de_callB dc_len h.fr_len boot_len' (daw_cons ((de_var 0)).dv daw_nil))) (dss_one (ds_ret ((de_ix ((de_var 0)).dv (de_var 1))).dv)) dss_nil) (dss_one (ds_ret (de_int).dv)))) ok_limb_at⟩
theorem sc_is_less : FnScope ["one", "other"] ["one", "other"] (defScope Hd.s8) := ⟨rfl, rfl, rfl, by decide +kernel, rfl, by decide +kernel, by decide +kernel⟩
theorem c_is_less (h : Fx K mg base) : Cal P w K mg base Hd.d8 1 ["one", "other"] (spD K mg S_is_less) := by
  obtain ⟨fd, F⟩ := h.c.def_ 8 (d := Hd.d8) rfl
  have nd := sc_is_less.nd
  exact ⟨_, fd, F, h.gl_is_less, fnD (T := T_is_less) F sc_is_less (fun _ => rfl) 2 rfl (fun cdv A outer st H E hr => (dss_cons (ds_if (db_cmp (do_ne hr.r) (de_callB dc_len h.fr_len boot_len' (daw_cons ((de_var 0)).dv daw_nil)) (de_callB dc_len h.fr_len boot_len' (daw_cons ((de_var 1)).dv daw_nil))) (dss_one (ds_ret ((de_cmp do_lt (de_callB dc_len h.fr_len boot_len' (daw_cons ((de_var 0)).dv daw_nil)) (de_callB dc_len h.fr_len boot_len' (daw_cons ((de_var 1)).dv daw_nil)))).dv)) dss_nil) (dss_one (ds_ret ((de_cmp (do_ltT hr.r) (de_rev (de_var 0)) (de_rev (de_var 1)))).dv)))) ok_is_less⟩
theorem sc_summed : FnScope ["one", "other", "base", "limbs", "carry", "place", "limb"] ["one", "other", "base"] (defScope Hd.s9) := ⟨rfl, rfl, rfl, by decide +kernel, rfl, by decide +kernel, by decide +kernel⟩
theorem c_summed (h : Fx K mg base) : Cal P w K mg base Hd.d9 2 ["one", "other", "base"] (spD K mg S_summed) := by
  obtain ⟨fd, F⟩ := h.c.def_ 9 (d := Hd.d9) rfl
  have nd := sc_summed.nd
  exact ⟨_, fd, F, h.gl_summed, fnD (T := T_summed) F sc_summed (fun _ => rfl) 7 rfl (fun cdv A outer st H E hr => (dss_cons (ds_setO 3 nd (df_lst da_nil)) (dss_cons (ds_set 4 nd de_int) (dss_cons (ds_for .leaving rfl (di_range1 h.fr_range (da_cons (de_callB (dc_max2 rfl) h.fr_max boot_max' (daw_cons ((de_callB dc_len h.fr_len boot_len' (daw_cons ((de_var 0)).dv daw_nil))).dv (daw_cons ((de_callB dc_len h.fr_len boot_len' (daw_cons ((de_var 1)).dv daw_nil))).dv daw_nil))) da_nil) (pp := fun z => pi_range1 (by rfl) h.fr_range z)) (dg_name 5 nd) (dss_cons (ds_asg (de_callB dc_divmod h.fr_divmod boot_divmod' (daw_cons ((de_bin do_add (de_bin do_add (dx_call (c_limb_at h) hr (by decide) (fun F => ⟨[], .nil, b_limb_at F⟩) (da_cons (de_var 0) (da_cons (de_var 5) da_nil))) (dx_call (c_limb_at h) hr (by decide) (fun F => ⟨[], .nil, b_limb_at F⟩) (da_cons (de_var 1) (da_cons (de_var 5) da_nil)))) (de_var 4))).dv (daw_cons ((de_var 2)).dv daw_nil))) (dg_tup rfl (dgs_cons (dg_name 4 nd) (dgs_cons (dg_name 6 nd) dgs_nil)))) (dss_one (ds_app 3 (de_var 6) (pn := pv 3))))) (dss_one (ds_ret ((de_callTy dc_tuple h.fr_tuple boot_tuple' (daw_cons ((df_cat (dv_var 3) ((df_rep ((df_lst (da_cons de_int da_nil))).dv (de_var 4))).dv)).dv daw_nil))).dv)))))) ok_summed⟩
theorem sc_lessened : FnScope ["one", "other", "base", "limbs", "lent", "place", "limb", "here"] ["one", "other", "base"] (defScope Hd.s10) := ⟨rfl, rfl, rfl, by decide +kernel, rfl, by decide +kernel, by decide +kernel⟩
theorem c_lessened (h : Fx K mg base) : Cal P w K mg base Hd.d10 2 ["one", "other", "base"] (spD K mg S_lessened) := by
  obtain ⟨fd, F⟩ := h.c.def_ 10 (d := Hd.d10) rfl
  have nd := sc_lessened.nd
  exact ⟨_, fd, F, h.gl_lessened, fnD (T := T_lessened) F sc_lessened (fun _ => rfl) 8 rfl (fun cdv A outer st H E hr => (dss_cons (ds_if (db_val (dx_call (c_is_less h) hr (by decide) (fun F => ⟨[], .nil, b_is_less F⟩) (da_cons (de_var 0) (da_cons (de_var 1) da_nil)))) (dss_one ds_never) dss_nil) (dss_cons (ds_setO 3 nd (df_lst da_nil)) (dss_cons (ds_set 4 nd de_int) (dss_cons (ds_for .leaving rfl (di_enum h.fr_enumerate (da_cons (de_var 0) da_nil)) (dg_tup rfl (dgs_cons (dg_name 5 nd) (dgs_cons (dg_name 6 nd) dgs_nil))) (dss_cons (ds_set 7 nd (de_bin do_sub (de_bin do_sub (de_var 6) (dx_call (c_limb_at h) hr (by decide) (fun F => ⟨[], .nil, b_limb_at F⟩) (da_cons (de_var 1) (da_cons (de_var 5) da_nil)))) (de_var 4))) (dss_cons (ds_set 4 nd (de_callTy dc_int h.fr_int boot_int' (daw_cons ((de_cmp do_lt (de_var 7) de_int)).dv daw_nil))) (dss_one (ds_app 3 (de_bin do_add (de_var 7) (de_bin do_mul (de_var 4) (de_var 2))) (pn := pv 3)))))) (dss_frz 3 (dss_one (ds_ret ((dx_call (c_without_noughts h) hr (by decide) (fun F => ⟨[], .nil, b_without_noughts F⟩) (da_cons (de_var 3) da_nil))).dv)))))))) ok_lessened⟩
theorem sc_cut_at : FnScope ["row", "many"] ["row", "many"] (defScope Hd.s11) := ⟨rfl, rfl, rfl, by decide +kernel, rfl, by decide +kernel, by decide +kernel⟩
theorem c_cut_at (h : Fx K mg base) : Cal P w K mg base Hd.d11 2 ["row", "many"] (spD K mg S_cut_at) := by
  obtain ⟨fd, F⟩ := h.c.def_ 11 (d := Hd.d11) rfl
  have nd := sc_cut_at.nd
  exact ⟨_, fd, F, h.gl_cut_at, fnD (T := T_cut_at) F sc_cut_at (fun _ => rfl) 2 rfl (fun cdv A outer st H E hr => (dss_one (ds_ret ((de_tup (da_cons (dx_call (c_without_noughts h) hr (by decide) (fun F => ⟨[], .nil, b_without_noughts F⟩) (da_cons (de_sl (de_var 0) dpt_none (dpt_some (de_var 1))) da_nil)) (da_cons (de_sl (de_var 0) (dpt_some (de_var 1)) dpt_none) da_nil)))).dv))) ok_cut_at⟩
theorem sc_scaled : FnScope ["row", "limb", "base", "limbs", "carry", "one", "here"] ["row", "limb", "base"] (defScope Hd.s12) := ⟨rfl, rfl, rfl, by decide +kernel, rfl, by decide +kernel, by decide +kernel⟩
theorem c_scaled (h : Fx K mg base) : Cal P w K mg base Hd.d12 2 ["row", "limb", "base"] (spD K mg S_scaled) := by
  obtain ⟨fd, F⟩ := h.c.def_ 12 (d := Hd.d12) rfl
  have nd := sc_scaled.nd
  exact ⟨_, fd, F, h.gl_scaled, fnD (T := T_scaled) F sc_scaled (fun _ => rfl) 7 rfl (fun cdv A outer st H E hr => (dss_cons (ds_setO 3 nd (df_lst da_nil)) (dss_cons (ds_set 4 nd de_int) (dss_cons (ds_for .leaving rfl (di_seq (de_var 0)) (dg_name 5 nd) (dss_cons (ds_asg (de_callB dc_divmod h.fr_divmod boot_divmod' (daw_cons ((de_bin do_add (de_bin do_mul (de_var 5) (de_var 1)) (de_var 4))).dv (daw_cons ((de_var 2)).dv daw_nil))) (dg_tup rfl (dgs_cons (dg_name 4 nd) (dgs_cons (dg_name 6 nd) dgs_nil)))) (dss_one (ds_app 3 (de_var 6) (pn := pv 3))))) (dss_one (ds_ret ((dx_call (c_without_noughts h) hr (by decide) (fun F => ⟨[], .nil, b_without_noughts F⟩) (da_cons ((df_cat (dv_var 3) ((df_lst (da_cons (de_var 4) da_nil))).dv)).de da_nil))).dv)))))) ok_scaled⟩
theorem sc_parted : FnScope ["row", "limb", "base", "limbs", "rest", "here", "one"] ["row", "limb", "base"] (defScope Hd.s13) := ⟨rfl, rfl, rfl, by decide +kernel, rfl, by decide +kernel, by decide +kernel⟩
theorem c_parted (h : Fx K mg base) : Cal P w K mg base Hd.d13 2 ["row", "limb", "base"] (spD K mg S_parted) := by
  obtain ⟨fd, F⟩ := h.c.def_ 13 (d := Hd.d13) rfl
  have nd := sc_parted.nd
  exact ⟨_, fd, F, h.gl_parted, fnD (T := T_parted) F sc_parted (fun _ => rfl) 7 rfl (fun cdv A outer st H E hr => (dss_cons (ds_setO 3 nd (df_lst da_nil)) (dss_cons (ds_set 4 nd de_int) (dss_cons (ds_for .leaving rfl (di_seq (de_rev (de_var 0))) (dg_name 5 nd) (dss_cons (ds_asg (de_callB dc_divmod h.fr_divmod boot_divmod' (daw_cons ((de_bin do_add (de_bin do_mul (de_var 4) (de_var 2)) (de_var 5))).dv (daw_cons ((de_var 1)).dv daw_nil))) (dg_tup rfl (dgs_cons (dg_name 6 nd) (dgs_cons (dg_name 4 nd) dgs_nil)))) (dss_one (ds_app 3 (de_var 6) (pn := pv 3))))) (dss_one (ds_ret ((de_tup (da_cons (dx_call (c_without_noughts h) hr (by decide) (fun F => ⟨[], .nil, b_without_noughts F⟩) (da_cons ((df_rev (dv_var 3))).de da_nil)) (da_cons (de_var 4) da_nil)))).dv)))))) ok_parted⟩
theorem sc_column_sums : FnScope ["one", "other", "found", "i", "limb", "j", "more"] ["one", "other"] (defScope Hd.s14) := ⟨rfl, rfl, rfl, by decide +kernel, rfl, by decide +kernel, by decide +kernel⟩
theorem c_column_sums (h : Fx K mg base) : Cal P w K mg base Hd.d14 1 ["one", "other"] (spD K mg S_column_sums) := by
  obtain ⟨fd, F⟩ := h.c.def_ 14 (d := Hd.d14) rfl
  have nd := sc_column_sums.nd
  exact ⟨_, fd, F, h.gl_column_sums, fnD (T := T_column_sums) F sc_column_sums (fun _ => rfl) 7 rfl (fun cdv A outer st H E hr => (dss_cons (ds_if ((dw_or (db_cmp (do_eq hr.r) (de_var 0) (de_tup da_nil)) (dw_or1 (db_cmp (do_eq hr.r) (de_var 1) (de_tup da_nil))))).db (dss_one (ds_ret ((de_tup da_nil)).dv)) dss_nil) (dss_cons (ds_setO 2 nd (df_rep ((df_lst (da_cons de_int da_nil))).dv (de_bin do_sub (de_bin do_add (de_callB dc_len h.fr_len boot_len' (daw_cons ((de_var 0)).dv daw_nil)) (de_callB dc_len h.fr_len boot_len' (daw_cons ((de_var 1)).dv daw_nil))) de_int))) (dss_cons (ds_for .leaving rfl (di_enum h.fr_enumerate (da_cons (de_var 0) da_nil)) (dg_tup rfl (dgs_cons (dg_name 3 nd) (dgs_cons (dg_name 4 nd) dgs_nil))) (dss_one (ds_for .leaving rfl (di_enum h.fr_enumerate (da_cons (de_var 1) da_nil)) (dg_tup rfl (dgs_cons (dg_name 5 nd) (dgs_cons (dg_name 6 nd) dgs_nil))) (dss_one (ds_augIx 2 ip_add (de_bin do_add (de_var 3) (de_var 5)) (de_bin do_mul (de_var 4) (de_var 6)) (pn := pv 2) (pp := fun h1 h2 h3 => ps_augS h1 h2 get_list h3 ip_add set_list)))))) (dss_one (ds_ret ((de_callTy dc_tuple h.fr_tuple boot_tuple' (daw_cons (dv_var 2) daw_nil))).dv)))))) ok_column_sums⟩
theorem sc_carried : FnScope ["sums", "base", "limbs", "carries", "carry", "number", "limb"] ["sums", "base"] (defScope Hd.s15) := ⟨rfl, rfl, rfl, by decide +kernel, rfl, by decide +kernel, by decide +kernel⟩
theorem c_carried (h : Fx K mg base) : Cal P w K mg base Hd.d15 1 ["sums", "base"] (spD K mg S_carried) := by
  obtain ⟨fd, F⟩ := h.c.def_ 15 (d := Hd.d15) rfl
  have nd := sc_carried.nd
  exact ⟨_, fd, F, h.gl_carried, fnD (T := T_carried) F sc_carried (fun _ => rfl) 7 rfl (fun cdv A outer st H E hr => (dss_cons (ds_setO 2 nd (df_lst da_nil)) (dss_cons (ds_setO 3 nd (df_lst da_nil)) (dss_cons (ds_set 4 nd de_int) (dss_cons (ds_for .leaving rfl (di_seq (de_var 0)) (dg_name 5 nd) (dss_cons (ds_asg (de_callB dc_divmod h.fr_divmod boot_divmod' (daw_cons ((de_bin do_add (de_var 4) (de_var 5))).dv (daw_cons ((de_var 1)).dv daw_nil))) (dg_tup rfl (dgs_cons (dg_name 4 nd) (dgs_cons (dg_name 6 nd) dgs_nil)))) (dss_cons (ds_app 2 (de_var 6) (pn := pv 2)) (dss_one (ds_app 3 (de_var 4) (pn := pv 3)))))) (dss_cons (ds_if (db_cmp do_gt (de_var 4) de_int) (dss_one (ds_app 2 (de_var 4) (pn := pv 2))) dss_nil) (dss_one (ds_ret ((de_tup (da_cons (de_callTy dc_tuple h.fr_tuple boot_tuple' (daw_cons (dv_var 2) daw_nil)) (da_cons (de_callTy dc_tuple h.fr_tuple boot_tuple' (daw_cons (dv_var 3) daw_nil)) da_nil)))).dv)))))))) ok_carried⟩
theorem sc_plain_product : FnScope ["one", "other", "base", "limbs", "carries"] ["one", "other", "base"] (defScope Hd.s16) := ⟨rfl, rfl, rfl, by decide +kernel, rfl, by decide +kernel, by decide +kernel⟩
theorem c_plain_product (h : Fx K mg base) : Cal P w K mg base Hd.d16 2 ["one", "other", "base"] (spD K mg S_plain_product) := by
  obtain ⟨fd, F⟩ := h.c.def_ 16 (d := Hd.d16) rfl
  have nd := sc_plain_product.nd
  exact ⟨_, fd, F, h.gl_plain_product, fnD (T := T_plain_product) F sc_plain_product (fun _ => rfl) 5 rfl (fun cdv A outer st H E hr => (dss_cons (ds_asg (dx_call (c_carried h) hr (by decide) (fun F => ⟨[], .nil, b_carried F⟩) (da_cons (dx_call (c_column_sums h) hr (by decide) (fun F => ⟨[], .nil, b_column_sums F⟩) (da_cons (de_var 0) (da_cons (de_var 1) da_nil))) (da_cons (de_var 2) da_nil))) (dg_tup rfl (dgs_cons (dg_name 3 nd) (dgs_cons (dg_name 4 nd) dgs_nil)))) (dss_one (ds_ret ((de_var 3)).dv)))) ok_plain_product⟩
theorem sc_base_power : FnScope ["many", "into", "base", "found", "factor"] ["many", "into", "base"] (defScope Hd.s17) := ⟨rfl, rfl, rfl, by decide +kernel, rfl, by decide +kernel, by decide +kernel⟩
theorem c_base_power (h : Fx K mg base) : Cal P w K mg base Hd.d17 3 ["many", "into", "base"] (spD K mg S_base_power) := by
  obtain ⟨fd, F⟩ := h.c.def_ 17 (d := Hd.d17) rfl
  have nd := sc_base_power.nd
  exact ⟨_, fd, F, h.gl_base_power, fnD (T := T_base_power) F sc_base_power (fun _ => rfl) 5 rfl (fun cdv A outer st H E hr => (dss_cons (ds_set 3 nd (de_tup (da_cons de_int da_nil))) (dss_cons (ds_set 4 nd (dx_callN (c_row_of h) hr (by decide) bgk_row_of_1_base (da_cons (de_var 2) da_nil) (dk_cons (de_var 1) dk_nil) rgk_row_of_1_base)) (dss_cons (ds_while .leaving (db_cmp do_gt (de_var 0) de_int) (dss_cons (ds_if (db_cmp (do_eq hr.r) (de_bin do_mod (de_var 0) de_int) de_int) (dss_one (ds_set 3 nd (dx_callN (c_plain_product h) hr (by decide) bgk_plain_product_2_base (da_cons (de_var 3) (da_cons (de_var 4) da_nil)) (dk_cons (de_var 1) dk_nil) rgk_plain_product_2_base))) dss_nil) (dss_cons (ds_augDiv 0 nd de_int) (dss_one (ds_if (db_cmp do_gt (de_var 0) de_int) (dss_one (ds_set 4 nd (dx_callN (c_plain_product h) hr (by decide) bgk_plain_product_2_base (da_cons (de_var 4) (da_cons (de_var 4) da_nil)) (dk_cons (de_var 1) dk_nil) rgk_plain_product_2_base))) dss_nil))))) (dss_one (ds_ret ((de_var 3)).dv)))))) ok_base_power⟩
theorem sc_rebased : FnScope ["row", "into", "base", "half", "part", "low", "high"] ["row", "into", "base"] (defScope Hd.s18) := ⟨rfl, rfl, rfl, by decide +kernel, rfl, by decide +kernel, by decide +kernel⟩
theorem c_rebased (h : Fx K mg base) : ∀ m : Nat, Cal P w K mg base Hd.d18 (4 + m) ["row", "into", "base"] (spD K mg (S_rebased m))
  | 0 => by
    obtain ⟨fd, F⟩ := h.c.def_ 18 (d := Hd.d18) rfl
    exact ⟨_, fd, F, h.gl_rebased, fnD (T := dNever) F sc_rebased (fun _ => rfl) 7 rfl (fun cdv A outer st H E hr => dss_never) (fun a q => absurd q (no_rebased a))⟩
  | m + 1 => by
    obtain ⟨fd, F⟩ := h.c.def_ 18 (d := Hd.d18) rfl
    have nd := sc_rebased.nd
    have ih := c_rebased h m
    exact ⟨_, fd, F, h.gl_rebased, fnD (T := T_rebased (S_rebased m)) F sc_rebased (fun _ => rfl) 7 rfl (fun cdv A outer st H E hr => (dss_cons (ds_if (db_cmp do_lt (de_callB dc_len h.fr_len boot_len' (daw_cons ((de_var 0)).dv daw_nil)) de_int) (dss_one (ds_ret ((dx_callN (c_row_of h) hr (Nat.le_trans (by decide) (Nat.le_add_right 4 m)) bgk_row_of_1_base (da_cons (de_callB (dc_sum rfl) h.fr_sum boot_sum' (daw_cons ((de_var 0)).dv daw_nil)) da_nil) (dk_cons (de_var 1) dk_nil) rgk_row_of_1_base)).dv)) dss_nil) (dss_cons (ds_set 3 nd (de_bin do_fdiv (de_callB dc_len h.fr_len boot_len' (daw_cons ((de_var 0)).dv daw_nil)) de_int)) (dss_cons (ds_asg ((df_lc (own := [("part", 4)]) rfl nd (di_seq (dx_call (c_cut_at h) hr (Nat.le_trans (by decide) (Nat.le_add_right 4 m)) (fun F => ⟨[], .nil, b_cut_at F⟩) (da_cons (de_var 0) (da_cons (de_var 3) da_nil)))) (show BlkOk ["row", "into", "base", "half", "part", "low", "high"] (defScope Hd.s18) _ _ from ⟨rfl, by decide +kernel, by decide +kernel, by decide +kernel, by decide +kernel⟩) (fun _ => (dw_name 4 nd)) (fun _ => dps_nil) (fun _ => (dx_callN ih hr (Nat.le_refl _) bgk_rebased_1_into_base (da_cons (de_var 4) da_nil) (dk_cons (de_var 1) (dk_cons (de_var 2) dk_nil)) rgk_rebased_1_into_base)))).de (dg_tup rfl (dgs_cons (dg_name 5 nd) (dgs_cons (dg_name 6 nd) dgs_nil)))) (dss_one (ds_ret ((dx_callN (c_summed h) hr (Nat.le_trans (by decide) (Nat.le_add_right 4 m)) bgk_summed_2_base (da_cons (dx_callN (c_plain_product h) hr (Nat.le_trans (by decide) (Nat.le_add_right 4 m)) bgk_plain_product_2_base (da_cons (de_var 6) (da_cons (dx_callN (c_base_power h) hr (Nat.le_trans (by decide) (Nat.le_add_right 4 m)) bgk_base_power_1_into_base (da_cons (de_var 3) da_nil) (dk_cons (de_var 1) (dk_cons (de_var 2) dk_nil)) rgk_base_power_1_into_base) da_nil)) (dk_cons (de_var 1) dk_nil) rgk_plain_product_2_base) (da_cons (de_var 5) da_nil)) (dk_cons (de_var 1) dk_nil) rgk_summed_2_base)).dv)))))) (ok_rebased m)⟩
theorem sc_guess_of : FnScope ["row", "other", "base", "top", "limb"] ["row", "other", "base"] (defScope Hd.s19) := ⟨rfl, rfl, rfl, by decide +kernel, rfl, by decide +kernel, by decide +kernel⟩
theorem c_guess_of (h : Fx K mg base) : Cal P w K mg base Hd.d19 1 ["row", "other", "base"] (spD K mg S_guess_of) := by
  obtain ⟨fd, F⟩ := h.c.def_ 19 (d := Hd.d19) rfl
  have nd := sc_guess_of.nd
  exact ⟨_, fd, F, h.gl_guess_of, fnD (T := T_guess_of) F sc_guess_of (fun _ => rfl) 5 rfl (fun cdv A outer st H E hr => (dss_cons (ds_set 3 nd de_int) (dss_cons (ds_for .leaving rfl (di_rev h.fr_reversed (de_sl (de_var 0) (dpt_some (de_bin do_sub (de_callB dc_len h.fr_len boot_len' (daw_cons ((de_var 1)).dv daw_nil)) de_int)) dpt_none)) (dg_name 4 nd) (dss_one (ds_set 3 nd (de_bin do_add (de_bin do_mul (de_var 3) (de_var 2)) (de_var 4))))) (dss_one (ds_ret ((de_callB (dc_min2 rfl) h.fr_min boot_min' (daw_cons ((de_bin do_sub (de_var 2) de_int)).dv (daw_cons ((de_bin do_fdiv (de_var 3) (de_ix ((de_var 1)).dv (de_neg de_int)))).dv daw_nil)))).dv))))) ok_guess_of⟩
theorem sc_turns_of : FnScope ["one", "other", "base", "found", "rest", "limb", "row", "guess", "often", "product"] ["one", "other", "base"] (defScope Hd.s20) := ⟨rfl, rfl, rfl, by decide +kernel, rfl, by decide +kernel, by decide +kernel⟩
theorem c_turns_of (h : Fx K mg base) : Cal P w K mg base Hd.d20 3 ["one", "other", "base"] (spD K mg S_turns_of) := by
  obtain ⟨fd, F⟩ := h.c.def_ 20 (d := Hd.d20) rfl
  have nd := sc_turns_of.nd
  exact ⟨_, fd, F, h.gl_turns_of, fnD (T := T_turns_of) F sc_turns_of (fun _ => rfl) 10 rfl (fun cdv A outer st H E hr => (dss_cons (ds_setO 3 nd (df_lst da_nil)) (dss_cons (ds_set 4 nd (de_tup da_nil)) (dss_cons (ds_for .leaving rfl (di_seq (de_rev (de_var 0))) (dg_name 5 nd) (dss_cons (ds_set 6 nd (dx_call (c_without_noughts h) hr (by decide) (fun F => ⟨[], .nil, b_without_noughts F⟩) (da_cons (de_bin do_add (de_tup (da_cons (de_var 5) da_nil)) (de_var 4)) da_nil))) (dss_cons (ds_asg2 (dx_call (c_guess_of h) hr (by decide) (fun F => ⟨[], .nil, b_guess_of F⟩) (da_cons (de_var 6) (da_cons (de_var 1) (da_cons (de_var 2) da_nil)))) (dg_name 7 nd) (dg_name 8 nd)) (dss_cons (ds_set 9 nd (dx_callN (c_scaled h) hr (by decide) bgk_scaled_2_base (da_cons (de_var 1) (da_cons (de_var 8) da_nil)) (dk_cons (de_var 2) dk_nil) rgk_scaled_2_base)) (dss_cons (ds_while .leaving (db_val (dx_call (c_is_less h) hr (by decide) (fun F => ⟨[], .nil, b_is_less F⟩) (da_cons (de_var 6) (da_cons (de_var 9) da_nil)))) (dss_cons (ds_augSub 8 nd de_int) (dss_one (ds_set 9 nd (dx_callN (c_lessened h) hr (by decide) bgk_lessened_2_base (da_cons (de_var 9) (da_cons (de_var 1) da_nil)) (dk_cons (de_var 2) dk_nil) rgk_lessened_2_base))))) (dss_cons (ds_set 4 nd (dx_callN (c_lessened h) hr (by decide) bgk_lessened_2_base (da_cons (de_var 6) (da_cons (de_var 9) da_nil)) (dk_cons (de_var 2) dk_nil) rgk_lessened_2_base)) (dss_one (ds_app 3 (de_tup (da_cons (de_var 7) (da_cons (de_var 8) (da_cons (de_var 4) da_nil)))) (pn := pv 3))))))))) (dss_one (ds_ret (dv_var 3))))))) ok_turns_of⟩
theorem sc_lifted : FnScope ["one", "other", "base", "limb"] ["one", "other", "base"] (defScope Hd.s21) := ⟨rfl, rfl, rfl, by decide +kernel, rfl, by decide +kernel, by decide +kernel⟩
theorem c_lifted (h : Fx K mg base) : Cal P w K mg base Hd.d21 3 ["one", "other", "base"] (spD K mg S_lifted) := by
  obtain ⟨fd, F⟩ := h.c.def_ 21 (d := Hd.d21) rfl
  have nd := sc_lifted.nd
  exact ⟨_, fd, F, h.gl_lifted, fnD (T := T_lifted) F sc_lifted (fun _ => rfl) 4 rfl (fun cdv A outer st H E hr => (dss_cons (ds_set 3 nd (de_bin do_fdiv (de_var 2) (de_bin do_add (de_ix ((de_var 1)).dv (de_neg de_int)) de_int))) (dss_one (ds_ret ((de_tup (da_cons (de_var 3) (da_cons (dx_callN (c_scaled h) hr (by decide) bgk_scaled_2_base (da_cons (de_var 0) (da_cons (de_var 3) da_nil)) (dk_cons (de_var 2) dk_nil) rgk_scaled_2_base) (da_cons (dx_callN (c_scaled h) hr (by decide) bgk_scaled_2_base (da_cons (de_var 1) (da_cons (de_var 3) da_nil)) (dk_cons (de_var 2) dk_nil) rgk_scaled_2_base) da_nil))))).dv)))) ok_lifted⟩
theorem sc_divided : FnScope ["one", "other", "base", "limb", "much", "by", "rest", "limbs", "guess", "often"] ["one", "other", "base"] (defScope Hd.s22) := ⟨rfl, rfl, rfl, by decide +kernel, rfl, by decide +kernel, by decide +kernel⟩
theorem c_divided (h : Fx K mg base) : Cal P w K mg base Hd.d22 4 ["one", "other", "base"] (spD K mg S_divided) := by
  obtain ⟨fd, F⟩ := h.c.def_ 22 (d := Hd.d22) rfl
  have nd := sc_divided.nd
  exact ⟨_, fd, F, h.gl_divided, fnD (T := T_divided) F sc_divided (fun _ => rfl) 10 rfl (fun cdv A outer st H E hr => (dss_cons (ds_if (db_cmp (do_eq hr.r) (de_var 1) (de_tup da_nil)) (dss_one ds_never) dss_nil) (dss_cons (ds_asg (dx_call (c_lifted h) hr (by decide) (fun F => ⟨[], .nil, b_lifted F⟩) (da_cons (de_var 0) (da_cons (de_var 1) (da_cons (de_var 2) da_nil)))) (dg_tup rfl (dgs_cons (dg_name 3 nd) (dgs_cons (dg_name 4 nd) (dgs_cons (dg_name 5 nd) dgs_nil))))) (dss_cons (ds_set 6 nd (de_tup da_nil)) (dss_cons (ds_setO 7 nd (df_lst da_nil)) (dss_cons (ds_for .leaving rfl (di_seq (dx_call (c_turns_of h) hr (by decide) (fun F => ⟨[], .nil, b_turns_of F⟩) (da_cons (de_var 4) (da_cons (de_var 5) (da_cons (de_var 2) da_nil))))) (dg_tup rfl (dgs_cons (dg_name 8 nd) (dgs_cons (dg_name 9 nd) (dgs_cons (dg_name 6 nd) dgs_nil)))) (dss_one (ds_app 7 (de_var 9) (pn := pv 7)))) (dss_one (ds_ret ((de_tup (da_cons (dx_call (c_without_noughts h) hr (by decide) (fun F => ⟨[], .nil, b_without_noughts F⟩) (da_cons ((df_rev (dv_var 7))).de da_nil)) (da_cons (de_ix ((dx_callN (c_parted h) hr (by decide) bgk_parted_2_base (da_cons (de_var 6) (da_cons (de_var 3) da_nil)) (dk_cons (de_var 2) dk_nil) rgk_parted_2_base)).dv de_int) da_nil)))).dv)))))))) ok_divided⟩
theorem sc_limbs_text : FnScope ["row", "limb"] ["row"] (defScope Hd.s23) := ⟨rfl, rfl, rfl, by decide +kernel, rfl, by decide +kernel, by decide +kernel⟩
theorem c_limbs_text (h : Fx K mg base) : Cal P w K mg base Hd.d23 1 ["row"] (spD K mg S_limbs_text) := by
  obtain ⟨fd, F⟩ := h.c.def_ 23 (d := Hd.d23) rfl
  have nd := sc_limbs_text.nd
  exact ⟨_, fd, F, h.gl_limbs_text, fnD (T := T_limbs_text) F sc_limbs_text (fun _ => rfl) 2 rfl (fun cdv A outer st H E hr => (dss_one (ds_ret ((de_orS (de_join de_str ((df_lc (own := [("limb", 1)]) rfl nd (di_seq (de_rev (de_var 0))) (show BlkOk ["row", "limb"] (defScope Hd.s23) _ _ from ⟨rfl, by decide +kernel, by decide +kernel, by decide +kernel, by decide +kernel⟩) (fun _ => (dw_name 1 nd)) (fun _ => dps_nil) (fun _ => (de_callTy dc_str h.fr_str boot_str' (daw_cons ((de_var 1)).dv daw_nil))))).dv) (de_one de_str))).dv))) ok_limbs_text⟩
theorem sc_Long_init : FnScope ["self", "row", "base", "below"] ["self", "row", "base", "below"] (defScope Hd.s24) := ⟨rfl, rfl, rfl, by decide +kernel, rfl, by decide +kernel, by decide +kernel⟩
theorem c_Long_init (h : Fx K mg base) : CalI P w K mg base Hd.d24 "Long" (He.ga K "Long") 1 ["self", "row", "base", "below"] S_Long_init := by
  obtain ⟨fd, F⟩ := h.c.def_ 24 (d := Hd.d24) rfl
  have nd := sc_Long_init.nd
  exact ⟨_, fd, F, h.Long_mk, fnI (L := L_Long_init) F sc_Long_init h.Long_g (fun _ => rfl) 4 rfl (by decide) (fun cdv A outer st H E hr => (di_cons h.Long_cl h.Long_na_row (de_var 1) (di_cons h.Long_cl h.Long_na_base (de_var 2) (di_cons h.Long_cl h.Long_na_below (de_and (de_var 3) (de_one (de_cmp (do_ne hr.r) (de_var 1) (de_tup da_nil)))) di_nil)))) ok_Long_init⟩
theorem sc_Long_eq : FnScope ["self", "other"] ["self", "other"] (defScope Hd.s26) := ⟨rfl, rfl, rfl, by decide +kernel, rfl, by decide +kernel, by decide +kernel⟩
theorem c_Long_eq (h : Fx K mg base) : CalM P w K mg base Hd.d26 (He.ga K "Long") 1 ["self", "other"] (spD K mg S_Long_eq) := by
  obtain ⟨fd, F⟩ := h.c.def_ 26 (d := Hd.d26) rfl
  have nd := sc_Long_eq.nd
  exact ⟨_, fd, F, h.mt_Long_eq, fnD (T := T_Long_eq) F sc_Long_eq (fun _ => rfl) 2 rfl (fun cdv A outer st H E hr => (dss_cons (ds_if (db_not (db_val (de_isC h.fr_isinstance h.Long_g h.Long_ic (de_var 1) boot_isinstance'))) (dss_one (ds_ret (de_bl).dv)) dss_nil) (dss_one (ds_ret ((de_cmp (do_eq hr.r) (de_tup (da_cons (de_fld h.Long_g h.Long_cl h.Long_na_row (de_var 0)) (da_cons (de_fld h.Long_g h.Long_cl h.Long_na_base (de_var 0)) (da_cons (de_fld h.Long_g h.Long_cl h.Long_na_below (de_var 0)) da_nil)))) (de_tup (da_cons (de_fld h.Long_g h.Long_cl h.Long_na_row (de_var 1)) (da_cons (de_fld h.Long_g h.Long_cl h.Long_na_base (de_var 1)) (da_cons (de_fld h.Long_g h.Long_cl h.Long_na_below (de_var 1)) da_nil)))))).dv)))) ok_Long_eq⟩
theorem sc_Long_str : FnScope ["self", "sign"] ["self"] (defScope Hd.s27) := ⟨rfl, rfl, rfl, by decide +kernel, rfl, by decide +kernel, by decide +kernel⟩
theorem c_Long_str (h : Fx K mg base) : CalM P w K mg base Hd.d27 (He.ga K "Long") 2 ["self"] (spD K mg S_Long_str) := by
  obtain ⟨fd, F⟩ := h.c.def_ 27 (d := Hd.d27) rfl
  have nd := sc_Long_str.nd
  exact ⟨_, fd, F, h.mt_Long_str, fnD (T := T_Long_str) F sc_Long_str (fun _ => rfl) 2 rfl (fun cdv A outer st H E hr => (dss_cons (ds_set 1 nd (de_if (db_val (de_fld h.Long_g h.Long_cl h.Long_na_below (de_var 0))) de_str de_str)) (dss_one (ds_ret ((de_joined (.cons (de_fmt (de_var 1)) (.cons (de_fmt (dx_call (c_limbs_text h) hr (by decide) (fun F => ⟨[], .nil, b_limbs_text F⟩) (da_cons (de_fld h.Long_g h.Long_cl h.Long_na_row (de_var 0)) da_nil))) (.cons de_str (.cons (de_fmt (de_fld h.Long_g h.Long_cl h.Long_na_base (de_var 0))) .nil)))))).dv)))) ok_Long_str⟩
theorem sc_Long_repr : FnScope ["self"] ["self"] (defScope Hd.s28) := ⟨rfl, rfl, rfl, by decide +kernel, rfl, by decide +kernel, by decide +kernel⟩
theorem c_Long_repr (h : Fx K mg base) : CalM P w K mg base Hd.d28 (He.ga K "Long") 5 ["self"] (spD K mg S_Long_repr) := by
  obtain ⟨fd, F⟩ := h.c.def_ 28 (d := Hd.d28) rfl
  have nd := sc_Long_repr.nd
  exact ⟨_, fd, F, h.mt_Long_repr, fnD (T := T_Long_repr) F sc_Long_repr (fun _ => rfl) 1 rfl (fun cdv A outer st H E hr => (dss_one (ds_ret ((de_joined (.cons de_str (.cons (de_fmt (de_callTy (dx_ownStr h.Long_g (c_Long_str h) hr (by decide) b_Long_str) h.fr_str boot_str' (daw_cons ((de_var 0)).dv daw_nil))) (.cons de_str .nil))))).dv))) ok_Long_repr⟩
theorem sc_Long_must_be_alike : FnScope ["self", "other"] ["self", "other"] (defScope Hd.s29) := ⟨rfl, rfl, rfl, by decide +kernel, rfl, by decide +kernel, by decide +kernel⟩
theorem c_Long_must_be_alike (h : Fx K mg base) : CalM P w K mg base Hd.d29 (He.ga K "Long") 1 ["self", "other"] (spD K mg S_Long_must_be_alike) := by
  obtain ⟨fd, F⟩ := h.c.def_ 29 (d := Hd.d29) rfl
  have nd := sc_Long_must_be_alike.nd
  exact ⟨_, fd, F, h.mt_Long_must_be_alike, fnD (T := T_Long_must_be_alike) F sc_Long_must_be_alike (fun _ => rfl) 2 rfl (fun cdv A outer st H E hr => (dss_one (ds_if (db_cmp (do_ne hr.r) (de_fld h.Long_g h.Long_cl h.Long_na_base (de_var 0)) (de_fld h.Long_g h.Long_cl h.Long_na_base (de_var 1))) (dss_one ds_never) dss_nil))) ok_Long_must_be_alike⟩
theorem sc_Long_plus : FnScope ["self", "other", "great", "small", "row"] ["self", "other"] (defScope Hd.s30) := ⟨rfl, rfl, rfl, by decide +kernel, rfl, by decide +kernel, by decide +kernel⟩
theorem c_Long_plus (h : Fx K mg base) : CalM P w K mg base Hd.d30 (He.ga K "Long") 3 ["self", "other"] (spD K mg S_Long_plus) := by
  obtain ⟨fd, F⟩ := h.c.def_ 30 (d := Hd.d30) rfl
  have nd := sc_Long_plus.nd
  exact ⟨_, fd, F, h.mt_Long_plus, fnD (T := T_Long_plus) F sc_Long_plus (fun _ => rfl) 5 rfl (fun cdv A outer st H E hr => (dss_cons (ds_expr (dx_meth h.Long_g h.Long_cl (c_Long_must_be_alike h) hr (by decide) b_Long_must_be_alike (de_var 0) (da_cons (de_var 1) da_nil))) (dss_cons (ds_par 2 3 rfl nd (de_var 0) (de_var 1) (pp := fun z => ps_par rfl nd rfl rfl (by decide) rfl rfl z rfl)) (dss_cons (ds_if (db_val (dx_call (c_is_less h) hr (by decide) (fun F => ⟨[], .nil, b_is_less F⟩) (da_cons (de_fld h.Long_g h.Long_cl h.Long_na_row (de_var 0)) (da_cons (de_fld h.Long_g h.Long_cl h.Long_na_row (de_var 1)) da_nil)))) (dss_one (ds_par 2 3 rfl nd (de_var 1) (de_var 0) (pp := fun z => ps_par rfl nd rfl rfl (by decide) rfl rfl z rfl))) dss_nil) (dss_cons (ds_if (db_cmp (do_eq hr.r) (de_fld h.Long_g h.Long_cl h.Long_na_below (de_var 0)) (de_fld h.Long_g h.Long_cl h.Long_na_below (de_var 1))) (dss_one (ds_set 4 nd (dx_callN (c_summed h) hr (by decide) bgk_summed_2_base (da_cons (de_fld h.Long_g h.Long_cl h.Long_na_row (de_var 2)) (da_cons (de_fld h.Long_g h.Long_cl h.Long_na_row (de_var 3)) da_nil)) (dk_cons (de_fld h.Long_g h.Long_cl h.Long_na_base (de_var 0)) dk_nil) rgk_summed_2_base))) (dss_one (ds_set 4 nd (dx_callN (c_lessened h) hr (by decide) bgk_lessened_2_base (da_cons (de_fld h.Long_g h.Long_cl h.Long_na_row (de_var 2)) (da_cons (de_fld h.Long_g h.Long_cl h.Long_na_row (de_var 3)) da_nil)) (dk_cons (de_fld h.Long_g h.Long_cl h.Long_na_base (de_var 0)) dk_nil) rgk_lessened_2_base)))) (dss_one (ds_ret ((dx_make (c_Long_init h) hr (by decide) h.Long_g bgk_Long_1_base_below (da_cons (de_var 4) da_nil) (dk_cons (de_fld h.Long_g h.Long_cl h.Long_na_base (de_var 0)) (dk_cons (de_fld h.Long_g h.Long_cl h.Long_na_below (de_var 2)) dk_nil)) rgk_Long_1_base_below)).dv))))))) ok_Long_plus⟩
theorem sc_Long_minus : FnScope ["self", "other"] ["self", "other"] (defScope Hd.s31) := ⟨rfl, rfl, rfl, by decide +kernel, rfl, by decide +kernel, by decide +kernel⟩
theorem c_Long_minus (h : Fx K mg base) : CalM P w K mg base Hd.d31 (He.ga K "Long") 4 ["self", "other"] (spD K mg S_Long_minus) := by
  obtain ⟨fd, F⟩ := h.c.def_ 31 (d := Hd.d31) rfl
  have nd := sc_Long_minus.nd
  exact ⟨_, fd, F, h.mt_Long_minus, fnD (T := T_Long_minus) F sc_Long_minus (fun _ => rfl) 2 rfl (fun cdv A outer st H E hr => (dss_cons (ds_expr (dx_meth h.Long_g h.Long_cl (c_Long_must_be_alike h) hr (by decide) b_Long_must_be_alike (de_var 0) (da_cons (de_var 1) da_nil))) (dss_one (ds_ret ((dx_meth h.Long_g h.Long_cl (c_Long_plus h) hr (by decide) b_Long_plus (de_var 0) (da_cons (dx_make (c_Long_init h) hr (by decide) h.Long_g bgk_Long_1_base_below (da_cons (de_fld h.Long_g h.Long_cl h.Long_na_row (de_var 1)) da_nil) (dk_cons (de_fld h.Long_g h.Long_cl h.Long_na_base (de_var 1)) (dk_cons (de_not (de_fld h.Long_g h.Long_cl h.Long_na_below (de_var 1))) dk_nil)) rgk_Long_1_base_below) da_nil))).dv)))) ok_Long_minus⟩
theorem sc_Long_times : FnScope ["self", "other", "row"] ["self", "other"] (defScope Hd.s32) := ⟨rfl, rfl, rfl, by decide +kernel, rfl, by decide +kernel, by decide +kernel⟩
theorem c_Long_times (h : Fx K mg base) : CalM P w K mg base Hd.d32 (He.ga K "Long") 3 ["self", "other"] (spD K mg S_Long_times) := by
  obtain ⟨fd, F⟩ := h.c.def_ 32 (d := Hd.d32) rfl
  have nd := sc_Long_times.nd
  exact ⟨_, fd, F, h.mt_Long_times, fnD (T := T_Long_times) F sc_Long_times (fun _ => rfl) 3 rfl (fun cdv A outer st H E hr => (dss_cons (ds_expr (dx_meth h.Long_g h.Long_cl (c_Long_must_be_alike h) hr (by decide) b_Long_must_be_alike (de_var 0) (da_cons (de_var 1) da_nil))) (dss_cons (ds_set 2 nd (dx_callN (c_plain_product h) hr (by decide) bgk_plain_product_2_base (da_cons (de_fld h.Long_g h.Long_cl h.Long_na_row (de_var 0)) (da_cons (de_fld h.Long_g h.Long_cl h.Long_na_row (de_var 1)) da_nil)) (dk_cons (de_fld h.Long_g h.Long_cl h.Long_na_base (de_var 0)) dk_nil) rgk_plain_product_2_base)) (dss_one (ds_ret ((dx_make (c_Long_init h) hr (by decide) h.Long_g bgk_Long_1_base_below (da_cons (de_var 2) da_nil) (dk_cons (de_fld h.Long_g h.Long_cl h.Long_na_base (de_var 0)) (dk_cons (de_cmp (do_ne hr.r) (de_fld h.Long_g h.Long_cl h.Long_na_below (de_var 0)) (de_fld h.Long_g h.Long_cl h.Long_na_below (de_var 1))) dk_nil)) rgk_Long_1_base_below)).dv))))) ok_Long_times⟩
theorem sc_Long_over : FnScope ["self", "other", "quotient", "rest", "below"] ["self", "other"] (defScope Hd.s33) := ⟨rfl, rfl, rfl, by decide +kernel, rfl, by decide +kernel, by decide +kernel⟩
theorem c_Long_over (h : Fx K mg base) : CalM P w K mg base Hd.d33 (He.ga K "Long") 5 ["self", "other"] (spD K mg S_Long_over) := by
  obtain ⟨fd, F⟩ := h.c.def_ 33 (d := Hd.d33) rfl
  have nd := sc_Long_over.nd
  exact ⟨_, fd, F, h.mt_Long_over, fnD (T := T_Long_over) F sc_Long_over (fun _ => rfl) 5 rfl (fun cdv A outer st H E hr => (dss_cons (ds_expr (dx_meth h.Long_g h.Long_cl (c_Long_must_be_alike h) hr (by decide) b_Long_must_be_alike (de_var 0) (da_cons (de_var 1) da_nil))) (dss_cons (ds_if (db_cmp (do_eq hr.r) (de_fld h.Long_g h.Long_cl h.Long_na_row (de_var 1)) (de_tup da_nil)) (dss_one ds_never) dss_nil) (dss_cons (ds_asg (dx_callN (c_divided h) hr (by decide) bgk_divided_2_base (da_cons (de_fld h.Long_g h.Long_cl h.Long_na_row (de_var 0)) (da_cons (de_fld h.Long_g h.Long_cl h.Long_na_row (de_var 1)) da_nil)) (dk_cons (de_fld h.Long_g h.Long_cl h.Long_na_base (de_var 0)) dk_nil) rgk_divided_2_base) (dg_tup rfl (dgs_cons (dg_name 2 nd) (dgs_cons (dg_name 3 nd) dgs_nil)))) (dss_cons (ds_if ((dw_and (db_val (de_fld h.Long_g h.Long_cl h.Long_na_below (de_var 0))) (dw_and1 (db_cmp (do_ne hr.r) (de_var 3) (de_tup da_nil))))).db (dss_cons (ds_set 2 nd (dx_callN (c_summed h) hr (by decide) bgk_summed_2_base (da_cons (de_var 2) (da_cons (de_tup (da_cons de_int da_nil)) da_nil)) (dk_cons (de_fld h.Long_g h.Long_cl h.Long_na_base (de_var 0)) dk_nil) rgk_summed_2_base)) (dss_one (ds_set 3 nd (dx_callN (c_lessened h) hr (by decide) bgk_lessened_2_base (da_cons (de_fld h.Long_g h.Long_cl h.Long_na_row (de_var 1)) (da_cons (de_var 3) da_nil)) (dk_cons (de_fld h.Long_g h.Long_cl h.Long_na_base (de_var 0)) dk_nil) rgk_lessened_2_base)))) dss_nil) (dss_cons (ds_set 4 nd (de_cmp (do_ne hr.r) (de_fld h.Long_g h.Long_cl h.Long_na_below (de_var 0)) (de_fld h.Long_g h.Long_cl h.Long_na_below (de_var 1)))) (dss_one (ds_ret ((de_tup (da_cons (dx_make (c_Long_init h) hr (by decide) h.Long_g bgk_Long_1_base_below (da_cons (de_var 2) da_nil) (dk_cons (de_fld h.Long_g h.Long_cl h.Long_na_base (de_var 0)) (dk_cons (de_var 4) dk_nil)) rgk_Long_1_base_below) (da_cons (dx_make (c_Long_init h) hr (by decide) h.Long_g bgk_Long_1_base (da_cons (de_var 3) da_nil) (dk_cons (de_fld h.Long_g h.Long_cl h.Long_na_base (de_var 0)) dk_nil) rgk_Long_1_base) da_nil)))).dv)))))))) ok_Long_over⟩
theorem sc_number_in : FnScope ["word", "sign"] ["word"] (defScope Hd.s34) := ⟨rfl, rfl, rfl, by decide +kernel, rfl, by decide +kernel, by decide +kernel⟩
theorem c_number_in (h : Fx K mg base) : Cal P w K mg base Hd.d34 1 ["word"] (spD K mg S_number_in) := by
  obtain ⟨fd, F⟩ := h.c.def_ 34 (d := Hd.d34) rfl
  have nd := sc_number_in.nd
  exact ⟨_, fd, F, h.gl_number_in, fnD (T := T_number_in) F sc_number_in (fun _ => rfl) 2 rfl (fun cdv A outer st H E hr => (dss_cons (ds_if ((dw_or (db_not (db_chain do_le do_le de_int (de_callB dc_len h.fr_len boot_len' (daw_cons ((de_var 0)).dv daw_nil)) (de_gint h.gi_MOST_FIGURES))) (dw_or1 (db_not (db_val (de_callB (dc_all rfl) h.fr_all boot_all' (daw_cons ((df_lc (own := [("sign", 1)]) rfl nd (di_seq (de_var 0)) (show BlkOk ["word", "sign"] (defScope Hd.s34) _ _ from ⟨rfl, by decide +kernel, by decide +kernel, by decide +kernel, by decide +kernel⟩) (fun _ => (dw_name 1 nd)) (fun _ => dps_nil) (fun _ => (de_cmp do_inS (de_var 1) (de_gstr h.gs_FIGURES))))).dv daw_nil))))))).db (dss_one ds_never) dss_nil) (dss_one (ds_ret ((de_callTy dc_int h.fr_int boot_int' (daw_cons ((de_var 0)).dv daw_nil))).dv)))) ok_number_in⟩
theorem sc_limbs_in : FnScope ["text", "word"] ["text"] (defScope Hd.s35) := ⟨rfl, rfl, rfl, by decide +kernel, rfl, by decide +kernel, by decide +kernel⟩
theorem c_limbs_in (h : Fx K mg base) : Cal P w K mg base Hd.d35 2 ["text"] (spD K mg S_limbs_in) := by
  obtain ⟨fd, F⟩ := h.c.def_ 35 (d := Hd.d35) rfl
  have nd := sc_limbs_in.nd
  exact ⟨_, fd, F, h.gl_limbs_in, fnD (T := T_limbs_in) F sc_limbs_in (fun _ => rfl) 2 rfl (fun cdv A outer st H E hr => (dss_cons (ds_if (db_cmp (do_eq hr.r) (de_var 0) de_str) (dss_one (ds_ret ((de_tup da_nil)).dv)) dss_nil) (dss_one (ds_ret ((de_callTy dc_tuple h.fr_tuple boot_tuple' (daw_cons ((df_lc (own := [("word", 1)]) rfl nd (di_seq ((df_rev ((df_split (de_var 0) de_str)).dv)).de) (show BlkOk ["text", "word"] (defScope Hd.s35) _ _ from ⟨rfl, by decide +kernel, by decide +kernel, by decide +kernel, by decide +kernel⟩) (fun _ => (dw_name 1 nd)) (fun _ => dps_nil) (fun _ => (dx_call (c_number_in h) hr (by decide) (fun F => ⟨[], .nil, b_number_in F⟩) (da_cons (de_var 1) da_nil))))).dv daw_nil))).dv)))) ok_limbs_in⟩
theorem sc_read_long : FnScope ["text", "ahead", "colon", "behind", "below", "base", "row", "found"] ["text"] (defScope Hd.s36) := ⟨rfl, rfl, rfl, by decide +kernel, rfl, by decide +kernel, by decide +kernel⟩
theorem c_read_long (h : Fx K mg base) : Cal P w K mg base Hd.d36 5 ["text"] (spD K mg S_read_long) := by
  obtain ⟨fd, F⟩ := h.c.def_ 36 (d := Hd.d36) rfl
  have nd := sc_read_long.nd
  exact ⟨_, fd, F, h.gl_read_long, fnD (T := T_read_long) F sc_read_long (fun _ => rfl) 8 rfl (fun cdv A outer st H E hr => (dss_cons (ds_if (db_not (db_val (de_isT h.fr_isinstance h.fr_str boot_str' (by decide) (de_var 0) boot_isinstance'))) (dss_one ds_never) dss_nil) (dss_cons (ds_asg (de_part (de_var 0) de_str) (dg_tup rfl (dgs_cons (dg_name 1 nd) (dgs_cons (dg_name 2 nd) (dgs_cons (dg_name 3 nd) dgs_nil))))) (dss_cons (ds_set 4 nd (de_cmp (do_eq hr.r) (de_sl (de_var 1) dpt_none (dpt_some de_int)) de_str)) (dss_cons (ds_set 5 nd (dx_call (c_number_in h) hr (by decide) (fun F => ⟨[], .nil, b_number_in F⟩) (da_cons (de_var 3) da_nil))) (dss_cons (ds_set 6 nd (dx_call (c_limbs_in h) hr (by decide) (fun F => ⟨[], .nil, b_limbs_in F⟩) (da_cons (de_if (db_val (de_var 4)) (de_sl (de_var 1) (dpt_some de_int) dpt_none) (de_var 1)) da_nil))) (dss_cons (ds_if ((dw_or (db_not (db_val (dx_call (c_is_base h) hr (by decide) (fun F => ⟨[], .nil, b_is_base F⟩) (da_cons (de_var 5) da_nil)))) (dw_or (db_cmp do_gt (de_callB dc_len h.fr_len boot_len' (daw_cons ((de_var 6)).dv daw_nil)) (de_gint h.gi_MOST_LIMBS)) (dw_or1 (db_not (db_val (dx_callN (c_is_row h) hr (by decide) bgk_is_row_1_base (da_cons (de_var 6) da_nil) (dk_cons (de_var 5) dk_nil) rgk_is_row_1_base))))))).db (dss_one ds_never) dss_nil) (dss_cons (ds_set 7 nd (dx_make (c_Long_init h) hr (by decide) h.Long_g bgk_Long_1_below_base (da_cons (de_var 6) da_nil) (dk_cons (de_var 4) (dk_cons (de_var 5) dk_nil)) rgk_Long_1_below_base)) (dss_cons (ds_if (db_cmp (do_ne hr.r) (de_callTy (dx_ownStr h.Long_g (c_Long_str h) hr (by decide) b_Long_str) h.fr_str boot_str' (daw_cons ((de_var 7)).dv daw_nil)) (de_var 0)) (dss_one ds_never) dss_nil) (dss_one (ds_ret ((de_var 7)).dv))))))))))) ok_read_long⟩
theorem sc_figures_of : FnScope ["row", "base", "limb"] ["row", "base"] (defScope Hd.s37) := ⟨rfl, rfl, rfl, by decide +kernel, rfl, by decide +kernel, by decide +kernel⟩
theorem c_figures_of (h : Fx K mg base) : Cal P w K mg base Hd.d37 1 ["row", "base"] (spD K mg S_figures_of) := by
  obtain ⟨fd, F⟩ := h.c.def_ 37 (d := Hd.d37) rfl
  have nd := sc_figures_of.nd
  exact ⟨_, fd, F, h.gl_figures_of, fnD (T := T_figures_of) F sc_figures_of (fun _ => rfl) 3 rfl (fun cdv A outer st H E hr => (dss_one (ds_ret ((de_orS (de_join de_str ((df_lc (own := [("limb", 2)]) rfl nd (di_seq (de_rev (de_var 0))) (show BlkOk ["row", "base", "limb"] (defScope Hd.s37) _ _ from ⟨rfl, by decide +kernel, by decide +kernel, by decide +kernel, by decide +kernel⟩) (fun _ => (dw_name 2 nd)) (fun _ => dps_nil) (fun _ => (de_ix ((de_gstr h.gs_SIGNS)).dv (de_var 2))))).dv) (de_one (de_ix ((de_gstr h.gs_SIGNS)).dv de_int)))).dv))) ok_figures_of⟩
theorem sc_read_figures : FnScope ["text", "base", "sign", "row"] ["text", "base"] (defScope Hd.s38) := ⟨rfl, rfl, rfl, by decide +kernel, rfl, by decide +kernel, by decide +kernel⟩
theorem c_read_figures (h : Fx K mg base) : Cal P w K mg base Hd.d38 3 ["text", "base"] (spD K mg S_read_figures) := by
  obtain ⟨fd, F⟩ := h.c.def_ 38 (d := Hd.d38) rfl
  have nd := sc_read_figures.nd
  exact ⟨_, fd, F, h.gl_read_figures, fnD (T := T_read_figures) F sc_read_figures (fun _ => rfl) 4 rfl (fun cdv A outer st H E hr => (dss_cons (ds_if (db_not (db_val (de_isT h.fr_isinstance h.fr_str boot_str' (by decide) (de_var 0) boot_isinstance'))) (dss_one ds_never) dss_nil) (dss_cons (ds_if (db_cmp (do_eq hr.r) (de_var 0) (de_ix ((de_gstr h.gs_SIGNS)).dv de_int)) (dss_one (ds_ret ((de_tup da_nil)).dv)) dss_nil) (dss_cons (ds_if (db_not (db_val (de_callB (dc_all rfl) h.fr_all boot_all' (daw_cons ((df_lc (own := [("sign", 2)]) rfl nd (di_seq (de_var 0)) (show BlkOk ["text", "base", "sign", "row"] (defScope Hd.s38) _ _ from ⟨rfl, by decide +kernel, by decide +kernel, by decide +kernel, by decide +kernel⟩) (fun _ => (dw_name 2 nd)) (fun _ => dps_nil) (fun _ => (de_cmp do_inS (de_var 2) (de_gstr h.gs_SIGNS))))).dv daw_nil)))) (dss_one ds_never) dss_nil) (dss_cons (ds_set 3 nd (de_callTy dc_tuple h.fr_tuple boot_tuple' (daw_cons ((df_lc (own := [("sign", 2)]) rfl nd (di_seq (de_rev (de_var 0))) (show BlkOk ["text", "base", "sign", "row"] (defScope Hd.s38) _ _ from ⟨rfl, by decide +kernel, by decide +kernel, by decide +kernel, by decide +kernel⟩) (fun _ => (dw_name 2 nd)) (fun _ => dps_nil) (fun _ => (de_callTy dc_int36 h.fr_int boot_int' (daw_cons ((de_var 2)).dv (daw_cons ((de_gint h.gi_MOST_SIGNS)).dv daw_nil)))))).dv daw_nil))) (dss_cons (ds_if ((dw_or (db_cmp (do_eq hr.r) (de_var 3) (de_tup da_nil)) (dw_or1 (db_not (db_val (dx_callN (c_is_row h) hr (by decide) bgk_is_row_1_base (da_cons (de_var 3) da_nil) (dk_cons (de_var 1) dk_nil) rgk_is_row_1_base)))))).db (dss_one ds_never) dss_nil) (dss_one (ds_ret ((de_var 3)).dv)))))))) ok_read_figures⟩
theorem sc__law_deck : FnScope ["_law_script", "_law_cells", "_law_cell"] ["_law_script"] (defScope Hd.s39) := ⟨rfl, rfl, rfl, by decide +kernel, rfl, by decide +kernel, by decide +kernel⟩
theorem c__law_deck (h : Fx K mg base) : Cal P w K mg base Hd.d39 1 ["_law_script"] (spD K mg S__law_deck) := by
  obtain ⟨fd, F⟩ := h.c.def_ 39 (d := Hd.d39) rfl
  have nd := sc__law_deck.nd
  exact ⟨_, fd, F, h.gl__law_deck, fnD (T := T__law_deck) F sc__law_deck (fun _ => rfl) 3 rfl (fun cdv A outer st H E hr => (dss_cons (ds_set 1 nd ((df_callTy dc_list h.fr_list boot_list' (daw_cons ((df_slS (de_var 0) dpt_none (dpt_some de_int))).dv daw_nil))).de) (dss_one (ds_ret ((df_lst (da_cons ((df_rev ((de_var 1)).dv)).de (da_cons (de_bin do_add (de_callB (dc_sum rfl) h.fr_sum boot_sum' (daw_cons ((df_lc (own := [("_law_cell", 2)]) rfl nd (di_seq (de_var 1)) (show BlkOk ["_law_script", "_law_cells", "_law_cell"] (defScope Hd.s39) _ _ from ⟨rfl, by decide +kernel, by decide +kernel, by decide +kernel, by decide +kernel⟩) (fun _ => (dw_name 2 nd)) (fun _ => dps_nil) (fun _ => (de_bin do_mod (de_var 2) de_int)))).dv daw_nil)) (de_bin do_mul de_int (de_callB dc_len h.fr_len boot_len' (daw_cons ((de_var 1)).dv daw_nil)))) (da_cons de_int da_nil))))).dv)))) ok__law_deck⟩
theorem sc_draw : FnScope ["_law_deck_here", "_law_most", "_law_cell", "_law_number"] ["_law_deck_here", "_law_most"] (defScope Hd.s40) := ⟨rfl, rfl, rfl, by decide +kernel, rfl, by decide +kernel, by decide +kernel⟩
theorem d_draw {dvs : List V} {kws : List (Str × V)} {f : Addr} {fd : FuncData} (F : FunD K "_law_draw" "_law_draw" (defArgs Hd.s40) (defBody Hd.s40) (defScope Hd.s40) dvs kws f fd) : FnG P w K mg base CX0 1 f fd ["_law_deck_here", "_law_most"] spDraw := by
  refine okG F sc_draw (fun vs H Q E h => ?_) (fun cdv A outer st H vs Q E hr h => ?_)
  · obtain ⟨a, c, n, rfl, _⟩ := h
    rfl
  · obtain ⟨a, c, n, rfl, h1, h60, ⟨hac, ns, x, y, hl, ha, hc⟩, hQ⟩ := h
    obtain ⟨t2, p2, h2⟩ : ∃ t2, PSs (cxOf CX0 P w K mg base ["_law_deck_here", "_law_most", "_law_cell", "_law_number"] "_law_draw" (defScope Hd.s40) f cdv A outer st H E) ((defBody Hd.s40).drop 3) t2 ∧ ∀ (z : Int) (H3 : Hp),
        DeckOk a c H3 → (∀ q o, q ≠ a → q ≠ c → H q = some o → H3 q = some o) → t2 { nx := fun _ H' => Q .non H', rt := Q } [some (.ref a), some (.int n), some (.int z), none] H3 := by
      refine ⟨_, (pss_cons (ps_set (i := 3) sc_draw.nd rfl (Or.inl rfl) (pe_op op_mod (pe_op op_mulA (pe_op op_add (pe_op op_add (pe_op op_mod (pv 2) pe_int) (pe_op op_mulA pe_int (pe_ix ix_seq (pv 0) pe_int (fun _ _ => rfl)))) pe_int) pe_int) pe_int))
        (pss_cons (ps_set (i := 3) sc_draw.nd rfl (Or.inl rfl) (pe_op op_mod (pe_op op_add (pe_op op_add (pe_op op_mulA (pv 3) (pv 3)) (pe_op op_mulA pe_int (pe_ix ix_seq (pv 0) pe_int (fun _ _ => rfl)))) pe_int) pe_int))
        (pss_one (ps_ret (pe_op op_mod (pe_op op_fdivW (pe_op op_mod (pe_op op_add (pe_op op_mulA (pv 3) (pv 3)) (pe_op op_mulA pe_int (pv 3))) pe_int) pe_int) (pv 1)))))), ?_⟩
      intro z H3 hd kp
      obtain ⟨_, ms, x', y', hl', ha3, hc3⟩ := id hd
      refine ⟨_, rfl, z, _, rfl, rfl, (show (0 : Int) < 2147483629 by decide), _, rfl, .inl ⟨a, _, 2, .int y', rfl, rfl, .of ha3, rfl, _, _, rfl, rfl, Or.inl (Or.inl (by decide)), _, _, rfl, rfl, _, _, rfl, rfl, _, _, rfl, rfl, Or.inl (Or.inr (by decide)), _, _, rfl, rfl, (show (0 : Int) < 2147483647 by decide), ?_⟩⟩
      have b0 := Int.emod_nonneg (((z % 2147483629 + 65537 * y' + 9) * 48271)) (show (2147483647 : Int) ≠ 0 by decide)
      have b1 := Int.emod_lt_of_pos (((z % 2147483629 + 65537 * y' + 9) * 48271)) (show (0 : Int) < 2147483647 by decide)
      show tSeq _ _ _ [some (.ref a), some (.int n), some (.int z), some (.int ((z % 2147483629 + 65537 * y' + 9) * 48271 % 2147483647))] H3
      revert b0 b1
      generalize (z % 2147483629 + 65537 * y' + 9) * 48271 % 2147483647 = u
      intro b0 b1
      refine ⟨_, rfl, _, rfl, _, _, rfl, rfl, Or.inl (Or.inl ⟨by omega, by omega⟩), _, rfl, .inl ⟨a, _, 2, .int y', rfl, rfl, .of ha3, rfl, _, _, rfl, rfl, Or.inl (Or.inl (by decide)), _, _, rfl, rfl, _, _, rfl, rfl, _, _, rfl, rfl, (show (0 : Int) < 2147483587 by decide), ?_⟩⟩
      have b2 := Int.emod_nonneg (u * u + 69621 * y' + 13) (show (2147483587 : Int) ≠ 0 by decide)
      have b3 := Int.emod_lt_of_pos (u * u + 69621 * y' + 13) (show (0 : Int) < 2147483587 by decide)
      exact ⟨_, rfl, _, rfl, _, _, rfl, rfl, Or.inl (Or.inl ⟨by omega, by omega⟩), _, rfl, _, _, rfl, rfl, Or.inl (Or.inl (by decide)), _, _, rfl, rfl, _, _, rfl, rfl, (show (0 : Int) < 2147483563 by decide), _, _, rfl, rfl, ⟨by decide, by decide⟩, _, rfl, _, _, rfl, rfl, (show (0 : Int) < n by omega), draw_end h1 hd kp hQ⟩
    refine ⟨_, pss_cons (ps_asg (pe_op op_add (pe_ix ix_seq (pv 0) pe_int (fun _ _ => rfl)) pe_int) (pg_sub (pv 0) pe_int set_list))
      (pss_cons (ps_set (i := 2) sc_draw.nd rfl (Or.inl rfl) (pe_ix ix_seq (pv 0) pe_int (fun _ _ => rfl)))
      (pss_cons (ps_if (pt_cmpR (op_neD (room64 hr.r)) (pe_ix ix_seq (pv 0) pe_int (fun _ _ => rfl)) (pe_lst pa_nil) (nobehind _ (by decide) (by decide)))
        (pss_cons (ps_set (i := 2) sc_draw.nd rfl (Or.inl rfl) (pe_bm0 PySem.F.plainAttrs_list PySem.F.slot_list_pop PySem.F.type_list_pop mt_pop (pe_ix ix_seq (pv 0) pe_int (fun _ _ => rfl))))
          (pss_one (ps_if (pt_cmpR op_ge (pv 2) (pe_op op_pow pe_int pe_int) (nobehind _ (by decide) (by decide)))
            (pss_cons (ps_expr (pe_bm PySem.F.plainAttrs_list PySem.F.slot_list_append PySem.F.type_list_append mt_append (pe_ix ix_seq (pv 0) pe_int (fun _ _ => rfl)) (pa_cons (pe_op op_fdivW (pv 2) (pv 1)) pa_nil)) rfl)
              (pss_one (ps_ret (pe_op op_mod (pv 2) (pv 1))))) pss_nil))) pss_nil) p2)), ?_⟩
    refine ⟨_, rfl, .inl ⟨a, _, 2, .int y, rfl, rfl, .of ha, rfl, y, 1, rfl, rfl, _, rfl, a, _, 2, 2, rfl, rfl, ha, rfl, ?_⟩⟩
    have ha1 : (upd H a (.lst [.ref c, .int x, .int (y + 1)])) a = some (.lst [.ref c, .int x, .int (y + 1)]) := upd_same
    have hc1 : (upd H a (.lst [.ref c, .int x, .int (y + 1)])) c = some (.lst (ns.map V.int)) := by rw [upd_ne (Ne.symm hac)]; exact hc
    have kp1 : ∀ p o, p ≠ a → p ≠ c → H p = some o → (upd H a (.lst [.ref c, .int x, .int (y + 1)])) p = some o := fun p o h1 h2 e => by rw [upd_ne h1]; exact e
    revert ha1 hc1 kp1
    show _ → _ → _ → tSeq _ _ _ _ (upd H a (.lst [.ref c, .int x, .int (y + 1)]))
    generalize upd H a (.lst [.ref c, .int x, .int (y + 1)]) = H1
    intro ha1 hc1 kp1
    refine ⟨_, rfl, .inl ⟨a, _, 1, .int x, rfl, rfl, .of ha1, rfl, ?_⟩⟩
    refine ⟨_, rfl, .inl ⟨a, _, 0, .ref c, rfl, rfl, .of ha1, rfl, ?_⟩⟩
    refine ⟨by decide, fun p hp => ?_⟩
    have hpa : a ≠ p := ne_of_none ha1 hp
    have hpc : c ≠ p := ne_of_none hc1 hp
    have ha2 : (upd H1 p (.lst [])) a = some (.lst [.ref c, .int x, .int (y + 1)]) := by rw [upd_ne hpa]; exact ha1
    have hc2 : (upd H1 p (.lst [])) c = some (.lst (ns.map V.int)) := by rw [upd_ne hpc]; exact hc1
    have kp2 : ∀ q o, q ≠ a → q ≠ c → H q = some o → (upd H1 p (.lst [])) q = some o := fun q o h1 h2 e => by
      rw [upd_ne (ne_of_none (kp1 q o h1 h2 e) hp)]
      exact kp1 q o h1 h2 e
    have hp2 : (upd H1 p (.lst [])) p = some (.lst []) := upd_same
    revert ha2 hc2 kp2 hp2
    generalize upd H1 p (.lst []) = H2
    intro ha2 hc2 kp2 hp2
    have dp1 : Dp K H2 (.ref c) (.list (toPyL (ns.map D.int))) := .lst (.of hc2) (dp_ints ns)
    refine ⟨_, _, dp1, .lst (.of hp2) .nil, shaped_ints ns, by decide, _, rfl, ?_⟩
    rw [show PyData.eqv (.list (toPyL (ns.map D.int))) (.list []) = decide (ns = []) from eqvAll_ints ns []]
    cases ns with
    | nil => exact h2 x H2 ⟨hac, [], x, y + 1, hl, ha2, hc2⟩ kp2
    | cons n0 ns0 =>
      obtain ⟨m, ms, e1, e2, e3⟩ := last_ints n0 ns0
      refine ⟨_, rfl, .inl ⟨a, _, 0, .ref c, rfl, rfl, .of ha2, rfl, tyL hc2, c, _, _, rfl, rfl, hc2, e1, ?_⟩⟩
      rw [e2]
      have ha3 : (upd H2 c (.lst (ms.map V.int))) a = some (.lst [.ref c, .int x, .int (y + 1)]) := by rw [upd_ne hac]; exact ha2
      have hc3 : (upd H2 c (.lst (ms.map V.int))) c = some (.lst (ms.map V.int)) := upd_same
      have kp3 : ∀ q o, q ≠ a → q ≠ c → H q = some o → (upd H2 c (.lst (ms.map V.int))) q = some o := fun q o h1 h2 e => by rw [upd_ne h2]; exact kp2 q o h1 h2 e
      have hl3 : ms.length ≤ 999 := by rw [e3]; simp only [List.length_cons] at hl; omega
      refine ⟨_, rfl, _, _, rfl, rfl, ⟨by decide, by decide, by decide⟩, _, _, rfl, rfl, _, rfl, ?_⟩
      by_cases hge : (10 : Int) ^ (18 : Int).toNat ≤ m
      · rw [decide_eq_true hge]
        refine ⟨_, rfl, .inl ⟨a, _, 0, .ref c, rfl, rfl, .of ha3, rfl, tyL hc3, _, rfl, _, rfl, _, _, rfl, rfl, (show CDivW m n from log60 (m := m) h1 h60), c, _, _, rfl, rfl, hc3, by rw [List.length_map]; exact Nat.lt_of_le_of_lt hl3 (by decide), ?_⟩⟩
        have hd4 : DeckOk a c (upd (upd H2 c (.lst (ms.map V.int))) c (.lst (ms.map V.int ++ [.int (m / n)]))) := ⟨hac, ms ++ [m / n], x, y + 1, by rw [List.length_append, List.length_cons, List.length_nil]; omega, by rw [upd_ne hac]; exact ha3, by rw [upd_same]; simp⟩
        exact ⟨_, rfl, _, rfl, _, _, rfl, rfl, (show (0 : Int) < n by omega), draw_end h1 hd4 (fun q o h1 h2 e => by rw [upd_ne h2]; exact kp3 q o h1 h2 e) hQ⟩
      · rw [decide_eq_false hge]
        exact h2 m _ ⟨hac, ms, x, y + 1, by omega, ha3, hc3⟩ kp3
theorem c__law_draw (h : Fx K mg base) : Cal P w K mg base Hd.d40 1 ["_law_deck_here", "_law_most"] spDraw := by
  obtain ⟨fd, F⟩ := h.c.def_ 40 (d := Hd.d40) rfl
  exact ⟨_, fd, F, h.gl__law_draw, d_draw F⟩

theorem sc__law_any_base : FnScope ["_law_deck_here", "_law_way", "_law_some"] ["_law_deck_here"] (defScope Hd.s41) := ⟨rfl, rfl, rfl, by decide +kernel, rfl, by decide +kernel, by decide +kernel⟩
theorem c__law_any_base (h : Fx K mg base) : Cal P w K mg base Hd.d41 2 ["_law_deck_here"] (spD K mg S__law_any_base) := by
  obtain ⟨fd, F⟩ := h.c.def_ 41 (d := Hd.d41) rfl
  have nd := sc__law_any_base.nd
  exact ⟨_, fd, F, h.gl__law_any_base, fnD (T := T__law_any_base) F sc__law_any_base (fun _ => rfl) 3 rfl (fun cdv A outer st H E hr => (dss_cons (ds_set 1 nd (dx_draw (c__law_draw h) hr (by decide) b__law_draw (da_cons (de_var 0) (da_cons de_int da_nil)))) (dss_cons (ds_set 2 nd ((df_lst (da_cons de_int (da_cons de_int (da_cons de_int (da_cons de_int (da_cons (de_bin do_add de_int (dx_draw (c__law_draw h) hr (by decide) b__law_draw (da_cons (de_var 0) (da_cons de_int da_nil)))) (da_cons de_int (da_cons (de_bin do_add de_int (dx_draw (c__law_draw h) hr (by decide) b__law_draw (da_cons (de_var 0) (da_cons de_int da_nil)))) (da_cons de_int da_nil)))))))))).de) (dss_one (ds_ret ((de_ix ((de_var 2)).dv (de_var 1))).dv))))) ok__law_any_base⟩
theorem sc__law_row : FnScope ["_law_deck_here", "_law_to", "_law_most", "_law_way", "_law_long", "_law_found", "_law_k", "_law_digit"] ["_law_deck_here", "_law_to", "_law_most"] (defScope Hd.s42) := ⟨rfl, rfl, rfl, by decide +kernel, rfl, by decide +kernel, by decide +kernel⟩
theorem c__law_row (h : Fx K mg base) : Cal P w K mg base Hd.d42 2 ["_law_deck_here", "_law_to", "_law_most"] (spD K mg S__law_row) := by
  obtain ⟨fd, F⟩ := h.c.def_ 42 (d := Hd.d42) rfl
  have nd := sc__law_row.nd
  exact ⟨_, fd, F, h.gl__law_row, fnD (T := T__law_row) F sc__law_row (fun _ => rfl) 8 rfl (fun cdv A outer st H E hr => (dss_cons (ds_set 3 nd (dx_draw (c__law_draw h) hr (by decide) b__law_draw (da_cons (de_var 0) (da_cons de_int da_nil)))) (dss_cons (ds_set 4 nd (dx_draw (c__law_draw h) hr (by decide) b__law_draw (da_cons (de_var 0) (da_cons (de_bin do_add (de_var 2) de_int) da_nil)))) (dss_cons (ds_setO 5 nd (df_lst da_nil)) (dss_cons (ds_for .leaving rfl (di_range1 h.fr_range (da_cons (de_var 4) da_nil) (pp := fun z => pi_range1 (by rfl) h.fr_range z)) (dg_name 6 nd) (dss_cons (ds_set 7 nd (dx_draw (c__law_draw h) hr (by decide) b__law_draw (da_cons (de_var 0) (da_cons (de_var 1) da_nil)))) (dss_one (ds_app 5 (de_ix ((df_lst (da_cons (de_var 7) (da_cons (de_bin do_sub (de_var 1) de_int) (da_cons de_int (da_cons (de_ix ((df_lst (da_cons de_int (da_cons (de_bin do_sub (de_var 1) de_int) da_nil)))).dv (de_bin do_mod (de_var 7) de_int)) (da_cons (de_bin do_mod (de_var 7) de_int) (da_cons de_int da_nil)))))))).dv (de_var 3)) (pn := pv 5))))) (dss_cons (ds_if ((dw_and (db_cmp do_gt (de_var 4) de_int) (dw_and1 (db_cmp (do_eq hr.r) (de_ix (dv_var 5) (de_neg de_int)) de_int)))).db (dss_one (ds_put 5 (de_neg de_int) (de_ix ((df_lst (da_cons (de_bin do_add de_int (dx_draw (c__law_draw h) hr (by decide) b__law_draw (da_cons (de_var 0) (da_cons (de_bin do_sub (de_var 1) de_int) da_nil)))) (da_cons (de_bin do_sub (de_var 1) de_int) (da_cons de_int da_nil))))).dv (dx_draw (c__law_draw h) hr (by decide) b__law_draw (da_cons (de_var 0) (da_cons de_int da_nil)))) (pn := pv 5) (pp := fun h1 h2 h3 => ps_asg h3 (pg_sub h1 h2 set_list)))) dss_nil) (dss_one (ds_ret ((de_callTy dc_tuple h.fr_tuple boot_tuple' (daw_cons (dv_var 5) daw_nil))).dv)))))))) ok__law_row⟩
theorem sc__law_worth : FnScope ["_law_limbs", "_law_to", "_law_found", "_law_digit"] ["_law_limbs", "_law_to"] (defScope Hd.s43) := ⟨rfl, rfl, rfl, by decide +kernel, rfl, by decide +kernel, by decide +kernel⟩
theorem c__law_worth (h : Fx K mg base) : Cal P w K mg base Hd.d43 1 ["_law_limbs", "_law_to"] (spD K mg S__law_worth) := by
  obtain ⟨fd, F⟩ := h.c.def_ 43 (d := Hd.d43) rfl
  have nd := sc__law_worth.nd
  exact ⟨_, fd, F, h.gl__law_worth, fnD (T := T__law_worth) F sc__law_worth (fun _ => rfl) 4 rfl (fun cdv A outer st H E hr => (dss_cons (ds_set 2 nd de_int) (dss_cons (ds_for .leaving rfl (di_seq (de_rev (de_var 0))) (dg_name 3 nd) (dss_one (ds_set 2 nd (de_bin do_add (de_bin do_mul (de_var 2) (de_var 1)) (de_var 3))))) (dss_one (ds_ret ((de_var 2)).dv))))) ok__law_worth⟩
theorem sc__law_row_of : FnScope ["_law_rest", "_law_to", "_law_found"] ["_law_rest", "_law_to"] (defScope Hd.s44) := ⟨rfl, rfl, rfl, by decide +kernel, rfl, by decide +kernel, by decide +kernel⟩
theorem c__law_row_of (h : Fx K mg base) : Cal P w K mg base Hd.d44 1 ["_law_rest", "_law_to"] (spD K mg S__law_row_of) := by
  obtain ⟨fd, F⟩ := h.c.def_ 44 (d := Hd.d44) rfl
  have nd := sc__law_row_of.nd
  exact ⟨_, fd, F, h.gl__law_row_of, fnD (T := T__law_row_of) F sc__law_row_of (fun _ => rfl) 3 rfl (fun cdv A outer st H E hr => (dss_cons (ds_setO 2 nd (df_lst da_nil)) (dss_cons (ds_while .leaving (db_cmp do_gt (de_var 0) de_int) (dss_cons (ds_app 2 (de_bin do_mod (de_var 0) (de_var 1)) (pn := pv 2)) (dss_one (ds_set 0 nd (de_bin do_fdiv (de_var 0) (de_var 1)))))) (dss_one (ds_ret ((de_callTy dc_tuple h.fr_tuple boot_tuple' (daw_cons (dv_var 2) daw_nil))).dv))))) ok__law_row_of⟩
theorem sc__law_texts_right : FnScope ["_law_row_here", "_law_to", "_law_sign", "_law_long"] ["_law_row_here", "_law_to", "_law_sign"] (defScope Hd.s45) := ⟨rfl, rfl, rfl, by decide +kernel, rfl, by decide +kernel, by decide +kernel⟩
theorem c__law_texts_right (h : Fx K mg base) : Cal P w K mg base Hd.d45 7 ["_law_row_here", "_law_to", "_law_sign"] (spD K mg S__law_texts_right) := by
  obtain ⟨fd, F⟩ := h.c.def_ 45 (d := Hd.d45) rfl
  have nd := sc__law_texts_right.nd
  exact ⟨_, fd, F, h.gl__law_texts_right, fnD (T := T__law_texts_right) F sc__law_texts_right (fun _ => rfl) 4 rfl (fun cdv A outer st H E hr => (dss_cons (ds_set 3 nd (dx_make (c_Long_init h) hr (by decide) h.Long_g bgk_Long_1_base_below (da_cons (de_var 0) da_nil) (dk_cons (de_var 1) (dk_cons (de_var 2) dk_nil)) rgk_Long_1_base_below)) (dss_cons (ds_if ((dw_or (db_cmp (dx_ownNe h.Long_g h.Long_mo h.Long_ne (c_Long_eq h) hr (by decide) b_Long_eq) (dx_call (c_read_long h) hr (by decide) (fun F => ⟨[], .nil, b_read_long F⟩) (da_cons (de_callTy (dx_ownStr h.Long_g (c_Long_str h) hr (by decide) b_Long_str) h.fr_str boot_str' (daw_cons ((de_var 3)).dv daw_nil)) da_nil)) (de_var 3)) (dw_or1 (db_cmp (do_ne hr.r) (de_callB (dx_ownRepr h.Long_g (c_Long_repr h) hr (by decide) b_Long_repr) h.fr_repr boot_repr' (daw_cons ((dx_call (c_read_long h) hr (by decide) (fun F => ⟨[], .nil, b_read_long F⟩) (da_cons (de_callTy (dx_ownStr h.Long_g (c_Long_str h) hr (by decide) b_Long_str) h.fr_str boot_str' (daw_cons ((de_var 3)).dv daw_nil)) da_nil))).dv daw_nil)) (de_callB (dx_ownRepr h.Long_g (c_Long_repr h) hr (by decide) b_Long_repr) h.fr_repr boot_repr' (daw_cons ((de_var 3)).dv daw_nil)))))).db (dss_one (ds_ret (de_bl).dv)) dss_nil) (dss_one (ds_ret ((de_or (de_cmp do_gt (de_var 1) de_int) (de_one (de_cmp (do_eq hr.r) (de_callB (dc_repr hr) h.fr_repr boot_repr' (daw_cons ((dx_callN (c_read_figures h) hr (by decide) bgk_read_figures_1_base (da_cons (dx_callN (c_figures_of h) hr (by decide) bgk_figures_of_1_base (da_cons (de_var 0) da_nil) (dk_cons (de_var 1) dk_nil) rgk_figures_of_1_base) da_nil) (dk_cons (de_var 1) dk_nil) rgk_read_figures_1_base)).dv daw_nil)) (de_callB (dc_repr hr) h.fr_repr boot_repr' (daw_cons ((de_var 0)).dv daw_nil)))))).dv))))) ok__law_texts_right⟩
theorem sc__law_put_right : FnScope ["_law_row_here", "_law_to", "_law_far_to", "_law_sign", "_law_number", "_law_found"] ["_law_row_here", "_law_to", "_law_far_to", "_law_sign"] (defScope Hd.s46) := ⟨rfl, rfl, rfl, by decide +kernel, rfl, by decide +kernel, by decide +kernel⟩
theorem c__law_put_right (h : Fx K mg base) : Cal P w K mg base Hd.d46 17 ["_law_row_here", "_law_to", "_law_far_to", "_law_sign"] (spD K mg S__law_put_right) := by
  obtain ⟨fd, F⟩ := h.c.def_ 46 (d := Hd.d46) rfl
  have nd := sc__law_put_right.nd
  exact ⟨_, fd, F, h.gl__law_put_right, fnD (T := T__law_put_right) F sc__law_put_right (fun _ => rfl) 6 rfl (fun cdv A outer st H E hr => (dss_cons (ds_set 4 nd (dx_call (c__law_worth h) hr (by decide) (fun F => ⟨[], .nil, b__law_worth F⟩) (da_cons (de_var 0) (da_cons (de_var 1) da_nil)))) (dss_cons (ds_set 5 nd (dx_callN (c_rebased h 12) hr (by decide) bgk_rebased_1_into_base (da_cons (de_var 0) da_nil) (dk_cons (de_var 2) (dk_cons (de_var 1) dk_nil)) rgk_rebased_1_into_base)) (dss_cons (ds_if ((dw_or (db_cmp (do_ne hr.r) (de_callB (dc_repr hr) h.fr_repr boot_repr' (daw_cons ((de_var 5)).dv daw_nil)) (de_callB (dc_repr hr) h.fr_repr boot_repr' (daw_cons ((dx_call (c__law_row_of h) hr (by decide) (fun F => ⟨[], .nil, b__law_row_of F⟩) (da_cons (de_var 4) (da_cons (de_var 2) da_nil)))).dv daw_nil))) (dw_or1 (db_cmp (do_ne hr.r) (de_callB (dc_repr hr) h.fr_repr boot_repr' (daw_cons ((dx_callN (c_rebased h 12) hr (by decide) bgk_rebased_1_base_into (da_cons (de_var 5) da_nil) (dk_cons (de_var 2) (dk_cons (de_var 1) dk_nil)) rgk_rebased_1_base_into)).dv daw_nil)) (de_callB (dc_repr hr) h.fr_repr boot_repr' (daw_cons ((de_var 0)).dv daw_nil)))))).db (dss_one (ds_ret (de_bl).dv)) dss_nil) (dss_cons (ds_if ((dw_or (db_cmp (do_ne hr.r) (de_callB (dc_repr hr) h.fr_repr boot_repr' (daw_cons ((dx_callN (c_worth_of h) hr (by decide) bgk_worth_of_1_base (da_cons (de_var 5) da_nil) (dk_cons (de_var 2) dk_nil) rgk_worth_of_1_base)).dv daw_nil)) (de_callB (dc_repr hr) h.fr_repr boot_repr' (daw_cons ((de_var 4)).dv daw_nil))) (dw_or1 (db_cmp (do_ne hr.r) (dx_callN (c_row_of h) hr (by decide) bgk_row_of_1_base (da_cons (dx_callN (c_worth_of h) hr (by decide) bgk_worth_of_1_base (da_cons (de_var 0) da_nil) (dk_cons (de_var 1) dk_nil) rgk_worth_of_1_base) da_nil) (dk_cons (de_var 2) dk_nil) rgk_row_of_1_base) (de_var 5))))).db (dss_one (ds_ret (de_bl).dv)) dss_nil) (dss_cons (ds_if ((dw_or ((dw_and (db_cmp (do_eq hr.r) (de_var 1) de_int) (dw_and1 (db_cmp (do_ne hr.r) (dx_callN (c_rebased h 12) hr (by decide) bgk_rebased_1_into (da_cons (de_var 0) da_nil) (dk_cons (de_var 2) dk_nil) rgk_rebased_1_into) (de_var 5))))).db (dw_or1 ((dw_and (db_cmp (do_eq hr.r) (de_var 2) de_int) (dw_and1 (db_cmp (do_ne hr.r) (dx_callN (c_rebased h 12) hr (by decide) bgk_rebased_1_into (da_cons (de_var 5) da_nil) (dk_cons (de_var 1) dk_nil) rgk_rebased_1_into) (de_var 0))))).db))).db (dss_one (ds_ret (de_bl).dv)) dss_nil) (dss_one (ds_ret ((de_and (dx_call (c__law_texts_right h) hr (by decide) (fun F => ⟨[], .nil, b__law_texts_right F⟩) (da_cons (de_var 0) (da_cons (de_var 1) (da_cons (de_var 3) da_nil)))) (de_one (dx_call (c__law_texts_right h) hr (by decide) (fun F => ⟨[], .nil, b__law_texts_right F⟩) (da_cons (de_var 5) (da_cons (de_var 2) (da_cons (de_not (de_var 3)) da_nil))))))).dv)))))))) ok__law_put_right⟩
theorem sc__law_told : FnScope ["_law_x", "_law_y", "_law_to", "_law_row_here", "_law_small", "_law_great", "_law_found"] ["_law_x", "_law_y", "_law_to"] (defScope Hd.s47) := ⟨rfl, rfl, rfl, by decide +kernel, rfl, by decide +kernel, by decide +kernel⟩
theorem c__law_told (h : Fx K mg base) : Cal P w K mg base Hd.d47 5 ["_law_x", "_law_y", "_law_to"] (spD K mg S__law_told) := by
  obtain ⟨fd, F⟩ := h.c.def_ 47 (d := Hd.d47) rfl
  have nd := sc__law_told.nd
  exact ⟨_, fd, F, h.gl__law_told, fnD (T := T__law_told) F sc__law_told (fun _ => rfl) 7 rfl (fun cdv A outer st H E hr => (dss_cons (ds_asg ((df_callB (dc_sort2 hr) h.fr_sorted boot_sorted' (daw_cons ((df_lc (own := [("_law_row_here", 3)]) rfl nd (di_seq (de_tup (da_cons (de_var 0) (da_cons (de_var 1) da_nil)))) (show BlkOk ["_law_x", "_law_y", "_law_to", "_law_row_here", "_law_small", "_law_great", "_law_found"] (defScope Hd.s47) _ _ from ⟨rfl, by decide +kernel, by decide +kernel, by decide +kernel, by decide +kernel⟩) (fun _ => (dw_name 3 nd)) (fun _ => dps_nil) (fun _ => (de_tup (da_cons (dx_call (c__law_worth h) hr (by decide) (fun F => ⟨[], .nil, b__law_worth F⟩) (da_cons (de_var 3) (da_cons (de_var 2) da_nil))) (da_cons (de_var 3) da_nil)))))).dv daw_nil))).de (dg_tup rfl (dgs_cons (dg_name 4 nd) (dgs_cons (dg_name 5 nd) dgs_nil)))) (dss_cons (ds_set 6 nd ((df_lst (da_cons (dx_callN (c_summed h) hr (by decide) bgk_summed_2_base (da_cons (de_var 0) (da_cons (de_var 1) da_nil)) (dk_cons (de_var 2) dk_nil) rgk_summed_2_base) (da_cons (dx_callN (c_plain_product h) hr (by decide) bgk_plain_product_2_base (da_cons (de_var 0) (da_cons (de_var 1) da_nil)) (dk_cons (de_var 2) dk_nil) rgk_plain_product_2_base) (da_cons (dx_callN (c_lessened h) hr (by decide) bgk_lessened_2_base (da_cons (de_ix ((de_var 5)).dv de_int) (da_cons (de_ix ((de_var 4)).dv de_int) da_nil)) (dk_cons (de_var 2) dk_nil) rgk_lessened_2_base) da_nil))))).de) (dss_one (ds_ret ((de_if (db_cmp (do_eq hr.r) (de_var 1) (de_tup da_nil)) (de_var 6) ((df_cat ((de_var 6)).dv ((df_callTy dc_list h.fr_list boot_list' (daw_cons ((dx_callN (c_divided h) hr (by decide) bgk_divided_2_base (da_cons (de_var 0) (da_cons (de_var 1) da_nil)) (dk_cons (de_var 2) dk_nil) rgk_divided_2_base)).dv daw_nil))).dv)).de)).dv))))) ok__law_told⟩
theorem sc__law_same_there : FnScope ["_law_x", "_law_y", "_law_to", "_law_far_to", "_law_row_here", "_law_yon", "_law_due"] ["_law_x", "_law_y", "_law_to", "_law_far_to"] (defScope Hd.s48) := ⟨rfl, rfl, rfl, by decide +kernel, rfl, by decide +kernel, by decide +kernel⟩
theorem c__law_same_there (h : Fx K mg base) : Cal P w K mg base Hd.d48 17 ["_law_x", "_law_y", "_law_to", "_law_far_to"] (spD K mg S__law_same_there) := by
  obtain ⟨fd, F⟩ := h.c.def_ 48 (d := Hd.d48) rfl
  have nd := sc__law_same_there.nd
  exact ⟨_, fd, F, h.gl__law_same_there, fnD (T := T__law_same_there) F sc__law_same_there (fun _ => rfl) 7 rfl (fun cdv A outer st H E hr => (dss_cons (ds_setLc (own := [("_law_row_here", 4)]) 5 rfl nd (di_seq (de_tup (da_cons (de_var 0) (da_cons (de_var 1) da_nil)))) (show BlkOk ["_law_x", "_law_y", "_law_to", "_law_far_to", "_law_row_here", "_law_yon", "_law_due"] (defScope Hd.s48) _ _ from ⟨rfl, by decide +kernel, by decide +kernel, by decide +kernel, by decide +kernel⟩) (fun _ => (dw_name 4 nd)) (fun _ => dps_nil) (fun _ => (dx_callN (c_rebased h 12) hr (by decide) bgk_rebased_1_into_base (da_cons (de_var 4) da_nil) (dk_cons (de_var 3) (dk_cons (de_var 2) dk_nil)) rgk_rebased_1_into_base)) rfl) (dss_cons (ds_if (db_cmp (do_ne hr.r) (dx_call (c_is_less h) hr (by decide) (fun F => ⟨[], .nil, b_is_less F⟩) (da_cons (de_var 0) (da_cons (de_var 1) da_nil))) (dx_call (c_is_less h) hr (by decide) (fun F => ⟨[], .nil, b_is_less F⟩) (da_cons (de_ix ((de_var 5)).dv de_int) (da_cons (de_ix ((de_var 5)).dv de_int) da_nil)))) (dss_one (ds_ret (de_bl).dv)) dss_nil) (dss_cons (ds_setLc (own := [("_law_row_here", 4)]) 6 rfl nd (di_seq (dx_call (c__law_told h) hr (by decide) (fun F => ⟨[], .nil, b__law_told F⟩) (da_cons (de_var 0) (da_cons (de_var 1) (da_cons (de_var 2) da_nil))))) (show BlkOk ["_law_x", "_law_y", "_law_to", "_law_far_to", "_law_row_here", "_law_yon", "_law_due"] (defScope Hd.s48) _ _ from ⟨rfl, by decide +kernel, by decide +kernel, by decide +kernel, by decide +kernel⟩) (fun _ => (dw_name 4 nd)) (fun _ => dps_nil) (fun _ => (dx_callN (c_rebased h 12) hr (by decide) bgk_rebased_1_into_base (da_cons (de_var 4) da_nil) (dk_cons (de_var 3) (dk_cons (de_var 2) dk_nil)) rgk_rebased_1_into_base)) rfl) (dss_one (ds_ret ((de_cmp (do_eq hr.r) (de_callB (dc_repr hr) h.fr_repr boot_repr' (daw_cons ((dx_call (c__law_told h) hr (by decide) (fun F => ⟨[], .nil, b__law_told F⟩) (da_cons (de_ix ((de_var 5)).dv de_int) (da_cons (de_ix ((de_var 5)).dv de_int) (da_cons (de_var 3) da_nil))))).dv daw_nil)) (de_callB (dc_repr hr) h.fr_repr boot_repr' (daw_cons ((de_var 6)).dv daw_nil)))).dv)))))) ok__law_same_there⟩
theorem sc__law_long_there : FnScope ["_law_long", "_law_far_to"] ["_law_long", "_law_far_to"] (defScope Hd.s49) := ⟨rfl, rfl, rfl, by decide +kernel, rfl, by decide +kernel, by decide +kernel⟩
theorem c__law_long_there (h : Fx K mg base) : Cal P w K mg base Hd.d49 17 ["_law_long", "_law_far_to"] (spD K mg S__law_long_there) := by
  obtain ⟨fd, F⟩ := h.c.def_ 49 (d := Hd.d49) rfl
  have nd := sc__law_long_there.nd
  exact ⟨_, fd, F, h.gl__law_long_there, fnD (T := T__law_long_there) F sc__law_long_there (fun _ => rfl) 2 rfl (fun cdv A outer st H E hr => (dss_one (ds_ret ((dx_make (c_Long_init h) hr (by decide) h.Long_g bgk_Long_1_base_below (da_cons (dx_callN (c_rebased h 12) hr (by decide) bgk_rebased_1_into_base (da_cons (de_fld h.Long_g h.Long_cl h.Long_na_row (de_var 0)) da_nil) (dk_cons (de_var 1) (dk_cons (de_fld h.Long_g h.Long_cl h.Long_na_base (de_var 0)) dk_nil)) rgk_rebased_1_into_base) da_nil) (dk_cons (de_var 1) (dk_cons (de_fld h.Long_g h.Long_cl h.Long_na_below (de_var 0)) dk_nil)) rgk_Long_1_base_below)).dv))) ok__law_long_there⟩
theorem sc__law_longs_right : FnScope ["_law_first", "_law_second", "_law_far_to", "_law_yon", "_law_here", "_law_far", "_law_k"] ["_law_first", "_law_second", "_law_far_to"] (defScope Hd.s50) := ⟨rfl, rfl, rfl, by decide +kernel, rfl, by decide +kernel, by decide +kernel⟩
theorem c__law_longs_right (h : Fx K mg base) : Cal P w K mg base Hd.d50 18 ["_law_first", "_law_second", "_law_far_to"] (spD K mg S__law_longs_right) := by
  obtain ⟨fd, F⟩ := h.c.def_ 50 (d := Hd.d50) rfl
  have nd := sc__law_longs_right.nd
  exact ⟨_, fd, F, h.gl__law_longs_right, fnD (T := T__law_longs_right) F sc__law_longs_right (fun _ => rfl) 7 rfl (fun cdv A outer st H E hr => (dss_cons (ds_set 3 nd ((df_lst (da_cons (dx_call (c__law_long_there h) hr (by decide) (fun F => ⟨[], .nil, b__law_long_there F⟩) (da_cons (de_var 0) (da_cons (de_var 2) da_nil))) (da_cons (dx_call (c__law_long_there h) hr (by decide) (fun F => ⟨[], .nil, b__law_long_there F⟩) (da_cons (de_var 1) (da_cons (de_var 2) da_nil))) da_nil)))).de) (dss_cons (ds_set 4 nd ((df_lst (da_cons (dx_meth h.Long_g h.Long_cl (c_Long_plus h) hr (by decide) b_Long_plus (de_var 0) (da_cons (de_var 1) da_nil)) (da_cons (dx_meth h.Long_g h.Long_cl (c_Long_minus h) hr (by decide) b_Long_minus (de_var 0) (da_cons (de_var 1) da_nil)) (da_cons (dx_meth h.Long_g h.Long_cl (c_Long_times h) hr (by decide) b_Long_times (de_var 0) (da_cons (de_var 1) da_nil)) da_nil))))).de) (dss_cons (ds_set 5 nd ((df_lst (da_cons (dx_meth h.Long_g h.Long_cl (c_Long_plus h) hr (by decide) b_Long_plus (de_ix ((de_var 3)).dv de_int) (da_cons (de_ix ((de_var 3)).dv de_int) da_nil)) (da_cons (dx_meth h.Long_g h.Long_cl (c_Long_minus h) hr (by decide) b_Long_minus (de_ix ((de_var 3)).dv de_int) (da_cons (de_ix ((de_var 3)).dv de_int) da_nil)) (da_cons (dx_meth h.Long_g h.Long_cl (c_Long_times h) hr (by decide) b_Long_times (de_ix ((de_var 3)).dv de_int) (da_cons (de_ix ((de_var 3)).dv de_int) da_nil)) da_nil))))).de) (dss_cons (ds_if (db_cmp (do_ne hr.r) (de_fld h.Long_g h.Long_cl h.Long_na_row (de_var 1)) (de_tup da_nil)) (dss_cons (ds_set 4 nd ((df_cat ((de_var 4)).dv ((df_callTy dc_list h.fr_list boot_list' (daw_cons ((dx_meth h.Long_g h.Long_cl (c_Long_over h) hr (by decide) b_Long_over (de_var 0) (da_cons (de_var 1) da_nil))).dv daw_nil))).dv)).de) (dss_one (ds_set 5 nd ((df_cat ((de_var 5)).dv ((df_callTy dc_list h.fr_list boot_list' (daw_cons ((dx_meth h.Long_g h.Long_cl (c_Long_over h) hr (by decide) b_Long_over (de_ix ((de_var 3)).dv de_int) (da_cons (de_ix ((de_var 3)).dv de_int) da_nil))).dv daw_nil))).dv)).de))) dss_nil) (dss_one (ds_ret ((de_cmpV (do_eqV hr.r) ((df_lc (own := [("_law_k", 6)]) rfl nd (di_range1 h.fr_range (da_cons (de_callB dc_len h.fr_len boot_len' (daw_cons ((de_var 4)).dv daw_nil)) da_nil) (pp := fun z => pi_range1 (by rfl) h.fr_range z)) (show BlkOk ["_law_first", "_law_second", "_law_far_to", "_law_yon", "_law_here", "_law_far", "_law_k"] (defScope Hd.s50) _ _ from ⟨rfl, by decide +kernel, by decide +kernel, by decide +kernel, by decide +kernel⟩) (fun _ => (dw_name 6 nd)) (fun _ => (dps_one (db_cmp (dx_ownNe h.Long_g h.Long_mo h.Long_ne (c_Long_eq h) hr (by decide) b_Long_eq) (dx_call (c__law_long_there h) hr (by decide) (fun F => ⟨[], .nil, b__law_long_there F⟩) (da_cons (de_ix ((de_var 4)).dv (de_var 6)) (da_cons (de_var 2) da_nil))) (de_ix ((de_var 5)).dv (de_var 6))))) (fun _ => (de_var 6)))).dv ((df_lst da_nil)).dv)).dv))))))) ok__law_longs_right⟩
theorem sc_law : FnScope ["_law_script", "_law_deck_here", "_law_turn", "_law_great", "_law_signs", "_law_to", "_law_far_to", "_law_x", "_law_y"] ["_law_script"] (defScope Hd.s51) := ⟨rfl, rfl, rfl, by decide +kernel, rfl, by decide +kernel, by decide +kernel⟩
theorem d_law (h : Fx K mg base) {f : Addr} {fd : FuncData} (F : FunD K Hd.d51.name Hd.d51.qual Hd.d51.params Hd.d51.body Hd.d51.scope (Hd.d51.dvs K) (Hd.d51.kws K) f fd) : FnG P w K mg base CX0 19 f fd ["_law_script"] (spLaw K) := by
  have nd := sc_law.nd
  exact fnLaw (T := T_law) F sc_law 7 rfl (fun cdv A outer st H E hr => dLaw_hb nd (dx_call (c__law_deck h) hr (by decide) (fun F => ⟨[], .nil, b__law_deck F⟩) (da_cons (de_var 0) da_nil)) (dss_cons (ds_for .leaving rfl (di_range1 h.fr_range (da_cons de_int da_nil) (pp := fun z => pi_range1 (by rfl) h.fr_range z)) (dg_name 2 nd) (dss_cons (ds_set 3 nd (de_cmp (do_eq hr.r) (dx_draw (c__law_draw h) hr (by decide) b__law_draw (da_cons (de_var 1) (da_cons de_int da_nil))) de_int)) (dss_cons (ds_set 4 nd ((df_lst (da_cons (de_cmp (do_eq hr.r) (dx_draw (c__law_draw h) hr (by decide) b__law_draw (da_cons (de_var 1) (da_cons de_int da_nil))) de_int) (da_cons (de_cmp (do_eq hr.r) (dx_draw (c__law_draw h) hr (by decide) b__law_draw (da_cons (de_var 1) (da_cons de_int da_nil))) de_int) da_nil)))).de) (dss_cons (ds_par 5 6 rfl nd (dx_call (c__law_any_base h) hr (by decide) (fun F => ⟨[], .nil, b__law_any_base F⟩) (da_cons (de_var 1) da_nil)) (dx_call (c__law_any_base h) hr (by decide) (fun F => ⟨[], .nil, b__law_any_base F⟩) (da_cons (de_var 1) da_nil)) (pp := fun z => ps_par rfl nd rfl rfl (by decide) rfl rfl z rfl)) (dss_cons (ds_par 7 8 rfl nd (dx_call (c__law_row h) hr (by decide) (fun F => ⟨[], .nil, b__law_row F⟩) (da_cons (de_var 1) (da_cons (de_var 5) (da_cons (de_ix ((df_lst (da_cons de_int (da_cons de_int da_nil)))).dv (de_callTy dc_int h.fr_int boot_int' (daw_cons ((de_var 3)).dv daw_nil))) da_nil)))) (dx_call (c__law_row h) hr (by decide) (fun F => ⟨[], .nil, b__law_row F⟩) (da_cons (de_var 1) (da_cons (de_var 5) (da_cons de_int da_nil)))) (pp := fun z => ps_par rfl nd rfl rfl (by decide) rfl rfl z rfl)) (dss_cons (ds_if ((dw_or (db_not (db_val (dx_call (c__law_put_right h) hr (by decide) (fun F => ⟨[], .nil, b__law_put_right F⟩) (da_cons (de_var 7) (da_cons (de_var 5) (da_cons (de_var 6) (da_cons (de_ix ((de_var 4)).dv de_int) da_nil))))))) (dw_or1 (db_not (db_val (dx_call (c__law_put_right h) hr (by decide) (fun F => ⟨[], .nil, b__law_put_right F⟩) (da_cons (de_var 8) (da_cons (de_var 5) (da_cons (de_var 6) (da_cons (de_ix ((de_var 4)).dv de_int) da_nil)))))))))).db (dss_one (ds_ret (de_bl).dv)) dss_nil) (dss_cons (ds_if ((dw_or (db_not (db_val (dx_call (c__law_same_there h) hr (by decide) (fun F => ⟨[], .nil, b__law_same_there F⟩) (da_cons (de_var 7) (da_cons (de_var 8) (da_cons (de_var 5) (da_cons (de_var 6) da_nil))))))) (dw_or1 (db_not (db_val (dx_call (c__law_same_there h) hr (by decide) (fun F => ⟨[], .nil, b__law_same_there F⟩) (da_cons (de_var 8) (da_cons (de_var 7) (da_cons (de_var 5) (da_cons (de_var 6) da_nil)))))))))).db (dss_one (ds_ret (de_bl).dv)) dss_nil) (dss_one (ds_if (db_not (db_val (dx_call (c__law_longs_right h) hr (by decide) (fun F => ⟨[], .nil, b__law_longs_right F⟩) (da_cons (dx_make (c_Long_init h) hr (by decide) h.Long_g bgk_Long_1_base_below (da_cons (de_var 7) da_nil) (dk_cons (de_var 5) (dk_cons (de_ix ((de_var 4)).dv de_int) dk_nil)) rgk_Long_1_base_below) (da_cons (dx_make (c_Long_init h) hr (by decide) h.Long_g bgk_Long_1_base_below (da_cons (de_var 8) da_nil) (dk_cons (de_var 5) (dk_cons (de_ix ((de_var 4)).dv de_int) dk_nil)) rgk_Long_1_base_below) (da_cons (de_var 6) da_nil)))))) (dss_one (ds_ret (de_bl).dv)) dss_nil))))))))) (dss_one (ds_ret (de_bl).dv)))) ok_law
end

end MD
end
section
set_option maxHeartbeats 0
open PySem PySem.W PySem.Calls PyProof.Rows
theorem PySem.Challenge.cw_manyroads_k84_through_texts_and_bases_holds : PySem.Challenge.rw_manyroads_k84_through_texts_and_bases.Holds := by
  w_on; o_law
  refine HandSHeadRun.head_any (r := OpenLaw.row PySem.Challenge.rw_manyroads_k84_through_texts_and_bases) (q := view (OpenLaw.row PySem.Challenge.rw_manyroads_k84_through_texts_and_bases).prog [63]) (H := Hd.hk) (ob := Hd.ob) (M := 20000) (loose := Hd.names)
    (d := HandSHeadRun.topDef (OpenLaw.row PySem.Challenge.rw_manyroads_k84_through_texts_and_bases).prog 63) (kwd := []) Hd.ob_eq
    (by kernel_rfl) (fun s => by kernel_rfl) Hd.run (by kernel_rfl) (by kernel_rfl) (by kernel_rfl) (by rfl) (by first | assumption | decide +kernel) (by decide +kernel) ⟨rfl, rfl, rfl, rfl, rfl, by decide +kernel⟩ ?hw ?hc
  case hw => w_witness2
  case hc =>
    refine MD.walk_ofG (l := PySem.Challenge.rw_manyroads_k84_through_texts_and_bases) (n := 63) (k := 19) (x := "_law_script") rfl (by decide) (by kernel_rfl) ⟨⟨rfl, by decide, by decide⟩, rfl⟩ ?F
    intro w mg fa h Y G hmg0
    obtain ⟨K, KX, c0⟩ := Y
    have c := c0.t.d
    have hmg : mg ("law" : PySem.Str) = some (.ref fa) := by
      have e : (HandSHeadRun.topDef (OpenLaw.row PySem.Challenge.rw_manyroads_k84_through_texts_and_bases).prog 63).name = ("law" : PySem.Str) := by kernel_rfl
      rw [← e]
      exact hmg0
    obtain ⟨fd, F⟩ := c.def_ 51 (d := Hd.d51) rfl
    have hX : ∀ base : Heap, K.In base → base.Ns mainGlobals mg → MD.Fx K mg base := fun base X G => ⟨c, c0.more, X, G⟩
    have e := hmg.symm.trans (hX h KX G).gl_law
    cases e
    exact ⟨K, fd, MD.spLaw K, KX, fun s v => L2.FunD.bindsA (ps := ["_law_script"]) F (fun _ _ _ _ _ _ us hl => match us, hl with | [_], _ => rfl) s [v] rfl,
      fun H a ns hl hO hS => ⟨a, ns, rfl, hl, hO, hS, fun _ => rfl⟩, fun base X G => MD.d_law (hX base X G) F⟩
end
