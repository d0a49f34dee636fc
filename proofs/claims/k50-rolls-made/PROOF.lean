import PyProof.Rows.All
import Wide.All
import OpenK.AllK
import Wide.FinOn
import HandS.ForMost
import HandS.Lambda
import HandS.Wide
import HandS.WideBits
import HandS.IsInst
import HandS.Deep
import HandS.Style
import HandS.Exc
import HandS.CallSlots
import HandS.WordsExc
import HandS.TupLe
import HandS.ExcOwn
import HandS.SortInts
import HandS.More
import HandS.SortKw
import HandS.Set
import KE.SortKeyHeap
import HandS.Conv
import HandS.CallLocal
import HandS.Keys
import HandS.ClsMeth
import HandS.SetFor
import HandS.SetKeys
import HandS.Text
import HandS.Walk
import HandS.Iter
import HandS.TryOnly
import HandS.Small
import HandS.Defaults
import KE.KEqNest
import HandS.ExcIs
import HandS.HotCalls
import HandS.TryElse
import HandS.EndBits
import HandS.EndTab
import PySem.Challenge.RW_windchest_k50_rolls_made
set_option Elab.async false
set_option linter.all false
set_option maxRecDepth 100000
set_option maxHeartbeats 4000000
/-! Wc: a small evaluator of the programs' own text over plain data (T), things that change (O, by number), and what stands between (D). -/
namespace Wc
open PySem

abbrev Ky := Sum Int Str
/-- plain data, never changed any more -/
inductive T where
  | non | bl (b : Bool) | int (i : Int) | str (x : Str)
  | lst (xs : List T) | tup (xs : List T) | dct (kvs : List (Ky × T))
  | ins (c : Nat) (fs : List (Str × T))
  | fn (f : Nat)
  | scr (ns : List Int)
/-- a value: plain, a thing that may change, or a tuple that holds such -/
inductive D where
  | t (x : T) | ref (k : Nat) | tup (xs : List D)
/-- a thing that may change -/
inductive O where
  | dead | lst (xs : List D) | dct (kvs : List (Ky × D)) | ins (c : Nat) (fs : List (Str × D))
abbrev Ev := List (Option D)
abbrev Sto := List O
/-- how an expression ends: a value, an exception of a class with fields, or nothing is said -/
inductive R (α : Type) where
  | ok (a : α) (S : Sto) | ex (c : Nat) (fs : List (Str × T)) (S : Sto) | no
def R.bind {α β : Type} (r : R α) (f : α → Sto → R β) : R β := match r with
  | .ok a S => f a S
  | .ex c fs S => .ex c fs S
  | .no => .no
@[simp] theorem R.bind_ok {α β : Type} (a : α) (S : Sto) (f : α → Sto → R β) : (R.ok a S).bind f = f a S := rfl
@[simp] theorem R.bind_ex {α β : Type} (c : Nat) (fs) (S : Sto) (f : α → Sto → R β) : (R.ex c fs S : R α).bind f = .ex c fs S := rfl
@[simp] theorem R.bind_no {α β : Type} (f : α → Sto → R β) : (R.no : R α).bind f = .no := rfl

/-! ### plain data as data -/
mutual
def T.pd : T → Option PyData
  | .non => some .none
  | .bl b => some (.bool b)
  | .int i => some (.int i)
  | .str x => some (.str x)
  | .lst xs => (T.pds xs).map .list
  | .tup xs => (T.pds xs).map .tuple
  | _ => none
def T.pds : List T → Option (List PyData)
  | [] => some []
  | x :: xs => match T.pd x, T.pds xs with
    | some d, some ds => some (d :: ds)
    | _, _ => none
end

/-! ### things to plain data: what is frozen is never changed any more -/
def frzL (f : Sto → D → Option (T × Sto)) : Sto → List D → Option (List T × Sto)
  | S, [] => some ([], S)
  | S, d :: ds => match f S d with
    | some (t, S1) => match frzL f S1 ds with
      | some (ts, S2) => some (t :: ts, S2)
      | none => none
    | none => none
def alive (S : Sto) (k : Nat) : Bool := match S[k]? with
  | some .dead => false
  | some _ => true
  | none => false
def frz : Nat → Sto → D → Option (T × Sto)
  | _, S, .t x => some (x, S)
  | 0, _, _ => none
  | n + 1, S, .tup ds => match frzL (frz n) S ds with
    | some (ts, S1) => some (.tup ts, S1)
    | none => none
  | n + 1, S, .ref k => match S[k]? with
    | some (.lst ds) => match frzL (frz n) S ds with
      | some (ts, S1) => if alive S1 k then some (.lst ts, S1.set k .dead) else none
      | none => none
    | some (.dct kvs) => match frzL (frz n) S (kvs.map (·.2)) with
      | some (ts, S1) => if alive S1 k then some (.dct ((kvs.map (·.1)).zip ts), S1.set k .dead) else none
      | none => none
    | some (.ins c fs) => match frzL (frz n) S (fs.map (·.2)) with
      | some (ts, S1) => if alive S1 k then some (.ins c ((fs.map (·.1)).zip ts), S1.set k .dead) else none
      | none => none
    | _ => none
/-- plain at once, or not at all -/
def D.pl : D → Option T
  | .t x => some x
  | _ => none
def pls : List D → Option (List T)
  | [] => some []
  | .t x :: r => (pls r).map (x :: ·)
  | _ :: _ => none
/-- what a list, a tuple holds just now -/
def seqOf (S : Sto) : D → Option (List D)
  | .t (.lst xs) => some (xs.map .t)
  | .t (.tup xs) => some (xs.map .t)
  | .tup xs => some xs
  | .ref k => match S[k]? with
    | some (.lst xs) => some xs
    | _ => none
  | _ => none
/-- what stands there as plain data, the store as it is -/
def look (S : Sto) (d : D) : Option PyData := match frz 9 S d with
  | some (t, _) => t.pd
  | none => none
end Wc

/-! Wc: what stands for what: values, objects, the heap. -/
namespace Wc
open PySem L2

/-- where the text's defs and classes stand -/
structure Gd where
  K : PySem.W.Frag
  fa : Nat → Addr
  ca : Nat → Addr
  /-- the def that makes a lambda: its code object, that one's table, the lambda's name -/
  lam : Option (Addr × Addr × Str) := none
def Gd.tb (G : Gd) : List (Addr × Str) := match G.lam with
  | some (_, P, q) => [(P, q)]
  | none => []
mutual
inductive RT (G : Gd) (H : Hp) : V → T → Prop
  | non : RT G H .non .non
  | bl (b : Bool) : RT G H (.bl b) (.bl b)
  | int (i : Int) : RT G H (.int i) (.int i)
  | str (x : Str) : RT G H (.str x) (.str x)
  | lst {a : Addr} {xs : List V} {ts : List T} : H a = some (.lst xs) → RTs G H xs ts → RT G H (.ref a) (.lst ts)
  | tup {a : Addr} {xs : List V} {ts : List T} : H a = some (.tup xs) → RTs G H xs ts → RT G H (.ref a) (.tup ts)
  | dct {a : Addr} {kvs : List (Key × V)} {ts : List (Ky × T)} : H a = some (.dK kvs) → kvs.map (·.1) = ts.map (·.1) → RTs G H (kvs.map (·.2)) (ts.map (·.2)) → RT G H (.ref a) (.dct ts)
  | ins {a dx : Addr} {c : Nat} {fs : List (Str × V)} {ts : List (Str × T)} : H a = some (.ins (G.ca c) dx fs) → fs.map (·.1) = ts.map (·.1) → RTs G H (fs.map (·.2)) (ts.map (·.2)) → RT G H (.ref a) (.ins c ts)
  | fn (f : Nat) : RT G H (.ref (G.fa f)) (.fn f)
  | scr {a : Addr} {ns : List Int} : SqL G.K H a (ns.map V.int) → RT G H (.ref a) (.scr ns)
inductive RTs (G : Gd) (H : Hp) : List V → List T → Prop
  | nil : RTs G H [] []
  | cons {v : V} {vs : List V} {t : T} {ts : List T} : RT G H v t → RTs G H vs ts → RTs G H (v :: vs) (t :: ts)
end
/-- the frozen part of the heap; where the things stand -/
structure Wd where
  Hf : Hp
  F : List Addr
mutual
inductive RD (G : Gd) (W : Wd) : V → D → Prop
  | t {v : V} {x : T} : RT G W.Hf v x → RD G W v (.t x)
  | ref {a : Addr} {k : Nat} : W.F[k]? = some a → RD G W (.ref a) (.ref k)
  | tup {a : Addr} {xs : List V} {ds : List D} : W.Hf a = some (.tup xs) → RDs G W xs ds → RD G W (.ref a) (.tup ds)
inductive RDs (G : Gd) (W : Wd) : List V → List D → Prop
  | nil : RDs G W [] []
  | cons {v : V} {vs : List V} {d : D} {ds : List D} : RD G W v d → RDs G W vs ds → RDs G W (v :: vs) (d :: ds)
end
/-- what stands at a thing's address -/
inductive RO (G : Gd) (H : Hp) (W : Wd) (a : Addr) : O → Prop
  | dead : RO G H W a .dead
  | lst {xs : List V} {ds : List D} : H a = some (.lst xs) → RDs G W xs ds → RO G H W a (.lst ds)
  | dct {kvs : List (Key × V)} {ds : List (Ky × D)} : H a = some (.dK kvs) → kvs.map (·.1) = ds.map (·.1) → RDs G W (kvs.map (·.2)) (ds.map (·.2)) → RO G H W a (.dct ds)
  | ins {dx : Addr} {c : Nat} {fs : List (Str × V)} {ds : List (Str × D)} : H a = some (.ins (G.ca c) dx fs) → fs.map (·.1) = ds.map (·.1) → RDs G W (fs.map (·.2)) (ds.map (·.2)) → RO G H W a (.ins c ds)
/-- no table -/
abbrev nt (u : HO) : Prop := ∀ q, u ≠ .tbl q
/-- neither a table nor one of its code objects -/
def pl1 : HO → Bool
  | .tbl _ => false
  | .ext _ => false
  | _ => true
theorem pl1_nt {u : HO} (h : pl1 u = true) : nt u := fun q e => by subst e; cases h
/-- nothing but a table, if anything -/
def Fre (H : Hp) (a : Addr) : Prop := ∀ u, H a = some u → ¬ nt u
theorem Fre.of {H : Hp} {a : Addr} (h : H a = none) : Fre H a := fun u e => by rw [h] at e; cases e
theorem Fre.no {H : Hp} {a : Addr} {u : HO} (h : Fre H a) (e : H a = some u) (n : pl1 u = true) : False := h u e (pl1_nt n)
/-- the tables stand; they are none of the things -/
structure TabI (G : Gd) (H : Hp) (W : Wd) : Prop where
  t : LamX.Tabs G.tb H
  f : ∀ a ∈ W.F, ∀ u, H a = some u → pl1 u = true
  h : ∀ a u, W.Hf a = some u → pl1 u = true
theorem tabs_keep {T : List (Addr × Str)} {H H' : Hp} (t : LamX.Tabs T H) (e : ∀ a u, H a = some u → pl1 u = false → H' a = some u) : LamX.Tabs T H' := fun p hp => by
  obtain ⟨ps, h1, h2, h3⟩ := t p hp
  refine ⟨ps, e _ _ h1 rfl, h2, fun pos cv hc => ?_⟩
  obtain ⟨c, e1, e2⟩ := h3 pos cv hc
  exact ⟨c, e1, e _ _ e2 rfl⟩
structure Rel (G : Gd) (H : Hp) (W : Wd) (S : Sto) : Prop where
  tab : TabI G H W
  sub : Same W.Hf H
  len : W.F.length = S.length
  nd : ∀ (i j : Nat) (a : Addr), W.F[i]? = some a → W.F[j]? = some a → i = j
  out : ∀ a ∈ W.F, ∃ u, H a = some u
  apart : ∀ (k : Nat) (o : O) (a : Addr), S[k]? = some o → W.F[k]? = some a → o ≠ .dead → W.Hf a = none
  obj : ∀ (k : Nat) (o : O) (a : Addr), S[k]? = some o → W.F[k]? = some a → RO G H W a o
/-- from one state to a later one -/
structure Ext (H : Hp) (W : Wd) (H' : Hp) (W' : Wd) : Prop where
  hf : Same W.Hf W'.Hf
  f : W.F <+: W'.F
  old : ∀ a u, H a = some u → a ∉ W.F → nt u → H' a = some u
  live : ∀ a u, H a = some u → nt u → ∃ u', H' a = some u' ∧ nt u'
  fresh : ∀ a, W'.Hf a ≠ none → W.Hf a ≠ none ∨ Fre H a ∨ a ∈ W.F
  freshF : ∀ a ∈ W'.F, a ∈ W.F ∨ Fre H a
section
variable {G : Gd} {H H' H'' : Hp} {W W' W'' : Wd} {S S' : Sto}
theorem rd_mono {K : PySem.W.Frag} {a : Addr} {xs : List V} (e : Same H H') (h : SqL K H a xs) : SqL K H' a xs := e.seq h
mutual
theorem RT.mono (e : Same H H') : ∀ {t : T} {v : V}, RT G H v t → RT G H' v t
  | .non, _, h => by cases h; exact .non
  | .bl b, _, h => by cases h; exact .bl b
  | .int i, _, h => by cases h; exact .int i
  | .str x, _, h => by cases h; exact .str x
  | .lst ts, _, h => by cases h with | lst h1 h2 => exact .lst (e _ _ h1) (RTs.mono e h2)
  | .tup ts, _, h => by cases h with | tup h1 h2 => exact .tup (e _ _ h1) (RTs.mono e h2)
  | .dct ts, _, h => by cases h with | dct h1 h3 h2 => exact .dct (e _ _ h1) h3 (RTk.mono e h2)
  | .ins c ts, _, h => by cases h with | ins h1 h3 h2 => exact .ins (e _ _ h1) h3 (RTf.mono e h2)
  | .fn f, _, h => by cases h; exact .fn f
  | .scr ns, _, h => by cases h with | scr h1 => exact .scr (e.seq h1)
theorem RTs.mono (e : Same H H') : ∀ {ts : List T} {vs : List V}, RTs G H vs ts → RTs G H' vs ts
  | [], _, h => by cases h; exact .nil
  | t :: ts, _, h => by cases h with | cons h1 h2 => exact .cons (RT.mono e h1) (RTs.mono e h2)
theorem RTk.mono (e : Same H H') : ∀ {ts : List (Ky × T)} {vs : List V}, RTs G H vs (ts.map (·.2)) → RTs G H' vs (ts.map (·.2))
  | [], _, h => by cases h; exact .nil
  | (_, t) :: ts, _, h => by cases h with | cons h1 h2 => exact .cons (RT.mono e h1) (RTk.mono e h2)
theorem RTf.mono (e : Same H H') : ∀ {ts : List (Str × T)} {vs : List V}, RTs G H vs (ts.map (·.2)) → RTs G H' vs (ts.map (·.2))
  | [], _, h => by cases h; exact .nil
  | (_, t) :: ts, _, h => by cases h with | cons h1 h2 => exact .cons (RT.mono e h1) (RTf.mono e h2)
end
theorem Pre.at {F F' : List Addr} (p : F <+: F') {k : Nat} {a : Addr} (h : F[k]? = some a) : F'[k]? = some a := by
  obtain ⟨r, rfl⟩ := p
  have hk := (List.getElem?_eq_some_iff.mp h).1
  rw [List.getElem?_append_left hk]; exact h
mutual
theorem RD.mono' (e : Same W.Hf W'.Hf) (p : W.F <+: W'.F) : ∀ {d : D} {v : V}, RD G W v d → RD G W' v d
  | .t x, _, h => by cases h with | t h => exact .t (h.mono e)
  | .ref k, _, h => by cases h with | ref h => exact .ref (Pre.at p h)
  | .tup ds, _, h => by cases h with | tup h1 h2 => exact .tup (e _ _ h1) (RDs.mono' e p h2)
theorem RDs.mono' (e : Same W.Hf W'.Hf) (p : W.F <+: W'.F) : ∀ {ds : List D} {vs : List V}, RDs G W vs ds → RDs G W' vs ds
  | [], _, h => by cases h; exact .nil
  | d :: ds, _, h => by cases h with | cons h1 h2 => exact .cons (RD.mono' e p h1) (RDs.mono' e p h2)
end
theorem RD.mono (x : Ext H W H' W') {d : D} {v : V} (h : RD G W v d) : RD G W' v d := RD.mono' x.hf x.f h
theorem RDs.mono (x : Ext H W H' W') {ds : List D} {vs : List V} (h : RDs G W vs ds) : RDs G W' vs ds := RDs.mono' x.hf x.f h
theorem RDs.length : ∀ {ds : List D} {vs : List V}, RDs G W vs ds → vs.length = ds.length
  | [], _, h => by cases h; rfl
  | d :: ds, _, h => by cases h with | cons h1 h2 => simp [RDs.length h2]
theorem RTs.length : ∀ {ts : List T} {vs : List V}, RTs G H vs ts → vs.length = ts.length
  | [], _, h => by cases h; rfl
  | d :: ds, _, h => by cases h with | cons h1 h2 => simp [RTs.length h2]
theorem RDs.get : ∀ {ds : List D} {vs : List V} {i : Nat} {d : D}, RDs G W vs ds → ds[i]? = some d → ∃ v, vs[i]? = some v ∧ RD G W v d
  | _ :: _, _, 0, d, h, e => by
    cases h with
    | cons h1 h2 =>
      simp at e; subst e
      exact ⟨_, rfl, h1⟩
  | _ :: _, _, i + 1, d, h, e => by
    cases h with
    | cons h1 h2 =>
      obtain ⟨v, a, b⟩ := RDs.get (i := i) h2 (by simpa using e)
      exact ⟨v, by simpa using a, b⟩
theorem RDs.append : ∀ {ds es : List D} {vs ws : List V}, RDs G W vs ds → RDs G W ws es → RDs G W (vs ++ ws) (ds ++ es)
  | [], _, _, _, h, k => by cases h; exact k
  | d :: ds, _, _, _, h, k => by cases h with | cons h1 h2 => exact .cons h1 (RDs.append h2 k)
theorem RDs.ofT : ∀ {ts : List T} {vs : List V}, RTs G W.Hf vs ts → RDs G W vs (ts.map .t)
  | [], _, h => by cases h; exact .nil
  | t :: ts, _, h => by cases h with | cons h1 h2 => exact .cons (.t h1) (RDs.ofT h2)
theorem RDs.toT : ∀ {ts : List T} {vs : List V}, RDs G W vs (ts.map .t) → RTs G W.Hf vs ts
  | [], _, h => by cases h; exact .nil
  | t :: ts, _, h => by cases h with | cons h1 h2 => cases h1 with | t h1 => exact .cons h1 (RDs.toT h2)
theorem pls_eq : ∀ {ds : List D} {ts : List T}, pls ds = some ts → ds = ts.map .t
  | [], ts, h => by simp [pls] at h; subst h; rfl
  | .t x :: r, ts, h => by
    simp only [pls, Option.map_eq_some_iff] at h
    obtain ⟨us, h, rfl⟩ := h
    simp [pls_eq h]
  | .ref k :: r, ts, h => by simp [pls] at h
  | .tup k :: r, ts, h => by simp [pls] at h
@[simp] theorem pls_map : ∀ ts : List T, pls (ts.map .t) = some ts
  | [] => rfl
  | t :: ts => by simp [pls, pls_map ts]
theorem Ext.refl : Ext H W H W := ⟨Same.refl _, List.prefix_refl _, fun _ _ h _ _ => h, fun _ u h n => ⟨u, h, n⟩, fun _ h => .inl h, fun _ h => .inl h⟩
theorem Fre.back (a : Ext H W H' W') {x : Addr} (q : Fre H' x) : Fre H x := fun u e n => by
  obtain ⟨u', h', n'⟩ := a.live x u e n
  exact q u' h' n'
theorem Ext.trans (a : Ext H W H' W') (b : Ext H' W' H'' W'') : Ext H W H'' W'' where
  hf := a.hf.trans b.hf
  f := a.f.trans b.f
  old := fun x u h n k => b.old x u (a.old x u h n k) (fun m => by
    rcases a.freshF x m with q | q
    · exact n q
    · exact q u h k) k
  live := fun x u h n => let ⟨u', h', n'⟩ := a.live x u h n; b.live x u' h' n'
  fresh := fun x h => by
    rcases b.fresh x h with q | q | q
    · exact a.fresh x q
    · exact .inr (.inl (q.back a))
    · rcases a.freshF x q with q | q
      · exact .inr (.inr q)
      · exact .inr (.inl q)
  freshF := fun x h => by
    rcases b.freshF x h with q | q
    · exact a.freshF x q
    · exact .inr (q.back a)
theorem RO.mono {a : Addr} {o : O} (h : RO G H W a o) (e : ∀ u, H a = some u → pl1 u = true → H' a = some u) (hf : Same W.Hf W'.Hf) (p : W.F <+: W'.F) : RO G H' W' a o := by
  cases h with
  | dead => exact .dead
  | lst h1 h2 => exact .lst (e _ h1 rfl) (RDs.mono' hf p h2)
  | dct h1 h3 h2 => exact .dct (e _ h1 rfl) h3 (RDs.mono' hf p h2)
  | ins h1 h3 h2 => exact .ins (e _ h1 rfl) h3 (RDs.mono' hf p h2)
theorem Rel.inF (r : Rel G H W S) {k : Nat} {a : Addr} (h : W.F[k]? = some a) : a ∈ W.F := List.mem_of_getElem? h
/-- a new object that is frozen at once -/
theorem Rel.new (r : Rel G H W S) {p : Addr} {o : HO} (hp : H p = none) (ho : pl1 o = true := by rfl) : Rel G (upd H p o) ⟨upd W.Hf p o, W.F⟩ S ∧ Ext H W (upd H p o) ⟨upd W.Hf p o, W.F⟩ := by
  have hfp : W.Hf p = none := r.sub.free hp
  have s1 : Same W.Hf (upd W.Hf p o) := fun b u e => by rw [upd_ne (ne_of_none e hfp)]; exact e
  have s2 : Same H (upd H p o) := fun b u e => by rw [upd_ne (ne_of_none e hp)]; exact e
  have nF : ∀ a ∈ W.F, a ≠ p := fun a ha e => by
    obtain ⟨u, hu⟩ := r.out a ha
    rw [e, hp] at hu; cases hu
  refine ⟨⟨⟨tabs_keep r.tab.t fun a u e _ => s2 a u e, fun a ha u e => ?_, fun a u e => ?_⟩, fun b u e => ?_, r.len, r.nd, fun a ha => ?_, fun k q a h1 h2 hd => ?_, fun k q a h1 h2 => ?_⟩, ⟨s1, List.prefix_refl _, fun a u h _ _ => s2 a u h, fun a u h n => ⟨u, s2 a u h, n⟩, fun a h => ?_, fun a h => .inl h⟩⟩
  · rw [upd_ne (nF a ha)] at e
    exact r.tab.f a ha u e
  · have e : upd W.Hf p o a = some u := e
    by_cases e1 : a = p
    · subst e1; rw [upd_same] at e; cases e; exact ho
    · rw [upd_ne e1] at e; exact r.tab.h a u e
  · have e : upd W.Hf p o b = some u := e
    by_cases e1 : b = p
    · subst e1; rw [upd_same] at e; rw [upd_same]; exact e
    · rw [upd_ne e1] at e; rw [upd_ne e1]; exact r.sub _ _ e
  · obtain ⟨u, hu⟩ := r.out a ha
    exact ⟨u, s2 a u hu⟩
  · show upd W.Hf p o a = none
    rw [upd_ne (nF a (r.inF h2))]; exact r.apart k q a h1 h2 hd
  · exact (r.obj k q a h1 h2).mono (fun u e _ => s2 a u e) s1 (List.prefix_refl _)
  · by_cases e1 : a = p
    · subst e1; exact .inr (.inl (Fre.of hp))
    · exact .inl (by have h' : upd W.Hf p o a ≠ none := h; rw [upd_ne e1] at h'; exact h')
/-- a new object that is a thing -/
theorem Rel.alloc (r : Rel G H W S) {p : Addr} {u : HO} {o : O} (hp : H p = none) (ho : ∀ H' W', H' p = some u → Same W.Hf W'.Hf → W.F <+: W'.F → RO G H' W' p o) (hu : pl1 u = true := by rfl) :
    Rel G (upd H p u) ⟨W.Hf, W.F ++ [p]⟩ (S ++ [o]) ∧ Ext H W (upd H p u) ⟨W.Hf, W.F ++ [p]⟩ := by
  have hfp : W.Hf p = none := r.sub.free hp
  have s2 : Same H (upd H p u) := fun b x e => by rw [upd_ne (ne_of_none e hp)]; exact e
  have pr : W.F <+: W.F ++ [p] := List.prefix_append _ _
  have nF : p ∉ W.F := fun ha => by
    obtain ⟨x, hu⟩ := r.out p ha
    rw [hp] at hu; cases hu
  have spl : ∀ {k : Nat} {a : Addr}, (W.F ++ [p])[k]? = some a → (k < W.F.length ∧ W.F[k]? = some a) ∨ (k = W.F.length ∧ a = p) := fun {k a} h => by
    by_cases hk : k < W.F.length
    · rw [List.getElem?_append_left hk] at h; exact .inl ⟨hk, h⟩
    · have hk' := (List.getElem?_eq_some_iff.mp h).1
      have e : k = W.F.length := by simp at hk'; omega
      subst e
      exact .inr ⟨rfl, by simpa using h.symm⟩
  have splS : ∀ {k : Nat} {q : O}, (S ++ [o])[k]? = some q → (k < S.length ∧ S[k]? = some q) ∨ (k = S.length ∧ q = o) := fun {k q} h => by
    by_cases hk : k < S.length
    · rw [List.getElem?_append_left hk] at h; exact .inl ⟨hk, h⟩
    · have hk' := (List.getElem?_eq_some_iff.mp h).1
      have e : k = S.length := by simp at hk'; omega
      subst e
      exact .inr ⟨rfl, by simpa using h.symm⟩
  refine ⟨⟨⟨tabs_keep r.tab.t fun a u e _ => s2 a u e, fun a ha v e => ?_, r.tab.h⟩, fun b x e => s2 b x (r.sub _ _ e), by simp [r.len], fun i j a h1 h2 => ?_, fun a ha => ?_, fun k q a h1 h2 hd => ?_, fun k q a h1 h2 => ?_⟩, ⟨Same.refl _, pr, fun a x h _ _ => s2 a x h, fun a x h n => ⟨x, s2 a x h, n⟩, fun a h => .inl h, fun a h => ?_⟩⟩
  · rcases List.mem_append.mp ha with h | h
    · have q : a ≠ p := fun z => nF (z ▸ h)
      rw [upd_ne q] at e
      exact r.tab.f a h v e
    · simp at h; subst h; rw [upd_same] at e; cases e; exact hu
  · rcases spl h1 with ⟨l1, e1⟩ | ⟨l1, e1⟩ <;> rcases spl h2 with ⟨l2, e2⟩ | ⟨l2, e2⟩
    · exact r.nd i j a e1 e2
    · subst e2; exact absurd (List.mem_of_getElem? e1) nF
    · subst e1; exact absurd (List.mem_of_getElem? e2) nF
    · omega
  · rcases List.mem_append.mp ha with h | h
    · obtain ⟨x, hu⟩ := r.out a h
      exact ⟨x, s2 a x hu⟩
    · simp at h; subst h; exact ⟨u, upd_same⟩
  · rcases spl h2 with ⟨l2, e2⟩ | ⟨l2, e2⟩
    · rcases splS h1 with ⟨l1, e1⟩ | ⟨l1, e1⟩
      · exact r.apart k q a e1 e2 hd
      · rw [r.len] at l2; omega
    · subst e2; exact hfp
  · rcases spl h2 with ⟨l2, e2⟩ | ⟨l2, e2⟩
    · rcases splS h1 with ⟨l1, e1⟩ | ⟨l1, e1⟩
      · exact (r.obj k q a e1 e2).mono (fun u e _ => s2 a u e) (Same.refl _) pr
      · rw [r.len] at l2; omega
    · rcases splS h1 with ⟨l1, e1⟩ | ⟨l1, e1⟩
      · rw [r.len] at l2; omega
      · subst e2; subst e1; exact ho _ _ upd_same (Same.refl _) pr
  · rcases List.mem_append.mp h with h | h
    · exact .inl h
    · simp at h; subst h; exact .inr (Fre.of hp)
/-- a thing is changed -/
theorem Rel.put (r : Rel G H W S) {k : Nat} {a : Addr} {u : HO} {o o' : O} (ha : W.F[k]? = some a) (hS : S[k]? = some o') (hd : o' ≠ .dead) (ho : ∀ H', H' a = some u → RO G H' W a o) (hu : pl1 u = true := by rfl) :
    Rel G (upd H a u) W (S.set k o) ∧ Ext H W (upd H a u) W := by
  have hin := r.inF ha
  have ha0 := r.apart k o' a hS ha hd
  have hk : k < S.length := (List.getElem?_eq_some_iff.mp hS).1
  have lv : ∀ b x, H b = some x → ∃ y, upd H a u b = some y := fun b x e => by
    by_cases q : b = a
    · subst q; exact ⟨u, upd_same⟩
    · exact ⟨x, by rw [upd_ne q]; exact e⟩
  have lvn : ∀ b x, H b = some x → nt x → ∃ y, upd H a u b = some y ∧ nt y := fun b x e n => by
    by_cases q : b = a
    · subst q; exact ⟨u, upd_same, pl1_nt hu⟩
    · exact ⟨x, by rw [upd_ne q]; exact e, n⟩
  refine ⟨⟨⟨tabs_keep r.tab.t fun b v e n => ?_, fun b hb v e => ?_, r.tab.h⟩, fun b x e => ?_, by simp [r.len], r.nd, fun b hb => ?_, fun j q b h1 h2 hq => ?_, fun j q b h1 h2 => ?_⟩, ⟨Same.refl _, List.prefix_refl _, fun b x h n _ => ?_, lvn, fun b h => .inl h, fun b h => .inl h⟩⟩
  · have q : b ≠ a := fun z => by
      subst z
      rw [r.tab.f b hin v e] at n
      cases n
    rw [upd_ne q]; exact e
  · by_cases q : b = a
    · subst q; rw [upd_same] at e; cases e; exact hu
    · rw [upd_ne q] at e; exact r.tab.f b hb v e
  · have q : b ≠ a := fun z => by rw [z, ha0] at e; cases e
    rw [upd_ne q]; exact r.sub _ _ e
  · obtain ⟨x, hx⟩ := r.out b hb
    exact lv b x hx
  · by_cases e : k = j
    · subst e
      rw [ha] at h2; cases h2; exact ha0
    · rw [List.getElem?_set_ne e] at h1
      exact r.apart j q b h1 h2 hq
  · by_cases e : k = j
    · subst e
      rw [List.getElem?_set_self hk] at h1
      have e1 : o = q := by simpa using h1
      have e2 : a = b := by rw [ha] at h2; simpa using h2
      subst e1; subst e2
      exact ho _ upd_same
    · rw [List.getElem?_set_ne e] at h1
      have q' : b ≠ a := fun z => by
        subst z
        exact e (r.nd k j b ha h2)
      exact (r.obj j q b h1 h2).mono (fun x hx _ => by rw [upd_ne q']; exact hx) (Same.refl _) (List.prefix_refl _)
  · have q : b ≠ a := fun z => n (z ▸ hin)
    rw [upd_ne q]; exact h
/-- a thing is frozen -/
theorem Rel.freeze (r : Rel G H W S) {k : Nat} {a : Addr} {u : HO} {o' : O} (ha : W.F[k]? = some a) (hS : S[k]? = some o') (hd : o' ≠ .dead) (hu : H a = some u) :
    Rel G H ⟨upd W.Hf a u, W.F⟩ (S.set k .dead) ∧ Ext H W H ⟨upd W.Hf a u, W.F⟩ := by
  have ha0 := r.apart k o' a hS ha hd
  have hin := r.inF ha
  have hk : k < S.length := (List.getElem?_eq_some_iff.mp hS).1
  have s1 : Same W.Hf (upd W.Hf a u) := fun b x e => by rw [upd_ne (ne_of_none e ha0)]; exact e
  refine ⟨⟨⟨r.tab.t, r.tab.f, fun b v e => ?_⟩, fun b x e => ?_, by simp [r.len], r.nd, r.out, fun j q b h1 h2 hq => ?_, fun j q b h1 h2 => ?_⟩, ⟨s1, List.prefix_refl _, fun b x h _ _ => h, fun b x h n => ⟨x, h, n⟩, fun b h => ?_, fun b h => .inl h⟩⟩
  · have e : upd W.Hf a u b = some v := e
    by_cases q : b = a
    · subst q; rw [upd_same] at e; cases e; exact r.tab.f b hin u hu
    · rw [upd_ne q] at e; exact r.tab.h _ _ e
  · have e : upd W.Hf a u b = some x := e
    by_cases q : b = a
    · subst q; rw [upd_same] at e; cases e; exact hu
    · rw [upd_ne q] at e; exact r.sub _ _ e
  · by_cases e : k = j
    · subst e
      rw [List.getElem?_set_self hk] at h1
      cases h1; exact absurd rfl hq
    · rw [List.getElem?_set_ne e] at h1
      have q' : b ≠ a := fun z => by
        subst z
        exact e (r.nd k j b ha h2)
      show upd W.Hf a u b = none
      rw [upd_ne q']; exact r.apart j q b h1 h2 hq
  · by_cases e : k = j
    · subst e
      rw [List.getElem?_set_self hk] at h1
      cases h1; exact .dead
    · rw [List.getElem?_set_ne e] at h1
      exact (r.obj j q b h1 h2).mono (fun x hx _ => hx) s1 (List.prefix_refl _)
  · by_cases e1 : b = a
    · subst e1; exact .inr (.inr hin)
    · exact .inl (by have h' : upd W.Hf a u b ≠ none := h; rw [upd_ne e1] at h'; exact h')
/-- a call apart: nothing of the caller's things is known to the callee -/
theorem Rel.apartW (r : Rel G H W S) : Rel G H ⟨W.Hf, []⟩ [] :=
  ⟨⟨r.tab.t, (fun a h => by simp at h), r.tab.h⟩, r.sub, rfl, fun i j a h => by simp at h, fun a h => by simp at h, fun k o a h => by simp at h, fun k o a h => by simp at h⟩
theorem Rel.back (r : Rel G H W S) {W1 : Wd} {S1 : Sto} (r1 : Rel G H' W1 S1) (x : Ext H ⟨W.Hf, []⟩ H' W1) : Rel G H' ⟨W1.Hf, W.F⟩ S ∧ Ext H W H' ⟨W1.Hf, W.F⟩ := by
  have sm : LamX.ExtN H H' := fun a u h n => x.old a u h (by simp) n
  have sp : ∀ a ∈ W.F, ∀ u, H a = some u → H' a = some u := fun a ha u h => sm a u h (pl1_nt (r.tab.f a ha u h))
  refine ⟨⟨⟨r1.tab.t, fun a ha u h => ?_, r1.tab.h⟩, r1.sub, r.len, r.nd, fun a h => ?_, fun k o a h1 h2 hd => ?_, fun k o a h1 h2 => ?_⟩, ⟨x.hf, List.prefix_refl _, fun a u h _ n => sm a u h n, x.live, fun a h => ?_, fun a h => .inl h⟩⟩
  · obtain ⟨u0, h0⟩ := r.out a ha
    rw [sp a ha u0 h0] at h
    cases h
    exact r.tab.f a ha _ h0
  · obtain ⟨u, hu⟩ := r.out a h
    exact ⟨u, sp a h u hu⟩
  · have h0 := r.apart k o a h1 h2 hd
    cases e : W1.Hf a with
    | none => rfl
    | some u =>
      have q := x.fresh a (by rw [e]; simp)
      rcases q with q | q | q
      · exact absurd h0 q
      · obtain ⟨y, hy⟩ := r.out a (r.inF h2)
        exact (q.no hy (r.tab.f a (r.inF h2) y hy)).elim
      · simp at q
  · exact (r.obj k o a h1 h2).mono (fun u e n => sm a u e (pl1_nt n)) x.hf (List.prefix_refl _)
  · rcases x.fresh a h with q | q | q
    · exact .inl q
    · exact .inr (.inl q)
    · simp at q
/-- the tables alone have grown -/
theorem Rel.laterN (r : Rel G H W S) (e : LamX.ExtN H H') (t : LamX.Tabs G.tb H') : Rel G H' W S := by
  have sp : ∀ a ∈ W.F, ∀ u, H a = some u → H' a = some u := fun a ha u h => e a u h (pl1_nt (r.tab.f a ha u h))
  refine ⟨⟨t, fun a ha u h => ?_, r.tab.h⟩, fun a u h => e a u (r.sub a u h) (pl1_nt (r.tab.h a u h)), r.len, r.nd, fun a h => ?_, r.apart, fun k o a h1 h2 => (r.obj k o a h1 h2).mono (fun u h n => e a u h (pl1_nt n)) (Same.refl _) (List.prefix_refl _)⟩
  · obtain ⟨u0, h0⟩ := r.out a ha
    rw [sp a ha u0 h0] at h
    cases h
    exact r.tab.f a ha _ h0
  · obtain ⟨u, hu⟩ := r.out a h
    exact ⟨u, sp a h u hu⟩
theorem Ext.laterN (e : LamX.ExtN H H') : Ext H W H' W :=
  ⟨Same.refl _, List.prefix_refl _, fun a u h _ n => e a u h n, fun a u h n => ⟨u, e a u h n, n⟩, fun a h => .inl h, fun a h => .inl h⟩

/-- freezing changes nothing in the heap -/
def Frz (G : Gd) (f : Sto → D → Option (T × Sto)) : Prop := ∀ ⦃H : Hp⦄ ⦃W : Wd⦄ ⦃S S' : Sto⦄ ⦃v : V⦄ ⦃d : D⦄ ⦃t : T⦄, Rel G H W S → RD G W v d → f S d = some (t, S') →
  ∃ W', Rel G H W' S' ∧ Ext H W H W' ∧ RT G W'.Hf v t ∧ W'.F = W.F
theorem frzL_ok {f : Sto → D → Option (T × Sto)} (hf : Frz G f) : ∀ {ds : List D} {H : Hp} {W : Wd} {S S' : Sto} {vs : List V} {ts : List T}, Rel G H W S → RDs G W vs ds → frzL f S ds = some (ts, S') →
    ∃ W', Rel G H W' S' ∧ Ext H W H W' ∧ RTs G W'.Hf vs ts ∧ W'.F = W.F
  | [], H, W, S, S', vs, ts, r, h, e => by
    cases h
    simp [frzL] at e
    obtain ⟨rfl, rfl⟩ := e
    exact ⟨W, r, Ext.refl, .nil, rfl⟩
  | d :: ds, H, W, S, S', vs, ts, r, h, e => by
    cases h with
    | cons h1 h2 =>
      unfold frzL at e
      cases e1 : f S d with
      | none => rw [e1] at e; cases e
      | some p =>
        obtain ⟨t, S1⟩ := p
        rw [e1] at e
        simp only at e
        cases e2 : frzL f S1 ds with
        | none => rw [e2] at e; cases e
        | some p =>
          obtain ⟨us, S2⟩ := p
          rw [e2] at e
          simp only [Option.some.injEq, Prod.mk.injEq] at e
          obtain ⟨rfl, rfl⟩ := e
          obtain ⟨W1, r1, x1, q1, f1⟩ := hf r h1 e1
          obtain ⟨W2, r2, x2, q2, f2⟩ := frzL_ok hf r1 (h2.mono x1) e2
          exact ⟨W2, r2, x1.trans x2, .cons (q1.mono x2.hf) q2, f2.trans f1⟩
theorem frzL_len {f : Sto → D → Option (T × Sto)} : ∀ {ds : List D} {S S' : Sto} {ts : List T}, frzL f S ds = some (ts, S') → ts.length = ds.length
  | [], S, S', ts, e => by
    simp [frzL] at e
    obtain ⟨rfl, rfl⟩ := e
    rfl
  | d :: ds, S, S', ts, e => by
    unfold frzL at e
    cases e1 : f S d with
    | none => rw [e1] at e; cases e
    | some p =>
      obtain ⟨t, S1⟩ := p
      rw [e1] at e
      simp only at e
      cases e2 : frzL f S1 ds with
      | none => rw [e2] at e; cases e
      | some p =>
        obtain ⟨us, S2⟩ := p
        rw [e2] at e
        simp only [Option.some.injEq, Prod.mk.injEq] at e
        obtain ⟨rfl, rfl⟩ := e
        simp [frzL_len e2]
theorem frz_set : ∀ {n : Nat} {S S' : Sto} {d : D} {t : T} {k : Nat} {o : O}, frz n S d = some (t, S') → S'[k]? = some o → o ≠ .dead → S[k]? = some o
  | 0, S, S', d, t, k, o, e, h, hd => by
    cases d <;> simp [frz] at e
    obtain ⟨rfl, rfl⟩ := e
    exact h
  | n + 1, S, S', d, t, k, o, e, h, hd => by
    have hl : ∀ {ds : List D} {S S' : Sto} {ts : List T}, frzL (frz n) S ds = some (ts, S') → S'[k]? = some o → S[k]? = some o := by
      intro ds
      induction ds with
      | nil =>
        intro S S' ts e h
        simp [frzL] at e
        obtain ⟨rfl, rfl⟩ := e
        exact h
      | cons d ds ih =>
        intro S S' ts e h
        unfold frzL at e
        cases e1 : frz n S d with
        | none => rw [e1] at e; cases e
        | some p =>
          obtain ⟨t, S1⟩ := p
          rw [e1] at e
          simp only at e
          cases e2 : frzL (frz n) S1 ds with
          | none => rw [e2] at e; cases e
          | some p =>
            obtain ⟨us, S2⟩ := p
            rw [e2] at e
            simp only [Option.some.injEq, Prod.mk.injEq] at e
            obtain ⟨rfl, rfl⟩ := e
            exact frz_set e1 (ih e2 h) hd
    have hs : ∀ {S1 : Sto} {j : Nat}, (S1.set j O.dead)[k]? = some o → S1[k]? = some o := fun {S1 j} h => by
      by_cases q : j = k
      · subst q
        by_cases l : j < S1.length
        · rw [List.getElem?_set_self l] at h; cases h; exact absurd rfl hd
        · rw [List.getElem?_eq_none (by simpa using l)] at h; cases h
      · rw [List.getElem?_set_ne q] at h; exact h
    cases d with
    | t x => simp [frz] at e; obtain ⟨rfl, rfl⟩ := e; exact h
    | tup ds =>
      unfold frz at e
      split at e
      · rename_i ts S1 e1
        cases e
        exact hl e1 h
      · cases e
    | ref j =>
      unfold frz at e
      split at e
      all_goals first | cases e; done | skip
      all_goals
        split at e
        · rename_i ts S1 e1
          split at e
          · cases e
            exact hl e1 (hs h)
          · cases e
        · cases e
theorem unzip_fst {α β : Type} : ∀ {l : List (α × β)} {ts : List T}, ts.length = l.length → ((l.map (·.1)).zip ts).map (·.1) = l.map (·.1)
  | [], [], _ => rfl
  | a :: l, t :: ts, h => by simp [unzip_fst (l := l) (ts := ts) (by simpa using h)]
  | [], _ :: _, h => by simp at h
  | _ :: _, [], h => by simp at h
theorem unzip_snd {α β : Type} : ∀ {l : List (α × β)} {ts : List T}, ts.length = l.length → ((l.map (·.1)).zip ts).map (·.2) = ts
  | [], [], _ => rfl
  | a :: l, t :: ts, h => by simp [unzip_snd (l := l) (ts := ts) (by simpa using h)]
  | [], _ :: _, h => by simp at h
  | _ :: _, [], h => by simp at h
theorem frz_ok : ∀ n : Nat, Frz G (frz n)
  | 0 => by
    intro H W S S' v d t r h e
    cases d <;> simp [frz] at e
    obtain ⟨rfl, rfl⟩ := e
    cases h with
    | t h => exact ⟨W, r, Ext.refl, h, rfl⟩
  | n + 1 => by
    intro H W S S' v d t r h e
    cases h with
    | t h =>
      simp [frz] at e
      obtain ⟨rfl, rfl⟩ := e
      exact ⟨W, r, Ext.refl, h, rfl⟩
    | tup h1 h2 =>
      unfold frz at e
      split at e
      · rename_i ts S1 e1
        cases e
        obtain ⟨W1, r1, x1, q1, f1⟩ := frzL_ok (frz_ok n) r h2 e1
        exact ⟨W1, r1, x1, .tup (x1.hf _ _ h1) q1, f1⟩
      · cases e
    | @ref a k h1 =>
      -- the thing k at a: its parts first
      have key : ∀ {o : O} {ds : List D} {vs : List V} {ts : List T} {S1 : Sto} {u : HO} {t : T}, S[k]? = some o → H a = some u → RDs G W vs ds → frzL (frz n) S ds = some (ts, S1) → alive S1 k = true →
          (∀ W' : Wd, W'.Hf a = some u → RTs G W'.Hf vs ts → RT G W'.Hf (.ref a) t) → ∃ W', Rel G H W' (S1.set k .dead) ∧ Ext H W H W' ∧ RT G W'.Hf (.ref a) t ∧ W'.F = W.F := by
        intro o ds vs ts S1 u t ho hu hr e1 hal hq
        obtain ⟨W1, r1, x1, q1, f1⟩ := frzL_ok (frz_ok n) r hr e1
        have h1' : W1.F[k]? = some a := by rw [f1]; exact h1
        obtain ⟨o1, ho1, hd1⟩ : ∃ o1, S1[k]? = some o1 ∧ o1 ≠ .dead := by
          unfold alive at hal
          split at hal
          · cases hal
          · rename_i o1 hne e1
            exact ⟨o1, e1, fun z => hne z⟩
          · cases hal
        obtain ⟨r2, x2⟩ := r1.freeze h1' ho1 hd1 hu
        exact ⟨_, r2, x1.trans x2, hq _ upd_same (RTs.mono x2.hf q1), f1⟩
      unfold frz at e
      split at e
      · rename_i ds e0
        have ro := r.obj k _ a e0 h1
        cases ro with
        | lst h3 h4 =>
          split at e
          · rename_i ts S1 e1
            split at e
            · rename_i hal
              cases e
              exact key e0 h3 h4 e1 hal fun W' g1 g2 => .lst g1 g2
            · cases e
          · cases e
      · rename_i kvs e0
        have ro := r.obj k _ a e0 h1
        cases ro with
        | dct h3 h5 h4 =>
          split at e
          · rename_i ts S1 e1
            split at e
            · rename_i hal
              cases e
              have hl := frzL_len e1
              refine key e0 h3 h4 e1 hal fun W' g1 g2 => .dct g1 ?_ ?_
              · rw [unzip_fst (by simpa using hl)]; exact h5
              · rw [unzip_snd (by simpa using hl)]; exact g2
            · cases e
          · cases e
      · rename_i c fs e0
        have ro := r.obj k _ a e0 h1
        cases ro with
        | ins h3 h5 h4 =>
          split at e
          · rename_i ts S1 e1
            split at e
            · rename_i hal
              cases e
              have hl := frzL_len e1
              refine key e0 h3 h4 e1 hal fun W' g1 g2 => .ins g1 ?_ ?_
              · rw [unzip_fst (by simpa using hl)]; exact h5
              · rw [unzip_snd (by simpa using hl)]; exact g2
            · cases e
          · cases e
      · cases e
end
end Wc

/-! Wc: the small language and its evaluator. -/
namespace Wc
open PySem

/-- targets: a name's place, a tuple of places -/
inductive Pt where | v (i : Nat) | tup (is : List Nat) | nst (i : Nat) (js : List Nat)
/-- what is walked -/
inductive Ik where | seq | rng | enu | zip | items | keys
/-- built-in classes asked for by isinstance; an own class -/
inductive Cl where | int | bool | str | list | tuple | dict | own (c : Nat)
inductive Bi where | len | all | any | sum | list | tuple | int | str | min | max | abs | sorted | set
inductive Bm where | append | extend | insert | popL | popD | clear | reverse | index | count | split | join | startswith | get | setdefault | bitlen | find | upper | replace
mutual
inductive IE where
  | v (i : Nat) | c (t : T) | g (x : Str) (t : T)
  | bin (m : Bool) (op : Operator) (a b : IE) | neg (a : IE)
  | cmp (op : CmpOp) (a b : IE) | ch2 (o1 o2 : CmpOp) (a b c : IE) | ch3 (o1 o2 o3 : CmpOp) (a b c d : IE)
  | and (a b : IE) | or (a b : IE) | not (a : IE) | ite (c a b : IE)
  | tup (es : IEs) | lst (m : Bool) (es : IEs) | dct (m : Bool) (kvs : IEs)
  | idx (a b : IE) | sl (a lo hi : IE) | sl3 (a lo hi : IE) (k : Int) | sss (a : IE) | lss (a : IE) | nop
  | att (a : IE) (f : Str)
  | call (m : Bool) (f : Nat) (es : IEs) | cv (m : Bool) (i : Nat) (es : IEs) | new (m : Bool) (c : Nat) (es : IEs) | mth (m : Bool) (o : IE) (f : Str) (es : IEs)
  | bi (m : Bool) (b : Bi) (es : IEs) | bm (m : Bool) (b : Bm) (o : IE) (es : IEs) | isi (a : IE) (c : Cl)
  | lc (m : Bool) (el : IE) (p : Pt) (k : Ik) (es : IEs) (cond : IE)
  | frz (e : IE) | one (e : IE) | stk
  | pk (f : Nat) (es : IEs) | mpk (o : IE) (f : Str) (es : IEs) | cald (m : Bool) (f : Nat) (es : IEs) | ckw (m : Bool) (f : Nat) (es : IEs) (kn : Str) (e : IE) | mthd (m : Bool) (o : IE) (f : Str) (es : IEs)
  | cfn (m : Bool) (cn x : Str) (f : Nat) (es : IEs) | lrg (a : IE) | iso (a : IE) (c : Nat) | eqt (a : IE)
  | its (m : Bool) (i j v : Nat) | sky (m : Bool) (f : Nat) (a : IE) | skl (a : IE)
inductive IEs where | nil | cons (e : IE) (es : IEs)
end
/-- an exception's class asked for: an own one, ValueError -/
inductive XC where | own (c : Nat) | ve
  deriving DecidableEq
/-! what an except suite, or a def that is called in one with the exception alone, may say -/
mutual
inductive HE where
  | v (i : Nat) | c (t : T) | tup (es : HEs) | lst (m : Bool) (es : HEs) | add (a b : HE) | idx (a b : HE) | isx (c : XC) | ist (cs : List XC) | hcl (f : Nat)
inductive HEs where | nil | cons (e : HE) (es : HEs)
end
mutual
inductive HS where
  | asg (i : Nat) (e : HE) | app (i : Nat) (e : HE) | ret (e : HE) | retN | ifx (c : XC) (a : HSs)
inductive HSs where | nil | cons (s : HS) (r : HSs)
end
mutual
inductive IS where
  | asg (p : Pt) (e : IE) | ex (e : IE) | ret (e : IE) | retN
  | ite (c : IE) (a b : ISs) | wh (c : IE) (b : ISs) | fo (p : Pt) (k : Ik) (es : IEs) (b : ISs) | fol (p : Pt) (e : IE) (b : ISs)
  | brk | cnt | pas
  | rse (c : Nat) (es : IEs)
  | sti (o i e : IE) | sta (o : IE) (f : Str) (e : IE)
  | tr (b : ISs) (c : Nat) (v : Option Nat) (h : HSs) (el : ISs)
  | stk
inductive ISs where | nil | cons (s : IS) (r : ISs)
end

/-! ### operations -/
def lim : Nat := 16000000
def mulOk (i j : Int) : Prop := (-(2 ^ 64) < i ∧ i < 2 ^ 64) ∨ (-(2 ^ 64) < j ∧ j < 2 ^ 64) ∨ i.natAbs.log2 + j.natAbs.log2 < 1000000
instance (i j : Int) : Decidable (mulOk i j) := by unfold mulOk; exact inferInstance
def divOk (j : Int) : Prop := 0 < j ∧ (j < 1073741824 ∨ j.natAbs.log2 < 9000)
instance (j : Int) : Decidable (divOk j) := by unfold divOk; exact inferInstance
def powOk (i j : Int) : Prop := 0 ≤ j ∧ j ≤ 1000000 ∧ i.natAbs < 2 ^ 64
instance (i j : Int) : Decidable (powOk i j) := by unfold powOk; exact inferInstance
def shlOk (i j : Int) : Prop := (0 ≤ j ∧ j ≤ 1000000 ∧ i.natAbs < 2 ^ 64) ∨ (0 ≤ j ∧ (Builtin.Int.intBits i : Int) + j ≤ 2 ^ 27)
instance (i j : Int) : Decidable (shlOk i j) := by unfold shlOk; exact inferInstance
/-- a new list: plain, or a thing -/
def mkL (m : Bool) (ds : List D) (S : Sto) : R D :=
  if m then .ok (.ref S.length) (S ++ [.lst ds]) else match pls ds with
    | some ts => .ok (.t (.lst ts)) S
    | none => .no
def mkT (ds : List D) (S : Sto) : R D := match pls ds with
  | some ts => .ok (.t (.tup ts)) S
  | none => .ok (.tup ds) S
def asList (S : Sto) : D → Option (List D)
  | .t (.lst xs) => some (xs.map .t)
  | .ref k => match S[k]? with
    | some (.lst xs) => some xs
    | _ => none
  | _ => none
def asTup : D → Option (List D)
  | .t (.tup xs) => some (xs.map .t)
  | .t (.lst xs) => some (xs.map .t)
  | .tup xs => some xs
  | _ => none
def repL (n : Nat) (ds : List D) : List D := (List.replicate n ds).flatten
def repS (n : Nat) (x : Str) : Str := ⟨((List.replicate n x.cps.toList).flatten).toArray⟩
def pAdd (m : Bool) (x y : D) (S : Sto) : R D := match x, y with
  | .t (.int i), .t (.int j) => .ok (.t (.int (i + j))) S
  | .t (.str a), .t (.str b) => if a.length + b.length ≤ lim then .ok (.t (.str (a ++ b))) S else .no
  | .t (.tup a), .t (.tup b) => if a ≠ [] ∧ b ≠ [] ∧ a.length + b.length ≤ lim then .ok (.t (.tup (a ++ b))) S else .no
  | x, y => match asList S x, asList S y with
    | some xs, some ys => if xs.length + ys.length ≤ lim then mkL m (xs ++ ys) S else .no
    | _, _ => .no
def pBin (m : Bool) (op : Operator) (x y : D) (S : Sto) : R D := match op with
  | .Add => pAdd m x y S
  | .Mult => (match x, y with
    | .t (.int i), .t (.int j) => if mulOk i j then .ok (.t (.int (i * j))) S else .no
    | .t (.str a), .t (.int k) => if -(2 ^ 63) ≤ k ∧ k < 2 ^ 63 ∧ a.length * k.toNat ≤ lim then .ok (.t (.str (repS k.toNat a))) S else .no
    | x, .t (.int k) => (match asList S x with
      | some xs => if -(2 ^ 63) ≤ k ∧ k < 2 ^ 63 ∧ xs.length * k.toNat ≤ lim then mkL m (repL k.toNat xs) S else .no
      | none => .no)
    | _, _ => .no)
  | _ => match x, y with
    | .t (.int i), .t (.int j) => (match op with
      | .Sub => .ok (.t (.int (i - j))) S
      | .FloorDiv => if divOk j then .ok (.t (.int (i / j))) S else .no
      | .Mod => if 0 < j then .ok (.t (.int (i % j))) S else .no
      | .Pow => if powOk i j then .ok (.t (.int (i ^ j.toNat))) S else .no
      | .LShift => if shlOk i j then .ok (.t (.int (i * 2 ^ j.toNat))) S else .no
      | .RShift => if 0 ≤ j then .ok (.t (.int (i / 2 ^ j.toNat))) S else .no
      | .BitAnd => .ok (.t (.int (Builtin.bitAnd i j))) S
      | .BitOr => .ok (.t (.int (Builtin.bitOr i j))) S
      | .BitXor => .ok (.t (.int (Builtin.bitXor i j))) S
      | _ => .no)
    | _, _ => .no
def eqD (x y : D) (S : Sto) : Option Bool := match look S x, look S y with
  | some d, some e => if SeqAt.shaped d && SeqAt.shaped e then some (PyData.eqv d e) else none
  | _, _ => none
def kyOf : D → Option Ky
  | .t (.int i) => some (.inl i)
  | .t (.str x) => some (.inr x)
  | _ => none
def dctOf (S : Sto) : D → Option (List (Ky × D))
  | .t (.dct kvs) => some (kvs.map fun p => (p.1, .t p.2))
  | .ref k => match S[k]? with
    | some (.dct kvs) => some kvs
    | _ => none
  | _ => none
def getK {α : Type} (kvs : List (Ky × α)) (k : Ky) : Option α := (kvs.find? fun kv => decide (kv.1 = k)).map (·.2)
def flatP : PyData → Bool
  | .none => true
  | .bool _ => true
  | .int _ => true
  | .str _ => true
  | _ => false
def inD (x y : D) (S : Sto) : Option Bool := match y with
  | .t (.str z) => (match x with
    | .t (.str c) => some (!(Builtin.Str.occurrences z c 0 z.length 1).isEmpty)
    | _ => none)
  | _ => match dctOf S y with
    | some kvs => (match kyOf x with
      | some k => some (getK kvs k).isSome
      | none => none)
    | none => match look S x, look S y with
      | some d, some (.list ds) => if SeqAt.shaped d && SeqAt.shaped (.list ds) then some (ds.any fun z => PyData.eqv z d) else none
      | some d, some (.tuple ds) => if flatP d && ds.all flatP then some (ds.any fun z => PyData.eqv z d) else none
      | _, _ => none
def bl (o : Option Bool) (S : Sto) : R D := match o with
  | some b => .ok (.t (.bl b)) S
  | none => .no
def isN : D → Bool
  | .t .non => true
  | _ => false
/-- a pair of whole numbers -/
def prT : D → Option (Int × Int)
  | .t (.tup [.int a, .int b]) => some (a, b)
  | _ => none
def pCmp (op : CmpOp) (x y : D) (S : Sto) : R D := match op with
  | .Eq => bl (eqD x y S) S
  | .NotEq => bl ((eqD x y S).map (!·)) S
  | .In => bl (inD x y S) S
  | .NotIn => bl ((inD x y S).map (!·)) S
  | .Is => (match y with
    | .t .non => .ok (.t (.bl (isN x))) S
    | .t (.bl b) => (match x with
      | .t (.bl a) => .ok (.t (.bl (decide (a = b)))) S
      | _ => .no)
    | _ => .no)
  | .IsNot => (match y with
    | .t .non => .ok (.t (.bl (!isN x))) S
    | .t (.bl b) => (match x with
      | .t (.bl a) => .ok (.t (.bl (!decide (a = b)))) S
      | _ => .no)
    | _ => .no)
  | .Lt => (match x, y with
    | .t (.int i), .t (.int j) => .ok (.t (.bl (decide (i < j)))) S
    | .t (.str a), .t (.str b) => .ok (.t (.bl (decide (a.cps.toList < b.cps.toList)))) S
    | x, y => match prT x, prT y with
      | some p, some q => .ok (.t (.bl (decide (p.1 < q.1 ∨ (p.1 = q.1 ∧ p.2 < q.2))))) S
      | _, _ => .no)
  | .LtE => (match x, y with
    | .t (.int i), .t (.int j) => .ok (.t (.bl (decide (i ≤ j)))) S
    | .t (.str a), .t (.str b) => .ok (.t (.bl (!decide (b.cps.toList < a.cps.toList)))) S
    | x, y => match prT x, prT y with
      | some p, some q => .ok (.t (.bl (decide (p.1 < q.1 ∨ (p.1 = q.1 ∧ p.2 ≤ q.2))))) S
      | _, _ => .no)
  | .Gt => (match x, y with
    | .t (.int i), .t (.int j) => .ok (.t (.bl (decide (j < i)))) S
    | .t (.str a), .t (.str b) => .ok (.t (.bl (decide (b.cps.toList < a.cps.toList)))) S
    | _, _ => .no)
  | .GtE => (match x, y with
    | .t (.int i), .t (.int j) => .ok (.t (.bl (decide (j ≤ i)))) S
    | .t (.str a), .t (.str b) => .ok (.t (.bl (!decide (a.cps.toList < b.cps.toList)))) S
    | _, _ => .no)
def ixAt {α : Type} (xs : List α) (i : Int) : Option α := if 0 ≤ i then xs[i.toNat]? else if -(xs.length : Int) ≤ i then xs[(i + xs.length).toNat]? else none
def opt (o : Option D) (S : Sto) : R D := match o with
  | some d => .ok d S
  | none => .no
def pIdx (x y : D) (S : Sto) : R D := match dctOf S x with
  | some kvs => (match kyOf y with
    | some k => opt (getK kvs k) S
    | none => .no)
  | none => match y with
    | .t (.int i) => (match x with
      | .t (.str z) => if z.length ≤ lim then opt ((ixAt z.cps.toList i).map fun c => .t (.str ⟨#[c]⟩)) S else .no
      | .t (.scr ns) => opt ((ixAt ns i).map fun n => .t (.int n)) S
      | x => match seqOf S x with
        | some xs => opt (ixAt xs i) S
        | none => .no)
    | _ => .no
def sIx (n d : Nat) : Option Int → Nat
  | none => d
  | some v => if v < 0 then (v + n).toNat else min v.toNat n
def cut {α : Type} (xs : List α) (lo hi : Option Int) : List α := (xs.drop (sIx xs.length 0 lo)).take (sIx xs.length xs.length hi - sIx xs.length 0 lo)
def pSl (x : D) (lo hi : Option Int) (S : Sto) : R D := match x with
  | .t (.str z) => if z.length ≤ lim then .ok (.t (.str ⟨(cut z.cps.toList lo hi).toArray⟩)) S else .no
  | .t (.scr ns) => .ok (.t (.lst ((cut ns lo hi).map .int))) S
  | .t (.tup xs) => if sIx xs.length 0 lo = 0 ∧ sIx xs.length xs.length hi = xs.length then .no else .ok (.t (.tup (cut xs lo hi))) S
  | x => match asList S x with
    | some xs => mkL false (cut xs lo hi) S
    | none => .no
/-- by steps -/
def pick3 {α : Type} (xs : List α) (lo hi : Option Int) (k : Int) : List α :=
  (sliceRange (sliceBounds lo hi (some k) xs.length).1 (sliceBounds lo hi (some k) xs.length).2.1 (sliceBounds lo hi (some k) xs.length).2.2).filterMap fun i => xs[i]?
def pSl3 (x : D) (lo hi : Option Int) (k : Int) (S : Sto) : R D := if k = 0 then .no else match x with
  | .t (.scr ns) => .ok (.t (.lst ((pick3 ns lo hi k).map .int))) S
  | x => match asList S x with
    | some xs => mkL false (pick3 xs lo hi k) S
    | none => .no
def intOf : D → Option Int
  | .t (.int i) => some i
  | _ => none
def ci : Cl → Nat
  | .int => 0 | .bool => 1 | .str => 2 | .list => 3 | .tuple => 4 | .dict => 5 | .own _ => 6
def isiB (sub : Nat → Nat → Bool) (S : Sto) (x : D) (c : Cl) : Option Bool := match x with
  | .t .non => some false
  | .t (.bl _) => some (ci c == 0 || ci c == 1)
  | .t (.int _) => some (ci c == 0)
  | .t (.str _) => some (ci c == 2)
  | .t (.lst _) => some (ci c == 3)
  | .t (.scr _) => some (ci c == 3)
  | .t (.tup _) => some (ci c == 4)
  | .tup _ => some (ci c == 4)
  | .t (.dct _) => some (ci c == 5)
  | .ref k => (match S[k]? with
    | some (.lst _) => some (ci c == 3)
    | some (.dct _) => some (ci c == 5)
    | _ => none)
  | _ => none
def blsD : List D → Option (List Bool)
  | [] => some []
  | .t (.bl b) :: r => (blsD r).map (b :: ·)
  | _ => none
def intsD : List D → Option (List Int)
  | [] => some []
  | .t (.int b) :: r => (intsD r).map (b :: ·)
  | _ => none
def pLen (x : D) (S : Sto) : R D := match x with
  | .t (.str z) => if z.length ≤ lim then .ok (.t (.int z.length)) S else .no
  | .t (.scr ns) => .ok (.t (.int ns.length)) S
  | x => match seqOf S x with
    | some xs => .ok (.t (.int xs.length)) S
    | none => .no
def insI (x : Int) : List Int → List Int
  | [] => [x]
  | y :: l => if x ≤ y then x :: y :: l else y :: insI x l
/-- triples of whole numbers -/
abbrev I3 := Int × Int × Int
def tri (x : I3) : T := .tup [.int x.1, .int x.2.1, .int x.2.2]
def triT : T → Option I3
  | .tup [.int a, .int b, .int c] => some (a, b, c)
  | _ => none
def trisD : List D → Option (List I3)
  | [] => some []
  | .t x :: r => (match triT x with
    | some a => (trisD r).map (a :: ·)
    | none => none)
  | _ => none
/-- as they stand -/
def le3 (x y : I3) : Bool := decide (x.1 < y.1 ∨ (x.1 = y.1 ∧ (x.2.1 < y.2.1 ∨ (x.2.1 = y.2.1 ∧ x.2.2 ≤ y.2.2))))
/-- by the second part, then by the first one -/
def le3k (x y : I3) : Bool := decide (x.2.1 < y.2.1 ∨ (x.2.1 = y.2.1 ∧ x.1 ≤ y.1))
def intKs : List Ky → Option (List Int)
  | [] => some []
  | .inl i :: r => (intKs r).map (i :: ·)
  | _ => none
/-- whole numbers, rising -/
def srtI : List Int → List Int
  | [] => []
  | x :: l => insI x (srtI l)
def pMx (f : Int → Int → Int) (x : D) (S : Sto) : R D := match (asList S x).bind intsD with
  | some (n :: ns) => .ok (.t (.int (ns.foldl f n))) S
  | _ => .no
def pMM (f : Int → Int → Int) (ds : List D) (S : Sto) : R D := match ds with
  | [x] => pMx f x S
  | [.t (.int i), .t (.int j)] => .ok (.t (.int (f i j))) S
  | _ => .no
def kyD : Ky → D
  | .inl i => .t (.int i)
  | .inr x => .t (.str x)
def pBi (m : Bool) (b : Bi) (ds : List D) (S : Sto) : R D := match b, ds with
  | .len, [x] => pLen x S
  | .all, [x] => (match (asList S x).bind blsD with
    | some bs => .ok (.t (.bl (bs.all id))) S
    | none => .no)
  | .any, [x] => (match (asList S x).bind blsD with
    | some bs => .ok (.t (.bl (bs.any id))) S
    | none => .no)
  | .sum, [x] => (match (asList S x).bind intsD with
    | some ns => .ok (.t (.int ns.sum)) S
    | none => .no)
  | .list, [x] => (match x with
    | .t (.scr ns) => mkL m (ns.map fun n => .t (.int n)) S
    | x => match seqOf S x with
      | some xs => mkL m xs S
      | none => match dctOf S x with
        | some kvs => mkL m (kvs.map fun p => kyD p.1) S
        | none => .no)
  | .tuple, [x] => (match x with
    | .t (.tup ts) => .ok (.t (.tup ts)) S
    | .tup ds => .ok (.tup ds) S
    | x => match asList S x with
      | some xs => mkT xs S
      | none => .no)
  | .int, [x] => (match x with
    | .t (.int i) => .ok (.t (.int i)) S
    | .t (.bl k) => .ok (.t (.int (if k then 1 else 0))) S
    | .t (.str a) => (match PySem.intText? a with
      | some n => if a.length ≤ 640 then .ok (.t (.int n)) S else .no
      | none => .no)
    | _ => .no)
  | .str, [x] => (match x with
    | .t (.int i) => if i.natAbs.log2 < 1920 then .ok (.t (.str (toString i))) S else .no
    | _ => .no)
  | .max, ds => pMM max ds S
  | .min, ds => pMM min ds S
  | .abs, [.t (.int i)] => .ok (.t (.int (if i < 0 then -i else i))) S
  | .sorted, [x] => (match (asList S x).bind intsD with
    | some ns => mkL m ((srtI ns).map fun n => .t (.int n)) S
    | none => match (asList S x).bind trisD with
      | some ts => mkL m ((ts.mergeSort le3).map fun n => .t (tri n)) S
      | none => match (dctOf S x).bind fun kvs => intKs (kvs.map (·.1)) with
        | some ns => if ns.length < 64 then mkL m ((srtI ns).map fun n => .t (.int n)) S else .no
        | none => .no)
  | _, _ => .no
/-- without the second ones -/
def ddI (l : List Int) : List Int := l.foldr (fun a acc => if a ∈ acc then acc else a :: acc) []
/-- sorted(set(x)) -/
def pSss (x : D) (S : Sto) : R D := match (asList S x).bind intsD with
  | some ns => if ns.length ≤ 4000 ∧ (ddI ns).length < 4096 then mkL false ((srtI (ddI ns)).map fun n => .t (.int n)) S else .no
  | none => .no
/-- len(set(x)) -/
def pLss (x : D) (S : Sto) : R D := match (asList S x).bind intsD with
  | some ns => if ns.length ≤ 4000 then .ok (.t (.int (ddI ns).length)) S else .no
  | none => .no
def putKy {α : Type} (kvs : List (Ky × α)) (k : Ky) (v : α) : List (Ky × α) :=
  if kvs.any (fun kv => decide (kv.1 = k)) then kvs.map (fun kv => if kv.1 = k then (kv.1, v) else kv) else kvs ++ [(k, v)]
def plk : List (Ky × D) → Option (List (Ky × T))
  | [] => some []
  | (k, .t x) :: r => (plk r).map ((k, x) :: ·)
  | _ => none
def kyT : Ky → T
  | .inl i => .int i
  | .inr x => .str x
/-- value and key of a pair -/
def itT (p : Ky × T) : T := .tup [p.2, kyT p.1]
/-- [(y, x) for x, y in d.items()], the dict a thing of plain values -/
def pIts (m : Bool) (i j : Nat) (ρ : Ev) (v : Nat) (S : Sto) : R D := match ρ[v]? with
  | some (some (.ref k)) => (match S[k]? with
    | some (.dct kvs) => (match plk kvs with
      | some ts => if ts.length < lim ∧ i < ρ.length ∧ j < ρ.length then mkL m (ts.map fun p => .t (itT p)) S else .no
      | none => .no)
    | _ => .no)
  | _ => .no
/-- a new dict: plain, or a thing -/
def mkD (m : Bool) (kvs : List (Ky × D)) (S : Sto) : R D :=
  if m then .ok (.ref S.length) (S ++ [.dct kvs]) else match plk kvs with
    | some ts => .ok (.t (.dct ts)) S
    | none => .no
def bmT : Bm → Nat
  | .append | .extend | .insert | .popL | .clear | .reverse | .index | .count => 3
  | .popD | .get | .setdefault => 5
  | .bitlen => 0
  | _ => 2
def kindD (S : Sto) : D → Nat
  | .t (.str _) => 2
  | .t (.int _) => 0
  | .t (.lst _) => 3
  | .t (.dct _) => 5
  | .ref k => (match S[k]? with
    | some (.lst _) => 3
    | some (.dct _) => 5
    | _ => 9)
  | _ => 9
def pApp (x : D) (ds : List D) (S : Sto) : R D := match x, ds with
  | .ref k, [y] => (match S[k]? with
    | some (.lst xs) => if xs.length < lim then .ok (.t .non) (S.set k (.lst (xs ++ [y]))) else .no
    | _ => .no)
  | _, _ => .no
def pInd (x : D) (ds : List D) (S : Sto) : R D := match ds with
  | [y] => (match look S x, look S y with
    | some (.list ds), some d => if SeqAt.shaped d && SeqAt.shaped (.list ds) then (match ds.findIdx? fun z => PyData.eqv z d with
      | some j => .ok (.t (.int (j : Nat))) S
      | none => .no) else .no
    | _, _ => .no)
  | _ => .no
def strsD : List D → Option (List Str)
  | [] => some []
  | .t (.str b) :: r => (strsD r).map (b :: ·)
  | _ => none
def pJoin (x : D) (ds : List D) (S : Sto) : R D := match x, ds with
  | .t (.str a), [y] => (match (seqOf S y).bind strsD with
    | some ys => if (ys.map (·.length)).sum + ys.length * a.length ≤ lim then .ok (.t (.str (Txt.join a ys))) S else .no
    | none => .no)
  | _, _ => .no
def pSplit (m : Bool) (x : D) (ds : List D) (S : Sto) : R D := match x, ds with
  | .t (.str a), [.t (.str b)] => if (b.length == 0) = false ∧ a.length + 2 ≤ lim then mkL m ((Txt.split a b).map fun s => .t (.str s)) S else .no
  | _, _ => .no
def pStarts (x : D) (ds : List D) (S : Sto) : R D := match x, ds with
  | .t (.str a), [.t (.str b)] => .ok (.t (.bl (Txt.startswith a b))) S
  | _, _ => .no
def pExt (x : D) (ds : List D) (S : Sto) : R D := match x, ds with
  | .ref k, [y] => (match S[k]?, asList S y with
    | some (.lst xs), some ys => if xs.length + ys.length ≤ lim then .ok (.t .non) (S.set k (.lst (xs ++ ys))) else .no
    | _, _ => .no)
  | _, _ => .no
def pIns (x : D) (ds : List D) (S : Sto) : R D := match x, ds with
  | .ref k, [.t (.int i), y] => (match S[k]? with
    | some (.lst xs) => if xs.length < lim ∧ 0 ≤ i ∧ i < 2 ^ 63 then .ok (.t .non) (S.set k (.lst (xs.take i.toNat ++ [y] ++ xs.drop i.toNat))) else .no
    | _ => .no)
  | _, _ => .no
def pPopL (x : D) (ds : List D) (S : Sto) : R D := match x, ds with
  | .ref k, [] => (match S[k]? with
    | some (.lst xs) => (match xs[xs.length - 1]? with
      | some y => .ok y (S.set k (.lst xs.dropLast))
      | none => .no)
    | _ => .no)
  | _, _ => .no
def pLst0 (f : List D → List D) (x : D) (ds : List D) (S : Sto) : R D := match x, ds with
  | .ref k, [] => (match S[k]? with
    | some (.lst xs) => .ok (.t .non) (S.set k (.lst (f xs)))
    | _ => .no)
  | _, _ => .no
def pGet (x : D) (ds : List D) (S : Sto) : R D := match ds with
  | [y, z] => (match dctOf S x, kyOf y with
    | some kvs, some k => .ok ((getK kvs k).getD z) S
    | _, _ => .no)
  | _ => .no
def setdD (x y z : D) (S : Sto) : R D := match x with
  | .ref j => (match S[j]?, kyOf y with
    | some (.dct kvs), some k => if kvs.length < lim then (match getK kvs k with
      | some v => .ok v S
      | none => .ok z (S.set j (.dct (putKy kvs k z)))) else .no
    | _, _ => .no)
  | _ => .no
def pSetd (x : D) (ds : List D) (S : Sto) : R D := match ds with
  | [y, z] => setdD x y z S
  | _ => .no
def popDD (x y : D) (S : Sto) : R D := match x with
  | .ref j => (match S[j]?, kyOf y with
    | some (.dct kvs), some k => (match getK kvs k with
      | some v => .ok v (S.set j (.dct (kvs.filter fun kv => decide (kv.1 ≠ k))))
      | none => .no)
    | _, _ => .no)
  | _ => .no
def pPopD (x : D) (ds : List D) (S : Sto) : R D := match ds with
  | [y] => popDD x y S
  | _ => .no
def pBits (x : D) (ds : List D) (S : Sto) : R D := match x, ds with
  | .t (.int i), [] => .ok (.t (.int (Builtin.Int.intBits i : Nat))) S
  | _, _ => .no
def pFind (x : D) (ds : List D) (S : Sto) : R D := match x, ds with
  | .t (.str a), [.t (.str b)] => .ok (.t (.int (Txt.find a b))) S
  | _, _ => .no
def pUpp (x : D) (ds : List D) (S : Sto) : R D := match x, ds with
  | .t (.str a), [] => if a.length ≤ 5000000 then .ok (.t (.str (Txt.upper a))) S else .no
  | _, _ => .no
/-- x == () -/
def pEqt (x : D) (S : Sto) : R D := match x with
  | .t (.tup xs) => .ok (.t (.bl xs.isEmpty)) S
  | .tup xs => .ok (.t (.bl xs.isEmpty)) S
  | _ => .no
def pBm (m : Bool) (b : Bm) (x : D) (ds : List D) (S : Sto) : R D := match b with
  | .append => pApp x ds S
  | .index => pInd x ds S
  | .join => pJoin x ds S
  | .split => pSplit m x ds S
  | .startswith => pStarts x ds S
  | .extend => pExt x ds S
  | .insert => pIns x ds S
  | .popL => pPopL x ds S
  | .clear => pLst0 (fun _ => []) x ds S
  | .reverse => pLst0 List.reverse x ds S
  | .get => pGet x ds S
  | .setdefault => pSetd x ds S
  | .popD => pPopD x ds S
  | .bitlen => pBits x ds S
  | .find => pFind x ds S
  | .upper => pUpp x ds S
  | _ => .no
/-- a new pair -/
def pairD (a b : D) : D := match a, b with
  | .t x, .t y => .t (.tup [x, y])
  | a, b => .tup [a, b]
def enuL : Nat → List D → List D
  | _, [] => []
  | i, d :: ds => pairD (.t (.int (i : Nat))) d :: enuL (i + 1) ds
def zipL : List D → List D → List D
  | x :: xs, y :: ys => pairD x y :: zipL xs ys
  | _, _ => []
def itemsOf (k : Ik) (ds : List D) (S : Sto) : Option (List D) := match k, ds with
  | .seq, [.t (.scr ns)] => some (ns.map fun n => .t (.int n))
  | .seq, [.t (.lst xs)] => some (xs.map .t)
  | .seq, [.t (.tup xs)] => some (xs.map .t)
  | .seq, [.tup xs] => some xs
  | .seq, [.t (.str z)] => some (z.cps.toList.map fun c => .t (.str ⟨#[c]⟩))
  | .enu, [.t (.lst xs)] => some (enuL 0 (xs.map .t))
  | .zip, [.t (.lst xs), .t (.lst ys)] => some (zipL (xs.map .t) (ys.map .t))
  | .rng, [.t (.int n)] => if -(2 ^ 62) ≤ n ∧ n < 2 ^ 62 then some ((List.range n.toNat).map fun (i : Nat) => .t (.int (i : Int))) else none
  | .rng, [.t (.int a), .t (.int b)] => if -(2 ^ 62) ≤ a ∧ a < 2 ^ 62 ∧ -(2 ^ 62) ≤ b ∧ b < 2 ^ 62 then some ((List.range (b - a).toNat).map fun (i : Nat) => .t (.int (a + (i : Int)))) else none
  | .rng, [.t (.int a), .t (.int b), .t (.int c)] => if c ≠ 0 ∧ c.natAbs < 1073741824 ∧ Builtin.Range.small a b c = true ∧ 0 ≤ Builtin.Range.rangeSize a b c then some ((List.range (Builtin.Range.rangeSize a b c).toNat).map fun (i : Nat) => .t (.int (a + (i : Int) * c))) else none
  | _, _ => none
/-- .. also of things that don't change meanwhile -/
def itemsR (k : Ik) (ds : List D) (S : Sto) : Option (List D) := match k, ds with
  | .seq, [.ref j] => asList S (.ref j)
  | .enu, [.ref j] => (asList S (.ref j)).map (enuL 0)
  | _, _ => none
def itemsL (pu : Bool) (k : Ik) (ds : List D) (S : Sto) : Option (List D) := match itemsOf k ds S with
  | some xs => some xs
  | none => if pu then itemsR k ds S else none
mutual
/-- leaves the store as it is -/
def pureE : IE → Bool
  | .v _ => true | .c _ => true | .g _ _ => true | .nop => true
  | .bin m _ a b => !m && pureE a && pureE b
  | .neg a => pureE a | .not a => pureE a | .one a => pureE a
  | .cmp _ a b => pureE a && pureE b
  | .ch2 _ _ a b c => pureE a && pureE b && pureE c
  | .ch3 _ _ _ a b c d => pureE a && pureE b && pureE c && pureE d
  | .and a b => pureE a && pureE b | .or a b => pureE a && pureE b
  | .ite a b c => pureE a && pureE b && pureE c
  | .tup es => pureEs es
  | .lst m es => !m && pureEs es
  | .idx a b => pureE a && pureE b
  | .sl a b c => pureE a && pureE b && pureE c
  | .sl3 _ _ _ _ => false
  | .sss _ => false
  | .lss _ => false
  | .att a _ => pureE a
  | .call m _ es => m && pureEs es
  | .bi m _ es => !m && pureEs es
  | .isi a _ => pureE a
  | .mth m o _ es => m && pureE o && pureEs es
  | .lc m el _ _ es cond => !m && pureE el && pureEs es && pureE cond
  | _ => false
def pureEs : IEs → Bool
  | .nil => true
  | .cons e es => pureE e && pureEs es
end
inductive RS where
  | nx (ρ : Ev) (S : Sto) | rt (d : D) (S : Sto) | bk (ρ : Ev) (S : Sto) | ct (ρ : Ev) (S : Sto) | ex (c : Nat) (fs : List (Str × T)) (ρ : Ev) (S : Sto) | no
def ixP (n : Nat) (i : Int) : Option Nat := if 0 ≤ i then (if i < n then some i.toNat else none) else if -(n : Int) ≤ i then some (i + n).toNat else none
/-- x[y] = v: the store behind it -/
def pSt (x y v : D) (S : Sto) : Option Sto := match x with
  | .ref k => (match S[k]? with
    | some (.lst xs) => (match y with
      | .t (.int i) => (ixP xs.length i).map fun j => S.set k (.lst (xs.set j v))
      | _ => none)
    | some (.dct kvs) => (match kyOf y with
      | some ky => if kvs.length < lim then some (S.set k (.dct (putKy kvs ky v))) else none
      | none => none)
    | _ => none)
  | _ => none
def nxO (ρ : Ev) : Option Sto → RS
  | some S => .nx ρ S
  | none => .no
/-- a target takes a value -/
def setP (p : Pt) (d : D) (ρ : Ev) : Option Ev := match p with
  | .v i => some (ρ.set i (some d))
  | .tup is => match asTup d with
    | some ds => if ds.length = is.length then some ((is.zip ds).foldl (fun ρ q => ρ.set q.1 (some q.2)) ρ) else none
    | none => none
  | .nst i js => match asTup d with
    | some [a, b] => (match asTup b with
      | some ds => if ds.length = js.length then some ((js.zip ds).foldl (fun ρ q => ρ.set q.1 (some q.2)) (ρ.set i (some a))) else none
      | none => none)
    | _ => none

/-! ### the text's tables -/
structure Tb where
  mt : Nat → Str → Option Nat
  ini : Nat → Option Nat
  sub : Nat → Nat → Bool
  isf : Nat → Bool
  att : Nat → Str → Bool
  dft : Nat → Option T
  kwn : Nat → Option Str
  xsub : Nat → XC → Option Bool := fun _ _ => none
  hcf : Nat → Nat → Option T := fun _ _ => none
  csub : Nat → Nat → Option Bool := fun _ _ => none
abbrev Cal := Nat → List D → Sto → R D
def callD (C : Cal) (m : Bool) (f : Nat) (ds : List D) (S : Sto) : R D :=
  if m then match pls ds with
    | some _ => (match C f ds [] with
      | .ok d S1 => (match frz 9 S1 d with
        | some (t, _) => .ok (.t t) S
        | none => .no)
      | .ex c fs _ => .ex c fs S
      | .no => .no)
    | none => .no
  else C f ds S
/-- what may be told of a thing by a call apart -/
def atomD : D → Bool
  | .t .non => true
  | .t (.bl _) => true
  | .t (.int _) => true
  | .t (.str _) => true
  | _ => false
/-- a call that only looks: of what stands there a picture is handed in -/
def pkD (C : Cal) (f : Nat) (ds : List D) (S : Sto) : R D := match frzL (frz 9) S ds with
  | some (ts, _) => (match C f (ts.map .t) [] with
    | .ok d _ => if atomD d then .ok d S else .no
    | _ => .no)
  | none => .no
def pLrg (x : D) (S : Sto) : R D := match x with
  | .t (.int n) => if 0 ≤ n ∧ n ≤ 16777216 then mkL false ((List.range n.toNat).map fun (i : Nat) => .t (.int (i : Int))) S else .no
  | _ => .no
def clsOf (S : Sto) : D → Option Nat
  | .t (.ins c _) => some c
  | .ref k => match S[k]? with
    | some (.ins c _) => some c
    | _ => none
  | _ => none
def attD (S : Sto) (f : Str) : D → Option D
  | .t (.ins _ fs) => (fs.lookup f).map .t
  | .ref k => match S[k]? with
    | some (.ins _ fs) => fs.lookup f
    | _ => none
  | _ => none
def pAtt (B : Tb) (f : Str) (x : D) (S : Sto) : R D := match clsOf S x with
  | some c => if B.att c f then opt (attD S f x) S else .no
  | none => .no
def putFd (f : Str) (v : D) : List (Str × D) → List (Str × D)
  | [] => [(f, v)]
  | (g, x) :: r => if g = f then (g, v) :: r else (g, x) :: putFd f v r
/-- x.f = v: the store behind it -/
def pFs (B : Tb) (f : Str) (x v : D) (S : Sto) : Option Sto := match x with
  | .ref k => (match S[k]? with
    | some (.ins c fs) => if B.att c f ∧ fs.length < 1000 then some (S.set k (.ins c (putFd f v fs))) else none
    | _ => none)
  | _ => none
/-- the def behind x.f( -/
def mthG (B : Tb) (f : Str) (x : D) (S : Sto) : Option Nat := match clsOf S x with
  | some c => if (attD S f x).isSome then none else B.mt c f
  | none => none
def isNon : D → Bool
  | .t .non => true
  | _ => false
/-- a new thing of a class, made by its __init__ -/
def newD (B : Tb) (C : Cal) (m : Bool) (c : Nat) (ds : List D) (S : Sto) : R D := match B.ini c with
  | none => .no
  | some f => if m then match pls ds with
      | some _ => (match C f (.ref 0 :: ds) [.ins c []] with
        | .ok d S2 => if isNon d then (match frz 9 S2 (.ref 0) with
          | some (t, _) => .ok (.t t) S
          | none => .no) else .no
        | .ex k fs _ => .ex k fs S
        | .no => .no)
      | none => .no
    else match C f (.ref S.length :: ds) (S ++ [.ins c []]) with
      | .ok d S2 => if isNon d then .ok (.ref S.length) S2 else .no
      | .ex k fs S2 => .ex k fs S2
      | .no => .no
/-- [el for p in .. if cond]: what is gathered -/
def lcL (p : Pt) (ρ : Ev) (cond el : Ev → Sto → R D) : List D → Sto → List D → R (List D)
  | [], S, acc => .ok acc S
  | d :: ds, S, acc => match setP p d ρ with
    | none => .no
    | some ρ1 => match cond ρ1 S with
      | .ok (.t (.bl true)) S1 => (match el ρ1 S1 with
        | .ok y S2 => if acc.length < lim then lcL p ρ cond el ds S2 (acc ++ [y]) else .no
        | _ => .no)
      | .ok (.t (.bl false)) S1 => lcL p ρ cond el ds S1 acc
      | _ => .no
def foL (p : Pt) (b : Ev → Sto → RS) : List D → Ev → Sto → RS
  | [], ρ, S => .nx ρ S
  | d :: ds, ρ, S => match setP p d ρ with
    | none => .no
    | some ρ1 => match b ρ1 S with
      | .nx ρ2 S2 => foL p b ds ρ2 S2
      | .ct ρ2 S2 => foL p b ds ρ2 S2
      | .bk ρ2 S2 => .nx ρ2 S2
      | r => r
open Classical in
/-- .. over a list that stands meanwhile -/
noncomputable def folL (k : Nat) (o : Option O) (p : Pt) (b : Ev → Sto → RS) : List D → Ev → Sto → RS
  | [], ρ, S => if S[k]? = o then .nx ρ S else .no
  | d :: ds, ρ, S => if S[k]? = o then match setP p d ρ with
    | none => .no
    | some ρ1 => (match b ρ1 S with
      | .nx ρ2 S2 => folL k o p b ds ρ2 S2
      | .ct ρ2 S2 => folL k o p b ds ρ2 S2
      | .bk ρ2 S2 => .nx ρ2 S2
      | r => r) else .no
def whL (c : Ev → Sto → R D) (b : Ev → Sto → RS) : Nat → Ev → Sto → RS
  | 0, _, _ => .no
  | n + 1, ρ, S => match c ρ S with
    | .ok (.t (.bl true)) S1 => (match b ρ S1 with
      | .nx ρ2 S2 => whL c b n ρ2 S2
      | .ct ρ2 S2 => whL c b n ρ2 S2
      | .bk ρ2 S2 => .nx ρ2 S2
      | r => r)
    | .ok (.t (.bl false)) S1 => .nx ρ S1
    | .ex k fs S1 => .ex k fs ρ S1
    | _ => .no
def wf : Nat := 2 ^ 1000
/-- the own places of a comprehension's target, forgotten ahead of it -/
def wipeL (ρ : Ev) : List Nat → Ev
  | [] => ρ
  | v :: vs => (wipeL ρ vs).set v none
def Pt.own : Pt → List Nat
  | .v i => [i]
  | .tup is => is
  | .nst i js => i :: js
def prt (lo : IE) (d : D) : Option (Option Int) := match lo with
  | .nop => some none
  | _ => (intOf d).map some
/-- of which own class it is -/
def insOf (S : Sto) : D → Option Nat
  | .t (.ins k _) => some k
  | .ref j => (match S[j]? with
    | some (.ins k _) => some k
    | _ => none)
  | _ => none
/-- isinstance of an own class -/
def isoD (B : Tb) (c : Nat) (x : D) (S : Sto) : R D := match insOf S x with
  | some k => (match B.csub k c with
    | some b => .ok (.t (.bl b)) S
    | none => .no)
  | none => .no
/-- sorted by the second part, then by the first one -/
def pSkl (x : D) (S : Sto) : R D := match (asList S x).bind trisD with
  | some ts => mkL false ((ts.mergeSort le3k).map fun n => .t (tri n)) S
  | none => .no
open Classical in
/-- .. where a def tells these parts -/
noncomputable def pSky (m : Bool) (C : Cal) (f : Nat) (x : D) (S : Sto) : R D := match (asList S x).bind trisD with
  | some ts => if ∀ a ∈ (0, 0, 0) :: ts, ∃ S1, C f [.t (tri a)] [] = .ok (.t (.tup [.int a.2.1, .int a.1])) S1 then mkL m ((ts.mergeSort le3k).map fun n => .t (tri n)) S else .no
  | none => .no
mutual
noncomputable def evE (B : Tb) (C : Cal) : IE → Ev → Sto → R D
  | .v i, ρ, S => match ρ[i]? with
    | some (some d) => .ok d S
    | _ => .no
  | .c t, _, S => .ok (.t t) S
  | .g _ t, _, S => .ok (.t t) S
  | .bin m op a b, ρ, S => (evE B C a ρ S).bind fun x S1 => (evE B C b ρ S1).bind fun y S2 => pBin m op x y S2
  | .neg a, ρ, S => (evE B C a ρ S).bind fun x S1 => match x with
    | .t (.int i) => .ok (.t (.int (-i))) S1
    | _ => .no
  | .cmp op a b, ρ, S => (evE B C a ρ S).bind fun x S1 => (evE B C b ρ S1).bind fun y S2 => pCmp op x y S2
  | .ch2 o1 o2 a b c, ρ, S => (evE B C a ρ S).bind fun x S1 => (evE B C b ρ S1).bind fun y S2 => (pCmp o1 x y S2).bind fun k S3 => match k with
    | .t (.bl true) => (evE B C c ρ S3).bind fun z S4 => pCmp o2 y z S4
    | .t (.bl false) => .ok (.t (.bl false)) S3
    | _ => .no
  | .ch3 o1 o2 o3 a b c d, ρ, S => (evE B C a ρ S).bind fun x S1 => (evE B C b ρ S1).bind fun y S2 => (pCmp o1 x y S2).bind fun k S3 => match k with
    | .t (.bl true) => (evE B C c ρ S3).bind fun z S4 => (pCmp o2 y z S4).bind fun k S5 => match k with
      | .t (.bl true) => (evE B C d ρ S5).bind fun w S6 => pCmp o3 z w S6
      | .t (.bl false) => .ok (.t (.bl false)) S5
      | _ => .no
    | .t (.bl false) => .ok (.t (.bl false)) S3
    | _ => .no
  | .and a b, ρ, S => (evE B C a ρ S).bind fun x S1 => match x with
    | .t (.bl true) => evE B C b ρ S1
    | .t (.bl false) => .ok (.t (.bl false)) S1
    | _ => .no
  | .or a b, ρ, S => (evE B C a ρ S).bind fun x S1 => match x with
    | .t (.bl true) => .ok (.t (.bl true)) S1
    | .t (.bl false) => evE B C b ρ S1
    | _ => .no
  | .not a, ρ, S => (evE B C a ρ S).bind fun x S1 => match x with
    | .t (.bl k) => .ok (.t (.bl (!k))) S1
    | _ => .no
  | .ite c a b, ρ, S => (evE B C c ρ S).bind fun x S1 => match x with
    | .t (.bl true) => evE B C a ρ S1
    | .t (.bl false) => evE B C b ρ S1
    | _ => .no
  | .tup es, ρ, S => (evEs B C es ρ S).bind fun ds S1 => mkT ds S1
  | .lst m es, ρ, S => (evEs B C es ρ S).bind fun ds S1 => mkL m ds S1
  | .dct m kvs, ρ, S => (evPs B C kvs ρ S).bind fun ps S1 => mkD m (ps.foldl (fun acc p => putKy acc p.1 p.2) []) S1
  | .idx a b, ρ, S => (evE B C a ρ S).bind fun x S1 => (evE B C b ρ S1).bind fun y S2 => pIdx x y S2
  | .sl a lo hi, ρ, S => (evE B C a ρ S).bind fun x S1 => (evE B C lo ρ S1).bind fun l S2 => match prt lo l with
    | none => .no
    | some l => (evE B C hi ρ S2).bind fun h S3 => match prt hi h with
      | none => .no
      | some h => pSl x l h S3
  | .sl3 a lo hi k, ρ, S => (evE B C a ρ S).bind fun x S1 => (evE B C lo ρ S1).bind fun l S2 => match prt lo l with
    | none => .no
    | some l => (evE B C hi ρ S2).bind fun h S3 => match prt hi h with
      | none => .no
      | some h => pSl3 x l h k S3
  | .sss a, ρ, S => (evE B C a ρ S).bind fun x S1 => pSss x S1
  | .lss a, ρ, S => (evE B C a ρ S).bind fun x S1 => pLss x S1
  | .nop, _, S => .ok (.t .non) S
  | .att a f, ρ, S => (evE B C a ρ S).bind fun x S1 => pAtt B f x S1
  | .call m f es, ρ, S => (evEs B C es ρ S).bind fun ds S1 => callD C m f ds S1
  | .cv m i es, ρ, S => match ρ[i]? with
    | some (some (.t (.fn f))) => if B.isf f then (evEs B C es ρ S).bind fun ds S1 => callD C m f ds S1 else .no
    | _ => .no
  | .new m c es, ρ, S => match B.ini c with
    | some _ => (evEs B C es ρ S).bind fun ds S1 => newD B C m c ds S1
    | none => .no
  | .mth m o f es, ρ, S => match evE B C o ρ S with
    | .ok x S1 => (match mthG B f x S1 with
      | some g => (evEs B C es ρ S1).bind fun ds S2 => callD C m g (x :: ds) S2
      | none => .no)
    | _ => .no
  | .bi m b es, ρ, S => (evEs B C es ρ S).bind fun ds S1 => pBi m b ds S1
  | .bm m b o es, ρ, S => (evE B C o ρ S).bind fun x S1 => if kindD S1 x = bmT b then (evEs B C es ρ S1).bind fun ds S2 => pBm m b x ds S2 else .no
  | .isi a c, ρ, S => (evE B C a ρ S).bind fun x S1 => bl (isiB B.sub S1 x c) S1
  | .lc m el p k es cond, ρ, S => (evEs B C es ρ S).bind fun ds S1 => match itemsL (pureE cond && pureE el) k ds S1 with
    | none => .no
    | some xs => (lcL p (wipeL ρ p.own) (evE B C cond) (evE B C el) xs S1 []).bind fun ys S2 => mkL m ys S2
  | .frz e, ρ, S => (evE B C e ρ S).bind fun x S1 => match frz 9 S1 x with
    | some (t, S2) => .ok (.t t) S2
    | none => .no
  | .one e, ρ, S => evE B C e ρ S
  | .pk f es, ρ, S => (evEs B C es ρ S).bind fun ds S1 => pkD C f ds S1
  | .mpk o f es, ρ, S => match evE B C o ρ S with
    | .ok x S1 => (match mthG B f x S1 with
      | some g => (evEs B C es ρ S1).bind fun ds S2 => pkD C g (x :: ds) S2
      | none => .no)
    | _ => .no
  | .cald m f es, ρ, S => match B.dft f with
    | some dv => (evEs B C es ρ S).bind fun ds S1 => callD C m f (ds ++ [.t dv]) S1
    | none => .no
  | .ckw m f es kn e, ρ, S => match decide (B.kwn f = some kn) with
    | true => (evEs B C es ρ S).bind fun ds S1 => (evE B C e ρ S1).bind fun d S2 => callD C m f (ds ++ [d]) S2
    | false => .no
  | .mthd m o f es, ρ, S => match evE B C o ρ S with
    | .ok x S1 => (match mthG B f x S1 with
      | some g => (evEs B C es ρ S1).bind fun ds S2 => match B.dft g with
        | some dv => callD C m g (x :: (ds ++ [.t dv])) S2
        | none => .no
      | none => .no)
    | _ => .no
  | .cfn m _ _ f es, ρ, S => (evEs B C es ρ S).bind fun ds S1 => callD C m f ds S1
  | .lrg a, ρ, S => (evE B C a ρ S).bind fun x S1 => pLrg x S1
  | .iso a c, ρ, S => (evE B C a ρ S).bind fun x S1 => isoD B c x S1
  | .eqt a, ρ, S => (evE B C a ρ S).bind fun x S1 => pEqt x S1
  | .its m i j v, ρ, S => pIts m i j ρ v S
  | .sky m f a, ρ, S => (evE B C a ρ S).bind fun x S1 => pSky m C f x S1
  | .skl a, ρ, S => (evE B C a ρ S).bind fun x S1 => pSkl x S1
  | .stk, _, _ => .no
noncomputable def evEs (B : Tb) (C : Cal) : IEs → Ev → Sto → R (List D)
  | .nil, _, S => .ok [] S
  | .cons e es, ρ, S => (evE B C e ρ S).bind fun x S1 => (evEs B C es ρ S1).bind fun xs S2 => .ok (x :: xs) S2
/-- keys and values by turns -/
noncomputable def evPs (B : Tb) (C : Cal) : IEs → Ev → Sto → R (List (Ky × D))
  | .nil, _, S => .ok [] S
  | .cons _ .nil, _, _ => .no
  | .cons k (.cons v r), ρ, S => (evE B C k ρ S).bind fun x S1 => (evE B C v ρ S1).bind fun y S2 => match kyOf x with
    | none => .no
    | some ky => (evPs B C r ρ S2).bind fun ps S3 => .ok ((ky, y) :: ps) S3
end
/-! the suites -/
/-- one of some classes: the first that says so -/
def istB (f : XC → Option Bool) : List XC → Option Bool
  | [] => some false
  | c :: cs => match f c with
    | some true => some true
    | some false => istB f cs
    | none => none
def hide : Option Nat → Ev → Ev
  | none, ρ => ρ
  | some i, ρ => ρ.set i none
mutual
def evHE (B : Tb) (k : Nat) : HE → Ev → Sto → R D
  | .v i, ρ, S => match ρ[i]? with
    | some (some d) => .ok d S
    | _ => .no
  | .c t, ρ, S => .ok (.t t) S
  | .tup es, ρ, S => (evHEs B k es ρ S).bind fun ds S1 => mkT ds S1
  | .lst m es, ρ, S => (evHEs B k es ρ S).bind fun ds S1 => mkL m ds S1
  | .add a b, ρ, S => (evHE B k a ρ S).bind fun x S1 => (evHE B k b ρ S1).bind fun y S2 => pBin false .Add x y S2
  | .idx a b, ρ, S => (evHE B k a ρ S).bind fun x S1 => (evHE B k b ρ S1).bind fun y S2 => pIdx x y S2
  | .isx c, ρ, S => match B.xsub k c with
    | some b => .ok (.t (.bl b)) S
    | none => .no
  | .ist cs, ρ, S => match istB (B.xsub k) cs with
    | some b => .ok (.t (.bl b)) S
    | none => .no
  | .hcl f, ρ, S => match B.hcf f k with
    | some t => .ok (.t t) S
    | none => .no
def evHEs (B : Tb) (k : Nat) : HEs → Ev → Sto → R (List D)
  | .nil, _, S => .ok [] S
  | .cons e es, ρ, S => (evHE B k e ρ S).bind fun x S1 => (evHEs B k es ρ S1).bind fun xs S2 => .ok (x :: xs) S2
end
mutual
def evHS (B : Tb) (k : Nat) : HS → Ev → Sto → RS
  | .asg i e, ρ, S => match evHE B k e ρ S with
    | .ok d S1 => .nx (ρ.set i (some d)) S1
    | _ => .no
  | .app i e, ρ, S => match ρ[i]? with
    | some (some x) => if kindD S x = bmT .append then (match evHE B k e ρ S with
      | .ok d S1 => (match pBm false .append x [d] S1 with
        | .ok _ S2 => .nx ρ S2
        | _ => .no)
      | _ => .no) else .no
    | _ => .no
  | .ret e, ρ, S => match evHE B k e ρ S with
    | .ok d S1 => .rt d S1
    | _ => .no
  | .retN, ρ, S => .rt (.t .non) S
  | .ifx c a, ρ, S => match B.xsub k c with
    | some true => evHSs B k a ρ S
    | some false => .nx ρ S
    | none => .no
def evHSs (B : Tb) (k : Nat) : HSs → Ev → Sto → RS
  | .nil, ρ, S => .nx ρ S
  | .cons s r, ρ, S => match evHS B k s ρ S with
    | .nx ρ1 S1 => evHSs B k r ρ1 S1
    | x => x
end
def okV : Option Nat → Ev → Bool
  | none, _ => true
  | some i, ρ => decide (i < ρ.length)
/-- what except makes of an exception -/
def trX (B : Tb) (k : Nat) (fs : List (Str × T)) (c : Nat) (v : Option Nat) (h : HSs) (ρ : Ev) (S : Sto) : RS := match fs with
  | [] => (match B.xsub k (.own c) with
    | some true => if okV v ρ then (match evHSs B k h (hide v ρ) S with
      | .nx ρ2 S2 => .nx (hide v ρ2) S2
      | .rt d S2 => .rt d S2
      | _ => .no) else .no
    | some false => .ex k [] ρ S
    | none => .no)
  | f :: r => (match B.xsub k (.own c) with
    | some false => .ex k (f :: r) ρ S
    | _ => .no)
mutual
noncomputable def evS (B : Tb) (C : Cal) : IS → Ev → Sto → RS
  | .asg p e, ρ, S => match evE B C e ρ S with
    | .ok d S1 => (match setP p d ρ with
      | some ρ1 => .nx ρ1 S1
      | none => .no)
    | .ex c fs S1 => .ex c fs ρ S1
    | .no => .no
  | .ex e, ρ, S => match evE B C e ρ S with
    | .ok _ S1 => .nx ρ S1
    | .ex c fs S1 => .ex c fs ρ S1
    | .no => .no
  | .ret e, ρ, S => match evE B C e ρ S with
    | .ok d S1 => .rt d S1
    | .ex c fs S1 => .ex c fs ρ S1
    | .no => .no
  | .retN, _, S => .rt (.t .non) S
  | .ite c a b, ρ, S => match evE B C c ρ S with
    | .ok (.t (.bl true)) S1 => evSs B C a ρ S1
    | .ok (.t (.bl false)) S1 => evSs B C b ρ S1
    | .ex k fs S1 => .ex k fs ρ S1
    | _ => .no
  | .wh c b, ρ, S => whL (evE B C c) (evSs B C b) wf ρ S
  | .fo p k es b, ρ, S => match evEs B C es ρ S with
    | .ok ds S1 => (match itemsOf k ds S1 with
      | some xs => foL p (evSs B C b) xs ρ S1
      | none => .no)
    | .ex c fs S1 => .ex c fs ρ S1
    | .no => .no
  | .fol p e b, ρ, S => match evE B C e ρ S with
    | .ok (.ref k) S1 => (match asList S1 (.ref k) with
      | some xs => folL k S1[k]? p (evSs B C b) xs ρ S1
      | none => .no)
    | .ok (.t (.lst ts)) S1 => foL p (evSs B C b) (ts.map .t) ρ S1
    | .ok _ _ => .no
    | .ex c fs S1 => .ex c fs ρ S1
    | .no => .no
  | .brk, ρ, S => .bk ρ S
  | .cnt, ρ, S => .ct ρ S
  | .pas, ρ, S => .nx ρ S
  | .rse c es, ρ, S => match evEs B C es ρ S with
    | .ok _ S1 => .ex c [] ρ S1
    | _ => .no
  | .sti o i e, ρ, S => match evE B C e ρ S with
    | .ok v S1 => (match evE B C o ρ S1 with
      | .ok x S2 => (match evE B C i ρ S2 with
        | .ok y S3 => nxO ρ (pSt x y v S3)
        | .ex c fs S3 => .ex c fs ρ S3
        | .no => .no)
      | .ex c fs S2 => .ex c fs ρ S2
      | .no => .no)
    | .ex c fs S1 => .ex c fs ρ S1
    | .no => .no
  | .sta o f e, ρ, S => match evE B C e ρ S with
    | .ok v S1 => (match evE B C o ρ S1 with
      | .ok x S2 => nxO ρ (pFs B f x v S2)
      | .ex c fs S2 => .ex c fs ρ S2
      | .no => .no)
    | .ex c fs S1 => .ex c fs ρ S1
    | .no => .no
  | .tr b c v h el, ρ, S => match evSs B C b ρ S with
    | .ex k fs ρ1 S1 => trX B k fs c v h ρ1 S1
    | .nx ρ1 S1 => evSs B C el ρ1 S1
    | r => r
  | .stk, _, _ => .no
noncomputable def evSs (B : Tb) (C : Cal) : ISs → Ev → Sto → RS
  | .nil, ρ, S => .nx ρ S
  | .cons s r, ρ, S => match evS B C s ρ S with
    | .nx ρ1 S1 => evSs B C r ρ1 S1
    | x => x
end
/-- a def: how many names it has, its body -/
structure Df where
  ps : Nat
  names : Nat
  body : ISs
noncomputable def runDf (B : Tb) (C : Cal) (d : Df) (ds : List D) (S : Sto) : R D :=
  if ds.length = d.ps then match evSs B C d.body (ds.map some ++ List.replicate (d.names - ds.length) none) S with
    | .nx _ S1 => .ok (.t .non) S1
    | .rt d S1 => .ok d S1
    | .ex c fs _ S1 => .ex c fs S1
    | _ => .no
  else .no
/-- all defs, one in another n deep at most -/
noncomputable def cal (B : Tb) (P : Nat → Option Df) : Nat → Cal
  | 0, _, _, _ => .no
  | n + 1, f, ds, S => match P f with
    | some d => runDf B (cal B P n) d ds S
    | none => .no
end Wc

/-! Wc: what the evaluator says holds of the program: readings. -/
namespace Wc
open PySem PySem.Spec PyProof.Rows L2

/-- names of a def and their values -/
structure REn (G : Gd) (W : Wd) (σ : L2.St) (ρ : Ev) : Prop where
  len : σ.length = ρ.length
  at_ : ∀ (i : Nat) (d : D), ρ[i]? = some (some d) → ∃ v, σ[i]? = some (some v) ∧ RD G W v d
/-- an exception and what is said of it -/
def ExR (G : Gd) (H : Hp) (W : Wd) (c : Nat) (fs : List (Str × T)) (cls : Value) (dx : Option Addr) : Prop :=
  cls = .ref (G.ca c) ∧ match fs with
    | [] => dx = none
    | _ => ∃ dd vs, dx = some dd ∧ H dd = some (.xd vs) ∧ vs.map (·.1) = fs.map (·.1) ∧ RTs G W.Hf (vs.map (·.2)) (fs.map (·.2))
section
variable {G : Gd} {H H' : Hp} {W W' : Wd} {S S' : Sto} {σ : L2.St} {ρ : Ev}
theorem REn.mono (x : Ext H W H' W') (h : REn G W σ ρ) : REn G W' σ ρ := ⟨h.len, fun i d e => let ⟨v, a, b⟩ := h.at_ i d e; ⟨v, a, b.mono x⟩⟩
theorem REn.set (h : REn G W σ ρ) {v : V} {d : D} (r : RD G W v d) (i : Nat) : REn G W (σ.set i (some v)) (ρ.set i (some d)) := by
  refine ⟨by simp [h.len], fun j e he => ?_⟩
  by_cases q : i = j
  · subst q
    by_cases l : i < ρ.length
    · rw [List.getElem?_set_self l] at he
      cases he
      exact ⟨v, by rw [List.getElem?_set_self (by rw [h.len]; exact l)], r⟩
    · rw [List.getElem?_eq_none (by simpa using l)] at he; cases he
  · rw [List.getElem?_set_ne q] at he
    rw [List.getElem?_set_ne q]
    exact h.at_ j e he
theorem REn.clear (h : REn G W σ ρ) (i : Nat) : REn G W (σ.set i none) (ρ.set i none) := by
  refine ⟨by simp [h.len], fun j e he => ?_⟩
  by_cases q : i = j
  · subst q
    by_cases l : i < ρ.length
    · rw [List.getElem?_set_self l] at he; cases he
    · rw [List.getElem?_eq_none (by simpa using l)] at he; cases he
  · rw [List.getElem?_set_ne q] at he
    rw [List.getElem?_set_ne q]
    exact h.at_ j e he
end

/-! ### readings -/
section
variable (G : Gd)
/-- behind an answer -/
def Aft {α β : Type} (rel : Wd → β → α → Prop) (Wx : Value → Option Addr → Hp → Prop) (H : Hp) (W : Wd) (Q : β → Hp → Prop) : R α → Prop
  | .ok d S' => ∀ v H' W', Rel G H' W' S' → Ext H W H' W' → rel W' v d → Q v H'
  | .ex c fs S' => ∀ cls dx H' W', Rel G H' W' S' → Ext H W H' W' → ExR G H' W' c fs cls dx → Wx cls dx H'
  | .no => False
def tE (ev : Ev → Sto → R D) (Wx : WX) : TE := fun σ H Q => ∃ W ρ S, Rel G H W S ∧ REn G W σ ρ ∧ Aft G (fun W' v d => RD G W' v d) (fun cls dx H' => Wx cls dx σ H') H W Q (ev ρ S)
def tA (ev : Ev → Sto → R (List D)) (Wx : WX) : TA := fun σ H Q => ∃ W ρ S, Rel G H W S ∧ REn G W σ ρ ∧ Aft G (fun W' v d => RDs G W' v d) (fun cls dx H' => Wx cls dx σ H') H W Q (ev ρ S)
def rP2 (p : D → D → Sto → R D) : R2 := fun x y H Q => ∃ W S dx dy, Rel G H W S ∧ RD G W x dx ∧ RD G W y dy ∧ Aft G (fun W' v d => RD G W' v d) (fun _ _ _ => False) H W Q (p dx dy S)
def rP1 (p : D → Sto → R D) : V → Hp → VK → Prop := fun x H Q => ∃ W S dx, Rel G H W S ∧ RD G W x dx ∧ Aft G (fun W' v d => RD G W' v d) (fun _ _ _ => False) H W Q (p dx S)
def rPs (p : List D → Sto → R D) : List V → Hp → VK → Prop := fun xs H Q => ∃ W S ds, Rel G H W S ∧ RDs G W xs ds ∧ Aft G (fun W' v d => RD G W' v d) (fun _ _ _ => False) H W Q (p ds S)
end
section
variable {G : Gd} {X : Cx}
theorem pe_imp {e : Expr} {t t' : TE} (h : PE X e t) (k : ∀ σ H Q, t' σ H Q → t σ H Q) : PE X e t' := ⟨fun pins s σ H Q I q => h.run pins s σ H Q I (k _ _ _ q)⟩
theorem pt_imp {e : Expr} {t t' : TT} (h : PT X e t) (k : ∀ σ H Q, t' σ H Q → t σ H Q) : PT X e t' := ⟨fun pins s σ H Q I q => h.run pins s σ H Q I (k _ _ _ q)⟩
theorem pw_imp {e : Expr} {t t' : TT} (h : PW X e t) (k : ∀ σ H Q, t' σ H Q → t σ H Q) : PW X e t' := ⟨fun whole pins s σ H Q I q => h.run whole pins s σ H Q I (k _ _ _ q)⟩
theorem pa_imp {es : List Expr} {t t' : TA} (h : PA X es t) (k : ∀ σ H Q, t' σ H Q → t σ H Q) : PA X es t' := ⟨fun pos pins s σ H Q I q => h.run pos pins s σ H Q I (k _ _ _ q)⟩
theorem ps_imp {st : Stmt} {t t' : TS} (h : PS X st t) (k : ∀ D σ H, t' D σ H → t D σ H) : PS X st t' := ⟨fun pins s σ H D I q => h.run pins s σ H D I (k _ _ _ q)⟩
theorem opr_imp {f : Value → Value → Sem Value} {r r' : R2} (h : OpR X f r) (k : ∀ x y H Q, r' x y H Q → r x y H Q) : OpR X f r' := fun pins s σ H x y v u Q I rx ry q => h pins s σ H x y v u Q I rx ry (k _ _ _ _ q)
/-- Aft through a bind: first e, then what follows -/
theorem Aft.bind {α β γ δ : Type} {rel : Wd → β → α → Prop} {rel2 : Wd → δ → γ → Prop} {Wx : Value → Option Addr → Hp → Prop} {H : Hp} {W : Wd} {Q : δ → Hp → Prop} {r : R α} {f : α → Sto → R γ}
    (h : Aft G rel2 Wx H W Q (r.bind f)) : Aft G rel Wx H W (fun v H1 => ∃ d S1 W1, Rel G H1 W1 S1 ∧ Ext H W H1 W1 ∧ rel W1 v d ∧ Aft G rel2 Wx H1 W1 Q (f d S1)) r := by
  cases r with
  | ok d S1 =>
    intro v H1 W1 r1 x1 q1
    refine ⟨d, S1, W1, r1, x1, q1, ?_⟩
    have h : Aft G rel2 Wx H W Q (f d S1) := h
    cases e : f d S1 with
    | ok d2 S2 => rw [e] at h; exact fun v H2 W2 r2 x2 q2 => h v H2 W2 r2 (x1.trans x2) q2
    | ex c fs S2 => rw [e] at h; exact fun cls dx H2 W2 r2 x2 q2 => h cls dx H2 W2 r2 (x1.trans x2) q2
    | no => rw [e] at h; exact h
  | ex c fs S1 => exact h
  | no => exact h
theorem Aft.imp {α β : Type} {rel : Wd → β → α → Prop} {Wx Wx' : Value → Option Addr → Hp → Prop} {H : Hp} {W : Wd} {Q Q' : β → Hp → Prop} {r : R α}
    (h : Aft G rel Wx H W Q r) (k : ∀ v H', Q v H' → Q' v H') (kx : ∀ c d H', Wx c d H' → Wx' c d H') : Aft G rel Wx' H W Q' r := by
  cases r with
  | ok d S1 => exact fun v H1 W1 r1 x1 q1 => k _ _ (h v H1 W1 r1 x1 q1)
  | ex c fs S1 => exact fun cls dx H1 W1 r1 x1 q1 => kx _ _ _ (h cls dx H1 W1 r1 x1 q1)
  | no => exact h
def noEx {α : Type} : R α → Prop
  | .ex _ _ _ => False
  | _ => True
theorem Aft.noEx {α β : Type} {rel : Wd → β → α → Prop} {Wx Wx' : Value → Option Addr → Hp → Prop} {H : Hp} {W : Wd} {Q : β → Hp → Prop} {r : R α} (h : Aft G rel Wx H W Q r) (n : noEx r) : Aft G rel Wx' H W Q r := by
  cases r with
  | ok d S1 => exact h
  | ex c fs S1 => exact n.elim
  | no => exact h
theorem tE_op {eva evb : Ev → Sto → R D} {p : D → D → Sto → R D} {Wx : WX} {r : R2} (hp : ∀ x y S, noEx (p x y S)) (hr : ∀ x y H Q, rP2 G p x y H Q → r x y H Q) {σ : L2.St} {H : Hp} {Q : VK}
    (h : tE G (fun ρ S => (eva ρ S).bind fun x S1 => (evb ρ S1).bind fun y S2 => p x y S2) Wx σ H Q) : tOp r (tE G eva Wx) (tE G evb Wx) σ H Q := by
  obtain ⟨W, ρ, S, rl, en, q⟩ := h
  refine ⟨W, ρ, S, rl, en, (Aft.bind (rel := fun W' v d => RD G W' v d) q).imp (fun v H1 ⟨d, S1, W1, r1, x1, q1, a1⟩ => ?_) fun _ _ _ z => z⟩
  refine ⟨W1, ρ, S1, r1, en.mono x1, (Aft.bind (rel := fun W' v d => RD G W' v d) a1).imp (fun u H2 ⟨e, S2, W2, r2, x2, q2, a2⟩ => ?_) fun _ _ _ z => z⟩
  exact hr _ _ _ _ ⟨W2, S2, d, e, r2, q1.mono x2, q2, a2.noEx (hp _ _ _)⟩
theorem tE_un {eva : Ev → Sto → R D} {p : D → Sto → R D} {Wx : WX} {r : V → Hp → VK → Prop} (hp : ∀ x S, noEx (p x S)) (hr : ∀ x H Q, rP1 G p x H Q → r x H Q) {σ : L2.St} {H : Hp} {Q : VK}
    (h : tE G (fun ρ S => (eva ρ S).bind fun x S1 => p x S1) Wx σ H Q) : tUn r (tE G eva Wx) σ H Q := by
  obtain ⟨W, ρ, S, rl, en, q⟩ := h
  refine ⟨W, ρ, S, rl, en, (Aft.bind (rel := fun W' v d => RD G W' v d) q).imp (fun v H1 ⟨d, S1, W1, r1, x1, q1, a1⟩ => ?_) fun _ _ _ z => z⟩
  exact hr _ _ _ ⟨W1, S1, d, r1, q1, a1.noEx (hp _ _)⟩
/-- names, constants -/
theorem sE_var {B : Tb} {C : Cal} {i : Nat} {Wx : WX} {e : Expr} (h : PE X e (tVar i)) : PE X e (tE G (evE B C (.v i)) Wx) := pe_imp h fun σ H Q ⟨W, ρ, S, rl, en, q⟩ => by
  unfold evE at q
  cases e : ρ[i]? with
  | none => rw [e] at q; exact q.elim
  | some o =>
    cases o with
    | none => rw [e] at q; exact q.elim
    | some d =>
      rw [e] at q
      obtain ⟨v, a, b⟩ := en.at_ i d e
      exact ⟨v, a, q v H W rl Ext.refl b⟩
theorem sE_con {B : Tb} {C : Cal} {t : T} {v : V} {Wx : WX} {e : Expr} (ht : ∀ H, RT G H v t) (h : PE X e (tC v)) : PE X e (tE G (evE B C (.c t)) Wx) := pe_imp h fun σ H Q ⟨W, ρ, S, rl, en, q⟩ => by
  unfold evE at q
  exact q v H W rl Ext.refl (.t (ht _))
theorem sE_glo {B : Tb} {C : Cal} {x : Str} {t : T} {v : V} {Wx : WX} {e : Expr} (ht : ∀ H, RT G H v t) (h : PE X e (tC v)) : PE X e (tE G (evE B C (.g x t)) Wx) := pe_imp h fun σ H Q ⟨W, ρ, S, rl, en, q⟩ => by
  unfold evE at q
  exact q v H W rl Ext.refl (.t (ht _))
/-- tests from values -/
theorem pt_of {e : Expr} {t : TE} (h : PE X e t) (he : ∀ whole, isTrue e X.env whole = (do let v ← whole; standAt e.pos; holding [v] (truthy v))) : PT X e (tTest t) :=
  pt_val h he
end
end Wc

/-! Wc: the operations on values. -/
namespace Wc
open PySem PySem.Spec PyProof.Rows L2
section
variable {G : Gd} {X : Cx} {H : Hp} {W : Wd} {S : Sto} {Q : VK} {Wx : Value → Option Addr → Hp → Prop}
theorem lim_le : lim ≤ sizeLine := by rw [sizeLine_eq]; decide
theorem pls_none {ds : List D} : pls ds = none → ∃ d ∈ ds, d.pl = none := by
  induction ds with
  | nil => intro h; cases h
  | cons d r ih =>
    intro h
    cases d with
    | t x =>
      simp only [pls, Option.map_eq_none_iff] at h
      obtain ⟨d, a, b⟩ := ih h
      exact ⟨d, List.mem_cons_of_mem _ a, b⟩
    | ref k => exact ⟨_, List.mem_cons_self, rfl⟩
    | tup k => exact ⟨_, List.mem_cons_self, rfl⟩
theorem mkL_ok {m : Bool} {xs : List V} {ds : List D} (rl : Rel G H W S) (h : RDs G W xs ds) (q : Aft G (fun W' v d => RD G W' v d) Wx H W Q (mkL m ds S)) : ∀ p, H p = none → Q (.ref p) (upd H p (.lst xs)) := by
  intro p hp
  unfold mkL at q
  cases m with
  | true =>
    rw [if_pos rfl] at q
    obtain ⟨r2, x2⟩ := rl.alloc (u := .lst xs) (o := .lst ds) hp fun H' W' e s f => .lst e (h.mono' s f)
    exact q _ _ _ r2 x2 (.ref (by show (W.F ++ [p])[S.length]? = some p; rw [← rl.len]; simp))
  | false =>
    rw [if_neg (by simp)] at q
    cases e : pls ds with
    | none => rw [e] at q; exact q.elim
    | some ts =>
      rw [e] at q
      have e2 := pls_eq e
      subst e2
      obtain ⟨r2, x2⟩ := rl.new (o := .lst xs) hp
      exact q _ _ _ r2 x2 (.t (.lst upd_same ((h.mono x2).toT)))
theorem mkT_ok {xs : List V} {ds : List D} (rl : Rel G H W S) (h : RDs G W xs ds) (q : Aft G (fun W' v d => RD G W' v d) Wx H W Q (mkT ds S)) : ∀ p, H p = none → Q (.ref p) (upd H p (.tup xs)) := by
  intro p hp
  unfold mkT at q
  obtain ⟨r2, x2⟩ := rl.new (o := .tup xs) hp
  cases e : pls ds with
  | none => rw [e] at q; exact q _ _ _ r2 x2 (.tup upd_same (h.mono x2))
  | some ts =>
    rw [e] at q
    have e2 := pls_eq e
    subst e2
    exact q _ _ _ r2 x2 (.t (.tup upd_same ((h.mono x2).toT)))
theorem mkT_noEx (ds : List D) (S : Sto) : noEx (mkT ds S) := by unfold mkT; split <;> exact True.intro
theorem mkL_noEx (m : Bool) (ds : List D) (S : Sto) : noEx (mkL m ds S) := by
  unfold mkL
  split
  · exact True.intro
  · split <;> exact True.intro
theorem asList_ok {v : V} {d : D} {ds : List D} (rl : Rel G H W S) (r : RD G W v d) (e : asList S d = some ds) : ∃ a xs, v = .ref a ∧ H a = some (.lst xs) ∧ RDs G W xs ds := by
  unfold asList at e
  split at e
  · cases e
    cases r with
    | t r =>
      cases r with
      | lst h1 h2 => exact ⟨_, _, rfl, rl.sub _ _ h1, RDs.ofT h2⟩
  · cases r with
    | ref h1 =>
      split at e
      · rename_i e1
        cases e
        have ro := rl.obj _ _ _ e1 h1
        cases ro with
        | lst h3 h4 => exact ⟨_, _, rfl, h3, h4⟩
      · cases e
  · cases e
theorem asTup_ok {v : V} {d : D} {ds : List D} (rl : Rel G H W S) (r : RD G W v d) (e : asTup d = some ds) : ∃ a xs, v = .ref a ∧ (W.Hf a = some (.tup xs) ∨ W.Hf a = some (.lst xs)) ∧ RDs G W xs ds := by
  unfold asTup at e
  split at e
  · cases e
    cases r with
    | t r =>
      cases r with
      | tup h1 h2 => exact ⟨_, _, rfl, .inl h1, RDs.ofT h2⟩
  · cases e
    cases r with
    | t r =>
      cases r with
      | lst h1 h2 => exact ⟨_, _, rfl, .inr h1, RDs.ofT h2⟩
  · cases e
    cases r with
    | tup h1 h2 => exact ⟨_, _, rfl, .inl h1, h2⟩
  · cases e
theorem seqOf_ok {v : V} {d : D} {ds : List D} (rl : Rel G H W S) (r : RD G W v d) (e : seqOf S d = some ds) : ∃ a xs, v = .ref a ∧ (H a = some (.lst xs) ∨ H a = some (.tup xs)) ∧ RDs G W xs ds := by
  unfold seqOf at e
  split at e
  · cases e
    cases r with
    | t r =>
      cases r with
      | lst h1 h2 => exact ⟨_, _, rfl, .inl (rl.sub _ _ h1), RDs.ofT h2⟩
  · cases e
    cases r with
    | t r =>
      cases r with
      | tup h1 h2 => exact ⟨_, _, rfl, .inr (rl.sub _ _ h1), RDs.ofT h2⟩
  · cases e
    cases r with
    | tup h1 h2 => exact ⟨_, _, rfl, .inr (rl.sub _ _ h1), h2⟩
  · cases r with
    | ref h1 =>
      split at e
      · rename_i e1
        cases e
        have ro := rl.obj _ _ _ e1 h1
        cases ro with
        | lst h3 h4 => exact ⟨_, _, rfl, .inl h3, h4⟩
      · cases e
  · cases e
theorem RD.int_of {v : V} {i : Int} (r : RD G W v (.t (.int i))) : v = .int i := by
  cases r with | t r => cases r; rfl
theorem RD.str_of {v : V} {i : Str} (r : RD G W v (.t (.str i))) : v = .str i := by
  cases r with | t r => cases r; rfl
theorem RD.bl_of {v : V} {i : Bool} (r : RD G W v (.t (.bl i))) : v = .bl i := by
  cases r with | t r => cases r; rfl
theorem RD.non_of {v : V} (r : RD G W v (.t .non)) : v = .non := by
  cases r with | t r => cases r; rfl
theorem RDs.rep {xs : List V} {ds : List D} (h : RDs G W xs ds) : ∀ n : Nat, RDs G W (List.replicate n xs).flatten (repL n ds)
  | 0 => .nil
  | n + 1 => by
    unfold repL
    rw [List.replicate_succ, List.replicate_succ, List.flatten_cons, List.flatten_cons]
    exact h.append (RDs.rep h n)
theorem opr_add {m : Bool} : OpR X (binaryOp .Add) (rP2 G (pBin m .Add)) := by
  refine opr_imp (op_add.or (op_add_str.or (op_cat.or op_catT))) fun x y H Q ⟨W, S, dx, dy, rl, r1, r2, q⟩ => ?_
  unfold pBin at q
  simp only at q
  unfold pAdd at q
  split at q
  · cases r1.int_of; cases r2.int_of
    exact .inl ⟨_, _, rfl, rfl, q _ _ _ rl Ext.refl (.t (.int _))⟩
  · cases r1.str_of; cases r2.str_of
    split at q
    · rename_i hl
      exact .inr (.inl ⟨_, _, rfl, rfl, Nat.le_trans hl lim_le, q _ _ _ rl Ext.refl (.t (.str _))⟩)
    · exact q.elim
  · rename_i xs ys
    split at q
    · rename_i hl
      cases r1 with
      | t r1 => cases r1 with
        | @tup a us _ h1 k1 => cases r2 with
          | t r2 => cases r2 with
            | @tup b ws _ h2 k2 =>
              have l1 := k1.length
              have l2 := k2.length
              have n1 : us ≠ [] := fun e => hl.1 (List.length_eq_zero_iff.mp (by rw [e] at l1; simpa using l1.symm))
              have n2 : ws ≠ [] := fun e => hl.2.1 (List.length_eq_zero_iff.mp (by rw [e] at l2; simpa using l2.symm))
              refine .inr (.inr (.inr ⟨a, b, us, ws, rfl, rfl, SqT.of (rl.sub _ _ h1), SqT.of (rl.sub _ _ h2), n1, ?_, fun e => absurd e n2, fun _ p hp => ?_⟩))
              · rw [l1, l2]; exact Nat.le_trans hl.2.2 lim_le
              · obtain ⟨r2, x2⟩ := rl.new (o := .tup (us ++ ws)) hp
                have k := (RDs.ofT k1).append (RDs.ofT k2)
                rw [← List.map_append] at k
                exact q _ _ _ r2 x2 (.t (.tup upd_same (RTs.mono x2.hf (RDs.toT k))))
    · exact q.elim
  · split at q
    · rename_i xs ys e1 e2
      obtain ⟨a, us, rfl, h1, k1⟩ := asList_ok rl r1 e1
      obtain ⟨b, ws, rfl, h2, k2⟩ := asList_ok rl r2 e2
      split at q
      · rename_i hl
        refine .inr (.inr (.inl ⟨a, b, us, ws, rfl, rfl, h1, h2, ?_, mkL_ok rl (k1.append k2) q⟩))
        rw [k1.length, k2.length]; exact Nat.le_trans hl lim_le
      · exact q.elim
    · exact q.elim
theorem mul_mulOk {i j : Int} (h : mulOk i j) : CMul i j ∨ CMulW i j := by
  rcases h with h | h | h
  · exact .inl (.inl h)
  · exact .inl (.inr h)
  · exact .inr h
theorem foldl_app (x : Array Nat) : ∀ (n : Nat) (acc : Array Nat), ((List.replicate n x).foldl (· ++ ·) acc) = acc ++ ((List.replicate n x.toList).flatten).toArray
  | 0, acc => by simp
  | n + 1, acc => by
    rw [List.replicate_succ, List.foldl_cons, foldl_app x n, List.replicate_succ, List.flatten_cons]
    apply Array.ext'
    simp
theorem op_rep_str : OpR X (binaryOp .Mult) (fun x y H Q => ∃ a k, x = .str a ∧ y = .int k ∧ -(2 ^ 63) ≤ k ∧ k < 2 ^ 63 ∧ a.length * k.toNat ≤ lim ∧ Q (.str (repS k.toNat a)) H) := by
  intro pins s σ H x y v u Q I rx ry h
  obtain ⟨a, k, rfl, rfl, h1, h2, h3, q⟩ := h
  obtain ⟨t, rfl⟩ := rx
  obtain ⟨t', rfl⟩ := ry
  have hlen : (a.length : Int) * k ≤ 16000000 ∨ k < 1 := by
    by_cases hk : k < 1
    · exact .inr hk
    · refine .inl ?_
      have e : (k.toNat : Int) = k := Int.toNat_of_nonneg (by omega)
      have h4 : ((a.length * k.toNat : Nat) : Int) ≤ ((lim : Nat) : Int) := by exact_mod_cast h3
      rw [Int.natCast_mul, e] at h4
      exact h4
  refine PySem.P.mul_str ?_ ?_ ?_ ?_
  · rw [decide_eq_false (by omega), decide_eq_false (by omega)]; rfl
  · intro h4 _ h5
    have h6 : (a.length : Int) ≤ (2 ^ 63 - 1) / k := by
      rw [Int.le_ediv_iff_mul_le (by omega)]
      rcases hlen with h | h
      · omega
      · omega
    omega
  · intro h4 _
    have h5 : a.length * k.toNat ≤ sizeLine := Nat.le_trans h3 lim_le
    first
      | exact decide_eq_false (by omega)
      | (unfold tooLong; exact decide_eq_false (by omega))
  · have e0 : k < 1 → repS k.toNat a = Str.empty := fun h => by
      have : k.toNat = 0 := by omega
      rw [this]; rfl
    have e1 : (k == 1 || a.length == 0) = true → repS k.toNat a = a := fun h => by
      rw [Bool.or_eq_true, beq_iff_eq, beq_iff_eq] at h
      obtain ⟨cps⟩ := a
      rcases h with h | h
      · subst h; simp [repS]
      · have : cps = #[] := Array.eq_empty_of_size_eq_zero h
        subst this
        unfold repS
        congr 1
        have : ∀ n : Nat, (List.replicate n ([] : List Nat)).flatten = [] := fun n => by induction n with
          | zero => rfl
          | succ n ih => rw [List.replicate_succ, List.flatten_cons, ih]; rfl
        rw [this]
    split
    · rename_i h
      rw [e0 h] at q
      exact ⟨by decide, .str _, H, I.tok _, ⟨_, rfl⟩, q⟩
    · split
      · rename_i h
        rw [e1 h] at q
        exact ⟨.str a, H, I, ⟨_, rfl⟩, q⟩
      · have e2 : (⟨(List.replicate k.toNat a.cps).foldl (· ++ ·) #[]⟩ : Str) = repS k.toNat a := by
          unfold repS
          congr 1
          rw [foldl_app]; simp
        rw [e2]
        refine ⟨?_, .str _, H, I.tok _, ⟨_, rfl⟩, q⟩
        have hl : (repS k.toNat a).length = k.toNat * a.length := by
          show ((List.replicate k.toNat a.cps.toList).flatten.toArray).size = _
          rw [List.size_toArray, List.length_flatten, List.map_replicate, List.sum_replicate_nat]
          simp [Str.length]
        rw [hl, Nat.mul_comm]
        exact Nat.le_trans h3 lim_le
theorem opr_mul {m : Bool} : OpR X (binaryOp .Mult) (rP2 G (pBin m .Mult)) := by
  refine opr_imp ((op_mul.or op_mulW).or (op_rep_str.or op_rep)) fun x y H Q ⟨W, S, dx, dy, rl, r1, r2, q⟩ => ?_
  unfold pBin at q
  simp only at q
  split at q
  · cases r1.int_of; cases r2.int_of
    split at q
    · rename_i hm
      rcases mul_mulOk hm with h | h
      · exact .inl (.inl ⟨_, _, rfl, rfl, h, q _ _ _ rl Ext.refl (.t (.int _))⟩)
      · exact .inl (.inr ⟨_, _, rfl, rfl, h, q _ _ _ rl Ext.refl (.t (.int _))⟩)
    · exact q.elim
  · cases r1.str_of; cases r2.int_of
    split at q
    · rename_i hm
      exact .inr (.inl ⟨_, _, rfl, rfl, hm.1, hm.2.1, hm.2.2, q _ _ _ rl Ext.refl (.t (.str _))⟩)
    · exact q.elim
  · cases r2.int_of
    split at q
    · rename_i xs e1
      obtain ⟨a, us, rfl, h1, k1⟩ := asList_ok rl r1 e1
      split at q
      · rename_i hl
        obtain ⟨l1, l2, l3⟩ := hl
        refine .inr (.inr ⟨a, _, us, rfl, rfl, h1, l1, l2, ?_, mkL_ok rl (k1.rep _) q⟩)
        rw [k1.length]; exact Nat.le_trans l3 lim_le
      · exact q.elim
    · exact q.elim
  · exact q.elim
theorem opr_sub {m : Bool} : OpR X (binaryOp .Sub) (rP2 G (pBin m .Sub)) := by
  refine opr_imp op_sub fun x y H Q ⟨W, S, dx, dy, rl, r1, r2, q⟩ => ?_
  unfold pBin at q
  simp only at q
  split at q
  · cases r1.int_of; cases r2.int_of
    exact ⟨_, _, rfl, rfl, q _ _ _ rl Ext.refl (.t (.int _))⟩
  · exact q.elim
theorem opr_fdiv {m : Bool} : OpR X (binaryOp .FloorDiv) (rP2 G (pBin m .FloorDiv)) := by
  refine opr_imp (op_fdiv.or op_fdivW) fun x y H Q ⟨W, S, dx, dy, rl, r1, r2, q⟩ => ?_
  unfold pBin at q
  simp only at q
  split at q
  · cases r1.int_of; cases r2.int_of
    split at q
    · rename_i hm
      obtain ⟨h0, h | h⟩ := hm
      · exact .inl ⟨_, _, rfl, rfl, ⟨h0, h⟩, q _ _ _ rl Ext.refl (.t (.int _))⟩
      · exact .inr ⟨_, _, rfl, rfl, ⟨h0, h⟩, q _ _ _ rl Ext.refl (.t (.int _))⟩
    · exact q.elim
  · exact q.elim
theorem opr_mod {m : Bool} : OpR X (binaryOp .Mod) (rP2 G (pBin m .Mod)) := by
  refine opr_imp op_mod fun x y H Q ⟨W, S, dx, dy, rl, r1, r2, q⟩ => ?_
  unfold pBin at q
  simp only at q
  split at q
  · cases r1.int_of; cases r2.int_of
    split at q
    · rename_i hm
      exact ⟨_, _, rfl, rfl, hm, q _ _ _ rl Ext.refl (.t (.int _))⟩
    · exact q.elim
  · exact q.elim
theorem opr_pow {m : Bool} : OpR X (binaryOp .Pow) (rP2 G (pBin m .Pow)) := by
  refine opr_imp op_pow fun x y H Q ⟨W, S, dx, dy, rl, r1, r2, q⟩ => ?_
  unfold pBin at q
  simp only at q
  split at q
  · cases r1.int_of; cases r2.int_of
    split at q
    · rename_i hm
      exact ⟨_, _, rfl, rfl, hm, q _ _ _ rl Ext.refl (.t (.int _))⟩
    · exact q.elim
  · exact q.elim
theorem opr_shl {m : Bool} : OpR X (binaryOp .LShift) (rP2 G (pBin m .LShift)) := by
  refine opr_imp (op_shl.or op_shlW) fun x y H Q ⟨W, S, dx, dy, rl, r1, r2, q⟩ => ?_
  unfold pBin at q
  simp only at q
  split at q
  · cases r1.int_of; cases r2.int_of
    split at q
    · rename_i hm
      rcases hm with h | h
      · exact .inl ⟨_, _, rfl, rfl, h, q _ _ _ rl Ext.refl (.t (.int _))⟩
      · exact .inr ⟨_, _, rfl, rfl, h, q _ _ _ rl Ext.refl (.t (.int _))⟩
    · exact q.elim
  · exact q.elim
theorem opr_shr {m : Bool} : OpR X (binaryOp .RShift) (rP2 G (pBin m .RShift)) := by
  refine opr_imp op_shr fun x y H Q ⟨W, S, dx, dy, rl, r1, r2, q⟩ => ?_
  unfold pBin at q
  simp only at q
  split at q
  · cases r1.int_of; cases r2.int_of
    split at q
    · rename_i hm
      exact ⟨_, _, rfl, rfl, hm, q _ _ _ rl Ext.refl (.t (.int _))⟩
    · exact q.elim
  · exact q.elim
theorem opr_and {m : Bool} : OpR X (binaryOp .BitAnd) (rP2 G (pBin m .BitAnd)) := by
  refine opr_imp op_and fun x y H Q ⟨W, S, dx, dy, rl, r1, r2, q⟩ => ?_
  unfold pBin at q
  simp only at q
  split at q
  · cases r1.int_of; cases r2.int_of
    exact ⟨_, _, rfl, rfl, q _ _ _ rl Ext.refl (.t (.int _))⟩
  · exact q.elim
theorem opr_or {m : Bool} : OpR X (binaryOp .BitOr) (rP2 G (pBin m .BitOr)) := by
  refine opr_imp op_or fun x y H Q ⟨W, S, dx, dy, rl, r1, r2, q⟩ => ?_
  unfold pBin at q
  simp only at q
  split at q
  · cases r1.int_of; cases r2.int_of
    exact ⟨_, _, rfl, rfl, q _ _ _ rl Ext.refl (.t (.int _))⟩
  · exact q.elim
theorem opr_xor {m : Bool} : OpR X (binaryOp .BitXor) (rP2 G (pBin m .BitXor)) := by
  refine opr_imp op_xor fun x y H Q ⟨W, S, dx, dy, rl, r1, r2, q⟩ => ?_
  unfold pBin at q
  simp only at q
  split at q
  · cases r1.int_of; cases r2.int_of
    exact ⟨_, _, rfl, rfl, q _ _ _ rl Ext.refl (.t (.int _))⟩
  · exact q.elim
theorem opr_never {f : Value → Value → Sem Value} : OpR X f (fun _ _ _ _ => False) := fun _ _ _ _ _ _ _ _ _ _ _ _ h => h.elim
theorem opr_bin {m : Bool} : ∀ op : Operator, OpR X (binaryOp op) (rP2 G (pBin m op))
  | .Add => opr_add
  | .Sub => opr_sub
  | .Mult => opr_mul
  | .FloorDiv => opr_fdiv
  | .Mod => opr_mod
  | .Pow => opr_pow
  | .LShift => opr_shl
  | .RShift => opr_shr
  | .BitAnd => opr_and
  | .BitOr => opr_or
  | .BitXor => opr_xor
  | .Div => opr_imp opr_never fun x y H Q ⟨W, S, dx, dy, rl, r1, r2, q⟩ => by
    unfold pBin at q
    simp only at q
    split at q <;> exact q.elim
  | .MatMult => opr_imp opr_never fun x y H Q ⟨W, S, dx, dy, rl, r1, r2, q⟩ => by
    unfold pBin at q
    simp only at q
    split at q <;> exact q.elim
theorem pBin_noEx (m : Bool) (op : Operator) (x y : D) (S : Sto) : noEx (pBin m op x y S) := by
  unfold pBin pAdd
  repeat' (first | exact True.intro | exact mkL_noEx _ _ _ | split)
end
end Wc

/-! Wc: comparisons, in, subscripts, slices. -/
namespace Wc
open PySem PySem.Spec PyProof.Rows L2
section
variable {G : Gd} {X : Cx} {H : Hp} {W : Wd} {S : Sto} {Q : VK} {Wx : Value → Option Addr → Hp → Prop}
mutual
theorem RT.dp : ∀ {t : T} {v : V} {d : PyData}, RT G H v t → t.pd = some d → Dp G.K H v d
  | .non, _, _, h, e => by cases h; cases e; exact .non
  | .bl b, _, _, h, e => by cases h; cases e; exact .bl b
  | .int b, _, _, h, e => by cases h; cases e; exact .int b
  | .str b, _, _, h, e => by cases h; cases e; exact .str b
  | .lst ts, _, _, h, e => by
    cases h with
    | lst h1 h2 =>
      simp only [T.pd, Option.map_eq_some_iff] at e
      obtain ⟨ds, e, rfl⟩ := e
      exact .lst (SqL.of h1) (RTs.dp h2 e)
  | .tup ts, _, _, h, e => by
    cases h with
    | tup h1 h2 =>
      simp only [T.pd, Option.map_eq_some_iff] at e
      obtain ⟨ds, e, rfl⟩ := e
      exact .tup (SqT.of h1) (RTs.dp h2 e)
  | .dct ts, _, _, h, e => by simp [T.pd] at e
  | .ins c ts, _, _, h, e => by simp [T.pd] at e
  | .fn c, _, _, h, e => by simp [T.pd] at e
  | .scr ns, _, _, h, e => by simp [T.pd] at e
theorem RTs.dp : ∀ {ts : List T} {vs : List V} {ds : List PyData}, RTs G H vs ts → T.pds ts = some ds → DpAll G.K H vs ds
  | [], _, _, h, e => by cases h; cases e; exact .nil
  | t :: ts, _, _, h, e => by
    cases h with
    | cons h1 h2 =>
      unfold T.pds at e
      split at e
      · rename_i d ds e1 e2
        cases e
        exact .cons (RT.dp h1 e1) (RTs.dp h2 e2)
      · cases e
end
theorem look_ok {v : V} {d : D} {p : PyData} (rl : Rel G H W S) (r : RD G W v d) (e : look S d = some p) : Dp G.K H v p := by
  unfold look at e
  split at e
  · rename_i t S1 e1
    obtain ⟨W', r', x', q', _⟩ := frz_ok 9 rl r e1
    exact (q'.mono r'.sub).dp e
  · cases e
theorem bl_noEx (o : Option Bool) (S : Sto) : noEx (bl o S) := by cases o <;> exact True.intro
theorem bl_ok {o : Option Bool} (rl : Rel G H W S) (q : Aft G (fun W' v d => RD G W' v d) Wx H W Q (bl o S)) : ∃ b, o = some b ∧ Q (.bl b) H := by
  cases o with
  | none => exact q.elim
  | some b => exact ⟨b, rfl, q _ _ _ rl Ext.refl (.t (.bl b))⟩
theorem eqD_ok {x y : V} {dx dy : D} {b : Bool} (rl : Rel G H W S) (r1 : RD G W x dx) (r2 : RD G W y dy) (e : eqD dx dy S = some b) :
    ∃ d e, Dp G.K H x d ∧ Dp G.K H y e ∧ SeqAt.shaped d = true ∧ SeqAt.shaped e = true ∧ b = PyData.eqv d e := by
  unfold eqD at e
  split at e
  · rename_i p q e1 e2
    split at e
    · rename_i hs
      cases e
      rw [Bool.and_eq_true] at hs
      exact ⟨p, q, look_ok rl r1 e1, look_ok rl r2 e2, hs.1, hs.2, rfl⟩
    · cases e
  · cases e
theorem opr_eq (hK : X.K = G.K) (hu : X.A.units + 65 < cLine) : OpR X (compareOp .Eq) (rP2 G (pCmp .Eq)) := by
  refine opr_imp (op_eqD (by omega)) fun x y H Q ⟨W, S, dx, dy, rl, r1, r2, q⟩ => ?_
  obtain ⟨b, e, q⟩ := bl_ok rl q
  obtain ⟨d, f, h1, h2, h3, h4, rfl⟩ := eqD_ok rl r1 r2 e
  rw [← hK] at h1 h2
  exact ⟨d, f, h1, h2, h3, h4, q⟩
theorem opr_ne (hK : X.K = G.K) (hu : X.A.units + 65 < cLine) : OpR X (compareOp .NotEq) (rP2 G (pCmp .NotEq)) := by
  refine opr_imp (op_neD (by omega)) fun x y H Q ⟨W, S, dx, dy, rl, r1, r2, q⟩ => ?_
  obtain ⟨b, e, q⟩ := bl_ok rl q
  rw [Option.map_eq_some_iff] at e
  obtain ⟨b0, e, rfl⟩ := e
  obtain ⟨d, f, h1, h2, h3, h4, rfl⟩ := eqD_ok rl r1 r2 e
  rw [← hK] at h1 h2
  exact ⟨d, f, h1, h2, h3, h4, q⟩
theorem RD.isN_of {v : V} {d : D} (r : RD G W v d) : isN d = decide (v = .non) := by
  cases r with
  | t r => cases r <;> simp [isN]
  | ref h => simp [isN]
  | tup h1 h2 => simp [isN]
theorem opr_is : OpR X (compareOp .Is) (rP2 G (pCmp .Is)) := by
  refine opr_imp (op_isN.or op_isBl) fun x y H Q ⟨W, S, dx, dy, rl, r1, r2, q⟩ => ?_
  unfold pCmp at q
  simp only at q
  split at q
  · cases r2.non_of
    exact .inl ⟨rfl, by rw [← r1.isN_of]; exact q _ _ _ rl Ext.refl (.t (.bl _))⟩
  · split at q
    · cases r1.bl_of; cases r2.bl_of
      exact .inr ⟨_, _, rfl, rfl, q _ _ _ rl Ext.refl (.t (.bl _))⟩
    · exact q.elim
  · exact q.elim
theorem opr_isnot : OpR X (compareOp .IsNot) (rP2 G (pCmp .IsNot)) := by
  refine opr_imp (op_notN.or op_notBl) fun x y H Q ⟨W, S, dx, dy, rl, r1, r2, q⟩ => ?_
  unfold pCmp at q
  simp only at q
  split at q
  · cases r2.non_of
    exact .inl ⟨rfl, by rw [← r1.isN_of]; exact q _ _ _ rl Ext.refl (.t (.bl _))⟩
  · split at q
    · cases r1.bl_of; cases r2.bl_of
      exact .inr ⟨_, _, rfl, rfl, q _ _ _ rl Ext.refl (.t (.bl _))⟩
    · exact q.elim
  · exact q.elim
theorem prT_ok {v : V} {d : D} {p : Int × Int} (rl : Rel G H W S) (r : RD G W v d) (e : prT d = some p) : ∃ a, v = .ref a ∧ SqT G.K H a ([p.1, p.2].map V.int) := by
  unfold prT at e
  split at e
  · cases e
    cases r with
    | t r =>
      cases r with
      | tup h1 h2 =>
        cases h2 with
        | cons h3 h4 =>
          cases h4 with
          | cons h5 h6 =>
            cases h3; cases h5; cases h6
            exact ⟨_, rfl, SqT.of (rl.sub _ _ h1)⟩
  · cases e
theorem opr_lt (hK : X.K = G.K) (hu : X.A.units + 65 < cLine) : OpR X (compareOp .Lt) (rP2 G (pCmp .Lt)) := by
  refine opr_imp ((op_lt.or op_lt_str).or (op_ltT (by omega))) fun x y H Q ⟨W, S, dx, dy, rl, r1, r2, q⟩ => ?_
  unfold pCmp at q
  simp only at q
  split at q
  · cases r1.int_of; cases r2.int_of
    exact .inl (.inl ⟨_, _, rfl, rfl, q _ _ _ rl Ext.refl (.t (.bl _))⟩)
  · cases r1.str_of; cases r2.str_of
    exact .inl (.inr ⟨_, _, rfl, rfl, q _ _ _ rl Ext.refl (.t (.bl _))⟩)
  · split at q
    · rename_i p1 p2 e1 e2
      obtain ⟨a, rfl, ha⟩ := prT_ok rl r1 e1
      obtain ⟨b, rfl, hb⟩ := prT_ok rl r2 e2
      rw [← hK] at ha hb
      refine .inr ⟨a, b, [p1.1, p1.2], [p2.1, p2.2], rfl, rfl, ha, hb, ?_⟩
      have q := q _ _ _ rl Ext.refl (.t (.bl _))
      have e : HT.lexLt [p1.1, p1.2] [p2.1, p2.2] = decide (p1.1 < p2.1 ∨ (p1.1 = p2.1 ∧ p1.2 < p2.2)) := by
        rw [HT.lexLt_cons, HT.lexLt_cons, HT.lexLt_nil_nil]
        by_cases h1 : p1.1 = p2.1 <;> by_cases h2 : p1.2 = p2.2 <;> simp [h1, h2]
      rw [e]; exact q
    · exact q.elim
theorem opr_le (hK : X.K = G.K) (hu : X.A.units + 65 < cLine) : OpR X (compareOp .LtE) (rP2 G (pCmp .LtE)) := by
  refine opr_imp ((op_le.or op_le_str).or (op_leT (by omega))) fun x y H Q ⟨W, S, dx, dy, rl, r1, r2, q⟩ => ?_
  unfold pCmp at q
  simp only at q
  split at q
  · cases r1.int_of; cases r2.int_of
    exact .inl (.inl ⟨_, _, rfl, rfl, q _ _ _ rl Ext.refl (.t (.bl _))⟩)
  · cases r1.str_of; cases r2.str_of
    exact .inl (.inr ⟨_, _, rfl, rfl, q _ _ _ rl Ext.refl (.t (.bl _))⟩)
  · split at q
    · rename_i p1 p2 e1 e2
      obtain ⟨a, rfl, ha⟩ := prT_ok rl r1 e1
      obtain ⟨b, rfl, hb⟩ := prT_ok rl r2 e2
      rw [← hK] at ha hb
      refine .inr ⟨a, b, [p1.1, p1.2], [p2.1, p2.2], rfl, rfl, ha, hb, ?_⟩
      have q := q _ _ _ rl Ext.refl (.t (.bl _))
      have e : Ob.lexAt (fun j => decide ([p1.1, p1.2].getD j 0 = [p2.1, p2.2].getD j 0)) (fun j => decide ([p1.1, p1.2].getD j 0 ≤ [p2.1, p2.2].getD j 0)) (decide ([p1.1, p1.2].length ≤ [p2.1, p2.2].length)) 0 (min [p1.1, p1.2].length [p2.1, p2.2].length) = decide (p1.1 < p2.1 ∨ (p1.1 = p2.1 ∧ p1.2 ≤ p2.2)) := by
        show Ob.lexAt _ _ _ 0 2 = _
        simp only [Ob.lexAt, List.getD_cons_zero, List.getD_cons_succ]
        by_cases h1 : p1.1 = p2.1 <;> by_cases h2 : p1.2 = p2.2 <;> simp [h1, h2] <;> omega
      rw [e]; exact q
    · exact q.elim
theorem opr_gt : OpR X (compareOp .Gt) (rP2 G (pCmp .Gt)) := by
  refine opr_imp (op_gt.or op_gt_str) fun x y H Q ⟨W, S, dx, dy, rl, r1, r2, q⟩ => ?_
  unfold pCmp at q
  simp only at q
  split at q
  · cases r1.int_of; cases r2.int_of
    exact .inl ⟨_, _, rfl, rfl, q _ _ _ rl Ext.refl (.t (.bl _))⟩
  · cases r1.str_of; cases r2.str_of
    exact .inr ⟨_, _, rfl, rfl, q _ _ _ rl Ext.refl (.t (.bl _))⟩
  · exact q.elim
theorem opr_ge : OpR X (compareOp .GtE) (rP2 G (pCmp .GtE)) := by
  refine opr_imp (op_ge.or op_ge_str) fun x y H Q ⟨W, S, dx, dy, rl, r1, r2, q⟩ => ?_
  unfold pCmp at q
  simp only at q
  split at q
  · cases r1.int_of; cases r2.int_of
    exact .inl ⟨_, _, rfl, rfl, q _ _ _ rl Ext.refl (.t (.bl _))⟩
  · cases r1.str_of; cases r2.str_of
    exact .inr ⟨_, _, rfl, rfl, q _ _ _ rl Ext.refl (.t (.bl _))⟩
  · exact q.elim
/-! dicts -/
theorem dctOf_ok {v : V} {d : D} {ds : List (Ky × D)} (rl : Rel G H W S) (r : RD G W v d) (e : dctOf S d = some ds) :
    ∃ a kvs, v = .ref a ∧ H a = some (.dK kvs) ∧ kvs.map (·.1) = ds.map (·.1) ∧ RDs G W (kvs.map (·.2)) (ds.map (·.2)) := by
  unfold dctOf at e
  split at e
  · rename_i ts
    cases e
    cases r with
    | t r =>
      cases r with
      | dct h1 h3 h2 =>
        refine ⟨_, _, rfl, rl.sub _ _ h1, ?_, ?_⟩
        · simpa [Function.comp_def] using h3
        · have q := RDs.ofT h2
          simpa [Function.comp_def] using q
  · cases r with
    | ref h1 =>
      split at e
      · rename_i e1
        cases e
        have ro := rl.obj _ _ _ e1 h1
        cases ro with
        | dct h3 h5 h4 => exact ⟨_, _, rfl, h3, h5, h4⟩
      · cases e
  · cases e
theorem getK_ok : ∀ {kvs : List (Key × V)} {ds : List (Ky × D)} (k : Ky), kvs.map (·.1) = ds.map (·.1) → RDs G W (kvs.map (·.2)) (ds.map (·.2)) →
    (getK ds k = none ∧ valV kvs k = none) ∨ ∃ d v, getK ds k = some d ∧ valV kvs k = some v ∧ RD G W v d
  | [], [], k, _, _ => .inl ⟨rfl, rfl⟩
  | [], _ :: _, k, h, _ => by simp at h
  | _ :: _, [], k, h, _ => by simp at h
  | (a, v) :: kvs, (b, d) :: ds, k, h, r => by
    simp only [List.map_cons, List.cons.injEq] at h
    obtain ⟨rfl, h⟩ := h
    cases r with
    | cons r1 r2 =>
      by_cases e : a = k
      · exact .inr ⟨d, v, by simp [getK, e], by simp [valV, e], r1⟩
      · have ih := getK_ok k h r2
        have e1 : getK ((a, d) :: ds) k = getK ds k := by simp [getK, List.find?_cons, e]
        have e2 : valV ((a, v) :: kvs) k = valV kvs k := by simp [valV, List.find?_cons, e]
        rw [e1, e2]; exact ih
theorem kyOf_ok {v : V} {d : D} {k : Ky} (r : RD G W v d) (e : kyOf d = some k) : v = kV k := by
  unfold kyOf at e
  split at e
  · cases e; exact r.int_of
  · cases e; exact r.str_of
  · cases e
def rDIn (neg : Bool) : R2 := fun y x H Q => ∃ a o, x = .ref a ∧ DGet H a y o ∧ Q (.bl (if neg then !o.isSome else o.isSome)) H
theorem op_in_d (hu : X.A.units + 1 < cLine) : OpR X (compareOp .In) (rDIn false) := by
  intro pins s σ H y x v u Q I ry rx h
  obtain ⟨a, o, rfl, g, q⟩ := h
  obtain rfl : u = Value.ref a := rx
  exact d_in hu I g ry fun s3 I3 => ⟨.bl o.isSome, H, I3, rfl, q⟩
theorem op_notin_d (hu : X.A.units + 1 < cLine) : OpR X (compareOp .NotIn) (rDIn true) := by
  intro pins s σ H y x v u Q I ry rx h
  obtain ⟨a, o, rfl, g, q⟩ := h
  obtain rfl : u = Value.ref a := rx
  exact d_notIn hu I g ry fun s3 I3 => ⟨.bl (!o.isSome), H, I3, rfl, q⟩
theorem dp_flat {K : PySem.W.Frag} {v : V} {d : PyData} (h : Dp K H v d) (f : flatP d = true) : flatV v = true := by
  cases h with
  | lst _ _ => cases f
  | tup _ _ => cases f
  | _ => rfl
theorem dp_eqV {K : PySem.W.Frag} {x y : V} {d e : PyData} (h : Dp K H x d) (k : Dp K H y e) (f : flatP d = true) (g : flatP e = true) : L2.eqV x y = PyData.eqv d e := by
  cases h with
  | lst _ _ => cases f
  | tup _ _ => cases f
  | _ =>
    cases k with
    | lst _ _ => cases g
    | tup _ _ => cases g
    | _ => simp [L2.eqV, PyData.eqv]
theorem dpA_flat {K : PySem.W.Frag} {x : V} {d : PyData} (k : Dp K H x d) (g : flatP d = true) : ∀ {ds : List PyData} {vs : List V}, DpAll K H vs ds → ds.all flatP = true → vs.all flatV = true ∧ inV x vs = ds.any fun z => PyData.eqv z d
  | [], _, h, _ => by cases h; exact ⟨rfl, rfl⟩
  | e :: ds, _, h, f => by
    cases h with
    | cons h1 h2 =>
      rw [List.all_cons, Bool.and_eq_true] at f
      obtain ⟨i1, i2⟩ := dpA_flat k g h2 f.2
      refine ⟨?_, ?_⟩
      · rw [List.all_cons, dp_flat h1 f.1, i1]; rfl
      · unfold inV at i2 ⊢
        rw [List.any_cons, List.any_cons, i2, dp_eqV h1 k f.1 g]
theorem inD_ok {x y : V} {dx dy : D} {b : Bool} (rl : Rel G H W S) (r1 : RD G W x dx) (r2 : RD G W y dy) (e : inD dx dy S = some b) :
    (∃ i j, x = .str i ∧ y = .str j ∧ b = !(Builtin.Str.occurrences j i 0 j.length 1).isEmpty) ∨ (∃ a o, y = .ref a ∧ DGet H a x o ∧ b = o.isSome) ∨
    (∃ d ds, Dp G.K H x d ∧ Dp G.K H y (.list ds) ∧ SeqAt.shaped d = true ∧ SeqAt.shaped (.list ds) = true ∧ b = ds.any fun z => PyData.eqv z d) ∨
    (∃ p xs, y = .ref p ∧ SqT G.K H p xs ∧ flatV x = true ∧ xs.all flatV = true ∧ b = inV x xs) := by
  unfold inD at e
  split at e
  · split at e
    · cases e
      exact .inl ⟨_, _, r1.str_of, r2.str_of, rfl⟩
    · cases e
  · split at e
    · rename_i kvs e1
      split at e
      · rename_i k e2
        cases e
        obtain ⟨a, ks, rfl, h1, h2, h3⟩ := dctOf_ok rl r2 e1
        have hk := kyOf_ok r1 e2
        subst hk
        refine .inr (.inl ⟨a, valV ks k, rfl, DGet.k h1, ?_⟩)
        rcases getK_ok k h2 h3 with ⟨a1, a2⟩ | ⟨d, v, a1, a2, _⟩
        · rw [a1, a2]; rfl
        · rw [a1, a2]; rfl
      · cases e
    · split at e
      · rename_i d ds e1 e2
        split at e
        · rename_i hs
          cases e
          rw [Bool.and_eq_true] at hs
          exact .inr (.inr (.inl ⟨d, ds, look_ok rl r1 e1, look_ok rl r2 e2, hs.1, hs.2, rfl⟩))
        · cases e
      · rename_i d ds e1 e2
        split at e
        · rename_i hs
          cases e
          rw [Bool.and_eq_true] at hs
          have k1 := look_ok rl r1 e1
          have k2 := look_ok rl r2 e2
          cases k2 with
          | tup h1 h2 =>
            obtain ⟨i1, i2⟩ := dpA_flat k1 hs.1 h2 hs.2
            exact .inr (.inr (.inr ⟨_, _, rfl, h1, dp_flat k1 hs.1, i1, i2.symm⟩))
        · cases e
      · cases e
theorem opr_in (hK : X.K = G.K) (hu : X.A.units + 65 < cLine) : OpR X (compareOp .In) (rP2 G (pCmp .In)) := by
  refine opr_imp (op_in_str.or ((op_in_d (by omega)).or ((op_inD hu).or op_in_seq))) fun x y H Q ⟨W, S, dx, dy, rl, r1, r2, q⟩ => ?_
  obtain ⟨b, e, q⟩ := bl_ok rl q
  rcases inD_ok rl r1 r2 e with ⟨i, j, rfl, rfl, rfl⟩ | ⟨a, o, rfl, h, rfl⟩ | ⟨d, ds, h1, h2, h3, h4, rfl⟩ | ⟨p, xs, rfl, h1, h2, h3, rfl⟩
  · exact .inl ⟨i, j, rfl, rfl, q⟩
  · exact .inr (.inl ⟨a, o, rfl, h, q⟩)
  · rw [← hK] at h1 h2; exact .inr (.inr (.inl ⟨d, ds, h1, h2, h3, h4, q⟩))
  · rw [← hK] at h1; exact .inr (.inr (.inr ⟨p, xs, rfl, .inr h1, h2, h3, q⟩))
theorem opr_notin (hK : X.K = G.K) (hu : X.A.units + 65 < cLine) : OpR X (compareOp .NotIn) (rP2 G (pCmp .NotIn)) := by
  refine opr_imp (op_notin_str.or ((op_notin_d (by omega)).or ((op_notInD hu).or op_notIn_seq))) fun x y H Q ⟨W, S, dx, dy, rl, r1, r2, q⟩ => ?_
  obtain ⟨b, e, q⟩ := bl_ok rl q
  rw [Option.map_eq_some_iff] at e
  obtain ⟨b0, e, rfl⟩ := e
  rcases inD_ok rl r1 r2 e with ⟨i, j, rfl, rfl, rfl⟩ | ⟨a, o, rfl, h, rfl⟩ | ⟨d, ds, h1, h2, h3, h4, rfl⟩ | ⟨p, xs, rfl, h1, h2, h3, rfl⟩
  · exact .inl ⟨i, j, rfl, rfl, q⟩
  · exact .inr (.inl ⟨a, o, rfl, h, q⟩)
  · rw [← hK] at h1 h2; exact .inr (.inr (.inl ⟨d, ds, h1, h2, h3, h4, q⟩))
  · rw [← hK] at h1; exact .inr (.inr (.inr ⟨p, xs, rfl, .inr h1, h2, h3, q⟩))
theorem opr_cmp (hK : X.K = G.K) (hu : X.A.units + 65 < cLine) : ∀ op : CmpOp, OpR X (compareOp op) (rP2 G (pCmp op))
  | .Eq => opr_eq hK hu
  | .NotEq => opr_ne hK hu
  | .Lt => opr_lt hK hu
  | .LtE => opr_le hK hu
  | .Gt => opr_gt
  | .GtE => opr_ge
  | .Is => opr_is
  | .IsNot => opr_isnot
  | .In => opr_in hK hu
  | .NotIn => opr_notin hK hu
theorem pCmp_noEx (op : CmpOp) (x y : D) (S : Sto) : noEx (pCmp op x y S) := by
  unfold pCmp
  repeat' (first | exact True.intro | exact bl_noEx _ _ | split)
theorem pCmp_bl (op : CmpOp) (x y : D) (S : Sto) : (∃ b, pCmp op x y S = .ok (.t (.bl b)) S) ∨ pCmp op x y S = .no := by
  unfold pCmp bl
  repeat' (first | exact .inr rfl | exact .inl ⟨_, rfl⟩ | split)
end
end Wc

/-! Wc: subscripts, slices. -/
namespace Wc
open PySem PySem.Spec PyProof.Rows L2
section
variable {G : Gd} {X : Cx} {H : Hp} {W : Wd} {S : Sto} {Q : VK} {Wx : Value → Option Addr → Hp → Prop}
def rDIx : R2 := fun x y H Q => ∃ a v, x = .ref a ∧ DGet H a y (some v) ∧ Q v H
theorem ix_d (hu : X.A.units + 1 < cLine) : IxR X rDIx := by
  intro value slice pins s σ H x y v u Q I rx ry h hs
  obtain ⟨a, w0, rfl, g, q⟩ := h
  obtain rfl : v = Value.ref a := rx
  exact tail_any (dict_typeIs I g) slot_dict_getitem.lookup (d_getItem hu I g ry fun w' s3 I3 rw' => ⟨w0, H, I3, rw', q⟩) hs
theorem ixAt_atI {α : Type} (xs : List α) (i : Int) : ixAt xs i = atI xs i := by
  unfold ixAt atI ixN
  by_cases h : 0 ≤ i
  · rw [if_pos h, if_pos h]
    by_cases h2 : i < xs.length
    · rw [if_pos h2]; rfl
    · rw [if_neg h2]
      exact List.getElem?_eq_none (by omega)
  · rw [if_neg h, if_neg h]
    by_cases h2 : -(xs.length : Int) ≤ i
    · rw [if_pos h2, if_pos h2]; rfl
    · rw [if_neg h2, if_neg h2]; rfl
theorem RDs.atI {xs : List V} {ds : List D} {i : Int} {d : D} (h : RDs G W xs ds) (e : ixAt ds i = some d) : ∃ v, L2.atI xs i = some v ∧ RD G W v d := by
  have hl := h.length
  unfold ixAt at e
  rw [← ixAt_atI]
  unfold ixAt
  by_cases h0 : 0 ≤ i
  · rw [if_pos h0] at e ⊢
    exact h.get e
  · rw [if_neg h0] at e ⊢
    rw [hl]
    by_cases h1 : -(ds.length : Int) ≤ i
    · rw [if_pos h1] at e ⊢
      exact h.get e
    · rw [if_neg h1] at e; cases e
theorem opt_noEx (o : Option D) (S : Sto) : noEx (opt o S) := by cases o <;> exact True.intro
theorem opt_ok {o : Option D} (rl : Rel G H W S) (q : Aft G (fun W' v d => RD G W' v d) Wx H W Q (opt o S)) : ∃ d, o = some d ∧ ∀ v, RD G W v d → Q v H := by
  cases o with
  | none => exact q.elim
  | some d => exact ⟨d, rfl, fun v r => q v H W rl Ext.refl r⟩
theorem atI_map {α β : Type} (f : α → β) (xs : List α) (i : Int) : L2.atI (xs.map f) i = (L2.atI xs i).map f := by
  rw [← ixAt_atI, ← ixAt_atI]
  unfold ixAt
  simp only [List.length_map]
  split
  · simp
  · split
    · simp
    · rfl
theorem opr_ix (hK : X.K = G.K) (hu : X.A.units + 65 < cLine) : IxR X (rP2 G pIdx) := by
  have base := ((ix_d (X := X) (by omega)).or (ix_seq (X := X)))
  intro value slice pins s σ H x y v u Q I rx ry ⟨W, S, dx, dy, rl, r1, r2, q⟩ hs
  refine base value slice pins s σ H x y v u Q I rx ry ?_ hs
  unfold pIdx at q
  split at q
  · rename_i kvs e1
    split at q
    · rename_i k e2
      obtain ⟨d, e, q⟩ := opt_ok rl q
      obtain ⟨a, ks, rfl, h1, h2, h3⟩ := dctOf_ok rl r1 e1
      have hk := kyOf_ok r2 e2
      subst hk
      rcases getK_ok k h2 h3 with ⟨a1, a2⟩ | ⟨d', w, a1, a2, a3⟩
      · rw [a1] at e; cases e
      · rw [a1] at e; cases e
        refine .inl ⟨a, w, rfl, ?_, q w a3⟩
        rw [← a2]; exact DGet.k h1
    · exact q.elim
  · split at q
    · rename_i i
      cases r2.int_of
      split at q
      · rename_i z _
        cases r1.str_of
        split at q
        · rename_i hl
          obtain ⟨d, e, q⟩ := opt_ok rl q
          rw [Option.map_eq_some_iff] at e
          obtain ⟨c, e, rfl⟩ := e
          rw [ixAt_atI] at e
          exact .inr (.inr (.inr ⟨z, i, c, rfl, rfl, Nat.le_trans hl lim_le, e, q _ (.t (.str _))⟩))
        · exact q.elim
      · rename_i ns _
        obtain ⟨d, e, q⟩ := opt_ok rl q
        rw [Option.map_eq_some_iff] at e
        obtain ⟨n, e, rfl⟩ := e
        rw [ixAt_atI] at e
        cases r1 with
        | t r1 =>
          cases r1 with
          | scr h =>
            refine .inr (.inl ⟨_, _, i, .int n, rfl, rfl, by rw [hK]; exact rl.sub.seq h, ?_, q _ (.t (.int n))⟩)
            rw [atI_map, e]; rfl
      · split at q
        · rename_i xs e1
          obtain ⟨d, e, q⟩ := opt_ok rl q
          obtain ⟨a, vs, rfl, h1, h2⟩ := seqOf_ok rl r1 e1
          obtain ⟨w, e3, r3⟩ := h2.atI e
          rcases h1 with h1 | h1
          · exact .inr (.inl ⟨a, vs, i, w, rfl, rfl, SqL.of h1, e3, q w r3⟩)
          · exact .inr (.inr (.inl ⟨a, vs, i, w, rfl, rfl, SqT.of h1, e3, q w r3⟩))
        · exact q.elim
    · exact q.elim
theorem pIdx_noEx (x y : D) (S : Sto) : noEx (pIdx x y S) := by
  unfold pIdx
  repeat' (first | exact True.intro | exact opt_noEx _ _ | split)
theorem sIx_eq (n d : Nat) (o : Option Int) : sIx n d o = HT.sIx n d o := by
  cases o with
  | none => rfl
  | some v => first | rfl | (unfold sIx HT.sIx; split <;> omega)
theorem cut_cutV (xs : List V) (lo hi : Option Int) : cut xs lo hi = cutV xs lo hi := by unfold cut cutV; rw [sIx_eq, sIx_eq]
theorem RDs.drop : ∀ {ds : List D} {vs : List V} (n : Nat), RDs G W vs ds → RDs G W (vs.drop n) (ds.drop n)
  | _, _, 0, h => h
  | [], _, n + 1, h => by cases h; exact .nil
  | d :: ds, _, n + 1, h => by cases h with | cons h1 h2 => exact RDs.drop n h2
theorem RDs.take : ∀ {ds : List D} {vs : List V} (n : Nat), RDs G W vs ds → RDs G W (vs.take n) (ds.take n)
  | _, _, 0, h => .nil
  | [], _, n + 1, h => by cases h; exact .nil
  | d :: ds, _, n + 1, h => by cases h with | cons h1 h2 => exact .cons h1 (RDs.take n h2)
theorem RDs.cut {ds : List D} {vs : List V} (h : RDs G W vs ds) (lo hi : Option Int) : RDs G W (Wc.cut vs lo hi) (Wc.cut ds lo hi) := by
  unfold Wc.cut
  rw [h.length]
  exact (h.drop _).take _
theorem RTs.ints : ∀ ns : List Int, RTs G H (ns.map V.int) (ns.map T.int)
  | [] => .nil
  | n :: ns => .cons (.int n) (RTs.ints ns)
def rSl (G : Gd) : V → Option Int → Option Int → Hp → VK → Prop := fun x lo hi H Q => ∃ W S dx, Rel G H W S ∧ RD G W x dx ∧ Aft G (fun W' v d => RD G W' v d) (fun _ _ _ => False) H W Q (pSl dx lo hi S)
theorem pSl_noEx (x : D) (lo hi : Option Int) (S : Sto) : noEx (pSl x lo hi S) := by
  unfold pSl
  repeat' (first | exact True.intro | exact mkL_noEx _ _ _ | split)
theorem slr_sl (hK : X.K = G.K) : SlR X (rSl G) := by
  have base := (sl_str (X := X)).or ((sl_list (X := X)).or (sl_tup (X := X)))
  intro pins s σ H x v vl vu lo hi sl Q I rx hs pl pu ⟨W, S, dx, rl, r1, q⟩
  refine base pins s σ H x v vl vu lo hi sl Q I rx hs pl pu ?_
  unfold pSl at q
  split at q
  · rename_i z
    cases r1.str_of
    split at q
    · rename_i hl
      refine .inl ⟨z, rfl, Nat.le_trans hl lim_le, ?_⟩
      have e : cutS z lo hi = ⟨(Wc.cut z.cps.toList lo hi).toArray⟩ := by
        unfold cutS Wc.cut
        have hz : z.cps.toList.length = z.length := by simp [Str.length]
        rw [hz, sIx_eq, sIx_eq]
      rw [e]
      exact q _ _ _ rl Ext.refl (.t (.str _))
    · exact q.elim
  · rename_i ns
    cases r1 with
    | t r1 =>
      cases r1 with
      | scr h =>
        refine .inr (.inl ⟨_, _, rfl, by rw [hK]; exact rl.sub.seq h, fun p hp => ?_⟩)
        rw [← cut_cutV]
        have e : Wc.cut (ns.map V.int) lo hi = (Wc.cut ns lo hi).map V.int := by
          unfold Wc.cut
          rw [List.length_map, List.map_take, List.map_drop]
        rw [e]
        obtain ⟨r2, x2⟩ := rl.new (o := .lst ((Wc.cut ns lo hi).map V.int)) hp
        exact q _ _ _ r2 x2 (.t (.lst upd_same (RTs.ints _)))
  · rename_i ts
    cases r1 with
    | t r1 =>
      cases r1 with
      | @tup a vs _ h h2 =>
        split at q
        · exact q.elim
        · rename_i hw
          have hl := h2.length
          refine .inr (.inr ⟨a, vs, rfl, SqT.of (rl.sub _ _ h), ?_, fun p hp => ?_⟩)
          · rw [← sIx_eq, ← sIx_eq, hl]; exact hw
          · rw [← cut_cutV]
            obtain ⟨r2, x2⟩ := rl.new (o := .tup (Wc.cut vs lo hi)) hp
            have k := ((RDs.ofT h2).cut lo hi)
            have e : Wc.cut (ts.map D.t) lo hi = (Wc.cut ts lo hi).map D.t := by
              unfold Wc.cut
              rw [List.length_map, List.map_take, List.map_drop]
            rw [e] at k
            exact q _ _ _ r2 x2 (.t (.tup upd_same (RTs.mono x2.hf (RDs.toT k))))
  · split at q
    · rename_i xs e1
      obtain ⟨a, vs, rfl, h1, h2⟩ := asList_ok rl r1 e1
      refine .inr (.inl ⟨a, vs, rfl, SqL.of h1, ?_⟩)
      rw [← cut_cutV]
      exact mkL_ok rl (h2.cut lo hi) q
    · exact q.elim
end
end Wc

/-! Wc: the expressions. -/
namespace Wc
open PySem PySem.Spec PyProof.Rows L2
section
variable {G : Gd} {X : Cx} {B : Tb} {C : Cal} {Wx : WX} {a b c d : Expr} {ia ib ic id' : IE} {pos : Pos}
abbrev PEv (G : Gd) (X : Cx) (B : Tb) (C : Cal) (Wx : WX) (e : Expr) (ie : IE) : Prop := PE X e (tE G (evE B C ie) Wx)
abbrev PTv (G : Gd) (X : Cx) (B : Tb) (C : Cal) (Wx : WX) (e : Expr) (ie : IE) : Prop := PT X e (tTest (tE G (evE B C ie) Wx))
abbrev PWv (G : Gd) (X : Cx) (B : Tb) (C : Cal) (Wx : WX) (e : Expr) (ie : IE) : Prop := PW X e (tTest (tE G (evE B C ie) Wx))
abbrev PAv (G : Gd) (X : Cx) (B : Tb) (C : Cal) (Wx : WX) (es : List Expr) (ies : IEs) : Prop := PA X es (tA G (evEs B C ies) Wx)

/-- from a state: first one expression, then what follows -/
theorem tE_at {eva : Ev → Sto → R D} {f : D → Sto → R D} {σ : L2.St} {H : Hp} {W : Wd} {ρ : Ev} {S : Sto} {Q : VK} (rl : Rel G H W S) (en : REn G W σ ρ)
    (q : Aft G (fun W' v d => RD G W' v d) (fun cls dx H' => Wx cls dx σ H') H W Q ((eva ρ S).bind f)) :
    tE G eva Wx σ H (fun v H1 => ∃ d S1 W1, Rel G H1 W1 S1 ∧ Ext H W H1 W1 ∧ REn G W1 σ ρ ∧ RD G W1 v d ∧ Aft G (fun W' v d => RD G W' v d) (fun cls dx H' => Wx cls dx σ H') H1 W1 Q (f d S1)) :=
  ⟨W, ρ, S, rl, en, (Aft.bind (rel := fun W' v d => RD G W' v d) q).imp (fun v H1 ⟨d, S1, W1, r1, x1, q1, a1⟩ => ⟨d, S1, W1, r1, x1, en.mono x1, q1, a1⟩) fun _ _ _ z => z⟩
theorem tA_at {eva : Ev → Sto → R (List D)} {f : List D → Sto → R D} {σ : L2.St} {H : Hp} {W : Wd} {ρ : Ev} {S : Sto} {Q : VK} (rl : Rel G H W S) (en : REn G W σ ρ)
    (q : Aft G (fun W' v d => RD G W' v d) (fun cls dx H' => Wx cls dx σ H') H W Q ((eva ρ S).bind f)) :
    tA G eva Wx σ H (fun v H1 => ∃ d S1 W1, Rel G H1 W1 S1 ∧ Ext H W H1 W1 ∧ REn G W1 σ ρ ∧ RDs G W1 v d ∧ Aft G (fun W' v d => RD G W' v d) (fun cls dx H' => Wx cls dx σ H') H1 W1 Q (f d S1)) :=
  ⟨W, ρ, S, rl, en, (Aft.bind (rel := fun W' v d => RDs G W' v d) q).imp (fun v H1 ⟨d, S1, W1, r1, x1, q1, a1⟩ => ⟨d, S1, W1, r1, x1, en.mono x1, q1, a1⟩) fun _ _ _ z => z⟩
theorem tE_imp {ev : Ev → Sto → R D} {σ : L2.St} {H : Hp} {Q Q' : VK} (h : tE G ev Wx σ H Q) (k : ∀ v H', Q v H' → Q' v H') : tE G ev Wx σ H Q' := by
  obtain ⟨W, ρ, S, rl, en, q⟩ := h
  exact ⟨W, ρ, S, rl, en, q.imp k fun _ _ _ z => z⟩

theorem evE_bin {m op} : evE B C (.bin m op ia ib) = fun ρ S => (evE B C ia ρ S).bind fun x S1 => (evE B C ib ρ S1).bind fun y S2 => pBin m op x y S2 := rfl
theorem evE_neg : evE B C (.neg ia) = fun ρ S => (evE B C ia ρ S).bind fun x S1 => match x with
    | .t (.int i) => .ok (.t (.int (-i))) S1
    | _ => .no := rfl
theorem evE_cmp {op} : evE B C (.cmp op ia ib) = fun ρ S => (evE B C ia ρ S).bind fun x S1 => (evE B C ib ρ S1).bind fun y S2 => pCmp op x y S2 := rfl
theorem sE_bin {m : Bool} {op : Operator} (ha : PEv G X B C Wx a ia) (hb : PEv G X B C Wx b ib) : PEv G X B C Wx (.BinOp a op b pos) (.bin m op ia ib) :=
  pe_imp (pe_op (opr_bin (m := m) op) ha hb) fun σ H Q h => tE_op (fun _ _ _ => pBin_noEx _ _ _ _ _) (fun _ _ _ _ z => z) (by rw [evE_bin] at h; exact h)
theorem sE_neg (ha : PEv G X B C Wx a ia) : PEv G X B C Wx (.UnaryOp .USub a pos) (.neg ia) :=
  pe_imp (pe_un un_neg ha) fun σ H Q ⟨W, ρ, S, rl, en, q⟩ => by
    refine tE_imp (tE_at rl en q) fun v H1 ⟨d, S1, W1, r1, x1, e1, k1, a1⟩ => ?_
    split at a1
    · cases k1.int_of
      exact ⟨_, rfl, a1 _ _ _ r1 Ext.refl (.t (.int _))⟩
    · exact a1.elim
theorem sE_cmp {op : CmpOp} (hK : X.K = G.K) (hu : X.A.units + 65 < cLine) (ha : PEv G X B C Wx a ia) (hb : PEv G X B C Wx b ib) (hm : behindInMarks op b = false) : PEv G X B C Wx (.Compare a [op] [b] pos) (.cmp op ia ib) :=
  pe_imp (pe_cmpR (opr_cmp hK hu op) ha hb hm) fun σ H Q h => tE_op (fun _ _ _ => pCmp_noEx _ _ _ _) (fun _ _ _ _ z => z) (by rw [evE_cmp] at h; exact h)
theorem sT_cmp {op : CmpOp} (hK : X.K = G.K) (hu : X.A.units + 65 < cLine) (ha : PEv G X B C Wx a ia) (hb : PEv G X B C Wx b ib) (hm : behindInMarks op b = false) : PTv G X B C Wx (.Compare a [op] [b] pos) (.cmp op ia ib) :=
  pt_imp (pt_cmpR (opr_cmp hK hu op) ha hb hm) fun σ H Q h => tE_op (fun _ _ _ => pCmp_noEx _ _ _ _) (fun _ _ _ _ z => z) (by unfold tTest at h; rw [evE_cmp] at h; exact h)
theorem Aft.move {α β : Type} {rel : Wd → β → α → Prop} {Wz : Value → Option Addr → Hp → Prop} {H H1 : Hp} {W W1 : Wd} {Q : β → Hp → Prop} {r : R α} (h : Aft G rel Wz H W Q r) (x : Ext H W H1 W1) : Aft G rel Wz H1 W1 Q r := by
  cases r with
  | ok d S1 => exact fun v H2 W2 r2 x2 q2 => h v H2 W2 r2 (x.trans x2) q2
  | ex c fs S1 => exact fun cls dx H2 W2 r2 x2 q2 => h cls dx H2 W2 r2 (x.trans x2) q2
  | no => exact h
theorem rP2_at {p : D → D → Sto → R D} {x y : D} {S : Sto} {vx vy : V} {H : Hp} {W : Wd} {Q : VK} {f : D → Sto → R D} {Wz : Value → Option Addr → Hp → Prop} (rl : Rel G H W S) (kx : RD G W vx x) (ky : RD G W vy y) (hp : noEx (p x y S))
    (q : Aft G (fun W' v d => RD G W' v d) Wz H W Q ((p x y S).bind f)) : rP2 G p vx vy H (fun z H3 => ∃ d S3 W3, Rel G H3 W3 S3 ∧ Ext H W H3 W3 ∧ RD G W3 z d ∧ p x y S = .ok d S3 ∧ Aft G (fun W' v d => RD G W' v d) Wz H3 W3 Q (f d S3)) := by
  refine ⟨W, S, x, y, rl, kx, ky, ?_⟩
  cases e : p x y S with
  | ok d S3 =>
    rw [e] at q
    exact fun z H3 W3 r3 x3 k3 => ⟨d, S3, W3, r3, x3, k3, rfl, Aft.move q x3⟩
  | ex c fs S3 => rw [e] at hp; exact hp.elim
  | no => rw [e] at q; exact q
theorem tE_chain {o1 o2 : CmpOp} {σ : L2.St} {H : Hp} {Q : VK} (h : tE G (evE B C (.ch2 o1 o2 ia ib ic)) Wx σ H Q) :
    tChain (rP2 G (pCmp o1)) (rP2 G (pCmp o2)) (tE G (evE B C ia) Wx) (tE G (evE B C ib) Wx) (tE G (evE B C ic) Wx) σ H Q := by
  obtain ⟨W, ρ, S, rl, en, q⟩ := h
  refine tE_imp (tE_at rl en q) fun x H1 ⟨dx, S1, W1, r1, x1, e1, k1, a1⟩ => ?_
  refine tE_imp (tE_at r1 e1 a1) fun y H2 ⟨dy, S2, W2, r2, x2, e2, k2, a2⟩ => ?_
  obtain ⟨W', S', dx', dy', rl', kx, ky, q'⟩ := rP2_at r2 (k1.mono x2) k2 (pCmp_noEx _ _ _ _) a2
  refine ⟨W', S', dx', dy', rl', kx, ky, q'.imp (fun z H3 ⟨dk, S3, W3, r3, x3, k3, e3, a3⟩ => ?_) fun _ _ _ z => z⟩
  rcases pCmp_bl o1 dx dy S2 with ⟨b, e⟩ | e
  · rw [e] at e3; cases e3
    cases k3.bl_of
    refine ⟨b, rfl, ?_⟩
    cases b with
    | true =>
      rw [if_pos rfl]
      refine tE_imp (tE_at r3 (e2.mono x3) a3) fun w H4 ⟨dw, S4, W4, r4, x4, e4, k4, a4⟩ => ?_
      exact ⟨W4, S4, _, _, r4, (k2.mono x3).mono x4, k4, a4.noEx (pCmp_noEx _ _ _ _)⟩
    | false =>
      rw [if_neg (by simp)]
      exact a3 _ _ _ r3 Ext.refl (.t (.bl _))
  · rw [e] at e3; cases e3
theorem sE_ch2 {o1 o2 : CmpOp} (hK : X.K = G.K) (hu : X.A.units + 65 < cLine) (ha : PEv G X B C Wx a ia) (hb : PEv G X B C Wx b ib) (hc : PEv G X B C Wx c ic) (hm : lastMarks [o1, o2] [b, c] = false) : PEv G X B C Wx (.Compare a [o1, o2] [b, c] pos) (.ch2 o1 o2 ia ib ic) :=
  pe_imp (pe_chain (opr_cmp hK hu o1) (opr_cmp hK hu o2) ha hb hc hm) fun σ H Q h => tE_chain h
theorem sT_ch2 {o1 o2 : CmpOp} (hK : X.K = G.K) (hu : X.A.units + 65 < cLine) (ha : PEv G X B C Wx a ia) (hb : PEv G X B C Wx b ib) (hc : PEv G X B C Wx c ic) (hm : lastMarks [o1, o2] [b, c] = false) : PTv G X B C Wx (.Compare a [o1, o2] [b, c] pos) (.ch2 o1 o2 ia ib ic) :=
  pt_imp (pt_chain (opr_cmp hK hu o1) (opr_cmp hK hu o2) ha hb hc hm) fun σ H Q h => tE_chain h
/-- three comparisons in a row -/
def tChain3 (r r' r3 : R2) (ta tb tc td : TE) : TE := fun σ H Q => ta σ H fun x H1 => tb σ H1 fun y H2 => r x y H2 fun z H3 => ∃ k, z = .bl k ∧
  (if k = true then tc σ H3 fun w' H4 => r' y w' H4 fun z' H5 => ∃ k', z' = .bl k' ∧ (if k' = true then td σ H5 fun u H6 => r3 w' u H6 Q else Q (.bl false) H5) else Q (.bl false) H3)
theorem pe_chain3 {op op' op3 : CmpOp} {r r' r3 : R2} {ta tb tc td : TE} (ho : OpR X (compareOp op) r) (ho' : OpR X (compareOp op') r') (ho3 : OpR X (compareOp op3) r3) (ha : PE X a ta) (hb : PE X b tb) (hc : PE X c tc) (hd : PE X d td)
    (hm : lastMarks [op, op', op3] [b, c, d] = false) : PE X (.Compare a [op, op', op3] [b, c, d] pos) (tChain3 r r' r3 ta tb tc td) := by
  refine ⟨fun pins s σ H Q I h => ?_⟩
  refine Compare_chain (thn (ha.run pins s σ H _ I h) fun v s1 ⟨x, H1, I1, r1, q1⟩ => chain_link (thn (hb.run pins s1 σ H1 _ I1 q1) fun u s2 ⟨y, H2, I2, r2, q2⟩ =>
    thn (ho pins s2 σ H2 x y v u _ I2 r1 r2 q2) fun d s3 ⟨z, H3, I3, r3, k, e, q3⟩ => ?_)) hm
  subst e
  cases r3
  refine wpAny_truthy_bool ?_
  cases k with
  | false => exact ite_ff ⟨.bl false, H3, I3, rfl, q3⟩
  | true =>
    refine ite_tt (chain_link (thn (hc.run pins s3 σ H3 _ I3 q3) fun w' s4 ⟨z', H4, I4, r4, q4⟩ => thn (ho' pins s4 σ H4 y z' u w' _ I4 r2 r4 q4) fun d s5 ⟨z5, H5, I5, r5, k, e, q5⟩ => ?_))
    subst e
    cases r5
    refine wpAny_truthy_bool ?_
    cases k with
    | false => exact ite_ff ⟨.bl false, H5, I5, rfl, q5⟩
    | true => exact ite_tt (chain_last (thn (hd.run pins s5 σ H5 _ I5 q5) fun u6 s6 ⟨z6, H6, I6, r6, q6⟩ => ho3 pins s6 σ H6 z' z6 w' u6 Q I6 r4 r6 q6))
theorem pt_chain3 {op op' op3 : CmpOp} {r r' r3 : R2} {ta tb tc td : TE} (ho : OpR X (compareOp op) r) (ho' : OpR X (compareOp op') r') (ho3 : OpR X (compareOp op3) r3) (ha : PE X a ta) (hb : PE X b tb) (hc : PE X c tc) (hd : PE X d td)
    (hm : lastMarks [op, op', op3] [b, c, d] = false) : PT X (.Compare a [op, op', op3] [b, c, d] pos) (tTest (tChain3 r r' r3 ta tb tc td)) := by
  refine ⟨fun pins s σ H Q I h => ?_⟩
  refine isTrue_chain (thn (ha.run pins s σ H _ I h) fun v s1 ⟨x, H1, I1, r1, q1⟩ => test_link (thn (hb.run pins s1 σ H1 _ I1 q1) fun u s2 ⟨y, H2, I2, r2, q2⟩ =>
    thn (ho pins s2 σ H2 x y v u _ I2 r1 r2 q2) fun d s3 ⟨z, H3, I3, r3, k, e, q3⟩ => ?_)) hm
  subst e
  cases r3
  refine wpAny_truthy_bool ?_
  cases k with
  | false =>
    obtain ⟨k', e', q'⟩ := q3
    cases e'
    exact ite_ff ⟨H3, I3, q'⟩
  | true =>
    refine ite_tt (test_link (thn (hc.run pins s3 σ H3 _ I3 q3) fun w' s4 ⟨z', H4, I4, r4, q4⟩ => thn (ho' pins s4 σ H4 y z' u w' _ I4 r2 r4 q4) fun d s5 ⟨z5, H5, I5, r5, k, e, q5⟩ => ?_))
    subst e
    cases r5
    refine wpAny_truthy_bool ?_
    cases k with
    | false =>
      obtain ⟨k', e', q'⟩ := q5
      cases e'
      exact ite_ff ⟨H5, I5, q'⟩
    | true =>
      refine ite_tt (test_last (thn (hd.run pins s5 σ H5 _ I5 q5) fun u6 s6 ⟨z6, H6, I6, r6, q6⟩ => thn (ho3 pins s6 σ H6 z' z6 w' u6 _ I6 r4 r6 q6) fun d7 s7 ⟨z7, H7, I7, r7, k7, e7, q7⟩ => ?_))
      subst e7
      cases r7
      exact wpAny_truthy_bool ⟨H7, I7, q7⟩
theorem tE_chain3 {o1 o2 o3 : CmpOp} {σ : L2.St} {H : Hp} {Q : VK} (h : tE G (evE B C (.ch3 o1 o2 o3 ia ib ic id')) Wx σ H Q) :
    tChain3 (rP2 G (pCmp o1)) (rP2 G (pCmp o2)) (rP2 G (pCmp o3)) (tE G (evE B C ia) Wx) (tE G (evE B C ib) Wx) (tE G (evE B C ic) Wx) (tE G (evE B C id') Wx) σ H Q := by
  obtain ⟨W, ρ, S, rl, en, q⟩ := h
  refine tE_imp (tE_at rl en q) fun x H1 ⟨dx, S1, W1, r1, x1, e1, k1, a1⟩ => ?_
  refine tE_imp (tE_at r1 e1 a1) fun y H2 ⟨dy, S2, W2, r2, x2, e2, k2, a2⟩ => ?_
  obtain ⟨W', S', dx', dy', rl', kx, ky, q'⟩ := rP2_at r2 (k1.mono x2) k2 (pCmp_noEx _ _ _ _) a2
  refine ⟨W', S', dx', dy', rl', kx, ky, q'.imp (fun z H3 ⟨dk, S3, W3, r3, x3, k3, e3, a3⟩ => ?_) fun _ _ _ z => z⟩
  rcases pCmp_bl o1 dx dy S2 with ⟨b, e⟩ | e
  · rw [e] at e3; cases e3
    cases k3.bl_of
    refine ⟨b, rfl, ?_⟩
    cases b with
    | true =>
      rw [if_pos rfl]
      refine tE_imp (tE_at r3 (e2.mono x3) a3) fun w H4 ⟨dw, S4, W4, r4, x4, e4, k4, a4⟩ => ?_
      obtain ⟨W'', S'', dx'', dy'', rl'', kx, ky, q''⟩ := rP2_at r4 ((k2.mono x3).mono x4) k4 (pCmp_noEx _ _ _ _) a4
      refine ⟨W'', S'', dx'', dy'', rl'', kx, ky, q''.imp (fun z H5 ⟨dk, S5, W5, r5, x5, k5, e5, a5⟩ => ?_) fun _ _ _ z => z⟩
      rcases pCmp_bl o2 dy dw S4 with ⟨b, e⟩ | e
      · rw [e] at e5; cases e5
        cases k5.bl_of
        refine ⟨b, rfl, ?_⟩
        cases b with
        | true =>
          rw [if_pos rfl]
          refine tE_imp (tE_at r5 (e4.mono x5) a5) fun w H6 ⟨dw, S6, W6, r6, x6, e6, k6, a6⟩ => ?_
          exact ⟨W6, S6, _, _, r6, (k4.mono x5).mono x6, k6, a6.noEx (pCmp_noEx _ _ _ _)⟩
        | false =>
          rw [if_neg (by simp)]
          exact a5 _ _ _ r5 Ext.refl (.t (.bl _))
      · rw [e] at e5; cases e5
    | false =>
      rw [if_neg (by simp)]
      exact a3 _ _ _ r3 Ext.refl (.t (.bl _))
  · rw [e] at e3; cases e3
theorem sE_ch3 {o1 o2 o3 : CmpOp} (hK : X.K = G.K) (hu : X.A.units + 65 < cLine) (ha : PEv G X B C Wx a ia) (hb : PEv G X B C Wx b ib) (hc : PEv G X B C Wx c ic) (hd : PEv G X B C Wx d id') (hm : lastMarks [o1, o2, o3] [b, c, d] = false) :
    PEv G X B C Wx (.Compare a [o1, o2, o3] [b, c, d] pos) (.ch3 o1 o2 o3 ia ib ic id') :=
  pe_imp (pe_chain3 (opr_cmp hK hu o1) (opr_cmp hK hu o2) (opr_cmp hK hu o3) ha hb hc hd hm) fun σ H Q h => tE_chain3 h
theorem sT_ch3 {o1 o2 o3 : CmpOp} (hK : X.K = G.K) (hu : X.A.units + 65 < cLine) (ha : PEv G X B C Wx a ia) (hb : PEv G X B C Wx b ib) (hc : PEv G X B C Wx c ic) (hd : PEv G X B C Wx d id') (hm : lastMarks [o1, o2, o3] [b, c, d] = false) :
    PTv G X B C Wx (.Compare a [o1, o2, o3] [b, c, d] pos) (.ch3 o1 o2 o3 ia ib ic id') :=
  pt_imp (pt_chain3 (opr_cmp hK hu o1) (opr_cmp hK hu o2) (opr_cmp hK hu o3) ha hb hc hd hm) fun σ H Q h => tE_chain3 h
/-! and, or, not, if -/
theorem RD.bl_case {W : Wd} {v : V} {d : D} {H : Hp} {Q : VK} {f : D → Sto → R D} (k : RD G W v d) : (∃ b, d = .t (.bl b) ∧ v = .bl b) ∨ ∀ b, d ≠ .t (.bl b) := by
  cases d with
  | t x =>
    cases x with
    | bl b => exact .inl ⟨b, rfl, k.bl_of⟩
    | _ => exact .inr fun b e => by cases e
  | _ => exact .inr fun b e => by cases e
theorem tE_and {σ : L2.St} {H : Hp} {Q : VK} (h : tE G (evE B C (.and ia ib)) Wx σ H Q) : tE G (evE B C ia) Wx σ H fun x H1 => ∃ c, x = .bl c ∧ if c = true then tE G (evE B C ib) Wx σ H1 Q else Q (.bl false) H1 := by
  obtain ⟨W, ρ, S, rl, en, q⟩ := h
  refine tE_imp (tE_at rl en q) fun x H1 ⟨dx, S1, W1, r1, x1, e1, k1, a1⟩ => ?_
  split at a1
  · cases k1.bl_of
    exact ⟨true, rfl, by rw [if_pos rfl]; exact ⟨W1, ρ, S1, r1, e1, a1⟩⟩
  · cases k1.bl_of
    exact ⟨false, rfl, by rw [if_neg (by simp)]; exact a1 _ _ _ r1 Ext.refl (.t (.bl _))⟩
  · exact a1.elim
theorem tE_or {σ : L2.St} {H : Hp} {Q : VK} (h : tE G (evE B C (.or ia ib)) Wx σ H Q) : tE G (evE B C ia) Wx σ H fun x H1 => ∃ c, x = .bl c ∧ if c = true then Q (.bl true) H1 else tE G (evE B C ib) Wx σ H1 Q := by
  obtain ⟨W, ρ, S, rl, en, q⟩ := h
  refine tE_imp (tE_at rl en q) fun x H1 ⟨dx, S1, W1, r1, x1, e1, k1, a1⟩ => ?_
  split at a1
  · cases k1.bl_of
    exact ⟨true, rfl, by rw [if_pos rfl]; exact a1 _ _ _ r1 Ext.refl (.t (.bl _))⟩
  · cases k1.bl_of
    exact ⟨false, rfl, by rw [if_neg (by simp)]; exact ⟨W1, ρ, S1, r1, e1, a1⟩⟩
  · exact a1.elim
theorem tE_not {σ : L2.St} {H : Hp} {Q : VK} (h : tE G (evE B C (.not ia)) Wx σ H Q) : tE G (evE B C ia) Wx σ H fun x H1 => ∃ c, x = .bl c ∧ Q (.bl (!c)) H1 := by
  obtain ⟨W, ρ, S, rl, en, q⟩ := h
  refine tE_imp (tE_at rl en q) fun x H1 ⟨dx, S1, W1, r1, x1, e1, k1, a1⟩ => ?_
  split at a1
  · cases k1.bl_of
    exact ⟨_, rfl, a1 _ _ _ r1 Ext.refl (.t (.bl _))⟩
  · exact a1.elim
theorem tE_ite {σ : L2.St} {H : Hp} {Q : VK} (h : tE G (evE B C (.ite ic ia ib)) Wx σ H Q) : tE G (evE B C ic) Wx σ H fun x H1 => ∃ c, x = .bl c ∧ if c = true then tE G (evE B C ia) Wx σ H1 Q else tE G (evE B C ib) Wx σ H1 Q := by
  obtain ⟨W, ρ, S, rl, en, q⟩ := h
  refine tE_imp (tE_at rl en q) fun x H1 ⟨dx, S1, W1, r1, x1, e1, k1, a1⟩ => ?_
  split at a1
  · cases k1.bl_of
    exact ⟨true, rfl, by rw [if_pos rfl]; exact ⟨W1, ρ, S1, r1, e1, a1⟩⟩
  · cases k1.bl_of
    exact ⟨false, rfl, by rw [if_neg (by simp)]; exact ⟨W1, ρ, S1, r1, e1, a1⟩⟩
  · exact a1.elim
theorem sE_and {rest : List Expr} (ha : PEv G X B C Wx a ia) (hb : PEv G X B C Wx (.BoolOp .And (b :: rest) pos) ib) : PEv G X B C Wx (.BoolOp .And (a :: b :: rest) pos) (.and ia ib) := pe_imp (pe_and ha hb) fun σ H Q h => tE_and h
theorem sE_or {rest : List Expr} (ha : PEv G X B C Wx a ia) (hb : PEv G X B C Wx (.BoolOp .Or (b :: rest) pos) ib) : PEv G X B C Wx (.BoolOp .Or (a :: b :: rest) pos) (.or ia ib) := pe_imp (pe_or ha hb) fun σ H Q h => tE_or h
theorem sE_not (ha : PEv G X B C Wx a ia) : PEv G X B C Wx (.UnaryOp .Not a pos) (.not ia) := pe_imp (pe_not ha) fun σ H Q h => tE_not h
theorem sT_not (ha : PTv G X B C Wx a ia) : PTv G X B C Wx (.UnaryOp .Not a pos) (.not ia) := pt_imp (pt_not ha) fun σ H Q h => by
  refine tE_imp (tE_not h) fun x H1 ⟨c, e, k, e2, q⟩ => ⟨c, e, ?_⟩
  cases e2; exact q
theorem sW_and {rest : List Expr} (ha : PTv G X B C Wx a ia) (hb : PWv G X B C Wx (.BoolOp .And (b :: rest) pos) ib) : PWv G X B C Wx (.BoolOp .And (a :: b :: rest) pos) (.and ia ib) := pw_imp (pw_and ha hb) fun σ H Q h => by
  refine tE_imp (tE_and h) fun x H1 ⟨c, e, q⟩ => ⟨c, e, ?_⟩
  cases c with
  | true => rw [if_pos rfl] at q ⊢; exact q
  | false => rw [if_neg (by simp)] at q ⊢; obtain ⟨k, e, q⟩ := q; cases e; exact q
theorem sW_or {rest : List Expr} (ha : PTv G X B C Wx a ia) (hb : PWv G X B C Wx (.BoolOp .Or (b :: rest) pos) ib) : PWv G X B C Wx (.BoolOp .Or (a :: b :: rest) pos) (.or ia ib) := pw_imp (pw_or ha hb) fun σ H Q h => by
  refine tE_imp (tE_or h) fun x H1 ⟨c, e, q⟩ => ⟨c, e, ?_⟩
  cases c with
  | true => rw [if_pos rfl] at q ⊢; obtain ⟨k, e, q⟩ := q; cases e; exact q
  | false => rw [if_neg (by simp)] at q ⊢; exact q
theorem sE_ite (hc : PTv G X B C Wx c ic) (ha : PEv G X B C Wx a ia) (hb : PEv G X B C Wx b ib) : PEv G X B C Wx (.IfExp c a b pos) (.ite ic ia ib) := pe_imp (pe_ifExp hc ha hb) fun σ H Q h => by
  refine tE_imp (tE_ite h) fun x H1 ⟨c, e, q⟩ => ⟨c, e, q⟩
theorem sT_ite (hc : PTv G X B C Wx c ic) (ha : PTv G X B C Wx a ia) (hb : PTv G X B C Wx b ib) : PTv G X B C Wx (.IfExp c a b pos) (.ite ic ia ib) := by
  refine ⟨fun pins s σ H Q I h => ?_⟩
  refine isTrue_IfExp (thn (hc.run pins s σ H (fun k H1 => if k = true then tE G (evE B C ia) Wx σ H1 (fun x H' => ∃ k, x = .bl k ∧ Q k H') else tE G (evE B C ib) Wx σ H1 (fun x H' => ∃ k, x = .bl k ∧ Q k H')) I (tE_imp (tE_ite h) fun x H1 ⟨k, e, q⟩ => ⟨k, e, q⟩)) fun k s1 ⟨H1, I1, q1⟩ => ?_)
  cases k with
  | true => exact ha.run pins s1 σ H1 Q I1 (by rw [if_pos rfl] at q1; exact q1)
  | false => exact hb.run pins s1 σ H1 Q I1 (by rw [if_neg (by simp)] at q1; exact q1)
/-! displays, subscripts, slices -/
variable {es : List Expr} {ies : IEs}
theorem sA_nil : PAv G X B C Wx [] .nil := pa_imp pa_nil fun σ H Q ⟨W, ρ, S, rl, en, q⟩ => q _ _ _ rl Ext.refl .nil
theorem sA_cons {e : Expr} {ie : IE} (he : PEv G X B C Wx e ie) (hr : PAv G X B C Wx es ies) (hs : starEach (e :: es) X.env = (false, eval e X.env) :: starEach es X.env) : PAv G X B C Wx (e :: es) (.cons ie ies) := by
  refine pa_imp (pa_cons he hr hs) fun σ H Q ⟨W, ρ, S, rl, en, q⟩ => ?_
  have q : Aft G (fun W' v d => RDs G W' v d) (fun cls dx H' => Wx cls dx σ H') H W Q ((evE B C ie ρ S).bind fun x S1 => (evEs B C ies ρ S1).bind fun xs S2 => .ok (x :: xs) S2) := q
  refine ⟨W, ρ, S, rl, en, (Aft.bind (rel := fun W' v d => RD G W' v d) q).imp (fun v H1 ⟨d, S1, W1, r1, x1, k1, a1⟩ => ?_) fun _ _ _ z => z⟩
  refine ⟨W1, ρ, S1, r1, en.mono x1, (Aft.bind (rel := fun W' v d => RDs G W' v d) a1).imp (fun vs H2 ⟨ds, S2, W2, r2, x2, k2, a2⟩ => ?_) fun _ _ _ z => z⟩
  exact a2 _ _ _ r2 Ext.refl (.cons (k1.mono x2) k2)
def lenIEs : IEs → Nat
  | .nil => 0
  | .cons _ r => lenIEs r + 1
theorem evEs_len : ∀ {ies : IEs} {ρ : Ev} {S S' : Sto} {ds : List D}, evEs B C ies ρ S = .ok ds S' → ds.length = lenIEs ies
  | .nil, ρ, S, S', ds, e => by cases e; rfl
  | .cons ie r, ρ, S, S', ds, e => by
    have e : ((evE B C ie ρ S).bind fun x S1 => (evEs B C r ρ S1).bind fun xs S2 => R.ok (x :: xs) S2) = .ok ds S' := e
    cases e1 : evE B C ie ρ S with
    | ok d S1 =>
      rw [e1] at e
      simp only [R.bind_ok] at e
      cases e2 : evEs B C r ρ S1 with
      | ok ds2 S2 =>
        rw [e2] at e
        cases e
        simp [evEs_len e2, lenIEs]
      | ex c fs S2 => rw [e2] at e; cases e
      | no => rw [e2] at e; cases e
    | ex c fs S1 => rw [e1] at e; cases e
    | no => rw [e1] at e; cases e
theorem sE_tup {k : Nat} (ha : PAv G X B C Wx es ies) (hl : lenIEs ies ≤ 1000) : PEv G X B C Wx (.Tuple es k pos) (.tup ies) := pe_imp (pe_tup ha) fun σ H Q ⟨W, ρ, S, rl, en, q⟩ => by
  have q : Aft G (fun W' v d => RD G W' v d) (fun cls dx H' => Wx cls dx σ H') H W Q ((evEs B C ies ρ S).bind fun ds S1 => mkT ds S1) := q
  cases e : evEs B C ies ρ S with
  | ok ds S1 =>
    rw [e] at q
    refine ⟨W, ρ, S, rl, en, ?_⟩
    rw [e]
    intro vs H1 W1 r1 x1 k1
    refine ⟨?_, mkT_ok r1 k1 (Aft.move q x1)⟩
    rw [k1.length, evEs_len e, sizeLine_eq]; omega
  | ex c fs S1 => exact ⟨W, ρ, S, rl, en, by rw [e] at q ⊢; exact q⟩
  | no => rw [e] at q; exact q.elim
theorem sE_lst {m : Bool} (ha : PAv G X B C Wx es ies) (hl : lenIEs ies ≤ 1000) : PEv G X B C Wx (.List es pos) (.lst m ies) := pe_imp (pe_lst ha) fun σ H Q ⟨W, ρ, S, rl, en, q⟩ => by
  have q : Aft G (fun W' v d => RD G W' v d) (fun cls dx H' => Wx cls dx σ H') H W Q ((evEs B C ies ρ S).bind fun ds S1 => mkL m ds S1) := q
  cases e : evEs B C ies ρ S with
  | ok ds S1 =>
    rw [e] at q
    refine ⟨W, ρ, S, rl, en, ?_⟩
    rw [e]
    intro vs H1 W1 r1 x1 k1
    refine ⟨?_, mkL_ok r1 k1 (Aft.move q x1)⟩
    rw [k1.length, evEs_len e, sizeLine_eq]; omega
  | ex c fs S1 => exact ⟨W, ρ, S, rl, en, by rw [e] at q ⊢; exact q⟩
  | no => rw [e] at q; exact q.elim
theorem sE_idx (hK : X.K = G.K) (hu : X.A.units + 65 < cLine) (ha : PEv G X B C Wx a ia) (hb : PEv G X B C Wx b ib) (hs : PlainIx b) : PEv G X B C Wx (.Subscript a b pos) (.idx ia ib) :=
  pe_imp (pe_ix (opr_ix hK hu) ha hb hs) fun σ H Q h => tE_op (fun _ _ _ => pIdx_noEx _ _ _) (fun _ _ _ _ z => z) h
/-- a slice's part: nothing where it is left out -/
def tP (G : Gd) (B : Tb) (C : Cal) (Wx : WX) : IE → TO
  | .nop => tNoPart
  | ie => tPart (tE G (evE B C ie) Wx)
theorem tP_at {lo : IE} {f : Option Int → Sto → R D} {σ : L2.St} {H : Hp} {W : Wd} {ρ : Ev} {S : Sto} {Q : VK} (rl : Rel G H W S) (en : REn G W σ ρ)
    (q : Aft G (fun W' v d => RD G W' v d) (fun cls dx H' => Wx cls dx σ H') H W Q ((evE B C lo ρ S).bind fun l S2 => match prt lo l with
      | none => .no
      | some l => f l S2)) :
    tP G B C Wx lo σ H (fun o H1 => ∃ S1 W1, Rel G H1 W1 S1 ∧ Ext H W H1 W1 ∧ REn G W1 σ ρ ∧ Aft G (fun W' v d => RD G W' v d) (fun cls dx H' => Wx cls dx σ H') H1 W1 Q (f o S1)) := by
  have gen : (∀ l, prt lo l = (intOf l).map some) → tPart (tE G (evE B C lo) Wx) σ H (fun o H1 => ∃ S1 W1, Rel G H1 W1 S1 ∧ Ext H W H1 W1 ∧ REn G W1 σ ρ ∧ Aft G (fun W' v d => RD G W' v d) (fun cls dx H' => Wx cls dx σ H') H1 W1 Q (f o S1)) := fun hp => by
    refine tE_imp (tE_at rl en q) fun v H1 ⟨d, S1, W1, r1, x1, e1, k1, a1⟩ => ?_
    rw [hp] at a1
    split at a1
    · exact a1.elim
    · rename_i l e
      rw [Option.map_eq_some_iff] at e
      obtain ⟨i, e, rfl⟩ := e
      unfold intOf at e
      split at e
      · cases e
        cases k1.int_of
        exact ⟨_, rfl, S1, W1, r1, x1, e1, a1⟩
      · cases e
  cases lo with
  | nop => exact ⟨S, W, rl, Ext.refl, en, q⟩
  | _ => exact gen fun l => rfl
theorem sP_none : PO X none (tP G B C Wx .nop) := po_none
theorem sP_some {lo : IE} (h : PEv G X B C Wx a lo) (hn : lo ≠ .nop) : PO X (some a) (tP G B C Wx lo) := by
  cases lo with
  | nop => exact absurd rfl hn
  | _ => exact po_some h
theorem sE_sl {lo hi : Option Expr} {il ih : IE} {p2 : Pos} (hK : X.K = G.K) (ha : PEv G X B C Wx a ia) (hl : PO X lo (tP G B C Wx il)) (hh : PO X hi (tP G B C Wx ih)) : PEv G X B C Wx (.Subscript a (.Slice lo hi none p2) pos) (.sl ia il ih) :=
  pe_imp (pe_slice (slr_sl hK) ha hl hh) fun σ H Q ⟨W, ρ, S, rl, en, q⟩ => by
    have q : Aft G (fun W' v d => RD G W' v d) (fun cls dx H' => Wx cls dx σ H') H W Q ((evE B C ia ρ S).bind fun x S1 => (evE B C il ρ S1).bind fun l S2 => match prt il l with
      | none => .no
      | some l => (evE B C ih ρ S2).bind fun h S3 => match prt ih h with
        | none => .no
        | some h => pSl x l h S3) := q
    refine tE_imp (tE_at rl en q) fun v H1 ⟨d, S1, W1, r1, x1, e1, k1, a1⟩ => ?_
    have b1 := tP_at r1 e1 a1
    have imp : ∀ {lo : IE} {σ : L2.St} {H : Hp} {Q Q' : Option Int → Hp → Prop}, tP G B C Wx lo σ H Q → (∀ o H', Q o H' → Q' o H') → tP G B C Wx lo σ H Q' := by
      intro lo σ H Q Q' h k
      have gen : tPart (tE G (evE B C lo) Wx) σ H Q → tPart (tE G (evE B C lo) Wx) σ H Q' := fun h => tE_imp h fun v H1 ⟨i, e, q⟩ => ⟨i, e, k _ _ q⟩
      cases lo with
      | nop => exact k _ _ h
      | _ => exact gen h
    refine imp b1 fun o H2 ⟨S2, W2, r2, x2, e2, a2⟩ => ?_
    refine imp (tP_at r2 e2 a2) fun o2 H3 ⟨S3, W3, r3, x3, e3, a3⟩ => ?_
    exact ⟨W3, S3, d, r3, (k1.mono x2).mono x3, a3.noEx (pSl_noEx _ _ _ _)⟩
/-! ### slices by steps -/
theorem vals_pick {xs : List V} {us : List Value} (r : Vals xs us) : ∀ l : List Nat, Vals (l.filterMap fun i => xs[i]?) (l.filterMap fun i => us[i]?)
  | [] => .nil
  | i :: l => by
    have ih := vals_pick r l
    have hl := r.length
    rw [List.filterMap_cons, List.filterMap_cons]
    cases e : xs[i]? with
    | none =>
      have : us[i]? = none := List.getElem?_eq_none (by rw [← hl]; exact List.getElem?_eq_none_iff.mp e)
      rw [this]; exact ih
    | some v =>
      obtain ⟨u, h1, h2⟩ := r.get e
      rw [h1]; exact .cons h2 ih
theorem RDs.pick {W : Wd} {vs : List V} {ds : List D} (r : RDs G W vs ds) : ∀ l : List Nat, RDs G W (l.filterMap fun i => vs[i]?) (l.filterMap fun i => ds[i]?)
  | [] => .nil
  | i :: l => by
    have ih := RDs.pick r l
    have hl := r.length
    rw [List.filterMap_cons, List.filterMap_cons]
    cases e : ds[i]? with
    | none =>
      have : vs[i]? = none := List.getElem?_eq_none (by rw [hl]; exact List.getElem?_eq_none_iff.mp e)
      rw [this]; exact ih
    | some v =>
      obtain ⟨u, h1, h2⟩ := r.get e
      rw [h1]; exact .cons h2 ih
theorem pick3_len {α : Type} (xs : List α) (lo hi : Option Int) {k : Int} (hk : k ≠ 0) : (pick3 xs lo hi k).length ≤ xs.length := by
  have : (pick3 xs lo hi k).length ≤ _ := List.length_filterMap_le _ _
  refine Nat.le_trans this (sliceRange_length_le _ _ _ _ (fun h => ?_) fun h => ?_)
  · unfold sliceBounds at h ⊢
    simp only [Option.getD_some] at h ⊢
    cases lo <;> cases hi <;> simp only [h, if_true] <;> refine ⟨?_, ?_⟩ <;> omega
  · unfold sliceBounds at h ⊢
    simp only [Option.getD_some] at h ⊢
    cases lo <;> cases hi <;> simp only [h, if_false] <;> refine ⟨?_, ?_⟩ <;> omega
/-- the step of a slice, as it is written -/
def stepC (k : Int) : Expr → Bool
  | .Constant (.int j) _ _ => decide (j = k) && decide (k ≠ 0)
  | .UnaryOp .USub (.Constant (.int j) _ _) _ => decide (-j = k) && decide (k ≠ 0)
  | _ => false
theorem po_step {k : Int} {e : Expr} (h : stepC k e = true) : k ≠ 0 ∧ PO X (some e) (fun _ H Q => Q (some k) H) := by
  unfold stepC at h
  split at h
  · simp only [Bool.and_eq_true, decide_eq_true_eq] at h
    obtain ⟨rfl, h0⟩ := h
    refine ⟨h0, ⟨fun pins s σ H Q I q => (po_some pe_int).run pins s σ H Q I ⟨_, rfl, q⟩⟩⟩
  · simp only [Bool.and_eq_true, decide_eq_true_eq] at h
    obtain ⟨rfl, h0⟩ := h
    exact ⟨h0, ⟨fun pins s σ H Q I q => (po_some (pe_un un_neg pe_int)).run pins s σ H Q I ⟨_, rfl, _, rfl, q⟩⟩⟩
  · cases h
theorem pe_sl3 {e st : Expr} {lo hi : Option Expr} {te : TE} {tl th : TO} {k : Int} {p2 : Pos} (he : PE X e te) (hl : PO X lo tl) (hu : PO X hi th) (hst : stepC k st = true) :
    PE X (.Subscript e (.Slice lo hi (some st) p2) pos) (fun σ H Q => te σ H fun x H1 => tl σ H1 fun l H2 => th σ H2 fun u H3 => ∃ a xs, x = .ref a ∧ SqL X.K H3 a xs ∧ ∀ p, H3 p = none → Q (.ref p) (upd H3 p (.lst (pick3 xs l u k)))) := by
  obtain ⟨h0, hp⟩ := po_step (X := X) hst
  refine ⟨fun pins s σ H Q I h => ?_⟩
  refine Subscript_ (thn (he.run pins s σ H _ I h) fun v s1 ⟨x, H1, I1, r1, q1⟩ => ?_)
  refine wpAny_Slice (thn (hl.run pins s1 σ H1 _ I1 q1) fun vl s2 ⟨l, H2, I2, pl, q2⟩ => thn (hu.run pins s2 σ H2 _ I2 q2) fun vu s3 ⟨u, H3, I3, pu, a, xs, ex, hx, q⟩ => ?_)
  refine thn (hp.run pins s3 σ H3 (fun o H4 => o = some k ∧ H4 = H3) I3 ⟨rfl, rfl⟩) fun vs s4 ⟨o, H4, I4, ps, eo, e4⟩ => ?_
  subst eo e4 ex
  cases r1
  have I5 : Inv X pins σ H4 { s4 with heap := s4.heap.push { cls := .type "slice", data := .fields #[vl, vu, vs] } } := I4.kept (t' := s4.toks) fun b ob z => Heap.get?_push_of_some _ z
  obtain ⟨its, r, ht, hz⟩ := I5.list hx
  have hlen := r.length
  show wpAny (model X.prog X.w) X.A (subscriptTail e (.Slice lo hi (some st) p2) (.ref a) (.ref s4.heap.objs.size)) (EP X pins σ Q) X.xe _
  refine tail_any (ops := [.ref a, .ref s4.heap.objs.size]) ht.isList.typeIs (PySem.slot_list_getitem.lookup) ?_ (by with_unfolding_all rfl)
  refine wpAny_getItem_list_slice ht.isList (Heap.IsSliceOf.new _ vl vu vs) pl pu ps (by simpa using h0) ?_ (by rw [List.size_toArray, ← hlen]; exact hz)
  have ep : slicePick its.toArray l u (some k) = (pick3 its l u k).toArray := by
    unfold slicePick pick3
    rw [List.size_toArray]
    congr 1
    refine congrArg (fun f => List.filterMap f _) ?_
    funext i
    simp
  have vp : Vals (pick3 xs l u k) (pick3 its l u k) := by
    unfold pick3
    rw [hlen]
    exact vals_pick r _
  rw [ep]
  refine ⟨.ref _, _, I5.laid (t' := s4.toks) (o := .lst (pick3 xs l u k)) (fun b ob z => Heap.get?_push_of_some _ z) (Nat.le_refl _) ?_, rfl, q _ (I5.hok.fresh (Nat.le_refl _))⟩
  exact ⟨Nat.le_trans (pick3_len xs l u h0) hz, _, 0, vp, Heap.get?_push_size _ rfl⟩
theorem pSl3_noEx (x : D) (lo hi : Option Int) (k : Int) (S : Sto) : noEx (pSl3 x lo hi k S) := by
  unfold pSl3
  repeat' (first | exact True.intro | exact mkL_noEx _ _ _ | split)
theorem sE_sl3 {st : Expr} {lo hi : Option Expr} {il ih : IE} {k : Int} {p2 : Pos} (hK : X.K = G.K) (ha : PEv G X B C Wx a ia) (hl : PO X lo (tP G B C Wx il)) (hh : PO X hi (tP G B C Wx ih)) (hst : stepC k st = true) :
    PEv G X B C Wx (.Subscript a (.Slice lo hi (some st) p2) pos) (.sl3 ia il ih k) :=
  pe_imp (pe_sl3 ha hl hh hst) fun σ H Q ⟨W, ρ, S, rl, en, q⟩ => by
    have q : Aft G (fun W' v d => RD G W' v d) (fun cls dx H' => Wx cls dx σ H') H W Q ((evE B C ia ρ S).bind fun x S1 => (evE B C il ρ S1).bind fun l S2 => match prt il l with
      | none => .no
      | some l => (evE B C ih ρ S2).bind fun h S3 => match prt ih h with
        | none => .no
        | some h => pSl3 x l h k S3) := q
    refine tE_imp (tE_at rl en q) fun v H1 ⟨d, S1, W1, r1, x1, e1, k1, a1⟩ => ?_
    have b1 := tP_at r1 e1 a1
    have imp : ∀ {lo : IE} {σ : L2.St} {H : Hp} {Q Q' : Option Int → Hp → Prop}, tP G B C Wx lo σ H Q → (∀ o H', Q o H' → Q' o H') → tP G B C Wx lo σ H Q' := by
      intro lo σ H Q Q' h k
      have gen : tPart (tE G (evE B C lo) Wx) σ H Q → tPart (tE G (evE B C lo) Wx) σ H Q' := fun h => tE_imp h fun v H1 ⟨i, e, q⟩ => ⟨i, e, k _ _ q⟩
      cases lo with
      | nop => exact k _ _ h
      | _ => exact gen h
    refine imp b1 fun o H2 ⟨S2, W2, r2, x2, e2, a2⟩ => ?_
    refine imp (tP_at r2 e2 a2) fun o2 H3 ⟨S3, W3, r3, x3, e3, a3⟩ => ?_
    have kk := (k1.mono x2).mono x3
    unfold pSl3 at a3
    split at a3
    · exact a3.elim
    · split at a3
      · cases kk with
        | t kk =>
          cases kk with
          | scr h =>
            refine ⟨_, _, rfl, by rw [hK]; exact r3.sub.seq h, fun p hp => ?_⟩
            have e : ∀ ns : List Int, pick3 (ns.map V.int) o o2 k = (pick3 ns o o2 k).map V.int := fun ns => by
              unfold pick3
              rw [List.length_map, List.map_filterMap]
              refine congrArg (fun f => List.filterMap f _) ?_
              funext i
              rw [List.getElem?_map]
            rw [e]
            obtain ⟨r4, x4⟩ := r3.new (o := .lst (List.map V.int _)) hp
            exact a3 _ _ _ r4 x4 (.t (.lst upd_same (RTs.ints _)))
      · split at a3
        · rename_i xs e5
          obtain ⟨a, vs, rfl, h1, h2⟩ := asList_ok r3 kk e5
          refine ⟨a, vs, rfl, SqL.of h1, ?_⟩
          have hp : RDs G W3 (pick3 vs o o2 k) (pick3 xs o o2 k) := by
            unfold pick3
            rw [h2.length]
            exact h2.pick _
          exact mkL_ok r3 hp a3
        · exact a3.elim
end
end Wc

/-! Wc: sorted of triples of whole numbers; of a set of any size. -/
namespace Wc
open PySem PySem.Spec PyProof.Rows L2
abbrev A3 := Addr × I3
def enc3 (p : A3) : PyData := .tuple [.int p.2.1, .int p.2.2.1, .int p.2.2.2]
def key3 (p : A3) : PyData := .tuple [.int p.2.2.1, .int p.2.1]
theorem dataLe3 : PySem.W.dataLe false enc3 = fun x y => le3 x.2 y.2 := by
  funext x y
  show (!PySem.W.dataLt (enc3 y) (enc3 x)) = _
  unfold enc3
  rw [PySem.W.dataLt_tuple, PySem.W.dataLt_cons (by simp [PySem.W.alike]), PySem.W.dataLt_cons (by simp [PySem.W.alike]), PySem.W.dataLt_cons (by simp [PySem.W.alike]), PySem.W.dataLt_int, PySem.W.dataLt_int, PySem.W.dataLt_int]
  have e : PyProof.Rows.lexLt PyProof.Rows.itemOrd (PySem.W.keyToksAll []) (PySem.W.keyToksAll []) = false := PyProof.Rows.lex_irrefl _
  rw [e]
  simp only [PyData.eqv, beq_iff_eq]
  unfold le3
  generalize x.2 = a; generalize y.2 = b
  obtain ⟨a1, a2, a3⟩ := a; obtain ⟨b1, b2, b3⟩ := b
  simp only
  by_cases h1 : b1 = a1
  · subst h1
    by_cases h2 : b2 = a2
    · subst h2
      by_cases h3 : b3 = a3
      · subst h3; simp
      · simp [h3]
        by_cases h4 : b3 < a3
        · have : ¬ a3 ≤ b3 := by omega
          simp [h4, this]
        · have : a3 ≤ b3 := by omega
          simp [h4, this]
    · simp [h2, Ne.symm h2]
      by_cases h4 : b2 < a2
      · have : ¬ a2 < b2 := by omega
        simp [h4, this]
      · have : a2 < b2 := by omega
        simp [h4, this]
  · simp [h1, Ne.symm h1]
    by_cases h4 : b1 < a1
    · have : ¬ a1 < b1 := by omega
      simp [h4, this]
    · have : a1 < b1 := by omega
      simp [h4, this]
theorem dataLe3k : PySem.W.dataLe false key3 = fun x y => le3k x.2 y.2 := by
  funext x y
  show (!PySem.W.dataLt (key3 y) (key3 x)) = _
  unfold key3
  rw [PySem.W.dataLt_ii]
  unfold le3k
  generalize x.2 = a; generalize y.2 = b
  obtain ⟨a1, a2, a3⟩ := a; obtain ⟨b1, b2, b3⟩ := b
  simp only
  by_cases h : b2 < a2 ∨ (b2 = a2 ∧ b1 < a1)
  · rw [decide_eq_true h, decide_eq_false (by omega)]; rfl
  · rw [decide_eq_false h, decide_eq_true (by omega)]; rfl
abbrev IsR (v : Value) (p : A3) : Prop := v = Value.ref p.1
theorem each_refs : ∀ {ps : List A3} {us : List Value}, Vals (ps.map fun p => V.ref p.1) us → PySem.W.EachIs IsR us ps
  | [], us, h => by cases h; exact .nil
  | p :: ps, us, h => by
    cases h with
    | cons h1 h2 => exact .cons h1 (each_refs h2)
theorem vals_refs : ∀ {ps : List A3} {us : List Value}, PySem.W.EachIs IsR us ps → Vals (ps.map fun p => V.ref p.1) us
  | [], us, h => by cases h; exact .nil
  | p :: ps, us, h => by
    cases h with
    | cons h1 h2 => exact .cons h1 (vals_refs h2)
/-- the triples stand there -/
def At3 (H : Hp) (ps : List A3) : Prop := ∀ p ∈ ps, H p.1 = some (.tup [.int p.2.1, .int p.2.2.1, .int p.2.2.2])
theorem reads_ints {P : Program} {w : World} {H : Hp} {h : Heap} {a : Addr} {ns : List Int} (ok : HOk P w H h) (ha : H a = some (.tup (ns.map V.int))) : Reads h (.ref a) (.tuple (ns.map .int)) [] := by
  obtain ⟨hz, its, r, o, ho, hc, n, hd⟩ := ok a _ ha
  have all : ∀ {ns : List Int} {its : List Value}, Vals (ns.map V.int) its → ReadsAll h its (ns.map .int) [] := by
    intro ns
    induction ns with
    | nil => intro its r; cases r; exact .nil
    | cons x ns ih =>
      intro its r
      cases r with
      | cons r1 r2 =>
        obtain ⟨t, rfl⟩ := r1
        exact .cons (as := []) (bs := []) (.int x t) (ih r2)
  exact .tuple ho hc hd (all r)
theorem each_reads {P : Program} {w : World} {H : Hp} {h : Heap} (ok : HOk P w H h) : ∀ {ps : List A3} {us : List Value}, PySem.W.EachIs IsR us ps → At3 H ps → PySem.W.EachIs (fun v p => ∃ as, Reads h v (enc3 p) as) us ps
  | [], us, e, _ => by cases e; exact .nil
  | p :: ps, us, e, h3 => by
    cases e with
    | cons e1 e2 =>
      subst e1
      exact .cons ⟨[], reads_ints (ns := [p.2.1, p.2.2.1, p.2.2.2]) ok (h3 p List.mem_cons_self)⟩ (each_reads ok e2 fun q hq => h3 q (List.mem_cons_of_mem _ hq))
section
variable {X : Cx}
def rSorted3 : List V → Hp → VK → Prop := fun xs H Q => ∃ (a : Addr) (ps : List A3), xs = [V.ref a] ∧ H a = some (.lst (ps.map fun p => V.ref p.1)) ∧ At3 H ps ∧
  ∀ q, H q = none → Q (.ref q) (upd H q (.lst ((ps.mergeSort fun x y => le3 x.2 y.2).map fun p => V.ref p.1)))
theorem cr_sorted3 (hu : X.A.units + 65 < cLine) : CallR X (.builtin "sorted") rSorted3 := by
  intro pins s σ H vs us Q I r h
  obtain ⟨a, ps, rfl, ha, h3, q⟩ := h
  obtain ⟨its, rv, hl, hz⟩ := I.list (SqL.of ha)
  rw [Vals.ref1 r]
  have e := each_refs rv
  rw [List.length_map] at hz
  refine PySem.W.sorted_data (R := IsR) (enc := enc3) hl.isList e (each_reads I.hok e h3) (PySem.W.AllAlike.of fun b b' => by simp [enc3, PySem.W.alike, PySem.W.alikeAll]) (PySem.W.Sortable.tuples fun b => ⟨_, _, rfl⟩) hz
    (fun b _ => by
      have : (enc3 b).depth = 1 := by simp [enc3, PyData.depth, PyData.depthAll]
      rw [this]; omega) fun out hlen ho => ?_
  rw [dataLe3] at ho
  obtain ⟨ep, he'⟩ := PyProof.Rows.sortedAll_at s.heap its out.toArray
  exact ⟨.ref _, upd H (s.heap.objs.size + 1) (.lst ((ps.mergeSort fun x y => le3 x.2 y.2).map fun p => V.ref p.1)), I.laid (t' := s.toks) (fun _ _ => PyProof.Rows.sortedAll_old) (Nat.le_succ _) ⟨by rw [List.length_map, List.length_mergeSort]; exact hz, out, ep, vals_refs ho, he'⟩, rfl, q _ (I.hok.fresh (Nat.le_succ _))⟩
end
section
variable {P : Program} {w : World} {A : Around} {E : Value → Shared → Prop} {s : Shared} {a : Addr}
theorem sorted_setA {S : Int → Bool} {n : Nat} {Q : Value → Shared → Prop} (R : SetR w s.heap a S n) (hh : A.handled = none) (h64 : n < 100000)
    (hQ : ∀ s' p (out : Array Value) (c : Nat) (ns : List Int), (∀ b o, s.heap.get? b = some o → s'.heap.get? b = some o) → s'.gens = s.gens → s'.os = s.os → s.heap.objs.size ≤ p →
      s'.heap.get? p = some (seqObj "list" out c) → IntsAre out.toList ns → ns.Pairwise (· < ·) → (∀ k, k ∈ ns ↔ S k = true) → ns.length = n → Q (.ref p) s') :
    wpAny (model P w) A (call (.builtin "sorted") [.ref a]) Q E s := by
  obtain ⟨o, es, ep, t, ho, hex, hd, g, nd, hm, hb, hf, hn, hr, hl⟩ := R
  refine Calls.call_function_entry kind_sorted plain_sorted entry_sorted (args_sorted1 _) ?_
  unfold Builtin.«sorted»
  refine wpAny_bind (m := checkCount "sorted" 1 1 _) (wpAny_pure ?_)
  refine wpAny_bind (collect_set (A := A.in1) hh ⟨o, ho, hex.1, hd⟩ hf hb hr hl fun s1 vs k1 hz g1 o1 pm => ?_)
  have hvl : vs.length = n := by rw [pm.length_eq, List.length_map, Array.length_toList]; exact hn
  have hI : IntsAre vs (vs.map Builtin.Re.reRawOf) := ints_of vs fun v hv => by
    obtain ⟨e, he, q⟩ := List.mem_map.mp (pm.mem_iff.mp hv)
    obtain ⟨k, tk, h1, _⟩ := g e he
    exact ⟨k, tk, by rw [← q]; exact h1⟩
  have pk : (vs.map Builtin.Re.reRawOf).Perm (es.toList.map keyOf) := by
    have q := pm.map Builtin.Re.reRawOf
    rw [List.map_map] at q
    exact q
  refine wpAny_bind (wpAny_newList ?_ (by rw [hvl, sizeLine_eq]; omega))
  have hoL : (s1.heap.push (seqObj "list" vs.toArray 0)).get? s1.heap.objs.size = some (seqObj "list" vs.toArray 0) := Heap.get?_push_size _ rfl
  refine wpAny_bind (wpAny_holding (wpAny_call_entry slot_list_sort ⟨_, hoL, rfl⟩ entry_list_sort (SrtO.list_sort_ord SrtO.swo_int hoL (by rw [hvl, sizeLine_eq]; omega) (fun h2 => SrtO.ints_sortable hI h2) fun out h1 h2 => ⟨_, rfl, ?_⟩) (args_list_sort _)))
  obtain ⟨a1, a2, a3⟩ := SrtO.ints_out hI h1 h2
  obtain ⟨c, hc⟩ := sortedHeap_at (vs := vs) (out := out.toArray) hoL
  have pn : (out.map SrtO.iv).Perm (es.toList.map keyOf) := a2.trans pk
  refine wpAny_pure ⟨_, rfl, hQ _ s1.heap.objs.size out.toArray c (out.map SrtO.iv) (fun b u e => ?_) g1 o1 hz hc (by simpa using a1) (lt_of_le_nodup _ a3 (pn.nodup_iff.mpr nd)) (fun k => by rw [pn.mem_iff, ← hm k]) ?_⟩
  · have q := k1 b u e
    have hlt := Heap.lt_size q
    show (sortedHeap (s1.heap.push (seqObj "list" vs.toArray 0)) s1.heap.objs.size vs out.toArray).get? b = some u
    rw [sortedHeap_old (Nat.ne_of_lt hlt) (by rw [size_push']; exact Nat.lt_succ_of_lt hlt)]
    exact Heap.get?_push_of_some _ q
  · rw [pn.length_eq, List.length_map, Array.length_toList]; exact hn
end
end Wc

/-! Wc: calls. -/
namespace Wc
open PySem PySem.Spec PyProof.Rows L2
section
variable {G : Gd} {X : Cx} {H : Hp} {W : Wd} {S : Sto} {Q : VK} {Wz : Value → Option Addr → Hp → Prop}
theorem callr_imp {f : Value} {r r' : List V → Hp → VK → Prop} (h : CallR X f r) (k : ∀ xs H Q, r' xs H Q → r xs H Q) : CallR X f r' := fun pins s σ H xs us Q I rx q => h pins s σ H xs us Q I rx (k _ _ _ q)
theorem RDs.one {xs : List V} {d : D} (h : RDs G W xs [d]) : ∃ v, xs = [v] ∧ RD G W v d := by
  cases h with | cons h1 h2 => cases h2; exact ⟨_, rfl, h1⟩
theorem RDs.two {xs : List V} {d e : D} (h : RDs G W xs [d, e]) : ∃ v u, xs = [v, u] ∧ RD G W v d ∧ RD G W u e := by
  cases h with | cons h1 h2 => cases h2 with | cons h2 h3 => cases h3; exact ⟨_, _, rfl, h1, h2⟩
theorem blsD_ok : ∀ {ds : List D} {bs : List Bool} {xs : List V}, blsD ds = some bs → RDs G W xs ds → xs = bs.map V.bl
  | [], bs, xs, e, h => by cases e; cases h; rfl
  | d :: ds, bs, xs, e, h => by
    cases h with
    | cons h1 h2 =>
      cases d with
      | t x =>
        cases x with
        | bl b =>
          simp only [blsD, Option.map_eq_some_iff] at e
          obtain ⟨cs, e, rfl⟩ := e
          cases h1.bl_of
          rw [blsD_ok e h2]; rfl
        | _ => simp [blsD] at e
      | _ => simp [blsD] at e
theorem intsD_ok : ∀ {ds : List D} {bs : List Int} {xs : List V}, intsD ds = some bs → RDs G W xs ds → xs = bs.map V.int
  | [], bs, xs, e, h => by cases e; cases h; rfl
  | d :: ds, bs, xs, e, h => by
    cases h with
    | cons h1 h2 =>
      cases d with
      | t x =>
        cases x with
        | int b =>
          simp only [intsD, Option.map_eq_some_iff] at e
          obtain ⟨cs, e, rfl⟩ := e
          cases h1.int_of
          rw [intsD_ok e h2]; rfl
        | _ => simp [intsD] at e
      | _ => simp [intsD] at e
/-- where a built-in of a name stands -/
def biId : Bi → Str × Value
  | .len => ("len", .builtin "len") | .all => ("all", .builtin "all") | .any => ("any", .builtin "any") | .sum => ("sum", .builtin "sum")
  | .list => ("list", .type "list") | .tuple => ("tuple", .type "tuple") | .int => ("int", .type "int") | .str => ("str", .type "str")
  | .min => ("min", .builtin "min") | .max => ("max", .builtin "max") | .abs => ("abs", .builtin "abs") | .sorted => ("sorted", .builtin "sorted") | .set => ("set", .type "set")
theorem ds1 {m : Bool} {b : Bi} {ds : List D} {r : R D} (hb : ∀ d e l, pBi m b (d :: e :: l) S = .no) (h0 : pBi m b [] S = .no) (q : Aft G (fun W' v d => RD G W' v d) Wz H W Q (pBi m b ds S)) : ∃ d, ds = [d] := by
  rcases ds with _ | ⟨d, _ | ⟨e, l⟩⟩
  · rw [h0] at q; exact q.elim
  · exact ⟨d, rfl⟩
  · rw [hb] at q; exact q.elim
theorem ds2 {m : Bool} {b : Bi} {ds : List D} (h1 : ∀ d, pBi m b [d] S = .no) (hb : ∀ d e f l, pBi m b (d :: e :: f :: l) S = .no) (h0 : pBi m b [] S = .no) (q : Aft G (fun W' v d => RD G W' v d) Wz H W Q (pBi m b ds S)) : ∃ d e, ds = [d, e] := by
  rcases ds with _ | ⟨d, _ | ⟨e, _ | ⟨f, l⟩⟩⟩
  · rw [h0] at q; exact q.elim
  · rw [h1] at q; exact q.elim
  · exact ⟨d, e, rfl⟩
  · rw [hb] at q; exact q.elim
theorem cr_len' {m : Bool} (hK : X.K = G.K) : CallR X (.builtin "len") (rPs G (pBi m .len)) := by
  refine callr_imp (call_len_str.or call_len_seq) fun xs H Q ⟨W, S, ds, rl, k, q⟩ => ?_
  obtain ⟨d, rfl⟩ := ds1 (r := .no) (fun _ _ _ => rfl) rfl q
  obtain ⟨v, rfl, k1⟩ := k.one
  clear k
  have k := k1
  clear k1
  have q : Aft G (fun W' v d => RD G W' v d) _ H W Q (pLen d S) := q
  unfold pLen at q
  split at q
  · cases k.str_of
    split at q
    · rename_i hl
      exact .inl ⟨_, rfl, Nat.le_trans hl lim_le, q _ _ _ rl Ext.refl (.t (.int _))⟩
    · exact q.elim
  · cases k with
    | t k =>
      cases k with
      | scr h =>
        refine .inr ⟨_, _, rfl, .inl (by rw [hK]; exact rl.sub.seq h), ?_⟩
        rw [List.length_map]
        exact q _ _ _ rl Ext.refl (.t (.int _))
  · split at q
    · rename_i ys e1
      obtain ⟨a, vs, rfl, h1, h2⟩ := seqOf_ok rl k e1
      refine .inr ⟨a, vs, rfl, h1.imp SqL.of SqT.of, ?_⟩
      rw [h2.length]
      exact q _ _ _ rl Ext.refl (.t (.int _))
    · exact q.elim
theorem asBls_ok {v : V} {d : D} {bs : List Bool} (rl : Rel G H W S) (k : RD G W v d) (e : (asList S d).bind blsD = some bs) : ∃ a, v = .ref a ∧ H a = some (.lst (bs.map V.bl)) := by
  rw [Option.bind_eq_some_iff] at e
  obtain ⟨ds, e1, e2⟩ := e
  obtain ⟨a, vs, rfl, h1, h2⟩ := asList_ok rl k e1
  rw [blsD_ok e2 h2] at h1
  exact ⟨a, rfl, h1⟩
theorem asInts_ok {v : V} {d : D} {bs : List Int} (rl : Rel G H W S) (k : RD G W v d) (e : (asList S d).bind intsD = some bs) : ∃ a, v = .ref a ∧ H a = some (.lst (bs.map V.int)) := by
  rw [Option.bind_eq_some_iff] at e
  obtain ⟨ds, e1, e2⟩ := e
  obtain ⟨a, vs, rfl, h1, h2⟩ := asList_ok rl k e1
  rw [intsD_ok e2 h2] at h1
  exact ⟨a, rfl, h1⟩
theorem cr_all' {m : Bool} (hc : X.calm = true) : CallR X (.builtin "all") (rPs G (pBi m .all)) := by
  refine callr_imp (cr_all hc) fun xs H Q ⟨W, S, ds, rl, k, q⟩ => ?_
  obtain ⟨d, rfl⟩ := ds1 (r := .no) (fun _ _ _ => rfl) rfl q
  obtain ⟨v, rfl, k1⟩ := k.one
  clear k
  have k := k1
  clear k1
  simp only [pBi] at q
  split at q
  · rename_i bs e
    obtain ⟨a, rfl, h1⟩ := asBls_ok rl k e
    exact ⟨a, bs, rfl, SqL.of h1, q _ _ _ rl Ext.refl (.t (.bl _))⟩
  · exact q.elim
theorem cr_any' {m : Bool} (hc : X.calm = true) : CallR X (.builtin "any") (rPs G (pBi m .any)) := by
  refine callr_imp (cr_any hc) fun xs H Q ⟨W, S, ds, rl, k, q⟩ => ?_
  obtain ⟨d, rfl⟩ := ds1 (r := .no) (fun _ _ _ => rfl) rfl q
  obtain ⟨v, rfl, k1⟩ := k.one
  clear k
  have k := k1
  clear k1
  simp only [pBi] at q
  split at q
  · rename_i bs e
    obtain ⟨a, rfl, h1⟩ := asBls_ok rl k e
    exact ⟨a, bs, rfl, SqL.of h1, q _ _ _ rl Ext.refl (.t (.bl _))⟩
  · exact q.elim
theorem cr_sum' {m : Bool} (hc : X.calm = true) : CallR X (.builtin "sum") (rPs G (pBi m .sum)) := by
  refine callr_imp (cr_sum hc) fun xs H Q ⟨W, S, ds, rl, k, q⟩ => ?_
  obtain ⟨d, rfl⟩ := ds1 (r := .no) (fun _ _ _ => rfl) rfl q
  obtain ⟨v, rfl, k1⟩ := k.one
  clear k
  have k := k1
  clear k1
  simp only [pBi] at q
  split at q
  · rename_i bs e
    obtain ⟨a, rfl, h1⟩ := asInts_ok rl k e
    exact ⟨a, bs, rfl, SqL.of h1, q _ _ _ rl Ext.refl (.t (.int _))⟩
  · exact q.elim
theorem RDs.intsT : ∀ ns : List Int, RDs G W (ns.map V.int) (ns.map fun n => .t (.int n))
  | [] => .nil
  | n :: ns => .cons (.t (.int n)) (RDs.intsT ns)
theorem kyD_ok : ∀ {ks : List (Ky × V)} {ds : List (Ky × D)}, ks.map (·.1) = ds.map (·.1) → RDs G W (ks.map fun p => kV p.1) (ds.map fun p => kyD p.1)
  | [], [], _ => .nil
  | [], _ :: _, h => by simp at h
  | _ :: _, [], h => by simp at h
  | (.inl i, x) :: ks, (k, y) :: ds, h => by
    simp only [List.map_cons, List.cons.injEq] at h
    obtain ⟨rfl, h⟩ := h
    exact .cons (.t (.int i)) (kyD_ok h)
  | (.inr i, x) :: ks, (k, y) :: ds, h => by
    simp only [List.map_cons, List.cons.injEq] at h
    obtain ⟨rfl, h⟩ := h
    exact .cons (.t (.str i)) (kyD_ok h)
theorem cr_list' {m : Bool} (hK : X.K = G.K) (hc : X.calm = true) : CallR X (.type "list") (rPs G (pBi m .list)) := by
  refine callr_imp (call_list_of.or (call_list_dK hc)) fun xs H Q ⟨W, S, ds, rl, k, q⟩ => ?_
  obtain ⟨d, rfl⟩ := ds1 (r := .no) (fun _ _ _ => rfl) rfl q
  obtain ⟨v, rfl, k1⟩ := k.one
  clear k
  have k := k1
  clear k1
  simp only [pBi] at q
  split at q
  · rename_i ns
    cases k with
    | t k =>
      cases k with
      | scr h => exact .inl ⟨_, _, rfl, .inl (by rw [hK]; exact rl.sub.seq h), mkL_ok rl (RDs.intsT ns) q⟩
  · split at q
    · rename_i ys e1
      obtain ⟨a, vs, rfl, h1, h2⟩ := seqOf_ok rl k e1
      exact .inl ⟨a, vs, rfl, h1.imp SqL.of SqT.of, mkL_ok rl h2 q⟩
    · split at q
      · rename_i kvs e2
        obtain ⟨a, ks, rfl, h1, h2, h3⟩ := dctOf_ok rl k e2
        exact .inr ⟨a, ks, rfl, h1, mkL_ok rl (kyD_ok h2) q⟩
      · exact q.elim
theorem cr_tuple' {m : Bool} : CallR X (.type "tuple") (rPs G (pBi m .tuple)) := by
  refine callr_imp call_tuple_of fun xs H Q ⟨W, S, ds, rl, k, q⟩ => ?_
  obtain ⟨d, rfl⟩ := ds1 (r := .no) (fun _ _ _ => rfl) rfl q
  obtain ⟨v, rfl, k1⟩ := k.one
  clear k
  have k := k1
  clear k1
  simp only [pBi] at q
  split at q
  · have k' := k
    cases k with
    | t k =>
      cases k with
      | tup h1 h2 => exact ⟨_, _, rfl, .inr ⟨SqT.of (rl.sub _ _ h1), q _ _ _ rl Ext.refl k'⟩⟩
  · have k' := k
    cases k with
    | tup h1 h2 => exact ⟨_, _, rfl, .inr ⟨SqT.of (rl.sub _ _ h1), q _ _ _ rl Ext.refl k'⟩⟩
  · split at q
    · rename_i ys e1
      obtain ⟨a, vs, rfl, h1, h2⟩ := asList_ok rl k e1
      exact ⟨a, vs, rfl, .inl ⟨SqL.of h1, mkT_ok rl h2 q⟩⟩
    · exact q.elim
theorem cr_int' {m : Bool} : CallR X (.type "int") (rPs G (pBi m .int)) := by
  refine callr_imp (call_int1.or call_int_str) fun xs H Q ⟨W, S, ds, rl, k, q⟩ => ?_
  obtain ⟨d, rfl⟩ := ds1 (r := .no) (fun _ _ _ => rfl) rfl q
  obtain ⟨v, rfl, k1⟩ := k.one
  clear k
  have k := k1
  clear k1
  simp only [pBi] at q
  split at q
  · cases k.int_of
    exact .inl (.inl ⟨_, rfl, q _ _ _ rl Ext.refl (.t (.int _))⟩)
  · cases k.bl_of
    exact .inl (.inr ⟨_, rfl, q _ _ _ rl Ext.refl (.t (.int _))⟩)
  · cases k.str_of
    split at q
    · rename_i n e
      split at q
      · rename_i hl
        exact .inr ⟨_, n, rfl, e, hl, q _ _ _ rl Ext.refl (.t (.int _))⟩
      · exact q.elim
    · exact q.elim
  · exact q.elim
theorem cr_str' {m : Bool} : CallR X (.type "str") (rPs G (pBi m .str)) := by
  refine callr_imp call_str_int fun xs H Q ⟨W, S, ds, rl, k, q⟩ => ?_
  obtain ⟨d, rfl⟩ := ds1 (r := .no) (fun _ _ _ => rfl) rfl q
  obtain ⟨v, rfl, k1⟩ := k.one
  clear k
  have k := k1
  clear k1
  simp only [pBi] at q
  split at q
  · cases k.int_of
    split at q
    · rename_i hl
      exact ⟨_, rfl, hl, q _ _ _ rl Ext.refl (.t (.str _))⟩
    · exact q.elim
  · exact q.elim
theorem insI_perm (x : Int) : ∀ l : List Int, (insI x l).Perm (x :: l)
  | [] => .refl _
  | y :: l => by
    unfold insI
    split
    · exact .refl _
    · exact ((insI_perm x l).cons y).trans (.swap x y l)
theorem srtI_perm : ∀ l : List Int, (srtI l).Perm l
  | [] => .refl _
  | x :: l => (insI_perm x _).trans ((srtI_perm l).cons x)
theorem insI_srt (x : Int) : ∀ l : List Int, l.Pairwise (· ≤ ·) → (insI x l).Pairwise (· ≤ ·)
  | [], _ => by simp [insI]
  | y :: l, h => by
    unfold insI
    rw [List.pairwise_cons] at h
    split
    · rename_i c
      rw [List.pairwise_cons, List.pairwise_cons]
      exact ⟨fun z hz => by
        rcases List.mem_cons.mp hz with rfl | hz
        · exact c
        · exact Int.le_trans c (h.1 z hz), h⟩
    · rename_i c
      rw [List.pairwise_cons]
      exact ⟨fun z hz => by
        rcases List.mem_cons.mp ((insI_perm x l).mem_iff.mp hz) with rfl | hz
        · omega
        · exact h.1 z hz, insI_srt x l h.2⟩
theorem srtI_srt : ∀ l : List Int, (srtI l).Pairwise (· ≤ ·)
  | [] => .nil
  | x :: l => insI_srt x _ (srtI_srt l)
theorem srt_uniq : ∀ {l m : List Int}, l.Perm m → l.Pairwise (· ≤ ·) → m.Pairwise (· ≤ ·) → l = m
  | [], m, p, _, _ => by rw [p.nil_eq]
  | x :: l, [], p, _, _ => by have := p.length_eq; simp at this
  | x :: l, y :: m, p, h1, h2 => by
    rw [List.pairwise_cons] at h1 h2
    have e : x = y := by
      rcases List.mem_cons.mp (p.mem_iff.mp (List.mem_cons_self (a := x) (l := l))) with e | hx
      · exact e
      · rcases List.mem_cons.mp (p.mem_iff.mpr (List.mem_cons_self (a := y) (l := m))) with e | hy
        · exact e.symm
        · have := h1.1 y hy; have := h2.1 x hx; omega
    subst e
    rw [srt_uniq (p.cons_inv) h1.2 h2.2]
theorem foldl_max : ∀ (ns : List Int) (n : Int), ns.foldl max n ∈ n :: ns ∧ ∀ y ∈ n :: ns, y ≤ ns.foldl max n
  | [], n => by simp
  | a :: ns, n => by
    obtain ⟨h1, h2⟩ := foldl_max ns (max n a)
    simp only [List.foldl_cons]
    refine ⟨?_, fun y hy => ?_⟩
    · rcases List.mem_cons.mp h1 with e | h
      · rw [e]
        have : max n a = n ∨ max n a = a := by omega
        rcases this with e | e <;> rw [e] <;> simp
      · exact List.mem_cons_of_mem _ (List.mem_cons_of_mem _ h)
    · have h3 := h2 (max n a) List.mem_cons_self
      rcases List.mem_cons.mp hy with rfl | hy
      · omega
      · rcases List.mem_cons.mp hy with rfl | hy
        · omega
        · exact h2 y (List.mem_cons_of_mem _ hy)
theorem foldl_min : ∀ (ns : List Int) (n : Int), ns.foldl min n ∈ n :: ns ∧ ∀ y ∈ n :: ns, ns.foldl min n ≤ y
  | [], n => by simp
  | a :: ns, n => by
    obtain ⟨h1, h2⟩ := foldl_min ns (min n a)
    simp only [List.foldl_cons]
    refine ⟨?_, fun y hy => ?_⟩
    · rcases List.mem_cons.mp h1 with e | h
      · rw [e]
        have : min n a = n ∨ min n a = a := by omega
        rcases this with e | e <;> rw [e] <;> simp
      · exact List.mem_cons_of_mem _ (List.mem_cons_of_mem _ h)
    · have h3 := h2 (min n a) List.mem_cons_self
      rcases List.mem_cons.mp hy with rfl | hy
      · omega
      · rcases List.mem_cons.mp hy with rfl | hy
        · omega
        · exact h2 y (List.mem_cons_of_mem _ hy)
theorem cr_max' {m : Bool} (hc : X.calm = true) : CallR X (.builtin "max") (rPs G (pBi m .max)) := by
  refine callr_imp ((call_max2 hc).or (cr_max hc)) fun xs H Q ⟨W, S, ds, rl, k, q⟩ => ?_
  replace q : Aft G (fun W' v d => RD G W' v d) _ H W Q (pMM max ds S) := q
  unfold pMM at q
  split at q
  · rename_i x
    obtain ⟨v, rfl, k1⟩ := k.one
    unfold pMx at q
    split at q
    · rename_i n ns e
      obtain ⟨a, rfl, h1⟩ := asInts_ok rl k1 e
      refine .inr ⟨a, n :: ns, rfl, SqL.of h1, by simp, fun z hz hz2 => ?_⟩
      obtain ⟨h2, h3⟩ := foldl_max ns n
      have : z = ns.foldl max n := Int.le_antisymm (h3 z hz) (hz2 _ h2)
      rw [this]
      exact q _ _ _ rl Ext.refl (.t (.int _))
    · exact q.elim
  · rename_i i j
    obtain ⟨v, u, rfl, k1, k2⟩ := k.two
    cases k1.int_of; cases k2.int_of
    refine .inl ⟨_, _, rfl, ?_⟩
    have : (if j > i then j else i) = max i j := by
      have h1 : i ≤ j → max i j = j := fun h => by omega
      split <;> omega
    rw [this]
    exact q _ _ _ rl Ext.refl (.t (.int _))
  · exact q.elim
theorem cr_min' {m : Bool} (hc : X.calm = true) : CallR X (.builtin "min") (rPs G (pBi m .min)) := by
  refine callr_imp ((call_min2 hc).or (cr_min hc)) fun xs H Q ⟨W, S, ds, rl, k, q⟩ => ?_
  replace q : Aft G (fun W' v d => RD G W' v d) _ H W Q (pMM min ds S) := q
  unfold pMM at q
  split at q
  · rename_i x
    obtain ⟨v, rfl, k1⟩ := k.one
    unfold pMx at q
    split at q
    · rename_i n ns e
      obtain ⟨a, rfl, h1⟩ := asInts_ok rl k1 e
      refine .inr ⟨a, n :: ns, rfl, SqL.of h1, by simp, fun z hz hz2 => ?_⟩
      obtain ⟨h2, h3⟩ := foldl_min ns n
      have : z = ns.foldl min n := Int.le_antisymm (hz2 _ h2) (h3 z hz)
      rw [this]
      exact q _ _ _ rl Ext.refl (.t (.int _))
    · exact q.elim
  · rename_i i j
    obtain ⟨v, u, rfl, k1, k2⟩ := k.two
    cases k1.int_of; cases k2.int_of
    refine .inl ⟨_, _, rfl, ?_⟩
    have : (if j < i then j else i) = min i j := by
      have h1 : i ≤ j → max i j = j := fun h => by omega
      split <;> omega
    rw [this]
    exact q _ _ _ rl Ext.refl (.t (.int _))
  · exact q.elim
theorem trisD_ok : ∀ {ds : List D} {ts : List I3} {vs : List V}, Rel G H W S → trisD ds = some ts → RDs G W vs ds → ∃ ps : List A3, vs = ps.map (fun p => V.ref p.1) ∧ At3 H ps ∧ ps.map (·.2) = ts ∧ ∀ p ∈ ps, RD G W (.ref p.1) (.t (tri p.2))
  | [], ts, vs, rl, e, k => by cases e; cases k; exact ⟨[], rfl, (fun _ h => nomatch h), rfl, (fun _ h => nomatch h)⟩
  | .t x :: ds, ts, vs, rl, e, k => by
    cases k with
    | cons k1 k2 =>
      unfold trisD at e
      cases ex : triT x with
      | none => rw [ex] at e; cases e
      | some a =>
        rw [ex] at e
        simp only [Option.map_eq_some_iff] at e
        obtain ⟨us, e, rfl⟩ := e
        obtain ⟨ps, rfl, h1, h2, h3⟩ := trisD_ok rl e k2
        unfold triT at ex
        split at ex
        · cases ex
          have k0 := k1
          cases k1 with
          | t k1 =>
            cases k1 with
            | tup g1 g2 =>
              cases g2 with
              | cons g3 g4 =>
                cases g4 with
                | cons g5 g6 =>
                  cases g6 with
                  | cons g7 g8 =>
                    cases g3; cases g5; cases g7; cases g8
                    refine ⟨(_, _) :: ps, rfl, fun p hp => ?_, by rw [List.map_cons, h2], fun p hp => ?_⟩
                    · rcases List.mem_cons.mp hp with rfl | hp
                      · exact rl.sub _ _ g1
                      · exact h1 p hp
                    · rcases List.mem_cons.mp hp with rfl | hp
                      · exact k0
                      · exact h3 p hp
        · cases ex
  | .ref _ :: ds, ts, vs, rl, e, k => by simp [trisD] at e
  | .tup _ :: ds, ts, vs, rl, e, k => by simp [trisD] at e
theorem asTris_ok {v : V} {d : D} {ts : List I3} (rl : Rel G H W S) (k : RD G W v d) (e : (asList S d).bind trisD = some ts) :
    ∃ (a : Addr) (ps : List A3), v = .ref a ∧ H a = some (.lst (ps.map fun p => V.ref p.1)) ∧ At3 H ps ∧ ps.map (·.2) = ts ∧ ∀ p ∈ ps, RD G W (.ref p.1) (.t (tri p.2)) := by
  rw [Option.bind_eq_some_iff] at e
  obtain ⟨ds, e1, e2⟩ := e
  obtain ⟨a, vs, rfl, h1, h2⟩ := asList_ok rl k e1
  obtain ⟨ps, rfl, h3, h4, h5⟩ := trisD_ok rl e2 h2
  exact ⟨a, ps, rfl, h1, h3, h4, h5⟩
theorem tris_rds : ∀ {ps : List A3}, (∀ p ∈ ps, RD G W (.ref p.1) (.t (tri p.2))) → RDs G W (ps.map fun p => V.ref p.1) ((ps.map (·.2)).map fun n => .t (tri n))
  | [], _ => .nil
  | p :: ps, h => .cons (h p List.mem_cons_self) (tris_rds fun q hq => h q (List.mem_cons_of_mem _ hq))
/-- sorted triples -/
theorem tris_sorted {ps : List A3} {ts : List I3} (le : I3 → I3 → Bool) (h : ps.map (·.2) = ts) (k : ∀ p ∈ ps, RD G W (.ref p.1) (.t (tri p.2))) :
    RDs G W ((ps.mergeSort fun x y => le x.2 y.2).map fun p => V.ref p.1) ((ts.mergeSort le).map fun n => .t (tri n)) := by
  have e : (ps.mergeSort fun x y => le x.2 y.2).map (·.2) = ts.mergeSort le := by
    rw [← h]
    exact List.map_mergeSort fun _ _ _ _ => rfl
  rw [← e]
  exact tris_rds fun p hp => k p ((List.mergeSort_perm _ _).mem_iff.mp hp)
theorem intKs_ok : ∀ {ks : List Ky} {ns : List Int}, intKs ks = some ns → ks = ns.map Sum.inl
  | [], ns, e => by cases e; rfl
  | .inl i :: r, ns, e => by
    simp only [intKs, Option.map_eq_some_iff] at e
    obtain ⟨us, e, rfl⟩ := e
    rw [intKs_ok e]; rfl
  | .inr i :: r, ns, e => by simp [intKs] at e
theorem cr_sorted' {m : Bool} (hc : X.calm = true) (hu : X.A.units + 65 < cLine) : CallR X (.builtin "sorted") (rPs G (pBi m .sorted)) := by
  refine callr_imp ((cr_sortedI.or (cr_sorted3 hu)).or (call_sortedDI hc)) fun xs H Q ⟨W, S, ds, rl, k, q⟩ => ?_
  obtain ⟨d, rfl⟩ := ds1 (r := .no) (fun _ _ _ => rfl) rfl q
  obtain ⟨v, rfl, k1⟩ := k.one
  simp only [pBi] at q
  split at q
  · rename_i ns e
    obtain ⟨a, rfl, h1⟩ := asInts_ok rl k1 e
    refine .inl (.inl ⟨a, ns, rfl, SqL.of h1, fun ns' p hp hs => ?_⟩)
    rw [srt_uniq (hp.trans (srtI_perm ns).symm) hs (srtI_srt ns)]
    exact mkL_ok rl (RDs.intsT _) q p
  · split at q
    · rename_i ts e
      obtain ⟨a, ps, rfl, h1, h2, h3, h4⟩ := asTris_ok rl k1 e
      exact .inl (.inr ⟨a, ps, rfl, h1, h2, fun p hp => mkL_ok rl (tris_sorted le3 h3 h4) q p hp⟩)
    · split at q
      · rename_i ns e
        split at q
        · rename_i h64
          rw [Option.bind_eq_some_iff] at e
          obtain ⟨kvs, e1, e2⟩ := e
          obtain ⟨a, ks, rfl, h1, h2, h3⟩ := dctOf_ok rl k1 e1
          refine .inr ⟨a, ks, ns, rfl, .of h1, h2.trans (intKs_ok e2), h64, fun ys p hp hs hn => ?_⟩
          rw [srt_uniq (hp.trans (srtI_perm ns).symm) hs (srtI_srt ns)]
          exact mkL_ok rl (RDs.intsT _) q p hn
        · exact q.elim
      · exact q.elim
theorem cr_abs' {m : Bool} : CallR X (.builtin "abs") (rPs G (pBi m .abs)) := by
  refine callr_imp call_abs fun xs H Q ⟨W, S, ds, rl, k, q⟩ => ?_
  unfold pBi at q
  split at q <;> first | exact q.elim | (rename_i h; cases h; done) | skip
  all_goals try (rename_i h _; cases h; done)
  obtain ⟨v, rfl, k1⟩ := k.one
  cases k1.int_of
  exact ⟨_, rfl, q _ _ _ rl Ext.refl (.t (.int _))⟩
theorem cr_never {m : Bool} {b : Bi} {f : Value} (h : ∀ ds S, pBi m b ds S = .no) : CallR X f (rPs G (pBi m b)) := fun pins s σ H xs us Q I rx ⟨W, S, ds, rl, k, q⟩ => by
  rw [h] at q; exact q.elim
theorem cr_bi {m : Bool} (hK : X.K = G.K) (hc : X.calm = true) (hu : X.A.units + 65 < cLine) : ∀ b : Bi, CallR X (biId b).2 (rPs G (pBi m b))
  | .len => cr_len' hK
  | .all => cr_all' hc
  | .any => cr_any' hc
  | .sum => cr_sum' hc
  | .list => cr_list' hK hc
  | .tuple => cr_tuple'
  | .int => cr_int'
  | .str => cr_str'
  | .max => cr_max' hc
  | .min => cr_min' hc
  | .abs => cr_abs'
  | .sorted => cr_sorted' hc hu
  | .set => cr_never fun ds S => by unfold pBi; split <;> first | rfl | (rename_i h; cases h)
theorem pBi_noEx (m : Bool) (b : Bi) (ds : List D) (S : Sto) : noEx (pBi m b ds S) := by
  unfold pBi pLen pMM pMx
  repeat' (first | exact True.intro | exact mkL_noEx _ _ _ | exact mkT_noEx _ _ | split)
end
end Wc

/-! Wc: calls as expressions: built-ins, isinstance, the text's defs. -/
namespace Wc
open PySem PySem.Spec PyProof.Rows L2
section
variable {G : Gd} {X : Cx} {B : Tb} {C : Cal} {Wx : WX} {e : Expr} {es : List Expr} {ies : IEs} {pos p : Pos} {x : Str}
theorem rPs_at {p : List D → Sto → R D} (hp : ∀ ds S, noEx (p ds S)) {σ : L2.St} {H : Hp} {Q : VK} (h : tE G (fun ρ S => (evEs B C ies ρ S).bind fun ds S1 => p ds S1) Wx σ H Q) : tCB (rPs G p) (tA G (evEs B C ies) Wx) σ H Q := by
  obtain ⟨W, ρ, S, rl, en, q⟩ := h
  refine ⟨W, ρ, S, rl, en, (Aft.bind (rel := fun W' v d => RDs G W' v d) q).imp (fun v H1 ⟨d, S1, W1, r1, x1, k1, a1⟩ => ?_) fun _ _ _ z => z⟩
  exact ⟨W1, S1, d, r1, k1, a1.noEx (hp _ _)⟩
theorem sE_biB {m : Bool} {b : Bi} {id : String} (hK : X.K = G.K) (hc : X.calm = true) (hu : X.A.units + 65 < cLine) (hid : (biId b).2 = .builtin id) (hg : Gl X x) (hm : X.mg x = none) (hv : bootBuiltins x = some (.builtin id)) (hn : x ≠ "__name__") (hdb : (x == ("__debug__" : Str)) = false)
    (ha : PAv G X B C Wx (e :: es) ies) (he : starEach (e :: es) X.env = (false, eval e X.env) :: starEach es X.env) (hpl : (backTo pos (starEach es X.env)).any (·.1) = false) : PEv G X B C Wx (.Call (.Name x p) (e :: es) [] pos) (.bi m b ies) := by
  have cr := cr_bi (G := G) (m := m) hK hc hu b
  rw [hid] at cr
  exact pe_imp (pe_callB cr hg hm hv ha hn hdb he hpl) fun σ H Q h => rPs_at (fun ds S => pBi_noEx m b ds S) h
theorem sE_biT {m : Bool} {b : Bi} {id : String} (hK : X.K = G.K) (hc : X.calm = true) (hu : X.A.units + 65 < cLine) (hid : (biId b).2 = .type id) (hg : Gl X x) (hm : X.mg x = none) (hv : bootBuiltins x = some (.type id)) (hn : x ≠ "__name__") (hdb : (x == ("__debug__" : Str)) = false)
    (ha : PAv G X B C Wx (e :: es) ies) (he : starEach (e :: es) X.env = (false, eval e X.env) :: starEach es X.env) (hpl : (backTo pos (starEach es X.env)).any (·.1) = false) : PEv G X B C Wx (.Call (.Name x p) (e :: es) [] pos) (.bi m b ies) := by
  have cr := cr_bi (G := G) (m := m) hK hc hu b
  rw [hid] at cr
  exact pe_imp (pe_callTy cr hg hm hv ha hn hdb he hpl) fun σ H Q h => rPs_at (fun ds S => pBi_noEx m b ds S) h
/-! isinstance of a built-in class -/
def clT : Cl → String
  | .int => "int" | .bool => "bool" | .str => "str" | .list => "list" | .tuple => "tuple" | .dict => "dict" | .own _ => "?"
theorem kit_tab (c : Cl) (hc : ∀ k, c ≠ .own k) : kitB "NoneType" (clT c) = some false ∧ kitB "bool" (clT c) = some (ci c == 0 || ci c == 1) ∧ kitB "int" (clT c) = some (ci c == 0) ∧
    kitB "str" (clT c) = some (ci c == 2) ∧ kitB "list" (clT c) = some (ci c == 3) ∧ kitB "tuple" (clT c) = some (ci c == 4) ∧ kitB "dict" (clT c) = some (ci c == 5) := by
  cases c with
  | own k => exact absurd rfl (hc k)
  | _ => exact ⟨by decide +kernel, by decide +kernel, by decide +kernel, by decide +kernel, by decide +kernel, by decide +kernel, by decide +kernel⟩
theorem isiB_ok {K : PySem.W.Frag} {sub : Nat → Nat → Bool} {H : Hp} {W : Wd} {S : Sto} {v : V} {d : D} {c : Cl} {b : Bool} (hK : K = G.K) (hc : ∀ k, c ≠ .own k) (rl : Rel G H W S) (k : RD G W v d) (e : isiB sub S d c = some b) :
    ∃ t : String, TyX K H v (.type t) ∧ kitB t (clT c) = some b := by
  subst hK
  obtain ⟨t1, t2, t3, t4, t5, t6, t7⟩ := kit_tab c hc
  unfold isiB at e
  split at e
  · cases k.non_of; cases e; exact ⟨_, .base .non, t1⟩
  · cases k.bl_of; cases e; exact ⟨_, .base (.bl _), t2⟩
  · cases k.int_of; cases e; exact ⟨_, .base (.int _), t3⟩
  · cases k.str_of; cases e; exact ⟨_, .base (.str _), t4⟩
  · cases k with
    | t k => cases k with | lst h1 h2 => cases e; exact ⟨_, .base (.lst (rl.sub _ _ h1)), t5⟩
  · cases k with
    | t k =>
      cases k with
      | scr h =>
        cases e
        rcases rl.sub.seq h with (h | ⟨o, h⟩) | ⟨o, its, n, h1, h2, _⟩
        · exact ⟨_, .base (.lst h), t5⟩
        · exact ⟨_, .base (.frz h), t5⟩
        · exact ⟨_, .kList h1 h2, t5⟩
  · cases k with
    | t k => cases k with | tup h1 h2 => cases e; exact ⟨_, .base (.tup (rl.sub _ _ h1)), t6⟩
  · cases k with
    | tup h1 h2 => cases e; exact ⟨_, .base (.tup (rl.sub _ _ h1)), t6⟩
  · cases k with
    | t k => cases k with | dct h1 h3 h2 => cases e; exact ⟨_, .base (.dK (rl.sub _ _ h1)), t7⟩
  · cases k with
    | ref h1 =>
      split at e
      · rename_i e1
        cases e
        have ro := rl.obj _ _ _ e1 h1
        cases ro with
        | lst h3 h4 => exact ⟨_, .base (.lst h3), t5⟩
      · rename_i e1
        cases e
        have ro := rl.obj _ _ _ e1 h1
        cases ro with
        | dct h3 h5 h4 => exact ⟨_, .base (.dK h3), t7⟩
      · cases e
  · cases e
def rIsiC (G : Gd) (sub : Nat → Nat → Bool) (c : Cl) : List V → Hp → VK → Prop := fun xs H Q => ∃ W S x d, xs = [x, .ty (clT c)] ∧ Rel G H W S ∧ RD G W x d ∧ Aft G (fun W' v d => RD G W' v d) (fun _ _ _ => False) H W Q (bl (isiB sub S d c) S)
theorem cr_isi {sub : Nat → Nat → Bool} {c : Cl} (hK : X.K = G.K) (hc : ∀ k, c ≠ .own k) : CallR X (.builtin "isinstance") (rIsiC G sub c) := by
  refine callr_imp call_isi fun xs H Q ⟨W, S, x, d, e, rl, k, q⟩ => ?_
  subst e
  obtain ⟨b, e, q⟩ := bl_ok rl q
  obtain ⟨t, h1, h2⟩ := isiB_ok (K := X.K) hK hc rl k e
  exact ⟨x, .ty (clT c), .type t, .type (clT c), b, rfl, .ty _, h1, kit_ty h2, q⟩
theorem sE_isi {a cn : Expr} {ia : IE} {c : Cl} (hK : X.K = G.K) (hc : ∀ k, c ≠ .own k) (hg : Gl X x) (hx : x = "isinstance") (hm : X.mg x = none) (ha : PEv G X B C Wx a ia) (hcn : PE X cn (tC (.ty (clT c))))
    (he : starEach (a :: [cn]) X.env = (false, eval a X.env) :: starEach [cn] X.env) (he2 : starEach [cn] X.env = (false, eval cn X.env) :: starEach [] X.env) (hpl : (backTo pos (starEach [cn] X.env)).any (·.1) = false) :
    PEv G X B C Wx (.Call (.Name x p) [a, cn] [] pos) (.isi ia c) := by
  subst hx
  refine pe_imp (pe_callB (cr_isi (sub := B.sub) (c := c) hK hc) hg hm boot_isinstance (pa_cons ha (pa_cons hcn pa_nil he2) he) (by decide) (by decide) he hpl) fun σ H Q ⟨W, ρ, S, rl, en, q⟩ => ?_
  refine tE_imp (tE_at rl en q) fun v H1 ⟨d, S1, W1, r1, x1, e1, k1, a1⟩ => ?_
  exact ⟨W1, S1, v, d, rfl, r1, k1, a1.noEx (bl_noEx _ _)⟩
/-! the text's defs -/
def spC (G : Gd) (C : Cal) (f n : Nat) : Sp := fun vs H Q E => vs.length = n ∧ ∃ W S ds, Rel G H W S ∧ RDs G W vs ds ∧ Aft G (fun W' v d => RD G W' v d) E H W Q (C f ds S)
structure CalOk (X : Cx) (G : Gd) (C : Cal) (f n : Nat) : Prop where
  ex : ∃ k fd ps, FnOk X.prog X.w X.K X.mg X.base (L2.CX X.prog X.w) k (G.fa f) fd ps (spC G C f n) ∧ Room (k + 1) X.A ∧ Binds X.K fd ps []
  kp : PySem.W.keepIn X.K (.ref (G.fa f)) = true
theorem ExR.mono {H H' : Hp} {W W' : Wd} {c : Nat} {fs : List (Str × T)} {cls : Value} {dx : Option Addr} (h : ExR G H W c fs cls dx) (e : Same W.Hf W'.Hf) : ExR G H W' c fs cls dx := by
  refine ⟨h.1, ?_⟩
  have h2 := h.2
  split at h2
  · exact h2
  · obtain ⟨dd, vs, a, b, c, d⟩ := h2
    exact ⟨dd, vs, a, b, c, RTf.mono e d⟩
theorem callD_ok {m : Bool} {f : Nat} {H : Hp} {W : Wd} {S : Sto} {vs : List V} {ds : List D} {Q : VK} {E : XK} (rl : Rel G H W S) (k : RDs G W vs ds) (q : Aft G (fun W' v d => RD G W' v d) E H W Q (callD C m f ds S)) :
    spC G C f vs.length vs H Q E := by
  refine ⟨rfl, ?_⟩
  unfold callD at q
  cases m with
  | false => exact ⟨W, S, ds, rl, k, q⟩
  | true =>
    rw [if_pos rfl] at q
    cases e : pls ds with
    | none => rw [e] at q; exact q.elim
    | some ts =>
      rw [e] at q
      have e2 := pls_eq e
      subst e2
      refine ⟨⟨W.Hf, []⟩, [], ts.map .t, rl.apartW, RDs.ofT (W := ⟨W.Hf, []⟩) k.toT, ?_⟩
      cases e3 : C f (ts.map .t) [] with
      | no => rw [e3] at q; exact q
      | ex c fs S1 =>
        rw [e3] at q
        intro cls dx H1 W1 r1 x1 k1
        obtain ⟨r2, x2⟩ := rl.back r1 x1
        exact q cls dx H1 _ r2 x2 (k1.mono (H' := H1) (Same.refl _))
      | ok d S1 =>
        rw [e3] at q
        intro v H1 W1 r1 x1 k1
        simp only at q
        split at q
        · rename_i t S2 e4
          obtain ⟨W2, r2, x2, k2, _⟩ := frz_ok 9 r1 k1 e4
          obtain ⟨r3, x3⟩ := rl.back r2 (x1.trans x2)
          exact q v H1 _ r3 x3 (.t k2)
        · exact q.elim
/-- each def that the evaluator knows keeps what it says -/
def Cals (X : Cx) (G : Gd) (B : Tb) (C : Cal) : Prop := ∀ f, B.isf f = true → ∃ n, CalOk X G C f n ∧ ∀ ds S, ds.length ≠ n → C f ds S = .no
theorem callD_no {m : Bool} {f : Nat} {ds : List D} {S : Sto} (h : ∀ S, C f ds S = .no) : callD C m f ds S = .no := by
  unfold callD
  cases m with
  | false => exact h S
  | true =>
    rw [if_pos rfl]
    split
    · rw [h]
    · rfl
theorem argsCall {f n : Nat} {m : Bool} {σ : L2.St} {H : Hp} {Q : VK} {W : Wd} {ρ : Ev} {S : Sto} (rl : Rel G H W S) (en : REn G W σ ρ) (hn : ∀ ds S, ds.length ≠ n → C f ds S = .no)
    (q : Aft G (fun W' v d => RD G W' v d) (fun cls dx H' => Wx cls dx σ H') H W Q ((evEs B C ies ρ S).bind fun ds S1 => callD C m f ds S1)) : tCallS (spC G C f n) (WE Wx) (tA G (evEs B C ies) Wx) σ H Q := by
  cases e : evEs B C ies ρ S with
  | ok ds S1 =>
    rw [e] at q
    refine ⟨W, ρ, S, rl, en, ?_⟩
    rw [e]
    intro vs H1 W1 r1 x1 k1
    by_cases hl : ds.length = n
    · have h2 := callD_ok r1 k1 (Aft.move q x1)
      rw [k1.length, hl] at h2
      exact h2
    · have q : Aft G (fun W' v d => RD G W' v d) (fun cls dx H' => Wx cls dx σ H') H W Q (callD C m f ds S1) := q
      rw [callD_no fun S => hn ds S hl] at q
      exact q.elim
  | ex c fs S1 => exact ⟨W, ρ, S, rl, en, by rw [e] at q ⊢; exact q⟩
  | no => rw [e] at q; exact q.elim
/-- a call of a def at a known place -/
theorem sE_call {m : Bool} {f n : Nat} (F : CalOk X G C f n) (hn : ∀ ds S, ds.length ≠ n → C f ds S = .no) (tk : Takes X Wx) (hg : Gl X x) (hm : X.mg x = some (.ref (G.fa f))) (ha : PAv G X B C Wx (e :: es) ies) (hdb : (x == ("__debug__" : Str)) = false)
    (he : starEach (e :: es) X.env = (false, eval e X.env) :: starEach es X.env) (hpl : (backTo pos (starEach es X.env)).any (·.1) = false) : PEv G X B C Wx (.Call (.Name x p) (e :: es) [] pos) (.call m f ies) := by
  obtain ⟨k, fd, ps, F1, hr, hb⟩ := F.ex
  exact pe_imp (pe_callS F1 (hr.mono (Nat.le_succ _)) hg hm F.kp hb (passAt tk) ha hdb he hpl) fun σ H Q ⟨W, ρ, S, rl, en, q⟩ => argsCall rl en hn q
theorem sE_call0 {m : Bool} {f : Nat} (F : CalOk X G C f 0) (tk : Takes X Wx) (hg : Gl X x) (hm : X.mg x = some (.ref (G.fa f))) (hdb : (x == ("__debug__" : Str)) = false) : PEv G X B C Wx (.Call (.Name x p) [] [] pos) (.call m f .nil) := by
  obtain ⟨k, fd, ps, F1, hr, hb⟩ := F.ex
  refine ⟨fun pins s σ H Q I h => ?_⟩
  obtain ⟨W, ρ, S, rl, en, q⟩ := h
  refine wpAny_Call_Name_kw (ld_glob I hg hm ?_ hdb)
  refine PySem.W.callWith_K0 I.kIn F.kp (run_fnS (us := []) (E := WE Wx) F1 (hr.mono (Nat.le_succ _)) hb (passAt tk σ) I .nil ?_)
  exact callD_ok (vs := []) rl .nil q
/-- a def held by a name, called -/
theorem sE_cv {m : Bool} {i : Nat} (F : Cals X G B C) (tk : Takes X Wx) (hN : X.N[i]? = some x) (hv : Vis X.env.scope x) (ha : PAv G X B C Wx (e :: es) ies) (hdb : (x == ("__debug__" : Str)) = false) (hcd : (x == ("__classdict__" : Str)) = false)
    (he : starEach (e :: es) X.env = (false, eval e X.env) :: starEach es X.env) (hpl : (backTo pos (starEach es X.env)).any (·.1) = false) : PEv G X B C Wx (.Call (.Name x p) (e :: es) [] pos) (.cv m i ies) := by
  refine ⟨fun pins s σ H Q I h => ?_⟩
  obtain ⟨W, ρ, S, rl, en, q⟩ := h
  unfold evE at q
  split at q
  · rename_i f hf
    split at q
    · rename_i hisf
      obtain ⟨n, F1, hn⟩ := F f hisf
      obtain ⟨k, fd, ps, F2, hr, hb⟩ := F1.ex
      obtain ⟨v, hv1, hv2⟩ := en.at_ i _ hf
      cases hv2 with
      | t hv2 =>
        cases hv2
        have h2 := argsCall (m := m) rl en hn q
        refine wpAny_Call_Name_kw (thn ((pe_var (pos := p) hN hv hdb hcd).run pins s σ H (fun v H1 => v = .ref (G.fa f) ∧ H1 = H) I ⟨_, hv1, rfl, rfl⟩) fun u s1 ⟨v, H1, I1, r1, q1⟩ => ?_)
        obtain ⟨rfl, rfl⟩ := q1
        cases r1
        refine PySem.W.callWith_K (h₀ := X.base) I.ok.mod.kin F1.kp (thn (ha.run pos pins s1 σ _ _ I1 h2) fun us s2 ⟨vs, H2, I2, r, q⟩ => ⟨I2.kIn, ?_⟩) he hpl
        exact run_fnS F2 (hr.mono (Nat.le_succ _)) hb (passAt tk σ) I2 r q
    · exact q.elim
  · exact q.elim
end
end Wc

/-! Wc: sorted of triples by a key that a def tells. -/
namespace PySem.W
open PySem PySem.Calls PyProof.Rows
section
variable {prog : Program} {w : World} {A : Around} {E : Value → Shared → Prop} {s : Shared} {a kS : Addr} {b : Bool} {vs : List Value} {e1 : Nat} {P : PySem.Fin → Shared → Prop}
theorem keyI_rest {f : Value} (J : Nat → Shared → List Value → Prop) (hZ : vs.length ≤ sizeLine) (J0 : J 0 s []) (nk : ∀ j s' ks, J j s' ks → ks.length = j ∧ ∃ e, s'.heap.get? kS = some (seqObj "list" ks.toArray e))
    (turn : ∀ j x s' ks, vs[j]? = some x → J j s' ks → wpAny (model prog w) A (call f [x]) (fun v s2 => (∃ e, s2.heap.get? kS = some (seqObj "list" ks.toArray e)) ∧
      ∀ h', Heap.SameBut kS s2.heap h' → (∃ e', h'.get? kS = some (seqObj "list" (ks ++ [v]).toArray e')) → J (j + 1) { s2 with heap := h' } (ks ++ [v])) (fun _ _ => False) s')
    (done : ∀ s' ks, J vs.length s' ks → wpAny (model prog w) A (ksk_end a b vs.toArray e1 (.ref kS) ks.toArray) P E s') :
    wpAny (model prog w) A (ksk_rest a f b vs.toArray e1 (.ref kS)) P E s := by
  unfold ksk_rest
  refine wpAny_bind (wpAny_rule ?_)
  first
    | rw [List.forIn_toArray]
    | (rw [← Array.forIn_toList]; simp only [List.toList_toArray])
    | rw [← Array.forIn_toList]
  refine wpAny_bind (ksk_fold (fun i s' => ∃ ks, J i s' ks) vs 0 s ⟨[], J0⟩ ?step ?done)
  case step =>
    rintro j x s' hx ⟨ks, hJ⟩
    simp only [Nat.zero_add] at hJ ⊢
    have hj : j < vs.length := (List.getElem?_eq_some_iff.mp hx).1
    refine wpAny_bind (wpAny_attempt (wpAny_mono (turn j x s' ks hx hJ) (fun v s'' he => ?_) fun _ _ hF => hF.elim))
    obtain ⟨⟨e, he1⟩, he2⟩ := he
    have hl : ks.toArray.size = j := by rw [List.size_toArray]; exact (nk j s' ks hJ).1
    try dsimp only
    have s1 := Heap.SameBut.update s''.heap kS (Obj.mapSeq (·.push v))
    obtain ⟨c2, hc2⟩ : ∃ c2, (s''.heap.update kS (Obj.mapSeq (·.push v))).get? kS = some (seqObj "list" (ks.toArray.push v) c2) := ⟨_, get?_update_seq he1 (·.push v)⟩
    refine wpAny_bind (listUpdate_at he1 rfl ?_ (by rw [hl]; omega) (Nat.le_trans (Nat.le_of_eq (Array.size_push ..)) (by rw [hl]; omega)))
    exact wpAny_pure ⟨rfl, _, he2 _ s1 ⟨c2, by rw [hc2]; simp⟩⟩
  case done =>
    rintro s' ⟨ks, hJ⟩
    rw [Nat.zero_add] at hJ
    obtain ⟨_, e, he⟩ := nk _ s' ks hJ
    try dsimp only
    refine wpAny_bind (listItems_at he rfl ?_)
    exact done s' ks hJ
theorem keyI_tree {f : Value} {n : Nat} (ho : s.heap.get? a = some (seqObj "list" vs.toArray n)) (hZ : vs.length ≤ sizeLine)
    (h : ∀ e1 kS h', (∀ b o, b ≠ a → s.heap.get? b = some o → h'.get? b = some o) → s.heap.objs.size ≤ kS → h'.get? a = some (seqObj "list" #[] e1) → h'.get? kS = some (seqObj "list" #[] 0) →
      wpAny (model prog w) A (ksk_rest a f b vs.toArray e1 (.ref kS)) P E { s with heap := h' }) :
    wpAny (model prog w) A (ksk_tree a f b) P E s := by
  obtain ⟨e1, ho1⟩ : ∃ e1, (s.heap.update a (Obj.mapSeq fun _ => (#[] : Array Value))).get? a = some (seqObj "list" #[] e1) := ⟨_, get?_update_seq ho fun _ => #[]⟩
  unfold ksk_tree
  refine wpAny_bind (listItems_at ho rfl ?_)
  refine wpAny_bind (listUpdate_at ho rfl ?_ (by rw [List.size_toArray]; exact hZ) (Nat.zero_le _))
  refine wpAny_bind (seqEpoch_at ho1 rfl ?_)
  refine wpAny_bind (wpAny_newTuple ?_ (by show vs.length ≤ _; exact hZ))
  refine wpAny_bind (wpAny_newList ?_ (Nat.zero_le _))
  refine wpAny_holding ?_
  have hkS : ((s.heap.update a (Obj.mapSeq fun _ => (#[] : Array Value))).push (seqObj "tuple" vs.toArray 0)).objs.size = s.heap.objs.size + 1 := by rw [size_push', Heap.size_update]
  exact h e1 _ (((s.heap.update a (Obj.mapSeq fun _ => (#[] : Array Value))).push (seqObj "tuple" vs.toArray 0)).push (seqObj "list" #[] 0)) (fun b o hb q => sortingHeap_old hb q) (by rw [hkS]; exact Nat.le_succ _) (Heap.get?_push_of_some _ (Heap.get?_push_of_some _ ho1)) (Heap.get?_push_size _ rfl)
end
end PySem.W
namespace Wc
open PySem PySem.Spec PyProof.Rows L2
section
variable {G : Gd} {X : Cx} {B : Tb} {C : Cal} {Wx : WX}
def rSky (G : Gd) (C : Cal) (m : Bool) (f : Nat) : List V → List V → Hp → VK → Prop := fun xs zs H Q => zs = [V.ref (G.fa f)] ∧ ∃ W S d x, xs = [x] ∧ Rel G H W S ∧ RD G W x d ∧ Aft G (fun W' v d => RD G W' v d) (fun _ _ _ => False) H W Q (pSky m C f d S)
/-- while the keys are made -/
structure KJ (X : Cx) (G : Gd) (pins : List (Addr × Obj)) (σ : L2.St) (H0 : Hp) (W0 : Wd) (S : Sto) (ps : List A3) (a kS : Addr) (e1 : Nat) (j : Nat) (s' : Shared) (ks : List Value) (Hn : Hp) (Wn : Wd) : Prop where
  inv : Inv X pins σ Hn s'
  rel : Rel G Hn Wn S
  ext : Ext H0 W0 Hn Wn
  at3 : At3 Hn ps
  fk : Hn kS = none
  fa : Hn a = none
  ok : s'.heap.get? a = some (seqObj "list" #[] e1)
  kk : ∃ e, s'.heap.get? kS = some (seqObj "list" ks.toArray e)
  len : ks.length = j
  keys : ∀ (i : Nat) (v : Value) (p : A3), ks[i]? = some v → ps[i]? = some p → ∃ t, v = Value.ref t ∧ Hn t = some (.tup [.int p.2.2.1, .int p.2.1])
theorem each_keys3 {P : Program} {w : World} {H : Hp} {h : Heap} (ok : HOk P w H h) : ∀ {ps : List A3} {ks : List Value}, ks.length = ps.length →
    (∀ (i : Nat) (v : Value) (p : A3), ks[i]? = some v → ps[i]? = some p → ∃ t, v = Value.ref t ∧ H t = some (.tup [.int p.2.2.1, .int p.2.1])) → PySem.W.EachIs (fun v d => ∃ as, Reads h v d as) ks (ps.map key3)
  | [], [], _, _ => .nil
  | [], _ :: _, hl, _ => by simp at hl
  | _ :: _, [], hl, _ => by simp at hl
  | p :: ps, v :: ks, hl, h => by
    obtain ⟨t, rfl, ht⟩ := h 0 v p rfl rfl
    exact .cons ⟨[], reads_ints (ns := [p.2.2.1, p.2.1]) ok ht⟩ (each_keys3 ok (by simpa using hl) fun i v q h1 h2 => h (i + 1) v q (by simpa using h1) (by simpa using h2))
/-- sorted, the keys told by what is called -/
theorem sortK_run {m : Bool} {kq : Addr} {pins : List (Addr × Obj)} {s : Shared} {σ : L2.St} {H : Hp} {W : Wd} {S : Sto} {d : Wc.D} {x : V} {u1 : Value} {ts : List I3} {Q : VK} {Wz : Value → Option Addr → Hp → Prop} (hu : X.A.units + 65 < cLine) (I : Inv X pins σ H s) (rl : Rel G H W S) (k : RD G W x d) (rx : L2.RelV x u1)
    (e : (asList S d).bind trisD = some ts) (q : Aft G (fun W' v d => RD G W' v d) Wz H W Q (mkL m ((ts.mergeSort le3k).map fun n => .t (tri n)) S))
    (hcall : ∀ (s' : Shared) (Hn : Hp) (Wn : Wd) (p : A3), p.2 ∈ ts → Inv X pins σ Hn s' → Rel G Hn Wn S → Ext H W Hn Wn → RD G Wn (V.ref p.1) (.t (tri p.2)) →
      codeAny (model X.prog X.w) X.A.in1.in1 (.call (.ref kq) ⟨[Value.ref p.1], []⟩) (CR (L2.CX X.prog X.w) X.stack X.prog X.w Hn s' (fun v H' => ∃ W', Rel G H' W' S ∧ Ext Hn Wn H' W' ∧ RD G W' v (.t (.tup [.int p.2.2.1, .int p.2.1]))) (fun _ _ _ => False)) s') :
    wpAny (model X.prog X.w) X.A (call (.builtin "sorted") [u1] [(Str.ofString "key", Value.ref kq)]) (EP X pins σ Q) X.xe s := by
  obtain ⟨a0, ps, rfl, ha0, h3, hts, hrd⟩ := asTris_ok rl k e
  obtain rfl : u1 = Value.ref a0 := rx
  obtain ⟨its, rv, hl, hz⟩ := I.list (SqL.of ha0)
  rw [List.length_map] at hz
  have he := each_refs rv
  have hlen : its.length = ps.length := he.length
  have hits : ∀ (i : Nat) (v : Value), its[i]? = some v → ∃ p, ps[i]? = some p ∧ v = Value.ref p.1 := fun i v hv => by
    have hi : i < ps.length := by rw [← hlen]; exact (List.getElem?_eq_some_iff.mp hv).1
    obtain ⟨u, hu1, hu2⟩ := rv.get (i := i) (x := V.ref (ps[i]).1) (by rw [List.getElem?_map, List.getElem?_eq_getElem hi]; rfl)
    rw [hv] at hu1
    cases hu1
    exact ⟨ps[i], List.getElem?_eq_getElem hi, hu2⟩
  refine PySem.W.sorted_of_sort (kw := [(Str.ofString "key", Value.ref kq)]) hl.isList (by rw [hlen]; exact hz) (ksk_s1 _ _) (fun _ => ksk_l1 _ _) fun E' => ?_
  rw [ksk_t1]
  generalize hA : s.heap.objs.size + 1 = a
  have hca : (PySem.W.copyHeap s.heap its).get? a = some (seqObj "list" its.toArray 0) := by rw [← hA]; exact PySem.W.copyHeap_at _ _
  have hold : ∀ b o, s.heap.get? b = some o → (PySem.W.copyHeap s.heap its).get? b = some o := fun b o q => PySem.W.copyHeap_old q
  have ha1 : s.heap.objs.size ≤ a := by omega
  refine PySem.W.keyI_tree (s := { s with heap := PySem.W.copyHeap s.heap its }) hca (by rw [hlen]; exact hz) fun e1 kS h5 k5 hkS0 na5 nk5 => ?_
  have hkS0 : (PySem.W.copyHeap s.heap its).objs.size ≤ kS := hkS0
  have hkS : s.heap.objs.size ≤ kS := by
    have hsz : s.heap.objs.size ≤ (PySem.W.copyHeap s.heap its).objs.size := by
      exact Nat.le_trans ha1 (Nat.le_of_lt (Heap.lt_size hca))
    exact Nat.le_trans hsz hkS0
  have hka : kS ≠ a := fun z => by
    have h1 := Heap.lt_size hca
    rw [z] at hkS0
    exact Nat.lt_irrefl _ (Nat.lt_of_lt_of_le h1 hkS0)
  have I5 : Inv X pins σ H { s with heap := h5 } := I.kept (t' := s.toks) fun b o e => k5 b o (Nat.ne_of_lt (Nat.lt_of_lt_of_le (Heap.lt_size e) ha1)) (hold b o e)
  have nofr : ∀ c, s.heap.objs.size ≤ c → c ∉ frs X.stack := fun c hc z => by
    rcases List.mem_cons.mp (I.stkSub _ z) with e | e
    · have h1 := I.lt
      rw [← e] at h1
      exact Nat.lt_irrefl _ (Nat.lt_of_lt_of_le h1 hc)
    · exact I.nofs hc e
  refine PySem.W.keyI_rest (J := fun j s' ks => ∃ Hn Wn, KJ X G pins σ H W S ps a kS e1 j s' ks Hn Wn) (by rw [hlen]; exact hz) ⟨H, W, I5, rl, Ext.refl, h3, I.hok.fresh hkS, I.hok.fresh ha1, na5, ⟨0, nk5⟩, rfl, fun i v p hv => by simp at hv⟩ (fun j s' ks ⟨Hn, Wn, hj⟩ => ⟨hj.len, hj.kk⟩) ?turn ?done
  case turn =>
    rintro j x s' ks hx ⟨Hn, Wn, hj⟩
    obtain ⟨p, hp, rfl⟩ := hits j x hx
    have hmem := List.mem_of_getElem? hp
    refine wpAny_call (codeAny_mono (hcall s' Hn Wn p (by rw [← hts]; exact List.mem_map.mpr ⟨p, hmem, rfl⟩) hj.inv hj.rel hj.ext ((hrd p hmem).mono hj.ext)) fun r s2 hq => ?_)
    cases r with
    | error ee =>
      obtain ⟨a', B', H', cls, d', -, -, -, -, -, -, -, hE⟩ := hq
      exact hE.elim
    | ok fl =>
      cases fl with
      | next => exact False.elim hq
      | brk => exact False.elim hq
      | cont => exact False.elim hq
      | ret u =>
        have I2' := hj.inv.after hq
        obtain ⟨v, H', os, bare, un, hok, rvu, W', rl2, x2, k2⟩ := hq
        obtain ⟨ke, hke⟩ := hj.kk
        have hk2 := un.keep kS _ hke hj.fk (nofr kS hkS) (by simp)
        have ha2 := un.keep a _ hj.ok hj.fa (nofr a ha1) (by simp)
        have fk2 := un.free kS _ hke hj.fk (by simp)
        have fa2 := un.free a _ hj.ok hj.fa (by simp)
        have I2 : Inv X pins σ H' s2 := by
          obtain ⟨hh, g, dd, tt, os'⟩ := s2
          obtain rfl : os' = s'.os := os
          exact hj.inv.call (h' := hh) (g' := g) (d' := dd) (t' := tt) (ch := []) un hok bare (fun b z => absurd z (by simp))
        refine ⟨⟨ke, hk2⟩, fun h' sb hk' => ⟨H', W', ?_, rl2, hj.ext.trans x2, fun p hp => un.tups _ _ (hj.at3 p hp), fk2, fa2, (sb.2 a hka.symm).trans ha2, hk', by rw [List.length_append, hj.len]; rfl, fun i v' p' h1 h2 => ?_⟩⟩
        · obtain ⟨f1, f2, f3, f4, f5, f6⟩ := I.fpOk (H' := H') hkS fk2
          exact I2.turned (t' := s2.toks) (h' := h') (it := kS) (fun b o hb e => (sb.2 b hb).trans e) fk2 f2 f4 f5 f6
        · by_cases hi : i < ks.length
          · rw [List.getElem?_append_left hi] at h1
            obtain ⟨t, e1, e2⟩ := hj.keys i v' p' h1 h2
            exact ⟨t, e1, un.tups _ _ e2⟩
          · have hi2 := (List.getElem?_eq_some_iff.mp h1).1
            rw [List.length_append, List.length_singleton] at hi2
            have e : i = ks.length := by omega
            subst e
            rw [List.getElem?_append_right (Nat.le_refl _), Nat.sub_self] at h1
            have h1 : some u = some v' := h1
            cases h1
            rw [hj.len] at h2
            rw [hp] at h2
            cases h2
            cases k2 with
            | t k2 =>
              cases k2 with
              | tup g1 g2 =>
                cases g2 with
                | cons g3 g4 =>
                  cases g4 with
                  | cons g5 g6 =>
                    cases g3; cases g5; cases g6
                    exact ⟨_, rvu, rl2.sub _ _ g1⟩
  case done =>
    rintro s' ks ⟨Hn, Wn, hj⟩
    have hkl : ks.length = ps.length := by rw [hj.len, hlen]
    have hk' := each_keys3 hj.inv.hok hkl hj.keys
    have hal : PySem.W.AllAlike (ps.map key3) := PySem.W.AllAlike.of fun b b' => by simp [key3, PySem.W.alike, PySem.W.alikeAll]
    have hsk : PySem.W.Sortable (ps.map key3) := PySem.W.Sortable.tuples fun b => ⟨_, _, rfl⟩
    obtain ⟨ke, hke⟩ := hj.kk
    have S5 : PySem.W.SortsAt X.prog X.w X.A.in1.in1 s' (PySem.W.dataKind s'.heap (ps.map key3)) ks.toArray.toList := by
      refine PySem.W.SortsAt.data (s := s') hk' hal hsk (PySem.W.bound_map fun p _ => ?_)
      have : (key3 p).depth = 1 := by simp [key3, PyData.depth, PyData.depthAll]
      rw [this]
      show X.A.units + 1 + 1 + 1 < cLine
      omega
    refine PySem.W.keyH_end (h₁ := PySem.W.hideAll s'.heap [kS]) (fun b o _ e => PySem.W.of_hideAll _ e) (PySem.W.hideAll_none _ (by simp)) hke hj.ok hka S5 (by rw [List.size_toArray, hkl, hlen]) (by rw [hlen]; exact hz) fun h' tk c kp n3 => ⟨rfl, ?_⟩
    have ko : PySem.W.KeyedOut false (ps.map key3) its (PySem.W.sortVals (PySem.W.dataKind s'.heap (ps.map key3)) false ks.toArray.toList its) := ⟨s'.heap, ks.toArray.toList, hal, rfl, hk'⟩
    have ho := PySem.W.keyedOut_each key3 ko he
    rw [dataLe3k] at ho
    generalize PySem.W.sortVals (PySem.W.dataKind s'.heap (ps.map key3)) false ks.toArray.toList its = out at *
    have kp2 : ∀ b o, b ≠ a → b ≠ kS → s'.heap.get? b = some o → h'.get? b = some o := fun b o h1 h2 e => kp b o h1 (PySem.W.hideAll_get _ e (by simpa using h2))
    obtain ⟨f1, f2, f3, f4, f5, f6⟩ := I.fpOk (H' := Hn) hkS hj.fk
    obtain ⟨g1, g2, g3, g4, g5, g6⟩ := I.fpOk (H' := Hn) ha1 hj.fa
    have nH : ∀ b u, Hn b = some u → b ≠ a ∧ b ≠ kS := fun b u e => ⟨(fun z => by rw [z, hj.fa] at e; cases e), (fun z => by rw [z, hj.fk] at e; cases e)⟩
    have up : ∀ b u, Hn b = some u → upd Hn a (.lst ((ps.mergeSort fun x y => le3k x.2 y.2).map fun p => V.ref p.1)) b = some u := fun b u e => by rw [upd_ne (nH b u e).1]; exact e
    have hsort : ∀ {t : Nat}, Inv X pins σ (upd Hn a (.lst ((ps.mergeSort fun x y => le3k x.2 y.2).map fun p => V.ref p.1))) { s' with heap := h', toks := t } := by
      intro t
      refine hj.inv.step (g' := s'.gens) (d' := s'.drawn) (ch := [a, kS]) (fun b hb => ?_) (fun b ob _ _ hc e _ => kp2 b ob (fun z => hc (by simp [z])) (fun z => hc (by simp [z])) e) (fun b ob _ _ hc e _ => ⟨ob.slots, kp2 b ob (fun z => hc (by simp [z])) (fun z => hc (by simp [z])) e⟩)
        (fun b ob hc _ n => by rw [upd_ne (fun z => hc (by simp [z]))]; exact n) (fun b ob hc e => ⟨ob, kp2 b ob (fun z => hc (by simp [z])) (fun z => hc (by simp [z])) e⟩) (fun b _ e => up b _ e) (fun b _ _ e => up b _ e) (fun b ps e => ⟨#[], by rw [up b _ e]; simp⟩) (fun m hm => ?_) (fun b u e => ?_) hj.inv.bare
      · rcases List.mem_cons.mp hb with rfl | hb
        · exact ⟨g4, g2, g5, g6⟩
        · rw [List.mem_singleton] at hb
          subst hb
          exact ⟨f4, f2, f5, f6⟩
      · obtain ⟨o, es, ep, ho1, rr⟩ := hm
        exact ⟨o, es, ep, kp2 _ o (Ne.symm g2) (Ne.symm f2) ho1, rr⟩
      · by_cases hba : b = a
        · subst hba
          rw [upd_same] at e
          cases e
          exact ⟨by rw [List.length_map, List.length_mergeSort]; exact hz, out, c, vals_refs ho, n3⟩
        · rw [upd_ne hba] at e
          refine (hj.inv.hok b u e).stay (fun c v hc q => ?_) (fun c q => up c _ q) fun c xs q => up c _ q
          rcases hc with z | z
          · subst z; exact kp2 _ v (nH _ u e).1 (nH _ u e).2 q
          · exact kp2 c v (nH c _ z).1 (nH c _ z).2 q
    have q2 := Aft.move q hj.ext
    exact ⟨.ref a, _, hsort (t := tk), rfl, mkL_ok hj.rel (tris_sorted le3k hts fun p hp => (hrd p hp).mono hj.ext) q2 a hj.fa⟩
theorem cr_sortedF {m : Bool} {f : Nat} (F : CalOk X G C f 1) (hu : X.A.units + 65 < cLine) : CallRK X (.builtin "sorted") [Str.ofString "key"] (rSky G C m f) := by
  intro pins s σ H xs zs us ws Q I r rz h
  obtain ⟨rfl, W, S, d, x, rfl, rl, k, q⟩ := h
  obtain ⟨u1, rfl, rx⟩ := vals1 r
  obtain ⟨w1, rfl, rw1⟩ := vals1 rz
  obtain rfl : w1 = Value.ref (G.fa f) := rw1
  unfold pSky at q
  split at q
  case h_2 => exact q.elim
  rename_i ts e
  split at q
  case isFalse => exact q.elim
  rename_i hkey
  obtain ⟨kd, fd, pn, F1, hr, hb⟩ := F.ex
  refine sortK_run hu I rl k rx e q fun s' Hn Wn p hp hi hrel _ hrd => ?_
  obtain ⟨S1, hC⟩ := hkey p.2 (List.mem_cons_of_mem _ hp)
  have hcd : callD C true f [.t (tri p.2)] S = .ok (.t (.tup [.int p.2.2.1, .int p.2.1])) S := by
    unfold callD
    rw [if_pos rfl]
    have e1 : pls [D.t (tri p.2)] = some [tri p.2] := rfl
    rw [e1]
    simp only
    rw [hC]
    rfl
  have krd : RDs G Wn [V.ref p.1] [.t (tri p.2)] := .cons hrd .nil
  have hs : spC G C f 1 [V.ref p.1] Hn (fun v H' => ∃ W', Rel G H' W' S ∧ Ext Hn Wn H' W' ∧ RD G W' v (.t (.tup [.int p.2.2.1, .int p.2.1]))) (fun _ _ _ => False) :=
    callD_ok (m := true) hrel krd (by rw [hcd]; exact fun v H' W' r x k => ⟨W', r, x, k⟩)
  have r1 : Vals [V.ref p.1] [Value.ref p.1] := .cons rfl .nil
  have hlp : [Value.ref p.1].length = pn.length := F1.len _ _ _ _ hs
  have hroom : Room kd X.A.in1.in1 := ⟨hr.hd, by have := hr.dp; show X.A.depth + 3 * kd + 5 < _; omega, by have := hr.un; show X.A.units + 1 + 1 + 16 * kd + 200 < _; omega⟩
  exact F1.run X.A.in1.in1 X.stack s' Hn ⟨[Value.ref p.1], []⟩ [Value.ref p.1] [V.ref p.1] _ _ hroom hi.env0.in1.in1 (hb s' [Value.ref p.1] hi.kIn hlp) r1 hs
theorem pSky_noEx (m : Bool) (f : Nat) (x : D) (S : Sto) : noEx (pSky m C f x S) := by
  unfold pSky
  repeat' (first | exact True.intro | exact mkL_noEx _ _ _ | split)
theorem sE_sky {m : Bool} {f : Nat} {a : Expr} {ia : IE} {z : Str} {p p2 pos kp : Pos} (F : Cals X G B C) (hf : B.isf f = true) (hu : X.A.units + 65 < cLine) (g1 : Gl X "sorted") (m1 : X.mg "sorted" = none) (hz : PE X (.Name z p2) (tC (.ref (G.fa f)))) (ha : PEv G X B C Wx a ia)
    (ns : starEach [a] X.env = (false, eval a X.env) :: starEach [] X.env) : PEv G X B C Wx (.Call (.Name "sorted" p) [a] [⟨some "key", .Name z p2, kp⟩] pos) (.sky m f ia) := by
  obtain ⟨n, F1, hn⟩ := F f hf
  by_cases h1 : n = 1
  · subst h1
    refine pe_imp (pe_callBK (cr_sortedF (m := m) F1 hu) g1 m1 boot_sorted (pa_cons ha pa_nil ns) (pk_cons hz pk_nil) (by decide) (by decide) (by rw [ns]; rfl) (by rw [ns]; rfl)) fun σ H Q ⟨W, ρ, S, rl, en, q⟩ => ?_
    have q : Aft G (fun W' v d => RD G W' v d) (fun cls dx H' => Wx cls dx σ H') H W Q ((evE B C ia ρ S).bind fun x S1 => pSky m C f x S1) := q
    refine tE_imp (tE_at rl en q) fun v H1 ⟨d, S1, W1, r1, x1, e1, k1, a1⟩ => ?_
    exact ⟨rfl, W1, S1, d, v, rfl, r1, k1, a1.noEx (pSky_noEx m f d S1)⟩
  · refine ⟨fun pins s σ H Q I ⟨W, ρ, S, rl, en, q⟩ => ?_⟩
    have q : Aft G (fun W' v d => RD G W' v d) (fun cls dx H' => Wx cls dx σ H') H W Q ((evE B C ia ρ S).bind fun x S1 => pSky m C f x S1) := q
    have no : ∀ x S1, pSky m C f x S1 = .no := fun x S1 => by
      unfold pSky
      split
      · rw [if_neg]
        intro h
        obtain ⟨S2, h⟩ := h (0, 0, 0) List.mem_cons_self
        rw [hn [.t (tri (0, 0, 0))] [] (by simpa using Ne.symm h1)] at h
        cases h
      · rfl
    have z : tE G (evE B C ia) Wx σ H fun _ _ => False := ⟨W, ρ, S, rl, en, by
      cases e : evE B C ia ρ S with
      | ok d S1 =>
        rw [e] at q
        have q : Aft G (fun W' v d => RD G W' v d) (fun cls dx H' => Wx cls dx σ H') H W Q (pSky m C f d S1) := q
        rw [no] at q
        exact q.elim
      | ex c fs S1 => rw [e] at q; exact q
      | no => rw [e] at q; exact q⟩
    refine (pe_callBK (r := fun _ _ _ _ => False) (t := tCons (tE G (evE B C ia) Wx) tNil) (tk := tCons (tC (.ref (G.fa f))) tNil) (id := "sorted") (ks := ["key"]) (fun _ _ _ _ _ _ _ _ _ _ _ _ h => h.elim) g1 m1 boot_sorted (pa_cons ha pa_nil ns) (pk_cons hz pk_nil) (by decide) (by decide) (by rw [ns]; rfl) (by rw [ns]; rfl)).run pins s σ H Q I ?_
    exact tE_imp z fun v H1 h => h.elim
end
end Wc

/-! Wc: sorted of triples by a lambda. -/
namespace Wc
open PySem PySem.Spec PyProof.Rows L2
/-- the lambda's parameters: one name -/
def lamPs (h : Str) (p : Pos) : Arguments := ⟨[], [⟨h, none, p⟩], none, [], [], none, []⟩
/-- the def in which we are makes a lambda: its code object, that one's table -/
structure LamAt (G : Gd) (X : Cx) : Prop where
  ex : ∃ c P q, G.lam = some (c, P, q) ∧ X.env.code = .ref c ∧ LamX.TabB X.base X.mg c P ∧ q = X.env.qual ++ "<lambda>"
  rm : Room 0 X.A
theorem bind_lam {h qual : Str} {p : Pos} {body : Expr} {scope : Scope} {pm cdv ctv : Value} {u : Value} : bindArgs (PySem.W.kla_fn "<lambda>" qual (lamPs h p) body scope [] pm cdv ctv) ⟨[u], []⟩ = pure [(h, u)] := by
  have e : seqItems? Value.none = pure none := rfl
  simp [bindArgs, lamPs, PySem.W.kla_fn, e]
section
variable {P : Program} {w : World} {K : PySem.W.Frag} {mg : Str → Option Value} {base : Heap} {A : Around} {outer : List Env} {s : Shared} {H : Hp} {E : XK} {f c' : Addr} {qual h : Str} {p : Pos} {body : Expr} {scope : Scope} {pm ctv u : Value} {v : V} {Q : VK} {t : TE}
/-- a lambda of one parameter is called -/
theorem lam_run (ho : s.heap.get? f = some (PySem.W.kla_obj "<lambda>" qual (lamPs h p) body scope [] pm c' ctv)) (cr : s.heap.CodeRec (.ref c') qual) (Sc : FnScope [h] [h] scope) (hd : A.handled = none) (hdp : A.depth < recursionLimit)
    (e0 : Env0 P w K mg base A outer s H) (r : L2.RelV v u) (hbody : PE (cxOf (L2.CX P w) P w K mg base [h] qual scope f (.ref c') A outer s H E) body t) (ht : t (L2.start [h] [v]) H Q) :
    codeAny (model P w) A (.call (.ref f) ⟨[u], []⟩) (CR (L2.CX P w) outer P w H s Q E) s := by
  have lim : s.heap.NoLimit := e0.mod.nolimit.keeps fun b o e => (e0.bs b o e).1
  have hkind : ∀ y ∈ [h].zip [u], scope.names.lookup y.1 = some .local ∨ (scope.names.lookup y.1 = some .cell ∧ ((cellsFrom (s.heap.objs.size + 1) scope.names []).lookup y.1).isSome = true) := fun ⟨n, v⟩ hy => by
    rcases Sc.par n (List.of_mem_zip hy).1 with q | q
    · exact .inl q
    · exact .inr ⟨q, PySem.W.cellsFrom_some _ _ _ (.inl q)⟩
  refine PySem.W.kla_callFunE hdp ho rfl Sc.co Sc.gen rfl cr ?_
  rw [bind_lam]
  refine wpAny_pure (wpAny_newFunctionEnv_cells (binds := [h].zip [u]) Sc.kind hkind fun env he s1 x => ?_)
  subst he
  refine ⟨lim.keeps x.toInCall.keep, PySem.W.kla_codeExpr ?_⟩
  have I : Inv (cxOf (L2.CX P w) P w K mg base [h] qual scope f (.ref c') A outer s H E) [] (L2.start [h] [v]) H s1 := inv_start (ps := [h]) (us := [u]) (vs := [v]) Sc hd e0 rfl (.cons r .nil) x
  refine wpAny_mono (hbody.run [] s1 (L2.start [h] [v]) H Q I ht) (fun v s' hs => ?_) fun e s' hs => hs
  obtain ⟨v', H', J, rv, q⟩ := hs
  exact ⟨v', H', J.os, J.bare, J.base, J.hok, rv, q⟩
end
section
variable {G : Gd} {X : Cx} {B : Tb} {C : Cal} {Wx : WX} {pins : List (Addr × Obj)} {σ : L2.St} {H : Hp} {s : Shared}
/-- an object that nobody knows of is pinned -/
theorem pin_add {f : Addr} {o : Obj} (I : Inv X pins σ H s) (ho : s.heap.get? f = some o) (hf : H f = none) (hr : f ∉ frs X.stack) (hd : ∀ es ep, o.data ≠ .dict es ep) (hc : ∀ v, o.data ≠ .cell v) : Inv X ((f, o) :: pins) σ H s := by
  have hl : f ≠ X.env.locals := fun z => by
    obtain ⟨m, ⟨o', es, ep, e, d, _⟩, _⟩ := I.loc
    rw [← z, ho] at e
    cases e
    exact hd _ _ d
  have hfs : f ∉ X.fs := fun z => by
    rcases I.ok.stk with e | ⟨e, _⟩
    · exact hr (by rw [e]; exact z)
    · apply hr
      rw [e]
      unfold frs
      rw [List.filterMap_cons]
      split
      · exact z
      · exact List.mem_cons_of_mem _ z
  refine I.pins_of fun p hp => ?_
  rcases List.mem_cons.mp hp with e | hp
  · subst e
    exact ⟨ho, hf, hl, hfs, hc⟩
  · exact I.pin p (List.mem_append_right _ hp)
theorem codeRec_of {c : Addr} {q : Str} (ok : HOk X.prog X.w H s.heap) (h : H c = some (LamX.CodeO c q)) : s.heap.CodeRec (.ref c) q := by
  obtain ⟨⟨oc, vs, t, hoc, hd, hv⟩, _⟩ := ok c _ h
  exact ⟨c, oc, vs, t, rfl, hoc, hd, hv⟩
theorem pIxC (i : Int) (p : Pos) : PlainIx (.Constant (.int i) 0 p) := fun _ _ => rfl
/-- the key, as the lambda tells it -/
def keyE (h : Str) (x0 x1 x2 x3 x4 x5 x6 : Pos) : Expr := .Tuple [.Subscript (.Name h x0) (.Constant (.int 1) 0 x1) x2, .Subscript (.Name h x3) (.Constant (.int 0) 0 x4) x5] 0 x6
def keyI : IE := .tup (.cons (.idx (.v 0) (.c (.int 1))) (.cons (.idx (.v 0) (.c (.int 0))) .nil))
theorem keyI_ev (x : I3) (S : Sto) : evE B C keyI [some (.t (tri x))] S = .ok (.t (.tup [.int x.2.1, .int x.1])) S := by
  unfold keyI
  simp only [evE, evEs, R.bind, List.getElem?_cons_zero]
  rfl
theorem key_pe {X : Cx} {h : Str} {x0 x1 x2 x3 x4 x5 x6 : Pos} (hK : X.K = G.K) (hu : X.A.units + 65 < cLine) (hN : X.N[0]? = some h) (hv : Vis X.env.scope h) (n1 : (h == ("__debug__" : Str)) = false) (n2 : (h == ("__classdict__" : Str)) = false) : PEv G X B C Wx (keyE h x0 x1 x2 x3 x4 x5 x6) keyI := by
  have hx : ∀ (p : Pos), PEv G X B C Wx (.Name h p) (.v 0) := fun p => sE_var (pe_var hN hv n1 n2)
  have hi : ∀ (i : Int) (p : Pos), PEv G X B C Wx (.Constant (.int i) 0 p) (.c (.int i)) := fun i p => sE_con (fun _ => .int _) pe_int
  exact sE_tup (sA_cons (sE_idx hK hu (hx _) (hi _ _) (pIxC _ _)) (sA_cons (sE_idx hK hu (hx _) (hi _ _) (pIxC _ _)) sA_nil rfl) rfl) (by decide)
theorem sE_skl {a : Expr} {ia : IE} {h : Str} {scope : Scope} {x0 x1 x2 x3 x4 x5 x6 hp lp p kp pos : Pos} (L : LamAt G X) (hK : X.K = G.K) (hu : X.A.units + 65 < cLine) (g1 : Gl X "sorted") (m1 : X.mg "sorted" = none) (ha : PEv G X B C Wx a ia) (Sc : FnScope [h] [h] scope) (n1 : (h == ("__debug__" : Str)) = false) (n2 : (h == ("__classdict__" : Str)) = false)
    (hsc : scope.names = [(h, .local)]) (ns : starEach [a] X.env = (false, eval a X.env) :: starEach [] X.env) : PEv G X B C Wx (.Call (.Name "sorted" p) [a] [⟨some "key", .Lambda (lamPs h hp) (keyE h x0 x1 x2 x3 x4 x5 x6) scope lp, kp⟩] pos) (.skl ia) := by
  obtain ⟨c, P, q0, hg, hcode, TB, hq⟩ := L.ex
  refine ⟨fun pins s σ H Q I ⟨W, ρ, S, rl, en, q⟩ => ?_⟩
  have q : Aft G (fun W' v d => RD G W' v d) (fun cls dx H' => Wx cls dx σ H') H W Q ((evE B C ia ρ S).bind fun x S1 => pSkl x S1) := q
  refine wpAny_Call_Name_kw (ld_blt I g1 m1 boot_sorted ?_ (by decide) (by decide))
  refine PyProof.Rows.callWith_kw (thn ((pa_cons ha pa_nil ns).run pos pins s σ H (fun vs H1 => ∃ v, vs = [v] ∧ ∃ d S1 W1, Rel G H1 W1 S1 ∧ Ext H W H1 W1 ∧ REn G W1 σ ρ ∧ RD G W1 v d ∧ Aft G (fun W' v d => RD G W' v d) (fun cls dx H' => Wx cls dx σ H') H1 W1 Q (pSkl d S1)) I (tE_imp (tE_at rl en q) fun v H1 hh => ⟨v, rfl, hh⟩)) fun us s1 ⟨vs, H1, I1, r1, hv⟩ => ?_) (by rw [ns]; rfl) (by rw [ns]; rfl) rfl rfl
  obtain ⟨v, rfl, d, S1, W1, rl1, x1', e1, k1, a1⟩ := hv
  show wpAny _ _ (evalAll ((do let v ← eval (.Lambda (lamPs h hp) (keyE h x0 x1 x2 x3 x4 x5 x6) scope lp) X.env; standAt pos; pure v) :: [])) _ _ s1
  refine wpAny_evalAll_cons (wpAny_bind ?_)
  have hcl : cloFrom X.env.cells scope.names [] = [] := by rw [hsc]; rfl
  have htb : G.tb = [(P, q0)] := by unfold Gd.tb; rw [hg]
  have hT : LamX.Tabs G.tb H1 := rl1.tab.t
  refine LamX.lam_make2 I1 TB hcode (by rw [htb, hq]; exact List.mem_cons_self) (fun p hp _ => by rw [htb] at hp; rw [List.mem_singleton.mp hp]; exact hq) hT rfl (fun y hy e => by rw [hsc] at hy; rw [List.mem_singleton.mp hy] at e; cases e) fun f c' pm ctv H2 s2 I2 eN T2 ho hf hfr hco => ?_
  rw [hcl] at ho
  refine wpAny_bind (wpAny_standAt (wpAny_pure ?_))
  refine wpAny_evalAll_nil ?_
  have rl2 := rl1.laterN eN T2
  have x2 : Ext H1 W1 H2 W1 := Ext.laterN eN
  have a2 := a1.move x2
  obtain ⟨u1, rfl, ru⟩ := vals1 r1
  have I3 := pin_add I2 ho hf hfr (fun _ _ z => by cases z) (fun _ z => by cases z)
  unfold pSkl at a2
  split at a2
  case h_2 => exact a2.elim
  rename_i ts e
  refine wpAny_mono (sortK_run (kq := f) hu I3 rl2 (k1.mono x2) ru e a2 fun s' Hn Wn p hp hi hrel hext hrd => ?_) (fun v s' hh => ?_) fun e s' h => h
  · have hcF : c' ∉ W1.F := fun z => by
      have z2 := rl2.tab.f c' z _ hco
      cases z2
    have hcn : Hn c' = some (LamX.CodeO c' (X.env.qual ++ "<lambda>")) := hext.old c' _ hco hcF fun _ z => by cases z
    refine lam_run (ClX.pin_at hi) (codeRec_of hi.hok hcn) Sc L.rm.hd L.rm.depth hi.env0.in1.in1 (v := V.ref p.1) (show L2.RelV (V.ref p.1) (Value.ref p.1) from rfl) (key_pe (B := B) (C := C) (Wx := fun _ _ _ _ => False) hK ?_ rfl (.inl (by show scope.names.lookup h = some .local; rw [hsc]; simp)) n1 n2) ⟨Wn, [some (.t (tri p.2))], S1, hrel, ⟨rfl, fun i d hd => ?_⟩, ?_⟩
    · have := L.rm.un
      show X.A.units + 1 + 1 + 3 + 65 < _
      omega
    · cases i with
      | zero =>
        cases hd
        exact ⟨V.ref p.1, rfl, hrd⟩
      | succ i => cases hd
    · show Aft G _ _ Hn Wn _ (evE B C keyI [some (.t (tri p.2))] S1)
      rw [keyI_ev]
      exact fun v H' W' r x k => ⟨W', r, x, k⟩
  · obtain ⟨v', H', J, rv, qq⟩ := hh
    exact ⟨v', H', ClX.unpin J, rv, qq⟩
end
end Wc

/-! ### the set of a list of whole numbers, with what its order asks -/
namespace Wc
open PySem PySem.Spec PyProof.Rows L2
/-- a set that was just made -/
abbrev nSet (w : World) : Obj := { cls := .type "set", dict := none, data := .set #[] 0 (.fresh 0 0 (!w.params.followText "set-order")) }
abbrev lIt (l : Addr) : Obj := { cls := .type "list_iterator", data := .fields #[.ref l, .int 0 0] }
section
variable {P : Program} {w : World} {A : Around} {E : Value → Shared → Prop} {s : Shared}
set_option maxHeartbeats 0 in
theorem mkSetL {l : Addr} {xs : Array Value} (ns : List Int) {Q : Value → Shared → Prop} (nh : A.handled = none) (isl : s.heap.IsList l xs) (hin : IntsAre xs.toList ns) (few : ns.length + 1 < scanBound)
    (q : ∀ (g : Heap) (tk c : Nat), SetR w g s.heap.objs.size (fun j => decide (j ∈ ns)) c → c ≤ ns.length → (∀ b o, s.heap.get? b = some o → g.get? b = some o) → Q (.ref s.heap.objs.size) { s with heap := g, toks := tk }) :
    wpAny (model P w) A (call (.type "set") [.ref l]) Q E s := by
  have xl : xs.size = ns.length := by rw [← Array.length_toList]; exact hin.length
  obtain ⟨cc, tt, hm0⟩ := F.called_set.mro
  have hm1 := F.called_set.made
  have hm2 := F.called_set.sub
  have hm3 := F.called_set.notType
  have hm4 := F.called_set.canCreate
  have hm5 := F.typeCall_set_1 (.ref l)
  apply wpAny_call
  apply codeAny_of_tree
  show wpAny _ _ (callAny (.type "set") _) _ _ _
  apply wpAny_pure
  refine ⟨Code.quiet_builtin _ (by decide +kernel), ?_⟩
  apply codeAny_builtin F.entry_type_call
  rw [Around.under_plain (weight_type_call_type "set" [.ref l] []) rfl]
  repeat (any_goals (first | assumption | wp_step))
  apply codeAny_mono (code_set_led1 (.ref l) (E := E) (Q₁ := fun x s1 => x = .ref s.heap.objs.size ∧ s1 = { s with heap := s.heap.push (nSet w) }) ⟨rfl, rfl⟩)
  rintro (e | fl) s1 he
  · exact he
  · cases fl with
    | ret x =>
      obtain ⟨rfl, rfl⟩ := he
      have g0 : (s.heap.push (nSet w)).get? s.heap.objs.size = some (nSet w) := Heap.get?_push_size _ rfl
      have ty : Shared.TypeIs { s with heap := s.heap.push (nSet w) } (.ref s.heap.objs.size) "set" := ⟨_, g0, rfl⟩
      have i1 := F.called_set.init.lookup
      have i2 := F.called_set.init.bind (.ref s.heap.objs.size)
      repeat (any_goals (first | assumption | wp_step))
      apply codeAny_mono (codeAny_call_builtin (R := wants (fun r s2 => r = .none ∧ ∃ g tk c, s2 = { s with heap := g, toks := tk } ∧ SetR w g s.heap.objs.size (fun j => decide (j ∈ ns)) c ∧ c ≤ ns.length ∧ (∀ b o, s.heap.get? b = some o → g.get? b = some o)) E)
        F.called_set.init.plain F.entry_set_init (check_set_init_1 ty ?_))
      · rintro (e | f2) s2 h2
        · exact h2
        · cases f2 with
          | ret r =>
            obtain ⟨rfl, g, tk, c, rfl, r1, r2, r3⟩ := h2
            repeat (any_goals (first | assumption | wp_step))
            exact q _ _ _ r1 r2 r3
          | _ => exact h2.elim
      · obtain ⟨⟨k0, k1, k2, k3⟩, ol, oc, on, od⟩ := isl
        simp only at oc od
        subst oc od
        have ol' := Heap.get?_push_of_some (nSet w) ol
        have ll : (s.heap.push (nSet w)).IsList l xs := ⟨_, ol', rfl, on, rfl⟩
        have f1 := F.sub_list_set
        have f2 := F.sub_list_frozenset
        have f3 : (Value.type "list" == Value.type "dict") = false := rfl
        unfold Builtin.«set.__init__» noKeywords Builtin.Frozenset.updateFrom
        generalize hy : pyIter = yy
        wp_walk
        subst hy
        apply wpAny_pyIter_list ll
        apply wpAny_bind
        apply wpAny_runValue
        have lt := Heap.lt_size ol
        have a3 : A.in1.in1.in1.handled = none := by simp [nh]
        have z1 : (s.heap.push (nSet w)).objs.size = s.heap.objs.size + 1 := Heap.size_push ..
        have ne : l ≠ (s.heap.push (nSet w)).objs.size := by rw [z1]; exact Nat.ne_of_lt (Nat.lt_succ_of_lt lt)
        have at' : ∀ (i : Nat) (v : Value), xs[i]? = some v → ∃ k t, ns[i]? = some k ∧ v = .int k t := fun i v hv => by
          have hi : i < ns.length := by rw [← xl]; exact (Array.getElem?_eq_some_iff.mp hv).1
          obtain ⟨t, e⟩ := hin.int_at i v (by rw [Array.getElem?_toList]; exact hv)
          exact ⟨ns[i], t, List.getElem?_eq_getElem hi, by rw [e, List.getD_eq_getElem?_getD, List.getElem?_eq_getElem hi]; rfl⟩
        have nin : s.heap.objs.size ∉ [(s.heap.push (nSet w)).objs.size, l] := by
          rw [z1]
          intro m
          rw [List.mem_cons, List.mem_singleton] at m
          rcases m with m | m
          · exact absurd m (by omega)
          · exact absurd (show l = s.heap.objs.size from m.symm) (Nat.ne_of_lt lt)
        refine set_update_ints (Walks.list a3 _ l ne xs).toS s.heap.objs.size nin ns xl few at' (xs.size - 0) 0 _ (by omega) (Nat.zero_le _) ⟨⟨_, Heap.get?_push_size _ rfl, rfl, rfl⟩, ll.push _⟩ ⟨0, Nat.le_refl 0, setR_new_at (Heap.get?_push_of_some _ g0)⟩ ?_
        rintro ⟨g, gs, dd, tk, os⟩ c mv cl sr
        have eg : gs = s.gens := mv.gens
        have ed : dd = s.drawn := mv.drawn
        have eo : os = s.os := mv.os
        subst eg ed eo
        show wpAny _ _ _ _ _ _
        apply wpAny_pure
        show wpAny _ _ (ret Value.none) _ _ _
        apply wpAny_pure
        refine ⟨rfl, g, tk, c, rfl, sr, by omega, fun b o e => ?_⟩
        have lb := Heap.lt_size e
        refine mv.heap b o (fun m => ?_) (Heap.get?_push_of_some _ (Heap.get?_push_of_some _ e))
        rw [z1] at m
        rw [List.mem_cons, List.mem_singleton] at m
        rcases m with m | m
        · exact absurd m (Nat.ne_of_lt lb)
        · exact absurd m (Nat.ne_of_lt (Nat.lt_succ_of_lt lb))
    | _ => exact he.elim
end
theorem ddI_mem (k : Int) : ∀ l : List Int, k ∈ ddI l ↔ k ∈ l
  | [] => Iff.rfl
  | a :: l => by
    have ih := ddI_mem k l
    show k ∈ (if a ∈ ddI l then ddI l else a :: ddI l) ↔ _
    have ia := ddI_mem a l
    split
    · rename_i h
      rw [ih, List.mem_cons]
      exact ⟨.inr, fun q => q.elim (fun e => by rw [e]; exact ia.mp h) id⟩
    · rw [List.mem_cons, List.mem_cons, ih]
theorem ddI_nodup : ∀ l : List Int, (ddI l).Nodup
  | [] => List.nodup_nil
  | a :: l => by
    show (if a ∈ ddI l then ddI l else a :: ddI l).Nodup
    split
    · exact ddI_nodup l
    · rename_i h
      exact List.nodup_cons.mpr ⟨h, ddI_nodup l⟩
section
variable {G : Gd} {X : Cx} {B : Tb} {C : Cal} {Wx : WX} {pos : Pos}
theorem pe_sss {a : Expr} {ta : TE} {p p2 p3 : Pos} (hc : X.calm = true) (g1 : Gl X "sorted") (m1 : X.mg "sorted" = none) (g2 : Gl X "set") (m2 : X.mg "set" = none) (ha : PE X a ta) (ns : starEach [a] X.env = (false, eval a X.env) :: starEach [] X.env) :
    PE X (.Call (.Name "sorted" p) [.Call (.Name "set" p2) [a] [] p3] [] pos) (fun σ H Q => ta σ H fun x H1 => ∃ l is, x = .ref l ∧ SqL X.K H1 l (is.map V.int) ∧ is.length ≤ 4000 ∧ (ddI is).length < 4096 ∧ ∀ q, H1 q = none → Q (.ref q) (upd H1 q (.lst ((srtI (ddI is)).map V.int)))) := by
  constructor
  intro pins s σ H Q I h
  refine Call_ ?_
  apply ld_blt I g1 m1 boot_sorted
  apply callWith_builtin1 _ rfl rfl
  apply args_cons _ rfl
  refine Call_ ?_
  apply ld_blt I g2 m2 boot_set
  apply callWith_type1 _ ns rfl
  apply args_cons _ ns
  apply thn (ha.run pins s σ H _ I h)
  rintro v s1 ⟨x, H1, I1, r1, q1⟩
  apply args_nil
  obtain ⟨l, is, rfl, hq, hl, h64, q1⟩ := q1
  cases r1
  obtain ⟨its, r, pl, hz⟩ := I1.list hq
  refine mkSetL is (I1.ok.hd hc) pl.isList (by simpa using r.ints) (by unfold scanBound; omega) fun g tk c R c1 k => ?_
  apply args_nil
  have I2 : Inv X pins σ H1 { s1 with heap := g, toks := tk } := I1.kept fun b o e => k b o e
  have hn : c = (ddI is).length := by
    obtain ⟨o, es, ep, t, _, _, _, _, nd, hm, _, _, e, _⟩ := R
    rw [← e, ← Array.length_toList, ← List.length_map (f := keyOf)]
    refine ((List.perm_ext_iff_of_nodup nd (ddI_nodup is)).mpr fun k => ?_).length_eq
    rw [ddI_mem, ← hm k, decide_eq_true_eq]
  refine sorted_setA R (I2.ok.hd hc) (by omega) fun s' q out cc ms k' gs os hp hg hi hs hm hl => ?_
  have em : ms = srtI (ddI is) := by
    have nd : ms.Nodup := hs.imp fun h => by omega
    refine srt_uniq (((List.perm_ext_iff_of_nodup nd (ddI_nodup is)).mpr fun k => ?_).trans (srtI_perm _).symm) (hs.imp fun h => by omega) (srtI_srt _)
    rw [ddI_mem, hm k, decide_eq_true_eq]
  have fr : H1 q = none := I2.hok.fresh hp
  have ll : (ms.map V.int).length ≤ sizeLine := by rw [List.length_map, hl, sizeLine_eq]; omega
  have J : Inv X pins σ (upd H1 q (.lst (ms.map V.int))) { ({ s1 with heap := g, toks := tk } : Shared) with heap := s'.heap, gens := s'.gens, drawn := s'.drawn, toks := s'.toks } :=
    I2.call (ch := []) (Un.laid k' hp fr) (I2.hok.laid k' hp ⟨ll, out.toList, cc, vals_of_ints hi, hg⟩) (by rw [gs]; exact I2.bare) (fun _ z => nomatch z)
  have es : s' = { s1 with heap := s'.heap, gens := s'.gens, drawn := s'.drawn, toks := s'.toks } := by
    cases s'; cases s1; cases os; rfl
  rw [es]
  rw [em] at J
  exact ⟨.ref q, _, J, rfl, q1 q fr⟩
theorem sE_sss {a : Expr} {ia : IE} {p p2 p3 : Pos} (hK : X.K = G.K) (hc : X.calm = true) (g1 : Gl X "sorted") (m1 : X.mg "sorted" = none) (g2 : Gl X "set") (m2 : X.mg "set" = none) (ha : PEv G X B C Wx a ia) (ns : starEach [a] X.env = (false, eval a X.env) :: starEach [] X.env) :
    PEv G X B C Wx (.Call (.Name "sorted" p) [.Call (.Name "set" p2) [a] [] p3] [] pos) (.sss ia) :=
  pe_imp (pe_sss hc g1 m1 g2 m2 ha ns) fun σ H Q ⟨W, ρ, S, rl, en, q⟩ => by
    have q : Aft G (fun W' v d => RD G W' v d) (fun cls dx H' => Wx cls dx σ H') H W Q ((evE B C ia ρ S).bind fun x S1 => pSss x S1) := q
    refine tE_imp (tE_at rl en q) fun v H1 ⟨d, S1, W1, r1, x1, e1, k1, a1⟩ => ?_
    unfold pSss at a1
    split at a1
    · rename_i is e
      obtain ⟨l, rfl, h1⟩ := asInts_ok r1 k1 e
      split at a1
      · rename_i h
        exact ⟨l, is, rfl, SqL.of h1, h.1, h.2, fun q hq => mkL_ok r1 (RDs.intsT _) a1 q hq⟩
      · exact a1.elim
    · exact a1.elim
theorem pe_lss {a : Expr} {ta : TE} {p p2 p3 : Pos} (hc : X.calm = true) (g1 : Gl X "len") (m1 : X.mg "len" = none) (g2 : Gl X "set") (m2 : X.mg "set" = none) (ha : PE X a ta) (ns : starEach [a] X.env = (false, eval a X.env) :: starEach [] X.env) :
    PE X (.Call (.Name "len" p) [.Call (.Name "set" p2) [a] [] p3] [] pos) (fun σ H Q => ta σ H fun x H1 => ∃ l is, x = .ref l ∧ SqL X.K H1 l (is.map V.int) ∧ is.length ≤ 4000 ∧ Q (.int ((ddI is).length : Nat)) H1) := by
  constructor
  intro pins s σ H Q I h
  refine Call_ ?_
  apply ld_blt I g1 m1 PySem.boot_len
  apply callWith_builtin1 _ rfl rfl
  apply args_cons _ rfl
  refine Call_ ?_
  apply ld_blt I g2 m2 boot_set
  apply callWith_type1 _ ns rfl
  apply args_cons _ ns
  apply thn (ha.run pins s σ H _ I h)
  rintro v s1 ⟨x, H1, I1, r1, q1⟩
  apply args_nil
  obtain ⟨l, is, rfl, hq, hl, q1⟩ := q1
  cases r1
  obtain ⟨its, r, pl, hz⟩ := I1.list hq
  refine mkSetL is (I1.ok.hd hc) pl.isList (by simpa using r.ints) (by unfold scanBound; omega) fun g tk c R c1 k => ?_
  apply args_nil
  have I2 : Inv X pins σ H1 { s1 with heap := g, toks := tk } := I1.kept fun b o e => k b o e
  obtain ⟨o, es, ep, t, ho, hex, hd, _, nd, hm, _, hf, e, _⟩ := R
  have hn : es.size = (ddI is).length := by
    rw [← Array.length_toList, ← List.length_map (f := keyOf)]
    refine ((List.perm_ext_iff_of_nodup nd (ddI_nodup is)).mpr fun k => ?_).length_eq
    rw [ddI_mem, ← hm k, decide_eq_true_eq]
  refine call_len_set ho hex hd hf (by omega) ⟨.int (ddI is).length, H1, I2.tok _, ⟨_, by rw [hn]⟩, q1⟩
theorem sE_lss {a : Expr} {ia : IE} {p p2 p3 : Pos} (hK : X.K = G.K) (hc : X.calm = true) (g1 : Gl X "len") (m1 : X.mg "len" = none) (g2 : Gl X "set") (m2 : X.mg "set" = none) (ha : PEv G X B C Wx a ia) (ns : starEach [a] X.env = (false, eval a X.env) :: starEach [] X.env) :
    PEv G X B C Wx (.Call (.Name "len" p) [.Call (.Name "set" p2) [a] [] p3] [] pos) (.lss ia) :=
  pe_imp (pe_lss hc g1 m1 g2 m2 ha ns) fun σ H Q ⟨W, ρ, S, rl, en, q⟩ => by
    have q : Aft G (fun W' v d => RD G W' v d) (fun cls dx H' => Wx cls dx σ H') H W Q ((evE B C ia ρ S).bind fun x S1 => pLss x S1) := q
    refine tE_imp (tE_at rl en q) fun v H1 ⟨d, S1, W1, r1, x1, e1, k1, a1⟩ => ?_
    unfold pLss at a1
    split at a1
    · rename_i is e
      obtain ⟨l, rfl, h1⟩ := asInts_ok r1 k1 e
      split at a1
      · rename_i h
        exact ⟨l, is, rfl, SqL.of h1, h, a1 _ _ _ r1 Ext.refl (.t (.int _))⟩
      · exact a1.elim
    · exact a1.elim
end
end Wc

/-! Wc: methods of built-in kinds. -/
namespace Wc
open PySem PySem.Spec PyProof.Rows L2
def bmOk : Bm → Bool
  | .append => true | .index => true | .join => true | .split => true | .startswith => true | .extend => true | .insert => true | .find => true
  | _ => false
/-- without arguments -/
def bmOk0 : Bm → Bool
  | .popL => true | .clear => true | .reverse => true | .upper => true
  | _ => false
def bmN : Bm → Str
  | .append => "append" | .index => "index" | .join => "join" | .split => "split" | .startswith => "startswith" | .extend => "extend" | .insert => "insert"
  | .popL => "pop" | .clear => "clear" | .reverse => "reverse" | .find => "find" | .upper => "upper"
  | _ => "?"
def knd : Nat → String
  | 3 => "list" | 5 => "dict" | 2 => "str" | 0 => "int" | _ => "?"
def bmId : Bm → String
  | .append => "list.append" | .index => "list.index" | .join => "str.join" | .split => "str.split" | .startswith => "str.startswith" | .extend => "list.extend" | .insert => "list.insert"
  | .popL => "list.pop" | .clear => "list.clear" | .reverse => "list.reverse" | .find => "str.find" | .upper => "str.upper"
  | _ => "?"
section
variable {G : Gd} {X : Cx} {B : Tb} {C : Cal} {Wx : WX}
theorem kindD_ok {K : PySem.W.Frag} {H : Hp} {W : Wd} {S : Sto} {v : V} {d : D} {n : Nat} (hK : K = G.K) (rl : Rel G H W S) (k : RD G W v d) (e : kindD S d = n) (hn : n ≠ 9) : tyV K (knd n) v H := by
  subst hK; subst e
  unfold kindD at hn ⊢
  split at hn
  · cases k.str_of; rfl
  · cases k.int_of; rfl
  · cases k with
    | t k => cases k with | lst h1 h2 => exact .inl ⟨rfl, _, .inl (.inl (rl.sub _ _ h1))⟩
  · cases k with
    | t k => cases k with | dct h1 h3 h2 => exact .inr (.inr (.inl ⟨rfl, .inl ⟨_, rl.sub _ _ h1⟩⟩))
  · cases k with
    | ref h1 =>
      split at hn
      · rename_i e1
        have ro := rl.obj _ _ _ e1 h1
        cases ro with
        | lst h3 h4 => exact .inl ⟨rfl, _, .inl (.inl h3)⟩
      · rename_i e1
        have ro := rl.obj _ _ _ e1 h1
        cases ro with
        | dct h3 h5 h4 => exact .inr (.inr (.inl ⟨rfl, .inl ⟨_, h3⟩⟩))
      · exact absurd rfl hn
  · exact absurd rfl hn
theorem pBm_noEx (m : Bool) (b : Bm) (x : D) (ds : List D) (S : Sto) : noEx (pBm m b x ds S) := by
  unfold pBm pApp pInd pJoin pSplit pStarts pExt pIns pPopL pLst0 pGet pSetd setdD pPopD popDD pBits pFind pUpp
  repeat' (first | exact True.intro | exact mkL_noEx _ _ _ | split)
def rBm (G : Gd) (m : Bool) (b : Bm) : V → List V → Hp → VK → Prop := fun x xs H Q => ∃ W S d ds, Rel G H W S ∧ RD G W x d ∧ RDs G W xs ds ∧ Aft G (fun W' v d => RD G W' v d) (fun _ _ _ => False) H W Q (pBm m b d ds S)
theorem mt_app {m : Bool} (hK : X.K = G.K) : MtR X "list.append" (rBm G m .append) := by
  intro pins s σ H x xs v us Q I rx rv h
  obtain ⟨W, S, d, ds, rl, k, ks, q⟩ := h
  have q : Aft G (fun W' v d => RD G W' v d) (fun _ _ _ => False) H W Q (pApp d ds S) := q
  unfold pApp at q
  split at q
  · split at q
    · rename_i ys e1
      split at q
      · rename_i hl
        cases k with
        | ref h1 =>
          have ro := rl.obj _ _ _ e1 h1
          cases ro with
          | lst h3 h4 =>
            obtain ⟨vy, rfl, ky⟩ := RDs.one ks
            have pt := rl.put (u := .lst (_ ++ [vy])) (o := .lst (ys ++ [_])) h1 e1 (fun z => nomatch z) fun H' e => .lst e (h4.append (.cons ky .nil))
            exact mt_append pins s σ H _ _ v us Q I rx rv ⟨_, _, vy, rfl, rfl, h3, by rw [h4.length]; have := lim_le; omega, q _ _ _ pt.1 pt.2 (.t .non)⟩
      · exact q.elim
    · exact q.elim
  · exact q.elim
theorem mt_ind {m : Bool} (hK : X.K = G.K) (hu : X.A.units + 65 < cLine) : MtR X "list.index" (rBm G m .index) := by
  intro pins s σ H x xs v us Q I rx rv h
  obtain ⟨W, S, d, ds, rl, k, ks, q⟩ := h
  have q : Aft G (fun W' v d => RD G W' v d) (fun _ _ _ => False) H W Q (pInd d ds S) := q
  unfold pInd at q
  split at q
  · obtain ⟨vy, rfl, ky⟩ := RDs.one ks
    split at q
    · rename_i zs z e1 e2
      split at q
      · rename_i hs
        rw [Bool.and_eq_true] at hs
        split at q
        · rename_i j ej
          obtain ⟨hj, h1, h2⟩ := List.findIdx?_eq_some_iff_getElem.mp ej
          have dl := look_ok rl k e1
          have dy := look_ok rl ky e2
          have hx : ∃ a, x = .ref a := by cases dl; exact ⟨_, rfl⟩
          obtain ⟨a, rfl⟩ := hx
          refine mt_indexD hu pins s σ H _ _ v us Q I rx rv ⟨a, vy, z, zs, j, zs[j], rfl, rfl, by rw [hK]; exact dl, by rw [hK]; exact dy, hs.2, hs.1, List.getElem?_eq_getElem hj, h1, fun i z' hi e => ?_, q _ _ W rl Ext.refl (.t (.int _))⟩
          have hi2 : i < zs.length := by omega
          rw [List.getElem?_eq_getElem hi2] at e
          cases e
          simpa using h2 i hi
        · exact q.elim
      · exact q.elim
    · exact q.elim
  · exact q.elim
theorem strsD_ok : ∀ {ds : List D} {ys : List Str} {xs : List V} {W : Wd}, strsD ds = some ys → RDs G W xs ds → xs = ys.map V.str
  | [], ys, xs, W, e, h => by cases e; cases h; rfl
  | d :: ds, ys, xs, W, e, h => by
    cases h with
    | cons h1 h2 =>
      cases d with
      | t x =>
        cases x with
        | str b =>
          simp only [strsD, Option.map_eq_some_iff] at e
          obtain ⟨cs, e, rfl⟩ := e
          cases h1.str_of
          rw [strsD_ok e h2]; rfl
        | _ => simp [strsD] at e
      | _ => simp [strsD] at e
theorem mt_joi {m : Bool} (hK : X.K = G.K) : MtR X "str.join" (rBm G m .join) := by
  intro pins s σ H x xs v us Q I rx rv h
  obtain ⟨W, S, d, ds, rl, k, ks, q⟩ := h
  replace q : Aft G (fun W' v d => RD G W' v d) (fun _ _ _ => False) H W Q (pJoin d ds S) := q
  unfold pJoin at q
  split at q
  · rename_i a y
    split at q
    · rename_i ys e
      split at q
      · rename_i hl
        rw [Option.bind_eq_some_iff] at e
        obtain ⟨es, e1, e2⟩ := e
        obtain ⟨vy, rfl, ky⟩ := RDs.one ks
        obtain ⟨p, zs, rfl, h1, h2⟩ := seqOf_ok rl ky e1
        rw [strsD_ok e2 h2] at h1
        cases k.str_of
        exact mt_join pins s σ H _ _ v us Q I rx rv ⟨a, p, ys, rfl, rfl, h1.imp SqL.of SqT.of, by have := lim_le; have e : sizeLine = 16777216 := sizeLine_eq; omega, q _ _ _ rl Ext.refl (.t (.str _))⟩
      · exact q.elim
    · exact q.elim
  · exact q.elim
theorem RDs.strsT {W : Wd} : ∀ ys : List Str, RDs G W (ys.map V.str) (ys.map fun n => .t (.str n))
  | [] => .nil
  | n :: ns => .cons (.t (.str n)) (RDs.strsT ns)
theorem mt_spl {m : Bool} (hK : X.K = G.K) : MtR X "str.split" (rBm G m .split) := by
  intro pins s σ H x xs v us Q I rx rv h
  obtain ⟨W, S, d, ds, rl, k, ks, q⟩ := h
  replace q : Aft G (fun W' v d => RD G W' v d) (fun _ _ _ => False) H W Q (pSplit m d ds S) := q
  unfold pSplit at q
  split at q
  · rename_i a b
    split at q
    · rename_i hl
      obtain ⟨vy, rfl, ky⟩ := RDs.one ks
      cases k.str_of
      cases ky.str_of
      exact mt_split pins s σ H _ _ v us Q I rx rv ⟨a, b, rfl, rfl, hl.1, by have := lim_le; omega, mkL_ok rl (RDs.strsT _) q⟩
    · exact q.elim
  · exact q.elim
theorem mt_sta {m : Bool} (hK : X.K = G.K) : MtR X "str.startswith" (rBm G m .startswith) := by
  intro pins s σ H x xs v us Q I rx rv h
  obtain ⟨W, S, d, ds, rl, k, ks, q⟩ := h
  replace q : Aft G (fun W' v d => RD G W' v d) (fun _ _ _ => False) H W Q (pStarts d ds S) := q
  unfold pStarts at q
  split at q
  · rename_i a b
    obtain ⟨vy, rfl, ky⟩ := RDs.one ks
    cases k.str_of
    cases ky.str_of
    exact mt_startswith pins s σ H _ _ v us Q I rx rv ⟨a, b, rfl, rfl, q _ _ _ rl Ext.refl (.t (.bl _))⟩
  · exact q.elim
theorem mt_fin {m : Bool} (hK : X.K = G.K) : MtR X "str.find" (rBm G m .find) := by
  intro pins s σ H x xs v us Q I rx rv h
  obtain ⟨W, S, d, ds, rl, k, ks, q⟩ := h
  replace q : Aft G (fun W' v d => RD G W' v d) (fun _ _ _ => False) H W Q (pFind d ds S) := q
  unfold pFind at q
  split at q
  · rename_i a b
    obtain ⟨vy, rfl, ky⟩ := RDs.one ks
    cases k.str_of
    cases ky.str_of
    exact mt_find pins s σ H _ _ v us Q I rx rv ⟨a, b, rfl, rfl, q _ _ _ rl Ext.refl (.t (.int _))⟩
  · exact q.elim
theorem mt_upp {m : Bool} (hK : X.K = G.K) : MtR X "str.upper" (rBm G m .upper) := by
  intro pins s σ H x xs v us Q I rx rv h
  obtain ⟨W, S, d, ds, rl, k, ks, q⟩ := h
  replace q : Aft G (fun W' v d => RD G W' v d) (fun _ _ _ => False) H W Q (pUpp d ds S) := q
  unfold pUpp at q
  split at q
  · rename_i a
    split at q
    · rename_i hl
      cases ks
      cases k.str_of
      exact mt_upper pins s σ H _ _ v us Q I rx rv ⟨a, rfl, rfl, by omega, q _ _ _ rl Ext.refl (.t (.str _))⟩
    · exact q.elim
  · exact q.elim
theorem mt_ext {m : Bool} (hK : X.K = G.K) : MtR X "list.extend" (rBm G m .extend) := by
  intro pins s σ H x xs v us Q I rx rv h
  obtain ⟨W, S, d, ds, rl, k, ks, q⟩ := h
  replace q : Aft G (fun W' v d => RD G W' v d) (fun _ _ _ => False) H W Q (pExt d ds S) := q
  unfold pExt at q
  split at q
  · split at q
    · rename_i ys zs e1 e2
      split at q
      · rename_i hl
        cases k with
        | ref h1 =>
          have ro := rl.obj _ _ _ e1 h1
          cases ro with
          | lst h3 h4 =>
            obtain ⟨vy, rfl, ky⟩ := RDs.one ks
            obtain ⟨b, ws, rfl, g1, g2⟩ := asList_ok rl ky e2
            have pt := rl.put (u := .lst (_ ++ ws)) (o := .lst (ys ++ zs)) h1 e1 (fun z => nomatch z) fun H' e => .lst e (h4.append g2)
            exact mt_extend pins s σ H _ _ v us Q I rx rv ⟨_, b, _, ws, rfl, rfl, h3, g1, by rw [h4.length, g2.length]; have := lim_le; omega, q _ _ _ pt.1 pt.2 (.t .non)⟩
      · exact q.elim
    · exact q.elim
  · exact q.elim
theorem RDs.rev {W : Wd} : ∀ {ds : List D} {vs : List V}, RDs G W vs ds → RDs G W vs.reverse ds.reverse
  | [], _, h => by cases h; exact .nil
  | d :: ds, _, h => by
    cases h with
    | cons h1 h2 => rw [List.reverse_cons, List.reverse_cons]; exact (RDs.rev h2).append (.cons h1 .nil)
theorem mt_ins {m : Bool} (hK : X.K = G.K) : MtR X "list.insert" (rBm G m .insert) := by
  intro pins s σ H x xs v us Q I rx rv h
  obtain ⟨W, S, d, ds, rl, k, ks, q⟩ := h
  replace q : Aft G (fun W' v d => RD G W' v d) (fun _ _ _ => False) H W Q (pIns d ds S) := q
  unfold pIns at q
  split at q
  · rename_i i y
    split at q
    · rename_i ys e1
      split at q
      · rename_i hl
        cases k with
        | ref h1 =>
          have ro := rl.obj _ _ _ e1 h1
          cases ro with
          | lst h3 h4 =>
            obtain ⟨vi, vy, rfl, ki, ky⟩ := RDs.two ks
            cases ki.int_of
            have pt := rl.put (u := .lst (List.take i.toNat _ ++ [vy] ++ List.drop i.toNat _)) (o := .lst (ys.take i.toNat ++ [y] ++ ys.drop i.toNat)) h1 e1 (fun z => nomatch z) fun H' e => .lst e (((RDs.take i.toNat h4).append (.cons ky .nil)).append (RDs.drop i.toNat h4))
            exact mt_insert pins s σ H _ _ v us Q I rx rv ⟨_, _, i, vy, rfl, rfl, h3, by rw [h4.length]; have := lim_le; omega, hl.2.1, hl.2.2, q _ _ _ pt.1 pt.2 (.t .non)⟩
      · exact q.elim
    · exact q.elim
  · exact q.elim
theorem RDs.dropLast {W : Wd} {ds : List D} {vs : List V} (h : RDs G W vs ds) : RDs G W vs.dropLast ds.dropLast := by
  rw [List.dropLast_eq_take, List.dropLast_eq_take, h.length]; exact RDs.take _ h
theorem mt_popL {m : Bool} (hK : X.K = G.K) : MtR X "list.pop" (rBm G m .popL) := by
  intro pins s σ H x xs v us Q I rx rv h
  obtain ⟨W, S, d, ds, rl, k, ks, q⟩ := h
  replace q : Aft G (fun W' v d => RD G W' v d) (fun _ _ _ => False) H W Q (pPopL d ds S) := q
  unfold pPopL at q
  split at q
  · split at q
    · rename_i ys e1
      split at q
      · rename_i y ey
        cases ks
        cases k with
        | ref h1 =>
          have ro := rl.obj _ _ _ e1 h1
          cases ro with
          | lst h3 h4 =>
            obtain ⟨vy, g1, g2⟩ := h4.get ey
            have pt := rl.put (u := .lst (List.dropLast _)) (o := .lst ys.dropLast) h1 e1 (fun z => nomatch z) fun H' e => .lst e (RDs.dropLast h4)
            exact mt_pop pins s σ H _ _ v us Q I rx rv ⟨_, _, vy, rfl, rfl, h3, by rw [h4.length]; exact g1, q _ _ _ pt.1 pt.2 (g2.mono pt.2)⟩
      · exact q.elim
    · exact q.elim
  · exact q.elim
theorem mt_clr {m : Bool} (hK : X.K = G.K) : MtR X "list.clear" (rBm G m .clear) := by
  intro pins s σ H x xs v us Q I rx rv h
  obtain ⟨W, S, d, ds, rl, k, ks, q⟩ := h
  replace q : Aft G (fun W' v d => RD G W' v d) (fun _ _ _ => False) H W Q (pLst0 (fun _ => []) d ds S) := q
  unfold pLst0 at q
  split at q
  · split at q
    · rename_i ys e1
      cases ks
      cases k with
      | ref h1 =>
        have ro := rl.obj _ _ _ e1 h1
        cases ro with
        | lst h3 h4 =>
          have pt := rl.put (u := .lst []) (o := .lst []) h1 e1 (fun z => nomatch z) fun H' e => .lst e .nil
          exact mt_clear pins s σ H _ _ v us Q I rx rv ⟨_, _, rfl, rfl, h3, q _ _ _ pt.1 pt.2 (.t .non)⟩
    · exact q.elim
  · exact q.elim
theorem mt_rev {m : Bool} (hK : X.K = G.K) : MtR X "list.reverse" (rBm G m .reverse) := by
  intro pins s σ H x xs v us Q I rx rv h
  obtain ⟨W, S, d, ds, rl, k, ks, q⟩ := h
  replace q : Aft G (fun W' v d => RD G W' v d) (fun _ _ _ => False) H W Q (pLst0 List.reverse d ds S) := q
  unfold pLst0 at q
  split at q
  · split at q
    · rename_i ys e1
      cases ks
      cases k with
      | ref h1 =>
        have ro := rl.obj _ _ _ e1 h1
        cases ro with
        | lst h3 h4 =>
          have pt := rl.put (u := .lst (List.reverse _)) (o := .lst ys.reverse) h1 e1 (fun z => nomatch z) fun H' e => .lst e (RDs.rev h4)
          exact mt_reverse pins s σ H _ _ v us Q I rx rv ⟨_, _, rfl, rfl, h3, q _ _ _ pt.1 pt.2 (.t .non)⟩
    · exact q.elim
  · exact q.elim
theorem mt_all {m : Bool} (hK : X.K = G.K) (hu : X.A.units + 65 < cLine) : ∀ b, bmOk b = true → MtR X (bmId b) (rBm G m b)
  | .append, _ => mt_app hK
  | .index, _ => mt_ind hK hu
  | .join, _ => mt_joi hK
  | .split, _ => mt_spl hK
  | .startswith, _ => mt_sta hK
  | .extend, _ => mt_ext hK
  | .insert, _ => mt_ins hK
  | .find, _ => mt_fin hK
theorem mt_all0 {m : Bool} (hK : X.K = G.K) : ∀ b, bmOk0 b = true → MtR X (bmId b) (rBm G m b)
  | .popL, _ => mt_popL hK
  | .clear, _ => mt_clr hK
  | .reverse, _ => mt_rev hK
  | .upper, _ => mt_upp hK
variable {o e : Expr} {es : List Expr} {io : IE} {ies : IEs} {name : Str} {apos cpos : Pos}
theorem sE_bm {m : Bool} {b : Bm} (hK : X.K = G.K) (hu : X.A.units + 65 < cLine) (hb : bmOk b = true) (pa : PlainAttrs (knd (bmT b))) (slot : Slot (knd (bmT b)) name (bmId b)) (hty : typeOf (.builtin (bmId b)) = pure (.type "method_descriptor"))
    (ho : PEv G X B C Wx o io) (ha : PAv G X B C Wx (e :: es) ies) (hbase : attributeBase o name X.env (eval o X.env) = eval o X.env)
    (hfew : ((backTo cpos (starEach (e :: es) X.env)).all (fun x => !x.1) && (backToKw cpos (keywordEach [] X.env)).all (fun x => x.1.isSome)
      && decide ((e :: es).length + ([] : List Keyword).length + (if ([] : List Keyword).isEmpty then 0 else 1) < 30)) = true)
    (hline : (apos.endLine == cpos.line) = true) (hs : starEach (e :: es) X.env = (false, eval e X.env) :: starEach es X.env) (hplain : (backTo cpos (starEach es X.env)).any (·.1) = false) :
    PEv G X B C Wx (.Call (.Attribute o name apos) (e :: es) [] cpos) (.bm m b io ies) := by
  refine pe_imp (pe_bm pa slot hty (mt_all (m := m) hK hu b hb) ho ha hbase hfew hline hs hplain) fun σ H Q h => ?_
  obtain ⟨W, ρ, S, rl, en, q⟩ := h
  rw [evE] at q
  refine ⟨W, ρ, S, rl, en, (Aft.bind (rel := fun W' v d => RD G W' v d) q).imp (fun v H1 ⟨d, S1, W1, r1, x1, k1, a1⟩ => ?_) fun _ _ _ z => z⟩
  by_cases hk : kindD S1 d = bmT b
  · rw [if_pos hk] at a1
    refine ⟨kindD_ok hK r1 k1 hk (by cases b <;> decide), W1, ρ, S1, r1, en.mono x1, (Aft.bind (rel := fun W' v d => RDs G W' v d) a1).imp (fun us H2 ⟨ds, S2, W2, r2, x2, k2, a2⟩ => ?_) fun _ _ _ z => z⟩
    exact ⟨W2, S2, d, ds, r2, k1.mono x2, k2, a2.noEx (pBm_noEx _ _ _ _ _)⟩
  · rw [if_neg hk] at a1
    exact a1.elim
theorem sE_bm0 {m : Bool} {b : Bm} (hK : X.K = G.K) (hb : bmOk0 b = true) (pa : PlainAttrs (knd (bmT b))) (slot : Slot (knd (bmT b)) name (bmId b)) (hty : typeOf (.builtin (bmId b)) = pure (.type "method_descriptor"))
    (ho : PEv G X B C Wx o io) (hbase : attributeBase o name X.env (eval o X.env) = eval o X.env) (hline : (apos.endLine == cpos.line) = true) : PEv G X B C Wx (.Call (.Attribute o name apos) [] [] cpos) (.bm m b io .nil) := by
  refine pe_imp (pe_bm0 pa slot hty (mt_all0 (m := m) hK b hb) ho hbase hline) fun σ H Q h => ?_
  obtain ⟨W, ρ, S, rl, en, q⟩ := h
  rw [evE] at q
  refine ⟨W, ρ, S, rl, en, (Aft.bind (rel := fun W' v d => RD G W' v d) q).imp (fun v H1 ⟨d, S1, W1, r1, x1, k1, a1⟩ => ?_) fun _ _ _ z => z⟩
  by_cases hk : kindD S1 d = bmT b
  · rw [if_pos hk] at a1
    have a1 : Aft G (fun W' v d => RD G W' v d) (fun cls dx H' => Wx cls dx σ H') H1 W1 Q (pBm m b d [] S1) := a1
    exact ⟨kindD_ok hK r1 k1 hk (by cases b <;> decide), W1, S1, d, [], r1, k1, .nil, a1.noEx (pBm_noEx _ _ _ _ _)⟩
  · rw [if_neg hk] at a1
    exact a1.elim
theorem sE_bits {m : Bool} (ho : PEv G X B C Wx o io) (hbase : attributeBase o "bit_length" X.env (eval o X.env) = eval o X.env) (hline : (apos.endLine == cpos.line) = true) :
    PEv G X B C Wx (.Call (.Attribute o "bit_length" apos) [] [] cpos) (.bm m .bitlen io .nil) := by
  refine pe_imp (pe_bits ho hbase hline) fun σ H Q h => ?_
  obtain ⟨W, ρ, S, rl, en, q⟩ := h
  rw [evE] at q
  refine ⟨W, ρ, S, rl, en, (Aft.bind (rel := fun W' v d => RD G W' v d) q).imp (fun v H1 ⟨d, S1, W1, r1, x1, k1, a1⟩ => ?_) fun _ _ _ z => z⟩
  by_cases hk : kindD S1 d = bmT .bitlen
  · rw [if_pos hk] at a1
    have a1 : Aft G (fun W' v d => RD G W' v d) (fun cls dx H' => Wx cls dx σ H') H1 W1 Q (pBits d [] S1) := a1
    unfold pBits at a1
    split at a1
    · cases k1.int_of
      exact ⟨_, rfl, a1 _ _ _ r1 Ext.refl (.t (.int _))⟩
    · exact a1.elim
  · rw [if_neg hk] at a1
    exact a1.elim
/-! ### dicts -/
theorem dct_at {d : D} {kvs : List (Ky × D)} {H : Hp} {W : Wd} {S : Sto} {v : V} (rl : Rel G H W S) (k : RD G W v d) (e : dctOf S d = some kvs) :
    ∃ a ks, v = .ref a ∧ H a = some (.dK ks) ∧ ks.map (·.1) = kvs.map (·.1) ∧ RDs G W (ks.map (·.2)) (kvs.map (·.2)) := dctOf_ok rl k e
variable {f : Expr}
theorem sE_get {m : Bool} (hu : X.A.units + 1 < cLine) (ho : PEv G X B C Wx o io) {ie jf : IE} (he : PEv G X B C Wx e ie) (hf : PEv G X B C Wx f jf) (hm : M2 X o "get" apos e f cpos) :
    PEv G X B C Wx (.Call (.Attribute o "get" apos) [e, f] [] cpos) (.bm m .get io (.cons ie (.cons jf .nil))) := by
  refine pe_imp (pe_dget2 hu ho he hf hm) fun σ H Q h => ?_
  obtain ⟨W, ρ, S, rl, en, q⟩ := h
  rw [evE] at q
  refine tE_imp (tE_at rl en q) fun v H1 ⟨d, S1, W1, r1, x1, e1, k1, a1⟩ => ?_
  by_cases hk : kindD S1 d = bmT .get
  · rw [if_pos hk] at a1
    have a1 : Aft G (fun W' v d => RD G W' v d) (fun cls dx H' => Wx cls dx σ H') H1 W1 Q ((evE B C ie ρ S1).bind fun y S2 => (evE B C jf ρ S2).bind fun z S3 => pGet d [y, z] S3) := by
      have e : (evEs B C (.cons ie (.cons jf .nil)) ρ S1).bind (fun ds S2 => pBm m .get d ds S2) = (evE B C ie ρ S1).bind fun y S2 => (evE B C jf ρ S2).bind fun z S3 => pGet d [y, z] S3 := by
        show ((evE B C ie ρ S1).bind fun x S1 => ((evE B C jf ρ S1).bind fun y S2 => (R.ok [] S2).bind fun xs S3 => .ok (y :: xs) S3).bind fun xs S2 => .ok (x :: xs) S2).bind _ = _
        cases evE B C ie ρ S1 with
        | ok y S2 =>
          simp only [Wc.R.bind_ok]
          cases evE B C jf ρ S2 <;> rfl
        | _ => rfl
      rw [← e]; exact a1
    obtain ⟨a, rfl, hd⟩ : ∃ a, v = .ref a ∧ IsD H1 a := by
      have ty := kindD_ok (K := G.K) rfl r1 k1 hk (by decide)
      unfold kindD at hk
      split at hk <;> first | (cases hk; done) | skip
      · cases k1 with
        | t k1 => cases k1 with | dct h1 h3 h2 => exact ⟨_, rfl, .inl ⟨_, .inl (r1.sub _ _ h1)⟩⟩
      · split at hk <;> first | (cases hk; done) | skip
        rename_i e0
        cases k1 with
        | ref h1 =>
          have ro := r1.obj _ _ _ e0 h1
          cases ro with
          | dct h3 h5 h4 => exact ⟨_, rfl, .inl ⟨_, .inl h3⟩⟩
    refine ⟨a, rfl, hd, ?_⟩
    refine tE_imp (tE_at r1 e1 a1) fun y H2 ⟨dy, S2, W2, r2, x2, e2, k2, a2⟩ => ?_
    refine tE_imp (tE_at r2 e2 a2) fun z H3 ⟨dz, S3, W3, r3, x3, e3, k3, a3⟩ => ?_
    unfold pGet at a3
    simp only at a3
    split at a3
    · rename_i kvs ky ed ek
      obtain ⟨a', ks, q1, h1, h2, h3⟩ := dctOf_ok r3 ((k1.mono x2).mono x3) ed
      cases q1
      have hv := kyOf_ok (k2.mono x3) ek
      subst hv
      refine ⟨valV ks ky, DGet.k h1, ?_⟩
      rcases getK_ok ky h2 h3 with ⟨g1, g2⟩ | ⟨d', w, g1, g2, g3⟩
      · rw [g1] at a3; rw [g2]; exact a3 _ _ _ r3 Ext.refl k3
      · rw [g1] at a3; rw [g2]; exact a3 _ _ _ r3 Ext.refl g3
    · exact a3.elim
  · rw [if_neg hk] at a1
    exact a1.elim
theorem filter_rel {k : Ky} {W : Wd} : ∀ {ks : List (Key × V)} {ds : List (Ky × D)}, ks.map (·.1) = ds.map (·.1) → RDs G W (ks.map (·.2)) (ds.map (·.2)) →
    (dropK ks k).map (·.1) = (ds.filter fun kv => decide (kv.1 ≠ k)).map (·.1) ∧ RDs G W ((dropK ks k).map (·.2)) ((ds.filter fun kv => decide (kv.1 ≠ k)).map (·.2))
  | [], [], _, _ => ⟨rfl, .nil⟩
  | [], _ :: _, e, _ => by simp at e
  | _ :: _, [], e, _ => by simp at e
  | (a, v) :: ks, (b, d) :: ds, e, r => by
    simp only [List.map_cons, List.cons.injEq] at e
    obtain ⟨e1, e2⟩ := e
    have e1 : a = b := e1
    subst e1
    cases r with
    | cons r1 r2 =>
      obtain ⟨i1, i2⟩ := filter_rel e2 r2
      unfold dropK at i1 i2 ⊢
      rw [List.filter_cons, List.filter_cons]
      by_cases h : a = k
      · rw [if_neg (by simp [h]), if_neg (by simp [h])]; exact ⟨i1, i2⟩
      · rw [if_pos (by simp [h]), if_pos (by simp [h])]
        exact ⟨by simp only [List.map_cons, i1], .cons r1 i2⟩
theorem putKy_rel {W : Wd} {k : Ky} {v : V} {d : D} (kd : RD G W v d) : ∀ {kvs : List (Key × V)} {ds : List (Ky × D)}, kvs.map (·.1) = ds.map (·.1) → RDs G W (kvs.map (·.2)) (ds.map (·.2)) → getK ds k = none →
    (putK kvs k v).map (·.1) = (putKy ds k d).map (·.1) ∧ RDs G W ((putK kvs k v).map (·.2)) ((putKy ds k d).map (·.2)) := by
  intro kvs ds h r hn
  have hno : ∀ q ∈ ds, ¬ q.1 = k := fun q hq e => by
    unfold getK at hn
    rw [Option.map_eq_none_iff, List.find?_eq_none] at hn
    exact hn q hq (by simp [e])
  have hno2 : ∀ q ∈ kvs, ¬ q.1 = k := fun q hq e => by
    have : q.1 ∈ kvs.map (·.1) := List.mem_map_of_mem hq
    rw [h, List.mem_map] at this
    obtain ⟨q2, g1, g2⟩ := this
    exact hno q2 g1 (g2.trans e)
  unfold putK putKy
  rw [if_neg (by simpa using fun x hq => hno2 (k, x) hq rfl), if_neg (by simpa using fun x hq => hno (k, x) hq rfl)]
  rw [List.map_append, List.map_append, List.map_append, List.map_append, h]
  exact ⟨rfl, r.append (.cons kd .nil)⟩
theorem isD_of {m : Bool} {b : Bm} {v : V} {d : D} {H1 : Hp} {W1 : Wd} {S1 : Sto} (r1 : Rel G H1 W1 S1) (k1 : RD G W1 v d) (hk : kindD S1 d = 5) : ∃ a, v = .ref a ∧ IsD H1 a := by
  unfold kindD at hk
  split at hk <;> first | (cases hk; done) | skip
  · cases k1 with
    | t k1 => cases k1 with | dct h1 h3 h2 => exact ⟨_, rfl, .inl ⟨_, .inl (r1.sub _ _ h1)⟩⟩
  · split at hk <;> first | (cases hk; done) | skip
    rename_i e0
    cases k1 with
    | ref h1 =>
      have ro := r1.obj _ _ _ e0 h1
      cases ro with
      | dct h3 h5 h4 => exact ⟨_, rfl, .inl ⟨_, .inl h3⟩⟩
theorem sE_setd {m : Bool} (ho : PEv G X B C Wx o io) {ie jf : IE} (he : PEv G X B C Wx e ie) (hf : PEv G X B C Wx f jf) (hm : M2 X o "setdefault" apos e f cpos) :
    PEv G X B C Wx (.Call (.Attribute o "setdefault" apos) [e, f] [] cpos) (.bm m .setdefault io (.cons ie (.cons jf .nil))) := by
  refine pe_imp (pe_dsetd ho he hf hm) fun σ H Q h => ?_
  obtain ⟨W, ρ, S, rl, en, q⟩ := h
  rw [evE] at q
  refine tE_imp (tE_at rl en q) fun v H1 ⟨d, S1, W1, r1, x1, e1, k1, a1⟩ => ?_
  by_cases hk : kindD S1 d = bmT .setdefault
  · rw [if_pos hk] at a1
    have a1 : Aft G (fun W' v d => RD G W' v d) (fun cls dx H' => Wx cls dx σ H') H1 W1 Q ((evE B C ie ρ S1).bind fun y S2 => (evE B C jf ρ S2).bind fun z S3 => pSetd d [y, z] S3) := by
      have e : (evEs B C (.cons ie (.cons jf .nil)) ρ S1).bind (fun ds S2 => pBm m .setdefault d ds S2) = (evE B C ie ρ S1).bind fun y S2 => (evE B C jf ρ S2).bind fun z S3 => pSetd d [y, z] S3 := by
        show ((evE B C ie ρ S1).bind fun x S1 => ((evE B C jf ρ S1).bind fun y S2 => (R.ok [] S2).bind fun xs S3 => .ok (y :: xs) S3).bind fun xs S2 => .ok (x :: xs) S2).bind _ = _
        cases evE B C ie ρ S1 with
        | ok y S2 =>
          simp only [Wc.R.bind_ok]
          cases evE B C jf ρ S2 <;> rfl
        | _ => rfl
      rw [← e]; exact a1
    obtain ⟨a, rfl, hd⟩ := isD_of (m := m) (b := .setdefault) r1 k1 hk
    refine ⟨a, rfl, hd, ?_⟩
    refine tE_imp (tE_at r1 e1 a1) fun y H2 ⟨dy, S2, W2, r2, x2, e2, k2, a2⟩ => ?_
    refine tE_imp (tE_at r2 e2 a2) fun z H3 ⟨dz, S3, W3, r3, x3, e3, k3, a3⟩ => ?_
    have a3 : Aft G (fun W' v d => RD G W' v d) (fun cls dx H' => Wx cls dx σ H') H3 W3 Q (setdD d dy dz S3) := a3
    unfold setdD at a3
    split at a3
    · rename_i j
      split at a3
      · rename_i kvs ky ed ek
        split at a3
        · rename_i hl
          have kr := (k1.mono x2).mono x3
          cases kr with
          | ref h1 =>
            have ro := r3.obj _ _ _ ed h1
            cases ro with
            | dct h3 h5 h4 =>
              have hv := kyOf_ok (k2.mono x3) ek
              subst hv
              have hl2 := congrArg List.length h5
              simp only [List.length_map] at hl2
              refine ⟨_, ky, h3, rfl, by have := lim_le; omega, fun u hu => ?_, fun hu => ?_⟩
              · rcases getK_ok ky h5 h4 with ⟨g1, g2⟩ | ⟨d', w, g1, g2, g3⟩
                · rw [g2] at hu; cases hu
                · rw [g1] at a3; rw [g2] at hu; cases hu
                  exact a3 _ _ _ r3 Ext.refl g3
              · rcases getK_ok ky h5 h4 with ⟨g1, g2⟩ | ⟨d', w, g1, g2, g3⟩
                · rw [g1] at a3
                  have pk := putKy_rel (k := ky) k3 h5 h4 g1
                  have pt := r3.put (u := .dK (putK _ ky z)) (o := .dct (putKy kvs ky dz)) h1 ed (fun z => nomatch z) fun H' e => .dct e pk.1 pk.2
                  exact a3 _ _ _ pt.1 pt.2 (k3.mono pt.2)
                · rw [g2] at hu; cases hu
        · exact a3.elim
      · exact a3.elim
    · exact a3.elim
  · rw [if_neg hk] at a1
    exact a1.elim
theorem sE_popD {m : Bool} (ho : PEv G X B C Wx o io) {ie : IE} (he : PEv G X B C Wx e ie) (hm : M1 X o "pop" apos e cpos) :
    PEv G X B C Wx (.Call (.Attribute o "pop" apos) [e] [] cpos) (.bm m .popD io (.cons ie .nil)) := by
  refine pe_imp (pe_dpop1 ho he hm) fun σ H Q h => ?_
  obtain ⟨W, ρ, S, rl, en, q⟩ := h
  rw [evE] at q
  refine tE_imp (tE_at rl en q) fun v H1 ⟨d, S1, W1, r1, x1, e1, k1, a1⟩ => ?_
  by_cases hk : kindD S1 d = bmT .popD
  · rw [if_pos hk] at a1
    have a1 : Aft G (fun W' v d => RD G W' v d) (fun cls dx H' => Wx cls dx σ H') H1 W1 Q ((evE B C ie ρ S1).bind fun y S2 => pPopD d [y] S2) := by
      have e : (evEs B C (.cons ie .nil) ρ S1).bind (fun ds S2 => pBm m .popD d ds S2) = (evE B C ie ρ S1).bind fun y S2 => pPopD d [y] S2 := by
        show ((evE B C ie ρ S1).bind fun x S1 => (R.ok [] S1).bind fun xs S2 => .ok (x :: xs) S2).bind _ = _
        cases evE B C ie ρ S1 <;> rfl
      rw [← e]; exact a1
    obtain ⟨a, rfl, hd⟩ := isD_of (m := m) (b := .popD) r1 k1 hk
    refine ⟨a, rfl, hd, ?_⟩
    refine tE_imp (tE_at r1 e1 a1) fun y H2 ⟨dy, S2, W2, r2, x2, e2, k2, a2⟩ => ?_
    have a2 : Aft G (fun W' v d => RD G W' v d) (fun cls dx H' => Wx cls dx σ H') H2 W2 Q (popDD d dy S2) := a2
    unfold popDD at a2
    split at a2
    · rename_i j
      split at a2
      · rename_i kvs ky ed ek
        have kr := k1.mono x2
        cases kr with
        | ref h1 =>
          have ro := r2.obj _ _ _ ed h1
          cases ro with
          | dct h3 h5 h4 =>
            have hv := kyOf_ok k2 ek
            subst hv
            rcases getK_ok ky h5 h4 with ⟨g1, g2⟩ | ⟨d', w, g1, g2, g3⟩
            · rw [g1] at a2; exact a2.elim
            · rw [g1] at a2
              have pk := filter_rel (k := ky) h5 h4
              have pt := r2.put (u := .dK (dropK _ ky)) (o := .dct (kvs.filter fun kv => decide (kv.1 ≠ ky))) h1 ed (fun z => nomatch z) fun H' e => .dct e pk.1 pk.2
              exact ⟨_, ky, w, h3, rfl, g2, a2 _ _ _ pt.1 pt.2 (g3.mono pt.2)⟩
      · exact a2.elim
    · exact a2.elim
  · rw [if_neg hk] at a1
    exact a1.elim
end
end Wc

/-! Wc: expressions that leave the store as it is. -/
namespace Wc
open PySem
theorem R.bind_inv {α β : Type} {r : R α} {f : α → Sto → R β} {b : β} {S' : Sto} (h : r.bind f = .ok b S') : ∃ a S1, r = .ok a S1 ∧ f a S1 = .ok b S' := by
  cases r with
  | ok a S1 => exact ⟨a, S1, rfl, h⟩
  | ex c fs S1 => cases h
  | no => cases h
theorem mkL_pure {ds : List D} {S S' : Sto} {d : D} (h : mkL false ds S = .ok d S') : S' = S := by
  unfold mkL at h
  rw [if_neg (by simp)] at h
  split at h <;> cases h
  rfl
theorem mkT_pure {ds : List D} {S S' : Sto} {d : D} (h : mkT ds S = .ok d S') : S' = S := by
  unfold mkT at h
  split at h <;> cases h <;> rfl
theorem bl_pure {o : Option Bool} {S S' : Sto} {d : D} (h : bl o S = .ok d S') : S' = S := by
  unfold bl at h
  split at h <;> cases h
  rfl
theorem opt_pure {o : Option D} {S S' : Sto} {d : D} (h : opt o S = .ok d S') : S' = S := by
  unfold opt at h
  split at h <;> cases h
  rfl
theorem pAdd_pure {x y : D} {S S' : Sto} {d : D} (h : pAdd false x y S = .ok d S') : S' = S := by
  unfold pAdd at h
  repeat' (first | (cases h; done) | (cases h; rfl) | exact mkL_pure h | split at h)
theorem pBin_pure {op : Operator} {x y : D} {S S' : Sto} {d : D} (h : pBin false op x y S = .ok d S') : S' = S := by
  unfold pBin at h
  split at h
  · exact pAdd_pure h
  · repeat' (first | (cases h; done) | (cases h; rfl) | exact mkL_pure h | split at h)
  · repeat' (first | (cases h; done) | (cases h; rfl) | split at h)
theorem pCmp_pure {op : CmpOp} {x y : D} {S S' : Sto} {d : D} (h : pCmp op x y S = .ok d S') : S' = S := by
  unfold pCmp at h
  repeat' (first | (cases h; done) | (cases h; rfl) | exact bl_pure h | split at h)
theorem pIdx_pure {x y : D} {S S' : Sto} {d : D} (h : pIdx x y S = .ok d S') : S' = S := by
  unfold pIdx at h
  repeat' (first | (cases h; done) | (cases h; rfl) | exact opt_pure h | split at h)
theorem pSl_pure {x : D} {l u : Option Int} {S S' : Sto} {d : D} (h : pSl x l u S = .ok d S') : S' = S := by
  unfold pSl at h
  repeat' (first | (cases h; done) | (cases h; rfl) | exact mkL_pure h | split at h)
theorem pBi_pure {b : Bi} {ds : List D} {S S' : Sto} {d : D} (h : pBi false b ds S = .ok d S') : S' = S := by
  unfold pBi pLen pMM pMx at h
  repeat' (first | (cases h; done) | (cases h; rfl) | exact mkL_pure h | exact mkT_pure h | split at h)
theorem pAtt_pure {B : Tb} {f : Str} {x : D} {S S' : Sto} {d : D} (h : pAtt B f x S = .ok d S') : S' = S := by
  unfold pAtt at h
  repeat' (first | (cases h; done) | exact opt_pure h | split at h)
theorem callD_pure {C : Cal} {f : Nat} {ds : List D} {S S' : Sto} {d : D} (h : callD C true f ds S = .ok d S') : S' = S := by
  unfold callD at h
  rw [if_pos rfl] at h
  repeat' (first | (cases h; done) | (cases h; rfl) | split at h)
theorem lcL_pure {p : Pt} {ρ : Ev} {cond el : Ev → Sto → R D} (hc : ∀ {ρ S S' d}, cond ρ S = .ok d S' → S' = S) (he : ∀ {ρ S S' d}, el ρ S = .ok d S' → S' = S) : ∀ (ds : List D) {S S' : Sto} {acc ys : List D}, lcL p ρ cond el ds S acc = .ok ys S' → S' = S
  | [], S, S', acc, ys, h => by unfold lcL at h; cases h; rfl
  | d :: ds, S, S', acc, ys, h => by
    unfold lcL at h
    split at h
    · cases h
    · split at h
      · rename_i e1
        have q1 := hc e1
        split at h
        · rename_i e2
          have q2 := he e2
          split at h
          · rw [lcL_pure hc he ds h, q2, q1]
          · cases h
        · cases h
      · rename_i e1
        rw [lcL_pure hc he ds h, hc e1]
      · cases h
section
variable {B : Tb} {C : Cal}
mutual
theorem pure_ok : ∀ (e : IE) {ρ : Ev} {S S' : Sto} {d : D}, pureE e = true → evE B C e ρ S = .ok d S' → S' = S
  | .v i, ρ, S, S', d, hp, h => by
    rw [evE] at h
    split at h <;> cases h
    rfl
  | .c t, ρ, S, S', d, hp, h => by rw [evE] at h; cases h; rfl
  | .g x t, ρ, S, S', d, hp, h => by rw [evE] at h; cases h; rfl
  | .nop, ρ, S, S', d, hp, h => by rw [evE] at h; cases h; rfl
  | .bin m op a b, ρ, S, S', d, hp, h => by
    simp only [pureE, Bool.and_eq_true, Bool.not_eq_true'] at hp
    obtain ⟨⟨rfl, h1⟩, h2⟩ := hp
    rw [evE] at h
    obtain ⟨x, S1, e1, h⟩ := R.bind_inv h
    obtain ⟨y, S2, e2, h⟩ := R.bind_inv h
    rw [pBin_pure h, pure_ok b h2 e2, pure_ok a h1 e1]
  | .neg a, ρ, S, S', d, hp, h => by
    rw [evE] at h
    obtain ⟨x, S1, e1, h⟩ := R.bind_inv h
    have := pure_ok a (by simpa [pureE] using hp) e1
    split at h <;> cases h
    exact this
  | .not a, ρ, S, S', d, hp, h => by
    rw [evE] at h
    obtain ⟨x, S1, e1, h⟩ := R.bind_inv h
    have := pure_ok a (by simpa [pureE] using hp) e1
    split at h <;> cases h
    exact this
  | .one a, ρ, S, S', d, hp, h => by
    rw [evE] at h
    exact pure_ok a (by simpa [pureE] using hp) h
  | .cmp op a b, ρ, S, S', d, hp, h => by
    simp only [pureE, Bool.and_eq_true] at hp
    rw [evE] at h
    obtain ⟨x, S1, e1, h⟩ := R.bind_inv h
    obtain ⟨y, S2, e2, h⟩ := R.bind_inv h
    rw [pCmp_pure h, pure_ok b hp.2 e2, pure_ok a hp.1 e1]
  | .ch2 o1 o2 a b c, ρ, S, S', d, hp, h => by
    simp only [pureE, Bool.and_eq_true] at hp
    rw [evE] at h
    obtain ⟨x, S1, e1, g1⟩ := R.bind_inv h
    obtain ⟨y, S2, e2, g2⟩ := R.bind_inv g1
    obtain ⟨k, S3, e3, g3⟩ := R.bind_inv g2
    have q1 := pure_ok a hp.1.1 e1
    have q2 := pure_ok b hp.1.2 e2
    have q3 := pCmp_pure e3
    subst q1 q2 q3
    split at g3
    · obtain ⟨z, S4, e4, g4⟩ := R.bind_inv g3
      rw [pCmp_pure g4, pure_ok c hp.2 e4]
    · cases g3; rfl
    · cases g3
  | .ch3 o1 o2 o3 a b c d', ρ, S, S', d, hp, h => by
    simp only [pureE, Bool.and_eq_true] at hp
    rw [evE] at h
    obtain ⟨x, S1, e1, g1⟩ := R.bind_inv h
    obtain ⟨y, S2, e2, g2⟩ := R.bind_inv g1
    obtain ⟨k, S3, e3, g3⟩ := R.bind_inv g2
    have q1 := pure_ok a hp.1.1.1 e1
    have q2 := pure_ok b hp.1.1.2 e2
    have q3 := pCmp_pure e3
    subst q1 q2 q3
    split at g3
    · obtain ⟨z, S4, e4, g4⟩ := R.bind_inv g3
      obtain ⟨k, S5, e5, g5⟩ := R.bind_inv g4
      have q4 := pure_ok c hp.1.2 e4
      have q5 := pCmp_pure e5
      subst q4 q5
      split at g5
      · obtain ⟨w, S6, e6, g6⟩ := R.bind_inv g5
        rw [pCmp_pure g6, pure_ok d' hp.2 e6]
      · cases g5; rfl
      · cases g5
    · cases g3; rfl
    · cases g3
  | .and a b, ρ, S, S', d, hp, h => by
    simp only [pureE, Bool.and_eq_true] at hp
    rw [evE] at h
    obtain ⟨x, S1, e1, g1⟩ := R.bind_inv h
    have q1 := pure_ok a hp.1 e1
    subst q1
    split at g1
    · exact pure_ok b hp.2 g1
    · cases g1; rfl
    · cases g1
  | .or a b, ρ, S, S', d, hp, h => by
    simp only [pureE, Bool.and_eq_true] at hp
    rw [evE] at h
    obtain ⟨x, S1, e1, g1⟩ := R.bind_inv h
    have q1 := pure_ok a hp.1 e1
    subst q1
    split at g1
    · cases g1; rfl
    · exact pure_ok b hp.2 g1
    · cases g1
  | .ite c a b, ρ, S, S', d, hp, h => by
    simp only [pureE, Bool.and_eq_true] at hp
    rw [evE] at h
    obtain ⟨x, S1, e1, g1⟩ := R.bind_inv h
    have q1 := pure_ok c hp.1.1 e1
    subst q1
    split at g1
    · exact pure_ok a hp.1.2 g1
    · exact pure_ok b hp.2 g1
    · cases g1
  | .tup es, ρ, S, S', d, hp, h => by
    rw [evE] at h
    obtain ⟨x, S1, e1, h⟩ := R.bind_inv h
    rw [mkT_pure h, pures_ok es (by simpa [pureE] using hp) e1]
  | .lst m es, ρ, S, S', d, hp, h => by
    simp only [pureE, Bool.and_eq_true, Bool.not_eq_true'] at hp
    obtain ⟨rfl, h1⟩ := hp
    rw [evE] at h
    obtain ⟨x, S1, e1, h⟩ := R.bind_inv h
    rw [mkL_pure h, pures_ok es h1 e1]
  | .idx a b, ρ, S, S', d, hp, h => by
    simp only [pureE, Bool.and_eq_true] at hp
    rw [evE] at h
    obtain ⟨x, S1, e1, h⟩ := R.bind_inv h
    obtain ⟨y, S2, e2, h⟩ := R.bind_inv h
    rw [pIdx_pure h, pure_ok b hp.2 e2, pure_ok a hp.1 e1]
  | .sl a b c, ρ, S, S', d, hp, h => by
    simp only [pureE, Bool.and_eq_true] at hp
    rw [evE] at h
    obtain ⟨x, S1, e1, h⟩ := R.bind_inv h
    obtain ⟨y, S2, e2, h⟩ := R.bind_inv h
    split at h
    · cases h
    · obtain ⟨z, S3, e3, h⟩ := R.bind_inv h
      split at h
      · cases h
      · rw [pSl_pure h, pure_ok c hp.2 e3, pure_ok b hp.1.2 e2, pure_ok a hp.1.1 e1]
  | .att a f, ρ, S, S', d, hp, h => by
    rw [evE] at h
    obtain ⟨x, S1, e1, h⟩ := R.bind_inv h
    rw [pAtt_pure h, pure_ok a (by simpa [pureE] using hp) e1]
  | .call m f es, ρ, S, S', d, hp, h => by
    simp only [pureE, Bool.and_eq_true] at hp
    obtain ⟨rfl, h1⟩ := hp
    rw [evE] at h
    obtain ⟨x, S1, e1, h⟩ := R.bind_inv h
    rw [callD_pure h, pures_ok es h1 e1]
  | .bi m b es, ρ, S, S', d, hp, h => by
    simp only [pureE, Bool.and_eq_true, Bool.not_eq_true'] at hp
    obtain ⟨rfl, h1⟩ := hp
    rw [evE] at h
    obtain ⟨x, S1, e1, h⟩ := R.bind_inv h
    rw [pBi_pure h, pures_ok es h1 e1]
  | .isi a c, ρ, S, S', d, hp, h => by
    rw [evE] at h
    obtain ⟨x, S1, e1, h⟩ := R.bind_inv h
    rw [bl_pure h, pure_ok a (by simpa [pureE] using hp) e1]
  | .dct m es, _, _, _, _, hp, _ => by simp [pureE] at hp
  | .cv m i es, _, _, _, _, hp, _ => by simp [pureE] at hp
  | .new m c es, _, _, _, _, hp, _ => by simp [pureE] at hp
  | .mth m o f es, ρ, S, S', d, hp, h => by
    simp only [pureE, Bool.and_eq_true] at hp
    obtain ⟨⟨rfl, h0⟩, h1⟩ := hp
    rw [evE] at h
    split at h
    · rename_i e0
      split at h
      · obtain ⟨x, S1, e1, h⟩ := R.bind_inv h
        rw [callD_pure h, pures_ok es h1 e1, pure_ok o h0 e0]
      · cases h
    · cases h
  | .bm m b o es, _, _, _, _, hp, _ => by simp [pureE] at hp
  | .lc m el p k es cond, ρ, S, S', d, hp, h => by
    simp only [pureE, Bool.and_eq_true, Bool.not_eq_true'] at hp
    obtain ⟨⟨⟨rfl, h1⟩, h2⟩, h3⟩ := hp
    rw [evE] at h
    obtain ⟨x, S1, e1, h⟩ := R.bind_inv h
    split at h
    · cases h
    · obtain ⟨ys, S2, e2, h⟩ := R.bind_inv h
      rw [mkL_pure h, lcL_pure (fun q => pure_ok cond h3 q) (fun q => pure_ok el h1 q) _ e2, pures_ok es h2 e1]
  | .frz e, _, _, _, _, hp, _ => by simp [pureE] at hp
  | .stk, _, _, _, _, hp, _ => by simp [pureE] at hp
theorem pures_ok : ∀ (es : IEs) {ρ : Ev} {S S' : Sto} {ds : List D}, pureEs es = true → evEs B C es ρ S = .ok ds S' → S' = S
  | .nil, ρ, S, S', ds, hp, h => by rw [evEs] at h; cases h; rfl
  | .cons e es, ρ, S, S', ds, hp, h => by
    simp only [pureEs, Bool.and_eq_true] at hp
    rw [evEs] at h
    obtain ⟨x, S1, e1, h⟩ := R.bind_inv h
    obtain ⟨y, S2, e2, h⟩ := R.bind_inv h
    cases h
    rw [pures_ok es hp.2 e2, pure_ok e hp.1 e1]
end
end
end Wc

/-! Wc: targets, what is walked, comprehensions, statements. -/
namespace Wc
open PySem PySem.Spec PyProof.Rows L2
section
variable {G : Gd} {X : Cx} {B : Tb} {C : Cal} {Wx : WX}
/-! ### targets -/
def gL : List Nat → TGs
  | [] => gNil
  | i :: is => gCons (gName i) (gL is)
/-- a, b, .. = a tuple or a list of that length -/
def gTL (K : PySem.W.Frag) (n : Nat) (t : TGs) : TG := fun v σ H Q => ∃ a xs, v = .ref a ∧ (SqT K H a xs ∨ SqL K H a xs) ∧ xs.length = n ∧ t xs σ H Q
theorem pg_tl {X : Cx} {pos : Pos} {es : List Expr} {k : Nat} {t : TGs} {n : Nat} (hc : X.calm = true) (h : PGs X es t)
    (hn : (assignEach es X.env).length = n) (hst : (assignEach es X.env).findIdx? (·.1) = none) : PG X (.Tuple es k pos) (gTL X.K n t) := ⟨fun pins s σ H v u Q I r hw => by
  obtain ⟨a, xs, e1, hq, hl, hw⟩ := hw
  rcases hq with hq | hq
  · exact (pg_tup hc h hn hst).run pins s σ H v u Q I r ⟨a, xs, e1, hq, hl, hw⟩
  · exact (pg_lst hc h hn hst).run pins s σ H v u Q I r ⟨a, xs, e1, hq, hl, hw⟩⟩
def gP (K : PySem.W.Frag) : Pt → TG
  | .v i => gName i
  | .tup is => gTL K is.length (gL is)
  | .nst i js => gTL K 2 (gCons (gName i) (gCons (gTL K js.length (gL js)) gNil))
theorem gL_ok {W : Wd} {H : Hp} {Q : L2.St → Hp → Prop} : ∀ {is : List Nat} {ds : List D} {vs : List V} {σ : L2.St} {ρ : Ev}, RDs G W vs ds → is.length = ds.length → REn G W σ ρ →
    (∀ σ', REn G W σ' ((is.zip ds).foldl (fun ρ q => ρ.set q.1 (some q.2)) ρ) → Q σ' H) → gL is vs σ H Q
  | [], [], _, σ, ρ, k, hl, en, q => by cases k; exact ⟨rfl, q σ en⟩
  | i :: is, d :: ds, _, σ, ρ, k, hl, en, q => by
    cases k with
    | cons k1 k2 => exact ⟨_, _, rfl, gL_ok k2 (by simpa using hl) (en.set k1 i) q⟩
  | [], _ :: _, _, _, _, _, hl, _, _ => by simp at hl
  | _ :: _, [], _, _, _, _, hl, _, _ => by simp at hl
theorem gP_ok {K : PySem.W.Frag} {W : Wd} {H : Hp} {S : Sto} {Q : L2.St → Hp → Prop} {p : Pt} {d : D} {v : V} {σ : L2.St} {ρ ρ1 : Ev} (rl : Rel G H W S) (k : RD G W v d) (en : REn G W σ ρ) (e : setP p d ρ = some ρ1)
    (q : ∀ σ', REn G W σ' ρ1 → Q σ' H) : gP K p v σ H Q := by
  cases p with
  | v i => cases e; exact q _ (en.set k i)
  | tup is =>
    unfold setP at e
    simp only at e
    split at e
    · rename_i ds e1
      split at e
      · rename_i hl
        cases e
        obtain ⟨a, xs, rfl, h1, h2⟩ := asTup_ok rl k e1
        refine ⟨a, xs, rfl, h1.imp (fun h => SqT.of (rl.sub _ _ h)) (fun h => SqL.of (rl.sub _ _ h)), ?_, gL_ok h2 hl.symm en q⟩
        rw [h2.length, hl]
      · cases e
    · cases e
  | nst i js =>
    unfold setP at e
    simp only at e
    split at e
    · rename_i x y e1
      split at e
      · rename_i ds e2
        split at e
        · rename_i hl
          cases e
          obtain ⟨a, xs, rfl, h1, h2⟩ := asTup_ok rl k e1
          obtain ⟨v1, v2, rfl, k1, k2⟩ := h2.two
          obtain ⟨a2, xs2, rfl, h3, h4⟩ := asTup_ok rl k2 e2
          refine ⟨a, _, rfl, h1.imp (fun h => SqT.of (rl.sub _ _ h)) (fun h => SqL.of (rl.sub _ _ h)), rfl, _, _, rfl, _, _, rfl, a2, xs2, rfl, h3.imp (fun h => SqT.of (rl.sub _ _ h)) (fun h => SqL.of (rl.sub _ _ h)), ?_, gL_ok h4 hl.symm (en.set k1 i) fun σ' h => ⟨rfl, q σ' h⟩⟩
          rw [h4.length, hl]
        · cases e
      · cases e
    · cases e
/-! ### statements -/
def AftS (G : Gd) (Wx : WX) (D : Ends) (H : Hp) (W : Wd) : RS → Prop
  | .nx ρ S => ∀ σ H' W', Rel G H' W' S → Ext H W H' W' → REn G W' σ ρ → D.nx σ H'
  | .rt d S => ∀ v H' W', Rel G H' W' S → Ext H W H' W' → RD G W' v d → D.rt v H'
  | .bk ρ S => ∀ σ H' W', Rel G H' W' S → Ext H W H' W' → REn G W' σ ρ → D.bk σ H'
  | .ct ρ S => ∀ σ H' W', Rel G H' W' S → Ext H W H' W' → REn G W' σ ρ → D.ct σ H'
  | .ex c fs ρ S => ∀ cls dx σ H' W', Rel G H' W' S → Ext H W H' W' → REn G W' σ ρ → ExR G H' W' c fs cls dx → Wx cls dx σ H'
  | .no => False
def tS (G : Gd) (ev : Ev → Sto → RS) (Wx : WX) : TS := fun D σ H => ∃ W ρ S, Rel G H W S ∧ REn G W σ ρ ∧ AftS G Wx D H W (ev ρ S)
abbrev PSv (G : Gd) (X : Cx) (B : Tb) (C : Cal) (Wx : WX) (st : Stmt) (is : IS) : Prop := PS X st (tS G (evS B C is) Wx)
abbrev PSsv (G : Gd) (X : Cx) (B : Tb) (C : Cal) (Wx : WX) (st : List Stmt) (is : ISs) : Prop := PSs X st (tS G (evSs B C is) Wx)
theorem pss_imp {st : List Stmt} {t t' : TS} (h : PSs X st t) (k : ∀ D σ H, t' D σ H → t D σ H) : PSs X st t' := ⟨fun pins s σ H D I q => h.run pins s σ H D I (k _ _ _ q)⟩
theorem AftS.move {D : Ends} {H H1 : Hp} {W W1 : Wd} {r : RS} (h : AftS G Wx D H W r) (x : Ext H W H1 W1) : AftS G Wx D H1 W1 r := by
  cases r with
  | nx ρ S => exact fun σ H2 W2 r2 x2 e2 => h σ H2 W2 r2 (x.trans x2) e2
  | rt d S => exact fun v H2 W2 r2 x2 k2 => h v H2 W2 r2 (x.trans x2) k2
  | bk ρ S => exact fun σ H2 W2 r2 x2 e2 => h σ H2 W2 r2 (x.trans x2) e2
  | ct ρ S => exact fun σ H2 W2 r2 x2 e2 => h σ H2 W2 r2 (x.trans x2) e2
  | ex c fs ρ S => exact fun cls dx σ H2 W2 r2 x2 e2 k2 => h cls dx σ H2 W2 r2 (x.trans x2) e2 k2
  | no => exact h
/-- the statement's end by an expression's -/
def stE (r : R D) (ρ : Ev) (f : D → Sto → RS) : RS := match r with
  | .ok d S1 => f d S1
  | .ex c fs S1 => .ex c fs ρ S1
  | .no => .no
theorem stE_at {ev : Ev → Sto → R D} {f : D → Sto → RS} {σ : L2.St} {H : Hp} {W : Wd} {ρ : Ev} {S : Sto} {D : Ends} (rl : Rel G H W S) (en : REn G W σ ρ) (q : AftS G Wx D H W (stE (ev ρ S) ρ f)) :
    tE G ev Wx σ H (fun v H1 => ∃ d S1 W1, Rel G H1 W1 S1 ∧ Ext H W H1 W1 ∧ REn G W1 σ ρ ∧ RD G W1 v d ∧ AftS G Wx D H1 W1 (f d S1)) := by
  refine ⟨W, ρ, S, rl, en, ?_⟩
  cases e : ev ρ S with
  | ok d S1 =>
    rw [e] at q
    exact fun v H1 W1 r1 x1 k1 => ⟨d, S1, W1, r1, x1, en.mono x1, k1, AftS.move q x1⟩
  | ex c fs S1 =>
    rw [e] at q
    exact fun cls dx H1 W1 r1 x1 k1 => q cls dx σ H1 W1 r1 x1 (en.mono x1) k1
  | no => rw [e] at q; exact q
def stA (r : R (List D)) (ρ : Ev) (f : List D → Sto → RS) : RS := match r with
  | .ok d S1 => f d S1
  | .ex c fs S1 => .ex c fs ρ S1
  | .no => .no
theorem stA_at {ev : Ev → Sto → R (List D)} {f : List D → Sto → RS} {σ : L2.St} {H : Hp} {W : Wd} {ρ : Ev} {S : Sto} {D : Ends} (rl : Rel G H W S) (en : REn G W σ ρ) (q : AftS G Wx D H W (stA (ev ρ S) ρ f)) :
    tA G ev Wx σ H (fun v H1 => ∃ d S1 W1, Rel G H1 W1 S1 ∧ Ext H W H1 W1 ∧ REn G W1 σ ρ ∧ RDs G W1 v d ∧ AftS G Wx D H1 W1 (f d S1)) := by
  refine ⟨W, ρ, S, rl, en, ?_⟩
  cases e : ev ρ S with
  | ok d S1 =>
    rw [e] at q
    exact fun v H1 W1 r1 x1 k1 => ⟨d, S1, W1, r1, x1, en.mono x1, k1, AftS.move q x1⟩
  | ex c fs S1 =>
    rw [e] at q
    exact fun cls dx H1 W1 r1 x1 k1 => q cls dx σ H1 W1 r1 x1 (en.mono x1) k1
  | no => rw [e] at q; exact q
theorem sSs_nil : PSsv G X B C Wx [] .nil := pss_imp pss_nil fun D σ H ⟨W, ρ, S, rl, en, q⟩ => q σ H W rl Ext.refl en
theorem sSs_cons {st : Stmt} {rest : List Stmt} {is : IS} {iss : ISs} (h1 : PSv G X B C Wx st is) (h2 : PSsv G X B C Wx rest iss) : PSsv G X B C Wx (st :: rest) (.cons is iss) := pss_imp (pss_cons h1 h2) fun D σ H ⟨W, ρ, S, rl, en, q⟩ => by
  refine ⟨W, ρ, S, rl, en, ?_⟩
  have q : AftS G Wx D H W (match evS B C is ρ S with | .nx ρ1 S1 => evSs B C iss ρ1 S1 | x => x) := q
  cases e : evS B C is ρ S with
  | nx ρ1 S1 =>
    rw [e] at q
    exact fun σ' H1 W1 r1 x1 e1 => ⟨W1, ρ1, S1, r1, e1, AftS.move q x1⟩
  | rt d S1 => rw [e] at q; exact q
  | bk ρ1 S1 => rw [e] at q; exact q
  | ct ρ1 S1 => rw [e] at q; exact q
  | ex c fs ρ1 S1 => rw [e] at q; exact q
  | no => rw [e] at q; exact q
variable {e c : Expr} {ie ic : IE} {pos : Pos}
theorem evS_asg {p : Pt} : evS B C (.asg p ie) = fun ρ S => stE (evE B C ie ρ S) ρ fun d S1 => match setP p d ρ with
      | some ρ1 => .nx ρ1 S1
      | none => .no := by
  funext ρ S
  show (match evE B C ie ρ S with | .ok d S1 => _ | .ex c fs S1 => _ | .no => _) = _
  cases evE B C ie ρ S <;> rfl
theorem evS_ex : evS B C (.ex ie) = fun ρ S => stE (evE B C ie ρ S) ρ fun _ S1 => .nx ρ S1 := by
  funext ρ S
  show (match evE B C ie ρ S with | .ok d S1 => _ | .ex c fs S1 => _ | .no => _) = _
  cases evE B C ie ρ S <;> rfl
theorem evS_ret : evS B C (.ret ie) = fun ρ S => stE (evE B C ie ρ S) ρ fun d S1 => .rt d S1 := by
  funext ρ S
  show (match evE B C ie ρ S with | .ok d S1 => _ | .ex c fs S1 => _ | .no => _) = _
  cases evE B C ie ρ S <;> rfl
theorem evS_ite {a b : ISs} : evS B C (.ite ic a b) = fun ρ S => stE (evE B C ic ρ S) ρ fun d S1 => match d with
    | .t (.bl true) => evSs B C a ρ S1
    | .t (.bl false) => evSs B C b ρ S1
    | _ => .no := by
  funext ρ S
  show (match evE B C ic ρ S with | .ok (.t (.bl true)) S1 => _ | .ok (.t (.bl false)) S1 => _ | .ex k fs S1 => _ | _ => _) = _
  cases evE B C ic ρ S with
  | ok d S1 =>
    cases d with
    | t x =>
      cases x with
      | bl b => cases b <;> rfl
      | _ => rfl
    | _ => rfl
  | _ => rfl
theorem sS_asg {tg : Expr} {p : Pt} (he : PEv G X B C Wx e ie) (hg : PG X tg (gP X.K p)) (hs : swapsWithSole [tg] e pos.line X.env = pure false) (hw : swappedStores [tg] e X.env = pure none) (h1 : (assignEach [tg] X.env).map (·.2) = [assign tg X.env]) : PSv G X B C Wx (.Assign [tg] e pos) (.asg p ie) :=
  ps_imp (ps_asg he hg hs hw h1) fun D σ H ⟨W, ρ, S, rl, en, q⟩ => by
    rw [evS_asg] at q
    refine tE_imp (stE_at rl en q) fun v H1 ⟨d, S1, W1, r1, x1, e1, k1, a1⟩ => ?_
    split at a1
    · rename_i ρ1 e2
      exact gP_ok r1 k1 e1 e2 fun σ' e3 => a1 σ' H1 W1 r1 Ext.refl e3
    · exact a1.elim
theorem setP_two {i j : Nat} {d0 d1 : D} {ρ : Ev} {S : Sto} : ∃ d, mkT [d0, d1] S = .ok d S ∧ setP (.tup [i, j]) d ρ = some ((ρ.set i (some d0)).set j (some d1)) := by
  unfold mkT
  cases e : pls [d0, d1] with
  | none => exact ⟨_, rfl, rfl⟩
  | some ts =>
    have e2 := pls_eq e
    cases ts with
    | nil => cases e2
    | cons t0 r =>
      cases r with
      | nil => cases e2
      | cons t1 r =>
        cases r with
        | nil =>
          simp only [List.map_cons, List.map_nil, List.cons.injEq, and_true] at e2
          obtain ⟨rfl, rfl⟩ := e2
          exact ⟨_, rfl, rfl⟩
        | cons _ _ => simp at e2
theorem sS_par {i j : Nat} {x y : Str} {a b : Expr} {ia ib : IE} {px py pt : Pos} {kt k2 pt2} (hc : X.calm = true) (hN : X.N.Nodup) (hi : X.N[i]? = some x) (hj : X.N[j]? = some y) (hij : i ≠ j)
    (hx : X.env.scope.names.lookup x = some .local) (hy : X.env.scope.names.lookup y = some .local) (ha : PAv G X B C Wx [a, b] (.cons ia (.cons ib .nil)))
    (hw : swappedStores [.Tuple [.Name x px, .Name y py] kt pt] (.Tuple [a, b] k2 pt2) X.env = pure (some [x, y])) :
    PSv G X B C Wx (.Assign [.Tuple [.Name x px, .Name y py] kt pt] (.Tuple [a, b] k2 pt2) pos) (.asg (.tup [i, j]) (.tup (.cons ia (.cons ib .nil)))) :=
  ps_imp (ps_par hc hN hi hj hij hx hy ha hw rfl) fun D σ H ⟨W, ρ, S, rl, en, q⟩ => by
    rw [evS_asg] at q
    have q : AftS G Wx D H W (stE ((evEs B C (.cons ia (.cons ib .nil)) ρ S).bind fun ds S1 => mkT ds S1) ρ fun d S1 => match setP (.tup [i, j]) d ρ with | some ρ1 => .nx ρ1 S1 | none => .no) := q
    cases e : evEs B C (.cons ia (.cons ib .nil)) ρ S with
    | ok ds S1 =>
      rw [e] at q
      refine ⟨W, ρ, S, rl, en, ?_⟩
      rw [e]
      intro vs H1 W1 r1 x1 k1
      have hl : ds.length = 2 := evEs_len e
      cases k1 with
      | nil => cases hl
      | cons k0 k' =>
        cases k' with
        | nil => cases hl
        | cons k1 k'' =>
          cases k'' with
          | cons _ _ => simp at hl
          | nil =>
            refine ⟨_, _, rfl, ?_⟩
            rename_i d0 _ d1
            obtain ⟨d, e1, e2⟩ := setP_two (i := i) (j := j) (d0 := d0) (d1 := d1) (ρ := ρ) (S := S1)
            have q : AftS G Wx D H W (stE (mkT [d0, d1] S1) ρ fun d S1 => match setP (.tup [i, j]) d ρ with | some ρ1 => .nx ρ1 S1 | none => .no) := q
            rw [e1] at q
            have q : AftS G Wx D H W (match setP (.tup [i, j]) d ρ with | some ρ1 => .nx ρ1 S1 | none => .no) := q
            rw [e2] at q
            exact q _ H1 W1 r1 x1 (((en.mono x1).set k0 i).set k1 j)
    | ex c fs S1 =>
      rw [e] at q
      exact ⟨W, ρ, S, rl, en, by rw [e]; exact fun cls dx H1 W1 r1 x1 k1 => q cls dx σ H1 W1 r1 x1 (en.mono x1) k1⟩
    | no => rw [e] at q; exact q.elim
theorem sS_ex (he : PEv G X B C Wx e ie) (hs : swapsWith e none pos.line X.env = pure false) : PSv G X B C Wx (.Expr e pos) (.ex ie) :=
  ps_imp (ps_expr he hs) fun D σ H ⟨W, ρ, S, rl, en, q⟩ => by
    rw [evS_ex] at q
    exact tE_imp (stE_at rl en q) fun v H1 ⟨d, S1, W1, r1, x1, e1, k1, a1⟩ => a1 σ H1 W1 r1 Ext.refl e1
theorem sS_ret (he : PEv G X B C Wx e ie) : PSv G X B C Wx (.Return (some e) pos) (.ret ie) :=
  ps_imp (ps_ret he) fun D σ H ⟨W, ρ, S, rl, en, q⟩ => by
    rw [evS_ret] at q
    exact tE_imp (stE_at rl en q) fun v H1 ⟨d, S1, W1, r1, x1, e1, k1, a1⟩ => a1 v H1 W1 r1 Ext.refl k1
theorem sS_retN : PSv G X B C Wx (.Return none pos) .retN :=
  ps_imp ps_retN fun D σ H ⟨W, ρ, S, rl, en, q⟩ => q .non H W rl Ext.refl (.t .non)
theorem sS_ite {a b : List Stmt} {ia ib : ISs} (hc : PTv G X B C Wx c ic) (ha : PSsv G X B C Wx a ia) (hb : PSsv G X B C Wx b ib) : PSv G X B C Wx (.If c a b pos) (.ite ic ia ib) :=
  ps_imp (ps_if hc ha hb) fun D σ H ⟨W, ρ, S, rl, en, q⟩ => by
    rw [evS_ite] at q
    refine tE_imp (stE_at rl en q) fun v H1 ⟨d, S1, W1, r1, x1, e1, k1, a1⟩ => ?_
    split at a1
    · cases k1.bl_of
      exact ⟨true, rfl, iteT ⟨W1, ρ, S1, r1, e1, a1⟩⟩
    · cases k1.bl_of
      exact ⟨false, rfl, iteF ⟨W1, ρ, S1, r1, e1, a1⟩⟩
    · exact a1.elim
theorem sS_brk : PSv G X B C Wx (.Break pos) .brk := ps_imp ps_break fun D σ H ⟨W, ρ, S, rl, en, q⟩ => q σ H W rl Ext.refl en
theorem sS_cnt : PSv G X B C Wx (.Continue pos) .cnt := ps_imp ps_continue fun D σ H ⟨W, ρ, S, rl, en, q⟩ => q σ H W rl Ext.refl en
theorem sS_pas : PSv G X B C Wx (.Pass pos) .pas := ps_imp ps_pass fun D σ H ⟨W, ρ, S, rl, en, q⟩ => q σ H W rl Ext.refl en
/-! ### what is walked -/
/-- what must not change meanwhile -/
def stands (k : Ik) (ds : List D) (S1 S : Sto) : Prop := match k, ds with
  | .seq, [.ref j] => S[j]? = S1[j]?
  | .enu, [.ref j] => S[j]? = S1[j]?
  | _, _ => True
/-- from here on J tells the items xs -/
def Wk (G : Gd) (P : Sto → Prop) (H1 : Hp) (W1 : Wd) (J : It) (xs : List D) : Prop := ∀ H W S, Rel G H W S → Ext H1 W1 H W → P S → (∀ i, i < xs.length → J.go i H) ∧ J.stop xs.length H ∧
  ∀ i x H' d, xs[i]? = some d → J.yld i H x H' → ∃ W', Rel G H' W' S ∧ Ext H W H' W' ∧ RD G W' x d
def tI (G : Gd) (B : Tb) (C : Cal) (Wx : WX) (pu : Bool) (k : Ik) (ies : IEs) : TI := fun σ H Rr => ∃ W ρ S, Rel G H W S ∧ REn G W σ ρ ∧ match evEs B C ies ρ S with
  | .ok ds S1 => (match itemsL pu k ds S1 with
    | none => False
    | some xs => ∀ J H1 W1, Rel G H1 W1 S1 → Ext H W H1 W1 → Wk G (stands k ds S1) H1 W1 J xs → Rr J H1)
  | .ex c fs S1 => ∀ cls dx H1 W1, Rel G H1 W1 S1 → Ext H W H1 W1 → ExR G H1 W1 c fs cls dx → Wx cls dx σ H1
  | .no => False
theorem pi_imp {tg it : Expr} {t t' : TI} (h : PI X tg it t) (k : ∀ σ H R, t' σ H R → t σ H R) : PI X tg it t' := ⟨fun pins s σ H R I q => h.run pins s σ H R I (k _ _ _ q)⟩
theorem pi_or {tg it : Expr} {t t' : TI} (h : PI X tg it t) (h' : PI X tg it t') : PI X tg it (fun σ H R => t σ H R ∨ t' σ H R) := ⟨fun pins s σ H R I q => q.elim (h.run pins s σ H R I) (h'.run pins s σ H R I)⟩
theorem Wk.seq {P : Sto → Prop} {H1 : Hp} {W1 : Wd} {J : It} {vs : List V} {ds : List D} (k : RDs G W1 vs ds) (hgo : ∀ i H, Same W1.Hf H → i < vs.length → J.go i H) (hst : ∀ H, Same W1.Hf H → J.stop vs.length H)
    (hy : ∀ i H x H', Same W1.Hf H → J.yld i H x H' → i < vs.length → H' = H ∧ vs[i]? = some x) : Wk G P H1 W1 J ds := fun H W S rl x _ => by
  have sm : Same W1.Hf H := x.hf.trans rl.sub
  refine ⟨fun i hi => hgo i H sm (by rw [k.length]; exact hi), by rw [← k.length]; exact hst H sm, fun i v H' d hd y => ?_⟩
  have hi : i < vs.length := by rw [k.length]; exact (List.getElem?_eq_some_iff.mp hd).1
  obtain ⟨rfl, hv⟩ := hy i H v H' sm y hi
  obtain ⟨v', h1, h2⟩ := k.get hd
  rw [hv] at h1
  cases h1
  exact ⟨W, rl, Ext.refl, h2.mono x⟩
theorem Wk.list {P : Sto → Prop} {H1 : Hp} {W1 : Wd} {a : Addr} {vs : List V} {ds : List D} (h : SqL G.K W1.Hf a vs) (k : RDs G W1 vs ds) : Wk G P H1 W1 (Itl G.K a) ds := by
  have w := walk_list (K := G.K) (a := a) (xs := vs)
  exact Wk.seq k (fun i H sm hi => w.goes i H hi (sm.seq h)) (fun H sm => w.stops H (sm.seq h)) fun i H x H' sm y hi => w.yields i H x H' hi (sm.seq h) y
theorem Wk.tup {P : Sto → Prop} {H1 : Hp} {W1 : Wd} {a : Addr} {vs : List V} {ds : List D} (h : W1.Hf a = some (.tup vs)) (k : RDs G W1 vs ds) : Wk G P H1 W1 (Itt G.K a) ds := by
  have w := walk_tup (K := G.K) (a := a) (xs := vs)
  exact Wk.seq k (fun i H sm hi => w.goes i H hi (SqT.of (sm _ _ h))) (fun H sm => w.stops H (SqT.of (sm _ _ h))) fun i H x H' sm y hi => w.yields i H x H' hi (SqT.of (sm _ _ h)) y
theorem RDs.signs {W : Wd} : ∀ l : List Nat, RDs G W (l.map fun c => V.str ⟨#[c]⟩) (l.map fun c => .t (.str ⟨#[c]⟩))
  | [] => .nil
  | c :: l => .cons (.t (.str _)) (RDs.signs l)
theorem RDs.range {W : Wd} (lo : Int) (n : Nat) : RDs G W ((List.range n).map fun (i : Nat) => V.int (lo + i)) ((List.range n).map fun (i : Nat) => .t (.int (lo + i))) := by
  generalize List.range n = l
  induction l with
  | nil => exact .nil
  | cons i l ih => exact .cons (.t (.int _)) ih
theorem Wk.str {P : Sto → Prop} {H1 : Hp} {W1 : Wd} (z : Str) : Wk G P H1 W1 (Its z) (z.cps.toList.map fun c => .t (.str ⟨#[c]⟩)) := by
  have w := walk_str (z := z)
  have hl : (z.cps.toList.map fun c => V.str ⟨#[c]⟩).length = z.cps.size := by simp
  refine Wk.seq (RDs.signs _) (fun i H sm hi => w.goes i H (by rw [hl] at hi; exact hi) True.intro) (fun H sm => by rw [hl]; exact w.stops H True.intro) fun i H x H' sm y hi => ?_
  obtain ⟨h1, c, h2, h3⟩ := w.yields i H x H' (by rw [hl] at hi; exact hi) True.intro y
  refine ⟨h1, ?_⟩
  rw [List.getElem?_map, h3]
  simp [h2]
theorem Wk.range {P : Sto → Prop} {H1 : Hp} {W1 : Wd} (lo : Int) (n : Nat) : Wk G P H1 W1 (Itr lo n) ((List.range n).map fun (i : Nat) => .t (.int (lo + i))) := by
  have w := walk_range (lo := lo) (n := n)
  have hl : ((List.range n).map fun (i : Nat) => V.int (lo + i)).length = n := by simp
  refine Wk.seq (RDs.range lo n) (fun i H sm hi => w.goes i H (by rw [hl] at hi; exact hi) True.intro) (fun H sm => by rw [hl]; exact w.stops H True.intro) fun i H x H' sm y hi => ?_
  have hi' : i < n := by rw [hl] at hi; exact hi
  obtain ⟨h1, h2⟩ := w.yields i H x H' hi' True.intro y
  refine ⟨h1, ?_⟩
  rw [List.getElem?_map, h2]
  simp [hi']
theorem Wk.range0 {P : Sto → Prop} {H1 : Hp} {W1 : Wd} (n : Nat) : Wk G P H1 W1 (Itr 0 n) ((List.range n).map fun (i : Nat) => .t (.int (i : Int))) := by
  have h := Wk.range (G := G) (P := P) (H1 := H1) (W1 := W1) 0 n
  have e : ((List.range n).map fun (i : Nat) => D.t (.int (0 + (i : Int)))) = (List.range n).map fun (i : Nat) => .t (.int (i : Int)) := by
    congr 1; funext i; rw [Int.zero_add]
  rw [e] at h; exact h
/-- a list that is a thing, while it stays as it is -/
theorem Wk.ref {H1 : Hp} {W1 : Wd} {S1 : Sto} {a : Addr} {j : Nat} {ds : List D} (hK : SqL G.K H1 a = SqL G.K H1 a) (hF : W1.F[j]? = some a) (hS : S1[j]? = some (.lst ds)) : Wk G (fun S => S[j]? = S1[j]?) H1 W1 (Itl G.K a) ds := fun H W S rl x hP => by
  have hP : S[j]? = S1[j]? := hP
  rw [hS] at hP
  have ro := rl.obj _ _ _ hP (Pre.at x.f hF)
  cases ro with
  | @lst vs _ h3 h4 =>
    have w := walk_list (K := G.K) (a := a) (xs := vs)
    have hl := h4.length
    refine ⟨fun i hi => w.goes i H (by rw [hl]; exact hi) (SqL.of h3), by rw [← hl]; exact w.stops H (SqL.of h3), fun i v H' d hd y => ?_⟩
    have hi : i < vs.length := by rw [hl]; exact (List.getElem?_eq_some_iff.mp hd).1
    obtain ⟨rfl, hv⟩ := w.yields i H v H' hi (SqL.of h3) y
    obtain ⟨v', g1, g2⟩ := h4.get hd
    rw [hv] at g1
    cases g1
    exact ⟨W, rl, Ext.refl, g2⟩
theorem pair_ok {H : Hp} {W : Wd} {S : Sto} {p : Addr} {x y : V} {a b : D} (rl : Rel G H W S) (hp : H p = none) (k1 : RD G W x a) (k2 : RD G W y b) : ∃ W', Rel G (upd H p (.tup [x, y])) W' S ∧ Ext H W (upd H p (.tup [x, y])) W' ∧ RD G W' (.ref p) (pairD a b) := by
  obtain ⟨r2, x2⟩ := rl.new (o := .tup [x, y]) hp
  refine ⟨_, r2, x2, ?_⟩
  have m1 := k1.mono x2
  have m2 := k2.mono x2
  unfold pairD
  split
  · cases m1 with
    | t m1 => cases m2 with | t m2 => exact .t (.tup upd_same (.cons m1 (.cons m2 .nil)))
  · exact .tup upd_same (.cons m1 (.cons m2 .nil))
theorem enuL_len : ∀ (n : Nat) (ds : List D), (enuL n ds).length = ds.length
  | _, [] => rfl
  | n, d :: ds => by simp [enuL, enuL_len (n + 1) ds]
theorem enuL_get : ∀ (ds : List D) (n i : Nat) (d : D), (enuL n ds)[i]? = some d → ∃ d', ds[i]? = some d' ∧ d = pairD (.t (.int ((n + i : Nat) : Int))) d'
  | [], n, i, d, h => by simp [enuL] at h
  | a :: ds, n, 0, d, h => by simp [enuL] at h; exact ⟨a, rfl, h.symm⟩
  | a :: ds, n, i + 1, d, h => by
    obtain ⟨d', h1, h2⟩ := enuL_get ds (n + 1) i d (by simpa [enuL] using h)
    exact ⟨d', by simpa using h1, by rw [h2, show n + 1 + i = n + (i + 1) by omega]⟩
theorem asList_ref {S : Sto} {j : Nat} {xs : List D} (h : asList S (.ref j) = some xs) : S[j]? = some (.lst xs) := by
  unfold asList at h
  simp only at h
  split at h
  · rename_i ys e; cases h; exact e
  · cases h
theorem Wk.enuS {P : Sto → Prop} {H1 : Hp} {W1 : Wd} {a : Addr} {ds : List D} (hs : ∀ H W S, Rel G H W S → Ext H1 W1 H W → P S → ∃ vs, SqL G.K H a vs ∧ RDs G W vs ds) : Wk G P H1 W1 (Ite G.K a) (enuL 0 ds) := fun H W S rl x hP => by
  obtain ⟨vs, h3, h4⟩ := hs H W S rl x hP
  have hl := h4.length
  refine ⟨fun i hi => ?_, ?_, fun i v H' d hd y => ?_⟩
  · rw [enuL_len] at hi
    exact ⟨vs, vs[i]'(by omega), h3, List.getElem?_eq_getElem (by omega)⟩
  · rw [enuL_len]; exact ⟨vs, h3, by omega⟩
  · obtain ⟨d', g1, rfl⟩ := enuL_get ds 0 i d hd
    obtain ⟨T, z, rfl, hT, rfl, hz⟩ := y
    have e := hz vs h3
    obtain ⟨v', f1, f2⟩ := h4.get g1
    rw [e] at f1
    cases f1
    rw [Nat.zero_add]
    exact pair_ok rl hT (.t (.int _)) f2
theorem zipL_len : ∀ (xs ys : List D), (zipL xs ys).length = min xs.length ys.length
  | [], ys => by cases ys <;> rfl
  | x :: xs, [] => rfl
  | x :: xs, y :: ys => by simp only [zipL, List.length_cons, zipL_len xs ys]; omega
theorem zipL_get : ∀ (xs ys : List D) (i : Nat) (d : D), (zipL xs ys)[i]? = some d → ∃ a b, xs[i]? = some a ∧ ys[i]? = some b ∧ d = pairD a b
  | [], ys, i, d, h => by cases ys <;> simp [zipL] at h
  | x :: xs, [], i, d, h => by simp [zipL] at h
  | x :: xs, y :: ys, 0, d, h => by simp [zipL] at h; exact ⟨x, y, rfl, rfl, h.symm⟩
  | x :: xs, y :: ys, i + 1, d, h => by
    obtain ⟨a, b, h1, h2, h3⟩ := zipL_get xs ys i d (by simpa [zipL] using h)
    exact ⟨a, b, by simpa using h1, by simpa using h2, h3⟩
theorem Wk.zipS {P : Sto → Prop} {H1 : Hp} {W1 : Wd} {a b : Addr} {vs us : List V} {ds es : List D} (h1 : W1.Hf a = some (.lst vs)) (h2 : W1.Hf b = some (.lst us)) (k1 : RDs G W1 vs ds) (k2 : RDs G W1 us es) : Wk G P H1 W1 (Itz G.K a b) (zipL ds es) := fun H W S rl x hP => by
  have q1 : SqL G.K H a vs := SqL.of (rl.sub _ _ (x.hf _ _ h1))
  have q2 : SqL G.K H b us := SqL.of (rl.sub _ _ (x.hf _ _ h2))
  have l1 := k1.length
  have l2 := k2.length
  refine ⟨fun i hi => ?_, ?_, fun i v H' d hd y => ?_⟩
  · rw [zipL_len] at hi
    exact ⟨vs, us, vs[i]'(by omega), us[i]'(by omega), q1, q2, List.getElem?_eq_getElem (by omega), List.getElem?_eq_getElem (by omega)⟩
  · rw [zipL_len]; exact ⟨vs, us, q1, q2, by omega⟩
  · obtain ⟨d1, d2, g1, g2, rfl⟩ := zipL_get ds es i d hd
    obtain ⟨T, z1, z2, rfl, hT, rfl, hz1, hz2⟩ := y
    have e1 := hz1 vs q1
    have e2 := hz2 us q2
    obtain ⟨v1, f1, f2⟩ := k1.get g1
    obtain ⟨v2, f3, f4⟩ := k2.get g2
    rw [e1] at f1
    rw [e2] at f3
    cases f1; cases f3
    exact pair_ok rl hT (f2.mono x) (f4.mono x)
theorem evEs_one {ρ : Ev} {S : Sto} : evEs B C (.cons ie .nil) ρ S = (evE B C ie ρ S).bind fun x S1 => .ok [x] S1 := rfl
theorem sI_seq {pu : Bool} {tg : Expr} (hK : X.K = G.K) (he : PEv G X B C Wx e ie) : PI X tg e (tI G B C Wx pu .seq (.cons ie .nil)) := by
  refine pi_imp (pi_or (pi_list he) (pi_or (pi_tup he) (pi_str he))) fun σ H Rr ⟨W, ρ, S, rl, en, q⟩ => ?_
  rw [evEs_one] at q
  rw [hK]
  cases e : evE B C ie ρ S with
  | ok d S1 =>
    rw [e] at q
    simp only [Wc.R.bind_ok] at q
    split at q
    · exact q.elim
    · rename_i xs e2
      unfold itemsL at e2
      split at e2
      · rename_i xs' e3
        cases e2
        unfold itemsOf at e3
        split at e3
        · rename_i ns _ hd
          cases hd; cases e3
          refine .inl ⟨W, ρ, S, rl, en, ?_⟩
          rw [e]
          intro v H1 W1 r1 x1 k1
          cases k1 with
          | t k1 =>
            cases k1 with
            | scr h => exact ⟨_, rfl, ⟨_, r1.sub.seq h⟩, q _ H1 W1 r1 x1 (Wk.list h (RDs.intsT ns))⟩
        · rename_i ts hd
          cases hd; cases e3
          refine .inl ⟨W, ρ, S, rl, en, ?_⟩
          rw [e]
          intro v H1 W1 r1 x1 k1
          cases k1 with
          | t k1 =>
            cases k1 with
            | lst h h2 => exact ⟨_, rfl, ⟨_, SqL.of (r1.sub _ _ h)⟩, q _ H1 W1 r1 x1 (Wk.list (SqL.of h) (RDs.ofT h2))⟩
        · rename_i ts hd
          cases hd; cases e3
          refine .inr (.inl ⟨W, ρ, S, rl, en, ?_⟩)
          rw [e]
          intro v H1 W1 r1 x1 k1
          cases k1 with
          | t k1 =>
            cases k1 with
            | tup h h2 => exact ⟨_, rfl, ⟨_, SqT.of (r1.sub _ _ h)⟩, q _ H1 W1 r1 x1 (Wk.tup h (RDs.ofT h2))⟩
        · rename_i ts hd
          cases hd; cases e3
          refine .inr (.inl ⟨W, ρ, S, rl, en, ?_⟩)
          rw [e]
          intro v H1 W1 r1 x1 k1
          cases k1 with
          | tup h h2 => exact ⟨_, rfl, ⟨_, SqT.of (r1.sub _ _ h)⟩, q _ H1 W1 r1 x1 (Wk.tup h h2)⟩
        · rename_i z _ hd
          cases hd; cases e3
          refine .inr (.inr ⟨W, ρ, S, rl, en, ?_⟩)
          rw [e]
          intro v H1 W1 r1 x1 k1
          cases k1.str_of
          exact ⟨_, rfl, q _ H1 W1 r1 x1 (Wk.str z)⟩
        all_goals contradiction
      · split at e2
        · unfold itemsR at e2
          split at e2
          · rename_i j hd
            cases hd
            have eS := asList_ref e2
            refine .inl ⟨W, ρ, S, rl, en, ?_⟩
            rw [e]
            intro v H1 W1 r1 x1 k1
            cases k1 with
            | ref h1 =>
              have ro := r1.obj _ _ _ eS h1
              cases ro with
              | lst h3 h4 => exact ⟨_, rfl, ⟨_, SqL.of h3⟩, q _ H1 W1 r1 x1 (Wk.ref rfl h1 eS)⟩
          · contradiction
          · cases e2
        · cases e2
  | ex c fs S1 =>
    rw [e] at q
    exact .inl ⟨W, ρ, S, rl, en, by rw [e]; exact q⟩
  | no => rw [e] at q; exact q.elim
/-- of ranges, pairs of lists: plain ones -/
theorem itemsL_of {pu : Bool} {k : Ik} {ds : List D} {S : Sto} {xs : List D} (h : itemsL pu k ds S = some xs) (hr : itemsR k ds S = none) : itemsOf k ds S = some xs := by
  unfold itemsL at h
  split at h
  · rename_i e; rw [e]; exact h
  · rw [hr] at h
    split at h <;> cases h
theorem sI_rng {pu : Bool} {tg a : Expr} {ia : IE} {p : Pos} (hg : Gl X "range") (hm : X.mg "range" = none) (ha : PEv G X B C Wx a ia) (hs : starEach [a] X.env = [(false, eval a X.env)]) : PI X tg (.Call (.Name "range" p) [a] [] pos) (tI G B C Wx pu .rng (.cons ia .nil)) := by
  refine pi_imp (pi_range1 hg hm (pa_cons ha pa_nil hs) hs) fun σ H Rr ⟨W, ρ, S, rl, en, q⟩ => ?_
  rw [evEs_one] at q
  refine ⟨W, ρ, S, rl, en, ?_⟩
  cases e : evE B C ia ρ S with
  | ok d S1 =>
    rw [e] at q
    simp only [Wc.R.bind_ok] at q
    split at q
    · exact q.elim
    · rename_i xs e2
      replace e2 := itemsL_of e2 rfl
      unfold itemsOf at e2
      split at e2
      all_goals first | contradiction | skip
      rename_i n _ hd
      cases hd
      · split at e2
        · rename_i hb
          cases e2
          intro v H1 W1 r1 x1 k1
          cases k1.int_of
          exact ⟨_, rfl, hb.1, hb.2, q _ H1 W1 r1 x1 (Wk.range0 _)⟩
        · cases e2
      · rename_i hd
        cases hd
      · rename_i hd
        cases hd
  | ex c fs S1 => rw [e] at q; exact q
  | no => rw [e] at q; exact q
theorem sI_rng2 {pu : Bool} {tg a b : Expr} {ies : IEs} {p : Pos} (hg : Gl X "range") (hm : X.mg "range" = none) (ha : PAv G X B C Wx [a, b] ies) (hs : starEach [a, b] X.env = [(false, eval a X.env), (false, eval b X.env)]) (hs2 : starEach [b] X.env = [(false, eval b X.env)]) (h2 : lenIEs ies = 2) : PI X tg (.Call (.Name "range" p) [a, b] [] pos) (tI G B C Wx pu .rng ies) := by
  refine pi_imp (pi_range2 hg hm ha hs hs2) fun σ H Rr ⟨W, ρ, S, rl, en, q⟩ => ?_
  refine ⟨W, ρ, S, rl, en, ?_⟩
  cases e : evEs B C ies ρ S with
  | ok ds S1 =>
    rw [e] at q
    simp only at q
    intro vs H1 W1 r1 x1 k1
    have hl : ds.length = 2 := (evEs_len e).trans h2
    split at q
    · exact q.elim
    · rename_i xs e2
      replace e2 := itemsL_of e2 rfl
      unfold itemsOf at e2
      split at e2
      all_goals first | contradiction | skip
      · simp at hl
      · rename_i i j
        split at e2
        · rename_i hb
          cases e2
          obtain ⟨v, u, rfl, k2, k3⟩ := RDs.two k1
          cases k2.int_of
          cases k3.int_of
          exact ⟨_, _, rfl, ⟨hb.1, hb.2.1, hb.2.2.1, hb.2.2.2⟩, q _ H1 W1 r1 x1 (Wk.range _ _)⟩
        · cases e2
      · simp at hl
  | ex c fs S1 => rw [e] at q; exact q
  | no => rw [e] at q; exact q
theorem RDs.rangeC {W : Wd} (lo c : Int) (n : Nat) : RDs G W ((List.range n).map fun (i : Nat) => V.int (lo + (i : Int) * c)) ((List.range n).map fun (i : Nat) => .t (.int (lo + (i : Int) * c))) := by
  generalize List.range n = l
  induction l with
  | nil => exact .nil
  | cons i l ih => exact .cons (.t (.int _)) ih
theorem Wk.rangeC {P : Sto → Prop} {H1 : Hp} {W1 : Wd} (lo c : Int) (n : Nat) : Wk G P H1 W1 (Itc lo c n) ((List.range n).map fun (i : Nat) => .t (.int (lo + (i : Int) * c))) := by
  have hl : ((List.range n).map fun (i : Nat) => V.int (lo + (i : Int) * c)).length = n := by simp
  refine Wk.seq (RDs.rangeC lo c n) (fun i H sm hi => by rw [hl] at hi; exact hi) (fun H sm => by rw [hl]; exact Nat.le_refl n) fun i H x H' sm y hi => ?_
  have hi' : i < n := by rw [hl] at hi; exact hi
  obtain ⟨h1, h2⟩ := y
  refine ⟨h1, ?_⟩
  rw [List.getElem?_map, h2]
  simp [hi']
theorem sI_rng3 {pu : Bool} {tg a b c : Expr} {ies : IEs} {p : Pos} (hg : Gl X "range") (hm : X.mg "range" = none) (ha : PAv G X B C Wx [a, b, c] ies) (hs : starEach [a, b, c] X.env = (false, eval a X.env) :: starEach [b, c] X.env) (hs2 : (backTo pos (starEach [b, c] X.env)).any (·.1) = false) (h3 : lenIEs ies = 3) : PI X tg (.Call (.Name "range" p) [a, b, c] [] pos) (tI G B C Wx pu .rng ies) := by
  refine pi_imp (pi_range3 hg hm ha hs hs2) fun σ H Rr ⟨W, ρ, S, rl, en, q⟩ => ?_
  refine ⟨W, ρ, S, rl, en, ?_⟩
  cases e : evEs B C ies ρ S with
  | ok ds S1 =>
    rw [e] at q
    simp only at q
    intro vs H1 W1 r1 x1 k1
    have hl : ds.length = 3 := (evEs_len e).trans h3
    split at q
    · exact q.elim
    · rename_i xs e2
      replace e2 := itemsL_of e2 rfl
      unfold itemsOf at e2
      split at e2
      all_goals first | contradiction | skip
      · simp at hl
      · simp at hl
      · rename_i i j k
        split at e2
        · rename_i hb
          cases e2
          cases k1 with
          | cons k2 k1 =>
            cases k1 with
            | cons k3 k1 =>
              cases k1 with
              | cons k4 k1 =>
                cases k1
                cases k2.int_of
                cases k3.int_of
                cases k4.int_of
                exact ⟨_, _, _, _, rfl, ⟨hb.1, hb.2.1, hb.2.2.1, (Int.toNat_of_nonneg hb.2.2.2).symm⟩, q _ H1 W1 r1 x1 (Wk.rangeC _ _ _)⟩
        · cases e2
  | ex c fs S1 => rw [e] at q; exact q
  | no => rw [e] at q; exact q
theorem sI_enu {pu : Bool} {a : Expr} {elts : List Expr} {kk : Nat} {tpos p : Pos} {ia : IE} (hK : X.K = G.K) (hg : Gl X "enumerate") (hm : X.mg "enumerate" = none) (ha : PEv G X B C Wx a ia) (hs : starEach [a] X.env = [(false, eval a X.env)]) :
    PI X (.Tuple elts kk tpos) (.Call (.Name "enumerate" p) [a] [] pos) (tI G B C Wx pu .enu (.cons ia .nil)) := by
  refine pi_imp (pi_enum hg hm (pa_cons ha pa_nil hs) hs) fun σ H Rr ⟨W, ρ, S, rl, en, q⟩ => ?_
  rw [evEs_one] at q
  rw [hK]
  refine ⟨W, ρ, S, rl, en, ?_⟩
  cases e : evE B C ia ρ S with
  | ok d S1 =>
    rw [e] at q
    simp only [Wc.R.bind_ok] at q
    intro v H1 W1 r1 x1 k1
    split at q
    · exact q.elim
    · rename_i xs e2
      unfold itemsL at e2
      split at e2
      · rename_i xs' e3
        cases e2
        unfold itemsOf at e3
        split at e3
        all_goals first | contradiction | skip
        rename_i ts hd
        cases hd; cases e3
        cases k1 with
        | t k1 =>
          cases k1 with
          | lst h h2 => exact ⟨_, _, rfl, SqL.of (r1.sub _ _ h), q _ H1 W1 r1 x1 (Wk.enuS fun H W S rl x _ => ⟨_, SqL.of (rl.sub _ _ (x.hf _ _ h)), RDs.mono x (RDs.ofT h2)⟩)⟩
      · split at e2
        · unfold itemsR at e2
          split at e2
          · contradiction
          · rename_i j hd
            cases hd
            rw [Option.map_eq_some_iff] at e2
            obtain ⟨ys, eA, rfl⟩ := e2
            have eS := asList_ref eA
            cases k1 with
            | @ref aa _ h1 =>
              have ro := r1.obj _ _ _ eS h1
              cases ro with
              | lst h3 h4 =>
                refine ⟨_, _, rfl, SqL.of h3, q _ H1 W1 r1 x1 (Wk.enuS fun H W S rl x hP => ?_)⟩
                have ro := rl.obj _ _ _ (Eq.trans hP eS) (Pre.at x.f h1)
                cases ro with
                | lst h5 h6 => exact ⟨_, SqL.of h5, h6⟩
          · cases e2
        · cases e2
  | ex c fs S1 => rw [e] at q; exact q
  | no => rw [e] at q; exact q
theorem sI_zip {pu : Bool} {a b : Expr} {elts : List Expr} {kk : Nat} {tpos p : Pos} {ies : IEs} (hK : X.K = G.K) (hg : Gl X "zip") (hm : X.mg "zip" = none) (ha : PAv G X B C Wx [a, b] ies) (hs : starEach [a, b] X.env = (false, eval a X.env) :: starEach [b] X.env) (hpl : (backTo pos (starEach [b] X.env)).any (·.1) = false) :
    PI X (.Tuple elts kk tpos) (.Call (.Name "zip" p) [a, b] [] pos) (tI G B C Wx pu .zip ies) := by
  refine pi_imp (pi_zip hg hm ha hs hpl) fun σ H Rr ⟨W, ρ, S, rl, en, q⟩ => ?_
  rw [hK]
  refine ⟨W, ρ, S, rl, en, ?_⟩
  cases e : evEs B C ies ρ S with
  | ok ds S1 =>
    rw [e] at q
    simp only at q
    intro vs H1 W1 r1 x1 k1
    split at q
    · exact q.elim
    · rename_i xs e2
      replace e2 := itemsL_of e2 rfl
      unfold itemsOf at e2
      split at e2
      all_goals first | contradiction | skip
      rename_i ts us
      cases e2
      obtain ⟨v, u, rfl, k2, k3⟩ := RDs.two k1
      cases k2 with
      | t k2 =>
        cases k2 with
        | lst h h2 =>
          cases k3 with
          | t k3 =>
            cases k3 with
            | lst h' h2' => exact ⟨_, _, _, _, rfl, SqL.of (r1.sub _ _ h), SqL.of (r1.sub _ _ h'), q _ H1 W1 r1 x1 (Wk.zipS h h' (RDs.ofT h2) (RDs.ofT h2'))⟩
  | ex c fs S1 => rw [e] at q; exact q
  | no => rw [e] at q; exact q
end
end Wc

/-! Wc: loops. -/
namespace Wc
open PySem PySem.Spec PyProof.Rows L2
section
variable {G : Gd} {X : Cx} {B : Tb} {C : Cal} {Wx : WX} {pos : Pos}
theorem drop_at {α : Type} {xs : List α} {i : Nat} (h : i < xs.length) : ∃ d, xs[i]? = some d ∧ xs.drop i = d :: xs.drop (i + 1) :=
  ⟨xs[i], by simp [h], List.drop_eq_getElem_cons h⟩
theorem itemsL_f {k : Ik} {ds : List D} {S : Sto} : itemsL false k ds S = itemsOf k ds S := by
  unfold itemsL
  split
  · rename_i e; rw [e]
  · rename_i e; rw [e]; rfl
theorem stands_of {k : Ik} {ds xs : List D} {S1 S2 : Sto} (h : itemsOf k ds S1 = some xs) : stands k ds S1 S2 := by
  unfold stands
  split
  · cases h
  · cases h
  · exact True.intro
theorem evS_fo {p : Pt} {k : Ik} {ies : IEs} {b : ISs} : evS B C (.fo p k ies b) = fun ρ S => stA (evEs B C ies ρ S) ρ fun ds S1 => match itemsOf k ds S1 with
      | some xs => foL p (evSs B C b) xs ρ S1
      | none => .no := by
  funext ρ S
  show (match evEs B C ies ρ S with | .ok d S1 => _ | .ex c fs S1 => _ | .no => _) = _
  cases evEs B C ies ρ S <;> rfl
theorem sS_fo {tg iter : Expr} {body : List Stmt} {p : Pt} {k : Ik} {ies : IEs} {b : ISs} (hp : PassesOwn (model X.prog X.w) X.A X.env X.xe) (hc : X.calm = true) (hi : PI X tg iter (tI G B C Wx false k ies)) (hg : PG X tg (gP X.K p)) (hb : PSsv G X B C Wx body b)
    (hs : ∀ x, foldedSetIterable iter X.env x = pure x) : PSv G X B C Wx (.For tg iter body [] pos) (.fo p k ies b) := by
  refine ps_imp (ps_for hp hc hi hg hb hs) fun D σ H ⟨W, ρ, S, rl, en, q⟩ => ?_
  have q : AftS G Wx D H W (stA (evEs B C ies ρ S) ρ fun ds S1 => match itemsOf k ds S1 with
      | some xs => foL p (evSs B C b) xs ρ S1
      | none => .no) := by rw [evS_fo] at q; exact q
  refine ⟨W, ρ, S, rl, en, ?_⟩
  cases e : evEs B C ies ρ S with
  | no => rw [e] at q; exact q.elim
  | ex c fs S1 => rw [e] at q; exact fun cls dx H1 W1 r1 x1 k1 => q cls dx σ H1 W1 r1 x1 (en.mono x1) k1
  | ok ds S1 =>
    rw [e] at q
    have q : AftS G Wx D H W (match itemsOf k ds S1 with | some xs => foL p (evSs B C b) xs ρ S1 | none => .no) := q
    cases e2 : itemsOf k ds S1 with
    | none => rw [e2] at q; exact q.elim
    | some xs =>
      rw [e2] at q
      simp only [itemsL_f, e2]
      intro J H1 W1 r1 x1 wk
      refine ⟨fun i m σ' H' => m = xs.length - i ∧ i ≤ xs.length ∧ ∃ W' ρ' S', Rel G H' W' S' ∧ Ext H1 W1 H' W' ∧ REn G W' σ' ρ' ∧ AftS G Wx D H' W' (foL p (evSs B C b) (xs.drop i) ρ' S'),
        ⟨xs.length, by simp, Nat.zero_le _, W1, ρ, S1, r1, Ext.refl, en.mono x1, by rw [List.drop_zero]; exact AftS.move q x1⟩, ?_⟩
      rintro i m σ' H' ⟨rfl, hi, W', ρ', S', r', x', e', a'⟩
      obtain ⟨hgo, hst, hy⟩ := wk H' W' S' r' x' (stands_of e2)
      by_cases hl : i < xs.length
      · obtain ⟨d, hd, hdr⟩ := drop_at hl
        refine .inr ⟨hgo i hl, fun σ2 H2 => ∃ W2 ρ2 S2, Rel G H2 W2 S2 ∧ Ext H1 W1 H2 W2 ∧ REn G W2 σ2 ρ2 ∧ AftS G Wx D H2 W2 (foL p (evSs B C b) (xs.drop (i + 1)) ρ2 S2), fun σ2 H2 ⟨W2, ρ2, S2, h1, h2, h3, h4⟩ => ⟨xs.length - (i + 1), by omega, rfl, hl, W2, ρ2, S2, h1, h2, h3, h4⟩, fun x H2 y => ?_⟩
        obtain ⟨W2, r2, x2, k2⟩ := hy i x H2 d hd y
        rw [hdr] at a'
        unfold foL at a'
        cases e3 : setP p d ρ' with
        | none => rw [e3] at a'; exact a'.elim
        | some ρ1 =>
          rw [e3] at a'
          refine gP_ok r2 k2 (e'.mono x2) e3 fun σ3 e4 => ⟨W2, ρ1, S', r2, e4, ?_⟩
          have a' : AftS G Wx D H' W' (match evSs B C b ρ1 S' with | .nx ρ2 S2 => foL p (evSs B C b) (xs.drop (i + 1)) ρ2 S2 | .ct ρ2 S2 => foL p (evSs B C b) (xs.drop (i + 1)) ρ2 S2 | .bk ρ2 S2 => .nx ρ2 S2 | r => r) := a'
          have a' := AftS.move a' x2
          cases e5 : evSs B C b ρ1 S' with
          | nx ρ2 S2 => rw [e5] at a'; exact fun σ4 H4 W4 r4 x4 e4 => ⟨W4, ρ2, S2, r4, (x'.trans x2).trans x4, e4, AftS.move a' x4⟩
          | ct ρ2 S2 => rw [e5] at a'; exact fun σ4 H4 W4 r4 x4 e4 => ⟨W4, ρ2, S2, r4, (x'.trans x2).trans x4, e4, AftS.move a' x4⟩
          | bk ρ2 S2 => rw [e5] at a'; exact a'
          | rt d S2 => rw [e5] at a'; exact a'
          | ex c fs ρ2 S2 => rw [e5] at a'; exact a'
          | no => rw [e5] at a'; exact a'
      · have hi' : i = xs.length := by omega
        subst hi'
        rw [List.drop_length] at a'
        exact .inl ⟨hst, a' σ' H' W' r' Ext.refl e'⟩
theorem evS_fol {p : Pt} {e : IE} {b : ISs} : evS B C (.fol p e b) = fun ρ S => stA (evEs B C (.cons e .nil) ρ S) ρ fun ds S1 => match ds with
      | [.ref k] => (match asList S1 (.ref k) with
        | some xs => folL k S1[k]? p (evSs B C b) xs ρ S1
        | none => .no)
      | [.t (.lst ts)] => foL p (evSs B C b) (ts.map .t) ρ S1
      | _ => .no := by
  funext ρ S
  show (match evE B C e ρ S with | .ok (.ref k) S1 => _ | .ok (.t (.lst ts)) S1 => _ | .ok _ _ => _ | .ex c fs S1 => _ | .no => _) = stA ((evE B C e ρ S).bind fun x S1 => .ok [x] S1) ρ _
  cases evE B C e ρ S with
  | ok d S1 =>
    cases d with
    | t x => cases x <;> rfl
    | _ => rfl
  | ex c fs S1 => rfl
  | no => rfl
/-- a loop over a list in the store that stands meanwhile -/
theorem sS_fol {tg iter : Expr} {body : List Stmt} {p : Pt} {e : IE} {b : ISs} (hp : PassesOwn (model X.prog X.w) X.A X.env X.xe) (hc : X.calm = true) (hi : PI X tg iter (tI G B C Wx true .seq (.cons e .nil))) (hg : PG X tg (gP X.K p)) (hb : PSsv G X B C Wx body b)
    (hs : ∀ x, foldedSetIterable iter X.env x = pure x) : PSv G X B C Wx (.For tg iter body [] pos) (.fol p e b) := by
  refine ps_imp (ps_for hp hc hi hg hb hs) fun D σ H ⟨W, ρ, S, rl, en, q⟩ => ?_
  have q : AftS G Wx D H W (stA (evEs B C (.cons e .nil) ρ S) ρ fun ds S1 => match ds with
      | [.ref k] => (match asList S1 (.ref k) with
        | some xs => folL k S1[k]? p (evSs B C b) xs ρ S1
        | none => .no)
      | [.t (.lst ts)] => foL p (evSs B C b) (ts.map .t) ρ S1
      | _ => .no) := by rw [evS_fol] at q; exact q
  refine ⟨W, ρ, S, rl, en, ?_⟩
  cases e1 : evEs B C (.cons e .nil) ρ S with
  | no => rw [e1] at q; exact q.elim
  | ex c fs S1 => rw [e1] at q; exact fun cls dx H1 W1 r1 x1 k1 => q cls dx σ H1 W1 r1 x1 (en.mono x1) k1
  | ok ds S1 =>
    rw [e1] at q
    have hd : (∃ k, ds = [.ref k]) ∨ ¬ ∃ k, ds = [.ref k] := Classical.em _
    rcases hd with ⟨k, rfl⟩ | hd
    · have q : AftS G Wx D H W (match asList S1 (.ref k) with | some xs => folL k S1[k]? p (evSs B C b) xs ρ S1 | none => .no) := q
      cases e2 : asList S1 (.ref k) with
      | none => rw [e2] at q; exact q.elim
      | some xs =>
        rw [e2] at q
        have il : itemsL true .seq [.ref k] S1 = some xs := by
          unfold itemsL itemsOf itemsR
          simp only [if_true]
          exact e2
        simp only [il]
        intro J H1 W1 r1 x1 wk
        refine ⟨fun i m σ' H' => m = xs.length - i ∧ i ≤ xs.length ∧ ∃ W' ρ' S', Rel G H' W' S' ∧ Ext H1 W1 H' W' ∧ REn G W' σ' ρ' ∧ AftS G Wx D H' W' (folL k S1[k]? p (evSs B C b) (xs.drop i) ρ' S'),
          ⟨xs.length, by simp, Nat.zero_le _, W1, ρ, S1, r1, Ext.refl, en.mono x1, by rw [List.drop_zero]; exact AftS.move q x1⟩, ?_⟩
        rintro i m σ' H' ⟨rfl, hi, W', ρ', S', r', x', e', a'⟩
        have hst : S'[k]? = S1[k]? := by
          cases hx : xs.drop i with
          | nil =>
            rw [hx] at a'
            unfold folL at a'
            split at a'
            · assumption
            · exact a'.elim
          | cons d t =>
            rw [hx] at a'
            unfold folL at a'
            split at a'
            · assumption
            · exact a'.elim
        obtain ⟨hgo, hst2, hy⟩ := wk H' W' S' r' x' hst
        by_cases hl : i < xs.length
        · obtain ⟨d, hd, hdr⟩ := drop_at hl
          refine .inr ⟨hgo i hl, fun σ2 H2 => ∃ W2 ρ2 S2, Rel G H2 W2 S2 ∧ Ext H1 W1 H2 W2 ∧ REn G W2 σ2 ρ2 ∧ AftS G Wx D H2 W2 (folL k S1[k]? p (evSs B C b) (xs.drop (i + 1)) ρ2 S2), fun σ2 H2 ⟨W2, ρ2, S2, h1, h2, h3, h4⟩ => ⟨xs.length - (i + 1), by omega, rfl, hl, W2, ρ2, S2, h1, h2, h3, h4⟩, fun x H2 y => ?_⟩
          obtain ⟨W2, r2, x2, k2⟩ := hy i x H2 d hd y
          rw [hdr] at a'
          unfold folL at a'
          rw [if_pos hst] at a'
          cases e3 : setP p d ρ' with
          | none => rw [e3] at a'; exact a'.elim
          | some ρ1 =>
            rw [e3] at a'
            refine gP_ok r2 k2 (e'.mono x2) e3 fun σ3 e4 => ⟨W2, ρ1, S', r2, e4, ?_⟩
            have a' : AftS G Wx D H' W' (match evSs B C b ρ1 S' with | .nx ρ2 S2 => folL k S1[k]? p (evSs B C b) (xs.drop (i + 1)) ρ2 S2 | .ct ρ2 S2 => folL k S1[k]? p (evSs B C b) (xs.drop (i + 1)) ρ2 S2 | .bk ρ2 S2 => .nx ρ2 S2 | r => r) := a'
            have a' := AftS.move a' x2
            cases e5 : evSs B C b ρ1 S' with
            | nx ρ2 S2 => rw [e5] at a'; exact fun σ4 H4 W4 r4 x4 e4 => ⟨W4, ρ2, S2, r4, (x'.trans x2).trans x4, e4, AftS.move a' x4⟩
            | ct ρ2 S2 => rw [e5] at a'; exact fun σ4 H4 W4 r4 x4 e4 => ⟨W4, ρ2, S2, r4, (x'.trans x2).trans x4, e4, AftS.move a' x4⟩
            | bk ρ2 S2 => rw [e5] at a'; exact a'
            | rt d S2 => rw [e5] at a'; exact a'
            | ex c fs ρ2 S2 => rw [e5] at a'; exact a'
            | no => rw [e5] at a'; exact a'
        · have hi' : i = xs.length := by omega
          subst hi'
          rw [List.drop_length] at a'
          unfold folL at a'
          rw [if_pos hst] at a'
          exact .inl ⟨hst2, a' σ' H' W' r' Ext.refl e'⟩
    · by_cases hd2 : ∃ ts, ds = [.t (.lst ts)]
      · obtain ⟨ts, rfl⟩ := hd2
        have q : AftS G Wx D H W (foL p (evSs B C b) (ts.map .t) ρ S1) := q
        have e2 : itemsOf .seq [.t (.lst ts)] S1 = some (ts.map .t) := rfl
        have il : itemsL true .seq [.t (.lst ts)] S1 = some (ts.map .t) := rfl
        simp only [il]
        intro J H1 W1 r1 x1 wk
        refine ⟨fun i m σ' H' => m = (ts.map Wc.D.t).length - i ∧ i ≤ (ts.map Wc.D.t).length ∧ ∃ W' ρ' S', Rel G H' W' S' ∧ Ext H1 W1 H' W' ∧ REn G W' σ' ρ' ∧ AftS G Wx D H' W' (foL p (evSs B C b) ((ts.map Wc.D.t).drop i) ρ' S'),
          ⟨(ts.map Wc.D.t).length, by simp, Nat.zero_le _, W1, ρ, S1, r1, Ext.refl, en.mono x1, by rw [List.drop_zero]; exact AftS.move q x1⟩, ?_⟩
        rintro i m σ' H' ⟨rfl, hi, W', ρ', S', r', x', e', a'⟩
        obtain ⟨hgo, hst, hy⟩ := wk H' W' S' r' x' (stands_of (S2 := S') e2)
        by_cases hl : i < (ts.map Wc.D.t).length
        · obtain ⟨d, hd, hdr⟩ := drop_at hl
          refine .inr ⟨hgo i hl, fun σ2 H2 => ∃ W2 ρ2 S2, Rel G H2 W2 S2 ∧ Ext H1 W1 H2 W2 ∧ REn G W2 σ2 ρ2 ∧ AftS G Wx D H2 W2 (foL p (evSs B C b) ((ts.map Wc.D.t).drop (i + 1)) ρ2 S2), fun σ2 H2 ⟨W2, ρ2, S2, h1, h2, h3, h4⟩ => ⟨(ts.map Wc.D.t).length - (i + 1), by omega, rfl, hl, W2, ρ2, S2, h1, h2, h3, h4⟩, fun x H2 y => ?_⟩
          obtain ⟨W2, r2, x2, k2⟩ := hy i x H2 d hd y
          rw [hdr] at a'
          unfold foL at a'
          cases e3 : setP p d ρ' with
          | none => rw [e3] at a'; exact a'.elim
          | some ρ1 =>
            rw [e3] at a'
            refine gP_ok r2 k2 (e'.mono x2) e3 fun σ3 e4 => ⟨W2, ρ1, S', r2, e4, ?_⟩
            have a' : AftS G Wx D H' W' (match evSs B C b ρ1 S' with | .nx ρ2 S2 => foL p (evSs B C b) ((ts.map Wc.D.t).drop (i + 1)) ρ2 S2 | .ct ρ2 S2 => foL p (evSs B C b) ((ts.map Wc.D.t).drop (i + 1)) ρ2 S2 | .bk ρ2 S2 => .nx ρ2 S2 | r => r) := a'
            have a' := AftS.move a' x2
            cases e5 : evSs B C b ρ1 S' with
            | nx ρ2 S2 => rw [e5] at a'; exact fun σ4 H4 W4 r4 x4 e4 => ⟨W4, ρ2, S2, r4, (x'.trans x2).trans x4, e4, AftS.move a' x4⟩
            | ct ρ2 S2 => rw [e5] at a'; exact fun σ4 H4 W4 r4 x4 e4 => ⟨W4, ρ2, S2, r4, (x'.trans x2).trans x4, e4, AftS.move a' x4⟩
            | bk ρ2 S2 => rw [e5] at a'; exact a'
            | rt d S2 => rw [e5] at a'; exact a'
            | ex c fs ρ2 S2 => rw [e5] at a'; exact a'
            | no => rw [e5] at a'; exact a'
        · have hi' : i = (ts.map Wc.D.t).length := by omega
          subst hi'
          rw [List.drop_length] at a'
          exact .inl ⟨hst, a' σ' H' W' r' Ext.refl e'⟩
      exfalso
      rcases ds with _ | ⟨d, _ | ⟨e, l⟩⟩
      · exact (show False from q)
      · cases d with
        | t x =>
          cases x with
          | lst ts => exact hd2 ⟨ts, rfl⟩
          | _ => exact (show False from q)
        | ref k => exact hd ⟨k, rfl⟩
        | tup x => exact (show False from q)
      · cases d with
        | t x => cases x <;> exact (show False from q)
        | _ => exact (show False from q)
theorem sS_wh {c : Expr} {ic : IE} {body : List Stmt} {b : ISs} (hp : PassesOwn (model X.prog X.w) X.A X.env X.xe) (hc : PTv G X B C Wx c ic) (hb : PSsv G X B C Wx body b) : PSv G X B C Wx (.While c body [] pos) (.wh ic b) := by
  refine ps_imp (ps_while hp hc hb) fun D σ H ⟨W, ρ, S, rl, en, q⟩ => ?_
  have q : AftS G Wx D H W (whL (evE B C ic) (evSs B C b) wf ρ S) := q
  refine ⟨fun m σ' H' => ∃ W' ρ' S', Rel G H' W' S' ∧ REn G W' σ' ρ' ∧ AftS G Wx D H' W' (whL (evE B C ic) (evSs B C b) m ρ' S'), ⟨wf, W, ρ, S, rl, en, q⟩, ?_⟩
  rintro m σ' H' ⟨W', ρ', S', r', e', a'⟩
  cases m with
  | zero => exact a'.elim
  | succ n =>
    unfold whL at a'
    refine ⟨W', ρ', S', r', e', ?_⟩
    cases e1 : evE B C ic ρ' S' with
    | no => rw [e1] at a'; exact a'.elim
    | ex c fs S1 => rw [e1] at a'; exact fun cls dx H1 W1 r1 x1 k1 => a' cls dx σ' H1 W1 r1 x1 (e'.mono x1) k1
    | ok d S1 =>
      rw [e1] at a'
      intro v H1 W1 r1 x1 k1
      have bad : (∀ b, d ≠ .t (.bl b)) → False := fun hn => by
        cases d with
        | t x =>
          cases x with
          | bl b => exact hn b rfl
          | _ => exact a'.elim
        | _ => exact a'.elim
      by_cases hd : ∃ b, d = .t (.bl b)
      · obtain ⟨b0, rfl⟩ := hd
        cases k1.bl_of
        refine ⟨b0, rfl, ?_⟩
        cases b0 with
        | false => exact iteF (a' σ' H1 W1 r1 x1 (e'.mono x1))
        | true =>
          refine iteT ⟨fun σ4 H4 => ∃ W4 ρ2 S2, Rel G H4 W4 S2 ∧ REn G W4 σ4 ρ2 ∧ AftS G Wx D H4 W4 (whL (evE B C ic) (evSs B C b) n ρ2 S2), fun σ4 H4 h4 => ⟨n, Nat.lt_succ_self n, h4⟩, W1, ρ', S1, r1, e'.mono x1, ?_⟩
          have a' : AftS G Wx D H' W' (match evSs B C b ρ' S1 with | .nx ρ2 S2 => whL (evE B C ic) (evSs B C b) n ρ2 S2 | .ct ρ2 S2 => whL (evE B C ic) (evSs B C b) n ρ2 S2 | .bk ρ2 S2 => .nx ρ2 S2 | r => r) := a'
          have a' := AftS.move a' x1
          cases e5 : evSs B C b ρ' S1 with
          | nx ρ2 S2 => rw [e5] at a'; exact fun σ4 H4 W4 r4 x4 e4 => ⟨W4, ρ2, S2, r4, e4, AftS.move a' x4⟩
          | ct ρ2 S2 => rw [e5] at a'; exact fun σ4 H4 W4 r4 x4 e4 => ⟨W4, ρ2, S2, r4, e4, AftS.move a' x4⟩
          | bk ρ2 S2 => rw [e5] at a'; exact a'
          | rt d S2 => rw [e5] at a'; exact a'
          | ex c fs ρ2 S2 => rw [e5] at a'; exact a'
          | no => rw [e5] at a'; exact a'
      · exact (bad fun b hb => hd ⟨b, hb⟩).elim
/-! ### comprehensions -/
theorem pl_none {H : Hp} {D : Addr} (h : H D = none) : ∀ v, H D = some v → pl1 v = true := fun v e => by rw [h] at e; cases e
theorem pl_some {H : Hp} {D : Addr} {u : HO} (h : H D = some u) (hu : pl1 u = true := by rfl) : ∀ v, H D = some v → pl1 v = true := fun v e => by rw [h] at e; cases e; exact hu
theorem Rel.outside {H : Hp} {W : Wd} {S : Sto} {D : Addr} {u : HO} (r : Rel G H W S) (h0 : W.Hf D = none) (hF : D ∉ W.F) (hp : ∀ v, H D = some v → pl1 v = true) : Rel G (upd H D u) W S := by
  have e : ∀ a, a ≠ D → upd H D u a = H a := fun a h => upd_ne h
  refine ⟨⟨tabs_keep r.tab.t fun a v h n => ?_, fun a ha v h => ?_, r.tab.h⟩, fun a x h => ?_, r.len, r.nd, fun a h => ?_, r.apart, fun k o a h1 h2 => ?_⟩
  · have : a ≠ D := fun z => by subst z; rw [hp v h] at n; cases n
    rw [e a this]; exact h
  · have : a ≠ D := fun z => hF (z ▸ ha)
    rw [e a this] at h; exact r.tab.f a ha v h
  · have : a ≠ D := fun z => by rw [z, h0] at h; cases h
    rw [e a this]; exact r.sub a x h
  · have : a ≠ D := fun z => hF (z ▸ h)
    rw [e a this]; exact r.out a h
  · have : a ≠ D := fun z => hF (z ▸ r.inF h2)
    exact (r.obj k o a h1 h2).mono (fun x hx _ => by rw [e a this]; exact hx) (Same.refl _) (List.prefix_refl _)
theorem Ext.outside {H1 H : Hp} {W1 W : Wd} {D : Addr} {u : HO} (x : Ext H1 W1 H W) (h1 : Fre H1 D) : Ext H1 W1 (upd H D u) W := by
  refine ⟨x.hf, x.f, fun a y h n k => ?_, fun a y h k => ?_, x.fresh, x.freshF⟩
  · have : a ≠ D := fun z => by subst z; exact h1 y h k
    rw [upd_ne this]; exact x.old a y h n k
  · have : a ≠ D := fun z => by subst z; exact h1 y h k
    rw [upd_ne this]; exact x.live a y h k
/-- what was made on the way is taken in: frozen -/
theorem adoptF {H1 H : Hp} {W1 W : Wd} {S : Sto} {D : Addr} {u : HO} (r : Rel G H W S) (x : Ext H1 W1 H W) (h1 : Fre H1 D) (h0 : W.Hf D = none) (hF : D ∉ W.F) (hD : H D = some u) (hu : pl1 u = true := by rfl) :
    Rel G H ⟨upd W.Hf D u, W.F⟩ S ∧ Ext H1 W1 H ⟨upd W.Hf D u, W.F⟩ ∧ Same W.Hf (upd W.Hf D u) := by
  have s1 : Same W.Hf (upd W.Hf D u) := fun b y e => by rw [upd_ne (ne_of_none e h0)]; exact e
  refine ⟨⟨⟨r.tab.t, r.tab.f, fun a y h => ?_⟩, fun a y h => ?_, r.len, r.nd, r.out, fun k o a h1 h2 hd => ?_, fun k o a h1 h2 => (r.obj k o a h1 h2).mono (fun _ h _ => h) s1 (List.prefix_refl _)⟩, ⟨x.hf.trans s1, x.f, x.old, x.live, fun a h => ?_, x.freshF⟩, s1⟩
  · have h : upd W.Hf D u a = some y := h
    by_cases z : a = D
    · subst z; rw [upd_same] at h; cases h; exact hu
    · rw [upd_ne z] at h; exact r.tab.h a y h
  · have h : upd W.Hf D u a = some y := h
    by_cases z : a = D
    · subst z; rw [upd_same] at h; cases h; exact hD
    · rw [upd_ne z] at h; exact r.sub a y h
  · have z : a ≠ D := fun z => hF (z ▸ r.inF h2)
    show upd W.Hf D u a = none
    rw [upd_ne z]; exact r.apart k o a h1 h2 hd
  · by_cases z : a = D
    · subst z; exact .inr (.inl h1)
    · have h' : upd W.Hf D u a ≠ none := h
      rw [upd_ne z] at h'; exact x.fresh a h'
/-- .. as a thing -/
theorem adoptA {H1 H : Hp} {W1 W : Wd} {S : Sto} {D : Addr} {u : HO} {o : O} (r : Rel G H W S) (x : Ext H1 W1 H W) (h1 : Fre H1 D) (h0 : W.Hf D = none) (hF : D ∉ W.F) (hD : H D = some u) (ho : RO G H ⟨W.Hf, W.F ++ [D]⟩ D o) (hu : pl1 u = true := by rfl) :
    Rel G H ⟨W.Hf, W.F ++ [D]⟩ (S ++ [o]) ∧ Ext H1 W1 H ⟨W.Hf, W.F ++ [D]⟩ ∧ RD G ⟨W.Hf, W.F ++ [D]⟩ (.ref D) (.ref S.length) := by
  have pr : W.F <+: W.F ++ [D] := List.prefix_append _ _
  have spl : ∀ {k : Nat} {a : Addr}, (W.F ++ [D])[k]? = some a → (k < W.F.length ∧ W.F[k]? = some a) ∨ (k = W.F.length ∧ a = D) := fun {k a} h => by
    by_cases hk : k < W.F.length
    · rw [List.getElem?_append_left hk] at h; exact .inl ⟨hk, h⟩
    · have hk' := (List.getElem?_eq_some_iff.mp h).1
      have e : k = W.F.length := by simp at hk'; omega
      subst e
      exact .inr ⟨rfl, by simpa using h.symm⟩
  have splS : ∀ {k : Nat} {q : O}, (S ++ [o])[k]? = some q → (k < S.length ∧ S[k]? = some q) ∨ (k = S.length ∧ q = o) := fun {k q} h => by
    by_cases hk : k < S.length
    · rw [List.getElem?_append_left hk] at h; exact .inl ⟨hk, h⟩
    · have hk' := (List.getElem?_eq_some_iff.mp h).1
      have e : k = S.length := by simp at hk'; omega
      subst e
      exact .inr ⟨rfl, by simpa using h.symm⟩
  refine ⟨⟨⟨r.tab.t, fun a h v e => ?_, r.tab.h⟩, r.sub, by simp [r.len], fun i j a e1 e2 => ?_, fun a h => ?_, fun k q a e1 e2 hd => ?_, fun k q a e1 e2 => ?_⟩, ⟨x.hf, x.f.trans pr, x.old, x.live, x.fresh, fun a h => ?_⟩, .ref (by show (W.F ++ [D])[S.length]? = some D; rw [← r.len]; simp)⟩
  · rcases List.mem_append.mp h with h | h
    · exact r.tab.f a h v e
    · simp at h; subst h; rw [hD] at e; cases e; exact hu
  · rcases spl e1 with ⟨l1, f1⟩ | ⟨l1, f1⟩ <;> rcases spl e2 with ⟨l2, f2⟩ | ⟨l2, f2⟩
    · exact r.nd i j a f1 f2
    · subst f2; exact (hF (List.mem_of_getElem? f1)).elim
    · subst f1; exact (hF (List.mem_of_getElem? f2)).elim
    · omega
  · rcases List.mem_append.mp h with h | h
    · exact r.out a h
    · simp at h; subst h; exact ⟨_, hD⟩
  · rcases spl e2 with ⟨l2, f2⟩ | ⟨l2, f2⟩
    · rcases splS e1 with ⟨l1, f1⟩ | ⟨l1, f1⟩
      · exact r.apart k q a f1 f2 hd
      · rw [r.len] at l2; omega
    · subst f2; exact h0
  · rcases spl e2 with ⟨l2, f2⟩ | ⟨l2, f2⟩
    · rcases splS e1 with ⟨l1, f1⟩ | ⟨l1, f1⟩
      · exact (r.obj k q a f1 f2).mono (fun _ h _ => h) (Same.refl _) pr
      · rw [r.len] at l2; omega
    · rcases splS e1 with ⟨l1, f1⟩ | ⟨l1, f1⟩
      · rw [r.len] at l2; omega
      · subst f2; subst f1; exact ho
  · rcases List.mem_append.mp h with h | h
    · exact x.freshF a h
    · simp at h; subst h; exact .inr h1
theorem adopt {H1 H : Hp} {W1 W : Wd} {S : Sto} {D : Addr} {acc : List V} {ys : List Wc.D} {m : Bool} {Q : VK} {Wz : Value → Option Addr → Hp → Prop} (r : Rel G H W S) (x : Ext H1 W1 H W) (h1 : H1 D = none) (h0 : W.Hf D = none) (hF : D ∉ W.F) (hD : H D = some (.lst acc)) (k : RDs G W acc ys)
    (q : Aft G (fun W' v d => RD G W' v d) Wz H1 W1 Q (mkL m ys S)) : Q (.ref D) H := by
  unfold mkL at q
  cases m with
  | false =>
    rw [if_neg (by simp)] at q
    cases e : pls ys with
    | none => rw [e] at q; exact q.elim
    | some ts =>
      rw [e] at q
      have e2 := pls_eq e
      subst e2
      obtain ⟨r2, x2, s1⟩ := adoptF r x (Fre.of h1) h0 hF hD
      exact q (.ref D) H _ r2 x2 (.t (.lst upd_same (RTs.mono s1 k.toT)))
  | true =>
    rw [if_pos rfl] at q
    have kk : RDs G ⟨W.Hf, W.F ++ [D]⟩ acc ys := RDs.mono' (W := W) (W' := ⟨W.Hf, W.F ++ [D]⟩) (Same.refl _) (List.prefix_append _ _) k
    obtain ⟨r2, x2, k2⟩ := adoptA r x (Fre.of h1) h0 hF hD (.lst hD kk)
    exact q _ H _ r2 x2 k2
/-! ### dict displays -/
theorem RDs_map {W : Wd} {vs : List V} {ds : List (Ky × Wc.D)} (h : RDs G W vs (ds.map (·.2))) : vs.length = ds.length := by rw [h.length, List.length_map]
theorem putKy_ok {W : Wd} {k : Ky} {v : V} {d : Wc.D} (kd : RD G W v d) : ∀ {kvs : List (Key × V)} {ds : List (Ky × Wc.D)}, kvs.map (·.1) = ds.map (·.1) → RDs G W (kvs.map (·.2)) (ds.map (·.2)) →
    (putK kvs k v).map (·.1) = (putKy ds k d).map (·.1) ∧ RDs G W ((putK kvs k v).map (·.2)) ((putKy ds k d).map (·.2)) := by
  intro kvs ds hk hd
  have hany : ∀ {kvs : List (Key × V)} {ds : List (Ky × Wc.D)}, kvs.map (·.1) = ds.map (·.1) → (kvs.any fun kv => decide (kv.1 = k)) = (ds.any fun kv => decide (kv.1 = k)) := by
    intro kvs
    induction kvs with
    | nil => intro ds h; cases ds with | nil => rfl | cons => simp at h
    | cons p kvs ih =>
      intro ds h
      cases ds with
      | nil => simp at h
      | cons q ds =>
        simp only [List.map_cons, List.cons.injEq] at h
        simp only [List.any_cons, h.1, ih h.2]
  have hmap : ∀ {kvs : List (Key × V)} {ds : List (Ky × Wc.D)}, kvs.map (·.1) = ds.map (·.1) → RDs G W (kvs.map (·.2)) (ds.map (·.2)) →
      (kvs.map (fun kv => if kv.1 = k then (kv.1, v) else kv)).map (·.1) = (ds.map (fun kv => if kv.1 = k then (kv.1, d) else kv)).map (·.1) ∧ RDs G W ((kvs.map (fun kv => if kv.1 = k then (kv.1, v) else kv)).map (·.2)) ((ds.map (fun kv => if kv.1 = k then (kv.1, d) else kv)).map (·.2)) := by
    intro kvs
    induction kvs with
    | nil => intro ds h r; cases ds with | nil => exact ⟨rfl, .nil⟩ | cons => simp at h
    | cons p kvs ih =>
      intro ds h r
      cases ds with
      | nil => simp at h
      | cons q ds =>
        obtain ⟨p1, p2⟩ := p
        obtain ⟨q1, q2⟩ := q
        simp only [List.map_cons, List.cons.injEq] at h
        obtain ⟨rfl, h⟩ := h
        cases r with
        | cons r1 r2 =>
          obtain ⟨i1, i2⟩ := ih h r2
          by_cases e : p1 = k
          · subst e
            simp only [List.map_cons, if_true]
            exact ⟨by rw [i1], .cons kd i2⟩
          · simp only [List.map_cons, if_neg e]
            exact ⟨by rw [i1], .cons r1 i2⟩
  unfold putK putKy
  rw [hany hk]
  by_cases h : (ds.any fun kv => decide (kv.1 = k)) = true
  · rw [if_pos h, if_pos h]; exact hmap hk hd
  · rw [if_neg h, if_neg h]
    rw [List.map_append, List.map_append, List.map_append, List.map_append, hk]
    exact ⟨rfl, hd.append (.cons kd .nil)⟩
theorem merge_ok {W : Wd} : ∀ {more : List (Key × V)} {mds : List (Ky × Wc.D)} {kvs : List (Key × V)} {ds : List (Ky × Wc.D)}, more.map (·.1) = mds.map (·.1) → RDs G W (more.map (·.2)) (mds.map (·.2)) → kvs.map (·.1) = ds.map (·.1) → RDs G W (kvs.map (·.2)) (ds.map (·.2)) →
    (mergeK kvs more).map (·.1) = (mds.foldl (fun acc p => putKy acc p.1 p.2) ds).map (·.1) ∧ RDs G W ((mergeK kvs more).map (·.2)) ((mds.foldl (fun acc p => putKy acc p.1 p.2) ds).map (·.2))
  | [], [], kvs, ds, _, _, h, r => ⟨h, r⟩
  | p :: more, q :: mds, kvs, ds, hm, rm, h, r => by
    obtain ⟨p1, p2⟩ := p
    obtain ⟨q1, q2⟩ := q
    simp only [List.map_cons, List.cons.injEq] at hm
    obtain ⟨e0, hm'⟩ := hm
    subst e0
    cases rm with
    | cons r1 r2 =>
      obtain ⟨i1, i2⟩ := putKy_ok (k := p1) r1 h r
      have := merge_ok hm' r2 i1 i2
      exact this
  | [], _ :: _, _, _, hm, _, _, _ => by simp at hm
  | _ :: _, [], _, _, hm, _, _, _ => by simp at hm
theorem plk_eq : ∀ {ds : List (Ky × Wc.D)} {ts : List (Ky × T)}, plk ds = some ts → ds = ts.map fun p => (p.1, .t p.2)
  | [], ts, h => by simp [plk] at h; subst h; rfl
  | (k, .t x) :: r, ts, h => by
    simp only [plk, Option.map_eq_some_iff] at h
    obtain ⟨us, h, rfl⟩ := h
    simp [plk_eq h]
  | (_, .ref _) :: r, ts, h => by simp [plk] at h
  | (_, .tup _) :: r, ts, h => by simp [plk] at h
theorem adoptD {H1 H : Hp} {W1 W : Wd} {S : Sto} {D : Addr} {kvs : List (Key × V)} {ds : List (Ky × Wc.D)} {m : Bool} {Q : VK} {Wz : Value → Option Addr → Hp → Prop} (r : Rel G H W S) (x : Ext H1 W1 H W) (h1 : H1 D = none) (h0 : W.Hf D = none) (hF : D ∉ W.F) (hD : H D = some (.dK kvs))
    (hk : kvs.map (·.1) = ds.map (·.1)) (k : RDs G W (kvs.map (·.2)) (ds.map (·.2))) (q : Aft G (fun W' v d => RD G W' v d) Wz H1 W1 Q (mkD m ds S)) : Q (.ref D) H := by
  unfold mkD at q
  cases m with
  | false =>
    rw [if_neg (by simp)] at q
    cases e : plk ds with
    | none => rw [e] at q; exact q.elim
    | some ts =>
      rw [e] at q
      have e2 := plk_eq e
      subst e2
      obtain ⟨r2, x2, s1⟩ := adoptF r x (Fre.of h1) h0 hF hD
      have k' : RDs G W (kvs.map (·.2)) ((ts.map (·.2)).map .t) := by simpa [Function.comp_def] using k
      exact q (.ref D) H _ r2 x2 (.t (.dct upd_same (by simpa [Function.comp_def] using hk) (RTs.mono s1 k'.toT)))
  | true =>
    rw [if_pos rfl] at q
    have kk : RDs G ⟨W.Hf, W.F ++ [D]⟩ (kvs.map (·.2)) (ds.map (·.2)) := RDs.mono' (W := W) (W' := ⟨W.Hf, W.F ++ [D]⟩) (Same.refl _) (List.prefix_append _ _) k
    obtain ⟨r2, x2, k2⟩ := adoptA r x (Fre.of h1) h0 hF hD (.dct hD hk kk)
    exact q _ H _ r2 x2 k2
/-- the pairs of a display -/
def trsOf (G : Gd) (B : Tb) (C : Cal) (Wx : WX) : IEs → List (TE × TE)
  | .cons k (.cons v r) => (tE G (evE B C k) Wx, tE G (evE B C v) Wx) :: trsOf G B C Wx r
  | _ => []
theorem tE_at0 {eva : Ev → Sto → R Wc.D} {f : Wc.D → Sto → R Wc.D} {σ : L2.St} {H0 H : Hp} {W0 W : Wd} {ρ : Ev} {S : Sto} {Q : VK} (rl : Rel G H W S) (en : REn G W σ ρ) (x0 : Ext H0 W0 H W)
    (q : Aft G (fun W' v d => RD G W' v d) (fun cls dx H' => Wx cls dx σ H') H0 W0 Q ((eva ρ S).bind f)) :
    tE G eva Wx σ H (fun v H1 => ∃ d S1 W1, Rel G H1 W1 S1 ∧ Ext H W H1 W1 ∧ REn G W1 σ ρ ∧ RD G W1 v d ∧ Aft G (fun W' v d => RD G W' v d) (fun cls dx H' => Wx cls dx σ H') H0 W0 Q (f d S1)) := by
  refine ⟨W, ρ, S, rl, en, ?_⟩
  cases e : eva ρ S with
  | ok d S1 => rw [e] at q; exact fun v H1 W1 r1 x1 k1 => ⟨d, S1, W1, r1, x1, en.mono x1, k1, q⟩
  | ex c fs S1 => rw [e] at q; exact fun cls dx H1 W1 r1 x1 k1 => q cls dx H1 W1 r1 (x0.trans x1) k1
  | no => rw [e] at q; exact q
theorem tPairs_ok {σ : L2.St} : ∀ {ies : IEs} {H0 H : Hp} {W0 W : Wd} {ρ : Ev} {S : Sto} {Q : List (V × V) → Hp → Prop} {f : List (Ky × Wc.D) → Sto → R Wc.D} {Wz : VK}, Rel G H W S → REn G W σ ρ → Ext H0 W0 H W →
    Aft G (fun W' v d => RD G W' v d) (fun cls dx H' => Wx cls dx σ H') H0 W0 Wz ((evPs B C ies ρ S).bind f) →
    (∀ (kvs : List (Key × V)) (ds : List (Ky × Wc.D)) H' W' S', Rel G H' W' S' → Ext H W H' W' → kvs.map (·.1) = ds.map (·.1) → RDs G W' (kvs.map (·.2)) (ds.map (·.2)) → Aft G (fun W' v d => RD G W' v d) (fun cls dx H' => Wx cls dx σ H') H0 W0 Wz (f ds S') → 2 * ds.length ≤ lenIEs ies → Q (kvs.map fun kv => (kV kv.1, kv.2)) H') →
    tPairs (trsOf G B C Wx ies) σ H Q
  | .nil, H0, H, W0, W, ρ, S, Q, f, Wz, rl, en, x0, q, hk => hk [] [] H W S rl Ext.refl rfl .nil q (Nat.le_refl _)
  | .cons a .nil, H0, H, W0, W, ρ, S, Q, f, Wz, rl, en, x0, q, hk => q.elim
  | .cons a (.cons b r), H0, H, W0, W, ρ, S, Q, f, Wz, rl, en, x0, q, hk => by
    have q : Aft G (fun W' v d => RD G W' v d) (fun cls dx H' => Wx cls dx σ H') H0 W0 Wz ((evE B C a ρ S).bind fun x S1 => (evE B C b ρ S1).bind fun y S2 => match kyOf x with
        | none => .no
        | some ky => (evPs B C r ρ S2).bind fun ps S3 => f ((ky, y) :: ps) S3) := by
      have e : ((evPs B C (.cons a (.cons b r)) ρ S).bind f) = ((evE B C a ρ S).bind fun x S1 => (evE B C b ρ S1).bind fun y S2 => match kyOf x with
        | none => .no
        | some ky => (evPs B C r ρ S2).bind fun ps S3 => f ((ky, y) :: ps) S3) := by
        show (((evE B C a ρ S).bind fun x S1 => (evE B C b ρ S1).bind fun y S2 => match kyOf x with
          | none => R.no
          | some ky => (evPs B C r ρ S2).bind fun ps S3 => .ok ((ky, y) :: ps) S3).bind f) = _
        cases evE B C a ρ S with
        | ok x S1 =>
          simp only [Wc.R.bind_ok]
          cases evE B C b ρ S1 with
          | ok y S2 =>
            simp only [Wc.R.bind_ok]
            cases kyOf x with
            | none => rfl
            | some ky =>
              simp only
              cases evPs B C r ρ S2 <;> rfl
          | _ => rfl
        | _ => rfl
      rw [← e]; exact q
    refine tE_imp (tE_at0 rl en x0 q) fun x H1 ⟨dx, S1, W1, r1, x1, e1, k1, a1⟩ => ?_
    refine tE_imp (tE_at0 r1 e1 (x0.trans x1) a1) fun y H2 ⟨dy, S2, W2, r2, x2, e2, k2, a2⟩ => ?_
    cases ek : kyOf dx with
    | none => rw [ek] at a2; exact a2.elim
    | some ky =>
      rw [ek] at a2
      refine tPairs_ok (f := fun ps S3 => f ((ky, dy) :: ps) S3) (Wz := Wz) r2 e2 ((x0.trans x1).trans x2) a2 fun kvs ds H' W' S' r' x' h1 h2 h3 h4 => ?_
      have hv := kyOf_ok ((k1.mono x2).mono x') ek
      have := hk ((ky, y) :: kvs) ((ky, dy) :: ds) H' W' S' r' ((x1.trans x2).trans x') (by simp [h1]) (.cons (k2.mono x') h2) h3 (by simp [lenIEs]; omega)
      rw [hv]; exact this
theorem putKy_len {k : Ky} {v : Wc.D} (ds : List (Ky × Wc.D)) : (putKy ds k v).length ≤ ds.length + 1 := by
  unfold putKy
  split <;> simp
theorem tDisp_ok {m : Bool} {ies : IEs} {σ : L2.St} {H : Hp} {Q : VK} (h30 : lenIEs ies ≤ 30) (h : tE G (evE B C (.dct m ies)) Wx σ H Q) : tDisp (trsOf G B C Wx ies) σ H Q := by
  obtain ⟨W, ρ, S, rl, en, q⟩ := h
  intro L hL
  have hfL : W.Hf L = none := rl.sub.free hL
  have hFL : L ∉ W.F := fun ha => by
    obtain ⟨u, hu⟩ := rl.out L ha
    rw [hL] at hu; cases hu
  have q : Aft G (fun W' v d => RD G W' v d) (fun cls dx H' => Wx cls dx σ H') H W Q ((evPs B C ies ρ S).bind fun ps S1 => mkD m (ps.foldl (fun acc p => putKy acc p.1 p.2) []) S1) := q
  have x0 : Ext H W (upd H L (.dK [])) W := Ext.refl.outside (Fre.of hL)
  refine tPairs_ok (rl.outside hfL hFL (pl_none hL)) en x0 q fun kvs ds H' W' S' r' x' h1 h2 h3 h4 => ?_
  have hold : H' L = some (.dK []) := x'.old L _ upd_same hFL (pl1_nt rfl)
  have hf' : W'.Hf L = none := by
    cases e : W'.Hf L with
    | none => rfl
    | some u =>
      rcases x'.fresh L (by rw [e]; simp) with z | z | z
      · exact absurd hfL z
      · exact (z.no upd_same rfl).elim
      · exact absurd z hFL
  have hF' : L ∉ W'.F := fun z => by
    rcases x'.freshF L z with z | z
    · exact hFL z
    · exact z.no upd_same rfl
  refine ⟨hold, kvs, rfl, ?_, ?_⟩
  · have e : kvs.length = ds.length := by simpa using congrArg List.length h1
    omega
  · obtain ⟨i1, i2⟩ := merge_ok (W := W') (kvs := []) (ds := []) h1 h2 rfl .nil
    exact adoptD (r'.outside hf' hF' (pl_some hold)) ((x0.trans x').outside (Fre.of hL)) hL hf' hF' upd_same i1 i2 h3
theorem wipe_set {σ : L2.St} {i : Nat} {x : Option V} : ∀ {vs : List Nat}, i ∈ vs → wipe (σ.set i x) vs = wipe σ vs
  | v :: vs, h => by
    show (wipe (σ.set i x) vs).set v none = (wipe σ vs).set v none
    by_cases hv : i ∈ vs
    · rw [wipe_set hv]
    · have e : i = v := by simp at h; rcases h with h | h; exact h; exact absurd h hv
      subst e
      have comm : ∀ (vs : List Nat), i ∉ vs → wipe (σ.set i x) vs = (wipe σ vs).set i x := by
        intro vs
        induction vs with
        | nil => intro _; rfl
        | cons w ws ih =>
          intro hw
          simp only [List.mem_cons, not_or] at hw
          show (wipe (σ.set i x) ws).set w none = ((wipe σ ws).set w none).set i x
          rw [ih hw.2, List.set_comm _ _ hw.1]
      rw [comm vs hv, List.set_set]
  | [], h => by simp at h
theorem wipe_wipe (σ : L2.St) : ∀ (vs ws : List Nat), (∀ v ∈ vs, v ∈ ws) → wipe (wipe σ vs) ws = wipe σ ws
  | [], ws, _ => rfl
  | v :: vs, ws, h => by
    show wipe ((wipe σ vs).set v none) ws = wipe σ ws
    rw [wipe_set (h v (by simp)), wipe_wipe σ vs ws fun u hu => h u (by simp [hu])]
theorem REn.wipe {W : Wd} {σ : L2.St} {ρ : Ev} (h : REn G W σ ρ) : ∀ vs : List Nat, REn G W (L2.wipe σ vs) (wipeL ρ vs)
  | [] => h
  | v :: vs => (REn.wipe h vs).clear v
theorem gL_okW {W : Wd} {H : Hp} {ws : List Nat} {σ0 : L2.St} {Q : L2.St → Hp → Prop} : ∀ {is : List Nat} {ds : List Wc.D} {vs : List V} {σ : L2.St} {ρ : Ev}, RDs G W vs ds → is.length = ds.length → REn G W σ ρ → (∀ i ∈ is, i ∈ ws) → wipe σ ws = σ0 →
    (∀ σ', REn G W σ' ((is.zip ds).foldl (fun ρ q => ρ.set q.1 (some q.2)) ρ) → wipe σ' ws = σ0 → Q σ' H) → gL is vs σ H Q
  | [], [], _, σ, ρ, k, hl, en, hi, hw, q => by cases k; exact ⟨rfl, q σ en hw⟩
  | i :: is, d :: ds, _, σ, ρ, k, hl, en, hi, hw, q => by
    cases k with
    | cons k1 k2 => exact ⟨_, _, rfl, gL_okW k2 (by simpa using hl) (en.set k1 i) (fun j hj => hi j (by simp [hj])) (by rw [wipe_set (hi i (by simp))]; exact hw) q⟩
  | [], _ :: _, _, _, _, _, hl, _, _, _, _ => by simp at hl
  | _ :: _, [], _, _, _, _, hl, _, _, _, _ => by simp at hl
theorem gP_okW {K : PySem.W.Frag} {W : Wd} {H : Hp} {S : Sto} {Q : L2.St → Hp → Prop} {p : Pt} {d : Wc.D} {v : V} {σ σ0 : L2.St} {ρ ρ1 : Ev} (rl : Rel G H W S) (k : RD G W v d) (en : REn G W σ ρ) (e : setP p d ρ = some ρ1) (hw : wipe σ p.own = σ0)
    (q : ∀ σ', REn G W σ' ρ1 → wipe σ' p.own = σ0 → Q σ' H) : gP K p v σ H Q := by
  cases p with
  | v i => cases e; exact q _ (en.set k i) (by rw [wipe_set (by simp [Pt.own])]; exact hw)
  | tup is =>
    unfold setP at e
    simp only at e
    split at e
    · rename_i ds e1
      split at e
      · rename_i hl
        cases e
        obtain ⟨a, xs, rfl, h1, h2⟩ := asTup_ok rl k e1
        refine ⟨a, xs, rfl, h1.imp (fun h => SqT.of (rl.sub _ _ h)) (fun h => SqL.of (rl.sub _ _ h)), ?_, gL_okW h2 hl.symm en (fun i hi => hi) hw q⟩
        rw [h2.length, hl]
      · cases e
    · cases e
  | nst i js =>
    unfold setP at e
    simp only at e
    split at e
    · rename_i x y e1
      split at e
      · rename_i ds e2
        split at e
        · rename_i hl
          cases e
          obtain ⟨a, xs, rfl, h1, h2⟩ := asTup_ok rl k e1
          obtain ⟨v1, v2, rfl, k1, k2⟩ := h2.two
          obtain ⟨a2, xs2, rfl, h3, h4⟩ := asTup_ok rl k2 e2
          refine ⟨a, _, rfl, h1.imp (fun h => SqT.of (rl.sub _ _ h)) (fun h => SqL.of (rl.sub _ _ h)), rfl, _, _, rfl, _, _, rfl, a2, xs2, rfl, h3.imp (fun h => SqT.of (rl.sub _ _ h)) (fun h => SqL.of (rl.sub _ _ h)), ?_, gL_okW h4 hl.symm (en.set k1 i) (fun j hj => List.mem_cons_of_mem _ hj) (by rw [wipe_set (by simp [Pt.own])]; exact hw) fun σ' h h' => ⟨rfl, q σ' h h'⟩⟩
          rw [h4.length, hl]
        · cases e
      · cases e
    · cases e
theorem upd_comm {H : Hp} {a b : Addr} {x y : HO} (h : a ≠ b) : upd (upd H a x) b y = upd (upd H b y) a x := by
  funext c
  by_cases h1 : c = a
  · subst h1; rw [upd_ne h, upd_same, upd_same]
  · by_cases h2 : c = b
    · subst h2; rw [upd_same, upd_ne h1, upd_same]
    · rw [upd_ne h2, upd_ne h1, upd_ne h1, upd_ne h2]
theorem upd_back {H : Hp} {a : Addr} {o : HO} (h : H a = some o) : upd H a o = H := by
  funext c
  by_cases h1 : c = a
  · subst h1; rw [upd_same, h]
  · rw [upd_ne h1]
theorem kyT_ok {H : Hp} : ∀ k : Ky, RT G H (kV k) (kyT k)
  | .inl i => .int i
  | .inr x => .str x
theorem kvs_at {W : Wd} : ∀ {kvs : List (Key × V)} {ts : List (Ky × T)} {n : Nat} {k : Key} {v : V}, kvs.map (·.1) = ts.map (·.1) → RDs G W (kvs.map (·.2)) (ts.map fun p => .t p.2) → kvs[n]? = some (k, v) → ∃ t, ts[n]? = some (k, t) ∧ RT G W.Hf v t
  | [], _, n, _, _, _, _, e => by simp at e
  | p :: kvs, [], n, _, _, h, _, _ => by simp at h
  | p :: kvs, q :: ts, n, k, v, h, r, e => by
    simp only [List.map_cons, List.cons.injEq] at h
    simp only [List.map_cons] at r
    cases r with
    | cons r1 r2 =>
      cases n with
      | zero =>
        simp only [List.getElem?_cons_zero, Option.some.injEq] at e
        subst e
        obtain ⟨q1, q2⟩ := q
        obtain ⟨rfl, _⟩ := h
        cases r1 with
        | t r1 => exact ⟨q2, rfl, r1⟩
      | succ n => exact kvs_at (n := n) h.2 r2 (by simpa using e)
/-- the pairs of a dict turned about -/
theorem tIts_ok {m : Bool} {i j v : Nat} {σ : L2.St} {H : Hp} {Q : VK} (hij : i ≠ j) (h : tE G (evE B C (.its m i j v)) Wx σ H Q) :
    tLockE (tLc (iItems (tVar v)) (gP X.K (.tup [i, j])) tYes (tTup (tCons (tVar j) (tCons (tVar i) tNil))) [i, j]) σ H Q := by
  obtain ⟨W, ρ, S, rl, en, q⟩ := h
  have q : Aft G (fun W' v d => RD G W' v d) (fun cls dx H' => Wx cls dx σ H') H W Q (pIts m i j ρ v S) := q
  unfold pIts at q
  split at q
  case h_2 => exact q.elim
  rename_i k hv
  split at q
  case h_2 => exact q.elim
  rename_i ds hk
  split at q
  case h_2 => exact q.elim
  rename_i ts hp
  split at q
  case isFalse => exact q.elim
  rename_i hl
  obtain ⟨hl, hi, hj⟩ := hl
  have hp := plk_eq hp
  subst hp
  obtain ⟨vd, hσ, kd⟩ := en.at_ v _ hv
  cases kd with
  | ref hF =>
  rename_i d
  have hap := rl.apart k _ d hk hF (by simp)
  cases rl.obj k _ d hk hF with
  | dct hH hkeys hvals =>
  rename_i kvs
  have hkeys : kvs.map (·.1) = ts.map (·.1) := by simpa [Function.comp_def] using hkeys
  have hvals : RDs G W (kvs.map (·.2)) (ts.map fun p => .t p.2) := by simpa [Function.comp_def] using hvals
  have hlen : kvs.length = ts.length := by simpa using congrArg List.length hkeys
  refine ⟨d, .dK kvs, hH, trivial, fun od => ⟨.ref d, hσ, d, od, kvs, rfl, upd_same, fun L hL => ?_⟩⟩
  have hLd : L ≠ d := fun z => by subst z; rw [upd_same] at hL; cases hL
  have hL' : H L = none := by rw [upd_ne hLd] at hL; exact hL
  have hfL : W.Hf L = none := rl.sub.free hL'
  have hFL : L ∉ W.F := fun ha => by
    obtain ⟨u, hu⟩ := rl.out L ha
    rw [hL'] at hu; cases hu
  have e0 : upd (upd (upd H d (.frz od (.dK kvs))) L (.lst [])) d (.dK kvs) = upd H L (.lst []) := by
    rw [upd_comm hLd, upd_upd, upd_back hH]
  have hls : σ.length = ρ.length := en.len
  refine ⟨fun n m' H' => m' = kvs.length - n ∧ n ≤ kvs.length ∧ ∃ W' acc, H' d = some (.frz od (.dK kvs)) ∧ Rel G (upd H' d (.dK kvs)) W' S ∧ Ext H W (upd H' d (.dK kvs)) W' ∧ W'.Hf L = none ∧ L ∉ W'.F ∧ H' L = some (.lst acc) ∧ acc.length = n ∧ RDs G W' acc ((ts.take n).map fun p => .t (itT p)),
    ⟨kvs.length, by simp, Nat.zero_le _, W, [], by rw [upd_ne hLd.symm, upd_same], by rw [e0]; exact rl.outside hfL hFL (pl_none hL'), by rw [e0]; exact Ext.refl.outside (Fre.of hL'), hfL, hFL, upd_same, rfl, .nil⟩, ?_⟩
  rintro n m' H' ⟨rfl, hn, W', acc, hd, r', x', h0, hF', hD, ha, k'⟩
  by_cases hlt : n < kvs.length
  · refine .inr ⟨⟨hd, hlt⟩, fun H2 => ∃ W' acc, H2 d = some (.frz od (.dK kvs)) ∧ Rel G (upd H2 d (.dK kvs)) W' S ∧ Ext H W (upd H2 d (.dK kvs)) W' ∧ W'.Hf L = none ∧ L ∉ W'.F ∧ H2 L = some (.lst acc) ∧ acc.length = n + 1 ∧ RDs G W' acc ((ts.take (n + 1)).map fun p => .t (itT p)),
      fun H2 hN => ⟨kvs.length - (n + 1), by omega, rfl, hlt, hN⟩, fun x H2 y => ?_⟩
    obtain ⟨A, ky, vv, hkv, rfl, hA, rfl⟩ := y
    obtain ⟨t, ht, rt⟩ := kvs_at hkeys hvals hkv
    have ne : ∀ {p u}, H' p = none → H' u ≠ none → p ≠ u := fun a b c => b (c ▸ a)
    have hAd : A ≠ d := ne hA (by rw [hd]; simp)
    have hAL : A ≠ L := ne hA (by rw [hD]; simp)
    have ok : ∀ {p : Addr}, (upd H' A (.tup [kV ky, vv])) p = none → p ≠ A ∧ H' p = none := fun {p} e => by
      have z : p ≠ A := fun z => by subst z; rw [upd_same] at e; cases e
      rw [upd_ne z] at e
      exact ⟨z, e⟩
    refine ⟨A, _, rfl, .inl (SqT.of upd_same), rfl, _, _, rfl, _, _, rfl, rfl, ?_⟩
    refine ⟨by
      rw [wipe_set (by simp), wipe_set (by simp), wipe_wipe σ _ _ fun _ h => h], ?_⟩
    unfold tYes
    refine iteT ?_
    have lw : ∀ vs : List Nat, (wipe σ vs).length = σ.length := by
      intro vs
      induction vs with
      | nil => rfl
      | cons w ws ih => show ((wipe σ ws).set w none).length = _; rw [List.length_set, ih]
    refine ⟨vv, by rw [List.getElem?_set_self (by rw [List.length_set, lw]; omega)], kV ky, by rw [List.getElem?_set_ne (by omega), List.getElem?_set_self (by rw [lw]; omega)], by rw [sizeLine_eq]; simp, fun p hp => ?_⟩
    obtain ⟨hpA, hp'⟩ := ok hp
    have hpd : p ≠ d := ne hp' (by rw [hd]; simp)
    have hpL : p ≠ L := ne hp' (by rw [hD]; simp)
    have u1 : upd (upd (upd H' A (.tup [kV ky, vv])) p (.tup [vv, kV ky])) d (.dK kvs) = upd (upd (upd H' d (.dK kvs)) A (.tup [kV ky, vv])) p (.tup [vv, kV ky]) := by
      rw [upd_comm hpd, upd_comm hAd]
    have hA2 : (upd H' d (.dK kvs)) A = none := by rw [upd_ne hAd]; exact hA
    have hp2 : (upd H' d (.dK kvs)) p = none := by rw [upd_ne hpd]; exact hp'
    have out : ∀ {p : Addr}, (upd H' d (.dK kvs)) p = none → W'.Hf p = none ∧ p ∉ W'.F ∧ Fre H p := fun {p} e => by
      refine ⟨r'.sub.free e, fun ha => ?_, (Fre.of e).back x'⟩
      obtain ⟨u, hu⟩ := r'.out p ha
      rw [e] at hu; cases hu
    obtain ⟨a1, a2, a3⟩ := out hA2
    obtain ⟨b1, b2, b3⟩ := out hp2
    obtain ⟨r4, x4, s4⟩ := adoptF ((r'.outside (u := .tup [kV ky, vv]) a1 a2 (pl_none hA2)).outside (u := .tup [vv, kV ky]) b1 b2 (pl_none (by rw [upd_ne hpA]; exact hp2))) ((x'.outside a3).outside b3) b3 b1 b2 upd_same
    have hLd2 : (upd W'.Hf p (.tup [vv, kV ky])) L = none := by rw [upd_ne hpL.symm]; exact h0
    have rt2 : RT G (upd W'.Hf p (.tup [vv, kV ky])) vv t := (RD.mono x4 (.t rt) : RD G ⟨upd W'.Hf p (.tup [vv, kV ky]), W'.F⟩ vv (.t t)) |> fun z => by cases z with | t z => exact z
    refine ⟨acc, by rw [upd_ne hpL.symm, upd_ne hAL.symm]; exact hD, by rw [ha]; have := lim_le; omega, ⟨upd W'.Hf p (.tup [vv, kV ky]), W'.F⟩, acc ++ [.ref p], ?_, ?_, ?_, hLd2, hF', upd_same, by simp [ha], ?_⟩
    · rw [upd_ne hLd.symm, upd_ne hpd.symm, upd_ne hAd.symm]; exact hd
    · rw [upd_comm hLd, u1]; exact r4.outside hLd2 hF' (pl_some (by rw [upd_ne hpL.symm, upd_ne hAL.symm, upd_ne hLd]; exact hD))
    · rw [upd_comm hLd, u1]; exact x4.outside (Fre.of hL')
    · have e1 : ts.take (n + 1) = ts.take n ++ [(ky, t)] := by
        rw [List.take_add_one, ht]; rfl
      rw [e1, List.map_append]
      exact (RDs.mono' (W := W') (W' := ⟨upd W'.Hf p (.tup [vv, kV ky]), W'.F⟩) s4 (List.prefix_refl _) k').append (.cons (.t (.tup upd_same (.cons rt2 (.cons (kyT_ok ky) .nil)))) .nil)
  · have hn' : n = kvs.length := by omega
    subst hn'
    refine .inl ⟨⟨hd, Nat.le_refl _⟩, hd, ?_⟩
    rw [hlen, List.take_length] at k'
    exact adopt r' x' hL' h0 hF' (by rw [upd_ne hLd]; exact hD) k' q
/-- how a comprehension reads -/
theorem tLc_ok {m : Bool} {el cond : IE} {p : Pt} {k : Ik} {ies : IEs} {tt : TT} {σ : L2.St} {H : Hp} {Q : VK} (htt : ∀ σ H Q, tTest (tE G (evE B C cond) (fun _ _ _ _ => False)) σ H Q → tt σ H Q)
    (h : tE G (evE B C (.lc m el p k ies cond)) Wx σ H Q) : tLc (tI G B C Wx (pureE cond && pureE el) k ies) (gP X.K p) tt (tE G (evE B C el) (fun _ _ _ _ => False)) p.own σ H Q := by
  obtain ⟨W, ρ, S, rl, en, q⟩ := h
  have q : Aft G (fun W' v d => RD G W' v d) (fun cls dx H' => Wx cls dx σ H') H W Q ((evEs B C ies ρ S).bind fun ds S1 => match itemsL (pureE cond && pureE el) k ds S1 with
    | none => .no
    | some xs => (lcL p (wipeL ρ p.own) (evE B C cond) (evE B C el) xs S1 []).bind fun ys S2 => mkL m ys S2) := q
  refine ⟨W, ρ, S, rl, en, ?_⟩
  cases e : evEs B C ies ρ S with
  | no => rw [e] at q; exact q.elim
  | ex c fs S1 => rw [e] at q; exact q
  | ok ds S1 =>
    rw [e] at q
    simp only [Wc.R.bind_ok] at q
    cases e2 : itemsL (pureE cond && pureE el) k ds S1 with
    | none => rw [e2] at q; exact q.elim
    | some xs =>
      rw [e2] at q
      simp only [e2]
      have keep : ∀ {e' : IE} {ρ' : Ev} {S2 S3 : Sto} {d' : Wc.D}, (e' = cond ∨ e' = el) → evE B C e' ρ' S2 = .ok d' S3 → stands k ds S1 S2 → stands k ds S1 S3 := fun {e' ρ' S2 S3 d'} he hev hs => by
        by_cases hp : (pureE cond && pureE el) = true
        · rw [Bool.and_eq_true] at hp
          have : S3 = S2 := by
            rcases he with rfl | rfl
            · exact pure_ok _ hp.1 hev
            · exact pure_ok _ hp.2 hev
          rw [this]; exact hs
        · have hp : (pureE cond && pureE el) = false := by simpa using hp
          rw [hp, itemsL_f] at e2
          exact stands_of e2
      have self : stands k ds S1 S1 := by
        unfold stands
        split <;> first | rfl | exact True.intro
      intro J H1 W1 r1 x1 wk L hL
      have q := Aft.move q x1
      have hfL : W1.Hf L = none := r1.sub.free hL
      have hFL : L ∉ W1.F := fun ha => by
        obtain ⟨u, hu⟩ := r1.out L ha
        rw [hL] at hu; cases hu
      refine ⟨fun i m' H' => m' = xs.length - i ∧ i ≤ xs.length ∧ ∃ W' S' acc ys, stands k ds S1 S' ∧ Rel G H' W' S' ∧ Ext H1 W1 H' W' ∧ W'.Hf L = none ∧ L ∉ W'.F ∧ H' L = some (.lst acc) ∧ RDs G W' acc ys ∧
          Aft G (fun W' v d => RD G W' v d) (fun cls dx H' => Wx cls dx σ H') H1 W1 Q ((lcL p (wipeL ρ p.own) (evE B C cond) (evE B C el) (xs.drop i) S' ys).bind fun ys S2 => mkL m ys S2),
        ⟨xs.length, by simp, Nat.zero_le _, W1, S1, [], [], self, r1.outside hfL hFL (pl_none hL), Ext.refl.outside (Fre.of hL), hfL, hFL, upd_same, .nil, by rw [List.drop_zero]; exact q⟩, ?_⟩
      rintro i m' H' ⟨rfl, hi, W', S', acc, ys, sd, r', x', h0, hF, hD, k', a'⟩
      obtain ⟨hgo, hst, hy⟩ := wk H' W' S' r' x' sd
      by_cases hl : i < xs.length
      · obtain ⟨d, hd, hdr⟩ := drop_at hl
        refine .inr ⟨hgo i hl, fun H2 => ∃ W2 S2 acc ys, stands k ds S1 S2 ∧ Rel G H2 W2 S2 ∧ Ext H1 W1 H2 W2 ∧ W2.Hf L = none ∧ L ∉ W2.F ∧ H2 L = some (.lst acc) ∧ RDs G W2 acc ys ∧
          Aft G (fun W' v d => RD G W' v d) (fun cls dx H' => Wx cls dx σ H') H1 W1 Q ((lcL p (wipeL ρ p.own) (evE B C cond) (evE B C el) (xs.drop (i + 1)) S2 ys).bind fun ys S2 => mkL m ys S2),
          fun H2 hN => ⟨xs.length - (i + 1), by omega, rfl, hl, hN⟩, fun x H2 y => ?_⟩
        obtain ⟨W2, r2, x2, k2⟩ := hy i x H2 d hd y
        rw [hdr] at a'
        unfold lcL at a'
        -- what stays of the list in the making
        have stay : ∀ {H3 H4 : Hp} {W3 W4 : Wd}, Ext H3 W3 H4 W4 → W3.Hf L = none → L ∉ W3.F → H3 L = some (.lst acc) → W4.Hf L = none ∧ L ∉ W4.F ∧ H4 L = some (.lst acc) := fun {H3 H4 W3 W4} x a b c => by
          refine ⟨?_, fun z => ?_, x.old _ _ c b (pl1_nt rfl)⟩
          · cases e : W4.Hf L with
            | none => rfl
            | some u =>
              rcases x.fresh L (by rw [e]; simp) with z | z | z
              · exact absurd a z
              · exact (z.no c rfl).elim
              · exact absurd z b
          · rcases x.freshF L z with z | z
            · exact b z
            · exact z.no c rfl
        obtain ⟨s1, s2, s3⟩ := stay x2 h0 hF hD
        have en2 : REn G W2 (wipe σ p.own) (wipeL ρ p.own) := (((en.mono x1).mono x').mono x2).wipe p.own
        cases e3 : setP p d (wipeL ρ p.own) with
        | none => rw [e3] at a'; exact a'.elim
        | some ρ1 =>
          rw [e3] at a'
          refine gP_okW r2 k2 en2 e3 (wipe_wipe σ p.own p.own fun _ h => h) fun σ2 e4 hw => ⟨hw, htt _ _ _ ⟨W2, ρ1, S', r2, e4, ?_⟩⟩
          cases e5 : evE B C cond ρ1 S' with
          | no => simp only [e5] at a'; exact a'.elim
          | ex c fs S3 => simp only [e5] at a'; exact a'.elim
          | ok dc S3 =>
            intro vc H3 W3 r3 x3 k3
            obtain ⟨t1, t2, t3⟩ := stay x3 s1 s2 s3
            by_cases hb : ∃ b, dc = .t (.bl b)
            · obtain ⟨b, rfl⟩ := hb
              cases k3.bl_of
              refine ⟨b, rfl, ?_⟩
              cases b with
              | false =>
                simp only [e5] at a'
                exact iteF ⟨W3, S3, acc, ys, keep (.inl rfl) e5 sd, r3, (x'.trans x2).trans x3, t1, t2, t3, (k'.mono x2).mono x3, a'⟩
              | true =>
                simp only [e5] at a'
                refine iteT ⟨W3, ρ1, S3, r3, e4.mono x3, ?_⟩
                cases e6 : evE B C el ρ1 S3 with
                | no => simp only [e6] at a'; exact a'.elim
                | ex c fs S4 => simp only [e6] at a'; exact a'.elim
                | ok dy S4 =>
                  simp only [e6] at a'
                  intro y4 H4 W4 r4 x4 k4
                  obtain ⟨u1, u2, u3⟩ := stay x4 t1 t2 t3
                  split at a'
                  · rename_i hlen
                    have kl := k'.length
                    refine ⟨acc, u3, ?_, W4, S4, acc ++ [y4], ys ++ [dy], keep (.inr rfl) e6 (keep (.inl rfl) e5 sd), r4.outside u1 u2 (pl_some u3), (((x'.trans x2).trans x3).trans x4).outside (Fre.of hL), u1, u2, upd_same, (((k'.mono x2).mono x3).mono x4).append (.cons k4 .nil), a'⟩
                    rw [kl]; exact Nat.lt_of_lt_of_le hlen lim_le
                  · exact a'.elim
            · have a2 : False := by
                cases dc with
                | t x =>
                  cases x with
                  | bl b => exact hb ⟨b, rfl⟩
                  | _ => simp only [e5] at a'; exact a'.elim
                | _ => simp only [e5] at a'; exact a'.elim
              exact a2.elim
      · have hi' : i = xs.length := by omega
        subst hi'
        rw [List.drop_length] at a'
        exact .inl ⟨hst, adopt r' x' hL h0 hF hD k' a'⟩
end
end Wc

/-! Wc: x[y] = v. -/
namespace Wc
open PySem PySem.Spec PyProof.Rows L2
section
variable {G : Gd} {X : Cx} {B : Tb} {C : Cal} {Wx : WX}
def rSt (G : Gd) : V → V → V → Hp → (Hp → Prop) → Prop := fun o i v H Q => ∃ W S x y d S', Rel G H W S ∧ RD G W o x ∧ RD G W i y ∧ RD G W v d ∧ pSt x y d S = some S' ∧ ∀ H', Rel G H' W S' → Ext H W H' W → Q H'
theorem RDs.setAt {W : Wd} : ∀ {ds : List Wc.D} {vs : List V} {v : V} {d : Wc.D} (j : Nat), RDs G W vs ds → RD G W v d → RDs G W (vs.set j v) (ds.set j d)
  | [], _, _, _, _, h, _ => by cases h; exact .nil
  | a :: ds, _, _, _, 0, h, k => by cases h with | cons h1 h2 => exact .cons k h2
  | a :: ds, _, _, _, j + 1, h, k => by cases h with | cons h1 h2 => exact .cons h1 (RDs.setAt j h2 k)
theorem set_ok (hK : X.K = G.K) (hu : X.A.units + 1 < cLine) : PSet X (rSt G) := by
  intro pins s σ H o i v ov iv u Q I ro ri rv h
  obtain ⟨W, S, x, y, d, S', rl, k1, k2, k3, e, q⟩ := h
  unfold pSt at e
  split at e
  · split at e
    · rename_i ys e1
      split at e
      · cases k1 with
        | ref h1 =>
          have ro' := rl.obj _ _ _ e1 h1
          cases ro' with
          | lst h3 h4 =>
            cases k2.int_of
            obtain ⟨j, ej, rfl⟩ := Option.map_eq_some_iff.mp e
            have pt := rl.put (u := .lst (_ : List V)) (o := .lst (ys.set j d)) h1 e1 (fun z => nomatch z) fun H' e => .lst e (RDs.setAt j h4 k3)
            exact set_list pins s σ H _ _ v ov iv u Q I ro ri rv ⟨_, _, _, j, rfl, rfl, h3, by rw [h4.length]; exact ej, q _ pt.1 pt.2⟩
      · cases e
    · rename_i kvs e1
      split at e
      · rename_i ky e2
        split at e
        · rename_i hl
          cases e
          cases k1 with
          | ref h1 =>
            have ro' := rl.obj _ _ _ e1 h1
            cases ro' with
            | dct h3 h5 h4 =>
              have hv := kyOf_ok k2 e2
              obtain ⟨p1, p2⟩ := putKy_ok (G := G) (k := ky) k3 h5 h4
              have pt := rl.put (u := .dK (putK _ ky v)) (o := .dct (putKy kvs ky d)) h1 e1 (fun z => nomatch z) fun H' e => .dct e p1 p2
              have hl2 := congrArg List.length h5
              simp only [List.length_map] at hl2
              subst hv
              have := lim_le
              exact set_dict hu pins s σ H _ _ v ov iv u Q I ro ri rv ⟨_, _, rfl, DPut.k h3 (by rw [hl2]; omega), q _ pt.1 pt.2⟩
        · cases e
      · cases e
    · cases e
  · cases e
variable {o i e : Expr} {io ii ie : IE} {pos pos' : Pos}
theorem sS_sti (hK : X.K = G.K) (hu : X.A.units + 1 < cLine) (he : PEv G X B C Wx e ie) (ho : PEv G X B C Wx o io) (hi : PEv G X B C Wx i ii) (hs : swapsWithSole [.Subscript o i pos'] e pos.line X.env = pure false) (hw : swappedStores [.Subscript o i pos'] e X.env = pure none)
    (hq : ∀ v, assign (.Subscript o i pos') X.env v = (do
      let ov ← holding [v] (eval o X.env)
      let iv ← holding [v, ov] (eval i X.env)
      standAt pos'
      holding [v, ov, iv] (setItem ov iv v)
      release [v, ov, iv] [])) :
    PSv G X B C Wx (.Assign [.Subscript o i pos'] e pos) (.sti io ii ie) :=
  ps_imp (ps_asg he (pg_sub ho hi (set_ok hK hu) hq) hs hw rfl) fun D σ H ⟨W, ρ, S, rl, en, q⟩ => by
    have q : AftS G Wx D H W (stE (evE B C ie ρ S) ρ fun v S1 => stE (evE B C io ρ S1) ρ fun x S2 => stE (evE B C ii ρ S2) ρ fun y S3 => nxO ρ (pSt x y v S3)) := by
      have : evS B C (.sti io ii ie) ρ S = stE (evE B C ie ρ S) ρ fun v S1 => stE (evE B C io ρ S1) ρ fun x S2 => stE (evE B C ii ρ S2) ρ fun y S3 => nxO ρ (pSt x y v S3) := by
        rw [evS]
        cases evE B C ie ρ S with
        | ok v S1 =>
          first
          | (simp only [stE]; done)
          | (simp only [stE]
             cases evE B C io ρ S1 with
             | ok x S2 =>
               simp only
               cases evE B C ii ρ S2 <;> rfl
             | _ => rfl)
        | _ => rfl
      rw [← this]; exact q
    refine tE_imp (stE_at (ev := evE B C ie) rl en q) fun v H1 ⟨d, S1, W1, r1, x1, e1, k1, a1⟩ => ?_
    refine tE_imp (stE_at (ev := evE B C io) r1 e1 a1) fun o' H2 ⟨dx, S2, W2, r2, x2, e2, k2, a2⟩ => ?_
    refine tE_imp (stE_at (ev := evE B C ii) r2 e2 a2) fun i' H3 ⟨dy, S3, W3, r3, x3, e3, k3, a3⟩ => ?_
    cases e4 : pSt dx dy d S3 with
    | none => rw [e4] at a3; exact a3.elim
    | some S4 =>
      rw [e4] at a3
      exact ⟨W3, S3, dx, dy, d, S4, r3, k2.mono x3, k3, (k1.mono x2).mono x3, e4, fun H' r4 x4 => a3 σ H' W3 r4 x4 e3⟩
end
end Wc

/-! Wc: things of the text's own classes: made, asked, changed, their methods. -/
namespace Wc
open PySem PySem.Spec PyProof.Rows L2
section
variable {G : Gd} {X : Cx} {B : Tb} {C : Cal} {Wx : WX} {H : Hp} {W : Wd} {S : Sto}
theorem eval_meth {o : Expr} {name : Str} {apos pos : Pos} {args : List Expr} {env : Env} (hbase : attributeBase o name env (eval o env) = eval o env)
    (hfew : ((backTo pos (starEach args env)).all (fun x => !x.1) && (backToKw pos (keywordEach [] env)).all (fun x => x.1.isSome)
      && decide (args.length + ([] : List Keyword).length + (if ([] : List Keyword).isEmpty then 0 else 1) < 30)) = true)
    (hline : (apos.endLine == pos.line) = true) : eval (.Call (.Attribute o name apos) args [] pos) env = (do
      let ov ← eval o env
      standAt apos.atName
      let (f, first) ← holding [ov] (getMethod ov name (do return (← importBound o env).getD true))
      callWith pos f first (backTo pos (starEach args env)) (backToKw pos (keywordEach [] env))) := by
  rw [arm_eval_Call, hbase]
  have hform : methodCallForm (args.length + ([] : List Keyword).length) (backTo pos (starEach args env)) (backToKw pos (keywordEach [] env)) = true := hfew
  have hpos : methodCallPos true o env apos pos = pure pos := by unfold methodCallPos; simp [hline]
  unfold methodCall
  rw [hform]
  simp only [calleeOf, if_true, hpos]
  rfl
/-! ### fields -/
theorem flds_look : ∀ {fs : List (Str × V)} {ds : List (Str × D)}, fs.map (·.1) = ds.map (·.1) → RDs G W (fs.map (·.2)) (ds.map (·.2)) → ∀ f : Str,
    (ds.lookup f = none → fs.lookup f = none) ∧ ∀ d, ds.lookup f = some d → ∃ u, fs.lookup f = some u ∧ RD G W u d
  | [], [], _, _, f => ⟨fun _ => rfl, fun d e => by simp at e⟩
  | [], _ :: _, e, _, _ => by simp at e
  | _ :: _, [], e, _, _ => by simp at e
  | (g, v) :: fs, (g', d) :: ds, e, r, f => by
    simp only [List.map_cons, List.cons.injEq] at e
    obtain ⟨e1, e2⟩ := e
    have e1 : g = g' := e1
    subst e1
    cases r with
    | cons r1 r2 =>
      have ih := flds_look e2 r2 f
      cases hx : f == g with
      | true =>
        have l1 : List.lookup f ((g, d) :: ds) = some d := by simp only [List.lookup_cons, hx]
        have l2 : List.lookup f ((g, v) :: fs) = some v := by simp only [List.lookup_cons, hx]
        rw [l1, l2]
        exact ⟨fun h => (by cases h), fun d' e => (by cases e; exact ⟨v, rfl, r1⟩)⟩
      | false =>
        have l1 : List.lookup f ((g, d) :: ds) = ds.lookup f := by simp only [List.lookup_cons, hx]
        have l2 : List.lookup f ((g, v) :: fs) = fs.lookup f := by simp only [List.lookup_cons, hx]
        rw [l1, l2]
        exact ih
theorem look_mapT (f : Str) : ∀ ts : List (Str × T), (ts.map fun p => (p.1, D.t p.2)).lookup f = (ts.lookup f).map .t
  | [] => rfl
  | (g, x) :: ts => by
    simp only [List.map_cons, List.lookup_cons]
    cases hx : f == g with
    | true => rfl
    | false => exact look_mapT f ts
/-- a thing of a known class -/
theorem cls_ok {v : V} {x : D} {c : Nat} (rl : Rel G H W S) (k : RD G W v x) (e : clsOf S x = some c) :
    ∃ a dx fs, v = .ref a ∧ H a = some (.ins (G.ca c) dx fs) ∧ ∀ f : Str, (attD S f x = none → fs.lookup f = none) ∧ ∀ d, attD S f x = some d → ∃ u, fs.lookup f = some u ∧ RD G W u d := by
  unfold clsOf at e
  split at e
  · rename_i c' ts
    cases e
    cases k with
    | t k =>
      cases k with
      | ins h1 h3 h2 =>
        rename_i a dx fs
        have h3' : fs.map (·.1) = (ts.map fun p => (p.1, D.t p.2)).map (·.1) := by rw [h3]; simp [Function.comp_def]
        have h2' : RDs G W (fs.map (·.2)) ((ts.map fun p => (p.1, D.t p.2)).map (·.2)) := by
          have := RDs.ofT (W := W) h2
          simpa [Function.comp_def] using this
        refine ⟨a, dx, fs, rfl, rl.sub _ _ h1, fun f => ?_⟩
        have := flds_look h3' h2' f
        rw [look_mapT] at this
        exact this
  · rename_i kk
    split at e
    · rename_i c' fs' e0
      cases e
      cases k with
      | ref h1 =>
        rename_i a
        have ro := rl.obj _ _ _ e0 h1
        cases ro with
        | ins h3 h5 h4 =>
          rename_i dx fs
          refine ⟨a, dx, fs, rfl, h3, fun f => ?_⟩
          have := flds_look h5 h4 f
          show (_ → _) ∧ ∀ d, _ → _
          unfold attD
          simp only [e0]
          exact this
    · cases e
  · cases e
/-- what is known of a class of the text -/
structure ClsAt (K : PySem.W.Frag) (B : Tb) (G : Gd) : Prop where
  att : ∀ c f, B.att c f = true → Cls K (G.ca c) ∧ NoAttr K (G.ca c) f
  mt : ∀ c f g, B.mt c f = some g → Cls K (G.ca c) ∧ Meth K (G.ca c) f (G.fa g) ∧ B.isf g = true
  ini : ∀ c g, B.ini c = some g → Mk K (G.ca c) (G.fa g) ∧ B.isf g = true
theorem pAtt_noEx (f : Str) (x : D) (S : Sto) : noEx (pAtt B f x S) := by
  unfold pAtt opt
  repeat' (first | exact True.intro | split)
variable {o e : Expr} {es : List Expr} {io ie : IE} {ies : IEs} {nm x : Str} {apos pos p : Pos}
theorem sE_att (hc : ClsAt X.K B G) (ho : PEv G X B C Wx o io) (hb : attributeBase o nm X.env (eval o X.env) = eval o X.env) : PEv G X B C Wx (.Attribute o nm pos) (.att io nm) :=
  pe_imp (pe_fld ho hb) fun σ H Q ⟨W, ρ, S, rl, en, q⟩ => by
    have q : Aft G (fun W' v d => RD G W' v d) (fun cls dx H' => Wx cls dx σ H') H W Q ((evE B C io ρ S).bind fun x S1 => pAtt B nm x S1) := by rw [evE] at q; exact q
    refine tE_imp (tE_at rl en q) fun v H1 ⟨d, S1, W1, r1, x1, e1, k1, a1⟩ => ?_
    unfold pAtt at a1
    split at a1
    · rename_i c ec
      split at a1
      · rename_i ha
        obtain ⟨a, dx, fs, rfl, h1, h2⟩ := cls_ok r1 k1 ec
        obtain ⟨c1, c2⟩ := hc.att c nm ha
        cases ed : attD S1 nm d with
        | none => rw [ed] at a1; exact a1.elim
        | some dd =>
          rw [ed] at a1
          obtain ⟨u, hu, ku⟩ := (h2 nm).2 dd ed
          exact ⟨a, _, dx, fs, u, rfl, h1, c1, c2, hu, a1 _ _ _ r1 Ext.refl ku⟩
      · exact a1.elim
    · exact a1.elim
theorem putF_rel {f : Str} {v : V} {d : D} (k : RD G W v d) : ∀ {fs : List (Str × V)} {ds : List (Str × D)}, fs.map (·.1) = ds.map (·.1) → RDs G W (fs.map (·.2)) (ds.map (·.2)) →
    (putF f v fs).map (·.1) = (putFd f d ds).map (·.1) ∧ RDs G W ((putF f v fs).map (·.2)) ((putFd f d ds).map (·.2))
  | [], [], _, _ => ⟨rfl, .cons k .nil⟩
  | [], _ :: _, e, _ => by simp at e
  | _ :: _, [], e, _ => by simp at e
  | (g, u) :: fs, (g', d') :: ds, e, r => by
    simp only [List.map_cons, List.cons.injEq] at e
    obtain ⟨e1, e2⟩ := e
    have e1 : g = g' := e1
    subst e1
    cases r with
    | cons r1 r2 =>
      have ih := putF_rel (f := f) k e2 r2
      unfold putF putFd
      by_cases hx : g = f
      · rw [if_pos hx, if_pos hx]
        exact ⟨by simp [e2], .cons k r2⟩
      · rw [if_neg hx, if_neg hx]
        exact ⟨by simp [ih.1], .cons r1 ih.2⟩
theorem sS_sta (hc : ClsAt X.K B G) (he : PEv G X B C Wx e ie) (ho : PEv G X B C Wx o io) (hs : swapsWith e (some (.Attribute o nm apos)) pos.line X.env = pure false) : PSv G X B C Wx (.Assign [.Attribute o nm apos] e pos) (.sta io nm ie) :=
  ps_imp (ps_fld ho he hs) fun D σ H ⟨W, ρ, S, rl, en, q⟩ => by
    have q : AftS G Wx D H W (stE (evE B C ie ρ S) ρ fun v S1 => stE (evE B C io ρ S1) ρ fun x S2 => nxO ρ (pFs B nm x v S2)) := by
      have : evS B C (.sta io nm ie) ρ S = stE (evE B C ie ρ S) ρ fun v S1 => stE (evE B C io ρ S1) ρ fun x S2 => nxO ρ (pFs B nm x v S2) := by
        rw [evS]
        cases evE B C ie ρ S with
        | ok v S1 =>
          first
          | (simp only [stE]; done)
          | (simp only [stE]
             cases evE B C io ρ S1 <;> rfl)
        | _ => rfl
      rw [← this]; exact q
    refine tE_imp (stE_at (ev := evE B C ie) rl en q) fun v H1 ⟨d, S1, W1, r1, x1, e1, k1, a1⟩ => ?_
    refine tE_imp (stE_at (ev := evE B C io) r1 e1 a1) fun o' H2 ⟨dx, S2, W2, r2, x2, e2, k2, a2⟩ => ?_
    unfold pFs at a2
    split at a2
    · rename_i kk
      split at a2
      · rename_i c fs0 e0
        split at a2
        · rename_i hh
          cases k2 with
          | @ref a _ h1 =>
            have ro := r2.obj _ _ _ e0 h1
            cases ro with
            | @ins dx _ fs _ h3 h5 h4 =>
              obtain ⟨c1, c2⟩ := hc.att c nm hh.1
              have hl : fs.length < 1000 := by
                have := congrArg List.length h5
                simp at this; omega
              refine ⟨a, _, dx, fs, rfl, h3, c1, c2, hl, ?_⟩
              have pf := putF_rel (f := nm) (k1.mono x2) h5 h4
              have pt := r2.put (u := .ins (G.ca c) dx (putF nm v fs)) (o := .ins c (putFd nm d fs0)) h1 e0 (fun z => nomatch z) fun H' e => .ins e pf.1 pf.2
              exact a2 σ _ _ pt.1 pt.2 (e2.mono pt.2)
        · exact a2.elim
      · exact a2.elim
    · exact a2.elim
/-! ### methods -/
theorem sE_mth {m : Bool} (hc : ClsAt X.K B G) (F : Cals X G B C) (tk : Takes X Wx) (ho : PEv G X B C Wx o io) (ha : PAv G X B C Wx es ies) (hbase : attributeBase o nm X.env (eval o X.env) = eval o X.env)
    (hfew : ((backTo pos (starEach es X.env)).all (fun x => !x.1) && (backToKw pos (keywordEach [] X.env)).all (fun x => x.1.isSome)
      && decide (es.length + ([] : List Keyword).length + (if ([] : List Keyword).isEmpty then 0 else 1) < 30)) = true)
    (hline : (apos.endLine == pos.line) = true) (h0 : es = [] → ies = .nil) (hst : ∀ y ys, es = y :: ys → starEach (y :: ys) X.env = (false, eval y X.env) :: starEach ys X.env ∧ (backTo pos (starEach ys X.env)).any (·.1) = false) :
    PEv G X B C Wx (.Call (.Attribute o nm apos) es [] pos) (.mth m io nm ies) := by
  refine ⟨fun pins s σ H Q I h => ?_⟩
  obtain ⟨W, ρ, S, rl, en, q⟩ := h
  rw [evE] at q
  cases eo : evE B C io ρ S with
  | no => rw [eo] at q; exact q.elim
  | ex c fs S1 => rw [eo] at q; exact q.elim
  | ok x S1 =>
    rw [eo] at q
    simp only at q
    cases eg : mthG B nm x S1 with
    | none => rw [eg] at q; exact q.elim
    | some g =>
      rw [eg] at q
      simp only at q
      unfold mthG at eg
      split at eg
      · rename_i c ec
        split at eg
        · cases eg
        · rename_i hn
          obtain ⟨c1, c2, c3⟩ := hc.mt c nm g eg
          obtain ⟨n, F1, hn2⟩ := F g c3
          obtain ⟨k, fd, ps, F2, hr, hb⟩ := F1.ex
          have hR : tE G (evE B C io) Wx σ H fun v H1 => ∃ W1, Rel G H1 W1 S1 ∧ Ext H W H1 W1 ∧ RD G W1 v x :=
            ⟨W, ρ, S, rl, en, by rw [eo]; exact fun v H1 W1 r1 x1 k1 => ⟨W1, r1, x1, k1⟩⟩
          refine PySem.W.methodCall_KW (thn (ho.run pins s σ H _ I hR) fun u s1 ⟨v, H1, I1, rv, W1, r1, x1, k1⟩ => ?_) (eval_meth hbase hfew hline)
          obtain ⟨a, dx, fs, rfl, h1, h2⟩ := cls_ok r1 k1 ec
          cases rv
          have hl : fs.lookup nm = none := (h2 nm).1 (by cases e : attD S1 nm x with | none => rfl | some d => rw [e] at hn; exact absurd rfl hn)
          refine getmeth_ok I1 h1 c1 c2 hl ?_
          have q1 : tA G (evEs B C ies) Wx σ H1 fun vs H2 => spC G C g (vs.length + 1) (.ref a :: vs) H2 Q (WE Wx σ) := by
            have q := Aft.move q x1
            refine ⟨W1, ρ, S1, r1, en.mono x1, (Aft.bind (rel := fun W' v d => RDs G W' v d) q).imp (fun vs H2 ⟨ds, S2, W2, r2, x2, k2, a2⟩ => ?_) fun _ _ _ z => z⟩
            exact callD_ok (vs := .ref a :: vs) r2 (.cons (k1.mono x2) k2) a2
          have fin : ∀ {us : List Value} {vs : List V} {s2 : Shared} {H2 : Hp}, Inv X pins σ H2 s2 → Vals vs us → spC G C g (vs.length + 1) (.ref a :: vs) H2 Q (WE Wx σ) → wpAny (model X.prog X.w) X.A (call (.ref (G.fa g)) (.ref a :: us)) (EP X pins σ Q) X.xe s2 := by
            intro us vs s2 H2 I2 r z
            have hlen : vs.length + 1 = n := by
              obtain ⟨_, W3, S3, ds3, _, k3, z3⟩ := z
              have hd := k3.length
              simp only [List.length_cons] at hd
              by_cases hq : ds3.length = n
              · omega
              · rw [hn2 ds3 S3 hq] at z3; exact z3.elim
            rw [hlen] at z
            exact run_fnS (us := .ref a :: us) (vs := .ref a :: vs) F2 (hr.mono (Nat.le_succ _)) hb (passAt tk σ) I2 (.cons rfl r) z
          cases es with
          | nil =>
            refine PySem.W.callWith_K0 (first := [.ref a]) I1.kIn c2.kp ?_
            have e0 := h0 rfl
            subst e0
            obtain ⟨W', ρ', S', rl', _, q'⟩ := q1
            exact fin I1 .nil (q' [] H1 W' rl' Ext.refl .nil)
          | cons y ys =>
            obtain ⟨t1, t2⟩ := hst y ys rfl
            refine PySem.W.callWith_K (first := [.ref a]) (h₀ := X.base) I.ok.mod.kin c2.kp (thn (ha.run pos pins s1 σ H1 _ I1 q1) fun us s2 ⟨vs, H2, I2, r, z⟩ => ⟨I2.kIn, ?_⟩) t1 t2
            exact fin I2 r z
      · cases eg
/-! ### making -/
/-- something that nobody knows of -/
theorem Rel.grow (r : Rel G H W S) {a : Addr} (u : HO) (ha : H a = none) : Rel G (upd H a u) W S ∧ Ext H W (upd H a u) W := by
  have s2 : Same H (upd H a u) := fun b y e => by rw [upd_ne (ne_of_none e ha)]; exact e
  refine ⟨⟨⟨tabs_keep r.tab.t fun b y e _ => s2 b y e, fun b hb y e => ?_, r.tab.h⟩, fun b y e => s2 _ _ (r.sub _ _ e), r.len, r.nd, fun b hb => ?_, r.apart, fun k q b h1 h2 => (r.obj k q b h1 h2).mono (fun y e _ => s2 b y e) (Same.refl _) (List.prefix_refl _)⟩,
    ⟨Same.refl _, List.prefix_refl _, fun b y h _ _ => s2 b y h, fun b y h n => ⟨y, s2 b y h, n⟩, fun b h => .inl h, fun b h => .inl h⟩⟩
  · obtain ⟨y', hy⟩ := r.out b hb
    rw [s2 b y' hy] at e
    cases e
    exact r.tab.f b hb _ hy
  obtain ⟨y, hy⟩ := r.out b hb
  exact ⟨y, s2 b y hy⟩
theorem Rel.made (r : Rel G H W S) {c : Nat} {x dx : Addr} (hx : H x = none) (hdx : H dx = none) (hne : dx ≠ x) :
    Rel G (upd (upd H dx (.own x)) x (.ins (G.ca c) dx [])) ⟨W.Hf, W.F ++ [x]⟩ (S ++ [.ins c []]) ∧ Ext H W (upd (upd H dx (.own x)) x (.ins (G.ca c) dx [])) ⟨W.Hf, W.F ++ [x]⟩ := by
  obtain ⟨r1, x1⟩ := r.grow (.own x) hdx
  have hx' : upd H dx (.own x) x = none := by rw [upd_ne hne.symm]; exact hx
  obtain ⟨r2, x2⟩ := r1.alloc (u := .ins (G.ca c) dx []) (o := .ins c []) hx' fun H' W' e _ _ => .ins e rfl .nil
  exact ⟨r2, x1.trans x2⟩
theorem isNon_of {d : D} (h : isNon d = true) : d = .t .non := by
  cases d with
  | t x => cases x <;> first | rfl | cases h
  | ref k => cases h
  | tup xs => cases h
theorem newD_ok {m : Bool} {c g : Nat} {vs : List V} {ds : List D} {Q : VK} {E : XK} (eg : B.ini c = some g) (rl : Rel G H W S) (k : RDs G W vs ds) (q : Aft G (fun W' v d => RD G W' v d) E H W Q (newD B C m c ds S)) {x dx : Addr}
    (hx : H x = none) (hdx : H dx = none) (hne : dx ≠ x) : spC G C g (vs.length + 1) (.ref x :: vs) (upd (upd H dx (.own x)) x (.ins (G.ca c) dx [])) (fun v H2 => v = .non ∧ Q (.ref x) H2) E := by
  refine ⟨rfl, ?_⟩
  unfold newD at q
  rw [eg] at q
  simp only at q
  cases m with
  | false =>
    rw [if_neg (by simp)] at q
    obtain ⟨r1, x1⟩ := rl.made (c := c) hx hdx hne
    have hF : (W.F ++ [x])[S.length]? = some x := by rw [← rl.len]; simp
    refine ⟨_, _, .ref S.length :: ds, r1, .cons (.ref hF) (k.mono x1), ?_⟩
    cases e : C g (.ref S.length :: ds) (S ++ [.ins c []]) with
    | no => rw [e] at q; exact q
    | ex cc fs S1 =>
      rw [e] at q
      exact fun cls dd H' W' r2 x2 kx => q cls dd H' W' r2 (x1.trans x2) kx
    | ok d S2 =>
      rw [e] at q
      simp only at q
      split at q
      · rename_i hn
        intro v H' W' r2 x2 kv
        rw [isNon_of hn] at kv
        cases kv.non_of
        exact ⟨rfl, q (.ref x) H' W' r2 (x1.trans x2) (.ref (Pre.at x2.f hF))⟩
      · exact q.elim
  | true =>
    rw [if_pos rfl] at q
    cases e0 : pls ds with
    | none => rw [e0] at q; exact q.elim
    | some ts =>
      rw [e0] at q
      simp only at q
      have e2 := pls_eq e0
      subst e2
      have ra := rl.apartW
      obtain ⟨r1, x1⟩ := ra.made (c := c) hx hdx hne
      have r1 : Rel G (upd (upd H dx (.own x)) x (.ins (G.ca c) dx [])) ⟨W.Hf, [x]⟩ [.ins c []] := r1
      refine ⟨⟨W.Hf, [x]⟩, [.ins c []], .ref 0 :: ts.map .t, r1, .cons (.ref rfl) (RDs.mono x1 (RDs.ofT (W := ⟨W.Hf, []⟩) k.toT)), ?_⟩
      cases e : C g (.ref 0 :: ts.map .t) [.ins c []] with
      | no => rw [e] at q; exact (show False from q)
      | ex cc fs S1 =>
        rw [e] at q
        intro cls dd H1 W1 r2 x2 kx
        obtain ⟨r3, x3⟩ := rl.back r2 (x1.trans x2)
        exact q cls dd H1 _ r3 x3 (kx.mono (H' := H1) (Same.refl _))
      | ok d S2 =>
        rw [e] at q
        simp only at q
        split at q
        · rename_i hn
          intro v H1 W1 r2 x2 kv
          rw [isNon_of hn] at kv
          cases kv.non_of
          refine ⟨rfl, ?_⟩
          split at q
          · rename_i t S3 e4
            have kr : RD G W1 (.ref x) (.ref 0) := .ref (Pre.at x2.f rfl)
            obtain ⟨W2, r3, x3, k3, _⟩ := frz_ok 9 r2 kr e4
            obtain ⟨r4, x4⟩ := rl.back r3 ((x1.trans x2).trans x3)
            exact q (.ref x) H1 _ r4 x4 (.t k3)
          · exact q.elim
        · exact q.elim
/-- a class called: its __init__ runs -/
theorem run_mk {pins : List (Addr × Obj)} {σ : L2.St} {s : Shared} {Q : VK} {us : List Value} {vs : List V} {k : Nat} {f Ca : Addr} {fd : FuncData} {ps : List Str} {sp : Sp} {E : L2.St → XK} (M : Mk X.K Ca f)
    (F : FnOk X.prog X.w X.K X.mg X.base (L2.CX X.prog X.w) k f fd ps sp) (hr : Room (k + 1) X.A) (hb : Binds X.K fd ps []) (hx : PassesAt (L2.CX X.prog X.w) X σ (E σ)) (I : Inv X pins σ H s) (r : Vals vs us)
    (h : ∀ x dx, H x = none → H dx = none → dx ≠ x → sp (.ref x :: vs) (upd (upd H dx (.own x)) x (.ins Ca dx [])) (fun v H2 => v = .non ∧ Q (.ref x) H2) (E σ)) :
    wpAny (model X.prog X.w) X.A (call (.ref Ca) us) (EP X pins σ Q) X.xe s := by
  generalize hn : s.heap.objs.size = n
  have hq := h (n + 1) n (I.hok.fresh (by rw [hn]; exact Nat.le_succ n)) (I.hok.fresh (by rw [hn]; exact Nat.le_refl n)) (Nat.ne_of_lt (Nat.lt_succ_self n))
  have J := Inv.made (C := Ca) I
  rw [hn] at J
  have rr : Vals (V.ref (n + 1) :: vs) (Value.ref (n + 1) :: us) := .cons rfl r
  have hlen : us.length + 1 = ps.length := by
    have z := F.len _ _ _ _ hq
    have y := rr.length
    simp only [List.length_cons] at z y
    omega
  have bb := hb _ (Value.ref (n + 1) :: us) J.kIn (by rw [List.append_nil]; exact hlen)
  rw [List.append_nil] at bb
  have body := F.run _ X.stack _ _ ⟨Value.ref (n + 1) :: us, []⟩ (Value.ref (n + 1) :: us) _ _ (E σ) (hr.make Ca us []) (J.env0.make Ca us []) bb rr hq
  subst hn
  refine wpAny_call (make_map (f := f) I.kIn M.makes M.init (beq_iff_eq.mp M.fn) (codeAny_mono body fun out s' hs => ?_))
  cases out with
  | error e => exact hx pins _ _ e s' J hs
  | ok fl =>
    cases fl with
    | ret u =>
      obtain ⟨v, H', I3, rv, ev, q3⟩ := J.after hs
      subst ev
      exact ⟨rv, V.ref _, H', I3, rfl, q3⟩
    | next => exact hs.elim
    | brk => exact hs.elim
    | cont => exact hs.elim
theorem sE_new {m : Bool} {c : Nat} (hc : ClsAt X.K B G) (F : Cals X G B C) (tk : Takes X Wx) (hg : Gl X x) (hm : X.mg x = some (.ref (G.ca c))) (ha : PAv G X B C Wx es ies) (hdb : (x == ("__debug__" : Str)) = false) (h0 : es = [] → ies = .nil)
    (hst : ∀ y ys, es = y :: ys → starEach (y :: ys) X.env = (false, eval y X.env) :: starEach ys X.env ∧ (backTo pos (starEach ys X.env)).any (·.1) = false) : PEv G X B C Wx (.Call (.Name x p) es [] pos) (.new m c ies) := by
  refine ⟨fun pins s σ H Q I h => ?_⟩
  obtain ⟨W, ρ, S, rl, en, q⟩ := h
  rw [evE] at q
  cases eg : B.ini c with
  | none => rw [eg] at q; exact q.elim
  | some g =>
    rw [eg] at q
    have q : Aft G (fun W' v d => RD G W' v d) (fun cls dx H' => Wx cls dx σ H') H W Q ((evEs B C ies ρ S).bind fun ds S1 => newD B C m c ds S1) := q
    obtain ⟨M, c3⟩ := hc.ini c g eg
    obtain ⟨n, F1, hn2⟩ := F g c3
    obtain ⟨k, fd, ps, F2, hr, hb⟩ := F1.ex
    refine wpAny_Call_Name_kw (ld_glob I hg hm ?_ hdb)
    have q1 : tA G (evEs B C ies) Wx σ H fun vs H2 => ∀ x dx, H2 x = none → H2 dx = none → dx ≠ x → spC G C g (vs.length + 1) (.ref x :: vs) (upd (upd H2 dx (.own x)) x (.ins (G.ca c) dx [])) (fun v H3 => v = .non ∧ Q (.ref x) H3) (WE Wx σ) :=
      ⟨W, ρ, S, rl, en, (Aft.bind (rel := fun W' v d => RDs G W' v d) q).imp (fun vs H2 ⟨ds, S2, W2, r2, x2, k2, a2⟩ x dx hx hdx hne => newD_ok eg r2 k2 a2 hx hdx hne) fun _ _ _ z => z⟩
    have fin : ∀ {us : List Value} {vs : List V} {s2 : Shared} {H2 : Hp}, Inv X pins σ H2 s2 → Vals vs us →
        (∀ x dx, H2 x = none → H2 dx = none → dx ≠ x → spC G C g (vs.length + 1) (.ref x :: vs) (upd (upd H2 dx (.own x)) x (.ins (G.ca c) dx [])) (fun v H3 => v = .non ∧ Q (.ref x) H3) (WE Wx σ)) → wpAny (model X.prog X.w) X.A (call (.ref (G.ca c)) us) (EP X pins σ Q) X.xe s2 := by
      intro us vs s2 H2 I2 r z
      have hlen : vs.length + 1 = n := by
        have z1 := z (s2.heap.objs.size + 1) s2.heap.objs.size (I2.hok.fresh (Nat.le_succ _)) (I2.hok.fresh (Nat.le_refl _)) (Nat.ne_of_lt (Nat.lt_succ_self _))
        obtain ⟨_, W3, S3, ds3, _, k3, z3⟩ := z1
        have hd := k3.length
        simp only [List.length_cons] at hd
        by_cases hq : ds3.length = n
        · omega
        · rw [hn2 ds3 S3 hq] at z3; exact z3.elim
      rw [hlen] at z
      exact run_mk (E := WE Wx) M F2 hr hb (passAt tk σ) I2 r z
    cases es with
    | nil =>
      have e0 := h0 rfl
      subst e0
      obtain ⟨W', ρ', S', rl', _, q'⟩ := q1
      exact PySem.W.callWith_K0 I.kIn M.kp (fin I .nil (q' [] H W' rl' Ext.refl .nil))
    | cons y ys =>
      obtain ⟨t1, t2⟩ := hst y ys rfl
      exact PySem.W.callWith_K (h₀ := X.base) I.ok.mod.kin M.kp (thn (ha.run pos pins s σ H _ I q1) fun us s2 ⟨vs, H2, I2, r, z⟩ => ⟨I2.kIn, fin I2 r z⟩) t1 t2
end
end Wc

/-! Wc: calls that only look, calls that leave out a default, a class's def called by the class's name, list(range()). -/
namespace Wc
open PySem PySem.Spec PyProof.Rows L2
section
variable {G : Gd} {X : Cx} {B : Tb} {C : Cal} {Wx : WX} {H H1 : Hp} {W W1 : Wd} {S : Sto}
theorem atom_rd {v : V} {d : D} (h : atomD d = true) (k : RD G W1 v d) : RD G W v d := by
  cases k with
  | t k => cases k with
    | non => exact .t .non
    | bl b => exact .t (.bl b)
    | int i => exact .t (.int i)
    | str x => exact .t (.str x)
    | lst _ _ => cases h
    | tup _ _ => cases h
    | dct _ _ _ => cases h
    | ins _ _ _ => cases h
    | fn _ => cases h
    | scr _ => cases h
  | ref _ => cases h
  | tup _ _ => cases h
theorem pkD_ok {f : Nat} {vs : List V} {ds : List D} {Q : VK} {E : XK} (rl : Rel G H W S) (k : RDs G W vs ds) (q : Aft G (fun W' v d => RD G W' v d) E H W Q (pkD C f ds S)) : spC G C f vs.length vs H Q E := by
  refine ⟨rfl, ?_⟩
  unfold pkD at q
  split at q
  · rename_i ts S1 e1
    obtain ⟨W2, r2, x2, k2, _⟩ := frzL_ok (frz_ok 9) rl k e1
    refine ⟨⟨W2.Hf, []⟩, [], ts.map .t, r2.apartW, RDs.ofT (W := ⟨W2.Hf, []⟩) k2, ?_⟩
    split at q
    · rename_i d S3 e3
      rw [e3]
      intro v H1 W1 r1 x1 k1
      split at q
      · rename_i ha
        have sm : LamX.ExtN H H1 := fun a u h n => x1.old a u h (by simp) n
        exact q v H1 W (rl.laterN sm r1.tab.t) (Ext.laterN sm) (atom_rd ha k1)
      · exact q.elim
    · exact q.elim
  · exact q.elim
theorem pkD_no {f : Nat} {ds : List D} (h : ∀ ts : List T, ts.length = ds.length → C f (ts.map .t) [] = .no) : pkD C f ds S = .no := by
  unfold pkD
  split
  · rename_i ts S1 e1
    have hl : ∀ (ds : List D) (S : Sto) (ts : List T) (S1 : Sto), frzL (frz 9) S ds = some (ts, S1) → ts.length = ds.length := by
      intro ds
      induction ds with
      | nil => intro S ts S1 e; simp [frzL] at e; rw [e.1]; simp
      | cons d ds ih =>
        intro S ts S1 e
        unfold frzL at e
        cases h1 : frz 9 S d with
        | none => rw [h1] at e; cases e
        | some p =>
          obtain ⟨t, S2⟩ := p
          rw [h1] at e
          simp only at e
          cases h2 : frzL (frz 9) S2 ds with
          | none => rw [h2] at e; cases e
          | some p =>
            obtain ⟨us, S3⟩ := p
            rw [h2] at e
            cases e
            simp [ih _ _ _ h2]
    rw [h ts (hl _ _ _ _ e1)]
  · rfl
variable {e : Expr} {es : List Expr} {ies : IEs} {pos p apos : Pos} {x nm : Str} {o : Expr} {io : IE}
/-- arguments, then a def -/
theorem argsG {n : Nat} {f : Nat} {g : List D → Sto → R D} {σ : L2.St} {Q : VK} {ρ : Ev} (rl : Rel G H W S) (en : REn G W σ ρ) (hg : ∀ {H : Hp} {W : Wd} {S : Sto} {vs : List V} {ds : List D}, Rel G H W S → RDs G W vs ds → Aft G (fun W' v d => RD G W' v d) (WE Wx σ) H W Q (g ds S) → spC G C f vs.length vs H Q (WE Wx σ))
    (hn : ∀ ds S, ds.length ≠ n → g ds S = .no)
    (q : Aft G (fun W' v d => RD G W' v d) (fun cls dx H' => Wx cls dx σ H') H W Q ((evEs B C ies ρ S).bind fun ds S1 => g ds S1)) : tCallS (spC G C f n) (WE Wx) (tA G (evEs B C ies) Wx) σ H Q := by
  cases e : evEs B C ies ρ S with
  | ok ds S1 =>
    rw [e] at q
    refine ⟨W, ρ, S, rl, en, ?_⟩
    rw [e]
    intro vs H1 W1 r1 x1 k1
    by_cases hl : ds.length = n
    · have h2 := hg r1 k1 (Aft.move q x1)
      rw [k1.length, hl] at h2
      exact h2
    · have q : Aft G (fun W' v d => RD G W' v d) (fun cls dx H' => Wx cls dx σ H') H W Q (g ds S1) := q
      rw [hn ds S1 hl] at q
      exact q.elim
  | ex c fs S1 => exact ⟨W, ρ, S, rl, en, by rw [e] at q ⊢; exact q⟩
  | no => rw [e] at q; exact q.elim
theorem sE_pk {f n : Nat} (F : CalOk X G C f n) (hn : ∀ ds S, ds.length ≠ n → C f ds S = .no) (tk : Takes X Wx) (hg : Gl X x) (hm : X.mg x = some (.ref (G.fa f))) (ha : PAv G X B C Wx (e :: es) ies) (hdb : (x == ("__debug__" : Str)) = false)
    (he : starEach (e :: es) X.env = (false, eval e X.env) :: starEach es X.env) (hpl : (backTo pos (starEach es X.env)).any (·.1) = false) : PEv G X B C Wx (.Call (.Name x p) (e :: es) [] pos) (.pk f ies) := by
  obtain ⟨k, fd, ps, F1, hr, hb⟩ := F.ex
  exact pe_imp (pe_callS F1 (hr.mono (Nat.le_succ _)) hg hm F.kp hb (passAt tk) ha hdb he hpl) fun σ H Q ⟨W, ρ, S, rl, en, q⟩ =>
    argsG (g := pkD C f) rl en (fun r k q => pkD_ok r k q) (fun ds S h => pkD_no fun ts ht => hn _ _ (by rw [List.length_map, ht]; exact h)) q
/-- a call that leaves out the last argument, which has a default -/
structure CalD (X : Cx) (G : Gd) (C : Cal) (f n : Nat) (dv : T) : Prop where
  ex : ∃ k fd ps v u, FnOk X.prog X.w X.K X.mg X.base (L2.CX X.prog X.w) k (G.fa f) fd ps (spC G C f n) ∧ Room (k + 1) X.A ∧ RelV v u ∧ (∀ H, RT G H v dv) ∧ Binds X.K fd ps [u]
  kp : PySem.W.keepIn X.K (.ref (G.fa f)) = true
  no : ∀ ds S, ds.length ≠ n → C f ds S = .no
theorem run_fnSD {k : Nat} {f : Addr} {fd : FuncData} {ps : List Str} {sp : Sp} {E : L2.St → XK} {pins : List (Addr × Obj)} {σ : L2.St} {H : Hp} {s : Shared} {Q : VK} {us : List Value} {vs : List V} {v : V} {u : Value} (F : FnOk X.prog X.w X.K X.mg X.base (L2.CX X.prog X.w) k f fd ps sp) (hr : Room k X.A) (hb : Binds X.K fd ps [u]) (hx : PassesAt (L2.CX X.prog X.w) X σ (E σ))
    (I : Inv X pins σ H s) (r : Vals vs us) (rv : RelV v u) (h : sp (vs ++ [v]) H Q (E σ)) : wpAny (model X.prog X.w) X.A (call (.ref f) us) (EP X pins σ Q) X.xe s := by
  have r2 : Vals (vs ++ [v]) (us ++ [u]) := r.append (.cons rv .nil)
  have hl : (us ++ [u]).length = ps.length := by rw [← r2.length]; exact F.len _ _ _ _ h
  have b := hb s us I.kIn hl
  refine wpAny_call (codeAny_mono (F.run X.A X.stack s H ⟨us, []⟩ (us ++ [u]) (vs ++ [v]) Q (E σ) hr I.env0 b r2 h) fun r s' hq => ?_)
  cases r with
  | error e => exact hx pins H s e s' I hq
  | ok fl =>
    cases fl with
    | ret u => exact I.after hq
    | next => exact False.elim hq
    | brk => exact False.elim hq
    | cont => exact False.elim hq
theorem callDd_ok {m : Bool} {f n : Nat} {dv : T} {v : V} {vs : List V} {ds : List D} {Q : VK} {E : XK} (hv : ∀ H, RT G H v dv) (hn : ∀ ds S, ds.length ≠ n → C f ds S = .no) (rl : Rel G H W S) (k : RDs G W vs ds) (q : Aft G (fun W' v d => RD G W' v d) E H W Q (callD C m f (ds ++ [.t dv]) S)) :
    spC G C f n (vs ++ [v]) H Q E := by
  have k2 : RDs G W (vs ++ [v]) (ds ++ [.t dv]) := k.append (.cons (.t (hv _)) .nil)
  have h := callD_ok rl k2 q
  by_cases hl : (ds ++ [D.t dv]).length = n
  · rw [k2.length, hl] at h; exact h
  · rw [callD_no fun S => hn _ _ hl] at q; exact q.elim
theorem sE_cald {m : Bool} {f : Nat} (F : ∀ dv, B.dft f = some dv → ∃ n, CalD X G C f n dv) (tk : Takes X Wx) (hg : Gl X x) (hm : X.mg x = some (.ref (G.fa f))) (ha : PAv G X B C Wx (e :: es) ies) (hdb : (x == ("__debug__" : Str)) = false)
    (he : starEach (e :: es) X.env = (false, eval e X.env) :: starEach es X.env) (hpl : (backTo pos (starEach es X.env)).any (·.1) = false) : PEv G X B C Wx (.Call (.Name x p) (e :: es) [] pos) (.cald m f ies) := by
  refine ⟨fun pins s σ H Q I h => ?_⟩
  obtain ⟨W, ρ, S, rl, en, q⟩ := h
  rw [evE] at q
  cases ed : B.dft f with
  | none => rw [ed] at q; exact q.elim
  | some dv =>
    rw [ed] at q
    obtain ⟨n, F1⟩ := F dv ed
    obtain ⟨k, fd, ps, v, u, F2, hr, rv, hv, hb⟩ := F1.ex
    have q : Aft G (fun W' v d => RD G W' v d) (fun cls dx H' => Wx cls dx σ H') H W Q ((evEs B C ies ρ S).bind fun ds S1 => callD C m f (ds ++ [.t dv]) S1) := q
    have q1 : tA G (evEs B C ies) Wx σ H fun vs H2 => spC G C f n (vs ++ [v]) H2 Q (WE Wx σ) :=
      ⟨W, ρ, S, rl, en, (Aft.bind (rel := fun W' v d => RDs G W' v d) q).imp (fun vs H2 ⟨ds, S2, W2, r2, x2, k2, a2⟩ => callDd_ok hv F1.no r2 k2 a2) fun _ _ _ z => z⟩
    refine wpAny_Call_Name_kw (ld_glob I hg hm ?_ hdb)
    refine PySem.W.callWith_K (h₀ := X.base) I.ok.mod.kin F1.kp (thn (ha.run pos pins s σ H _ I q1) fun us s1 ⟨vs, H1, I1, r, q⟩ => ⟨I1.kIn, ?_⟩) he hpl
    exact run_fnSD (E := WE Wx) F2 (hr.mono (Nat.le_succ _)) hb (passAt tk σ) I1 r rv q
/-! isinstance of an own class -/
structure InsF (K : PySem.W.Frag) (C : Addr) : Prop where
  cl : Cls K C
  ha : PySem.W.findIn K (.ref C) "__class__" = some (some (.builtin "object.__class__"))
  hn : PySem.W.specialIn K (.builtin "object.__class__") "__get__" = some (some (.builtin "getset_descriptor.__get__"))
  htk : PySem.W.takesIn K (.builtin "object.__class__") = some true
  hm : PySem.W.mroIn K C (.type "object") = some true
theorem insOf_ok {v : V} {d : D} {k : Nat} (rl : Rel G H W S) (r : RD G W v d) (e : insOf S d = some k) : ∃ a dx fs, v = .ref a ∧ H a = some (.ins (G.ca k) dx fs) := by
  unfold insOf at e
  split at e
  · cases e
    cases r with
    | t r => cases r with | ins h1 h2 h3 => exact ⟨_, _, _, rfl, rl.sub _ _ h1⟩
  · split at e
    · rename_i e1
      cases e
      cases r with
      | ref h1 =>
        have ro := rl.obj _ _ _ e1 h1
        cases ro with
        | ins h3 h4 h5 => exact ⟨_, _, _, rfl, h3⟩
    · cases e
  · cases e
theorem isoD_noEx (B : Tb) (c : Nat) (x : D) (S : Sto) : noEx (isoD B c x S) := by
  unfold isoD
  split
  · split <;> exact True.intro
  · exact True.intro
theorem sE_iso {a cn : Expr} {ia : IE} {c : Nat} {X : Cx} (hs : ∀ k c b, B.csub k c = some b → PySem.W.kitOne X.K (.ref (G.ca k)) (.ref (G.ca c)) = some b ∧ InsF X.K (G.ca k)) (hg : Gl X x) (hx : x = "isinstance") (hm : X.mg x = none) (ha : PEv G X B C Wx a ia) (hcn : PE X cn (tC (.ref (G.ca c))))
    (he : starEach (a :: [cn]) X.env = (false, eval a X.env) :: starEach [cn] X.env) (he2 : starEach [cn] X.env = (false, eval cn X.env) :: starEach [] X.env) (hpl : (backTo pos (starEach [cn] X.env)).any (·.1) = false) :
    PEv G X B C Wx (.Call (.Name x p) [a, cn] [] pos) (.iso ia c) := by
  subst hx
  refine pe_imp (pe_callB call_isi hg hm boot_isinstance (pa_cons ha (pa_cons hcn pa_nil he2) he) (by decide) (by decide) he hpl) fun σ H Q ⟨W, ρ, S, rl, en, q⟩ => ?_
  have q : Aft G (fun W' v d => RD G W' v d) (fun cls dx H' => Wx cls dx σ H') H W Q ((evE B C ia ρ S).bind fun x S1 => isoD B c x S1) := q
  refine tE_imp (tE_at rl en q) fun v H1 ⟨d, S1, W1, r1, x1, e1, k1, a1⟩ => ?_
  unfold isoD at a1
  cases e : insOf S1 d with
  | none => rw [e] at a1; exact a1.elim
  | some k =>
    rw [e] at a1
    simp only at a1
    cases e2 : B.csub k c with
    | none => rw [e2] at a1; exact a1.elim
    | some b =>
      rw [e2] at a1
      obtain ⟨h1, h2⟩ := hs k c b e2
      obtain ⟨ad, dx, fs, rfl, h3⟩ := insOf_ok r1 k1 e
      exact ⟨.ref ad, .ref (G.ca c), .ref (G.ca k), .ref (G.ca c), b, rfl, .own _, .base (.ins h3 h2.cl h2.ha h2.hn h2.htk h2.hm), h1, a1 _ _ _ r1 Ext.refl (.t (.bl b))⟩
/-- a call that names the last argument -/
structure CalK (X : Cx) (G : Gd) (C : Cal) (f n : Nat) (kn : Str) : Prop where
  ex : ∃ k fd ps, FnOk X.prog X.w X.K X.mg X.base (L2.CX X.prog X.w) k (G.fa f) fd ps (spC G C f n) ∧ Room (k + 1) X.A ∧ KBn X.K fd ps (n - 1) [kn] (fun us ws => us ++ ws) (fun vs zs => vs ++ zs)
  kp : PySem.W.keepIn X.K (.ref (G.fa f)) = true
  no : ∀ ds S, ds.length ≠ n → C f ds S = .no
theorem run_fnSK {k n : Nat} {f : Addr} {fd : FuncData} {ps : List Str} {kn : Str} {sp : Sp} {E : L2.St → XK} {pins : List (Addr × Obj)} {σ : L2.St} {H : Hp} {s : Shared} {Q : VK} {us ws : List Value} {vs zs : List V} (F : FnOk X.prog X.w X.K X.mg X.base (L2.CX X.prog X.w) k f fd ps sp) (hr : Room k X.A) (hb : KBn X.K fd ps n [kn] (fun us ws => us ++ ws) (fun vs zs => vs ++ zs)) (hx : PassesAt (L2.CX X.prog X.w) X σ (E σ))
    (I : Inv X pins σ H s) (r : Vals vs us) (rz : Vals zs ws) (l1 : vs.length = n) (l2 : zs.length = 1) (h : sp (vs ++ zs) H Q (E σ)) : wpAny (model X.prog X.w) X.A (call (.ref f) us ([kn].zip ws)) (EP X pins σ Q) X.xe s := by
  have r2 : Vals (vs ++ zs) (us ++ ws) := hb.rel r rz
  refine wpAny_call (codeAny_mono (F.run X.A X.stack s H ⟨us, [kn].zip ws⟩ (us ++ ws) (vs ++ zs) Q (E σ) hr I.env0 (hb.to s us ws I.kIn (r.length.symm.trans l1) (rz.length.symm.trans l2)) r2 h) fun r s' hq => ?_)
  cases r with
  | error e => exact hx pins H s e s' I hq
  | ok fl =>
    cases fl with
    | ret u => exact I.after hq
    | next => exact False.elim hq
    | brk => exact False.elim hq
    | cont => exact False.elim hq
theorem sE_ckw {m : Bool} {f : Nat} {kn : Str} {ke : Expr} {kpos : Pos} {ie : IE} (F : ∀ kn, B.kwn f = some kn → ∃ n, CalK X G C f n kn) (tk : Takes X Wx) (hg : Gl X x) (hm : X.mg x = some (.ref (G.fa f))) (ha : PAv G X B C Wx (e :: es) ies) (hk : PEv G X B C Wx ke ie) (hdb : (x == ("__debug__" : Str)) = false)
    (he : starEach (e :: es) X.env = (false, eval e X.env) :: starEach es X.env) (hpl : (backTo pos (starEach (e :: es) X.env)).any (·.1) = false) : PEv G X B C Wx (.Call (.Name x p) (e :: es) [⟨some kn, ke, kpos⟩] pos) (.ckw m f ies kn ie) := by
  refine ⟨fun pins s σ H Q I h => ?_⟩
  obtain ⟨W, ρ, S, rl, en, q⟩ := h
  rw [evE] at q
  by_cases ek : B.kwn f = some kn
  case neg => rw [decide_eq_false ek] at q; exact q.elim
  rw [decide_eq_true ek] at q
  obtain ⟨n, F1⟩ := F kn ek
  obtain ⟨k, fd, ps, F2, hr, hb⟩ := F1.ex
  have q : Aft G (fun W' v d => RD G W' v d) (fun cls dx H' => Wx cls dx σ H') H W Q ((evEs B C ies ρ S).bind fun ds S1 => (evE B C ie ρ S1).bind fun d S2 => callD C m f (ds ++ [d]) S2) := q
  have q1 : tA G (evEs B C ies) Wx σ H fun vs H1 => tE G (evE B C ie) Wx σ H1 fun z H2 => (vs ++ [z]).length = n ∧ spC G C f n (vs ++ [z]) H2 Q (WE Wx σ) :=
    ⟨W, ρ, S, rl, en, (Aft.bind (rel := fun W' v d => RDs G W' v d) q).imp (fun vs H2 ⟨ds, S2, W2, r2, x2, k2, a2⟩ =>
      ⟨W2, ρ, S2, r2, en.mono x2, (Aft.bind (rel := fun W' v d => RD G W' v d) a2).imp (fun z H3 ⟨d, S3, W3, r3, x3, k3, a3⟩ => by
        have k4 : RDs G W3 (vs ++ [z]) (ds ++ [d]) := (k2.mono x3).append (.cons k3 .nil)
        by_cases hl : (ds ++ [d]).length = n
        · have h := callD_ok r3 k4 a3
          rw [k4.length, hl] at h
          exact ⟨k4.length.trans hl, h⟩
        · rw [callD_no fun S => F1.no _ _ hl] at a3; exact a3.elim) fun _ _ _ z => z⟩) fun _ _ _ z => z⟩
  refine wpAny_Call_Name_kw (ld_glob I hg hm ?_ hdb)
  refine PySem.W.callWith_KW (h₀ := X.base) I.ok.mod.kin F1.kp rfl (thn (ha.run pos pins s σ H _ I q1) fun us s1 ⟨vs, H1, I1, r, q⟩ => ?_) (by rw [hpl]; rfl) he
  refine thn ((pk_cons hk pk_nil).run pos pins s1 σ H1 (fun zs H2 => zs.length = 1 ∧ (vs ++ zs).length = n ∧ spC G C f n (vs ++ zs) H2 Q (WE Wx σ)) I1 (by
    have q2 : tE G (evE B C ie) Wx σ H1 fun z H2 => [z].length = 1 ∧ (vs ++ [z]).length = n ∧ spC G C f n (vs ++ [z]) H2 Q (WE Wx σ) := (let ⟨W, ρ, S, r, e, a⟩ := q; ⟨W, ρ, S, r, e, a.imp (fun z H2 h => ⟨rfl, h⟩) fun _ _ _ z => z⟩)
    exact q2)) fun ws s2 ⟨zs, H2, I2, rz, l2, l3, q2⟩ => ⟨I2.kIn, ?_⟩
  exact run_fnSK (E := WE Wx) F2 (hr.mono (Nat.le_succ _)) hb (passAt tk σ) I2 r rz (by rw [List.length_append, l2] at l3; omega) l2 q2
theorem mth_noex {f : Str} {x : D} {g : Nat} (h : mthG B f x S = some g) : True := True.intro
/-- o.m(..), what is done with self and the arguments told apart -/
theorem sE_mthG {m : Str} {hd : IE} {g' : Nat → D → List D → Sto → R D} (hev : ∀ ρ S, evE B C hd ρ S = match evE B C io ρ S with
      | .ok x S1 => (match mthG B m x S1 with
        | some g => (evEs B C ies ρ S1).bind fun ds S2 => g' g x ds S2
        | none => .no)
      | _ => .no)
    (hc : ClsAt X.K B G) (tk : Takes X Wx) (ho : PEv G X B C Wx o io) (ha : PAv G X B C Wx es ies) (hbase : attributeBase o m X.env (eval o X.env) = eval o X.env)
    (hfew : ((backTo pos (starEach es X.env)).all (fun x => !x.1) && (backToKw pos (keywordEach [] X.env)).all (fun x => x.1.isSome)
      && decide (es.length + ([] : List Keyword).length + (if ([] : List Keyword).isEmpty then 0 else 1) < 30)) = true)
    (hline : (apos.endLine == pos.line) = true) (h0 : es = [] → ies = .nil) (hst : ∀ y ys, es = y :: ys → starEach (y :: ys) X.env = (false, eval y X.env) :: starEach ys X.env ∧ (backTo pos (starEach ys X.env)).any (·.1) = false)
    (hrun : ∀ (g : Nat) (c : Nat) (f : Str), B.mt c f = some g → ∀ {pins : List (Addr × Obj)} {σ : L2.St} {H : Hp} {W : Wd} {S : Sto} {s : Shared} {Q : VK} {a : Addr} {x : D} {us : List Value} {vs : List V} {ds : List D}, Inv X pins σ H s → Rel G H W S → RD G W (.ref a) x → RDs G W vs ds → Vals vs us →
      Aft G (fun W' v d => RD G W' v d) (WE Wx σ) H W Q (g' g x ds S) → wpAny (model X.prog X.w) X.A (call (.ref (G.fa g)) (.ref a :: us)) (EP X pins σ Q) X.xe s) :
    PEv G X B C Wx (.Call (.Attribute o m apos) es [] pos) hd := by
  refine ⟨fun pins s σ H Q I h => ?_⟩
  obtain ⟨W, ρ, S, rl, en, q⟩ := h
  rw [hev] at q
  cases eo : evE B C io ρ S with
  | no => rw [eo] at q; exact q.elim
  | ex c fs S1 => rw [eo] at q; exact q.elim
  | ok x S1 =>
    rw [eo] at q
    simp only at q
    cases eg : mthG B m x S1 with
    | none => rw [eg] at q; exact q.elim
    | some g =>
      rw [eg] at q
      simp only at q
      unfold mthG at eg
      split at eg
      · rename_i c ec
        split at eg
        · cases eg
        · rename_i hn
          obtain ⟨c1, c2, c3⟩ := hc.mt c m g eg
          have hR : tE G (evE B C io) Wx σ H fun v H1 => ∃ W1, Rel G H1 W1 S1 ∧ Ext H W H1 W1 ∧ RD G W1 v x :=
            ⟨W, ρ, S, rl, en, by rw [eo]; exact fun v H1 W1 r1 x1 k1 => ⟨W1, r1, x1, k1⟩⟩
          refine PySem.W.methodCall_KW (thn (ho.run pins s σ H _ I hR) fun u s1 ⟨v, H1, I1, rv, W1, r1, x1, k1⟩ => ?_) (eval_meth hbase hfew hline)
          obtain ⟨a, dx, fs, rfl, h1, h2⟩ := cls_ok r1 k1 ec
          cases rv
          have hl : fs.lookup m = none := (h2 m).1 (by cases e : attD S1 m x with | none => rfl | some d => rw [e] at hn; exact absurd rfl hn)
          refine getmeth_ok I1 h1 c1 c2 hl ?_
          have q1 : tA G (evEs B C ies) Wx σ H1 fun vs H2 => ∃ W2 S2 ds, Rel G H2 W2 S2 ∧ RD G W2 (.ref a) x ∧ RDs G W2 vs ds ∧ Aft G (fun W' v d => RD G W' v d) (WE Wx σ) H2 W2 Q (g' g x ds S2) := by
            have q := Aft.move q x1
            exact ⟨W1, ρ, S1, r1, en.mono x1, (Aft.bind (rel := fun W' v d => RDs G W' v d) q).imp (fun vs H2 ⟨ds, S2, W2, r2, x2, k2, a2⟩ => ⟨W2, S2, ds, r2, k1.mono x2, k2, a2⟩) fun _ _ _ z => z⟩
          cases es with
          | nil =>
            refine PySem.W.callWith_K0 (first := [.ref a]) I1.kIn c2.kp ?_
            have e0 := h0 rfl
            subst e0
            obtain ⟨W', ρ', S', rl', _, q'⟩ := q1
            obtain ⟨W2, S2, ds, r2, kx, k2, a2⟩ := q' [] H1 W' rl' Ext.refl .nil
            exact hrun g c m eg I1 r2 kx k2 .nil a2
          | cons y ys =>
            obtain ⟨t1, t2⟩ := hst y ys rfl
            refine PySem.W.callWith_K (first := [.ref a]) (h₀ := X.base) I.ok.mod.kin c2.kp (thn (ha.run pos pins s1 σ H1 _ I1 q1) fun us s2 ⟨vs, H2, I2, r, W2, S2, ds, r2, kx, k2, a2⟩ => ⟨I2.kIn, ?_⟩) t1 t2
            exact hrun g c m eg I2 r2 kx k2 r a2
      · cases eg
theorem sE_mpk (hc : ClsAt X.K B G) (F : Cals X G B C) (tk : Takes X Wx) (ho : PEv G X B C Wx o io) (ha : PAv G X B C Wx es ies) (hbase : attributeBase o nm X.env (eval o X.env) = eval o X.env)
    (hfew : ((backTo pos (starEach es X.env)).all (fun x => !x.1) && (backToKw pos (keywordEach [] X.env)).all (fun x => x.1.isSome)
      && decide (es.length + ([] : List Keyword).length + (if ([] : List Keyword).isEmpty then 0 else 1) < 30)) = true)
    (hline : (apos.endLine == pos.line) = true) (h0 : es = [] → ies = .nil) (hst : ∀ y ys, es = y :: ys → starEach (y :: ys) X.env = (false, eval y X.env) :: starEach ys X.env ∧ (backTo pos (starEach ys X.env)).any (·.1) = false) :
    PEv G X B C Wx (.Call (.Attribute o nm apos) es [] pos) (.mpk io nm ies) :=
  sE_mthG (g' := fun g x ds S => pkD C g (x :: ds) S) (fun ρ S => by
      first
      | (rw [evE]; done)
      | (rw [evE]
         cases evE B C io ρ S with
         | ok x S1 =>
           simp only
           cases mthG B nm x S1 <;> rfl
         | _ => rfl)) hc tk ho ha hbase hfew hline h0 hst fun g c f eg {pins σ H W S s Q a x us vs ds} I rl kx k r q => by
    obtain ⟨_, _, c3⟩ := hc.mt c f g eg
    obtain ⟨n, F1, hn⟩ := F g c3
    obtain ⟨k0, fd, ps, F2, hr, hb⟩ := F1.ex
    have z := pkD_ok (vs := .ref a :: vs) rl (.cons kx k) q
    have hlen : vs.length + 1 = n := by
      have hd := k.length
      by_cases hq : ds.length + 1 = n
      · omega
      · have q : Aft G (fun W' v d => RD G W' v d) (WE Wx σ) H W Q (pkD C g (x :: ds) S) := q
        rw [pkD_no fun ts ht => hn _ _ (by rw [List.length_map, ht]; exact hq)] at q
        exact q.elim
    have z : spC G C g (vs.length + 1) (.ref a :: vs) H Q (WE Wx σ) := z
    rw [hlen] at z
    exact run_fnS (us := .ref a :: us) (vs := .ref a :: vs) F2 (hr.mono (Nat.le_succ _)) hb (passAt tk σ) I (.cons rfl r) z
theorem sE_mthd {m : Bool} (hc : ClsAt X.K B G) (F : ∀ f dv, B.dft f = some dv → ∃ n, CalD X G C f n dv) (tk : Takes X Wx) (ho : PEv G X B C Wx o io) (ha : PAv G X B C Wx es ies) (hbase : attributeBase o nm X.env (eval o X.env) = eval o X.env)
    (hfew : ((backTo pos (starEach es X.env)).all (fun x => !x.1) && (backToKw pos (keywordEach [] X.env)).all (fun x => x.1.isSome)
      && decide (es.length + ([] : List Keyword).length + (if ([] : List Keyword).isEmpty then 0 else 1) < 30)) = true)
    (hline : (apos.endLine == pos.line) = true) (h0 : es = [] → ies = .nil) (hst : ∀ y ys, es = y :: ys → starEach (y :: ys) X.env = (false, eval y X.env) :: starEach ys X.env ∧ (backTo pos (starEach ys X.env)).any (·.1) = false) :
    PEv G X B C Wx (.Call (.Attribute o nm apos) es [] pos) (.mthd m io nm ies) :=
  sE_mthG (g' := fun g x ds S => match B.dft g with | some dv => callD C m g (x :: (ds ++ [.t dv])) S | none => .no) (fun ρ S => by
      first
      | (rw [evE]; done)
      | (rw [evE]
         cases evE B C io ρ S with
         | ok x S1 =>
           simp only
           cases mthG B nm x S1 <;> rfl
         | _ => rfl)) hc tk ho ha hbase hfew hline h0 hst fun g c f eg {pins σ H W S s Q a x us vs ds} I rl kx k r q => by
    cases ed : B.dft g with
    | none => rw [ed] at q; exact q.elim
    | some dv =>
      rw [ed] at q
      obtain ⟨n, F1⟩ := F g dv ed
      obtain ⟨k0, fd, ps, v, u, F2, hr, rv, hv, hb⟩ := F1.ex
      have z := callDd_ok (vs := .ref a :: vs) (ds := x :: ds) hv F1.no rl (.cons kx k) q
      exact run_fnSD (us := .ref a :: us) (vs := .ref a :: vs) (E := WE Wx) F2 (hr.mono (Nat.le_succ _)) hb (passAt tk σ) I (.cons rfl r) rv z
/-- K.f(..), a class's def by the class's name -/
structure Cfn (K : PySem.W.Frag) (Ca : Addr) (f : Str) (a : Addr) : Prop where
  rd : PySem.W.readsIn K Ca (.type "type") = true
  ga : PySem.W.specialIn K (.ref Ca) "__getattribute__" = some (some (.builtin "type.__getattribute__"))
  at_ : PySem.W.findCls K (.ref Ca) (.type "type") f = some (.val (.ref a))
theorem sE_cfn {m : Bool} {cn : Str} {f n : Nat} {Ca : Addr} {pc : Pos} (F : CalOk X G C f n) (hn : ∀ ds S, ds.length ≠ n → C f ds S = .no) (tk : Takes X Wx) (hg : Gl X cn) (hm : X.mg cn = some (.ref Ca)) (hdb : (cn == ("__debug__" : Str)) = false) (k : Cfn X.K Ca nm (G.fa f)) (ha : PAv G X B C Wx (e :: es) ies)
    (hbase : attributeBase (.Name cn pc) nm X.env (eval (.Name cn pc) X.env) = eval (.Name cn pc) X.env)
    (hfew : ((backTo pos (starEach (e :: es) X.env)).all (fun x => !x.1) && (backToKw pos (keywordEach [] X.env)).all (fun x => x.1.isSome)
      && decide ((e :: es).length + ([] : List Keyword).length + (if ([] : List Keyword).isEmpty then 0 else 1) < 30)) = true)
    (hline : (apos.endLine == pos.line) = true)
    (he : starEach (e :: es) X.env = (false, eval e X.env) :: starEach es X.env) (hpl : (backTo pos (starEach es X.env)).any (·.1) = false) : PEv G X B C Wx (.Call (.Attribute (.Name cn pc) nm apos) (e :: es) [] pos) (.cfn m cn nm f ies) := by
  refine ⟨fun pins s σ H Q I h => ?_⟩
  obtain ⟨W, ρ, S, rl, en, q⟩ := h
  obtain ⟨k0, fd, ps, F2, hr, hb⟩ := F.ex
  have q1 := argsCall (m := m) rl en hn q
  refine PySem.W.methodCall_KW (thn ((pe_glob (v := .ref Ca) (pos := pc) hg hm rfl hdb).run pins s σ H (fun v H1 => v = .ref Ca ∧ H1 = H) I ⟨rfl, rfl⟩) fun u s1 ⟨v, H1, I1, rv, e1, e2⟩ => ?_) (eval_meth hbase hfew hline)
  subst e1 e2
  cases rv
  refine PySem.W.method_cls I1.kIn k.ga (PySem.W.cls_value I1.kIn k.rd k.at_ (by rfl) ?_)
  have I2 := I1.tok (s.toks + 0)
  refine PySem.W.callWith_K (h₀ := X.base) I.ok.mod.kin F.kp (thn (ha.run pos pins _ σ _ _ (I1.tok _) q1) fun us s2 ⟨vs, H2, I3, r, q⟩ => ⟨I3.kIn, ?_⟩) he hpl
  exact run_fnS F2 (hr.mono (Nat.le_succ _)) hb (passAt tk σ) I3 r q
/-- list(range(n)) -/
theorem sE_lrg {a : Expr} {ia : IE} {p2 p3 : Pos} (hc : X.calm = true) (hg : Gl X "list") (hm : X.mg "list" = none) (hg2 : Gl X "range") (hm2 : X.mg "range" = none) (ha : PEv G X B C Wx a ia) (na : starEach [a] X.env = (false, eval a X.env) :: starEach [] X.env) :
    PEv G X B C Wx (.Call (.Name "list" p) [.Call (.Name "range" p2) [a] [] p3] [] pos) (.lrg ia) :=
  pe_imp (pe_listRg hc hg hm (prg_1 hg2 hm2 ha na)) fun σ H Q ⟨W, ρ, S, rl, en, q⟩ => by
    have q : Aft G (fun W' v d => RD G W' v d) (fun cls dx H' => Wx cls dx σ H') H W Q ((evE B C ia ρ S).bind fun x S1 => pLrg x S1) := by rw [evE] at q; exact q
    refine tE_imp (tE_at rl en q) fun v H1 ⟨d, S1, W1, r1, x1, e1, k1, a1⟩ => ?_
    unfold pLrg at a1
    split at a1
    · rename_i n
      cases k1.int_of
      split at a1
      · rename_i hh
        refine ⟨n, rfl, ⟨by omega, by omega, by omega, by omega, by omega⟩, fun q hq => ?_⟩
        have k2 : RDs G W1 (rgV 0 n) ((List.range n.toNat).map fun (i : Nat) => .t (.int (i : Int))) := by
          have e : rgV 0 n = (List.range n.toNat).map fun (i : Nat) => V.int (0 + (i : Nat)) := by unfold rgV; rw [Int.sub_zero]
          rw [e]
          have := RDs.range (G := G) (W := W1) 0 n.toNat
          have e2 : ((List.range n.toNat).map fun (i : Nat) => Wc.D.t (.int (0 + (i : Int)))) = (List.range n.toNat).map fun (i : Nat) => .t (.int (i : Int)) := by
            congr 1; funext i; rw [Int.zero_add]
          rwa [e2] at this
        exact mkL_ok r1 k2 a1 q hq
      · exact a1.elim
    · exact a1.elim
/-! ### x == () -/
theorem RTs.emp {H : Hp} {vs : List V} {ts : List T} (h : RTs G H vs ts) : vs.isEmpty = ts.isEmpty := by cases h <;> rfl
theorem RDs.emp {vs : List V} {ds : List D} (h : RDs G W vs ds) : vs.isEmpty = ds.isEmpty := by cases h <;> rfl
def rEqN (K : PySem.W.Frag) : R2 := fun x y H Q => ∃ a b xs, x = .ref a ∧ y = .ref b ∧ SqT K H a xs ∧ SqT K H b [] ∧ Q (.bl xs.isEmpty) H
theorem op_eqNil {X : Cx} (hu : X.A.units + 65 < cLine) : OpR X (compareOp .Eq) (rEqN X.K) := by
  intro pins s σ H x y v u Q I rx ry h
  obtain ⟨a, b, xs, rfl, rfl, ha, hb, q⟩ := h
  cases rx
  cases ry
  obtain ⟨its, r1, p1, _⟩ := I.tuple ha
  obtain ⟨its2, r2, p2, _⟩ := I.tuple hb
  cases r2
  refine PySem.W.eq_tuplesT (n := 0) (e := fun _ => true) p1 p2 (fun j _ h2 => absurd h2 (by simp)) (by omega) ?_
  have e : ((List.range (min its.toArray.size ([] : List Value).toArray.size)).all (fun _ => true) && its.toArray.size == ([] : List Value).toArray.size) = xs.isEmpty := by
    cases r1 <;> simp
  rw [e]
  exact ⟨.bl _, H, I, rfl, q⟩
theorem eqt_imp {ia : IE} {X : Cx} (hK : X.K = G.K) {σ : L2.St} {Q : VK} (h : tE G (evE B C (.eqt ia)) Wx σ H Q) : tOp (rEqN X.K) (tE G (evE B C ia) Wx) (tTup tNil) σ H Q := by
  obtain ⟨W, ρ, S, rl, en, q⟩ := h
  have q : Aft G (fun W' v d => RD G W' v d) (fun cls dx H' => Wx cls dx σ H') H W Q ((evE B C ia ρ S).bind fun x S1 => pEqt x S1) := q
  refine tE_imp (tE_at rl en q) fun v H1 ⟨d, S1, W1, r1, x1, e1, k1, a1⟩ => ?_
  unfold pEqt at a1
  refine ⟨by rw [sizeLine_eq]; decide, fun b hb => ?_⟩
  obtain ⟨r2, x2⟩ := r1.new (o := .tup []) hb
  split at a1
  · cases k1 with
    | t k1 =>
      cases k1 with
      | tup h1 h2 =>
        refine ⟨_, b, _, rfl, rfl, SqT.of (r2.sub _ _ (x2.hf _ _ h1)), SqT.of upd_same, ?_⟩
        rw [h2.emp]
        exact a1 _ _ _ r2 x2 (.t (.bl _))
  · cases k1 with
    | tup h1 h2 =>
      refine ⟨_, b, _, rfl, rfl, SqT.of (r2.sub _ _ (x2.hf _ _ h1)), SqT.of upd_same, ?_⟩
      rw [h2.emp]
      exact a1 _ _ _ r2 x2 (.t (.bl _))
  · exact a1.elim
theorem sE_eqt {a : Expr} {ia : IE} {X : Cx} {tk : Nat} {p pos : Pos} (hK : X.K = G.K) (hu : X.A.units + 65 < cLine) (ha : PEv G X B C Wx a ia) : PEv G X B C Wx (.Compare a [.Eq] [.Tuple [] tk p] pos) (.eqt ia) :=
  pe_imp (pe_cmpR (op_eqNil hu) ha (pe_tup pa_nil) (by rfl)) fun σ H Q h => eqt_imp hK h
theorem sT_eqt {a : Expr} {ia : IE} {X : Cx} {tk : Nat} {p pos : Pos} (hK : X.K = G.K) (hu : X.A.units + 65 < cLine) (ha : PEv G X B C Wx a ia) : PTv G X B C Wx (.Compare a [.Eq] [.Tuple [] tk p] pos) (.eqt ia) :=
  pt_imp (pt_cmpR (op_eqNil hu) ha (pe_tup pa_nil) (by rfl)) fun σ H Q h => eqt_imp hK h
end
end Wc

/-! Wc: the small language is the text's: a check, and what it is worth. -/
namespace Wc
open PySem PySem.Spec PyProof.Rows L2

/-- what of the text's top is known by name -/
structure Tx where
  gn : Str → Option T
  bn : Str → Bool
  fnm : Nat → Option Str
  cnm : Nat → Option Str
  dft : Nat → Option T
  kwn : Nat → Option Str
  xnm : Nat → Option Str := fun _ => none
  xpl : Nat → Bool := fun _ => false
  hfn : Nat → Option Str := fun _ => none
  cfn : Str → Str → Option Nat
  lm : Bool := false
def visB (sc : Scope) (x : Str) : Bool := match sc.names.lookup x with
  | some .local => true
  | some .cell => true
  | some .free => true
  | _ => false
def gloB (sc : Scope) (x : Str) : Bool := match sc.names.lookup x with
  | some .globalImplicit => true
  | _ => false
def stoB (sc : Scope) (x : Str) : Bool := match sc.names.lookup x with
  | some .local => true
  | some .cell => true
  | _ => false
def okNm (x : Str) : Bool := (x == ("__debug__" : Str)) == false && (x == ("__classdict__" : Str)) == false && (x == ("__name__" : Str)) == false
def sameT : T → T → Bool
  | .non, .non => true
  | .bl a, .bl b => a == b
  | .int a, .int b => a == b
  | .str a, .str b => a == b
  | .fn a, .fn b => a == b
  | _, _ => false
theorem sameT_eq {a b : T} (h : sameT a b = true) : a = b := by
  cases a <;> cases b <;> simp_all [sameT]
def opEq : Operator → Operator → Bool
  | .Add, .Add => true | .Sub, .Sub => true | .Mult, .Mult => true | .FloorDiv, .FloorDiv => true | .Mod, .Mod => true | .Pow, .Pow => true
  | .LShift, .LShift => true | .RShift, .RShift => true | .BitAnd, .BitAnd => true | .BitOr, .BitOr => true | .BitXor, .BitXor => true | _, _ => false
theorem opEq_eq {a b : Operator} (h : opEq a b = true) : a = b := by
  cases a <;> cases b <;> first | rfl | cases h
def cmEq : CmpOp → CmpOp → Bool
  | .Eq, .Eq => true | .NotEq, .NotEq => true | .Lt, .Lt => true | .LtE, .LtE => true | .Gt, .Gt => true | .GtE, .GtE => true | .Is, .Is => true | .IsNot, .IsNot => true | .In, .In => true | .NotIn, .NotIn => true | _, _ => false
theorem cmEq_eq {a b : CmpOp} (h : cmEq a b = true) : a = b := by
  cases a <;> cases b <;> first | rfl | cases h
def notStar : Expr → Bool
  | .Starred _ _ => false
  | _ => true
def notSet : Expr → Bool
  | .Set _ _ _ => false
  | _ => true
/-- a lambda that tells an item's second and first part -/
def lamB : Expr → Bool
  | .Lambda ⟨[], [⟨h, none, _⟩], none, [], [], none, []⟩ (.Tuple [.Subscript (.Name h1 _) (.Constant (.int i) k1 _) _, .Subscript (.Name h2 _) (.Constant (.int j) k2 _) _] k3 _) scope _ =>
    h == h1 && h == h2 && decide (i = 1) && decide (j = 0) && decide (k1 = 0) && decide (k2 = 0) && decide (k3 = 0) && okNm h && decide (scope.names = [(h, .local)]) && decide (scope.kind = .function) && !scope.isCoroutine && !scope.isGenerator
  | _ => false
theorem lamB_ok {e : Expr} (h : lamB e = true) : ∃ (x : Str) (scope : Scope) (x0 x1 x2 x3 x4 x5 x6 hp lp : Pos), e = .Lambda (lamPs x hp) (keyE x x0 x1 x2 x3 x4 x5 x6) scope lp ∧ FnScope [x] [x] scope ∧ okNm x = true ∧ scope.names = [(x, .local)] := by
  unfold lamB at h
  split at h
  · simp only [Bool.and_eq_true, beq_iff_eq, decide_eq_true_eq, Bool.not_eq_true'] at h
    obtain ⟨⟨⟨⟨⟨⟨⟨⟨⟨⟨⟨h1, h2⟩, h3⟩, h4⟩, h5⟩, h6⟩, h7⟩, h8⟩, h9⟩, h10⟩, h11⟩, h12⟩ := h
    subst h1 h2 h3 h4 h5 h6 h7
    exact ⟨_, _, _, _, _, _, _, _, _, _, _, rfl, ⟨h10, h11, h12, by simp, rfl, fun y hy => .inl (by rw [List.mem_singleton.mp hy, h9]; simp), fun y hy => by rw [h9, List.mem_singleton] at hy; rw [hy]; simp⟩, h8, h9⟩
  · cases h
def notSl : Expr → Bool
  | .Slice _ _ _ _ => false
  | _ => true
def notLc : Expr → Bool
  | .ListComp _ _ _ _ => false
  | .SetComp _ _ _ _ => false
  | .DictComp _ _ _ _ _ => false
  | _ => true
def notTup : Expr → Bool
  | .Tuple _ _ _ => false
  | .List _ _ => false
  | _ => true
def notCall : Expr → Bool
  | .Call (.Name _ _) [] [] _ => false
  | _ => true
theorem base_of {e : Expr} (h : notCall e = true) (a : Str) (env : Env) (w : Sem Value) : attributeBase e a env w = w := by
  cases e with
  | Call f xs ks p =>
    cases f with
    | Name z q =>
      cases xs with
      | nil =>
        cases ks with
        | nil => cases h
        | cons k r => rfl
      | cons y r => rfl
    | _ => rfl
  | _ => rfl
theorem star_of {e : Expr} (h : notStar e = true) (es : List Expr) (env : Env) : starEach (e :: es) env = (false, eval e env) :: starEach es env := by
  cases e <;> first | rfl | cases h
def stars : List Expr → Bool
  | [] => true
  | e :: es => notStar e && stars es
theorem stars_of : ∀ {es : List Expr} (h : stars es = true) (env : Env) (pos : Pos), (backTo pos (starEach es env)).any (·.1) = false
  | [], _, _, _ => rfl
  | e :: es, h, env, pos => by
    unfold stars at h
    rw [Bool.and_eq_true] at h
    have ih := stars_of h.2 env pos
    rw [star_of h.1]
    have bt : ∀ (l : List (Bool × Sem Value)), (backTo pos l).any (·.1) = l.any (·.1) := fun l => by
      unfold backTo
      induction l with
      | nil => rfl
      | cons a l ih => simp_all
    rw [bt] at ih ⊢
    simp [ih]
theorem few_of {es : List Expr} (h : stars es = true) (hl : es.length < 20) (env : Env) (pos : Pos) :
    ((backTo pos (starEach es env)).all (fun x => !x.1) && (backToKw pos (keywordEach [] env)).all (fun x => x.1.isSome) && decide (es.length + ([] : List Keyword).length + (if ([] : List Keyword).isEmpty then 0 else 1) < 30)) = true := by
  have h1 := stars_of h env pos
  have h2 : (backTo pos (starEach es env)).all (fun x => !x.1) = true := by
    rw [List.any_eq_false] at h1
    rw [List.all_eq_true]
    intro x hx; simpa using h1 x hx
  rw [h2]
  simp [backToKw, keywordEach]
  omega
theorem set_of {e : Expr} (h : notSet e = true) (env : Env) (x : Value) : foldedSetIterable e env x = pure x := by
  cases e <;> first | rfl | cases h
theorem plainIx_of {e : Expr} (h : notSl e = true) : PlainIx e := by
  intro o i
  cases e <;> first | rfl | cases h
theorem swS_of {e : Expr} (h : notLc e = true) (t : Expr) (l : Nat) (env : Env) : swapsWithSole [t] e l env = pure false := by
  cases e <;> first | rfl | cases h
theorem swN_of {e : Expr} (h : notLc e = true) (l : Nat) (env : Env) : swapsWith e none l env = pure false := by
  cases e <;> first | rfl | cases h
theorem swF_of {e : Expr} (h : notLc e = true) (t : Option Expr) (l : Nat) (env : Env) : swapsWith e t l env = pure false := by
  cases e <;> first | rfl | cases h
theorem swp_name {x : Str} {p : Pos} {e : Expr} (env : Env) : swappedStores [.Name x p] e env = pure none := by
  cases e <;> rfl
theorem swp_tup {t e : Expr} (h : notTup e = true) (env : Env) : swappedStores [t] e env = pure none := by
  cases e <;> first | (cases t <;> rfl) | cases h
theorem asgSub_of {o i : Expr} {p : Pos} (h : notSl i = true) (env : Env) (v : Value) : assign (.Subscript o i p) env v = (do
      let ov ← holding [v] (eval o env)
      let iv ← holding [v, ov] (eval i env)
      standAt p
      holding [v, ov, iv] (setItem ov iv v)
      release [v, ov, iv] []) := by
  cases i <;> first | rfl | cases h
theorem swp_sub {o i e : Expr} {p : Pos} (env : Env) : swappedStores [.Subscript o i p] e env = pure none := by
  cases e <;> rfl
def bmCk (b : Bm) (n : Nat) (nm : Str) : Bool := match b with
  | .bitlen => n == 0 && nm == "bit_length"
  | .popD => n == 1 && nm == "pop"
  | .get => n == 2 && nm == "get"
  | .setdefault => n == 2 && nm == "setdefault"
  | b => if n == 0 then bmOk0 b && nm == bmN b else bmOk b && nm == bmN b
section
variable (t : Tx) (N : List Str)
/-- the names of a target -/
def erP (sc : Scope) : Pt → Expr → Bool
  | .v i, .Name x _ => decide (N[i]? = some x) && stoB sc x
  | .tup is, .Tuple xs _ _ => go is xs
  | .nst i js, .Tuple [.Name x _, .Tuple ys _ _] _ _ => decide (N[i]? = some x) && stoB sc x && go js ys
  | _, _ => false
where go : List Nat → List Expr → Bool
  | [], [] => true
  | i :: is, .Name x _ :: xs => decide (N[i]? = some x) && stoB sc x && go is xs
  | _, _ => false
def ownOf : Pt → Expr → List (Str × Nat)
  | .v i, .Name x _ => [(x, i)]
  | .tup is, .Tuple xs _ _ => go is xs
  | .nst i js, .Tuple [.Name x _, .Tuple ys _ _] _ _ => (x, i) :: go js ys
  | _, _ => []
where go : List Nat → List Expr → List (Str × Nat)
  | i :: is, .Name x _ :: xs => (x, i) :: go is xs
  | _, _ => []
def erC (sc : Scope) : Cl → Expr → Bool
  | c, .Name z _ => (match c with | .own _ => false | _ => true) && decide (z = (Str.ofString (clT c))) && t.bn z && gloB sc z && okNm z
  | _, _ => false
def tupTg (k : Ik) (tg : Expr) : Bool := match k with
  | .enu => (match tg with | .Tuple _ _ _ => true | _ => false)
  | .zip => (match tg with | .Tuple _ _ _ => true | _ => false)
  | _ => true
def isNop : IE → Bool
  | .nop => true
  | _ => false
mutual
def er : IE → Scope → Expr → Bool
  | .v i, sc, e => (match e with
    | .Name x _ => decide (N[i]? = some x) && visB sc x && okNm x
    | _ => false)
  | .c d, sc, e => (match e with
    | .Constant (.int j) _ _ => sameT d (.int j)
    | .Constant (.bool j) _ _ => sameT d (.bl j)
    | .Constant (.str j) _ _ => sameT d (.str j)
    | .Constant .none _ _ => sameT d .non
    | _ => false)
  | .g x d, sc, e => (match e with
    | .Name y _ => x == y && gloB sc y && okNm y && (match t.gn y with | some d' => sameT d d' | none => false)
    | _ => false)
  | .bin _ op a b, sc, e => (match e with
    | .BinOp x o y _ => opEq op o && er a sc x && er b sc y
    | _ => false)
  | .neg a, sc, e => (match e with
    | .UnaryOp .USub x _ => er a sc x
    | _ => false)
  | .cmp op a b, sc, e => (match e with
    | .Compare x [o] [y] _ => cmEq op o && er a sc x && er b sc y && behindInMarks o y == false
    | _ => false)
  | .ch2 o1 o2 a b c, sc, e => (match e with
    | .Compare x [p1, p2] [y, z] _ => cmEq o1 p1 && cmEq o2 p2 && er a sc x && er b sc y && er c sc z && lastMarks [p1, p2] [y, z] == false
    | _ => false)
  | .ch3 o1 o2 o3 a b c d, sc, e => (match e with
    | .Compare x [p1, p2, p3] [y, z, w] _ => cmEq o1 p1 && cmEq o2 p2 && cmEq o3 p3 && er a sc x && er b sc y && er c sc z && er d sc w && lastMarks [p1, p2, p3] [y, z, w] == false
    | _ => false)
  | .one a, sc, e => (match e with
    | .BoolOp _ [x] _ => er a sc x
    | _ => false)
  | .and a b, sc, e => (match e with
    | .BoolOp .And (x :: y :: r) p => er a sc x && er b sc (.BoolOp .And (y :: r) p)
    | _ => false)
  | .or a b, sc, e => (match e with
    | .BoolOp .Or (x :: y :: r) p => er a sc x && er b sc (.BoolOp .Or (y :: r) p)
    | _ => false)
  | .not a, sc, e => (match e with
    | .UnaryOp .Not x _ => er a sc x
    | _ => false)
  | .ite c a b, sc, e => (match e with
    | .IfExp x y z _ => er c sc x && er a sc y && er b sc z
    | _ => false)
  | .tup es, sc, e => (match e with
    | .Tuple xs _ _ => ers es sc xs && decide (lenIEs es ≤ 1000)
    | _ => false)
  | .lst _ es, sc, e => (match e with
    | .List xs _ => ers es sc xs && decide (lenIEs es ≤ 1000)
    | _ => false)
  | .dct _ kvs, sc, e => (match e with
    | .Dict ks vs _ => (match ks with
      | [] => (match vs with | [] => (match kvs with | .nil => true | _ => false) | _ => false)
      | _ => erD kvs sc ks vs && decide (lenIEs kvs ≤ 30))
    | _ => false)
  | .idx a b, sc, e => (match e with
    | .Subscript x y _ => er a sc x && er b sc y && notSl y
    | _ => false)
  | .sl a lo hi, sc, e => (match e with
    | .Subscript x (.Slice l h none _) _ => er a sc x && (match l with | none => isNop lo | some y => !isNop lo && er lo sc y) && (match h with | none => isNop hi | some y => !isNop hi && er hi sc y)
    | _ => false)
  | .sl3 a lo hi k, sc, e => (match e with
    | .Subscript x (.Slice l h (some st) _) _ => er a sc x && (match l with | none => isNop lo | some y => !isNop lo && er lo sc y) && (match h with | none => isNop hi | some y => !isNop hi && er hi sc y) && stepC k st
    | _ => false)
  | .sss a, sc, e => (match e with
    | .Call (.Name x _) [.Call (.Name y _) [z] [] _] [] _ => x == ("sorted" : Str) && y == ("set" : Str) && t.bn x && gloB sc x && t.bn y && gloB sc y && er a sc z && notStar z
    | _ => false)
  | .lss a, sc, e => (match e with
    | .Call (.Name x _) [.Call (.Name y _) [z] [] _] [] _ => x == ("len" : Str) && y == ("set" : Str) && t.bn x && gloB sc x && t.bn y && gloB sc y && er a sc z && notStar z
    | _ => false)
  | .nop, _, _ => false
  | .att a f, sc, e => (match e with
    | .Attribute x nm _ => nm == f && er a sc x && notCall x
    | _ => false)
  | .stk, _, _ => true
  | .call _ f es, sc, e => (match e with
    | .Call (.Name x _) xs [] _ => decide (t.fnm f = some x) && gloB sc x && okNm x && ers es sc xs
    | _ => false)
  | .cv _ i es, sc, e => (match e with
    | .Call (.Name x _) (y :: ys) [] _ => decide (N[i]? = some x) && visB sc x && okNm x && ers es sc (y :: ys)
    | _ => false)
  | .new _ c es, sc, e => (match e with
    | .Call (.Name x _) xs [] _ => decide (t.cnm c = some x) && gloB sc x && okNm x && ers es sc xs
    | _ => false)
  | .mth _ o f es, sc, e => (match e with
    | .Call (.Attribute x nm p1) ys [] p2 => nm == f && (p1.endLine == p2.line) && er o sc x && ers es sc ys && notCall x && decide (ys.length < 20)
    | _ => false)
  | .bi _ b es, sc, e => (match e with
    | .Call (.Name x _) (y :: ys) [] _ => x == (biId b).1 && t.bn x && gloB sc x && ers es sc (y :: ys)
    | _ => false)
  | .bm _ b o es, sc, e => (match e with
    | .Call (.Attribute x nm p1) ys [] p2 => bmCk b ys.length nm && (p1.endLine == p2.line) && er o sc x && ers es sc ys && notCall x && decide (ys.length < 20)
    | _ => false)
  | .isi a c, sc, e => (match e with
    | .Call (.Name x _) [y, z] [] _ => x == ("isinstance" : Str) && t.bn x && gloB sc x && er a sc y && erC t sc c z && notStar y && notStar z
    | _ => false)
  | .lc _ el p k es cond, sc, e => (match e with
    | .ListComp e [⟨tg, it, ifs, 0⟩] scope _ => erP N scope p tg && blkC N sc scope (ownOf p tg) && erI es k sc it && er el scope e && notSet it && tupTg k tg && (match ifs with
      | [] => (match cond with | .c (.bl true) => true | _ => false)
      | [c] => er cond scope c
      | _ => false)
    | _ => false)
  | .frz a, sc, x => er a sc x
  | .pk f es, sc, e => (match e with
    | .Call (.Name x _) (y :: ys) [] _ => decide (t.fnm f = some x) && gloB sc x && okNm x && ers es sc (y :: ys)
    | _ => false)
  | .cald _ f es, sc, e => (match e with
    | .Call (.Name x _) (y :: ys) [] _ => decide (t.fnm f = some x) && gloB sc x && okNm x && ers es sc (y :: ys)
    | _ => false)
  | .ckw _ f es kn ie, sc, e => (match e with
    | .Call (.Name x _) (y :: ys) [⟨some k, ke, _⟩] _ => decide (k = kn) && decide (t.fnm f = some x) && gloB sc x && okNm x && ers es sc (y :: ys) && er ie sc ke
    | _ => false)
  | .mpk o f es, sc, e => (match e with
    | .Call (.Attribute x nm p1) ys [] p2 => nm == f && (p1.endLine == p2.line) && er o sc x && ers es sc ys && notCall x && decide (ys.length < 20)
    | _ => false)
  | .mthd _ o f es, sc, e => (match e with
    | .Call (.Attribute x nm p1) ys [] p2 => nm == f && (p1.endLine == p2.line) && er o sc x && ers es sc ys && notCall x && decide (ys.length < 20)
    | _ => false)
  | .cfn _ cn f g es, sc, e => (match e with
    | .Call (.Attribute (.Name z _) nm p1) (y :: ys) [] p2 => nm == f && z == cn && (p1.endLine == p2.line) && decide (t.cfn z nm = some g) && gloB sc z && okNm z && ers es sc (y :: ys) && decide ((y :: ys).length < 20)
    | _ => false)
  | .iso a c, sc, e => (match e with
    | .Call (.Name x _) [y, .Name z _] [] _ => x == ("isinstance" : Str) && t.bn x && gloB sc x && er a sc y && decide (t.cnm c = some z) && gloB sc z && okNm z && notStar y
    | _ => false)
  | .eqt a, sc, e => (match e with
    | .Compare x [.Eq] [.Tuple [] _ _] _ => er a sc x
    | _ => false)
  | .its _ i j v, sc, e => (match e with
    | .ListComp (.Tuple [.Name y1 _, .Name y2 _] _ _) [⟨.Tuple [.Name x1 q1, .Name x2 q2] kk tpos, .Call (.Attribute (.Name z _) nm p1) [] [] p2, [], 0⟩] scope _ =>
      erP N scope (.tup [i, j]) (.Tuple [.Name x1 q1, .Name x2 q2] kk tpos) && blkC N sc scope (ownOf (.tup [i, j]) (.Tuple [.Name x1 q1, .Name x2 q2] kk tpos)) && decide (i ≠ j) &&
        decide (N[v]? = some z) && visB sc z && okNm z && nm == ("items" : Str) && (p1.endLine == p2.line) && decide (N[j]? = some y1) && visB scope y1 && okNm y1 && decide (N[i]? = some y2) && visB scope y2 && okNm y2
    | _ => false)
  | .sky _ f a, sc, e => (match e with
    | .Call (.Name x _) [y] [⟨some k, .Name z _, _⟩] _ => x == ("sorted" : Str) && k == ("key" : Str) && t.bn x && gloB sc x && decide (t.fnm f = some z) && gloB sc z && okNm z && er a sc y && notStar y
    | _ => false)
  | .skl a, sc, e => (match e with
    | .Call (.Name x _) [y] [⟨some k, l, _⟩] _ => x == ("sorted" : Str) && k == ("key" : Str) && t.bn x && gloB sc x && t.lm && lamB l && er a sc y && notStar y
    | _ => false)
  | .lrg a, sc, e => (match e with
    | .Call (.Name x _) [.Call (.Name y _) [z] [] _] [] _ => x == ("list" : Str) && y == ("range" : Str) && t.bn x && gloB sc x && t.bn y && gloB sc y && er a sc z && notStar z
    | _ => false)
def ers : IEs → Scope → List Expr → Bool
  | .nil, sc, xs => (match xs with
    | [] => true
    | _ => false)
  | .cons a r, sc, xs => (match xs with
    | x :: xs => er a sc x && notStar x && ers r sc xs
    | _ => false)
def erD : IEs → Scope → List (Option Expr) → List Expr → Bool
  | .nil, sc, ks, vs => (match ks, vs with
    | [], [] => true
    | _, _ => false)
  | .cons _ .nil, _, _, _ => false
  | .cons a (.cons b r), sc, ks, vs => (match ks, vs with
    | some k :: ks, v :: vs => er a sc k && er b sc v && erD r sc ks vs
    | _, _ => false)
def erI : IEs → Ik → Scope → Expr → Bool
  | .nil, _, _, _ => false
  | .cons a r, k, sc, x => (match k, r with
    | .seq, .nil => er a sc x
    | .rng, .nil => (match x with
      | .Call (.Name y _) [x] [] _ => y == ("range" : Str) && t.bn y && gloB sc y && er a sc x && notStar x
      | _ => false)
    | .rng, .cons b .nil => (match x with
      | .Call (.Name y _) [x, z] [] _ => y == ("range" : Str) && t.bn y && gloB sc y && er a sc x && notStar x && er b sc z && notStar z
      | _ => false)
    | .rng, .cons b (.cons c .nil) => (match x with
      | .Call (.Name y _) [x, z, u] [] _ => y == ("range" : Str) && t.bn y && gloB sc y && er a sc x && notStar x && er b sc z && notStar z && er c sc u && notStar u
      | _ => false)
    | .enu, .nil => (match x with
      | .Call (.Name y _) [x] [] _ => y == ("enumerate" : Str) && t.bn y && gloB sc y && er a sc x && notStar x
      | _ => false)
    | .zip, .cons b .nil => (match x with
      | .Call (.Name y _) [x, z] [] _ => y == ("zip" : Str) && t.bn y && gloB sc y && er a sc x && notStar x && er b sc z && notStar z
      | _ => false)
    | _, _ => false)
end
end
end Wc

/-! Wc: except suites, and the defs that are called there with the exception alone. -/
namespace Wc
open PySem PySem.Spec PyProof.Rows L2
/-! ### defs called with the handled exception: the promise may speak of the object that is pinned -/
structure FnP (P : Program) (w : World) (K : PySem.W.Frag) (mg : Str → Option Value) (base : Heap) (k : Nat) (f : Addr) (fd : FuncData) (ps : List Str) (spp : Addr × Obj → Sp) : Prop where
  len : ∀ p vs H Q E, spp p vs H Q E → vs.length = ps.length
  run : ∀ (A : Around) (outer : List Env) (s : Shared) (H : Hp) (args : Args) (us : List Value) (vs : List V) (Q : VK) (E : XK) (p : Addr × Obj), L2H.RoomH k A → L2H.PinOk outer H s p → Env0 P w K mg base A outer s H → BindsTo s fd args (ps.zip us) → Vals vs us → spp p vs H Q E →
    codeAny (model P w) A (.call (.ref f) args) (CR (L2.CX P w) outer P w H s Q E) s
theorem fnP_of {P : Program} {w : World} {K : PySem.W.Frag} {mg : Str → Option Value} {base : Heap} {k : Nat} {f : Addr} {name qual : Str} {params : Arguments} {body : List Stmt} {scope : Scope} {dV kV doc pm cdv ct oc : Value} {an od : Option Addr}
    {osl : Array (Option Value)} {N ps : List Str} {spp : Addr × Obj → Sp} (lk : K.lookup f = some ⟨oc, od, .func (PySem.W.fnOf name qual params body scope dV kV doc pm an cdv ct), osl⟩) (hcd : PySem.W.codeIn K cdv qual = true) (S : FnScope N ps scope)
    (len : ∀ p vs H Q E, spp p vs H Q E → vs.length = ps.length)
    (hbody : ∀ (A : Around) (outer : List Env) (s : Shared) (H : Hp) (vs : List V) (Q : VK) (E : XK) (p : Addr × Obj), L2H.RoomH k (A.deeper (envOfC qual scope s.heap.objs.size f cdv)) → spp p vs H Q E →
      ∃ t, PSs (L2H.cxH (L2.CX P w) P w K mg base N qual scope f cdv A outer s H E p) body t ∧ t { nx := fun _ H' => Q .non H', rt := Q } (L2.start N vs) H) :
    FnP P w K mg base (k + 1) f (PySem.W.fnOf name qual params body scope dV kV doc pm an cdv ct) ps spp := by
  refine ⟨len, fun A outer s H args us vs Q E p hr hpin e0 hb r hsp => ?_⟩
  have hl := len _ _ _ _ _ hsp
  have KX : K.In s.heap := e0.mod.kin.keeps fun b o e => (e0.bs b o e).1
  have lim : s.heap.NoLimit := e0.mod.nolimit.keeps fun b o e => (e0.bs b o e).1
  have hkind : ∀ y ∈ ps.zip us, scope.names.lookup y.1 = some .local ∨ (scope.names.lookup y.1 = some .cell ∧ ((cellsFrom (s.heap.objs.size + 1) scope.names []).lookup y.1).isSome = true) := fun ⟨n, v⟩ hy => by
    rcases S.par n (List.of_mem_zip hy).1 with q | q
    · exact .inl q
    · exact .inr ⟨q, PySem.W.cellsFrom_some _ _ _ (.inl q)⟩
  refine codeAny_call_function hr.depth (KX _ _ lk) rfl S.co S.gen rfl (PySem.W.codeRec_of KX hcd) (hb _ _ _ _ ?_)
  refine wpAny_newFunctionEnv_cells S.kind hkind fun env he s1 x => ?_
  subst he
  refine ⟨lim.keeps x.toInCall.keep, codeAny_func ?_⟩
  obtain ⟨t, ht, hq⟩ := hbody A outer s H vs Q E p (hr.deeper _) hsp
  have I : Inv (L2H.cxH (L2.CX P w) P w K mg base N qual scope f cdv A outer s H E p) [] (L2.start N vs) H s1 := L2H.inv_startH S hpin e0 hl r x
  refine wpAny_mono (ht.run [] s1 (L2.start N vs) H _ I hq) (fun fl s' hs => ?_) fun e s' hs => hs
  have fin : ∀ {σ' : L2.St} {H' : Hp} {v : V} {u : Value}, Inv (L2H.cxH (L2.CX P w) P w K mg base N qual scope f cdv A outer s H E p) [] σ' H' s' → RelV v u → Q v H' → CE outer P w H s Q u s' :=
    fun {σ' H' v u} J rv q => ⟨v, H', J.os, J.bare, J.base, J.hok, rv, q⟩
  cases fl with
  | ret u =>
    obtain ⟨v, σ', H', J, rv, q⟩ := hs
    exact fin J rv q
  | next =>
    obtain ⟨σ', H', J, q⟩ := hs
    exact fin (v := V.non) (u := Value.none) J rfl q
  | brk =>
    obtain ⟨_, _, _, q⟩ := hs
    exact False.elim q
  | cont =>
    obtain ⟨_, _, _, q⟩ := hs
    exact False.elim q
section
variable {X : Cx} {k : Nat} {f : Addr} {fd : FuncData} {ps : List Str} {spp : Addr × Obj → Sp} {x : Str} {q pos : Pos} {e : Expr} {es : List Expr} {t : TA} {p : Addr × Obj}
theorem run_fnP {pins : List (Addr × Obj)} {σ : L2.St} {H : Hp} {s : Shared} {Q : VK} {us : List Value} {vs : List V} (F : FnP X.prog X.w X.K X.mg X.base k f fd ps spp) (hr : L2H.RoomH k X.A) (hp : p ∈ X.pn) (hb : Binds X.K fd ps [])
    (I : Inv X pins σ H s) (r : Vals vs us) (h : spp p vs H Q (fun _ _ _ => False)) : wpAny (model X.prog X.w) X.A (call (.ref f) us) (EP X pins σ Q) X.xe s := by
  have hx : PassesAt (L2.CX X.prog X.w) X σ (WE (fun _ _ _ _ => False) σ) := passAt takes0 σ
  have hl : us.length = ps.length := by rw [← r.length]; exact F.len _ _ _ _ _ h
  have b := hb s us I.kIn (by rw [List.append_nil]; exact hl)
  rw [List.append_nil] at b
  have P1 := I.pin p (List.mem_append_left _ hp)
  have hpin : L2H.PinOk X.stack H s p := ⟨P1.1, P1.2.1, fun hm => (List.mem_cons.mp (I.stkSub p.1 hm)).elim P1.2.2.1 P1.2.2.2.1, P1.2.2.2.2⟩
  refine wpAny_call (codeAny_mono (F.run X.A X.stack s H ⟨us, []⟩ us vs Q _ p hr hpin I.env0 b r h) fun r s' hq => ?_)
  cases r with
  | error e => exact hx pins H s e s' I hq
  | ok fl =>
    cases fl with
    | ret u => exact I.after hq
    | next => exact False.elim hq
    | brk => exact False.elim hq
    | cont => exact False.elim hq
theorem pe_callP (F : FnP X.prog X.w X.K X.mg X.base k f fd ps spp) (hr : L2H.RoomH k X.A) (hp : p ∈ X.pn) (hg : Gl X x) (hm : X.mg x = some (.ref f)) (hk : PySem.W.keepIn X.K (.ref f) = true) (hb : Binds X.K fd ps [])
    (ha : PA X (e :: es) t) (hdb : (x == ("__debug__" : Str)) = false) (he : starEach (e :: es) X.env = (false, eval e X.env) :: starEach es X.env) (hpl : (backTo pos (starEach es X.env)).any (·.1) = false) :
    PE X (.Call (.Name x q) (e :: es) [] pos) (fun σ H Q => t σ H fun vs H1 => spp p vs H1 Q (fun _ _ _ => False)) := by
  refine ⟨fun pins s σ H Q I h => ?_⟩
  refine wpAny_Call_Name_kw (ld_glob I hg hm ?_ hdb)
  refine PySem.W.callWith_K (h₀ := X.base) I.ok.mod.kin hk (thn (ha.run pos pins s σ H _ I h) fun us s1 ⟨vs, H1, I1, r, q⟩ => ⟨I1.kIn, ?_⟩) he hpl
  exact run_fnP F hr hp hb I1 r q
end
/-! ### isinstance of the handled exception -/
def xcV (G : Gd) : XC → Value
  | .own c => .ref (G.ca c)
  | .ve => .type "ValueError"
def rIsX (K : PySem.W.Frag) (cls : Value) (a : Addr) : List V → Hp → VK → Prop := fun xs H Q => ∃ (c : V) (cv : Value) (b : Bool), xs = [.ref a, c] ∧ (∀ u, RelV c u → u = cv) ∧ PySem.W.kitOne K cls cv = some b ∧ Q (.bl b) H
theorem cr_isX {X : Cx} {D : Addr} {p : Addr × Obj} (C : ExcC X.K D) (hp : p ∈ X.pn) (hz : Zc (.ref D) none p.2) (hf : ∃ vs, p.2.data = .fields vs) : CallR X (.builtin "isinstance") (rIsX X.K (.ref D) p.1) := by
  intro pins s σ H xs us Q I r h
  obtain ⟨c, cv, b, rfl, hcv, e, q⟩ := h
  cases r with
  | cons rx rr =>
    cases rr with
    | cons rt rr =>
      cases rr
      cases rx
      have ec := hcv _ rt
      subst ec
      obtain ⟨hget, _⟩ := I.pin p (List.mem_append_left _ hp)
      obtain ⟨vs, hv⟩ := hf
      have J : PySem.W.InstAt s.heap p.1 p.2 D none := by
        obtain ⟨a, oc, od, oda, osl⟩ := p
        obtain ⟨h1, h2⟩ := hz
        dsimp only at h1 h2 hv
        subst h1 h2 hv
        exact ⟨hget, rfl, rfl, trivial⟩
      exact PySem.W.kia_one (PySem.W.handS_kitx_exc C.hg C.hk C.hs C.hd C.ha C.hn C.ht C.hm) I.kIn J e (fun z => nomatch z) fun tk => ⟨.bl b, H, I.kept (t' := tk) fun _ _ z => z, rfl, q⟩
def rIsXT (K : PySem.W.Frag) (cls : Value) (a : Addr) : List V → Hp → VK → Prop := fun xs H Q => ∃ (tp : Addr) (cs : List V) (ws : List Value) (b : Bool), xs = [.ref a, .ref tp] ∧ H tp = some (.tup cs) ∧ Paired ClsV cs ws ∧ PySem.W.kitAny K cls ws = some b ∧ Q (.bl b) H
theorem cr_isXT {X : Cx} {D : Addr} {p : Addr × Obj} (C : ExcC X.K D) (hp : p ∈ X.pn) (hz : Zc (.ref D) none p.2) (hf : ∃ vs, p.2.data = .fields vs) : CallR X (.builtin "isinstance") (rIsXT X.K (.ref D) p.1) := by
  intro pins s σ H xs us Q I r h
  obtain ⟨tp, cs, ws, b, rfl, hT, hcs, e, q⟩ := h
  cases r with
  | cons rx rr =>
    cases rr with
    | cons rt rr =>
      cases rr
      cases rx
      cases rt
      obtain ⟨hget, _⟩ := I.pin p (List.mem_append_left _ hp)
      obtain ⟨vs, hv⟩ := hf
      have J : PySem.W.InstAt s.heap p.1 p.2 D none := by
        obtain ⟨a, oc, od, oda, osl⟩ := p
        obtain ⟨h1, h2⟩ := hz
        dsimp only at h1 h2 hv
        subst h1 h2 hv
        exact ⟨hget, rfl, rfl, trivial⟩
      obtain ⟨_, its, rv, o, g1, g2, n, g3⟩ := (show ObjOk X.prog X.w H s.heap tp (.tup cs) from I.hok tp _ hT)
      cases ClsV.all hcs rv
      obtain ⟨oc, od, dt, sl⟩ := o
      simp only at g2 g3
      subst g2 g3
      exact PySem.W.kia_tup (PySem.W.handS_kitx_exc C.hg C.hk C.hs C.hd C.ha C.hn C.ht C.hm) I.kIn J g1 e (fun z => nomatch z) fun tk => ⟨.bl b, H, I.kept (t' := tk) fun _ _ z => z, rfl, q⟩
/-! ### what is asked of the text -/
section
variable (t : Tx) (N : List Str) (v : Option Nat)
def slotB (y : Str) : Bool := match v with
  | some i => decide (N[i]? = some y)
  | none => false
def xcB (sc : Scope) (z : Str) : XC → Bool
  | .own k => decide (t.xnm k = some z) && gloB sc z && okNm z
  | .ve => z == ("ValueError" : Str) && t.bn z && gloB sc z && okNm z
def xcsB (sc : Scope) : List XC → List Expr → Bool
  | [], [] => true
  | c :: cs, .Name z _ :: zs => xcB t sc z c && xcsB sc cs zs
  | _, _ => false
mutual
def erHE : HE → Scope → Expr → Bool
  | .v i, sc, e => (match e with
    | .Name x _ => decide (N[i]? = some x) && visB sc x && okNm x
    | _ => false)
  | .c d, sc, e => er t N (.c d) sc e
  | .tup es, sc, e => (match e with
    | .Tuple xs _ _ => erHEs es sc xs && decide (xs.length ≤ 1000)
    | _ => false)
  | .lst _ es, sc, e => (match e with
    | .List xs _ => erHEs es sc xs && decide (xs.length ≤ 1000)
    | _ => false)
  | .add a b, sc, e => (match e with
    | .BinOp x .Add y _ => erHE a sc x && erHE b sc y
    | _ => false)
  | .idx a b, sc, e => (match e with
    | .Subscript x y _ => erHE a sc x && erHE b sc y && notSl y
    | _ => false)
  | .isx c, sc, e => (match e with
    | .Call (.Name x _) [.Name y _, .Name z _] [] _ => x == ("isinstance" : Str) && t.bn x && gloB sc x && slotB N v y && visB sc y && okNm y && xcB t sc z c
    | _ => false)
  | .ist cs, sc, e => (match e with
    | .Call (.Name x _) [.Name y _, .Tuple zs _ _] [] _ => x == ("isinstance" : Str) && t.bn x && gloB sc x && slotB N v y && visB sc y && okNm y && xcsB t sc cs zs && decide (zs.length ≤ 1000) && !cs.isEmpty
    | _ => false)
  | .hcl f, sc, e => (match e with
    | .Call (.Name x _) [.Name y _] [] _ => decide (t.hfn f = some x) && gloB sc x && okNm x && slotB N v y && visB sc y && okNm y
    | _ => false)
def erHEs : HEs → Scope → List Expr → Bool
  | .nil, _, es => (match es with
    | [] => true
    | _ => false)
  | .cons a r, sc, es => (match es with
    | e :: es => erHE a sc e && notStar e && erHEs r sc es
    | _ => false)
end
def notSlot (i : Nat) : Bool := match v with
  | some j => !(i == j)
  | none => true
mutual
def erHS : HS → Scope → Stmt → Bool
  | .asg i e, sc, st => (match st with
    | .Assign [.Name x _] ex _ => decide (N[i]? = some x) && stoB sc x && erHE t N v e sc ex && notLc ex && notSlot v i
    | _ => false)
  | .app i e, sc, st => (match st with
    | .Expr (.Call (.Attribute (.Name x _) nm p1) [ex] [] p2) _ => nm == ("append" : Str) && decide (N[i]? = some x) && visB sc x && okNm x && (p1.endLine == p2.line) && erHE t N v e sc ex && notStar ex
    | _ => false)
  | .ret e, sc, st => (match st with
    | .Return (some ex) _ => erHE t N v e sc ex
    | _ => false)
  | .retN, _, st => (match st with
    | .Return none _ => true
    | _ => false)
  | .ifx c a, sc, st => (match st with
    | .If x y [] _ => erHE t N v (.isx c) sc x && erHSs a sc y
    | _ => false)
def erHSs : HSs → Scope → List Stmt → Bool
  | .nil, _, ss => (match ss with
    | [] => true
    | _ => false)
  | .cons i r, sc, ss => (match ss with
    | s :: rest => erHS i sc s && erHSs r sc rest
    | _ => false)
end
end
theorem okNm_of {x : Str} (h : okNm x = true) : (x == ("__debug__" : Str)) = false ∧ (x == ("__classdict__" : Str)) = false ∧ x ≠ ("__name__" : Str) := by
  unfold okNm at h
  simp only [Bool.and_eq_true, beq_iff_eq] at h
  exact ⟨h.1.1, h.1.2, fun e => by rw [e] at h; simp at h⟩
/-! ### what holds there -/
/-- a def called with the exception alone, of class k: it answers by the table -/
def spH (G : Gd) (B : Tb) (f : Nat) (p : Addr × Obj) : Sp := fun vs H Q _ => vs = [.ref p.1] ∧ ∃ k r W S, Zc (.ref (G.ca k)) none p.2 ∧ (∃ us, p.2.data = .fields us) ∧ B.hcf f k = some r ∧ Rel G H W S ∧ ∀ v H' W', Rel G H' W' S → Ext H W H' W' → RT G W'.Hf v r → Q v H'
def HclOk (X : Cx) (G : Gd) (B : Tb) : Prop := ∀ f k r, B.hcf f k = some r → ∃ n fd ps, FnP X.prog X.w X.K X.mg X.base n (G.fa f) fd ps (spH G B f) ∧ L2H.RoomH n X.A ∧ Binds X.K fd ps [] ∧ PySem.W.keepIn X.K (.ref (G.fa f)) = true
structure HOk (t : Tx) (G : Gd) (B : Tb) (N : List Str) (sc : Scope) (X : Cx) (v : Option Nat) (p : Addr × Obj) (cls : Value) : Prop where
  hK : X.K = G.K
  hN : X.N = N
  nd : N.Nodup
  vis : ∀ x, visB sc x = true → Vis X.env.scope x
  glo : ∀ x, gloB sc x = true → Gl X x
  sto : ∀ x, stoB sc x = true → Loc X.env.scope x ∧ (X.fn x = true ∨ X.env.scope.names.lookup x = some .local)
  bn : ∀ x, t.bn x = true → X.mg x = none
  units : X.A.units + 65 < cLine
  hfn : ∀ f x, t.hfn f = some x → X.mg x = some (.ref (G.fa f))
  xnm : ∀ c x, t.xnm c = some x → X.mg x = some (.ref (G.ca c))
  xsb : ∀ k c b, B.xsub k c = some b → PySem.W.kitOne X.K (.ref (G.ca k)) (xcV G c) = some b ∧ ExcC X.K (G.ca k)
  hcl : HclOk X G B
  pin : p ∈ X.pn
  zc : Zc cls none p.2
  fl : ∃ us, p.2.data = .fields us
def SlotIs (v : Option Nat) (a : Addr) (σ : L2.St) : Prop := ∀ i, v = some i → σ[i]? = some (some (.ref a))
def tHE (G : Gd) (v : Option Nat) (a : Addr) (cls : Value) (ev : Nat → Ev → Sto → R D) : TE := fun σ H Q => ∃ k, cls = .ref (G.ca k) ∧ SlotIs v a σ ∧ tE G (ev k) (fun _ _ _ _ => False) σ H Q
def tHA (G : Gd) (v : Option Nat) (a : Addr) (cls : Value) (ev : Nat → Ev → Sto → R (List D)) : TA := fun σ H Q => ∃ k, cls = .ref (G.ca k) ∧ SlotIs v a σ ∧ tA G (ev k) (fun _ _ _ _ => False) σ H Q
def AftH (G : Gd) (v : Option Nat) (a : Addr) (D : Ends) (H : Hp) (W : Wd) : RS → Prop
  | .nx ρ S => ∀ σ H' W', Rel G H' W' S → Ext H W H' W' → REn G W' σ ρ → SlotIs v a σ → D.nx σ H'
  | .rt d S => ∀ v H' W', Rel G H' W' S → Ext H W H' W' → RD G W' v d → D.rt v H'
  | _ => False
def tHS (G : Gd) (v : Option Nat) (a : Addr) (cls : Value) (ev : Nat → Ev → Sto → RS) : TS := fun D σ H => ∃ k W ρ S, cls = .ref (G.ca k) ∧ SlotIs v a σ ∧ Rel G H W S ∧ REn G W σ ρ ∧ AftH G v a D H W (ev k ρ S)
theorem AftH.move {G : Gd} {v : Option Nat} {a : Addr} {D : Ends} {H H1 : Hp} {W W1 : Wd} {r : RS} (h : AftH G v a D H W r) (x : Ext H W H1 W1) : AftH G v a D H1 W1 r := by
  cases r with
  | nx ρ S => exact fun σ H2 W2 r2 x2 e2 s2 => h σ H2 W2 r2 (x.trans x2) e2 s2
  | rt d S => exact fun v H2 W2 r2 x2 k2 => h v H2 W2 r2 (x.trans x2) k2
  | bk ρ S => exact h
  | ct ρ S => exact h
  | ex c fs ρ S => exact h
  | no => exact h
theorem con_ok {t : Tx} {N : List Str} {d : T} {sc : Scope} {e : Expr} {X : Cx} (h : er t N (.c d) sc e = true) : ∃ v, (∀ G H, RT G H v d) ∧ PE X e (tC v) := by
  unfold er at h
  split at h
  · cases sameT_eq h; exact ⟨_, fun _ _ => .int _, pe_int⟩
  · cases sameT_eq h; exact ⟨_, fun _ _ => .bl _, pe_bl⟩
  · cases sameT_eq h; exact ⟨_, fun _ _ => .str _, pe_str⟩
  · cases sameT_eq h; exact ⟨_, fun _ _ => .non, pe_non⟩
  · cases h
section
variable {t : Tx} {G : Gd} {B : Tb} {N : List Str} {sc : Scope} {X : Cx} {v : Option Nat} {p : Addr × Obj} {cls : Value}
theorem HOk.at_ (x : HOk t G B N sc X v p cls) {i : Nat} {y : Str} (h : N[i]? = some y) : X.N[i]? = some y := by rw [x.hN]; exact h
theorem xc_pe (x : HOk t G B N sc X v p cls) {c : XC} {z : Str} {zp : Pos} (h : xcB t sc z c = true) : ∃ cv, PE X (.Name z zp) (tC cv) ∧ ∀ u, RelV cv u → u = xcV G c := by
  cases c with
  | own k =>
    simp only [xcB, Bool.and_eq_true, decide_eq_true_eq] at h
    obtain ⟨n1, n2, n3⟩ := okNm_of h.2
    exact ⟨.ref (G.ca k), pe_glob (x.glo _ h.1.2) (x.xnm _ _ h.1.1) rfl n1, fun u r => r⟩
  | ve =>
    simp only [xcB, Bool.and_eq_true, beq_iff_eq] at h
    obtain ⟨⟨⟨h1, h2⟩, h3⟩, h4⟩ := h
    obtain ⟨n1, n2, n3⟩ := okNm_of h4
    subst h1
    exact ⟨.ty "ValueError", pe_bltn (x.glo _ h3) (x.bn _ h2) (by decide +kernel : bootBuiltins "ValueError" = some (.type "ValueError")) rfl n3 n1, fun u r => r⟩
theorem xc_cls (x : HOk t G B N sc X v p cls) {c : XC} {z : Str} {zp : Pos} (h : xcB t sc z c = true) : ∃ cv, PE X (.Name z zp) (tC cv) ∧ ClsV cv (xcV G c) := by
  cases c with
  | own k =>
    simp only [xcB, Bool.and_eq_true, decide_eq_true_eq] at h
    obtain ⟨n1, n2, n3⟩ := okNm_of h.2
    exact ⟨.ref (G.ca k), pe_glob (x.glo _ h.1.2) (x.xnm _ _ h.1.1) rfl n1, .own _⟩
  | ve =>
    simp only [xcB, Bool.and_eq_true, beq_iff_eq] at h
    obtain ⟨⟨⟨h1, h2⟩, h3⟩, h4⟩ := h
    obtain ⟨n1, n2, n3⟩ := okNm_of h4
    subst h1
    exact ⟨.ty "ValueError", pe_bltn (x.glo _ h3) (x.bn _ h2) (by decide +kernel : bootBuiltins "ValueError" = some (.type "ValueError")) rfl n3 n1, .ty _⟩
theorem xcs_pa (x : HOk t G B N sc X v p cls) : ∀ {cs : List XC} {zs : List Expr}, xcsB t sc cs zs = true → ∃ cvs, PA X zs (fun _ H Q => Q cvs H) ∧ Paired ClsV cvs (cs.map (xcV G)) ∧ cvs.length = zs.length
  | [], [], _ => ⟨[], pa_imp pa_nil fun _ _ _ q => q, .nil, rfl⟩
  | c :: cs, .Name z zp :: zs, h => by
    have h : (xcB t sc z c && xcsB t sc cs zs) = true := h
    rw [Bool.and_eq_true] at h
    obtain ⟨cv, p1, k1⟩ := xc_cls x (zp := zp) h.1
    obtain ⟨cvs, p2, k2, k3⟩ := xcs_pa x h.2
    exact ⟨cv :: cvs, pa_imp (pa_cons p1 p2 rfl) fun _ _ _ q => q, .cons k1 k2, by rw [List.length_cons, List.length_cons, k3]⟩
theorem ist_any {K : PySem.W.Frag} {cls : Value} {f : XC → Option Bool} {g : XC → Value} (hf : ∀ c b, f c = some b → PySem.W.kitOne K cls (g c) = some b) : ∀ {cs : List XC} {b : Bool}, istB f cs = some b → PySem.W.kitAny K cls (cs.map g) = some b
  | [], b, h => h
  | c :: cs, b, h => by
    unfold istB at h
    rw [List.map_cons]
    unfold PySem.W.kitAny
    cases e : f c with
    | none => rw [e] at h; cases h
    | some k =>
      rw [e] at h
      rw [hf c k e]
      cases k with
      | true => exact h
      | false => exact ist_any hf h
theorem slot_pe (x : HOk t G B N sc X v p cls) {y : Str} {yp : Pos} (h1 : slotB N v y = true) (h2 : visB sc y = true) (h3 : okNm y = true) : ∃ i, v = some i ∧ PE X (.Name y yp) (tVar i) := by
  obtain ⟨n1, n2, n3⟩ := okNm_of h3
  cases v with
  | none => cases h1
  | some i => exact ⟨i, rfl, pe_var (x.at_ (of_decide_eq_true h1)) (x.vis _ h2) n1 n2⟩
theorem evHEs_len {k : Nat} : ∀ {es : HEs} {sc : Scope} {xs : List Expr} {ρ : Ev} {S S' : Sto} {ds : List D}, erHEs t N v es sc xs = true → evHEs B k es ρ S = .ok ds S' → ds.length = xs.length
  | .nil, sc, xs, ρ, S, S', ds, h, e => by
    unfold erHEs at h
    split at h
    · cases e; rfl
    · cases h
  | .cons a r, sc, xs, ρ, S, S', ds, h, e => by
    unfold erHEs at h
    split at h
    · simp only [Bool.and_eq_true] at h
      unfold evHEs at e
      cases e1 : evHE B k a ρ S with
      | ok d S1 =>
        rw [e1] at e
        have e : ((evHEs B k r ρ S1).bind fun xs S2 => R.ok (d :: xs) S2) = .ok ds S' := e
        cases e2 : evHEs B k r ρ S1 with
        | ok ds2 S2 =>
          rw [e2] at e
          cases e
          rw [List.length_cons, List.length_cons, evHEs_len h.2 e2]
        | ex c fs S2 => rw [e2] at e; cases e
        | no => rw [e2] at e; cases e
      | ex c fs S1 => rw [e1] at e; cases e
      | no => rw [e1] at e; cases e
    · cases h
theorem tA_mk {eva : Ev → Sto → R (List D)} {f : List D → Sto → R D} {σ : L2.St} {H : Hp} {Q : VK} {n : Nat} (hn : ∀ {ρ : Ev} {S S' : Sto} {ds : List D}, eva ρ S = .ok ds S' → ds.length = n) (h : tE G (fun ρ S => (eva ρ S).bind f) (fun _ _ _ _ => False) σ H Q) :
    tA G eva (fun _ _ _ _ => False) σ H fun vs H1 => vs.length = n ∧ ∃ ds S1 W1, Rel G H1 W1 S1 ∧ RDs G W1 vs ds ∧ Aft G (fun W' v d => RD G W' v d) (fun _ _ _ => False) H1 W1 Q (f ds S1) := by
  obtain ⟨W, ρ, S, rl, en, q⟩ := h
  refine ⟨W, ρ, S, rl, en, ?_⟩
  cases e : eva ρ S with
  | ok ds S1 =>
    have q : Aft G (fun W' v d => RD G W' v d) (fun cls dx H' => False) H W Q ((eva ρ S).bind f) := q
    rw [e] at q
    exact fun vs H1 W1 r1 x1 k1 => ⟨by rw [k1.length]; exact hn e, ds, S1, W1, r1, k1, Aft.move q x1⟩
  | ex c fs S1 =>
    have q : Aft G (fun W' v d => RD G W' v d) (fun cls dx H' => False) H W Q ((eva ρ S).bind f) := q
    rw [e] at q
    exact q
  | no =>
    have q : Aft G (fun W' v d => RD G W' v d) (fun cls dx H' => False) H W Q ((eva ρ S).bind f) := q
    rw [e] at q
    exact q
theorem tA_imp {ev : Ev → Sto → R (List D)} {Wx : WX} {σ : L2.St} {H : Hp} {Q Q' : List V → Hp → Prop} (h : tA G ev Wx σ H Q) (k : ∀ v H', Q v H' → Q' v H') : tA G ev Wx σ H Q' := by
  obtain ⟨W, ρ, S, rl, en, q⟩ := h
  exact ⟨W, ρ, S, rl, en, q.imp k fun _ _ _ z => z⟩
mutual
theorem sndHE (x : HOk t G B N sc X v p cls) : ∀ (e : HE) {ex : Expr}, erHE t N v e sc ex = true → PE X ex (tHE G v p.1 cls fun k => evHE B k e)
  | .v i, ex, h => by
    unfold erHE at h
    split at h
    · simp only [Bool.and_eq_true, decide_eq_true_eq] at h
      obtain ⟨n1, n2, n3⟩ := okNm_of h.2
      refine pe_imp (pe_var (x.at_ h.1.1) (x.vis _ h.1.2) n1 n2) fun σ H Q ⟨k, hc, hs, W, ρ, S, rl, en, q⟩ => ?_
      dsimp only at q
      unfold evHE at q
      cases e : ρ[i]? with
      | none => rw [e] at q; exact q.elim
      | some o =>
        cases o with
        | none => rw [e] at q; exact q.elim
        | some d =>
          rw [e] at q
          obtain ⟨w, a, b⟩ := en.at_ i d e
          exact ⟨w, a, q w H W rl Ext.refl b⟩
    · cases h
  | .c d, ex, h => by
    unfold erHE at h
    obtain ⟨w, hw, pe⟩ := con_ok (X := X) h
    refine pe_imp pe fun σ H Q ⟨k, hc, hs, W, ρ, S, rl, en, q⟩ => ?_
    dsimp only at q
    unfold evHE at q
    exact q w H W rl Ext.refl (.t (hw _ _))
  | .tup es, ex, h => by
    unfold erHE at h
    split at h
    · rename_i xs _ _
      simp only [Bool.and_eq_true, decide_eq_true_eq] at h
      refine pe_imp (pe_tup (sndHEs x es h.1)) fun σ H Q ⟨k, hc, hs, q⟩ => ?_
      have q : tE G (fun ρ S => (evHEs B k es ρ S).bind fun ds S1 => mkT ds S1) (fun _ _ _ _ => False) σ H Q := q
      refine ⟨k, hc, hs, tA_imp (tA_mk (fun e => evHEs_len h.1 e) q) fun vs H1 ⟨hl, ds, S1, W1, r1, k1, a1⟩ => ⟨?_, mkT_ok r1 k1 a1⟩⟩
      rw [hl, sizeLine_eq]; omega
    · cases h
  | .lst m es, ex, h => by
    unfold erHE at h
    split at h
    · rename_i xs _
      simp only [Bool.and_eq_true, decide_eq_true_eq] at h
      refine pe_imp (pe_lst (sndHEs x es h.1)) fun σ H Q ⟨k, hc, hs, q⟩ => ?_
      have q : tE G (fun ρ S => (evHEs B k es ρ S).bind fun ds S1 => mkL m ds S1) (fun _ _ _ _ => False) σ H Q := q
      refine ⟨k, hc, hs, tA_imp (tA_mk (fun e => evHEs_len h.1 e) q) fun vs H1 ⟨hl, ds, S1, W1, r1, k1, a1⟩ => ⟨?_, mkL_ok r1 k1 a1⟩⟩
      rw [hl, sizeLine_eq]; omega
    · cases h
  | .add a b, ex, h => by
    unfold erHE at h
    split at h
    · simp only [Bool.and_eq_true] at h
      refine pe_imp (pe_op (opr_bin (G := G) (m := false) .Add) (sndHE x a h.1) (sndHE x b h.2)) fun σ H Q ⟨k, hc, hs, q⟩ => ?_
      have q : tE G (fun ρ S => (evHE B k a ρ S).bind fun x S1 => (evHE B k b ρ S1).bind fun y S2 => pBin false .Add x y S2) (fun _ _ _ _ => False) σ H Q := q
      have q2 : tOp (rP2 G (pBin false .Add)) (tE G (evHE B k a) (fun _ _ _ _ => False)) (tE G (evHE B k b) (fun _ _ _ _ => False)) σ H Q := tE_op (fun _ _ _ => pBin_noEx _ _ _ _ _) (fun _ _ _ _ z => z) q
      exact ⟨k, hc, hs, tE_imp q2 fun w H1 q3 => ⟨k, hc, hs, q3⟩⟩
    · cases h
  | .idx a b, ex, h => by
    unfold erHE at h
    split at h
    · simp only [Bool.and_eq_true] at h
      refine pe_imp (pe_ix (opr_ix (G := G) x.hK x.units) (sndHE x a h.1.1) (sndHE x b h.1.2) (plainIx_of h.2)) fun σ H Q ⟨k, hc, hs, q⟩ => ?_
      have q : tE G (fun ρ S => (evHE B k a ρ S).bind fun x S1 => (evHE B k b ρ S1).bind fun y S2 => pIdx x y S2) (fun _ _ _ _ => False) σ H Q := q
      have q2 : tOp (rP2 G pIdx) (tE G (evHE B k a) (fun _ _ _ _ => False)) (tE G (evHE B k b) (fun _ _ _ _ => False)) σ H Q := tE_op (fun _ _ _ => pIdx_noEx _ _ _) (fun _ _ _ _ z => z) q
      exact ⟨k, hc, hs, tE_imp q2 fun w H1 q3 => ⟨k, hc, hs, q3⟩⟩
    · cases h
  | .isx c, ex, h => by
    unfold erHE at h
    split at h
    · simp only [Bool.and_eq_true, beq_iff_eq] at h
      obtain ⟨⟨⟨⟨⟨⟨h1, h2⟩, h3⟩, h4⟩, h5⟩, h6⟩, h7⟩ := h
      subst h1
      obtain ⟨i, hv, pv⟩ := slot_pe x h4 h5 h6
      obtain ⟨cv, pc, hcv⟩ := xc_pe x h7
      by_cases hk : ∃ k b, cls = .ref (G.ca k) ∧ B.xsub k c = some b
      case neg =>
        refine ⟨fun pins s σ H Q I ⟨k, hc, hs, W, ρ, S, rl, en, q⟩ => ?_⟩
        dsimp only at q
        unfold evHE at q
        cases e : B.xsub k c with
        | none => rw [e] at q; exact q.elim
        | some b => exact absurd ⟨k, b, hc, e⟩ hk
      obtain ⟨k0, b0, hc0, e0⟩ := hk
      have hz := x.zc
      rw [hc0] at hz
      refine pe_imp (pe_callB (cr_isX (x.xsb _ _ _ e0).2 x.pin hz x.fl) (x.glo _ h3) (x.bn _ h2) boot_isinstance (pa_cons pv (pa_cons pc pa_nil rfl) rfl) (by decide) (by decide) rfl rfl) fun σ H Q ⟨k, hc, hs, W, ρ, S, rl, en, q⟩ => ?_
      dsimp only at q
      unfold evHE at q
      cases e : B.xsub k c with
      | none => rw [e] at q; exact q.elim
      | some b =>
        rw [e] at q
        refine ⟨.ref p.1, hs i hv, cv, xcV G c, b, rfl, hcv, ?_, q (.bl b) H W rl Ext.refl (.t (.bl b))⟩
        rw [← hc0, hc]
        exact (x.xsb _ _ _ e).1
    · cases h
  | .ist cs, ex, h => by
    unfold erHE at h
    split at h
    · rename_i zs _ _ _
      simp only [Bool.and_eq_true, beq_iff_eq, decide_eq_true_eq] at h
      obtain ⟨⟨⟨⟨⟨⟨⟨⟨h1, h2⟩, h3⟩, h4⟩, h5⟩, h6⟩, h7⟩, h8⟩, h9⟩ := h
      subst h1
      obtain ⟨i, hv, pv⟩ := slot_pe x h4 h5 h6
      obtain ⟨cvs, pz, hcv, hcl⟩ := xcs_pa x h7
      by_cases hk : ∃ k b c, cls = .ref (G.ca k) ∧ B.xsub k c = some b
      case neg =>
        refine ⟨fun pins s σ H Q I ⟨k, hc, hs, W, ρ, S, rl, en, q⟩ => ?_⟩
        dsimp only at q
        unfold evHE at q
        cases cs with
        | nil => cases h9
        | cons c cs =>
          unfold istB at q
          cases e : B.xsub k c with
          | none => rw [e] at q; exact q.elim
          | some b => exact absurd ⟨k, b, c, hc, e⟩ hk
      obtain ⟨k0, b0, c0, hc0, e0⟩ := hk
      have hz := x.zc
      rw [hc0] at hz
      refine pe_imp (pe_callB (cr_isXT (x.xsb _ _ _ e0).2 x.pin hz x.fl) (x.glo _ h3) (x.bn _ h2) boot_isinstance (pa_cons pv (pa_cons (pe_tup pz) pa_nil rfl) rfl) (by decide) (by decide) rfl rfl) fun σ H Q ⟨k, hc, hs, W, ρ, S, rl, en, q⟩ => ?_
      dsimp only at q
      unfold evHE at q
      cases e : istB (B.xsub k) cs with
      | none => rw [e] at q; exact q.elim
      | some b =>
        rw [e] at q
        refine ⟨.ref p.1, hs i hv, ⟨by rw [hcl, sizeLine_eq]; omega, fun tp hp => ?_⟩⟩
        obtain ⟨r2, x2⟩ := rl.new (o := .tup cvs) hp
        refine ⟨tp, cvs, _, b, rfl, upd_same, hcv, ?_, q (.bl b) _ _ r2 x2 (.t (.bl b))⟩
        rw [← hc0, hc]
        exact ist_any (fun c b e => (x.xsb _ _ _ e).1) e
    · cases h
  | .hcl f, ex, h => by
    unfold erHE at h
    split at h
    · simp only [Bool.and_eq_true, decide_eq_true_eq] at h
      obtain ⟨⟨⟨⟨⟨h1, h2⟩, h3⟩, h4⟩, h5⟩, h6⟩ := h
      obtain ⟨n1, n2, n3⟩ := okNm_of h3
      obtain ⟨i, hv, pv⟩ := slot_pe x h4 h5 h6
      by_cases hk : ∃ k r, B.hcf f k = some r
      case neg =>
        refine ⟨fun pins s σ H Q I ⟨k, hc, hs, W, ρ, S, rl, en, q⟩ => ?_⟩
        dsimp only at q
        unfold evHE at q
        cases e : B.hcf f k with
        | none => rw [e] at q; exact q.elim
        | some r => exact absurd ⟨k, r, e⟩ hk
      obtain ⟨k0, r0, e0⟩ := hk
      obtain ⟨n, fd, ps, F, hr, hb, kp⟩ := x.hcl _ _ _ e0
      refine pe_imp (pe_callP F hr x.pin (x.glo _ h2) (x.hfn _ _ h1) kp hb (pa_cons pv pa_nil rfl) n1 rfl rfl) fun σ H Q ⟨k, hc, hs, W, ρ, S, rl, en, q⟩ => ?_
      dsimp only at q
      unfold evHE at q
      cases e : B.hcf f k with
      | none => rw [e] at q; exact q.elim
      | some r =>
        rw [e] at q
        have hz := x.zc
        rw [hc] at hz
        exact ⟨.ref p.1, hs i hv, rfl, k, r, W, S, hz, x.fl, e, rl, fun w H' W' r' x' k' => q w H' W' r' x' (.t k')⟩
    · cases h
theorem sndHEs (x : HOk t G B N sc X v p cls) : ∀ (es : HEs) {xs : List Expr}, erHEs t N v es sc xs = true → PA X xs (tHA G v p.1 cls fun k => evHEs B k es)
  | .nil, xs, h => by
    unfold erHEs at h
    split at h
    · exact pa_imp pa_nil fun σ H Q ⟨k, hc, hs, W, ρ, S, rl, en, q⟩ => q [] H W rl Ext.refl .nil
    · cases h
  | .cons a r, xs, h => by
    unfold erHEs at h
    split at h
    · simp only [Bool.and_eq_true] at h
      refine pa_imp (pa_cons (sndHE x a h.1.1) (sndHEs x r h.2) (star_of h.1.2 _ _)) fun σ H Q ⟨k, hc, hs, W, ρ, S, rl, en, q⟩ => ?_
      have q : Aft G (fun W' v d => RDs G W' v d) (fun cls dx H' => False) H W Q ((evHE B k a ρ S).bind fun x S1 => (evHEs B k r ρ S1).bind fun xs S2 => .ok (x :: xs) S2) := q
      refine ⟨k, hc, hs, W, ρ, S, rl, en, (Aft.bind (rel := fun W' v d => RD G W' v d) q).imp (fun w H1 ⟨d, S1, W1, r1, x1, k1, a1⟩ => ?_) fun _ _ _ z => z⟩
      refine ⟨k, hc, hs, W1, ρ, S1, r1, en.mono x1, (Aft.bind (rel := fun W' v d => RDs G W' v d) a1).imp (fun ws H2 ⟨ds, S2, W2, r2, x2, k2, a2⟩ => ?_) fun _ _ _ z => z⟩
      exact a2 _ H2 W2 r2 Ext.refl (.cons (k1.mono x2) k2)
    · cases h
end
theorem slot_set {i : Nat} {σ : L2.St} {w : V} {a : Addr} (h : notSlot v i = true) (hs : SlotIs v a σ) : SlotIs v a (σ.set i (some w)) := fun j hj => by
  subst hj
  have h : (!(i == j)) = true := h
  have hij : i ≠ j := fun e => by subst e; simp at h
  rw [List.getElem?_set_ne hij]
  exact hs j rfl
mutual
theorem sndHS (x : HOk t G B N sc X v p cls) : ∀ (s : HS) {st : Stmt}, erHS t N v s sc st = true → PS X st (tHS G v p.1 cls fun k => evHS B k s)
  | .asg i e, st, h => by
    unfold erHS at h
    split at h
    · simp only [Bool.and_eq_true, decide_eq_true_eq] at h
      obtain ⟨⟨⟨⟨h1, h2⟩, h3⟩, h4⟩, h5⟩ := h
      obtain ⟨a, b⟩ := x.sto _ h2
      refine ps_imp (ps_set (by rw [x.hN]; exact x.nd) (x.at_ h1) a (sndHE x e h3) (swF_of h4 _ _ _) b) fun D σ H ⟨k, W, ρ, S, hc, hs, rl, en, q⟩ => ?_
      dsimp only at q
      unfold evHS at q
      refine ⟨k, hc, hs, W, ρ, S, rl, en, ?_⟩
      show Aft G _ _ H W _ (evHE B k e ρ S)
      cases e1 : evHE B k e ρ S with
      | ok d S1 =>
        rw [e1] at q
        exact fun w H1 W1 r1 x1 k1 => q _ H1 W1 r1 x1 ((en.mono x1).set k1 i) (slot_set h5 hs)
      | ex c fs S1 => rw [e1] at q; exact q.elim
      | no => rw [e1] at q; exact q.elim
    · cases h
  | .app i e, st, h => by
    unfold erHS at h
    split at h
    · simp only [Bool.and_eq_true, decide_eq_true_eq, beq_iff_eq] at h
      obtain ⟨⟨⟨⟨⟨⟨h1, h2⟩, h3⟩, h4⟩, h5⟩, h6⟩, h7⟩ := h
      subst h1
      obtain ⟨n1, n2, n3⟩ := okNm_of h4
      refine ps_imp (ps_expr (pe_bm PySem.F.plainAttrs_list PySem.F.slot_list_append PySem.F.type_list_append (mt_all (G := G) (m := false) x.hK x.units .append rfl) (pe_var (x.at_ h2) (x.vis _ h3) n1 n2) (pa_cons (sndHE x e h6) pa_nil (star_of h7 _ _)) rfl
        (few_of (by simp [stars, h7]) (by simp) _ _) (by simpa using h5) (star_of h7 _ _) rfl) (by rfl)) fun D σ H ⟨k, W, ρ, S, hc, hs, rl, en, q⟩ => ?_
      dsimp only at q
      unfold evHS at q
      cases e0 : ρ[i]? with
      | none => rw [e0] at q; exact q.elim
      | some o =>
        cases o with
        | none => rw [e0] at q; exact q.elim
        | some d0 =>
          rw [e0] at q
          simp only at q
          obtain ⟨w0, a0, b0⟩ := en.at_ i d0 e0
          by_cases hk : kindD S d0 = bmT .append
          case neg => rw [if_neg hk] at q; exact q.elim
          rw [if_pos hk] at q
          refine ⟨w0, a0, kindD_ok x.hK rl b0 hk (by decide), k, hc, hs, W, ρ, S, rl, en, ?_⟩
          show Aft G _ _ H W _ (evHE B k e ρ S)
          cases e1 : evHE B k e ρ S with
          | ok d S1 =>
            rw [e1] at q
            simp only at q
            intro w H1 W1 r1 x1 k1
            refine ⟨W1, S1, d0, [d], r1, b0.mono x1, .cons k1 .nil, ?_⟩
            cases e2 : pBm false .append d0 [d] S1 with
            | ok d2 S2 =>
              rw [e2] at q
              exact fun w2 H2 W2 r2 x2 k2 => q σ H2 W2 r2 (x1.trans x2) ((en.mono x1).mono x2) hs
            | ex c fs S2 => rw [e2] at q; exact q.elim
            | no => rw [e2] at q; exact q.elim
          | ex c fs S1 => rw [e1] at q; exact q.elim
          | no => rw [e1] at q; exact q.elim
    · cases h
  | .ret e, st, h => by
    unfold erHS at h
    split at h
    · refine ps_imp (ps_ret (sndHE x e h)) fun D σ H ⟨k, W, ρ, S, hc, hs, rl, en, q⟩ => ?_
      dsimp only at q
      unfold evHS at q
      refine ⟨k, hc, hs, W, ρ, S, rl, en, ?_⟩
      show Aft G _ _ H W _ (evHE B k e ρ S)
      cases e1 : evHE B k e ρ S with
      | ok d S1 => rw [e1] at q; exact q
      | ex c fs S1 => rw [e1] at q; exact q.elim
      | no => rw [e1] at q; exact q.elim
    · cases h
  | .retN, st, h => by
    unfold erHS at h
    split at h
    · refine ps_imp ps_retN fun D σ H ⟨k, W, ρ, S, hc, hs, rl, en, q⟩ => ?_
      dsimp only at q
      unfold evHS at q
      exact q .non H W rl Ext.refl (.t .non)
    · cases h
  | .ifx c a, st, h => by
    unfold erHS at h
    split at h
    · simp only [Bool.and_eq_true] at h
      have hpe := sndHE x (.isx c) h.1
      have hpt : PT X _ (tTest (tHE G v p.1 cls fun k => evHE B k (.isx c))) := pt_of hpe (by
        have h1 := h.1
        unfold erHE at h1
        split at h1
        · exact fun _ => rfl
        · cases h1)
      refine ps_imp (ps_if hpt (sndHSs x a h.2) pss_nil) fun D σ H ⟨k, W, ρ, S, hc, hs, rl, en, q⟩ => ?_
      dsimp only at q
      unfold evHS at q
      refine ⟨k, hc, hs, W, ρ, S, rl, en, ?_⟩
      show Aft G _ _ H W _ (evHE B k (.isx c) ρ S)
      unfold evHE
      cases e1 : B.xsub k c with
      | none => rw [e1] at q; exact q.elim
      | some b =>
        rw [e1] at q
        intro w H1 W1 r1 x1 k1
        cases k1.bl_of
        refine ⟨b, rfl, ?_⟩
        cases b with
        | true => exact ⟨k, W1, ρ, S, hc, hs, r1, en.mono x1, AftH.move q x1⟩
        | false => exact q σ H1 W1 r1 x1 (en.mono x1) hs
    · cases h
theorem sndHSs (x : HOk t G B N sc X v p cls) : ∀ (s : HSs) {st : List Stmt}, erHSs t N v s sc st = true → PSs X st (tHS G v p.1 cls fun k => evHSs B k s)
  | .nil, st, h => by
    unfold erHSs at h
    split at h
    · exact pss_imp pss_nil fun D σ H ⟨k, W, ρ, S, hc, hs, rl, en, q⟩ => q σ H W rl Ext.refl en hs
    · cases h
  | .cons i r, st, h => by
    unfold erHSs at h
    split at h
    · simp only [Bool.and_eq_true] at h
      refine pss_imp (pss_cons (sndHS x i h.1) (sndHSs x r h.2)) fun D σ H ⟨k, W, ρ, S, hc, hs, rl, en, q⟩ => ?_
      refine ⟨k, W, ρ, S, hc, hs, rl, en, ?_⟩
      have q : AftH G v p.1 D H W (match evHS B k i ρ S with | .nx ρ1 S1 => evHSs B k r ρ1 S1 | x => x) := q
      show AftH G v p.1 _ H W (evHS B k i ρ S)
      cases e : evHS B k i ρ S with
      | nx ρ1 S1 =>
        rw [e] at q
        exact fun σ' H1 W1 r1 x1 e1 s1 => ⟨k, W1, ρ1, S1, hc, s1, r1, e1, AftH.move q x1⟩
      | rt d S1 => rw [e] at q; exact q
      | bk ρ1 S1 => rw [e] at q; exact q
      | ct ρ1 S1 => rw [e] at q; exact q
      | ex c fs ρ1 S1 => rw [e] at q; exact q
      | no => rw [e] at q; exact q
    · cases h
end
end
end Wc

/-! Wc: what is checked holds: expressions. -/
namespace Wc
open PySem PySem.Spec PyProof.Rows L2
/-- an own class over ValueError without an __init__ of its own -/
structure XplOk (K : PySem.W.Frag) (C : Addr) : Prop where
  ex : PySem.W.excIn K C [.type "ValueError", .type "Exception", .type "BaseException", .type "object"] "ValueError.__new__" = true
  kp : PySem.W.keepIn K (.ref C) = true
  sb : PySem.W.subIn K (.ref C) (.type "BaseException") = some true
  ty : PySem.W.typeIn K (.ref C) = some (.type "type")
structure XOk (t : Tx) (G : Gd) (B : Tb) (C : Cal) (N : List Str) (sc : Scope) (X : Cx) : Prop where
  hK : X.K = G.K
  hN : X.N = N
  nd : N.Nodup
  vis : ∀ x, visB sc x = true → Vis X.env.scope x
  glo : ∀ x, gloB sc x = true → Gl X x
  sto : ∀ x, stoB sc x = true → Loc X.env.scope x ∧ (X.fn x = true ∨ X.env.scope.names.lookup x = some .local)
  loc : ∀ x, sc.names.lookup x = some .local → X.env.scope.names.lookup x = some .local
  cel : ∀ x, sc.names.lookup x = some .cell ∨ sc.names.lookup x = some .free → X.env.scope.names.lookup x = some .cell ∨ X.env.scope.names.lookup x = some .free
  kind : X.env.scope.kind = .function
  calm : X.calm = true
  gn : ∀ x d, t.gn x = some d → ∃ u v, X.mg x = some u ∧ RelV v u ∧ ∀ H, RT G H v d
  bn : ∀ x, t.bn x = true → X.mg x = none
  fnm : ∀ f x, t.fnm f = some x → B.isf f = true ∧ X.mg x = some (.ref (G.fa f))
  units : X.A.units + 65 < cLine
  cal : Cals X G B C
  cls : ClsAt X.K B G
  cnm : ∀ c x, t.cnm c = some x → X.mg x = some (.ref (G.ca c))
  dfl : ∀ f dv, B.dft f = some dv → ∃ n, CalD X G C f n dv
  kwd : ∀ f kn, B.kwn f = some kn → ∃ n, CalK X G C f n kn
  csb : ∀ k c b, B.csub k c = some b → PySem.W.kitOne X.K (.ref (G.ca k)) (.ref (G.ca c)) = some b ∧ InsF X.K (G.ca k)
  xnm : ∀ c x, t.xnm c = some x → X.mg x = some (.ref (G.ca c))
  xsb : ∀ k c b, B.xsub k c = some b → PySem.W.kitOne X.K (.ref (G.ca k)) (xcV G c) = some b ∧ ExcC X.K (G.ca k)
  exm : ∀ k c b, B.xsub k (.own c) = some b → PySem.W.exmOne X.K (.ref (G.ca k)) (.ref (G.ca c)) = some b
  xpl : ∀ c, t.xpl c = true → XplOk X.K (G.ca c)
  hfn : ∀ f x, t.hfn f = some x → X.mg x = some (.ref (G.fa f))
  hcl : HclOk X G B
  cfn : ∀ c x f, t.cfn c x = some f → B.isf f = true ∧ ∃ Ca, X.mg c = some (.ref Ca) ∧ Cfn X.K Ca x (G.fa f)
  lam : t.lm = true → LamAt G X
section
variable {t : Tx} {G : Gd} {B : Tb} {C : Cal} {N : List Str} {sc scope : Scope} {X : Cx} {Wx : WX}
theorem lookup_rel {sc : Scope} : ∀ {names : List (Str × NameKind)} {x : Str} {k : NameKind}, names.lookup x = some k →
    ∃ k', (names.map fun (n, k) => if (k == NameKind.free && sc.kind == .function && sc.names.lookup n == some .cell) then (n, NameKind.cell) else (n, k)).lookup x = some k' ∧ (k' = k ∨ (k = .free ∧ k' = .cell))
  | [], _, _, h => by simp at h
  | (n, k₀) :: r, x, k, h => by
    have ih := @lookup_rel sc r x k
    simp only [List.map_cons]
    cases hx : x == n with
    | true =>
      simp only [List.lookup_cons, hx] at h
      cases h
      by_cases hc : (k₀ == NameKind.free && sc.kind == .function && sc.names.lookup n == some .cell) = true
      · rw [if_pos hc]
        simp only [Bool.and_eq_true, beq_iff_eq] at hc
        exact ⟨.cell, by simp [List.lookup_cons, hx], .inr ⟨hc.1.1, rfl⟩⟩
      · rw [if_neg hc]
        exact ⟨k₀, by simp [List.lookup_cons, hx], .inl rfl⟩
    | false =>
      simp only [List.lookup_cons, hx] at h
      by_cases hc : (k₀ == NameKind.free && sc.kind == .function && sc.names.lookup n == some .cell) = true
      · rw [if_pos hc]; simp only [List.lookup_cons, hx]; exact ih h
      · rw [if_neg hc]; simp only [List.lookup_cons, hx]; exact ih h
theorem visB_of {x : Str} (h : visB sc x = true) : sc.names.lookup x = some .local ∨ sc.names.lookup x = some .cell ∨ sc.names.lookup x = some .free := by
  unfold visB at h
  split at h <;> simp_all
theorem gloB_of {x : Str} (h : gloB sc x = true) : sc.names.lookup x = some .globalImplicit := by
  unfold gloB at h
  split at h <;> simp_all
theorem stoB_of {x : Str} (h : stoB sc x = true) : sc.names.lookup x = some .local ∨ sc.names.lookup x = some .cell := by
  unfold stoB at h
  split at h <;> simp_all
theorem relabel_names (scope : Scope) (env : Env) : (relabel scope env).names = scope.names.map fun (n, k) => if (k == NameKind.free && env.scope.kind == .function && env.scope.names.lookup n == some .cell) then (n, NameKind.cell) else (n, k) := rfl
/-- a comprehension's block -/
theorem XOk.blk (x : XOk t G B C N sc X) (hk : scope.kind = .function) (s : Shared) (H : Hp) (Ca : Addr) (cl : List (Str × Addr)) (fp : List Addr) : XOk t G B C N scope (X.blk s H scope (compEnvC scope cl Ca X.env) fp) where
  hK := x.hK
  hN := x.hN
  nd := x.nd
  vis := fun y h => by
    show (relabel scope X.env).names.lookup y = _ ∨ (relabel scope X.env).names.lookup y = _ ∨ (relabel scope X.env).names.lookup y = _
    rw [relabel_names]
    rcases visB_of h with h | h | h
    · obtain ⟨k', e, e2 | ⟨e2, _⟩⟩ := lookup_rel (sc := X.env.scope) h
      · subst e2; exact .inl e
      · cases e2
    · obtain ⟨k', e, e2 | ⟨e2, _⟩⟩ := lookup_rel (sc := X.env.scope) h
      · subst e2; exact .inr (.inl e)
      · cases e2
    · obtain ⟨k', e, e2 | ⟨_, e2⟩⟩ := lookup_rel (sc := X.env.scope) h
      · subst e2; exact .inr (.inr e)
      · subst e2; exact .inr (.inl e)
  glo := fun y h => by
    show (relabel scope X.env).names.lookup y = _
    rw [relabel_names]
    obtain ⟨k', e, e2 | ⟨e2, _⟩⟩ := lookup_rel (sc := X.env.scope) (gloB_of h)
    · subst e2; exact e
    · cases e2
  sto := fun y h => by
    show ((relabel scope X.env).names.lookup y = _ ∨ (relabel scope X.env).names.lookup y = _) ∧ ((scope.names.lookup y == some .cell) = true ∨ (relabel scope X.env).names.lookup y = _)
    rw [relabel_names]
    rcases stoB_of h with h | h
    · obtain ⟨k', e, e2 | ⟨e2, _⟩⟩ := lookup_rel (sc := X.env.scope) h
      · subst e2; exact ⟨.inl e, .inr e⟩
      · cases e2
    · obtain ⟨k', e, e2 | ⟨e2, _⟩⟩ := lookup_rel (sc := X.env.scope) h
      · subst e2; exact ⟨.inr e, .inl (by rw [h]; rfl)⟩
      · cases e2
  loc := fun y h => by
    show (relabel scope X.env).names.lookup y = _
    rw [relabel_names]
    obtain ⟨k', e, e2 | ⟨e2, _⟩⟩ := lookup_rel (sc := X.env.scope) h
    · subst e2; exact e
    · cases e2
  cel := fun y h => by
    show (relabel scope X.env).names.lookup y = _ ∨ (relabel scope X.env).names.lookup y = _
    rw [relabel_names]
    rcases h with h | h
    · obtain ⟨k', e, e2 | ⟨e2, _⟩⟩ := lookup_rel (sc := X.env.scope) h
      · subst e2; exact .inl e
      · cases e2
    · obtain ⟨k', e, e2 | ⟨_, e2⟩⟩ := lookup_rel (sc := X.env.scope) h
      · subst e2; exact .inr e
      · subst e2; exact .inl e
  kind := hk
  calm := x.calm
  gn := x.gn
  bn := x.bn
  fnm := x.fnm
  units := x.units
  cal := fun f h => let ⟨n, F, hn⟩ := x.cal f h; ⟨n, ⟨F.ex, F.kp⟩, hn⟩
  cls := x.cls
  cnm := x.cnm
  dfl := fun f dv h => let ⟨n, F⟩ := x.dfl f dv h; ⟨n, F.ex, F.kp, F.no⟩
  kwd := fun f kn h => let ⟨n, F⟩ := x.kwd f kn h; ⟨n, F.ex, F.kp, F.no⟩
  csb := x.csb
  xnm := x.xnm
  xsb := x.xsb
  exm := x.exm
  xpl := x.xpl
  hfn := x.hfn
  hcl := x.hcl
  cfn := x.cfn
  lam := fun h => let L := x.lam h; ⟨L.ex, L.rm⟩
theorem XOk.tr (x : XOk t G B C N sc X) (pn : List (Addr × Obj)) (xe : Value → Shared → Prop) : XOk t G B C N sc (X.tr pn xe) where
  hK := x.hK
  hN := x.hN
  nd := x.nd
  vis := x.vis
  glo := x.glo
  sto := x.sto
  loc := x.loc
  cel := x.cel
  kind := x.kind
  calm := x.calm
  gn := x.gn
  bn := x.bn
  fnm := x.fnm
  units := x.units
  cal := fun f h => let ⟨n, F, hn⟩ := x.cal f h; ⟨n, ⟨F.ex, F.kp⟩, hn⟩
  cls := x.cls
  cnm := x.cnm
  dfl := fun f dv h => let ⟨n, F⟩ := x.dfl f dv h; ⟨n, F.ex, F.kp, F.no⟩
  kwd := fun f kn h => let ⟨n, F⟩ := x.kwd f kn h; ⟨n, F.ex, F.kp, F.no⟩
  cfn := x.cfn
  lam := fun h => let L := x.lam h; ⟨L.ex, L.rm⟩
  csb := x.csb
  xnm := x.xnm
  xsb := x.xsb
  exm := x.exm
  xpl := x.xpl
  hfn := x.hfn
  hcl := x.hcl
theorem XOk.hot (x : XOk t G B C N sc X) {v : Option Nat} {a : Addr} {oe : Obj} {cls : Value} (pn : List (Addr × Obj)) (hz : Zc cls none oe) (hf : ∃ vs, oe.data = .fields vs) : HOk t G B N sc (X.suite a ((a, oe) :: pn)) v (a, oe) cls where
  hK := x.hK
  hN := x.hN
  nd := x.nd
  vis := x.vis
  glo := x.glo
  sto := x.sto
  bn := x.bn
  units := x.units
  hfn := x.hfn
  xnm := x.xnm
  xsb := x.xsb
  hcl := fun f k r h => let ⟨n, fd, ps, F, hr, hb, kp⟩ := x.hcl f k r h; ⟨n, fd, ps, F, ⟨hr.dp, hr.un⟩, hb, kp⟩
  pin := List.mem_cons_self
  zc := hz
  fl := hf
theorem REn.hide {W : Wd} {σ : L2.St} {ρ : Ev} (h : REn G W σ ρ) (i : Nat) (w : V) : REn G W (σ.set i (some w)) (ρ.set i none) := by
  refine ⟨by simp [h.len], fun j e he => ?_⟩
  by_cases q : i = j
  · subst q
    by_cases l : i < ρ.length
    · rw [List.getElem?_set_self l] at he; cases he
    · rw [List.getElem?_eq_none (by simpa using l)] at he; cases he
  · rw [List.getElem?_set_ne q] at he
    rw [List.getElem?_set_ne q]
    exact h.at_ j e he
/-- where a def's own statements stand -/
structure DefX (X : Cx) (sc : Scope) : Prop where
  sc : X.env.scope = sc
  st : X.stack = X.env :: X.outer
  fr : X.env.frame = some X.env.locals
theorem XOk.blkOk (x : XOk t G B C N sc X) {own : List (Str × Nat)} (h : blkC N sc scope own = true) : BlkOk X.N X.env.scope scope own := by
  have b := blkOk_by h
  rw [x.hN]
  exact ⟨b.kind, b.uniq, b.ix, fun y hy e => x.cel _ (b.free y hy e), b.own⟩
theorem XOk.name (x : XOk t G B C N sc X) {i : Nat} {y : Str} (h : N[i]? = some y) : X.N[i]? = some y := by rw [x.hN]; exact h
theorem erP_ok (x : XOk t G B C N sc X) : ∀ {p : Pt} {tg : Expr}, erP N sc p tg = true → PG X tg (gP X.K p)
  | .v i, .Name y _, h => by
    simp only [erP, Bool.and_eq_true, decide_eq_true_eq] at h
    obtain ⟨a, b⟩ := x.sto y h.2
    exact pg_name (by rw [x.hN]; exact x.nd) (x.name h.1) a b
  | .tup is, .Tuple xs _ _, h => by
    have go : ∀ {is : List Nat} {xs : List Expr}, erP.go N sc is xs = true → PGs X xs (gL is) ∧ (assignEach xs X.env).length = is.length ∧ (assignEach xs X.env).findIdx? (·.1) = none := by
      intro is
      induction is with
      | nil =>
        intro xs h
        cases xs with
        | nil => exact ⟨pgs_nil, rfl, rfl⟩
        | cons y ys => simp [erP.go] at h
      | cons i is ih =>
        intro xs h
        cases xs with
        | nil => simp [erP.go] at h
        | cons y ys =>
          cases y with
          | Name z pz =>
            simp only [erP.go, Bool.and_eq_true, decide_eq_true_eq] at h
            obtain ⟨a, b⟩ := x.sto z h.1.2
            obtain ⟨h1, h2, h3⟩ := ih h.2
            refine ⟨pgs_cons (pg_name (by rw [x.hN]; exact x.nd) (x.name h.1.1) a b) h1 rfl, ?_, ?_⟩
            · show (assignEach ys X.env).length + 1 = is.length + 1
              rw [h2]
            · show List.findIdx? _ ((false, _) :: assignEach ys X.env) = none
              rw [List.findIdx?_cons, h3]; rfl
          | _ => simp [erP.go] at h
    obtain ⟨h1, h2, h3⟩ := go (show erP.go N sc is xs = true from h)
    exact pg_tl x.calm h1 h2 h3
  | .nst i js, .Tuple [.Name y _, .Tuple ys _ _] _ _, h => by
    have go : ∀ {is : List Nat} {xs : List Expr}, erP.go N sc is xs = true → PGs X xs (gL is) ∧ (assignEach xs X.env).length = is.length ∧ (assignEach xs X.env).findIdx? (·.1) = none := by
      intro is
      induction is with
      | nil =>
        intro xs h
        cases xs with
        | nil => exact ⟨pgs_nil, rfl, rfl⟩
        | cons y ys => simp [erP.go] at h
      | cons i is ih =>
        intro xs h
        cases xs with
        | nil => simp [erP.go] at h
        | cons y ys =>
          cases y with
          | Name z pz =>
            simp only [erP.go, Bool.and_eq_true, decide_eq_true_eq] at h
            obtain ⟨a, b⟩ := x.sto z h.1.2
            obtain ⟨h1, h2, h3⟩ := ih h.2
            refine ⟨pgs_cons (pg_name (by rw [x.hN]; exact x.nd) (x.name h.1.1) a b) h1 rfl, ?_, ?_⟩
            · show (assignEach ys X.env).length + 1 = is.length + 1
              rw [h2]
            · show List.findIdx? _ ((false, _) :: assignEach ys X.env) = none
              rw [List.findIdx?_cons, h3]; rfl
          | _ => simp [erP.go] at h
    simp only [erP, Bool.and_eq_true, decide_eq_true_eq] at h
    obtain ⟨a, b⟩ := x.sto y h.1.2
    obtain ⟨h1, h2, h3⟩ := go h.2
    exact pg_tl x.calm (pgs_cons (pg_name (by rw [x.hN]; exact x.nd) (x.name h.1.1) a b) (pgs_cons (pg_tl x.calm h1 h2 h3) pgs_nil rfl) rfl) rfl rfl
theorem ownOf_own : ∀ {p : Pt} {tg : Expr}, erP N sc p tg = true → (ownOf p tg).map (·.2) = p.own
  | .v i, .Name y _, h => rfl
  | .tup is, .Tuple xs _ _, h => by
    have go : ∀ {is : List Nat} {xs : List Expr}, erP.go N sc is xs = true → (ownOf.go is xs).map (·.2) = is := by
      intro is
      induction is with
      | nil => intro xs h; cases xs <;> rfl
      | cons i is ih =>
        intro xs h
        cases xs with
        | nil => simp [erP.go] at h
        | cons y ys =>
          cases y with
          | Name z pz =>
            simp only [erP.go, Bool.and_eq_true, decide_eq_true_eq] at h
            simp [ownOf.go, ih h.2]
          | _ => simp [erP.go] at h
    exact go (show erP.go N sc is xs = true from h)
  | .nst i js, .Tuple [.Name y _, .Tuple ys _ _] _ _, h => by
    have go : ∀ {is : List Nat} {xs : List Expr}, erP.go N sc is xs = true → (ownOf.go is xs).map (·.2) = is := by
      intro is
      induction is with
      | nil => intro xs h; cases xs <;> rfl
      | cons i is ih =>
        intro xs h
        cases xs with
        | nil => simp [erP.go] at h
        | cons y ys =>
          cases y with
          | Name z pz =>
            simp only [erP.go, Bool.and_eq_true, decide_eq_true_eq] at h
            simp [ownOf.go, ih h.2]
          | _ => simp [erP.go] at h
    simp only [erP, Bool.and_eq_true, decide_eq_true_eq] at h
    show i :: (ownOf.go js ys).map (·.2) = i :: js
    rw [go h.2]
theorem ers_stars : ∀ {ies : IEs} {xs : List Expr}, ers t N ies sc xs = true → stars xs = true
  | .nil, [], _ => rfl
  | .cons a r, x :: xs, h => by
    simp only [ers, Bool.and_eq_true] at h
    simp only [stars, Bool.and_eq_true]
    exact ⟨h.1.2, ers_stars h.2⟩
  | .nil, _ :: _, h => by simp [ers] at h
  | .cons _ _, [], h => by simp [ers] at h
theorem ers_nil {ies : IEs} {xs : List Expr} (h : ers t N ies sc xs = true) : xs = [] → ies = .nil := by
  intro e; subst e
  cases ies with
  | nil => rfl
  | cons a r => simp [ers] at h
theorem ers_hd {ies : IEs} {xs : List Expr} {env : Env} {pos : Pos} (h : ers t N ies sc xs = true) : ∀ y ys, xs = y :: ys → starEach (y :: ys) env = (false, eval y env) :: starEach ys env ∧ (backTo pos (starEach ys env)).any (·.1) = false := by
  intro y ys e; subst e
  have st := ers_stars h
  simp only [stars, Bool.and_eq_true] at st
  exact ⟨star_of st.1 _ _, stars_of st.2 _ _⟩
theorem ers_len : ∀ {ies : IEs} {xs : List Expr}, ers t N ies sc xs = true → xs.length = lenIEs ies
  | .nil, [], _ => rfl
  | .cons a r, x :: xs, h => by
    simp only [ers, Bool.and_eq_true] at h
    simp [lenIEs, ers_len h.2]
  | .nil, _ :: _, h => by simp [ers] at h
  | .cons _ _, [], h => by simp [ers] at h
theorem tE_frz {a : IE} {σ : L2.St} {H : Hp} {Q : VK} (h : tE G (evE B C (.frz a)) Wx σ H Q) : tE G (evE B C a) Wx σ H Q := by
  obtain ⟨W, ρ, S, rl, en, q⟩ := h
  refine tE_imp (tE_at rl en q) fun v H1 ⟨d, S1, W1, r1, x1, e1, k1, a1⟩ => ?_
  split at a1
  · rename_i u S2 e
    obtain ⟨W2, r2, x2, k2, _⟩ := frz_ok 9 r1 k1 e
    exact a1 v H1 W2 r2 x2 (.t k2)
  · exact a1.elim
/-- what an expression that was checked is worth -/
structure Snd (G : Gd) (X : Cx) (B : Tb) (C : Cal) (Wx : WX) (e : Expr) (ie : IE) : Prop where
  pe : PEv G X B C Wx e ie
  pt : PTv G X B C Wx e ie
  pw : ∀ op es p, e = .BoolOp op es p → PWv G X B C Wx e ie
theorem Snd.mk1 {e : Expr} {ie : IE} (h : PEv G X B C Wx e ie) (he : ∀ whole, isTrue e X.env whole = (do let v ← whole; standAt e.pos; holding [v] (truthy v))) (hb : ∀ op es p, e ≠ .BoolOp op es p) : Snd G X B C Wx e ie :=
  ⟨h, pt_of h he, fun op es p q => absurd q (hb op es p)⟩
theorem bm_slot : ∀ b, bmOk b = true → PlainAttrs (knd (bmT b)) ∧ Slot (knd (bmT b)) (bmN b) (bmId b) ∧ typeOf (.builtin (bmId b)) = pure (.type "method_descriptor")
  | .append, _ => ⟨PySem.F.plainAttrs_list, PySem.F.slot_list_append, PySem.F.type_list_append⟩
  | .index, _ => ⟨PySem.F.plainAttrs_list, PySem.F.slot_list_index, PySem.F.type_list_index⟩
  | .extend, _ => ⟨PySem.F.plainAttrs_list, PySem.F.slot_list_extend, PySem.F.type_list_extend⟩
  | .insert, _ => ⟨PySem.F.plainAttrs_list, PySem.F.slot_list_insert, PySem.F.type_list_insert⟩
  | .join, _ => ⟨PySem.F.plainAttrs_str, PySem.F.slot_str_join, PySem.F.type_str_join⟩
  | .split, _ => ⟨PySem.F.plainAttrs_str, PySem.F.slot_str_split, PySem.F.type_str_split⟩
  | .startswith, _ => ⟨PySem.F.plainAttrs_str, PySem.F.slot_str_startswith, PySem.F.type_str_startswith⟩
  | .find, _ => ⟨PySem.F.plainAttrs_str, PySem.F.slot_str_find, PySem.F.type_str_find⟩
theorem bm_slot0 : ∀ b, bmOk0 b = true → PlainAttrs (knd (bmT b)) ∧ Slot (knd (bmT b)) (bmN b) (bmId b) ∧ typeOf (.builtin (bmId b)) = pure (.type "method_descriptor")
  | .popL, _ => ⟨PySem.F.plainAttrs_list, PySem.F.slot_list_pop, PySem.F.type_list_pop⟩
  | .clear, _ => ⟨PySem.F.plainAttrs_list, PySem.F.slot_list_clear, PySem.F.type_list_clear⟩
  | .reverse, _ => ⟨PySem.F.plainAttrs_list, PySem.F.slot_list_reverse, PySem.F.type_list_reverse⟩
  | .upper, _ => ⟨PySem.F.plainAttrs_str, PySem.F.slot_str_upper, PySem.F.type_str_upper⟩
theorem bi_boot (b : Bi) : bootBuiltins (biId b).1 = some (biId b).2 := by
  cases b <;> decide +kernel
theorem bi_ok (b : Bi) : (biId b).1 ≠ "__name__" ∧ ((biId b).1 == ("__debug__" : Str)) = false := by
  cases b <;> exact ⟨by decide +kernel, by decide +kernel⟩
theorem bi_kind (b : Bi) : (∃ id, (biId b).2 = .builtin id) ∨ ∃ id, (biId b).2 = .type id := by
  cases b <;> first | exact .inl ⟨_, rfl⟩ | exact .inr ⟨_, rfl⟩
theorem cl_boot (c : Cl) (hc : ∀ k, c ≠ .own k) : bootBuiltins (Str.ofString (clT c)) = some (.type (clT c)) := by
  cases c with
  | own k => exact absurd rfl (hc k)
  | _ => decide +kernel
theorem erC_ok (x : XOk t G B C N sc X) {c : Cl} {e : Expr} (h : erC t sc c e = true) : (∀ k, c ≠ .own k) ∧ PE X e (tC (.ty (clT c))) := by
  cases e with
  | Name z p =>
    simp only [erC, Bool.and_eq_true, decide_eq_true_eq] at h
    obtain ⟨⟨⟨⟨h1, h2⟩, h3⟩, h4⟩, h5⟩ := h
    have hc : ∀ k, c ≠ .own k := fun k e => by subst e; cases h1
    obtain ⟨n1, n2, n3⟩ := okNm_of h5
    subst h2
    exact ⟨hc, pe_bltn (x.glo _ h4) (x.bn _ h3) (cl_boot c hc) rfl n3 n1⟩
  | _ => simp [erC] at h
mutual
theorem snd : ∀ (ie : IE) {sc : Scope} {X : Cx} {Wx : WX} {e : Expr}, XOk t G B C N sc X → Takes X Wx → er t N ie sc e = true → Snd G X B C Wx e ie
  | .v i, sc, X, Wx, e, x, tk, h => by
    unfold er at h
    split at h
    · simp only [Bool.and_eq_true, decide_eq_true_eq] at h
      obtain ⟨n1, n2, n3⟩ := okNm_of h.2
      exact Snd.mk1 (sE_var (pe_var (x.name h.1.1) (x.vis _ h.1.2) n1 n2)) (fun _ => rfl) (fun _ _ _ q => nomatch q)
    · cases h
  | .c d, sc, X, Wx, e, x, tk, h => by
    unfold er at h
    split at h
    · cases sameT_eq h
      exact Snd.mk1 (sE_con (fun _ => .int _) pe_int) (fun _ => rfl) (fun _ _ _ q => nomatch q)
    · cases sameT_eq h
      exact Snd.mk1 (sE_con (fun _ => .bl _) pe_bl) (fun _ => rfl) (fun _ _ _ q => nomatch q)
    · cases sameT_eq h
      exact Snd.mk1 (sE_con (fun _ => .str _) pe_str) (fun _ => rfl) (fun _ _ _ q => nomatch q)
    · cases sameT_eq h
      exact Snd.mk1 (sE_con (fun _ => .non) pe_non) (fun _ => rfl) (fun _ _ _ q => nomatch q)
    · cases h
  | .g y d, sc, X, Wx, e, x, tk, h => by
    unfold er at h
    split at h
    · simp only [Bool.and_eq_true, beq_iff_eq] at h
      obtain ⟨⟨⟨h1, h2⟩, h3⟩, h4⟩ := h
      subst h1
      obtain ⟨n1, n2, n3⟩ := okNm_of h3
      split at h4
      · rename_i d' e
        have e2 := sameT_eq h4
        subst e2
        obtain ⟨u, v, m1, m2, m3⟩ := x.gn y d e
        exact Snd.mk1 (sE_glo m3 (pe_glob (x.glo _ h2) m1 m2 n1)) (fun _ => rfl) (fun _ _ _ q => nomatch q)
      · cases h4
    · cases h
  | .bin m op a b, sc, X, Wx, e, x, tk, h => by
    unfold er at h
    split at h
    · simp only [Bool.and_eq_true] at h
      obtain ⟨⟨h1, h2⟩, h3⟩ := h
      have e := opEq_eq h1
      subst e
      exact Snd.mk1 (sE_bin (snd a x tk h2).pe (snd b x tk h3).pe) (fun _ => rfl) (fun _ _ _ q => nomatch q)
    · cases h
  | .neg a, sc, X, Wx, e, x, tk, h => by
    unfold er at h
    split at h
    · exact Snd.mk1 (sE_neg (snd a x tk h).pe) (fun _ => rfl) (fun _ _ _ q => nomatch q)
    · cases h
  | .cmp op a b, sc, X, Wx, e, x, tk, h => by
    unfold er at h
    split at h
    · simp only [Bool.and_eq_true, beq_iff_eq] at h
      obtain ⟨⟨⟨h1, h2⟩, h3⟩, h4⟩ := h
      have e := cmEq_eq h1
      subst e
      exact ⟨sE_cmp x.hK x.units (snd a x tk h2).pe (snd b x tk h3).pe h4, sT_cmp x.hK x.units (snd a x tk h2).pe (snd b x tk h3).pe h4, fun _ _ _ q => nomatch q⟩
    · cases h
  | .ch2 o1 o2 a b c, sc, X, Wx, e, x, tk, h => by
    unfold er at h
    split at h
    · simp only [Bool.and_eq_true, beq_iff_eq] at h
      obtain ⟨⟨⟨⟨⟨h1, h2⟩, h3⟩, h4⟩, h5⟩, h6⟩ := h
      have e1 := cmEq_eq h1
      have e2 := cmEq_eq h2
      subst e1 e2
      exact ⟨sE_ch2 x.hK x.units (snd a x tk h3).pe (snd b x tk h4).pe (snd c x tk h5).pe h6, sT_ch2 x.hK x.units (snd a x tk h3).pe (snd b x tk h4).pe (snd c x tk h5).pe h6, fun _ _ _ q => nomatch q⟩
    · cases h
  | .ch3 o1 o2 o3 a b c d, sc, X, Wx, e, x, tk, h => by
    unfold er at h
    split at h
    · simp only [Bool.and_eq_true, beq_iff_eq] at h
      obtain ⟨⟨⟨⟨⟨⟨⟨h1, h2⟩, h3⟩, h4⟩, h5⟩, h6⟩, h7⟩, h8⟩ := h
      have e1 := cmEq_eq h1
      have e2 := cmEq_eq h2
      have e3 := cmEq_eq h3
      subst e1 e2 e3
      exact ⟨sE_ch3 x.hK x.units (snd a x tk h4).pe (snd b x tk h5).pe (snd c x tk h6).pe (snd d x tk h7).pe h8, sT_ch3 x.hK x.units (snd a x tk h4).pe (snd b x tk h5).pe (snd c x tk h6).pe (snd d x tk h7).pe h8, fun _ _ _ q => nomatch q⟩
    · cases h
  | .one a, sc, X, Wx, e, x, tk, h => by
    unfold er at h
    split at h
    · rename_i op ea p
      have s := snd a (Wx := Wx) x tk h
      have w : PWv G X B C Wx (.BoolOp op [ea] p) (.one a) := by
        cases op with
        | And => exact pw_and1 s.pt
        | Or => exact pw_or1 s.pt
      exact ⟨pe_one s.pe, w.pt, fun _ _ _ _ => w⟩
    · cases h
  | .and a b, sc, X, Wx, e, x, tk, h => by
    unfold er at h
    split at h
    · simp only [Bool.and_eq_true] at h
      have s1 := snd a (Wx := Wx) x tk h.1
      have s2 := snd b (Wx := Wx) x tk h.2
      have w := sW_and s1.pt (s2.pw _ _ _ rfl)
      exact ⟨sE_and s1.pe s2.pe, w.pt, fun _ _ _ _ => w⟩
    · cases h
  | .or a b, sc, X, Wx, e, x, tk, h => by
    unfold er at h
    split at h
    · simp only [Bool.and_eq_true] at h
      have s1 := snd a (Wx := Wx) x tk h.1
      have s2 := snd b (Wx := Wx) x tk h.2
      have w := sW_or s1.pt (s2.pw _ _ _ rfl)
      exact ⟨sE_or s1.pe s2.pe, w.pt, fun _ _ _ _ => w⟩
    · cases h
  | .not a, sc, X, Wx, e, x, tk, h => by
    unfold er at h
    split at h
    · have s := snd a (Wx := Wx) x tk h
      exact ⟨sE_not s.pe, sT_not s.pt, fun _ _ _ q => nomatch q⟩
    · cases h
  | .ite c a b, sc, X, Wx, e, x, tk, h => by
    unfold er at h
    split at h
    · simp only [Bool.and_eq_true] at h
      have sc' := snd c (Wx := Wx) x tk h.1.1
      have sa := snd a (Wx := Wx) x tk h.1.2
      have sb := snd b (Wx := Wx) x tk h.2
      exact ⟨sE_ite sc'.pt sa.pe sb.pe, sT_ite sc'.pt sa.pt sb.pt, fun _ _ _ q => nomatch q⟩
    · cases h
  | .tup es, sc, X, Wx, e, x, tk, h => by
    unfold er at h
    split at h
    · simp only [Bool.and_eq_true, decide_eq_true_eq] at h
      exact Snd.mk1 (sE_tup (snds es x tk h.1) h.2) (fun _ => rfl) (fun _ _ _ q => nomatch q)
    · cases h
  | .lst m es, sc, X, Wx, e, x, tk, h => by
    unfold er at h
    split at h
    · simp only [Bool.and_eq_true, decide_eq_true_eq] at h
      exact Snd.mk1 (sE_lst (snds es x tk h.1) h.2) (fun _ => rfl) (fun _ _ _ q => nomatch q)
    · cases h
  | .dct m kvs, sc, X, Wx, e, x, tk, h => by
    unfold er at h
    split at h
    · rename_i ks vs pos
      cases ks with
      | nil =>
        cases vs with
        | cons _ _ => cases h
        | nil =>
          cases kvs with
          | cons _ _ => cases h
          | nil =>
            refine Snd.mk1 (pe_imp pe_dnewK fun σ H Q q => ?_) (fun _ => rfl) (fun _ _ _ q => nomatch q)
            obtain ⟨W, ρ, S, rl, en, q⟩ := q
            have q : Aft G (fun W' v d => RD G W' v d) (fun cls dx H' => Wx cls dx σ H') H W Q (mkD m [] S) := q
            intro p hp
            unfold mkD at q
            cases m with
            | true =>
              rw [if_pos rfl] at q
              obtain ⟨r2, x2⟩ := rl.alloc (u := .dK []) (o := .dct []) hp fun H' W' e _ _ => .dct e rfl .nil
              exact q _ _ _ r2 x2 (.ref (by show (W.F ++ [p])[S.length]? = some p; rw [← rl.len]; simp))
            | false =>
              rw [if_neg (by simp)] at q
              obtain ⟨r2, x2⟩ := rl.new (o := .dK []) hp
              exact q _ _ _ r2 x2 (.t (.dct upd_same rfl .nil))
      | cons k0 ks0 =>
        simp only [Bool.and_eq_true, decide_eq_true_eq] at h
        obtain ⟨h1, h2⟩ := h
        obtain ⟨p1, p2, p3, p4⟩ := sndD kvs (Wx := Wx) x tk h1 pos
        refine Snd.mk1 (pe_imp (pe_disp p1 p2 p3 (by simp) ?_) fun σ H Q q => tDisp_ok h2 q) (fun _ => rfl) (fun _ _ _ q => nomatch q)
        omega
    · cases h
  | .nop, sc, X, Wx, e, x, tk, h => by unfold er at h; cases h
  | .stk, sc, X, Wx, e, x, tk, h => by
    have no : ∀ {σ : L2.St} {H : Hp} {Q : VK}, ¬ tE G (evE B C .stk) Wx σ H Q := fun ⟨W, ρ, S, rl, en, q⟩ => q
    exact ⟨⟨fun pins s σ H Q I h => (no h).elim⟩, ⟨fun pins s σ H Q I h => (no h).elim⟩, fun _ _ _ _ => ⟨fun whole pins s σ H Q I h => (no h).elim⟩⟩
  | .att a f, sc, X, Wx, e, x, tk, h => by
    unfold er at h
    split at h
    · simp only [Bool.and_eq_true, beq_iff_eq] at h
      obtain ⟨⟨h1, h2⟩, h3⟩ := h
      subst h1
      exact Snd.mk1 (sE_att x.cls (snd a x tk h2).pe (base_of h3 _ _ _)) (fun _ => rfl) (fun _ _ _ q => nomatch q)
    · cases h
  | .new m c es, sc, X, Wx, e, x, tk, h => by
    unfold er at h
    split at h
    · rename_i y _ xs _
      simp only [Bool.and_eq_true, decide_eq_true_eq] at h
      obtain ⟨⟨⟨h1, h2⟩, h3⟩, h4⟩ := h
      obtain ⟨n1, n2, n3⟩ := okNm_of h3
      exact Snd.mk1 (sE_new x.cls x.cal tk (x.glo _ h2) (x.cnm c y h1) (snds es x tk h4) n1 (ers_nil h4) (ers_hd h4)) (fun _ => rfl) (fun _ _ _ q => nomatch q)
    · cases h
  | .mth m o f es, sc, X, Wx, e, x, tk, h => by
    unfold er at h
    split at h
    · simp only [Bool.and_eq_true, beq_iff_eq] at h
      obtain ⟨⟨⟨⟨⟨h1, h2⟩, h3⟩, h4⟩, h5⟩, h6⟩ := h
      subst h1
      exact Snd.mk1 (sE_mth x.cls x.cal tk (snd o x tk h3).pe (snds es (Wx := Wx) x tk h4) (base_of h5 _ _ _) (few_of (ers_stars h4) (of_decide_eq_true h6) _ _) (by simpa using h2) (ers_nil h4) (ers_hd h4)) (fun _ => rfl) (fun _ _ _ q => nomatch q)
    · cases h
  | .bm m b o es, sc, X, Wx, e, x, tk, h => by
    unfold er at h
    split at h
    · simp only [Bool.and_eq_true, beq_iff_eq] at h
      obtain ⟨⟨⟨⟨⟨h1, h3⟩, h4⟩, h5⟩, h6⟩, h7⟩ := h
      rename_i xo nm p1 ys p2
      have st := ers_stars h5
      have few := few_of st (of_decide_eq_true h7) X.env p2
      have line : (p1.endLine == p2.line) = true := by simpa using h3
      have so := snd o (Wx := Wx) x tk h4
      have sa := snds es (Wx := Wx) x tk h5
      refine Snd.mk1 ?_ (fun _ => rfl) (fun _ _ _ q => nomatch q)
      have gen : (if ys.length == 0 then bmOk0 b && nm == bmN b else bmOk b && nm == bmN b) = true → PEv G X B C Wx (.Call (.Attribute xo nm p1) ys [] p2) (.bm m b o es) := fun h1 => by
        cases ys with
        | nil =>
          have e0 := ers_nil h5 rfl
          subst e0
          have h1 : (bmOk0 b && nm == bmN b) = true := h1
          simp only [Bool.and_eq_true, beq_iff_eq] at h1
          obtain ⟨g1, rfl⟩ := h1
          obtain ⟨pa, sl, ty⟩ := bm_slot0 b g1
          exact sE_bm0 x.hK g1 pa sl ty so.pe (base_of h6 _ _ _) line
        | cons y ys =>
          have h1 : (bmOk b && nm == bmN b) = true := h1
          simp only [Bool.and_eq_true, beq_iff_eq] at h1
          obtain ⟨g1, rfl⟩ := h1
          obtain ⟨pa, sl, ty⟩ := bm_slot b g1
          simp only [stars, Bool.and_eq_true] at st
          exact sE_bm x.hK x.units g1 pa sl ty so.pe sa (base_of h6 _ _ _) few line (star_of st.1 _ _) (stars_of st.2 _ _)
      have two : ∀ {a c : Expr} {ies : IEs}, ers t N ies sc [a, c] = true → ∃ i j, ies = .cons i (.cons j .nil) ∧ notStar a = true ∧ notStar c = true := fun {a c ies} h => by
        cases ies with
        | nil => simp [ers] at h
        | cons i r =>
          cases r with
          | nil => simp [ers] at h
          | cons j r =>
            cases r with
            | nil => simp only [ers, Bool.and_eq_true] at h; exact ⟨i, j, rfl, h.1.2, h.2.1.2⟩
            | cons _ _ => simp [ers] at h
      cases b with
      | bitlen =>
        have h1 : (ys.length == 0 && nm == ("bit_length" : Str)) = true := h1
        simp only [Bool.and_eq_true, beq_iff_eq, List.length_eq_zero_iff] at h1
        obtain ⟨rfl, rfl⟩ := h1
        have e0 := ers_nil h5 rfl
        subst e0
        exact sE_bits so.pe (base_of h6 _ _ _) line
      | popD =>
        have h1 : (ys.length == 1 && nm == ("pop" : Str)) = true := h1
        simp only [Bool.and_eq_true, beq_iff_eq] at h1
        obtain ⟨g1, rfl⟩ := h1
        match ys, g1 with
        | [a], _ =>
          cases es with
          | nil => simp [ers] at h5
          | cons i r =>
            cases r with
            | cons _ _ => simp [ers] at h5
            | nil =>
              simp only [ers, Bool.and_eq_true] at h5
              exact sE_popD so.pe (snd i x tk h5.1.1).pe ⟨base_of h6 _ _ _, few, line, by rw [star_of h5.1.2]; rfl⟩
      | get =>
        have h1 : (ys.length == 2 && nm == ("get" : Str)) = true := h1
        simp only [Bool.and_eq_true, beq_iff_eq] at h1
        obtain ⟨g1, rfl⟩ := h1
        match ys, g1 with
        | [a, c], _ =>
          cases es with
          | nil => simp [ers] at h5
          | cons i r =>
            cases r with
            | nil => simp [ers] at h5
            | cons j r =>
              cases r with
              | cons _ _ => simp [ers] at h5
              | nil =>
                simp only [ers, Bool.and_eq_true] at h5
                exact sE_get (by have := x.units; omega) so.pe (snd i x tk h5.1.1).pe (snd j x tk h5.2.1.1).pe ⟨base_of h6 _ _ _, few, line, by rw [star_of h5.1.2, star_of h5.2.1.2]; rfl⟩
      | setdefault =>
        have h1 : (ys.length == 2 && nm == ("setdefault" : Str)) = true := h1
        simp only [Bool.and_eq_true, beq_iff_eq] at h1
        obtain ⟨g1, rfl⟩ := h1
        match ys, g1 with
        | [a, c], _ =>
          cases es with
          | nil => simp [ers] at h5
          | cons i r =>
            cases r with
            | nil => simp [ers] at h5
            | cons j r =>
              cases r with
              | cons _ _ => simp [ers] at h5
              | nil =>
                simp only [ers, Bool.and_eq_true] at h5
                exact sE_setd so.pe (snd i x tk h5.1.1).pe (snd j x tk h5.2.1.1).pe ⟨base_of h6 _ _ _, few, line, by rw [star_of h5.1.2, star_of h5.2.1.2]; rfl⟩
      | append => exact gen h1
      | extend => exact gen h1
      | insert => exact gen h1
      | popL => exact gen h1
      | clear => exact gen h1
      | reverse => exact gen h1
      | index => exact gen h1
      | count => exact gen h1
      | split => exact gen h1
      | join => exact gen h1
      | startswith => exact gen h1
      | find => exact gen h1
      | upper => exact gen h1
      | replace => exact gen h1
    · cases h
  | .idx a b, sc, X, Wx, e, x, tk, h => by
    unfold er at h
    split at h
    · simp only [Bool.and_eq_true] at h
      exact Snd.mk1 (sE_idx x.hK x.units (snd a x tk h.1.1).pe (snd b x tk h.1.2).pe (plainIx_of h.2)) (fun _ => rfl) (fun _ _ _ q => nomatch q)
    · cases h
  | .sl a lo hi, sc, X, Wx, e, x, tk, h => by
    unfold er at h
    split at h
    · simp only [Bool.and_eq_true] at h
      obtain ⟨⟨h1, h2⟩, h3⟩ := h
      have part : ∀ (lo : IE) (l : Option Expr), (∀ y, l = some y → er t N lo sc y = true → PEv G X B C Wx y lo) → (match l with | none => isNop lo | some y => !isNop lo && er t N lo sc y) = true → PO X l (tP G B C Wx lo) := by
        intro lo l ih h
        cases l with
        | none =>
          cases lo with
          | nop => exact sP_none
          | _ => cases h
        | some y =>
          simp only [Bool.and_eq_true] at h
          exact sP_some (ih y rfl h.2) (fun e => by rw [e] at h; cases h.1)
      exact Snd.mk1 (sE_sl x.hK (snd a x tk h1).pe (part lo _ (fun y _ h => (snd lo x tk h).pe) h2) (part hi _ (fun y _ h => (snd hi x tk h).pe) h3)) (fun _ => rfl) (fun _ _ _ q => nomatch q)
    · cases h
  | .sl3 a lo hi k, sc, X, Wx, e, x, tk, h => by
    unfold er at h
    split at h
    · simp only [Bool.and_eq_true] at h
      obtain ⟨⟨⟨h1, h2⟩, h3⟩, h4⟩ := h
      have part : ∀ (lo : IE) (l : Option Expr), (∀ y, l = some y → er t N lo sc y = true → PEv G X B C Wx y lo) → (match l with | none => isNop lo | some y => !isNop lo && er t N lo sc y) = true → PO X l (tP G B C Wx lo) := by
        intro lo l ih h
        cases l with
        | none =>
          cases lo with
          | nop => exact sP_none
          | _ => cases h
        | some y =>
          simp only [Bool.and_eq_true] at h
          exact sP_some (ih y rfl h.2) (fun e => by rw [e] at h; cases h.1)
      exact Snd.mk1 (sE_sl3 x.hK (snd a x tk h1).pe (part lo _ (fun y _ h => (snd lo x tk h).pe) h2) (part hi _ (fun y _ h => (snd hi x tk h).pe) h3) h4) (fun _ => rfl) (fun _ _ _ q => nomatch q)
    · cases h
  | .sss a, sc, X, Wx, e, x, tk, h => by
    unfold er at h
    split at h
    · simp only [Bool.and_eq_true, beq_iff_eq] at h
      obtain ⟨⟨⟨⟨⟨⟨⟨h1, h2⟩, h3⟩, h4⟩, h5⟩, h6⟩, h7⟩, h8⟩ := h
      subst h1 h2
      exact Snd.mk1 (sE_sss x.hK x.calm (x.glo _ h4) (x.bn _ h3) (x.glo _ h6) (x.bn _ h5) (snd a x tk h7).pe (star_of h8 _ _)) (fun _ => rfl) (fun _ _ _ q => nomatch q)
    · cases h
  | .lss a, sc, X, Wx, e, x, tk, h => by
    unfold er at h
    split at h
    · simp only [Bool.and_eq_true, beq_iff_eq] at h
      obtain ⟨⟨⟨⟨⟨⟨⟨h1, h2⟩, h3⟩, h4⟩, h5⟩, h6⟩, h7⟩, h8⟩ := h
      subst h1 h2
      exact Snd.mk1 (sE_lss x.hK x.calm (x.glo _ h4) (x.bn _ h3) (x.glo _ h6) (x.bn _ h5) (snd a x tk h7).pe (star_of h8 _ _)) (fun _ => rfl) (fun _ _ _ q => nomatch q)
    · cases h
  | .call m f es, sc, X, Wx, e, x, tk, h => by
    unfold er at h
    split at h
    · rename_i y _ xs _
      simp only [Bool.and_eq_true, decide_eq_true_eq] at h
      obtain ⟨⟨⟨h1, h2⟩, h3⟩, h4⟩ := h
      obtain ⟨n1, n2, n3⟩ := okNm_of h3
      obtain ⟨f1, f2⟩ := x.fnm f y h1
      obtain ⟨n, F, hn⟩ := x.cal f f1
      cases xs with
      | nil =>
        cases es with
        | nil =>
          by_cases e : n = 0
          · subst e
            exact Snd.mk1 (sE_call0 F tk (x.glo _ h2) f2 n1) (fun _ => rfl) (fun _ _ _ q => nomatch q)
          · refine Snd.mk1 ⟨fun pins s σ H Q I q => ?_⟩ (fun _ => rfl) (fun _ _ _ q => nomatch q)
            obtain ⟨W, ρ, S, rl, en, q⟩ := q
            have q : Aft G (fun W' v d => RD G W' v d) (fun cls dx H' => Wx cls dx σ H') H W Q (callD C m f [] S) := q
            rw [callD_no fun S => hn [] S (fun z => e z.symm)] at q
            exact q.elim
        | cons a r => simp [ers] at h4
      | cons z zs =>
        have st := ers_stars h4
        simp only [stars, Bool.and_eq_true] at st
        exact Snd.mk1 (sE_call F hn tk (x.glo _ h2) f2 (snds es x tk h4) n1 (star_of st.1 _ _) (stars_of st.2 _ _)) (fun _ => rfl) (fun _ _ _ q => nomatch q)
    · cases h
  | .cv m i es, sc, X, Wx, e, x, tk, h => by
    unfold er at h
    split at h
    · simp only [Bool.and_eq_true, decide_eq_true_eq] at h
      obtain ⟨⟨⟨h1, h2⟩, h3⟩, h4⟩ := h
      obtain ⟨n1, n2, n3⟩ := okNm_of h3
      have st := ers_stars h4
      simp only [stars, Bool.and_eq_true] at st
      exact Snd.mk1 (sE_cv x.cal tk (x.name h1) (x.vis _ h2) (snds es x tk h4) n1 n2 (star_of st.1 _ _) (stars_of st.2 _ _)) (fun _ => rfl) (fun _ _ _ q => nomatch q)
    · cases h
  | .bi m b es, sc, X, Wx, e, x, tk, h => by
    unfold er at h
    split at h
    · simp only [Bool.and_eq_true, beq_iff_eq] at h
      obtain ⟨⟨⟨h1, h2⟩, h3⟩, h4⟩ := h
      subst h1
      have st := ers_stars h4
      simp only [stars, Bool.and_eq_true] at st
      have hb := bi_boot b
      obtain ⟨o1, o2⟩ := bi_ok b
      refine Snd.mk1 ?_ (fun _ => rfl) (fun _ _ _ q => nomatch q)
      have arg := snds es (Wx := Wx) x tk h4
      rcases bi_kind b with ⟨id, e⟩ | ⟨id, e⟩
      · exact sE_biB x.hK x.calm x.units e (x.glo _ h3) (x.bn _ h2) (by rw [hb, e]) o1 o2 arg (star_of st.1 _ _) (stars_of st.2 _ _)
      · exact sE_biT x.hK x.calm x.units e (x.glo _ h3) (x.bn _ h2) (by rw [hb, e]) o1 o2 arg (star_of st.1 _ _) (stars_of st.2 _ _)
    · cases h
  | .isi a c, sc, X, Wx, e, x, tk, h => by
    unfold er at h
    split at h
    · simp only [Bool.and_eq_true, beq_iff_eq] at h
      obtain ⟨⟨⟨⟨⟨⟨h1, h2⟩, h3⟩, h4⟩, h5⟩, h6⟩, h7⟩ := h
      obtain ⟨hc, pc⟩ := erC_ok x h5
      exact Snd.mk1 (sE_isi x.hK hc (x.glo _ h3) h1 (x.bn _ h2) (snd a x tk h4).pe pc (star_of h6 _ _) (star_of h7 _ _) (stars_of (by simp [stars, h7]) _ _)) (fun _ => rfl) (fun _ _ _ q => nomatch q)
    · cases h
  | .lc m el p k es cond, sc, X, Wx, e, x, tk, h => by
    unfold er at h
    split at h
    · rename_i eb tg it ifs scope pos
      simp only [Bool.and_eq_true] at h
      obtain ⟨⟨⟨⟨⟨⟨h1, h2⟩, h3⟩, h4⟩, h5⟩, h7⟩, h6⟩ := h
      refine Snd.mk1 ?_ (fun _ => rfl) (fun _ _ _ q => nomatch q)
      have hk := (blkOk_by h2).kind
      have hi := fun tg h => sndI es (pu := pureE cond && pureE el) (Wx := Wx) x tk h3 tg h
      obtain ⟨tt, ht, htt⟩ : ∃ tt : TT, (∀ (s : Shared) (H : Hp) (Ca : Addr) (cl : List (Str × Addr)) (fp : List Addr), PTs (X.blk s H scope (compEnvC scope cl Ca X.env) fp) ifs tt) ∧ ∀ σ H Q, tTest (tE G (evE B C cond) (fun _ _ _ _ => False)) σ H Q → tt σ H Q := by
        cases ifs with
        | nil =>
          refine ⟨tYes, fun _ _ _ _ _ => pts_nil, fun σ H Q q => ?_⟩
          simp only at h6
          split at h6
          · obtain ⟨W, ρ, S, rl, en, q⟩ := q
            have q : Aft G (fun W' v d => RD G W' v d) (fun cls dx H' => False) H W (fun x H' => ∃ k, x = V.bl k ∧ Q k H') (.ok (.t (.bl true)) S) := q
            obtain ⟨k, e, q⟩ := q (.bl true) H W rl Ext.refl (.t (.bl true))
            cases e; exact q
          · cases h6
        | cons c r =>
          cases r with
          | nil => exact ⟨_, fun s H Ca cl fp => pts_one (snd cond (x.blk hk s H Ca cl fp) takes0 h6).pt, fun _ _ _ q => q⟩
          | cons _ _ => cases h6
      have e := pe_lc (g := gP X.K p) (pos := pos) x.calm (by rw [x.hN]; exact x.nd) (hi tg h7) (x.blkOk h2) (fun s H Ca cl fp => erP_ok (x.blk hk s H Ca cl fp) h1) ht (fun s H Ca cl fp => (snd el (Wx := fun _ _ _ _ => False) (x.blk hk s H Ca cl fp) takes0 h4).pe) (set_of h5 _)
      rw [ownOf_own h1] at e
      exact pe_imp e fun σ H Q q => tLc_ok htt q
    · cases h
  | .frz a, sc, X, Wx, e, x, tk, h => by
    unfold er at h
    have s := snd a (Wx := Wx) x tk h
    exact ⟨pe_imp s.pe fun σ H Q h => tE_frz h, pt_imp s.pt fun σ H Q h => tE_frz h, fun op es p q => pw_imp (s.pw op es p q) fun σ H Q h => tE_frz h⟩
  | .pk f es, sc, X, Wx, e, x, tk, h => by
    unfold er at h
    split at h
    · rename_i y _ z zs _
      simp only [Bool.and_eq_true, decide_eq_true_eq] at h
      obtain ⟨⟨⟨h1, h2⟩, h3⟩, h4⟩ := h
      obtain ⟨n1, n2, n3⟩ := okNm_of h3
      obtain ⟨f1, f2⟩ := x.fnm f y h1
      obtain ⟨n, F, hn⟩ := x.cal f f1
      have st := ers_stars h4
      simp only [stars, Bool.and_eq_true] at st
      exact Snd.mk1 (sE_pk F hn tk (x.glo _ h2) f2 (snds es x tk h4) n1 (star_of st.1 _ _) (stars_of st.2 _ _)) (fun _ => rfl) (fun _ _ _ q => nomatch q)
    · cases h
  | .cald m f es, sc, X, Wx, e, x, tk, h => by
    unfold er at h
    split at h
    · rename_i y _ z zs _
      simp only [Bool.and_eq_true, decide_eq_true_eq] at h
      obtain ⟨⟨⟨h1, h2⟩, h3⟩, h4⟩ := h
      obtain ⟨n1, n2, n3⟩ := okNm_of h3
      obtain ⟨f1, f2⟩ := x.fnm f y h1
      have st := ers_stars h4
      simp only [stars, Bool.and_eq_true] at st
      exact Snd.mk1 (sE_cald (x.dfl f) tk (x.glo _ h2) f2 (snds es x tk h4) n1 (star_of st.1 _ _) (stars_of st.2 _ _)) (fun _ => rfl) (fun _ _ _ q => nomatch q)
    · cases h
  | .ckw m f es kn ie, sc, X, Wx, e, x, tk, h => by
    unfold er at h
    split at h
    · rename_i y _ z zs k ke kp _
      simp only [Bool.and_eq_true, decide_eq_true_eq] at h
      obtain ⟨⟨⟨⟨⟨h0, h1⟩, h2⟩, h3⟩, h4⟩, h5⟩ := h
      subst h0
      obtain ⟨n1, n2, n3⟩ := okNm_of h3
      obtain ⟨f1, f2⟩ := x.fnm f y h1
      have st := ers_stars h4
      have st2 := st
      simp only [stars, Bool.and_eq_true] at st
      exact Snd.mk1 (sE_ckw (x.kwd f) tk (x.glo _ h2) f2 (snds es x tk h4) (snd ie (Wx := Wx) x tk h5).pe n1 (star_of st.1 _ _) (stars_of st2 _ _)) (fun _ => rfl) (fun _ _ _ q => nomatch q)
    · cases h
  | .mpk o f es, sc, X, Wx, e, x, tk, h => by
    unfold er at h
    split at h
    · simp only [Bool.and_eq_true, beq_iff_eq] at h
      obtain ⟨⟨⟨⟨⟨h1, h2⟩, h3⟩, h4⟩, h5⟩, h6⟩ := h
      subst h1
      exact Snd.mk1 (sE_mpk x.cls x.cal tk (snd o x tk h3).pe (snds es (Wx := Wx) x tk h4) (base_of h5 _ _ _) (few_of (ers_stars h4) (of_decide_eq_true h6) _ _) (by simpa using h2) (ers_nil h4) (ers_hd h4)) (fun _ => rfl) (fun _ _ _ q => nomatch q)
    · cases h
  | .mthd m o f es, sc, X, Wx, e, x, tk, h => by
    unfold er at h
    split at h
    · simp only [Bool.and_eq_true, beq_iff_eq] at h
      obtain ⟨⟨⟨⟨⟨h1, h2⟩, h3⟩, h4⟩, h5⟩, h6⟩ := h
      subst h1
      exact Snd.mk1 (sE_mthd x.cls x.dfl tk (snd o x tk h3).pe (snds es (Wx := Wx) x tk h4) (base_of h5 _ _ _) (few_of (ers_stars h4) (of_decide_eq_true h6) _ _) (by simpa using h2) (ers_nil h4) (ers_hd h4)) (fun _ => rfl) (fun _ _ _ q => nomatch q)
    · cases h
  | .cfn m cn f g es, sc, X, Wx, e, x, tk, h => by
    unfold er at h
    split at h
    · simp only [Bool.and_eq_true, beq_iff_eq, decide_eq_true_eq] at h
      obtain ⟨⟨⟨⟨⟨⟨⟨h1, h2⟩, h3⟩, h4⟩, h5⟩, h6⟩, h7⟩, h8⟩ := h
      subst h1 h2
      obtain ⟨n1, n2, n3⟩ := okNm_of h6
      obtain ⟨f1, Ca, m1, k1⟩ := x.cfn _ _ _ h4
      obtain ⟨n, F, hn⟩ := x.cal g f1
      have st := ers_stars h7
      have few := few_of st h8 X.env
      simp only [stars, Bool.and_eq_true] at st
      exact Snd.mk1 (sE_cfn F hn tk (x.glo _ h5) m1 n1 k1 (snds es (Wx := Wx) x tk h7) rfl (few _) (by simp [h3]) (star_of st.1 _ _) (stars_of st.2 _ _)) (fun _ => rfl) (fun _ _ _ q => nomatch q)
    · cases h
  | .iso a c, sc, X, Wx, e, x, tk, h => by
    unfold er at h
    split at h
    · simp only [Bool.and_eq_true, beq_iff_eq, decide_eq_true_eq] at h
      obtain ⟨⟨⟨⟨⟨⟨⟨h1, h2⟩, h3⟩, h4⟩, h5⟩, h6⟩, h7⟩, h8⟩ := h
      obtain ⟨n1, n2, n3⟩ := okNm_of h7
      exact Snd.mk1 (sE_iso x.csb (x.glo _ h3) h1 (x.bn _ h2) (snd a x tk h4).pe (pe_glob (x.glo _ h6) (x.cnm _ _ h5) rfl n1) (star_of h8 _ _) rfl rfl) (fun _ => rfl) (fun _ _ _ q => nomatch q)
    · cases h
  | .eqt a, sc, X, Wx, e, x, tk, h => by
    unfold er at h
    split at h
    · exact ⟨sE_eqt x.hK x.units (snd a x tk h).pe, sT_eqt x.hK x.units (snd a x tk h).pe, fun _ _ _ q => nomatch q⟩
    · cases h
  | .its m i j v, sc, X, Wx, e, x, tk, h => by
    unfold er at h
    split at h
    · rename_i y1 r1 y2 r2 r3 r4 x1 q1 x2 q2 kk tpos z r5 nm p1 p2 scope pos
      simp only [Bool.and_eq_true, beq_iff_eq, decide_eq_true_eq] at h
      obtain ⟨⟨⟨⟨⟨⟨⟨⟨⟨⟨⟨⟨⟨h1, h2⟩, h3⟩, h4⟩, h5⟩, h6⟩, h7⟩, h8⟩, h9⟩, h10⟩, h11⟩, h12⟩, h13⟩, h14⟩ := h
      subst h7
      obtain ⟨n1, n2, n3⟩ := okNm_of h6
      obtain ⟨m1, m2, m3⟩ := okNm_of h11
      obtain ⟨o1, o2, o3⟩ := okNm_of h14
      refine Snd.mk1 ?_ (fun _ => rfl) (fun _ _ _ q => nomatch q)
      have hk := (blkOk_by h2).kind
      have e := pe_lc (elt := .Tuple [.Name y1 r1, .Name y2 r2] r3 r4) (tg := .Tuple [.Name x1 q1, .Name x2 q2] kk tpos) (iter := .Call (.Attribute (.Name z r5) "items" p1) [] [] p2) (g := gP X.K (.tup [i, j])) (tt := tYes) (te := tTup (tCons (tVar j) (tCons (tVar i) tNil))) (pos := pos) x.calm (by rw [x.hN]; exact x.nd) (pi_items (apos := p1) (cpos := p2) (pe_var (x.name h4) (x.vis _ h5) n1 n2) rfl (by simp [h8])) (x.blkOk h2) (fun s H Ca cl fp => erP_ok (x.blk hk s H Ca cl fp) h1) (fun _ _ _ _ _ => pts_nil)
        (fun s H Ca cl fp => pe_tup (pa_cons (pe_var ((x.blk hk s H Ca cl fp).name h9) ((x.blk hk s H Ca cl fp).vis _ h10) m1 m2) (pa_cons (pe_var ((x.blk hk s H Ca cl fp).name h12) ((x.blk hk s H Ca cl fp).vis _ h13) o1 o2) pa_nil))) (fun _ => rfl)
      rw [ownOf_own h1] at e
      exact pe_imp (pe_lock e) fun σ H Q q => tIts_ok h3 q
    · cases h
  | .sky m f a, sc, X, Wx, e, x, tk, h => by
    unfold er at h
    split at h
    · simp only [Bool.and_eq_true, beq_iff_eq, decide_eq_true_eq] at h
      obtain ⟨⟨⟨⟨⟨⟨⟨⟨h1, h2⟩, h3⟩, h4⟩, h5⟩, h6⟩, h7⟩, h8⟩, h9⟩ := h
      subst h1 h2
      obtain ⟨n1, n2, n3⟩ := okNm_of h7
      obtain ⟨f1, f2⟩ := x.fnm f _ h5
      exact Snd.mk1 (sE_sky x.cal f1 x.units (x.glo _ h4) (x.bn _ h3) (pe_glob (x.glo _ h6) f2 rfl n1) (snd a x tk h8).pe (star_of h9 _ _)) (fun _ => rfl) (fun _ _ _ q => nomatch q)
    · cases h
  | .skl a, sc, X, Wx, e, x, tk, h => by
    unfold er at h
    split at h
    · simp only [Bool.and_eq_true, beq_iff_eq] at h
      obtain ⟨⟨⟨⟨⟨⟨⟨h1, h2⟩, h3⟩, h4⟩, h5⟩, h6⟩, h7⟩, h8⟩ := h
      subst h1 h2
      obtain ⟨y, ls, x0, x1, x2, x3, x4, x5, x6, hp, lp, rfl, Sc, hn, hs⟩ := lamB_ok h6
      obtain ⟨n1, n2, n3⟩ := okNm_of hn
      exact Snd.mk1 (sE_skl (x.lam h5) x.hK x.units (x.glo _ h4) (x.bn _ h3) (snd a x tk h7).pe Sc n1 n2 hs (star_of h8 _ _)) (fun _ => rfl) (fun _ _ _ q => nomatch q)
    · cases h
  | .lrg a, sc, X, Wx, e, x, tk, h => by
    unfold er at h
    split at h
    · simp only [Bool.and_eq_true, beq_iff_eq] at h
      obtain ⟨⟨⟨⟨⟨⟨⟨h1, h2⟩, h3⟩, h4⟩, h5⟩, h6⟩, h7⟩, h8⟩ := h
      subst h1 h2
      exact Snd.mk1 (sE_lrg x.calm (x.glo _ h4) (x.bn _ h3) (x.glo _ h6) (x.bn _ h5) (snd a x tk h7).pe (star_of h8 _ _)) (fun _ => rfl) (fun _ _ _ q => nomatch q)
    · cases h
theorem snds : ∀ (ies : IEs) {sc : Scope} {X : Cx} {Wx : WX} {es : List Expr}, XOk t G B C N sc X → Takes X Wx → ers t N ies sc es = true → PAv G X B C Wx es ies
  | .nil, sc, X, Wx, es, x, tk, h => by
    unfold ers at h
    split at h
    · exact sA_nil
    · cases h
  | .cons a r, sc, X, Wx, es, x, tk, h => by
    unfold ers at h
    split at h
    · simp only [Bool.and_eq_true] at h
      exact sA_cons (snd a x tk h.1.1).pe (snds r x tk h.2) (star_of h.1.2 _ _)
    · cases h
theorem sndD : ∀ (ies : IEs) {sc : Scope} {X : Cx} {Wx : WX} {ks : List (Option Expr)} {vs : List Expr}, XOk t G B C N sc X → Takes X Wx → erD t N ies sc ks vs = true → ∀ pos : Pos,
    PPs X pos ks vs (trsOf G B C Wx ies) ∧ ks.all (·.isSome) = true ∧ ks.length = vs.length ∧ 2 * ks.length = lenIEs ies
  | .nil, sc, X, Wx, ks, vs, x, tk, h => by
    unfold erD at h
    split at h
    · exact fun pos => ⟨pps_nil, rfl, rfl, rfl⟩
    · cases h
  | .cons _ .nil, sc, X, Wx, ks, vs, x, tk, h => by unfold erD at h; cases h
  | .cons a (.cons b r), sc, X, Wx, ks, vs, x, tk, h => by
    unfold erD at h
    split at h
    · simp only [Bool.and_eq_true] at h
      intro pos
      obtain ⟨p1, p2, p3, p4⟩ := sndD r (Wx := Wx) x tk h.2 pos
      exact ⟨pps_cons (snd a x tk h.1.1).pe (snd b x tk h.1.2).pe p1, by simp [p2], by simp [p3], by simp [lenIEs]; omega⟩
    · cases h
theorem sndI : ∀ (ies : IEs) {pu : Bool} {k : Ik} {sc : Scope} {X : Cx} {Wx : WX} {it : Expr}, XOk t G B C N sc X → Takes X Wx → erI t N ies k sc it = true → ∀ tg, tupTg k tg = true → PI X tg it (tI G B C Wx pu k ies)
  | .nil, pu, k, sc, X, Wx, it, x, tk, h => by unfold erI at h; cases h
  | .cons a r, pu, k, sc, X, Wx, it, x, tk, h => by
    unfold erI at h
    split at h
    · exact fun tg _ => sI_seq x.hK (snd a x tk h).pe
    · split at h
      · simp only [Bool.and_eq_true, beq_iff_eq] at h
        obtain ⟨⟨⟨⟨h1, h2⟩, h3⟩, h4⟩, h5⟩ := h
        subst h1
        exact fun tg _ => sI_rng (x.glo _ h3) (x.bn _ h2) (snd a x tk h4).pe (star_of h5 _ _)
      · cases h
    · split at h
      · rename_i b _ _ _ _ _ _
        simp only [Bool.and_eq_true, beq_iff_eq] at h
        obtain ⟨⟨⟨⟨⟨⟨h1, h2⟩, h3⟩, h4⟩, h5⟩, h6⟩, h7⟩ := h
        subst h1
        exact fun tg _ => sI_rng2 (x.glo _ h3) (x.bn _ h2) (sA_cons (snd a x tk h4).pe (sA_cons (snd _ x tk h6).pe sA_nil (star_of h7 _ _)) (star_of h5 _ _)) (by rw [star_of h5, star_of h7]; rfl) (star_of h7 _ _) rfl
      · cases h
    · split at h
      · rename_i b c _ _ _ _ _ _
        simp only [Bool.and_eq_true, beq_iff_eq] at h
        obtain ⟨⟨⟨⟨⟨⟨⟨⟨h1, h2⟩, h3⟩, h4⟩, h5⟩, h6⟩, h7⟩, h8⟩, h9⟩ := h
        subst h1
        exact fun tg _ => sI_rng3 (x.glo _ h3) (x.bn _ h2) (sA_cons (snd a x tk h4).pe (sA_cons (snd _ x tk h6).pe (sA_cons (snd _ x tk h8).pe sA_nil (star_of h9 _ _)) (star_of h7 _ _)) (star_of h5 _ _)) (star_of h5 _ _) (by rw [star_of h7, star_of h9]; rfl) rfl
      · cases h
    · split at h
      · simp only [Bool.and_eq_true, beq_iff_eq] at h
        obtain ⟨⟨⟨⟨h1, h2⟩, h3⟩, h4⟩, h5⟩ := h
        subst h1
        intro tg ht
        cases tg with
        | Tuple elts kk tp => exact sI_enu x.hK (x.glo _ h3) (x.bn _ h2) (snd a x tk h4).pe (star_of h5 _ _)
        | _ => cases ht
      · cases h
    · split at h
      · rename_i b _ _ _ _ _ _
        simp only [Bool.and_eq_true, beq_iff_eq] at h
        obtain ⟨⟨⟨⟨⟨⟨h1, h2⟩, h3⟩, h4⟩, h5⟩, h6⟩, h7⟩ := h
        subst h1
        intro tg ht
        cases tg with
        | Tuple elts kk tp => exact sI_zip x.hK (x.glo _ h3) (x.bn _ h2) (sA_cons (snd a x tk h4).pe (sA_cons (snd _ x tk h6).pe sA_nil (star_of h7 _ _)) (star_of h5 _ _)) (star_of h5 _ _) (stars_of (by simp [stars, h7]) _ _)
        | _ => cases ht
      · cases h
    · cases h
end
/-! ### statements -/
end
def isName : Expr → Bool
  | .Name _ _ => true
  | _ => false
/-- a comprehension given to a name on one line: stored within -/
def swB (sc : Scope) : Expr → Expr → Bool
  | .Name y py, .ListComp _ _ scope lp => (sc.names.lookup y == some .local) && (py.line == lp.line) && !(scope.names.any fun (n, k) => n == y && (k == .local || k == .cell))
  | _, _ => false
/-- .. not stored within: the name is a cell, stands on another line, or is one of the comprehension's own -/
def swC (sc : Scope) : Expr → Expr → Bool
  | .Name y py, .ListComp _ _ scope lp => !((sc.names.lookup y == some .local) && (py.line == lp.line) && !(scope.names.any fun (n, k) => n == y && (k == .local || k == .cell)))
  | _, _ => false
/-- x, y = a, b with two local names -/
def parB (sc : Scope) : Pt → IE → Expr → Expr → Bool
  | .tup [_, _], .tup (.cons _ (.cons _ .nil)), .Tuple [.Name x px, .Name y py] _ _, .Tuple [a, b] _ _ => !(x == y) && (sc.names.lookup x == some .local) && (sc.names.lookup y == some .local) && (py.line == px.line) && !(foldedForSure 8 a && foldedForSure 8 b) && !(constantsAlone 8 a && constantsAlone 8 b) && notStar a && notStar b
  | _, _, _, _ => false
theorem par_sw {x y : Str} {px py pt : Pos} {kt k2 pt2} {a b : Expr} {env : Env} (hk : env.scope.kind = .function) (hxy : (x == y) = false) (hx : env.scope.names.lookup x = some .local) (hy : env.scope.names.lookup y = some .local) (hp : (py.line == px.line) = true)
    (hf : (foldedForSure 8 a && foldedForSure 8 b) = false) (hcs : (constantsAlone 8 a && constantsAlone 8 b) = false) (sa : notStar a = true) (sb : notStar b = true) : swappedStores [.Tuple [.Name x px, .Name y py] kt pt] (.Tuple [a, b] k2 pt2) env = pure (some [x, y]) := by
  have e1 : env.blockKind = .function := by unfold Env.blockKind; rw [hk]; rfl
  have e2 : env.kindOf x = some .local := hx
  have e3 : env.kindOf y = some .local := hy
  have s1 : ∀ e : Expr, notStar e = true → (match e with | .Starred .. => true | _ => false) = false := fun e h => by cases e <;> first | rfl | cases h
  have hyx : (y == x) = false := by
    refine Bool.eq_false_iff.mpr fun h => ?_
    rw [eq_of_beq h] at hxy
    simp at hxy
  have f1 : ([a, b].any fun e => match e with | .Starred .. => true | _ => false) = false := by
    rw [List.any_cons, List.any_cons, s1 a sa, s1 b sb]; rfl
  have f2 : [a, b].all (foldedForSure 8) = false := by rw [List.all_cons, List.all_cons, List.all_nil, Bool.and_true]; exact hf
  have f3 : [a, b].all (constantsAlone 8) = false := by rw [List.all_cons, List.all_cons, List.all_nil, Bool.and_true]; exact hcs
  have ed : [x, y].eraseDups = [x, y] := by
    simp [List.eraseDups_cons, hxy, hyx, List.filter]
  have hpx : (px.line == px.line) = true := beq_self_eq_true _
  unfold swappedStores
  simp only [List.length_cons, List.length_nil, e1, f1, f2, f3, List.head?_cons, Option.map_some, Option.getD_some, Expr.pos, List.filterMap_cons, List.filterMap_nil, e2, e3, hp, hpx, beq_self_eq_true, Bool.and_self, if_true, ed, Bool.false_eq_true, if_false]
  clear f1 f2 f3 hf hcs
  rw [if_neg, if_neg, if_neg]
  · decide
  · rw [Bool.not_eq_true]
    simp only [List.any_cons, List.any_nil, Bool.or_false, Bool.or_eq_false_iff]
    constructor
    · cases a <;> first | rfl | cases sa
    · cases b <;> first | rfl | cases sb
  · decide
theorem swC_of {tg e : Expr} {env : Env} (h : swC env.scope tg e = true) (l : Nat) : swapsWithSole [tg] e l env = pure false := by
  unfold swC at h
  split at h
  · rename_i y py eb gs scope lp
    have e1 : swapsWithSole [.Name y py] (.ListComp eb gs scope lp) l env = pure (env.blockKind == .function && env.kindOf y == some .local && py.line == lp.line && !(scope.names.any fun (n, k) => n == y && (k == .local || k == .cell))) := rfl
    rw [e1]
    have e2 : (env.blockKind == .function && env.kindOf y == some .local && py.line == lp.line && !(scope.names.any fun (n, k) => n == y && (k == .local || k == .cell))) = false := by
      have e3 : env.kindOf y = env.scope.names.lookup y := rfl
      rw [e3]
      rw [Bool.not_eq_true'] at h
      cases env.blockKind == .function
      · rfl
      · rw [Bool.true_and]; exact h
    rw [e2]
  · cases h
section
variable (t : Tx) (N : List Str)
mutual
def erS : IS → Scope → Stmt → Bool
  | .asg p e, sc, st => (match st with
    | .Assign [tg] v _ => erP N sc p tg && er t N e sc v && (notTup v || isName tg || parB sc p e tg v) && (notLc v || swC sc tg v || (isName tg && swB sc tg v && (match e with | .lc _ _ _ _ _ _ => true | _ => false)))
    | _ => false)
  | .ex e, sc, st => (match st with
    | .Expr v _ => er t N e sc v && notLc v
    | _ => false)
  | .ret e, sc, st => (match st with
    | .Return (some v) _ => er t N e sc v
    | _ => false)
  | .retN, sc, st => (match st with
    | .Return none _ => true
    | _ => false)
  | .ite c a b, sc, st => (match st with
    | .If x y z _ => er t N c sc x && erSs a sc y && erSs b sc z
    | _ => false)
  | .wh c b, sc, st => (match st with
    | .While x y [] _ => er t N c sc x && erSs b sc y
    | _ => false)
  | .fo p k es b, sc, st => (match st with
    | .For tg it y [] _ => erP N sc p tg && erI t N es k sc it && notSet it && tupTg k tg && erSs b sc y
    | _ => false)
  | .fol p e b, sc, st => (match st with
    | .For tg it y [] _ => erP N sc p tg && erI t N (.cons e .nil) .seq sc it && notSet it && tupTg .seq tg && erSs b sc y
    | _ => false)
  | .brk, _, st => (match st with
    | .Break _ => true
    | _ => false)
  | .cnt, _, st => (match st with
    | .Continue _ => true
    | _ => false)
  | .pas, _, st => (match st with
    | .Pass _ => true
    | _ => false)
  | .rse c es, sc, st => (match es with
    | .nil => (match st with
      | .Raise (some (.Call (.Name x _) [.Constant (.str _) _ _] [] _)) none _ => decide (t.xnm c = some x) && t.xpl c && gloB sc x && okNm x
      | _ => false)
    | _ => false)
  | .sti o i e, sc, st => (match st with
    | .Assign [.Subscript x y _] v _ => er t N o sc x && er t N i sc y && er t N e sc v && notSl y && notLc v
    | _ => false)
  | .sta o f e, sc, st => (match st with
    | .Assign [.Attribute x nm _] v _ => nm == f && er t N o sc x && er t N e sc v && notLc v
    | _ => false)
  | .tr b c v h el, sc, st => (match st with
    | .Try bd [.ExceptHandler (some (.Name x _)) nm (b0 :: suite) _] orelse [] _ => decide (t.xnm c = some x) && gloB sc x && okNm x && erSs b sc bd && erHSs t N v h sc (b0 :: suite) && (match v with
      | none => nm.isNone && erSs el sc orelse
      | some i => (match nm with
        | some n => decide (N[i]? = some n) && (sc.names.lookup n == some .local)
        | none => false) && orelse.isEmpty && (match el with | .nil => true | _ => false))
    | _ => false)
  | .stk, _, _ => true
def erSs : ISs → Scope → List Stmt → Bool
  | .nil, _, ss => (match ss with
    | [] => true
    | _ => false)
  | .cons i r, sc, ss => (match ss with
    | s :: rest => erS i sc s && erSs r sc rest
    | _ => false)
end
end
section
variable {t : Tx} {G : Gd} {B : Tb} {C : Cal} {N : List Str} {sc : Scope} {X : Cx} {Wx : WX}
theorem lcParts {m : Bool} {el cond : IE} {p : Pt} {k : Ik} {es : IEs} {e : Expr} (x : XOk t G B C N sc X) (tk : Takes X Wx) (h : er t N (.lc m el p k es cond) sc e = true) :
    ∃ eb tg it ifs scope pos tt, e = .ListComp eb [⟨tg, it, ifs, 0⟩] scope pos ∧ PI X tg it (tI G B C Wx (pureE cond && pureE el) k es) ∧ BlkOk X.N X.env.scope scope (ownOf p tg) ∧
      (∀ (s : Shared) (H : Hp) (Ca : Addr) (cl : List (Str × Addr)) (fp : List Addr), PG (X.blk s H scope (compEnvC scope cl Ca X.env) fp) tg (gP X.K p)) ∧
      (∀ (s : Shared) (H : Hp) (Ca : Addr) (cl : List (Str × Addr)) (fp : List Addr), PTs (X.blk s H scope (compEnvC scope cl Ca X.env) fp) ifs tt) ∧
      (∀ (s : Shared) (H : Hp) (Ca : Addr) (cl : List (Str × Addr)) (fp : List Addr), PE (X.blk s H scope (compEnvC scope cl Ca X.env) fp) eb (tE G (evE B C el) (fun _ _ _ _ => False))) ∧
      (∀ y, foldedSetIterable it X.env y = pure y) ∧ (∀ σ H Q, tTest (tE G (evE B C cond) (fun _ _ _ _ => False)) σ H Q → tt σ H Q) ∧ (ownOf p tg).map (·.2) = p.own := by
  unfold er at h
  split at h
  · rename_i eb tg it ifs scope pos
    simp only [Bool.and_eq_true] at h
    obtain ⟨⟨⟨⟨⟨⟨h1, h2⟩, h3⟩, h4⟩, h5⟩, h7⟩, h6⟩ := h
    have hk := (blkOk_by h2).kind
    have hi := fun tg h => sndI es (pu := pureE cond && pureE el) (Wx := Wx) x tk h3 tg h
    obtain ⟨tt, ht, htt⟩ : ∃ tt : TT, (∀ (s : Shared) (H : Hp) (Ca : Addr) (cl : List (Str × Addr)) (fp : List Addr), PTs (X.blk s H scope (compEnvC scope cl Ca X.env) fp) ifs tt) ∧ ∀ σ H Q, tTest (tE G (evE B C cond) (fun _ _ _ _ => False)) σ H Q → tt σ H Q := by
      cases ifs with
      | nil =>
        refine ⟨tYes, fun _ _ _ _ _ => pts_nil, fun σ H Q q => ?_⟩
        simp only at h6
        split at h6
        · obtain ⟨W, ρ, S, rl, en, q⟩ := q
          have q : Aft G (fun W' v d => RD G W' v d) (fun cls dx H' => False) H W (fun x H' => ∃ k, x = V.bl k ∧ Q k H') (.ok (.t (.bl true)) S) := q
          obtain ⟨k, e, q⟩ := q (.bl true) H W rl Ext.refl (.t (.bl true))
          cases e; exact q
        · cases h6
      | cons c r =>
        cases r with
        | nil => exact ⟨_, fun s H Ca cl fp => pts_one (snd cond (x.blk hk s H Ca cl fp) takes0 h6).pt, fun _ _ _ q => q⟩
        | cons _ _ => cases h6
    exact ⟨eb, tg, it, ifs, scope, pos, tt, rfl, hi tg h7, x.blkOk h2, fun s H Ca cl fp => erP_ok (x.blk hk s H Ca cl fp) h1, ht, fun s H Ca cl fp => (snd el (Wx := fun _ _ _ _ => False) (x.blk hk s H Ca cl fp) takes0 h4).pe, set_of h5 _, htt, ownOf_own h1⟩
  · cases h
theorem swB_lc {tg e : Expr} (h : swB sc tg e = true) : ∃ y py eb gs scope lp, tg = .Name y py ∧ e = .ListComp eb gs scope lp ∧ sc.names.lookup y = some .local ∧ (py.line == lp.line) = true ∧ (scope.names.any fun (n, k) => n == y && (k == .local || k == .cell)) = false := by
  unfold swB at h
  split at h
  · simp only [Bool.and_eq_true, beq_iff_eq, Bool.not_eq_true'] at h
    exact ⟨_, _, _, _, _, _, rfl, rfl, h.1.1, by simp [h.1.2], h.2⟩
  · cases h
theorem erP_shape {p : Pt} {tg : Expr} (h : erP N sc p tg = true) (env : Env) : (assignEach [tg] env).map (·.2) = [assign tg env] := by
  cases p <;> cases tg <;> first | rfl | simp [erP] at h
def tSu (G : Gd) (B : Tb) (v : Option Nat) (h : HSs) (a : Addr) (cls : Value) (d : Option Addr) : TS := fun D σ H => d = none ∧ tHS G v a cls (fun k => evHSs B k h) D σ H
theorem trX_ok {k c : Nat} {fs : List (Str × T)} {v : Option Nat} {h : HSs} {ρ1 : Ev} {S1 : Sto} {D D' : Ends} {H H1 : Hp} {W W1 : Wd} {σ' : L2.St} {cls : Value} {dx : Option Addr} (x : XOk t G B C N sc X) (q : AftS G Wx D H W (trX B k fs c v h ρ1 S1)) (r1 : Rel G H1 W1 S1) (x1 : Ext H W H1 W1) (e1 : REn G W1 σ' ρ1) (k1 : ExR G H1 W1 k fs cls dx)
    (hrt : ∀ w H, D.rt w H → D'.rt w H) (hnx : ∀ σ2 H2 W2 ρ2, REn G W2 σ2 ρ2 → (∀ σ3, REn G W2 σ3 (hide v ρ2) → D.nx σ3 H2) → D'.nx σ2 H2) :
    ∃ b, PySem.W.exmOne X.K cls (.ref (G.ca c)) = some b ∧ (b = true → okV v ρ1 = true ∧ ∀ a σ2, REn G W1 σ2 (Wc.hide v ρ1) → SlotIs v a σ2 → tSu G B v h a cls dx D' σ2 H1) ∧ (b = false → Wx cls dx σ' H1) := by
  have hc := k1.1
  cases fs with
  | nil =>
    have hd : dx = none := k1.2
    unfold trX at q
    cases eb : B.xsub k (.own c) with
    | none => rw [eb] at q; exact q.elim
    | some b =>
      rw [eb] at q
      cases b with
      | false => exact ⟨false, by rw [hc]; exact x.exm _ _ _ eb, (fun z => nomatch z), fun _ => q cls dx σ' H1 W1 r1 x1 e1 k1⟩
      | true =>
        simp only at q
        by_cases ho : okV v ρ1 = true
        case neg => rw [if_neg ho] at q; exact q.elim
        rw [if_pos ho] at q
        refine ⟨true, by rw [hc]; exact x.exm _ _ _ eb, fun _ => ⟨ho, fun a σ2 en2 s2 => ⟨hd, k, W1, _, S1, hc, s2, r1, en2, ?_⟩⟩, fun z => nomatch z⟩
        show AftH G v a D' H1 W1 (evHSs B k h (Wc.hide v ρ1) S1)
        cases e : evHSs B k h (Wc.hide v ρ1) S1 with
        | nx ρ2 S2 => rw [e] at q; exact fun σ3 H3 W3 r3 x3 e3 s3 => hnx σ3 H3 W3 ρ2 e3 fun σ4 e4 => q σ4 H3 W3 r3 (x1.trans x3) e4
        | rt d S2 => rw [e] at q; exact fun w H3 W3 r3 x3 k3 => hrt _ _ (q w H3 W3 r3 (x1.trans x3) k3)
        | bk ρ2 S2 => rw [e] at q; exact q.elim
        | ct ρ2 S2 => rw [e] at q; exact q.elim
        | ex c' fs' ρ2 S2 => rw [e] at q; exact q.elim
        | no => rw [e] at q; exact q.elim
  | cons f r =>
    unfold trX at q
    cases eb : B.xsub k (.own c) with
    | none => rw [eb] at q; exact q.elim
    | some b =>
      rw [eb] at q
      cases b with
      | true => exact q.elim
      | false => exact ⟨false, by rw [hc]; exact x.exm _ _ _ eb, (fun z => nomatch z), fun _ => q cls dx σ' H1 W1 r1 x1 e1 k1⟩
mutual
theorem sndS : ∀ (i : IS) {X : Cx} {Wx : WX} {st : Stmt}, XOk t G B C N sc X → DefX X sc → PassesOwn (model X.prog X.w) X.A X.env X.xe → Takes X Wx → erS t N i sc st = true → PSv G X B C Wx st i
  | .asg p e, X, Wx, st, x, hsc, hp, tk, h => by
    unfold erS at h
    split at h
    · rename_i tg v pos
      simp only [Bool.and_eq_true, Bool.or_eq_true] at h
      obtain ⟨⟨⟨h1, h2⟩, h3⟩, h4⟩ := h
      have hg := erP_ok x h1
      rcases h3 with h30 | h3
      rotate_left
      · unfold parB at h3
        split at h3
        · rename_i i j ia ib x0 px y0 py _ _ a b _ _
          simp only [Bool.and_eq_true, beq_iff_eq, Bool.not_eq_true'] at h3
          obtain ⟨⟨⟨⟨⟨⟨⟨c1, c2⟩, c3⟩, c4⟩, c5⟩, c6⟩, c7⟩, c8⟩ := h3
          have hN : N[i]? = some x0 ∧ N[j]? = some y0 := by
            have h1' : (decide (N[i]? = some x0) && stoB sc x0 && (decide (N[j]? = some y0) && stoB sc y0 && true)) = true := h1
            simp only [Bool.and_eq_true, decide_eq_true_eq] at h1'
            exact ⟨h1'.1.1, h1'.2.1.1⟩
          have hpa : PAv G X B C Wx [a, b] (.cons ia (.cons ib .nil)) := by
            unfold er at h2
            simp only [Bool.and_eq_true] at h2
            exact snds _ x tk (by first | exact h2.1 | exact h2)
          exact sS_par x.calm (by rw [x.hN]; exact x.nd) (x.name hN.1) (x.name hN.2) (fun e => by subst e; rw [hN.1] at hN; cases hN.2; simp at c1) (by rw [hsc.sc]; exact c2) (by rw [hsc.sc]; exact c3) hpa (par_sw x.kind c1 (by rw [hsc.sc]; exact c2) (by rw [hsc.sc]; exact c3) (by simp [c4]) c5 c6 c7 c8)
        · cases h3
      have h3 := h30
      have hw : swappedStores [tg] v X.env = pure none := by
        rcases h3 with h3 | h3
        · exact swp_tup h3 _
        · cases tg with
          | Name y py => exact swp_name _
          | _ => cases h3
      rcases h4 with (h4 | h4) | ⟨⟨h4, h5⟩, h6⟩
      · exact sS_asg (snd e x tk h2).pe hg (swS_of h4 _ _ _) hw (erP_shape h1 _)
      · exact sS_asg (snd e x tk h2).pe hg (swC_of (by rw [hsc.sc]; exact h4) _) hw (erP_shape h1 _)
      · cases e with
        | lc m el q k es cond =>
          obtain ⟨y, py, eb0, gs, scope0, lp, rfl, rfl, l1, l2, l3⟩ := swB_lc h5
          obtain ⟨eb, tg2, it, ifs, scope, lpos, tt, e1, hi, ok, hgg, ht, he, hs, htt, ho⟩ := lcParts x tk h2
          cases e1
          cases p with
          | tup is => simp [erP] at h1
          | nst i js => simp [erP] at h1
          | v i =>
            simp only [erP, Bool.and_eq_true, decide_eq_true_eq] at h1
            have hy : X.env.scope.names.lookup y = some .local := by rw [hsc.sc]; exact l1
            refine ps_imp (ps_setLc (i := i) x.calm (by rw [x.hN]; exact x.nd) (x.name h1.1) hy (sw_true x.kind hy l2 l3) hi ok hgg ht he hs) fun D σ H ⟨W, ρ, S, rl, en, qq⟩ => ?_
            rw [evS_asg] at qq
            rw [ho]
            have r := stE_at rl en qq
            refine tLc_ok htt (tE_imp r fun v H1 ⟨d, S1, W1, r1, x1, e1, k1, a1⟩ => ?_)
            exact a1 _ H1 W1 r1 Ext.refl (e1.set k1 i)
        | _ => cases h6
    · cases h
  | .ex e, X, Wx, st, x, hsc, hp, tk, h => by
    unfold erS at h
    split at h
    · simp only [Bool.and_eq_true] at h
      exact sS_ex (snd e x tk h.1).pe (swN_of h.2 _ _)
    · cases h
  | .ret e, X, Wx, st, x, hsc, hp, tk, h => by
    unfold erS at h
    split at h
    · exact sS_ret (snd e x tk h).pe
    · cases h
  | .retN, X, Wx, st, x, hsc, hp, tk, h => by
    unfold erS at h
    split at h
    · exact sS_retN
    · cases h
  | .ite c a b, X, Wx, st, x, hsc, hp, tk, h => by
    unfold erS at h
    split at h
    · simp only [Bool.and_eq_true] at h
      exact sS_ite (snd c x tk h.1.1).pt (sndSs a x hsc hp tk h.1.2) (sndSs b x hsc hp tk h.2)
    · cases h
  | .wh c b, X, Wx, st, x, hsc, hp, tk, h => by
    unfold erS at h
    split at h
    · simp only [Bool.and_eq_true] at h
      exact sS_wh hp (snd c x tk h.1).pt (sndSs b x hsc hp tk h.2)
    · cases h
  | .fo p k es b, X, Wx, st, x, hsc, hp, tk, h => by
    unfold erS at h
    split at h
    · simp only [Bool.and_eq_true] at h
      obtain ⟨⟨⟨⟨h1, h2⟩, h3⟩, h5⟩, h4⟩ := h
      exact sS_fo hp x.calm (sndI es x tk h2 _ h5) (erP_ok x h1) (sndSs b x hsc hp tk h4) (set_of h3 _)
    · cases h
  | .fol p e b, X, Wx, st, x, hsc, hp, tk, h => by
    unfold erS at h
    split at h
    · simp only [Bool.and_eq_true] at h
      obtain ⟨⟨⟨⟨h1, h2⟩, h3⟩, h5⟩, h4⟩ := h
      exact sS_fol hp x.calm (sndI (.cons e .nil) x tk h2 _ h5) (erP_ok x h1) (sndSs b x hsc hp tk h4) (set_of h3 _)
    · cases h
  | .brk, X, Wx, st, x, hsc, hp, tk, h => by
    unfold erS at h
    split at h
    · exact sS_brk
    · cases h
  | .cnt, X, Wx, st, x, hsc, hp, tk, h => by
    unfold erS at h
    split at h
    · exact sS_cnt
    · cases h
  | .pas, X, Wx, st, x, hsc, hp, tk, h => by
    unfold erS at h
    split at h
    · exact sS_pas
    · cases h
  | .rse c es, X, Wx, st, x, hsc, hp, tk, h => by
    unfold erS at h
    split at h
    · split at h
      · simp only [Bool.and_eq_true, decide_eq_true_eq] at h
        obtain ⟨⟨⟨h1, h2⟩, h3⟩, h4⟩ := h
        obtain ⟨n1, n2, n3⟩ := okNm_of h4
        have p := x.xpl _ h2
        exact ps_imp (ps_raise x.calm tk (pmk_own PySem.F.excBase_ValueError p.ex (x.xnm _ _ h1) p.kp (raises_own p.sb p.ty) (x.glo _ h3) n1)) fun D σ H ⟨W, ρ, S, rl, en, q⟩ => by
          have q : AftS G Wx D H W (.ex c [] ρ S) := q
          exact q _ none σ H W rl Ext.refl en ⟨rfl, rfl⟩
      · cases h
    · cases h
  | .sti o i e, X, Wx, st, x, hsc, hp, tk, h => by
    unfold erS at h
    split at h
    · simp only [Bool.and_eq_true] at h
      obtain ⟨⟨⟨⟨h1, h2⟩, h3⟩, h4⟩, h5⟩ := h
      exact sS_sti x.hK (by have := x.units; omega) (snd e x tk h3).pe (snd o x tk h1).pe (snd i x tk h2).pe (swS_of h5 _ _ _) (swp_sub _) (asgSub_of h4 _)
    · cases h
  | .stk, X, Wx, st, x, hsc, hp, tk, h => ⟨fun pins s σ H D I h => by obtain ⟨W, ρ, S, rl, en, q⟩ := h; exact q.elim⟩
  | .sta o f e, X, Wx, st, x, hsc, hp, tk, h => by
    unfold erS at h
    split at h
    · simp only [Bool.and_eq_true, beq_iff_eq] at h
      obtain ⟨⟨⟨h1, h2⟩, h3⟩, h4⟩ := h
      subst h1
      exact sS_sta x.cls (snd e x tk h3).pe (snd o x tk h2).pe (swF_of h4 _ _ _)
    · cases h
  | .tr b c v h0 el, X, Wx, st, x, hsc, hp, tk, h => by
    unfold erS at h
    split at h
    · rename_i bd x0 np nm b0 suite hpos orelse pos
      simp only [Bool.and_eq_true, decide_eq_true_eq] at h
      obtain ⟨⟨⟨⟨⟨h1, h2⟩, h3⟩, h4⟩, h5⟩, h6⟩ := h
      obtain ⟨n1, n2, n3⟩ := okNm_of h3
      have hb : ∀ (W : WX) (pn : List (Addr × Obj)) (xe : Value → Shared → Prop), Takes (X.tr pn xe) W → PassesOwn (model X.prog X.w) X.A X.env xe → PSs (X.tr pn xe) bd (tS G (evSs B C b) W) := fun W pn xe tk' hp' =>
        sndSs b (x.tr pn xe) ⟨hsc.sc, hsc.st, hsc.fr⟩ hp' tk' h4
      have hsu : ∀ (a : Addr) (oe : Obj) (cls : Value) (d : Option Addr) (pn : List (Addr × Obj)), Zc cls d oe → (∃ vs, oe.data = .fields vs) → PSs (X.suite a ((a, oe) :: pn)) (b0 :: suite) (tSu G B v h0 a cls d) := fun a oe cls d pn hz hf => by
        cases d with
        | none => exact pss_imp (sndHSs (x.hot pn hz hf) h0 h5) fun D σ H q => q.2
        | some d => exact ⟨fun pins s σ H D I q => nomatch q.1⟩
      have hc : Names X x0 (.ref (G.ca c)) := ⟨x.glo _ h2, n1, .inl (x.xnm _ _ h1)⟩
      cases v with
      | none =>
        simp only [Bool.and_eq_true] at h6
        cases nm with
        | some _ => cases h6.1
        | none =>
          refine ps_imp (ps_try_onlyE (u := tS G (evSs B C el) Wx) (sndSs el x hsc hp tk h6.2) hsc.st hsc.fr hc tk hb hsu) fun D σ H ⟨W, ρ, S, rl, en, q⟩ => ?_
          refine ⟨W, ρ, S, rl, en, ?_⟩
          have q : AftS G Wx D H W (match evSs B C b ρ S with | .ex k fs ρ1 S1 => trX B k fs c none h0 ρ1 S1 | .nx ρ1 S1 => evSs B C el ρ1 S1 | r => r) := q
          cases e : evSs B C b ρ S with
          | nx ρ1 S1 => rw [e] at q; exact fun σ' H1 W1 r1 x1 e1 => ⟨W1, ρ1, S1, r1, e1, AftS.move q x1⟩
          | rt d S1 => rw [e] at q; exact q
          | bk ρ1 S1 => rw [e] at q; exact q
          | ct ρ1 S1 => rw [e] at q; exact q
          | no => rw [e] at q; exact q
          | ex k fs ρ1 S1 =>
            rw [e] at q
            intro cls dx σ' H1 W1 r1 x1 e1 k1
            obtain ⟨b1, eb, hy, hn⟩ := trX_ok (D' := D) x q r1 x1 e1 k1 (fun _ _ z => z) (fun σ2 H2 W2 ρ2 e g => g σ2 e)
            exact ⟨b1, eb, fun hb1 a _ => (hy hb1).2 a σ' e1 (fun i hi => nomatch hi), hn⟩
      | some i =>
        simp only [Bool.and_eq_true] at h6
        obtain ⟨⟨h6, h7⟩, h8⟩ := h6
        cases nm with
        | none => cases h6
        | some n =>
          simp only [Bool.and_eq_true, decide_eq_true_eq, beq_iff_eq] at h6
          cases orelse with
          | cons _ _ => cases h7
          | nil =>
            cases el with
            | cons _ _ => cases h8
            | nil =>
              refine ps_imp (ps_try_as hsc.st hsc.fr (by rw [x.hN]; exact x.nd) (x.name h6.1) (show X.env.scope.names.lookup n = some .local by rw [hsc.sc]; exact h6.2) hc tk hb hsu) fun D σ H ⟨W, ρ, S, rl, en, q⟩ => ?_
              refine ⟨W, ρ, S, rl, en, ?_⟩
              have q : AftS G Wx D H W (match evSs B C b ρ S with | .ex k fs ρ1 S1 => trX B k fs c (some i) h0 ρ1 S1 | .nx ρ1 S1 => evSs B C .nil ρ1 S1 | r => r) := q
              cases e : evSs B C b ρ S with
              | nx ρ1 S1 => rw [e] at q; exact q
              | rt d S1 => rw [e] at q; exact q
              | bk ρ1 S1 => rw [e] at q; exact q
              | ct ρ1 S1 => rw [e] at q; exact q
              | no => rw [e] at q; exact q
              | ex k fs ρ1 S1 =>
                rw [e] at q
                intro cls dx σ' H1 W1 r1 x1 e1 k1
                obtain ⟨b1, eb, hy, hn⟩ := trX_ok (D' := { nx := fun σ' H' => D.nx (σ'.set i none) H', rt := D.rt, bk := fun σ' H' => D.bk (σ'.set i none) H', ct := fun σ' H' => D.ct (σ'.set i none) H' }) x q r1 x1 e1 k1 (fun _ _ z => z) (fun σ2 H2 W2 ρ2 e g => g _ (e.clear i))
                refine ⟨b1, eb, fun hb1 a _ => (hy hb1).2 a _ (e1.hide i _) fun j hj => ?_, hn⟩
                cases hj
                have hl : i < σ'.length := by rw [e1.len]; exact of_decide_eq_true (hy hb1).1
                rw [List.getElem?_set_self hl]
    · cases h
theorem sndSs : ∀ (i : ISs) {X : Cx} {Wx : WX} {st : List Stmt}, XOk t G B C N sc X → DefX X sc → PassesOwn (model X.prog X.w) X.A X.env X.xe → Takes X Wx → erSs t N i sc st = true → PSsv G X B C Wx st i
  | .nil, X, Wx, st, x, hsc, hp, tk, h => by
    unfold erSs at h
    split at h
    · exact sSs_nil
    · cases h
  | .cons i r, X, Wx, st, x, hsc, hp, tk, h => by
    unfold erSs at h
    split at h
    · simp only [Bool.and_eq_true] at h
      exact sSs_cons (sndS i x hsc hp tk h.1) (sndSs r x hsc hp tk h.2)
    · cases h
end
end
end Wc

/-! Wc: all defs at once, the end of a law. -/
namespace Wc
open PySem PySem.Spec PyProof.Rows L2
section
variable {t : Tx} {G : Gd} {B : Tb} {P : Program} {w : World} {mg : Str → Option Value} {base : Heap} {D : Nat → Option Df}
/-- a def of the text: where it stands, what was checked of it -/
structure DefAt (t : Tx) (G : Gd) (f : Nat) (d : Df) (fd : FuncData) (ps : List Str) : Prop where
  ex : ∃ (x qual : Str) (st : Stmt) (N : List Str) (dvs : List V), FunD G.K x qual (defArgs st) (defBody st) (defScope st) dvs [] (G.fa f) fd ∧ Binds G.K fd ps [] ∧ FnScope N ps (defScope st) ∧ ps.length = d.ps ∧ N.length = d.names ∧ ∃ b : Bool, (b = true → ∃ c P, G.lam = some (c, P, (qual ++ ".<locals>.") ++ "<lambda>") ∧ fd.code = .ref c) ∧ erSs { t with lm := b } N d.body (defScope st) (defBody st) = true
  df : ∀ dv, t.dft f = some dv → ∃ v u, RelV v u ∧ (∀ H, RT G H v dv) ∧ Binds G.K fd ps [u]
  kw : ∀ kn, t.kwn f = some kn → KBn G.K fd ps (ps.length - 1) [kn] (fun us ws => us ++ ws) (fun vs zs => vs ++ zs)
def DefOk (t : Tx) (G : Gd) (f : Nat) (d : Df) : Prop := ∃ fd ps, DefAt t G f d fd ps
/-- what the module's names hold -/
structure MgOk (t : Tx) (G : Gd) (B : Tb) (mg : Str → Option Value) : Prop where
  gn : ∀ x d, t.gn x = some d → ∃ u v, mg x = some u ∧ RelV v u ∧ ∀ H, RT G H v d
  bn : ∀ x, t.bn x = true → mg x = none
  fnm : ∀ f x, t.fnm f = some x → B.isf f = true ∧ mg x = some (.ref (G.fa f))
  cls : ClsAt G.K B G
  cnm : ∀ c x, t.cnm c = some x → mg x = some (.ref (G.ca c))
  dfe : ∀ f dv, B.dft f = some dv → B.isf f = true ∧ t.dft f = some dv
  kwe : ∀ f kn, B.kwn f = some kn → B.isf f = true ∧ t.kwn f = some kn
  csb : ∀ k c b, B.csub k c = some b → PySem.W.kitOne G.K (.ref (G.ca k)) (.ref (G.ca c)) = some b ∧ InsF G.K (G.ca k)
  xnm : ∀ c x, t.xnm c = some x → mg x = some (.ref (G.ca c))
  xsb : ∀ k c b, B.xsub k c = some b → PySem.W.kitOne G.K (.ref (G.ca k)) (xcV G c) = some b ∧ ExcC G.K (G.ca k)
  exm : ∀ k c b, B.xsub k (.own c) = some b → PySem.W.exmOne G.K (.ref (G.ca k)) (.ref (G.ca c)) = some b
  xpl : ∀ c, t.xpl c = true → XplOk G.K (G.ca c)
  hfn : ∀ f x, t.hfn f = some x → mg x = some (.ref (G.fa f))
  cfn : ∀ c x f, t.cfn c x = some f → B.isf f = true ∧ ∃ Ca, mg c = some (.ref Ca) ∧ Cfn G.K Ca x (G.fa f)
theorem cxOf_ok {C : Cal} {N ps : List Str} {qual : Str} {sc : Scope} {f : Addr} {cd : Value} {A : Around} {outer : List Env} {s : Shared} {H : Hp} {E : XK} {k : Nat} (M : MgOk t G B mg) (S : FnScope N ps sc)
    (hr : Room k (A.deeper (envOfC qual sc s.heap.objs.size f cd))) (hc : Cals (cxOf (L2.CX P w) P w G.K mg base N qual sc f cd A outer s H E) G B C)
    (hd : ∀ f' dv, B.dft f' = some dv → ∃ n, CalD (cxOf (L2.CX P w) P w G.K mg base N qual sc f cd A outer s H E) G C f' n dv)
    (hw : ∀ f' kn, B.kwn f' = some kn → ∃ n, CalK (cxOf (L2.CX P w) P w G.K mg base N qual sc f cd A outer s H E) G C f' n kn)
    (hh : HclOk (cxOf (L2.CX P w) P w G.K mg base N qual sc f cd A outer s H E) G B) {b : Bool} (hl : b = true → LamAt G (cxOf (L2.CX P w) P w G.K mg base N qual sc f cd A outer s H E)) : XOk { t with lm := b } G B C N sc (cxOf (L2.CX P w) P w G.K mg base N qual sc f cd A outer s H E) where
  hK := rfl
  hN := rfl
  nd := S.nd
  vis := fun x h => visB_of h
  glo := fun x h => gloB_of h
  sto := fun x h => ⟨stoB_of h, .inl rfl⟩
  loc := fun x h => h
  cel := fun x h => h
  kind := S.kind
  calm := rfl
  gn := M.gn
  bn := M.bn
  fnm := M.fnm
  units := by have := hr.un; show (A.deeper _).units + 65 < _; omega
  cal := hc
  cls := M.cls
  cnm := M.cnm
  dfl := hd
  kwd := hw
  csb := M.csb
  xnm := M.xnm
  xsb := M.xsb
  exm := M.exm
  xpl := M.xpl
  hfn := M.hfn
  hcl := hh
  cfn := M.cfn
  lam := hl
theorem REn_start {W : Wd} {N : List Str} {vs : List V} {ds : List Wc.D} {n : Nat} (k : RDs G W vs ds) (hn : N.length = n) : REn G W (L2.start N vs) (ds.map some ++ List.replicate (n - ds.length) none) := by
  have hl := k.length
  refine ⟨by simp [L2.start, hl, hn], fun i d e => ?_⟩
  unfold L2.start
  by_cases h : i < ds.length
  · rw [List.getElem?_append_left (by simpa using h), List.getElem?_map] at e
    obtain ⟨d', e1, e2⟩ := Option.map_eq_some_iff.mp e
    cases e2
    obtain ⟨v, h1, h2⟩ := k.get e1
    exact ⟨v, by rw [List.getElem?_append_left (by simp [hl, h]), List.getElem?_map, h1]; rfl, h2⟩
  · rw [List.getElem?_append_right (by simp; omega)] at e
    rw [List.getElem?_replicate] at e
    split at e <;> cases e
/-- a def that is called with the handled exception alone: by its own table -/
def hcRun (B : Tb) (h : HSs) (n k : Nat) : Option T := match evHSs { B with hcf := fun _ _ => none } k h (none :: List.replicate (n - 1) none) [] with
  | .rt d S1 => (frz 9 S1 d).map (·.1)
  | _ => none
structure DefHAt (t : Tx) (G : Gd) (f : Nat) (h : HSs) (n : Nat) (fd : FuncData) (ps : List Str) : Prop where
  ex : ∃ (x qual : Str) (st : Stmt) (N : List Str) (dvs : List V), FunD G.K x qual (defArgs st) (defBody st) (defScope st) dvs [] (G.fa f) fd ∧ Binds G.K fd ps [] ∧ FnScope N ps (defScope st) ∧ ps.length = 1 ∧ N.length = n ∧ erHSs t N (some 0) h (defScope st) (defBody st) = true
theorem fnP_all (M : MgOk t G B mg) {f n : Nat} {h : HSs} {fd : FuncData} {ps : List Str} (hcr : ∀ k r, B.hcf f k = some r → hcRun B h n k = some r) (hd : DefHAt t G f h n fd ps) : FnP P w G.K mg base 1 (G.fa f) fd ps (spH G B f) := by
  obtain ⟨x, qual, st, N, dvs, F, hb, hs, hl, hn, he⟩ := hd.ex
  obtain ⟨oc, od, dV, kV, doc, pm, an, cdv, ct, osl, rfl, lk, hcd, hDv, hKv⟩ := F.ex
  refine fnP_of (k := 0) lk hcd hs (fun p vs H Q E q => by rw [q.1, hl]; rfl) fun A outer s H vs Q E p hr hsp => ?_
  obtain ⟨rfl, k, r, W, S, hz, hf, hr0, rl, q⟩ := hsp
  have hrun := hcr k r hr0
  have hx : HOk t G { B with hcf := fun _ _ => none } N (defScope st) (L2H.cxH (L2.CX P w) P w G.K mg base N qual (defScope st) (G.fa f) cdv A outer s H E p) (some 0) p (.ref (G.ca k)) :=
    { hK := rfl, hN := rfl, nd := hs.nd, vis := fun x h => visB_of h, glo := fun x h => gloB_of h, sto := fun x h => ⟨stoB_of h, .inl rfl⟩, bn := M.bn,
      units := (by have := hr.un; show (A.deeper _).units + 65 < _; omega), hfn := M.hfn, xnm := M.xnm, xsb := M.xsb, hcl := (fun f k r h => nomatch h), pin := List.mem_cons_self, zc := hz, fl := hf }
  have hN : 1 ≤ N.length := by
    have := congrArg List.length hs.pre
    rw [List.length_take, hl] at this
    omega
  refine ⟨_, sndHSs hx h he, k, ⟨W.Hf, []⟩, none :: List.replicate (n - 1) none, [], rfl, fun j hj => by cases hj; rfl, rl.apartW, ⟨?_, fun i d e => ?_⟩, ?_⟩
  · show (List.map some [V.ref p.1] ++ List.replicate (N.length - [V.ref p.1].length) none).length = _
    simp
    omega
  · cases i with
    | zero => cases e
    | succ i =>
      rw [List.getElem?_cons_succ, List.getElem?_replicate] at e
      split at e <;> cases e
  · show AftH G (some 0) p.1 _ H _ (evHSs { B with hcf := fun _ _ => none } k h (none :: List.replicate (n - 1) none) [])
    unfold hcRun at hrun
    cases e : evHSs { B with hcf := fun _ _ => none } k h (none :: List.replicate (n - 1) none) [] with
    | rt d S1 =>
      rw [e] at hrun
      obtain ⟨⟨t', S2⟩, e4, e5⟩ := Option.map_eq_some_iff.mp hrun
      cases e5
      intro v' H1 W1 r1 x1 k1
      obtain ⟨W2, r2, x2, k2, _⟩ := frz_ok 9 r1 k1 e4
      obtain ⟨r3, x3⟩ := rl.back r2 (x1.trans x2)
      exact q v' H1 _ r3 x3 k2
    | nx ρ2 S2 => rw [e] at hrun; cases hrun
    | bk ρ2 S2 => rw [e] at hrun; cases hrun
    | ct ρ2 S2 => rw [e] at hrun; cases hrun
    | ex c' fs' ρ2 S2 => rw [e] at hrun; cases hrun
    | no => rw [e] at hrun; cases hrun
theorem hcl_of (M : MgOk t G B mg) {HD : Nat → Option (HSs × Nat)} (hH : ∀ f k r, B.hcf f k = some r → ∃ d, HD f = some d ∧ hcRun B d.1 d.2 k = some r) (hDH : ∀ f d, HD f = some d → ∃ fd ps, DefHAt t G f d.1 d.2 fd ps) {A : Around} (f k : Nat) (r : T) (h : B.hcf f k = some r) (hr : Room 1 A) :
    ∃ n fd ps, FnP P w G.K mg base n (G.fa f) fd ps (spH G B f) ∧ L2H.RoomH n A ∧ Binds G.K fd ps [] ∧ PySem.W.keepIn G.K (.ref (G.fa f)) = true := by
  obtain ⟨d, h1, h2⟩ := hH f k r h
  obtain ⟨fd, ps, hd⟩ := hDH f d h1
  obtain ⟨x, qual, st, N, dvs, F, hb, _⟩ := hd.ex
  refine ⟨1, fd, ps, fnP_all M (fun k r h => ?_) hd, L2H.roomH_of hr, hb, F.kp⟩
  obtain ⟨d', h3, h4⟩ := hH f k r h
  rw [h1] at h3
  cases h3
  exact h4
/-- EACH DEF keeps what the evaluator says -/
theorem fn_all (M : MgOk t G B mg) (hT : ∀ c P q, G.lam = some (c, P, q) → LamX.TabB base mg c P) {HD : Nat → Option (HSs × Nat)} (hH : ∀ f k r, B.hcf f k = some r → ∃ d, HD f = some d ∧ hcRun B d.1 d.2 k = some r) (hDH : ∀ f d, HD f = some d → ∃ fd ps, DefHAt t G f d.1 d.2 fd ps) (hD : ∀ f, B.isf f = true → ∃ d, D f = some d) (hO : ∀ f d, D f = some d → DefOk t G f d) : ∀ (n f : Nat) (d : Df) (fd : FuncData) (ps : List Str), D f = some d → DefAt t G f d fd ps → FnOk P w G.K mg base (L2.CX P w) (2 * n) (G.fa f) fd ps (spC G (cal B D n) f d.ps) ∧ Binds G.K fd ps [] ∧ PySem.W.keepIn G.K (.ref (G.fa f)) = true ∧ ps.length = d.ps
  | 0, f, d, fd, ps, hf, hd => by
    obtain ⟨x, qual, st, N, dvs, F, hb, hs, hl, hn, lb, hlb, he⟩ := hd.ex
    refine ⟨⟨fun vs H Q E h => by rw [h.1, hl], fun A outer s H args us vs Q E hr he hb hv hs => ?_⟩, hb, F.kp, hl⟩
    obtain ⟨_, W, S, ds, _, _, q⟩ := hs
    exact q.elim
  | n + 1, f, d, fd, ps, hf, hd => by
    obtain ⟨x, qual, st, N, dvs, F, hb, hs, hl, hn, lb, hlb, he⟩ := hd.ex
    have ih := fn_all M hT hH hDH hD hO n
    rw [show 2 * (n + 1) = (2 * n + 1) + 1 by omega]
    have kp := F.kp
    obtain ⟨oc, od, dV, kV, doc, pm, an, cdv, ct, osl, rfl, lk, hcd, hDv, hKv⟩ := F.ex
    refine ⟨fn_of lk hcd hs (fun vs H Q E h => by rw [h.1, hl]) (fun A outer s H vs Q E hr h => ?_), hb, kp, hl⟩
    obtain ⟨hv, W, S, ds, rl, k, q⟩ := h
    have hc : Cals (cxOf (L2.CX P w) P w G.K mg base N qual (defScope st) (G.fa f) cdv A outer s H E) G B (cal B D n) := fun g hg => by
      obtain ⟨dg, hdg⟩ := hD g hg
      obtain ⟨fdg, psg, hdd⟩ := hO g dg hdg
      obtain ⟨Fg, hbg, kpg, hlg⟩ := ih g dg fdg psg hdg hdd
      refine ⟨dg.ps, ⟨⟨2 * n, fdg, psg, Fg, hr, hbg⟩, kpg⟩, fun ds S hne => ?_⟩
      cases n with
      | zero => rfl
      | succ m =>
        show (match D g with | some d => runDf B (cal B D m) d ds S | none => .no) = .no
        rw [hdg]
        show runDf B (cal B D m) dg ds S = .no
        unfold runDf
        rw [if_neg hne]
    have hdd : ∀ g dv, B.dft g = some dv → ∃ n', CalD (cxOf (L2.CX P w) P w G.K mg base N qual (defScope st) (G.fa f) cdv A outer s H E) G (cal B D n) g n' dv := fun g dv hb => by
      obtain ⟨hg, ht⟩ := M.dfe g dv hb
      obtain ⟨dg, hdg⟩ := hD g hg
      obtain ⟨fdg, psg, hda⟩ := hO g dg hdg
      obtain ⟨Fg, hbg, kpg, hlg⟩ := ih g dg fdg psg hdg hda
      obtain ⟨v, u, rv, rt, bb⟩ := hda.df dv ht
      refine ⟨dg.ps, ⟨2 * n, fdg, psg, v, u, Fg, hr, rv, rt, bb⟩, kpg, fun ds S hne => ?_⟩
      cases n with
      | zero => rfl
      | succ m =>
        show (match D g with | some d => runDf B (cal B D m) d ds S | none => .no) = .no
        rw [hdg]
        show runDf B (cal B D m) dg ds S = .no
        unfold runDf
        rw [if_neg hne]
    have hww : ∀ g kn, B.kwn g = some kn → ∃ n', CalK (cxOf (L2.CX P w) P w G.K mg base N qual (defScope st) (G.fa f) cdv A outer s H E) G (cal B D n) g n' kn := fun g kn hb => by
      obtain ⟨hg, ht⟩ := M.kwe g kn hb
      obtain ⟨dg, hdg⟩ := hD g hg
      obtain ⟨fdg, psg, hda⟩ := hO g dg hdg
      obtain ⟨Fg, hbg, kpg, hlg⟩ := ih g dg fdg psg hdg hda
      have bb := hda.kw kn ht
      rw [hlg] at bb
      refine ⟨dg.ps, ⟨2 * n, fdg, psg, Fg, hr, bb⟩, kpg, fun ds S hne => ?_⟩
      cases n with
      | zero => rfl
      | succ m =>
        show (match D g with | some d => runDf B (cal B D m) d ds S | none => .no) = .no
        rw [hdg]
        show runDf B (cal B D m) dg ds S = .no
        unfold runDf
        rw [if_neg hne]
    have x := cxOf_ok (P := P) (w := w) (base := base) (qual := qual) (f := G.fa f) (cd := cdv) (outer := outer) (H := H) (E := E) M hs hr hc hdd hww (fun g k r hg => hcl_of M hH hDH g k r hg (hr.mono (by omega))) (b := lb) (fun e => by
      obtain ⟨c, P, e1, e2⟩ := hlb e
      exact ⟨⟨c, P, _, e1, e2, hT _ _ _ e1, rfl⟩, hr.mono (Nat.zero_le _)⟩)
    refine ⟨tS G (evSs B (cal B D n) d.body) (fun cls dx _ H => E cls dx H), sndSs d.body x ⟨rfl, rfl, rfl⟩ (passes_of rfl) (takes_of rfl rfl rfl rfl) he, W, _, S, rl, REn_start k hn, ?_⟩
    have q : Aft G (fun W' v d => RD G W' v d) E H W Q (match D f with | some d => runDf B (cal B D n) d ds S | none => .no) := q
    rw [hf] at q
    have q : Aft G (fun W' v d => RD G W' v d) E H W Q (runDf B (cal B D n) d ds S) := q
    unfold runDf at q
    have hdl : ds.length = d.ps := by rw [← k.length, hv]
    rw [if_pos hdl] at q
    cases e : evSs B (cal B D n) d.body (ds.map some ++ List.replicate (d.names - ds.length) none) S with
    | nx ρ S1 => rw [e] at q; exact fun σ H' W' r x _ => q .non H' W' r x (.t .non)
    | rt d S1 => rw [e] at q; exact q
    | ex c fs ρ S1 => rw [e] at q; exact fun cls dx σ H' W' r x _ k => q cls dx H' W' r x k
    | bk ρ S1 => rw [e] at q; exact q.elim
    | ct ρ S1 => rw [e] at q; exact q.elim
    | no => rw [e] at q; exact q.elim
end
/-- the law's own promise: from the script True -/
def spScr (K : PySem.W.Frag) (Ps : List Addr) : Sp := fun vs H Q _ => ∃ (a : Addr) (ns : List Int), vs = [.ref a] ∧ (∀ p ∈ Ps, H p = some (.tbl #[])) ∧ SqL K H a (ns.map V.int) ∧ ns.length ≤ 63 ∧ (∀ z ∈ ns, Builtin.Int.intBits z ≤ 1048576) ∧ ∀ H', Q (.bl true) H'
/-- all but the tables -/
def plH (H : Hp) : Hp := fun a => match H a with
  | some u => if pl1 u then some u else none
  | none => none
theorem plH_same (H : Hp) : Same (plH H) H := fun a u e => by
  unfold plH at e
  split at e
  · rename_i v hv
    split at e
    · cases e; exact hv
    · cases e
  · cases e
theorem plH_pl {H : Hp} {a : Addr} {u : HO} (e : plH H a = some u) : pl1 u = true := by
  unfold plH at e
  split at e
  · split at e
    · rename_i h
      cases e; exact h
    · cases e
  · cases e
theorem plH_at {H : Hp} {a : Addr} {u : HO} (e : H a = some u) (h : pl1 u = true) : plH H a = some u := by
  unfold plH
  rw [e]
  simp [h]
theorem plH_sq {K : PySem.W.Frag} {H : Hp} {a : Addr} {xs : List V} (h : SqL K H a xs) : SqL K (plH H) a xs := by
  rcases h with h | h
  · rcases h with h | ⟨o, h⟩
    · exact .inl (.inl (plH_at h rfl))
    · exact .inl (.inr ⟨o, plH_at h rfl⟩)
  · exact .inr h
theorem law_fn {P : Program} {w : World} {mg : Str → Option Value} {base : Heap} {G : Gd} {B : Tb} {D : Nat → Option Df} {n k f : Nat} {fa : Addr} {fd : FuncData} {ps : List Str}
    (hlaw : ∀ ns : List Int, ns.length ≤ 63 → (∀ z ∈ ns, Builtin.Int.intBits z ≤ 1048576) → ∃ S', cal B D n f [.t (.scr ns)] [] = .ok (.t (.bl true)) S')
    (F : FnOk P w G.K mg base (L2.CX P w) k fa fd ps (spC G (cal B D n) f 1)) : FnOk P w G.K mg base (L2.CX P w) k fa fd ps (spScr G.K (G.tb.map (·.1))) := by
  refine F.imp fun vs H Q E h => ?_
  obtain ⟨a, ns, rfl, ht, hS, hl, hb, q⟩ := h
  refine ⟨rfl, ⟨plH H, []⟩, [], [.t (.scr ns)], ⟨⟨fun p hp => LamX.TabS.nil (ht _ (List.mem_map_of_mem hp)), (fun a ha => nomatch ha), fun a u e => plH_pl e⟩, plH_same H, rfl, fun i j a h => by simp at h, fun a h => by simp at h, fun k o a h => by simp at h, fun k o a h => by simp at h⟩, .cons (.t (.scr (plH_sq hS))) .nil, ?_⟩
  obtain ⟨S', e⟩ := hlaw ns hl hb
  rw [e]
  intro v H' W' _ _ k
  cases k.bl_of
  exact q H'
/-- a list of facts, by places -/
inductive AlI {α : Type} (P : Nat → α → Prop) : Nat → List α → Prop
  | nil (n : Nat) : AlI P n []
  | cons {n : Nat} {a : α} {l : List α} : P n a → AlI P (n + 1) l → AlI P n (a :: l)
theorem AlI.at {α : Type} {P : Nat → α → Prop} : ∀ {n : Nat} {l : List α} {i : Nat} {a : α}, AlI P n l → l[i]? = some a → P (n + i) a
  | n, _ :: _, 0, a, .cons h _, e => by simp at e; subst e; exact h
  | n, _ :: l, i + 1, a, .cons _ t, e => by
    have := AlI.at (i := i) t (by simpa using e)
    rw [Nat.add_assoc, Nat.add_comm 1 i] at this
    exact this
  | _, [], _, _, _, e => by simp at e
inductive Al {α : Type} (P : α → Prop) : List α → Prop
  | nil : Al P []
  | cons {a : α} {l : List α} : P a → Al P l → Al P (a :: l)
theorem Al.mem {α : Type} {P : α → Prop} : ∀ {l : List α} {a : α}, Al P l → a ∈ l → P a
  | _ :: _, a, .cons h t, m => by
    rcases List.mem_cons.mp m with e | m
    · subst e; exact h
    · exact Al.mem t m
  | [], _, _, m => by cases m
theorem look_mem {α : Type} {x : Str} {d : α} : ∀ {l : List (Str × α)}, l.lookup x = some d → (x, d) ∈ l
  | [], h => by simp at h
  | (y, e) :: l, h => by
    simp only [List.lookup_cons] at h
    cases hx : x == y with
    | true => rw [hx] at h; cases h; have := eq_of_beq hx; subst this; exact List.mem_cons_self
    | false => rw [hx] at h; exact List.mem_cons_of_mem _ (look_mem h)
/-- a class of the text: its name, the fields that no class of it has, its methods, its __init__ -/
structure Cd where
  nm : Str
  flds : List Str
  mts : List (Str × Nat)
  ini : Option Nat
/-- an exception's class: its name, whether it has no __init__ of its own, under which it stands -/
structure Xd where
  nm : Str
  pl : Bool
  sub : List (XC × Bool)
/-- the tables of a text: what its names hold, its defs -/
structure Txl where
  gl : List (Str × T)
  bl : List Str
  fl : List (Option Str)
  cl : List Cd
  dl : List (Nat × T) := []
  kl : List ((Str × Str) × Nat) := []
  wl : List (Nat × Str) := []
  xl : List (Nat × Xd) := []
  hl : List (Nat × Str) := []
  sl : List ((Nat × Nat) × Bool) := []
def Txl.tx (l : Txl) : Tx := ⟨fun x => l.gl.lookup x, fun x => l.bl.contains x, fun f => (l.fl[f]?).join, fun c => (l.cl[c]?).map (·.nm), fun f => l.dl.lookup f, fun f => l.wl.lookup f, fun k => (l.xl.lookup k).map (·.nm), fun k => ((l.xl.lookup k).map (·.pl)).getD false, fun f => l.hl.lookup f, fun c x => l.kl.lookup (c, x), false⟩
/-- the exceptions, the defs that are called with one; the defaults of the defs that have one -/
abbrev tbX (B : Tb) (xl : List (Nat × Xd)) (sl : List ((Nat × Nat) × Bool) := []) : Tb := { B with xsub := fun k c => (xl.lookup k).bind fun d => d.sub.lookup c, csub := fun k c => sl.lookup (k, c) }
abbrev tbH (B : Tb) (hd : List (Nat × (HSs × Nat))) : Tb := { B with hcf := fun f k => (hd.lookup f).bind fun d => hcRun B d.1 d.2 k }
abbrev tbD (B : Tb) (l : List (Nat × T)) (wl : List (Nat × Str) := []) : Tb := { B with dft := fun f => l.lookup f, kwn := fun f => wl.lookup f }
def tbOf (n : Nat) (cs : List Cd) : Tb := ⟨fun c f => match cs[c]? with
    | some d => d.mts.lookup f
    | none => none, fun c => match cs[c]? with
    | some d => d.ini
    | none => none, fun _ _ => false, fun f => decide (f < n), fun c f => match cs[c]? with
    | some d => d.flds.contains f
    | none => false, fun _ => none, fun _ => none, fun _ _ => none, fun _ _ => none, fun _ _ => none⟩
structure CdOk (mg : Str → Option Value) (G : Gd) (n : Nat) (c : Nat) (d : Cd) : Prop where
  cl : Cls G.K (G.ca c)
  nm : mg d.nm = some (.ref (G.ca c))
  flds : Al (fun f => NoAttr G.K (G.ca c) f) d.flds
  mts : Al (fun (p : Str × Nat) => Meth G.K (G.ca c) p.1 (G.fa p.2) ∧ decide (p.2 < n) = true) d.mts
  ini : ∀ g, d.ini = some g → Mk G.K (G.ca c) (G.fa g) ∧ decide (g < n) = true
theorem clsAt_of {mg : Str → Option Value} {G : Gd} {n : Nat} {cs : List Cd} (h : AlI (CdOk mg G n) 0 cs) : ClsAt G.K (tbOf n cs) G where
  att := fun c f e => by
    have e : (match cs[c]? with | some d => d.flds.contains f | none => false) = true := e
    cases ec : cs[c]? with
    | none => rw [ec] at e; cases e
    | some d =>
      rw [ec] at e
      have q := h.at ec
      rw [Nat.zero_add] at q
      exact ⟨q.cl, q.flds.mem (by have e : d.flds.contains f = true := e; simpa using e)⟩
  mt := fun c f g e => by
    have e : (match cs[c]? with | some d => d.mts.lookup f | none => none) = some g := e
    cases ec : cs[c]? with
    | none => rw [ec] at e; cases e
    | some d =>
      rw [ec] at e
      have q := h.at ec
      rw [Nat.zero_add] at q
      have m := q.mts.mem (look_mem (show d.mts.lookup f = some g from e))
      exact ⟨q.cl, m.1, m.2⟩
  ini := fun c g e => by
    have e : (match cs[c]? with | some d => d.ini | none => none) = some g := e
    cases ec : cs[c]? with
    | none => rw [ec] at e; cases e
    | some d =>
      rw [ec] at e
      have q := h.at ec
      rw [Nat.zero_add] at q
      exact q.ini g e
theorem look_memG {α β : Type} [BEq α] [LawfulBEq α] {x : α} {d : β} : ∀ {l : List (α × β)}, l.lookup x = some d → (x, d) ∈ l
  | [], h => by simp at h
  | (y, e) :: l, h => by
    simp only [List.lookup_cons] at h
    cases hx : x == y with
    | true => rw [hx] at h; cases h; have := eq_of_beq hx; subst this; exact List.mem_cons_self
    | false => rw [hx] at h; exact List.mem_cons_of_mem _ (look_memG h)
theorem kit_ref {K : PySem.W.Frag} {C D : Addr} {b : Bool} (hd : PySem.W.hasDictIn K D = true) (ht : PySem.W.typeIn K (.ref D) = some (.type "type")) (hs : PySem.W.subIn K (.ref C) (.ref C) = some true) (h : PySem.W.subIn K (.ref C) (.ref D) = some b) : PySem.W.kitOne K (.ref C) (.ref D) = some b := by
  unfold PySem.W.kitOne
  by_cases e : (Value.ref C == Value.ref D) = true
  · rw [if_pos e]
    cases Value.ref.inj (eq_of_beq e)
    rw [hs] at h
    exact h
  · rw [if_neg e]
    obtain ⟨cd, hc, _⟩ := PySem.W.any_some hd
    have e2 : ((PySem.W.clsIn K D).isSome && PySem.W.typeIn K (.ref D) == some (.type "type")) = true := by rw [hc, ht] <;> rfl
    show (if ((PySem.W.clsIn K D).isSome && PySem.W.typeIn K (.ref D) == some (.type "type")) = true then PySem.W.subIn K (.ref C) (.ref D) else none) = some b
    rw [if_pos e2]
    exact h
theorem kit_ve {K : PySem.W.Frag} {C : Addr} (h : PySem.W.subIn K (.ref C) (.type "ValueError") = some true) : PySem.W.kitOne K (.ref C) (.type "ValueError") = some true := by
  unfold PySem.W.kitOne
  rw [if_neg (by simp)]
  show (if PySem.W.kitMeta "ValueError" = true then PySem.W.subIn K (.ref C) (.type "ValueError") else none) = some true
  rw [if_pos (by decide +kernel)]
  exact h
structure XdOk (mg : Str → Option Value) (G : Gd) (k : Nat) (d : Xd) : Prop where
  nm : mg d.nm = some (.ref (G.ca k))
  ex : d.sub = [] ∨ ExcC G.K (G.ca k)
  pl : d.pl = true → XplOk G.K (G.ca k)
  sub : Al (fun (q : XC × Bool) => PySem.W.kitOne G.K (.ref (G.ca k)) (xcV G q.1) = some q.2 ∧ ∀ c, q.1 = .own c → PySem.W.exmOne G.K (.ref (G.ca k)) (.ref (G.ca c)) = some q.2) d.sub
theorem MgOk.h {t : Tx} {G : Gd} {B : Tb} {mg : Str → Option Value} (M : MgOk t G B mg) (hd : List (Nat × (HSs × Nat))) : MgOk t G (tbH B hd) mg :=
  ⟨M.gn, M.bn, M.fnm, ⟨M.cls.att, M.cls.mt, M.cls.ini⟩, M.cnm, M.dfe, M.kwe, M.csb, M.xnm, M.xsb, M.exm, M.xpl, M.hfn, M.cfn⟩
theorem hH_of (B : Tb) (hd : List (Nat × (HSs × Nat))) : ∀ f k r, (tbH B hd).hcf f k = some r → ∃ d, hd.lookup f = some d ∧ hcRun (tbH B hd) d.1 d.2 k = some r := fun f k r h => by
  have h : ((hd.lookup f).bind fun d => hcRun B d.1 d.2 k) = some r := h
  obtain ⟨d, e, e2⟩ := Option.bind_eq_some_iff.mp h
  exact ⟨d, e, e2⟩
theorem hDH_of {t : Tx} {G : Gd} {hd : List (Nat × (HSs × Nat))} (h : Al (fun (p : Nat × (HSs × Nat)) => ∃ fd ps, DefHAt t G p.1 p.2.1 p.2.2 fd ps) hd) : ∀ f d, hd.lookup f = some d → ∃ fd ps, DefHAt t G f d.1 d.2 fd ps := fun f d e => h.mem (look_memG e)
theorem mgOk_of {l : Txl} {G : Gd} {mg : Str → Option Value} {n : Nat} (hg : Al (fun (p : Str × T) => ∃ u v, mg p.1 = some u ∧ RelV v u ∧ ∀ H, RT G H v p.2) l.gl) (hb : Al (fun x => mg x = none) l.bl)
    (hf : AlI (fun f (o : Option Str) => ∀ x, o = some x → mg x = some (.ref (G.fa f))) 0 l.fl) (hn : l.fl.length = n) (hc : AlI (CdOk mg G n) 0 l.cl)
    (hd : Al (fun (p : Nat × T) => decide (p.1 < n) = true) l.dl) (hk : Al (fun (p : (Str × Str) × Nat) => decide (p.2 < n) = true ∧ ∃ Ca, mg p.1.1 = some (.ref Ca) ∧ Cfn G.K Ca p.1.2 (G.fa p.2)) l.kl) 
    (hw : Al (fun (p : Nat × Str) => decide (p.1 < n) = true) l.wl) (hx : Al (fun (p : Nat × Xd) => XdOk mg G p.1 p.2) l.xl) (hh : Al (fun (p : Nat × Str) => mg p.2 = some (.ref (G.fa p.1))) l.hl)
    (hs : Al (fun (p : (Nat × Nat) × Bool) => PySem.W.kitOne G.K (.ref (G.ca p.1.1)) (.ref (G.ca p.1.2)) = some p.2 ∧ InsF G.K (G.ca p.1.1)) l.sl := by exact .nil) : MgOk l.tx G (tbX (tbD (tbOf n l.cl) l.dl l.wl) l.xl l.sl) mg where
  csb := fun k c b h => hs.mem (look_memG h)
  gn := fun x d h => hg.mem (look_mem h)
  bn := fun x h => hb.mem (by have h : l.bl.contains x = true := h; simpa using h)
  fnm := fun f x h => by
    have h : (l.fl[f]?).join = some x := h
    cases e : l.fl[f]? with
    | none => rw [e] at h; cases h
    | some o =>
      rw [e] at h
      have e2 : o = some x := h
      have q := hf.at e x e2
      rw [Nat.zero_add] at q
      refine ⟨decide_eq_true ?_, q⟩
      rw [← hn]; exact (List.getElem?_eq_some_iff.mp e).1
  cls := let k := clsAt_of hc; ⟨k.att, k.mt, k.ini⟩
  dfe := fun f dv h => ⟨hd.mem (look_memG h), h⟩
  kwe := fun f kn h => ⟨hw.mem (look_memG h), h⟩
  xnm := fun c x h => by
    have h : (l.xl.lookup c).map (·.nm) = some x := h
    obtain ⟨d, e, rfl⟩ := Option.map_eq_some_iff.mp h
    exact (hx.mem (look_memG e)).nm
  xsb := fun k c b h => by
    have h : ((l.xl.lookup k).bind fun d => d.sub.lookup c) = some b := h
    obtain ⟨d, e, e2⟩ := Option.bind_eq_some_iff.mp h
    have q := hx.mem (look_memG e)
    exact ⟨(q.sub.mem (look_memG e2)).1, q.ex.resolve_left fun z => by rw [z] at e2; cases e2⟩
  exm := fun k c b h => by
    have h : ((l.xl.lookup k).bind fun d => d.sub.lookup (.own c)) = some b := h
    obtain ⟨d, e, e2⟩ := Option.bind_eq_some_iff.mp h
    have q := hx.mem (look_memG e)
    exact (q.sub.mem (look_memG e2)).2 c rfl
  xpl := fun c h => by
    have h : ((l.xl.lookup c).map (·.pl)).getD false = true := h
    cases e : l.xl.lookup c with
    | none => rw [e] at h; cases h
    | some d => rw [e] at h; exact (hx.mem (look_memG e)).pl h
  hfn := fun f x h => hh.mem (look_memG h)
  cfn := fun c x f h => hk.mem (look_memG h)
  cnm := fun c x h => by
    have h : (l.cl[c]?).map (·.nm) = some x := h
    cases e : l.cl[c]? with
    | none => rw [e] at h; cases h
    | some d =>
      rw [e] at h
      cases h
      have q := hc.at e
      rw [Nat.zero_add] at q
      exact q.nm
theorem lm_off {t : Tx} {N : List Str} {b : ISs} {sc : Scope} {body : List Stmt} (h : t.lm = false) (he : erSs t N b sc body = true) : erSs { t with lm := false } N b sc body = true := by
  have e : { t with lm := false } = t := by
    cases t
    cases h
    rfl
  rw [e]
  exact he
theorem def_mk {t : Tx} {K : PySem.W.Frag} {x qual : Str} {st : Stmt} {f : Addr} {oc : Value} {od an : Option Addr} {osl : Array (Option Value)} {kV doc pm cdv ct : Value} {N ps : List Str} {d : Df} {G : Gd} {i : Nat} (hK : G.K = K) (hf : G.fa i = f)
    (l : K.lookup f = some ⟨oc, od, .func (PySem.W.fnOf x qual (defArgs st) (defBody st) (defScope st) .none kV doc pm an cdv ct), osl⟩) (c : PySem.W.codeIn K cdv qual = true) (k : PySem.W.keepIn K (.ref f) = true)
    (hb : ∀ (kV doc pm : Value) (an : Option Addr) (cdv ct : Value) (us : List Value), us.length = ps.length → bindArgs (PySem.W.fnOf x qual (defArgs st) (defBody st) (defScope st) .none kV doc pm an cdv ct) ⟨us, []⟩ = pure (ps.zip us))
    (S : FnScope N ps (defScope st)) (hl : ps.length = d.ps) (hn : N.length = d.names) (he : erSs t N d.body (defScope st) (defBody st) = true) (ht : t.dft i = none) (hk0 : t.kwn i = none := by rfl) (hlm : t.lm = false := by rfl) : DefAt t G i d (PySem.W.fnOf x qual (defArgs st) (defBody st) (defScope st) .none kV doc pm an cdv ct) ps := by
  subst hK; subst hf
  have F := fun_mk (st := st) l c k
  exact ⟨⟨x, qual, st, N, [], ⟨⟨_, _, _, _, _, _, _, _, _, _, rfl, l, c, .inl ⟨rfl, rfl⟩, .inl rfl⟩, k⟩, F.binds hb, S, hl, hn, false, (fun h => nomatch h), lm_off hlm he⟩, fun dv h => (by rw [ht] at h; cases h), fun kn h => (by rw [hk0] at h; cases h)⟩
/-- .. that makes a lambda -/
theorem def_mkL {t : Tx} {K : PySem.W.Frag} {x qual : Str} {st : Stmt} {f cc cP : Addr} {oc : Value} {od an : Option Addr} {osl : Array (Option Value)} {kV doc pm ct : Value} {N ps : List Str} {d : Df} {G : Gd} {i : Nat} (hK : G.K = K) (hf : G.fa i = f)
    (l : K.lookup f = some ⟨oc, od, .func (PySem.W.fnOf x qual (defArgs st) (defBody st) (defScope st) .none kV doc pm an (.ref cc) ct), osl⟩) (c : PySem.W.codeIn K (.ref cc) qual = true) (k : PySem.W.keepIn K (.ref f) = true)
    (hb : ∀ (kV doc pm : Value) (an : Option Addr) (cdv ct : Value) (us : List Value), us.length = ps.length → bindArgs (PySem.W.fnOf x qual (defArgs st) (defBody st) (defScope st) .none kV doc pm an cdv ct) ⟨us, []⟩ = pure (ps.zip us))
    (S : FnScope N ps (defScope st)) (hl : ps.length = d.ps) (hn : N.length = d.names) (he : erSs { t with lm := true } N d.body (defScope st) (defBody st) = true) (ht : t.dft i = none) (hG : G.lam = some (cc, cP, (qual ++ ".<locals>.") ++ "<lambda>")) (hk0 : t.kwn i = none := by rfl) : DefAt t G i d (PySem.W.fnOf x qual (defArgs st) (defBody st) (defScope st) .none kV doc pm an (.ref cc) ct) ps := by
  subst hK; subst hf
  have F := fun_mk (st := st) l c k
  exact ⟨⟨x, qual, st, N, [], ⟨⟨_, _, _, _, _, _, _, _, _, _, rfl, l, c, .inl ⟨rfl, rfl⟩, .inl rfl⟩, k⟩, F.binds hb, S, hl, hn, true, (fun _ => ⟨cc, cP, hG, rfl⟩), he⟩, fun dv h => (by rw [ht] at h; cases h), fun kn h => (by rw [hk0] at h; cases h)⟩
theorem def_mkH {t : Tx} {K : PySem.W.Frag} {x qual : Str} {st : Stmt} {f : Addr} {oc : Value} {od an : Option Addr} {osl : Array (Option Value)} {kV doc pm cdv ct : Value} {N ps : List Str} {h : HSs} {n : Nat} {G : Gd} {i : Nat} (hK : G.K = K) (hf : G.fa i = f)
    (l : K.lookup f = some ⟨oc, od, .func (PySem.W.fnOf x qual (defArgs st) (defBody st) (defScope st) .none kV doc pm an cdv ct), osl⟩) (c : PySem.W.codeIn K cdv qual = true) (k : PySem.W.keepIn K (.ref f) = true)
    (hb : ∀ (kV doc pm : Value) (an : Option Addr) (cdv ct : Value) (us : List Value), us.length = ps.length → bindArgs (PySem.W.fnOf x qual (defArgs st) (defBody st) (defScope st) .none kV doc pm an cdv ct) ⟨us, []⟩ = pure (ps.zip us))
    (S : FnScope N ps (defScope st)) (hl : ps.length = 1) (hn : N.length = n) (he : erHSs t N (some 0) h (defScope st) (defBody st) = true) : ∃ fd ps, DefHAt t G i h n fd ps := by
  subst hK; subst hf
  have F := fun_mk (st := st) l c k
  exact ⟨_, ps, ⟨x, qual, st, N, [], ⟨⟨_, _, _, _, _, _, _, _, _, _, rfl, l, c, .inl ⟨rfl, rfl⟩, .inl rfl⟩, k⟩, F.binds hb, S, hl, hn, he⟩⟩
/-- a def with one default -/
theorem def_mkD {t : Tx} {K : PySem.W.Frag} {x qual : Str} {st : Stmt} {f T : Addr} {oc tc : Value} {od an td : Option Addr} {osl tsl : Array (Option Value)} {kV doc pm cdv ct : Value} {N ps : List Str} {d : Df} {G : Gd} {i m : Nat} {dvs : List V} {its : List Value} {dt : Wc.T} (hK : G.K = K) (hf : G.fa i = f)
    (l : K.lookup f = some ⟨oc, od, .func (PySem.W.fnOf x qual (defArgs st) (defBody st) (defScope st) (.ref T) kV doc pm an cdv ct), osl⟩) (c : PySem.W.codeIn K cdv qual = true) (k : PySem.W.keepIn K (.ref f) = true)
    (lT : K.lookup T = some ⟨tc, td, .seq its.toArray m, tsl⟩) (hv : Vals dvs its) (h0 : dvs ≠ [])
    (hb : ∀ (T : Addr) (kV doc pm : Value) (an : Option Addr) (cdv ct : Value) (us its : List Value), us.length = ps.length → its.length = dvs.length →
      ∃ k, bindArgs (PySem.W.fnOf x qual (defArgs st) (defBody st) (defScope st) (.ref T) kV doc pm an cdv ct) ⟨us, []⟩ = seqItems? (.ref T) >>= k ∧ k (some its.toArray) = pure (ps.zip (us ++ its.drop dvs.length)))
    (hb1 : ∀ (T : Addr) (kV doc pm : Value) (an : Option Addr) (cdv ct : Value) (us its : List Value), us.length + 1 = ps.length → its.length = dvs.length →
      ∃ k, bindArgs (PySem.W.fnOf x qual (defArgs st) (defBody st) (defScope st) (.ref T) kV doc pm an cdv ct) ⟨us, []⟩ = seqItems? (.ref T) >>= k ∧ k (some its.toArray) = pure (ps.zip (us ++ its.drop 0)))
    (S : FnScope N ps (defScope st)) (hl : ps.length = d.ps) (hn : N.length = d.names) (he : erSs t N d.body (defScope st) (defBody st) = true) (h1 : dvs.length = 1) (hp : 1 ≤ ps.length) (hdt : ∀ v ∈ dvs, ∀ H, RT G H v dt) (ht : t.dft i = some dt) (hk0 : t.kwn i = none := by rfl) (hlm : t.lm = false := by rfl) : DefAt t G i d (PySem.W.fnOf x qual (defArgs st) (defBody st) (defScope st) (.ref T) kV doc pm an cdv ct) ps := by
  subst hK; subst hf
  have F : FunD G.K x qual (defArgs st) (defBody st) (defScope st) dvs [] (G.fa i) _ := ⟨⟨_, _, _, _, _, _, _, _, _, _, rfl, l, c, .inr ⟨h0, T, _, its, m, rfl, lT, rfl, hv⟩, .inl rfl⟩, k⟩
  obtain ⟨ds, e, q⟩ := F.binds1 (ps := ps) ps.length dvs.length h0 (by omega) hb
  rw [List.drop_length] at e
  cases e
  obtain ⟨ds2, e2, q2⟩ := F.binds1 (ps := ps) (ps.length - 1) 0 h0 (by omega) (fun T kV doc pm an cdv ct us its h2 h3 => hb1 T kV doc pm an cdv ct us its (by omega) h3)
  rw [List.drop_zero] at e2
  refine ⟨⟨x, qual, st, N, dvs, F, q, S, hl, hn, false, (fun h => nomatch h), lm_off hlm he⟩, fun dv h => ?_, fun kn h => (by rw [hk0] at h; cases h)⟩
  rw [ht] at h
  cases h
  cases e2 with
  | nil => cases h1
  | cons r rr =>
    cases rr with
    | nil => exact ⟨_, _, r, fun H => hdt _ List.mem_cons_self H, q2⟩
    | cons _ _ => simp at h1
/-- a def with one default, which calls may name -/
theorem def_mkW {t : Tx} {K : PySem.W.Frag} {x qual : Str} {st : Stmt} {f T : Addr} {oc tc : Value} {od an td : Option Addr} {osl tsl : Array (Option Value)} {kV doc pm cdv ct : Value} {N ps : List Str} {d : Df} {G : Gd} {i m : Nat} {dvs : List V} {its : List Value} {dt : Wc.T} (hK : G.K = K) (hf : G.fa i = f)
    (l : K.lookup f = some ⟨oc, od, .func (PySem.W.fnOf x qual (defArgs st) (defBody st) (defScope st) (.ref T) kV doc pm an cdv ct), osl⟩) (c : PySem.W.codeIn K cdv qual = true) (k : PySem.W.keepIn K (.ref f) = true)
    (lT : K.lookup T = some ⟨tc, td, .seq its.toArray m, tsl⟩) (hv : Vals dvs its) (h0 : dvs ≠ [])
    (hb : ∀ (T : Addr) (kV doc pm : Value) (an : Option Addr) (cdv ct : Value) (us its : List Value), us.length = ps.length → its.length = dvs.length →
      ∃ k, bindArgs (PySem.W.fnOf x qual (defArgs st) (defBody st) (defScope st) (.ref T) kV doc pm an cdv ct) ⟨us, []⟩ = seqItems? (.ref T) >>= k ∧ k (some its.toArray) = pure (ps.zip (us ++ its.drop dvs.length)))
    (hb1 : ∀ (T : Addr) (kV doc pm : Value) (an : Option Addr) (cdv ct : Value) (us its : List Value), us.length + 1 = ps.length → its.length = dvs.length →
      ∃ k, bindArgs (PySem.W.fnOf x qual (defArgs st) (defBody st) (defScope st) (.ref T) kV doc pm an cdv ct) ⟨us, []⟩ = seqItems? (.ref T) >>= k ∧ k (some its.toArray) = pure (ps.zip (us ++ its.drop 0)))
    (S : FnScope N ps (defScope st)) (hl : ps.length = d.ps) (hn : N.length = d.names) (he : erSs t N d.body (defScope st) (defBody st) = true) (h1 : dvs.length = 1) (hp : 1 ≤ ps.length) (hdt : ∀ v ∈ dvs, ∀ H, RT G H v dt) (ht : t.dft i = some dt) {wn : Str} (hwn : t.kwn i = some wn)
    (hb2 : ∀ (T : Addr) (kV doc pm : Value) (an : Option Addr) (cdv ct : Value) (us its ws : List Value), us.length + 1 = ps.length → its.length = dvs.length → ws.length = 1 →
      ∃ k, bindArgs (PySem.W.fnOf x qual (defArgs st) (defBody st) (defScope st) (.ref T) kV doc pm an cdv ct) ⟨us, [wn].zip ws⟩ = seqItems? (.ref T) >>= k ∧ k (some its.toArray) = pure (ps.zip (us ++ ws))) (hlm : t.lm = false := by rfl) : DefAt t G i d (PySem.W.fnOf x qual (defArgs st) (defBody st) (defScope st) (.ref T) kV doc pm an cdv ct) ps := by
  subst hK; subst hf
  have F : FunD G.K x qual (defArgs st) (defBody st) (defScope st) dvs [] (G.fa i) _ := ⟨⟨_, _, _, _, _, _, _, _, _, _, rfl, l, c, .inr ⟨h0, T, _, its, m, rfl, lT, rfl, hv⟩, .inl rfl⟩, k⟩
  obtain ⟨ds, e, q⟩ := F.binds1 (ps := ps) ps.length dvs.length h0 (by omega) hb
  rw [List.drop_length] at e
  cases e
  obtain ⟨ds2, e2, q2⟩ := F.binds1 (ps := ps) (ps.length - 1) 0 h0 (by omega) (fun T kV doc pm an cdv ct us its h2 h3 => hb1 T kV doc pm an cdv ct us its (by omega) h3)
  rw [List.drop_zero] at e2
  refine ⟨⟨x, qual, st, N, dvs, F, q, S, hl, hn, false, (fun h => nomatch h), lm_off hlm he⟩, fun dv h => ?_, fun kn h => ?_⟩
  rotate_left
  · rw [hwn] at h
    cases h
    refine ⟨fun s us ws X l1 l2 => ?_, fun r1 r2 => r1.append r2⟩
    obtain ⟨k, e1, e2⟩ := hb2 T kV doc pm an cdv ct us its ws (by omega) hv.length.symm l2
    refine BindsTo.of_looks fun M => ?_
    rw [e1]
    exact looks_items X lT rfl (by rw [e2]; exact PySem.W.Looks.of_pure rfl)
  rw [ht] at h
  cases h
  cases e2 with
  | nil => cases h1
  | cons r rr =>
    cases rr with
    | nil => exact ⟨_, _, r, fun H => hdt _ List.mem_cons_self H, q2⟩
    | cons _ _ => simp at h1
theorem gn_int {G : Gd} {mg : Str → Option Value} {x : Str} {i : Int} {tk : Tok} (h : mg x = some (.int i tk)) : ∃ u v, mg x = some u ∧ RelV v u ∧ ∀ H, RT G H v (.int i) := ⟨_, .int i, h, ⟨_, rfl⟩, fun _ => .int _⟩
theorem gn_str {G : Gd} {mg : Str → Option Value} {x i : Str} {tk : Tok} (h : mg x = some (.str i tk)) : ∃ u v, mg x = some u ∧ RelV v u ∧ ∀ H, RT G H v (.str i) := ⟨_, .str i, h, ⟨_, rfl⟩, fun _ => .str _⟩
theorem gn_fn {G : Gd} {mg : Str → Option Value} {x : Str} {f : Nat} {a : Addr} (h : mg x = some (.ref a)) (ha : G.fa f = a) : ∃ u v, mg x = some u ∧ RelV v u ∧ ∀ H, RT G H v (.fn f) := ⟨_, .ref a, h, rfl, fun _ => by subst ha; exact .fn f⟩
theorem walk {l : PySem.W.OpenLaw} {q : Program} {loose : List Str} {XP : (Str → Option Value) → Heap → Prop} {YP : World → Heap → Prop} {d : DefRec} {K : Params → PySem.W.Frag} {k : Nat} {x : Str} (hn : l.most = some 63) (hdf : d.params.defaults = []) (hr : Room k callerA)
    (hY : ∀ (w : World) (h : Heap), YP w h → (K w.params).In h)
    (F : ∀ (w : World) (mg : Str → Option Value) (fa : Addr) (h : Heap), (K w.params).In h → h.Ns mainGlobals mg → mg d.name = some (.ref fa) →
      ∃ fd : FuncData, (∀ (s : Shared) (u : Value), BindsTo s fd ⟨[u], []⟩ [(x, u)]) ∧ ∀ base : Heap, (K w.params).In base → base.Ns mainGlobals mg → FnOk l.prog w (K w.params) mg base (L2.CX l.prog w) k fa fd [x] (spScr (K w.params) [])) :
    PySem.W.WalkO q loose XP YP l.row.toRowW d [] (fun f vs => PySem.call f vs) :=
  L2.walk_ofB (n := 63) (k := k) (x := x) (CX := fun w => L2.CX l.prog w) (sp := fun w => spScr (K w.params) []) hn (by decide) hdf hr hY F (fun _ _ a ns hl hb _ hS => ⟨a, ns, rfl, (fun _ h => nomatch h), hS, hl, hb, fun _ => rfl⟩) fun w H s e s' z => by
    obtain ⟨_, _, _, _, _, _, _, _, _, _, _, _, q⟩ := z
    exact q
theorem tab_mk {K : PySem.W.Frag} {x name qual : Str} {f cc cP : Addr} {oc ce : Value} {od cd an : Option Addr} {osl csl : Array (Option Value)} {params : Arguments} {body : List Stmt} {scope : Scope} {dV kV doc pm ct : Value} {vs : Array Value} (a : PySem.W.nsIn K mainGlobals x = some (some (.ref f)))
    (l : K.lookup f = some ⟨oc, od, .func (PySem.W.fnOf name qual params body scope dV kV doc pm an (.ref cc) ct), osl⟩) (lc : K.lookup cc = some ⟨ce, cd, .fields vs, csl⟩) (hv : vs[11]? = some (.ref cP)) : PySem.W.tabIn K x = some (cc, cP) := by
  unfold PySem.W.tabIn
  rw [a]
  simp only [l, lc, hv]
/-- .. where one def makes lambdas -/
theorem walkT {l : PySem.W.OpenLaw} {q : Program} {loose : List Str} {XP : (Str → Option Value) → Heap → Prop} {YP : World → Heap → Prop} {d : DefRec} {K : Params → PySem.W.Frag} {k : Nat} {x : Str} (nm : Str) (hn : l.most = some 63) (hdf : d.params.defaults = []) (hr : Room k callerA)
    (hrec : ((recsOf q).any fun e => e.name == nm) = true) (hY : ∀ (w : World) (h : Heap), YP w h → (K w.params).In h)
    (F : ∀ (w : World) (mg : Str → Option Value) (fa : Addr) (h : Heap), (K w.params).In h → h.Ns mainGlobals mg → mg d.name = some (.ref fa) →
      ∃ (c P : Addr), PySem.W.tabIn (K w.params) nm = some (c, P) ∧ (K w.params).lookup P = none ∧ ∃ fd : FuncData, (∀ (s : Shared) (u : Value), BindsTo s fd ⟨[u], []⟩ [(x, u)]) ∧ ∀ base : Heap, (K w.params).In base → base.Ns mainGlobals mg → LamX.TabB base mg c P → FnOk l.prog w (K w.params) mg base (L2.CX l.prog w) k fa fd [x] (spScr (K w.params) [P])) :
    PySem.W.WalkO q loose XP YP l.row.toRowW d [] (fun f vs => PySem.call f vs) := by
  refine Att.attach_callB hn hdf fun w s₀ s₁ mg mb fa o pm cd doc a vs ns G Y ho hd hcd hmg hobj hints hlen hbits hg => ?_
  have KX := hY w _ Y
  obtain ⟨c, P, ht, nP, fd, hb, hF⟩ := F w mg fa _ KX G.T.g hmg
  obtain ⟨dr, hdr⟩ : ∃ dr, (recsOf q).find? (fun e => e.name == nm) = some dr := by
    obtain ⟨e, h1, h2⟩ := List.any_eq_true.mp hrec
    exact Option.isSome_iff_exists.mp (List.find?_isSome.mpr ⟨e, h1, h2⟩)
  obtain ⟨Cc, hP⟩ := PySem.W.tab_of G.T KX hdr ht
  refine LamX.law_callTs (cs := [(c, P)]) (sp := spScr (K w.params) [P]) KX G.T.g G.T.b G.T.builtins G.T.nolimit hg (fun p hp => by rw [List.mem_singleton.mp hp]; exact hP) (fun p hp => by rw [List.mem_singleton.mp hp]; exact nP) (fun p hp => by rw [List.mem_singleton.mp hp]; exact Cc) G.T.bmain hobj hints (Nat.le_trans hlen (by decide)) hr
    (fun base h1 h2 h3 => hF base h1 h2 (h3 _ List.mem_cons_self)) hb (fun H hH hS => ⟨a, ns, rfl, (fun p hp => by rw [List.mem_singleton.mp hp]; exact hH (c, P) List.mem_cons_self), hS, hlen, hbits, fun _ => rfl⟩) fun H e s' z => ?_
  obtain ⟨_, _, _, _, _, _, _, _, _, _, _, _, q⟩ := z
  exact q
end Wc

/-! Wc: for the plain laws: how the evaluator is worked out. -/
namespace Wc
noncomputable section
open PySem
theorem frz_t (n : Nat) (S : Sto) (x : T) : frz n S (.t x) = some (x, S) := by cases n <;> rfl
theorem look_t (S : Sto) (x : T) : look S (.t x) = x.pd := by unfold look; rw [frz_t]
theorem callD_t {C : Cal} {f : Nat} {ds : List D} {ts : List T} {S S1 : Sto} {t : T} (h : pls ds = some ts) (e : C f ds [] = .ok (.t t) S1) : callD C true f ds S = .ok (.t t) S := by
  simp [callD, h, e, frz_t]
theorem call1 {C : Cal} {f : Nat} {a : T} {S S1 : Sto} {t : T} (e : C f [.t a] [] = .ok (.t t) S1) : callD C true f [.t a] S = .ok (.t t) S := callD_t rfl e
theorem call2 {C : Cal} {f : Nat} {a b : T} {S S1 : Sto} {t : T} (e : C f [.t a, .t b] [] = .ok (.t t) S1) : callD C true f [.t a, .t b] S = .ok (.t t) S := callD_t rfl e
theorem call3 {C : Cal} {f : Nat} {a b c : T} {S S1 : Sto} {t : T} (e : C f [.t a, .t b, .t c] [] = .ok (.t t) S1) : callD C true f [.t a, .t b, .t c] S = .ok (.t t) S := callD_t rfl e
/-- a for loop that keeps a promise -/
theorem foL_inv {p : Pt} {b : Ev → Sto → RS} {S : Sto} (P : Nat → Ev → Prop) : ∀ (ds : List D) (k : Nat) (ρ : Ev), P k ρ →
    (∀ i d ρ, ds[i]? = some d → P (k + i) ρ → ∃ ρ1 ρ2, setP p d ρ = some ρ1 ∧ b ρ1 S = .nx ρ2 S ∧ P (k + i + 1) ρ2) → ∃ ρ2, foL p b ds ρ S = .nx ρ2 S ∧ P (k + ds.length) ρ2
  | [], k, ρ, h, _ => ⟨ρ, rfl, h⟩
  | d :: ds, k, ρ, h, s => by
    obtain ⟨ρ1, ρ2, e1, e2, h2⟩ := s 0 d ρ rfl h
    obtain ⟨ρ3, e3, h3⟩ := foL_inv P ds (k + 1) ρ2 h2 fun i d ρ e q => by
      have := s (i + 1) d ρ (by simpa using e) (by rw [show k + (i + 1) = k + 1 + i by omega]; exact q)
      rwa [show k + (i + 1) + 1 = k + 1 + i + 1 by omega] at this
    refine ⟨ρ3, by simp [foL, e1, e2, e3], ?_⟩
    rwa [show k + 1 + ds.length = k + (d :: ds).length by simp; omega] at h3
theorem pMulL {m : Bool} {i j : Int} {S : Sto} (h1 : -(2 ^ 64) < i) (h2 : i < 2 ^ 64) : pBin m .Mult (.t (.int i)) (.t (.int j)) S = .ok (.t (.int (i * j))) S := by
  simp only [pBin]; rw [if_pos (.inl ⟨h1, h2⟩)]
theorem pMulR {m : Bool} {i j : Int} {S : Sto} (h1 : -(2 ^ 64) < j) (h2 : j < 2 ^ 64) : pBin m .Mult (.t (.int i)) (.t (.int j)) S = .ok (.t (.int (i * j))) S := by
  simp only [pBin]; rw [if_pos (.inr (.inl ⟨h1, h2⟩))]
theorem pDiv {m : Bool} {i j : Int} {S : Sto} (h1 : 0 < j) (h2 : j < 1073741824) : pBin m .FloorDiv (.t (.int i)) (.t (.int j)) S = .ok (.t (.int (i / j))) S := by
  simp only [pBin]; rw [if_pos ⟨h1, .inl h2⟩]
theorem pMod {m : Bool} {i j : Int} {S : Sto} (h1 : 0 < j) : pBin m .Mod (.t (.int i)) (.t (.int j)) S = .ok (.t (.int (i % j))) S := by
  simp only [pBin]; rw [if_pos h1]
theorem pPow {m : Bool} {i j : Int} {S : Sto} (h : powOk i j) : pBin m .Pow (.t (.int i)) (.t (.int j)) S = .ok (.t (.int (i ^ j.toNat))) S := by
  simp only [pBin]; rw [if_pos h]
theorem pAddI {m : Bool} {i j : Int} {S : Sto} : pBin m .Add (.t (.int i)) (.t (.int j)) S = .ok (.t (.int (i + j))) S := rfl
theorem pSubI {m : Bool} {i j : Int} {S : Sto} : pBin m .Sub (.t (.int i)) (.t (.int j)) S = .ok (.t (.int (i - j))) S := rfl
theorem pAddS {m : Bool} {a b : Str} {S : Sto} (h : a.length + b.length ≤ lim) : pBin m .Add (.t (.str a)) (.t (.str b)) S = .ok (.t (.str (a ++ b))) S := by
  simp only [pBin, pAdd]; rw [if_pos h]
theorem pIdxS {z : Str} {i : Int} {S : Sto} {c : Nat} (h : z.length ≤ lim) (h1 : ixAt z.cps.toList i = some c) : pIdx (.t (.str z)) (.t (.int i)) S = .ok (.t (.str ⟨#[c]⟩)) S := by
  simp only [pIdx, dctOf]; rw [if_pos h, h1]; rfl
theorem pSlS {z : Str} {lo hi : Option Int} {S : Sto} (h : z.length ≤ lim) : pSl (.t (.str z)) lo hi S = .ok (.t (.str ⟨(cut z.cps.toList lo hi).toArray⟩)) S := by
  simp only [pSl]; rw [if_pos h]
theorem pLenS {z : Str} {S : Sto} (h : z.length ≤ lim) : pBi m .len [.t (.str z)] S = .ok (.t (.int z.length)) S := by
  simp only [pBi, pLen]; rw [if_pos h]
theorem lcL_filt {α : Type} {p : Pt} {ρ : Ev} {cond el : Ev → Sto → R D} {S : Sto} (f : α → D) (c : α → Bool) (g : α → D) : ∀ (l : List α) (acc : List D), acc.length + l.length ≤ lim →
    (∀ a ∈ l, ∃ ρ1, setP p (f a) ρ = some ρ1 ∧ cond ρ1 S = .ok (.t (.bl (c a))) S ∧ (c a = true → el ρ1 S = .ok (g a) S)) → lcL p ρ cond el (l.map f) S acc = .ok (acc ++ (l.filter c).map g) S
  | [], acc, _, _ => by simp [lcL]
  | a :: l, acc, hl, h => by
    obtain ⟨ρ1, e1, e2, e3⟩ := h a List.mem_cons_self
    simp only [List.length_cons] at hl
    have ih := fun acc hl => lcL_filt f c g l acc hl fun a m => h a (List.mem_cons_of_mem _ m)
    cases hc : c a with
    | true =>
      rw [hc] at e2
      have : acc.length < lim := by omega
      simp only [List.map_cons, lcL, e1, e2, e3 hc, this, if_true]
      rw [ih _ (by simp; omega)]
      simp [List.filter_cons, hc]
    | false =>
      rw [hc] at e2
      simp only [List.map_cons, lcL, e1, e2]
      rw [ih _ (by omega)]
      simp [List.filter_cons, hc]
theorem lcL_map {α : Type} {p : Pt} {ρ : Ev} {cond el : Ev → Sto → R D} {S : Sto} (f : α → D) (g : α → D) (l : List α) (acc : List D) (hl : acc.length + l.length ≤ lim)
    (h : ∀ a ∈ l, ∃ ρ1, setP p (f a) ρ = some ρ1 ∧ cond ρ1 S = .ok (.t (.bl true)) S ∧ el ρ1 S = .ok (g a) S) : lcL p ρ cond el (l.map f) S acc = .ok (acc ++ l.map g) S := by
  have := lcL_filt (p := p) (ρ := ρ) (cond := cond) (el := el) (S := S) f (fun _ => true) g l acc hl fun a m => by
    obtain ⟨ρ1, e1, e2, e3⟩ := h a m
    exact ⟨ρ1, e1, e2, fun _ => e3⟩
  rwa [List.filter_eq_self.mpr (by simp)] at this
/-- a for loop that may return early -/
theorem foL_ret {α : Type} {p : Pt} {b : Ev → Sto → RS} {S : Sto} (f : α → D) (P : Ev → Prop) (bad : α → Bool) (r : D) : ∀ (l : List α) (ρ : Ev), P ρ →
    (∀ a ∈ l, ∀ ρ, P ρ → ∃ ρ1, setP p (f a) ρ = some ρ1 ∧ (bad a = true → b ρ1 S = .rt r S) ∧ (bad a = false → ∃ ρ2, b ρ1 S = .nx ρ2 S ∧ P ρ2)) →
    (l.any bad = true → foL p b (l.map f) ρ S = .rt r S) ∧ (l.any bad = false → ∃ ρ2, foL p b (l.map f) ρ S = .nx ρ2 S ∧ P ρ2)
  | [], ρ, h, _ => ⟨fun h => (nomatch h), fun _ => ⟨ρ, rfl, h⟩⟩
  | a :: l, ρ, h, s => by
    obtain ⟨ρ1, e1, t1, t2⟩ := s a List.mem_cons_self ρ h
    cases hb : bad a with
    | true => exact ⟨fun _ => by simp [foL, e1, t1 hb], fun h => by simp [hb] at h⟩
    | false =>
      obtain ⟨ρ2, e2, h2⟩ := t2 hb
      have ih := foL_ret f P bad r l ρ2 h2 fun a m => s a (List.mem_cons_of_mem _ m)
      simp only [List.any_cons, hb, Bool.false_or, List.map_cons, foL, e1, e2]
      exact ih
theorem pls_of {α : Type} (f : α → T) (l : List α) : pls (l.map fun a => D.t (f a)) = some (l.map f) := by
  induction l with
  | nil => rfl
  | cons a l ih => simp [pls, ih]
theorem blsD_of {α : Type} (f : α → Bool) (l : List α) : blsD (l.map fun a => D.t (.bl (f a))) = some (l.map f) := by
  induction l with
  | nil => rfl
  | cons a l ih => simp [blsD, ih]
theorem intsD_of {α : Type} (f : α → Int) (l : List α) : intsD (l.map fun a => D.t (.int (f a))) = some (l.map f) := by
  induction l with
  | nil => rfl
  | cons a l ih => simp [intsD, ih]
/-! ### rows that work from the left: no row has a lambda -/
section
variable (B : Tb) (C : Cal)
def asgI (p : Pt) (ρ : Ev) (r : R D) : RS := match r with
  | .ok d S1 => (match setP p d ρ with
    | some ρ1 => .nx ρ1 S1
    | none => .no)
  | .ex c fs S1 => .ex c fs ρ S1
  | .no => .no
def exI (ρ : Ev) (r : R D) : RS := match r with
  | .ok _ S1 => .nx ρ S1
  | .ex c fs S1 => .ex c fs ρ S1
  | .no => .no
def retI (ρ : Ev) (r : R D) : RS := match r with
  | .ok d S1 => .rt d S1
  | .ex c fs S1 => .ex c fs ρ S1
  | .no => .no
def iteI (a b : ISs) (ρ : Ev) (r : R D) : RS := match r with
  | .ok (.t (.bl true)) S1 => evSs B C a ρ S1
  | .ok (.t (.bl false)) S1 => evSs B C b ρ S1
  | .ex k fs S1 => .ex k fs ρ S1
  | _ => .no
def foI (p : Pt) (k : Ik) (b : ISs) (ρ : Ev) (r : R (List D)) : RS := match r with
  | .ok ds S1 => (match itemsOf k ds S1 with
    | some xs => foL p (evSs B C b) xs ρ S1
    | none => .no)
  | .ex c fs S1 => .ex c fs ρ S1
  | .no => .no
def sqI (r : ISs) (x : RS) : RS := match x with
  | .nx ρ1 S1 => evSs B C r ρ1 S1
  | x => x
def tel (r : RS) : R D := match r with
  | .nx _ S1 => .ok (.t .non) S1
  | .rt d S1 => .ok d S1
  | .ex c fs _ S1 => .ex c fs S1
  | _ => .no
def oj (o : Option (Option D)) (S : Sto) : R D := match o with
  | some (some d) => .ok d S
  | _ => .no
def two (b : IE) (ρ : Ev) (f : D → D → Sto → R D) (r : R D) : R D := r.bind fun x S1 => (evE B C b ρ S1).bind fun y S2 => f x y S2
def twoJ (f : D → D → Sto → R D) (x : D) (r : R D) : R D := r.bind fun y S2 => f x y S2
def andI (b : IE) (ρ : Ev) (r : R D) : R D := r.bind fun x S1 => match x with
    | .t (.bl true) => evE B C b ρ S1
    | .t (.bl false) => .ok (.t (.bl false)) S1
    | _ => .no
def orI (b : IE) (ρ : Ev) (r : R D) : R D := r.bind fun x S1 => match x with
    | .t (.bl true) => .ok (.t (.bl true)) S1
    | .t (.bl false) => evE B C b ρ S1
    | _ => .no
def iteE (a b : IE) (ρ : Ev) (r : R D) : R D := r.bind fun x S1 => match x with
    | .t (.bl true) => evE B C a ρ S1
    | .t (.bl false) => evE B C b ρ S1
    | _ => .no
def notI (r : R D) : R D := r.bind fun x S1 => match x with
    | .t (.bl k) => .ok (.t (.bl (!k))) S1
    | _ => .no
def ch2I (o1 o2 : CmpOp) (b c : IE) (ρ : Ev) (r : R D) : R D := r.bind fun x S1 => (evE B C b ρ S1).bind fun y S2 => (pCmp o1 x y S2).bind fun k S3 => match k with
    | .t (.bl true) => (evE B C c ρ S3).bind fun z S4 => pCmp o2 y z S4
    | .t (.bl false) => .ok (.t (.bl false)) S3
    | _ => .no
def ch2J (o1 o2 : CmpOp) (c : IE) (ρ : Ev) (x : D) (r : R D) : R D := r.bind fun y S2 => (pCmp o1 x y S2).bind fun k S3 => match k with
    | .t (.bl true) => (evE B C c ρ S3).bind fun z S4 => pCmp o2 y z S4
    | .t (.bl false) => .ok (.t (.bl false)) S3
    | _ => .no
def ch2K (o2 : CmpOp) (c : IE) (ρ : Ev) (y : D) (r : R D) : R D := r.bind fun k S3 => match k with
    | .t (.bl true) => (evE B C c ρ S3).bind fun z S4 => pCmp o2 y z S4
    | .t (.bl false) => .ok (.t (.bl false)) S3
    | _ => .no
def ch3I (o1 o2 o3 : CmpOp) (b c d : IE) (ρ : Ev) (r : R D) : R D := r.bind fun x S1 => (evE B C b ρ S1).bind fun y S2 => (pCmp o1 x y S2).bind fun k S3 => match k with
    | .t (.bl true) => (evE B C c ρ S3).bind fun z S4 => (pCmp o2 y z S4).bind fun k S5 => match k with
      | .t (.bl true) => (evE B C d ρ S5).bind fun w S6 => pCmp o3 z w S6
      | .t (.bl false) => .ok (.t (.bl false)) S5
      | _ => .no
    | .t (.bl false) => .ok (.t (.bl false)) S3
    | _ => .no
def ch3J (o1 o2 o3 : CmpOp) (c d : IE) (ρ : Ev) (x : D) (r : R D) : R D := r.bind fun y S2 => (pCmp o1 x y S2).bind fun k S3 => match k with
    | .t (.bl true) => (evE B C c ρ S3).bind fun z S4 => (pCmp o2 y z S4).bind fun k S5 => match k with
      | .t (.bl true) => (evE B C d ρ S5).bind fun w S6 => pCmp o3 z w S6
      | .t (.bl false) => .ok (.t (.bl false)) S5
      | _ => .no
    | .t (.bl false) => .ok (.t (.bl false)) S3
    | _ => .no
def ch3K (o2 o3 : CmpOp) (c d : IE) (ρ : Ev) (y : D) (r : R D) : R D := r.bind fun k S3 => match k with
    | .t (.bl true) => (evE B C c ρ S3).bind fun z S4 => (pCmp o2 y z S4).bind fun k S5 => match k with
      | .t (.bl true) => (evE B C d ρ S5).bind fun w S6 => pCmp o3 z w S6
      | .t (.bl false) => .ok (.t (.bl false)) S5
      | _ => .no
    | .t (.bl false) => .ok (.t (.bl false)) S3
    | _ => .no
def lsI (f : List D → Sto → R D) (r : R (List D)) : R D := r.bind f
def isiI (c : Cl) (r : R D) : R D := r.bind fun x S1 => bl (isiB B.sub S1 x c) S1
def dctI (m : Bool) (r : R (List (Ky × D))) : R D := r.bind fun ps S1 => mkD m (ps.foldl (fun acc p => putKy acc p.1 p.2) []) S1
def slI (lo hi : IE) (ρ : Ev) (r : R D) : R D := r.bind fun x S1 => (evE B C lo ρ S1).bind fun l S2 => match prt lo l with
    | none => .no
    | some l => (evE B C hi ρ S2).bind fun h S3 => match prt hi h with
      | none => .no
      | some h => pSl x l h S3
def slJ (lo hi : IE) (ρ : Ev) (x : D) (r : R D) : R D := r.bind fun l S2 => match prt lo l with
    | none => .no
    | some l => (evE B C hi ρ S2).bind fun h S3 => match prt hi h with
      | none => .no
      | some h => pSl x l h S3
def slK (hi : IE) (x : D) (l : Option Int) (r : R D) : R D := r.bind fun h S3 => match prt hi h with
      | none => .no
      | some h => pSl x l h S3
def s3I (lo hi : IE) (k : Int) (ρ : Ev) (r : R D) : R D := r.bind fun x S1 => (evE B C lo ρ S1).bind fun l S2 => match prt lo l with
    | none => .no
    | some l => (evE B C hi ρ S2).bind fun h S3 => match prt hi h with
      | none => .no
      | some h => pSl3 x l h k S3
def s3J (lo hi : IE) (k : Int) (ρ : Ev) (x : D) (r : R D) : R D := r.bind fun l S2 => match prt lo l with
    | none => .no
    | some l => (evE B C hi ρ S2).bind fun h S3 => match prt hi h with
      | none => .no
      | some h => pSl3 x l h k S3
def s3K (hi : IE) (k : Int) (x : D) (l : Option Int) (r : R D) : R D := r.bind fun h S3 => match prt hi h with
      | none => .no
      | some h => pSl3 x l h k S3
def lcI (m : Bool) (el : IE) (p : Pt) (k : Ik) (cond : IE) (ρ : Ev) (r : R (List D)) : R D := r.bind fun ds S1 => match itemsL (pureE cond && pureE el) k ds S1 with
    | none => .no
    | some xs => (lcL p (wipeL ρ p.own) (evE B C cond) (evE B C el) xs S1 []).bind fun ys S2 => mkL m ys S2
def lcJ (m : Bool) (r : R (List D)) : R D := r.bind fun ys S2 => mkL m ys S2
def esI (es : IEs) (ρ : Ev) (r : R D) : R (List D) := r.bind fun x S1 => (evEs B C es ρ S1).bind fun xs S2 => .ok (x :: xs) S2
def esJ (x : D) (r : R (List D)) : R (List D) := r.bind fun xs S2 => .ok (x :: xs) S2
def psI (v : IE) (t : IEs) (ρ : Ev) (r : R D) : R (List (Ky × D)) := r.bind fun x S1 => (evE B C v ρ S1).bind fun y S2 => match kyOf x with
    | none => .no
    | some ky => (evPs B C t ρ S2).bind fun ps S3 => .ok ((ky, y) :: ps) S3
def psJ (x : D) (t : IEs) (ρ : Ev) (r : R D) : R (List (Ky × D)) := r.bind fun y S2 => match kyOf x with
    | none => .no
    | some ky => (evPs B C t ρ S2).bind fun ps S3 => .ok ((ky, y) :: ps) S3
def bmI (m : Bool) (b : Bm) (es : IEs) (ρ : Ev) (r : R D) : R D := r.bind fun x S1 => if kindD S1 x = bmT b then (evEs B C es ρ S1).bind fun ds S2 => pBm m b x ds S2 else .no
def bmJ (m : Bool) (b : Bm) (x : D) (r : R (List D)) : R D := r.bind fun ds S2 => pBm m b x ds S2
def stiI (o i : IE) (ρ : Ev) (r : R D) : RS := match r with
  | .ok v S1 => (match evE B C o ρ S1 with
      | .ok x S2 => (match evE B C i ρ S2 with
        | .ok y S3 => nxO ρ (pSt x y v S3)
        | .ex c fs S3 => .ex c fs ρ S3
        | .no => .no)
      | .ex c fs S2 => .ex c fs ρ S2
      | .no => .no)
  | .ex c fs S1 => .ex c fs ρ S1
  | .no => .no
def stiJ (i : IE) (ρ : Ev) (v : D) (r : R D) : RS := match r with
  | .ok x S2 => (match evE B C i ρ S2 with
        | .ok y S3 => nxO ρ (pSt x y v S3)
        | .ex c fs S3 => .ex c fs ρ S3
        | .no => .no)
  | .ex c fs S1 => .ex c fs ρ S1
  | .no => .no
def stiK (ρ : Ev) (v x : D) (r : R D) : RS := match r with
  | .ok y S3 => nxO ρ (pSt x y v S3)
  | .ex c fs S1 => .ex c fs ρ S1
  | .no => .no
def attI (f : Str) (r : R D) : R D := r.bind fun x S1 => pAtt B f x S1
def mthO (m : Bool) (f : Str) (es : IEs) (ρ : Ev) (r : R D) : R D := match r with
  | .ok x S1 => (match mthG B f x S1 with
    | some g => (evEs B C es ρ S1).bind fun ds S2 => callD C m g (x :: ds) S2
    | none => .no)
  | _ => .no
def mthI (m : Bool) (g : Nat) (x : D) (r : R (List D)) : R D := r.bind fun ds S2 => callD C m g (x :: ds) S2
def staI (o : IE) (f : Str) (ρ : Ev) (r : R D) : RS := match r with
  | .ok v S1 => (match evE B C o ρ S1 with
      | .ok x S2 => nxO ρ (pFs B f x v S2)
      | .ex c fs S2 => .ex c fs ρ S2
      | .no => .no)
  | .ex c fs S1 => .ex c fs ρ S1
  | .no => .no
def staJ (f : Str) (ρ : Ev) (v : D) (r : R D) : RS := match r with
  | .ok x S2 => nxO ρ (pFs B f x v S2)
  | .ex c fs S2 => .ex c fs ρ S2
  | .no => .no
def psK (ky : Ky) (y : D) (r : R (List (Ky × D))) : R (List (Ky × D)) := r.bind fun ps S3 => .ok ((ky, y) :: ps) S3
end
section
variable {B : Tb} {C : Cal} {ρ ρ1 : Ev} {S S1 : Sto}
theorem s_asg {p : Pt} {e : IE} : evS B C (.asg p e) ρ S = asgI p ρ (evE B C e ρ S) := by rw [evS]; rfl
theorem asg_ok {i : Nat} {d : D} : asgI (.v i) ρ (.ok d S) = .nx (ρ.set i (some d)) S := rfl
theorem asg_tp {is : List Nat} {d : D} {ρ1 : Ev} (h : setP (.tup is) d ρ = some ρ1) : asgI (.tup is) ρ (.ok d S) = .nx ρ1 S := by unfold asgI; simp only [h]
theorem s_ex {e : IE} : evS B C (.ex e) ρ S = exI ρ (evE B C e ρ S) := by rw [evS]; rfl
theorem ex_ok {d : D} : exI ρ (.ok d S) = .nx ρ S := rfl
theorem s_ret {e : IE} : evS B C (.ret e) ρ S = retI ρ (evE B C e ρ S) := by rw [evS]; rfl
theorem ret_ok {d : D} : retI ρ (.ok d S) = .rt d S := rfl
def trI (B : Tb) (C : Cal) (c : Nat) (v : Option Nat) (h : HSs) (el : ISs) (r : RS) : RS := match r with
  | .ex k fs ρ1 S1 => trX B k fs c v h ρ1 S1
  | .nx ρ1 S1 => evSs B C el ρ1 S1
  | r => r
theorem s_tr {b el : ISs} {c : Nat} {v : Option Nat} {h : HSs} : evS B C (.tr b c v h el) ρ S = trI B C c v h el (evSs B C b ρ S) := by rw [evS]; rfl
theorem tr_nx {el : ISs} {c : Nat} {v : Option Nat} {h : HSs} : trI B C c v h el (.nx ρ S) = evSs B C el ρ S := rfl
theorem tr_rt {el : ISs} {c : Nat} {v : Option Nat} {h : HSs} {d : D} : trI B C c v h el (.rt d S) = .rt d S := rfl
theorem tr_ex {el : ISs} {c k : Nat} {v : Option Nat} {h : HSs} {fs} : trI B C c v h el (.ex k fs ρ S) = trX B k fs c v h ρ S := rfl
theorem s_rse {c : Nat} : evS B C (.rse c .nil) ρ S = .ex c [] ρ S := by rw [evS, evEs]
theorem ex_ex {c : Nat} {fs} : exI ρ (.ex c fs S) = .ex c fs ρ S := rfl
theorem callD_ex {f : Nat} {ds : List D} {ts : List T} {c : Nat} {fs} {S1 : Sto} (h : pls ds = some ts) (e : C f ds [] = .ex c fs S1) : callD C true f ds S = .ex c fs S := by
  unfold callD
  simp only [if_true, h, e]
theorem s_retN : evS B C .retN ρ S = .rt (.t .non) S := by rw [evS]
theorem s_brk : evS B C .brk ρ S = .bk ρ S := by rw [evS]
theorem s_cnt : evS B C .cnt ρ S = .ct ρ S := by rw [evS]
theorem s_pas : evS B C .pas ρ S = .nx ρ S := by rw [evS]
theorem s_ite {c : IE} {a b : ISs} : evS B C (.ite c a b) ρ S = iteI B C a b ρ (evE B C c ρ S) := by rw [evS]; rfl
theorem ite_t {a b : ISs} : iteI B C a b ρ (.ok (.t (.bl true)) S) = evSs B C a ρ S := rfl
theorem ite_f {a b : ISs} : iteI B C a b ρ (.ok (.t (.bl false)) S) = evSs B C b ρ S := rfl
noncomputable def folI (B : Tb) (C : Cal) (p : Pt) (b : ISs) (ρ : Ev) (r : R D) : RS := match r with
  | .ok (.ref k) S1 => (match asList S1 (.ref k) with
    | some xs => folL k S1[k]? p (evSs B C b) xs ρ S1
    | none => .no)
  | .ok (.t (.lst ts)) S1 => foL p (evSs B C b) (ts.map .t) ρ S1
  | .ok _ _ => .no
  | .ex c fs S1 => .ex c fs ρ S1
  | .no => .no
theorem s_fol {p : Pt} {e : IE} {b : ISs} : evS B C (.fol p e b) ρ S = folI B C p b ρ (evE B C e ρ S) := by rw [evS]; rfl
theorem folI_ok {p : Pt} {b : ISs} {k : Nat} {ds : List D} (h : S[k]? = some (.lst ds)) : folI B C p b ρ (.ok (.ref k) S) = folL k (some (.lst ds)) p (evSs B C b) ds ρ S := by unfold folI asList; simp only [h]
theorem folI_t {p : Pt} {b : ISs} {ts : List T} : folI B C p b ρ (.ok (.t (.lst ts)) S) = foL p (evSs B C b) (ts.map .t) ρ S := rfl
theorem s_fo {p : Pt} {k : Ik} {es : IEs} {b : ISs} : evS B C (.fo p k es b) ρ S = foI B C p k b ρ (evEs B C es ρ S) := by rw [evS]; rfl
theorem fo_ok {p : Pt} {k : Ik} {b : ISs} {ds xs : List D} (h : itemsOf k ds S = some xs) : foI B C p k b ρ (.ok ds S) = foL p (evSs B C b) xs ρ S := by unfold foI; simp only [h]
theorem s_nil : evSs B C .nil ρ S = .nx ρ S := by rw [evSs]
theorem s_cons {s : IS} {r : ISs} : evSs B C (.cons s r) ρ S = sqI B C r (evS B C s ρ S) := by rw [evSs]; rfl
theorem sq_nx {r : ISs} : sqI B C r (.nx ρ S) = evSs B C r ρ S := rfl
theorem sq_rt {r : ISs} {d : D} : sqI B C r (.rt d S) = .rt d S := rfl
theorem sq_bk {r : ISs} : sqI B C r (.bk ρ S) = .bk ρ S := rfl
theorem sq_ct {r : ISs} : sqI B C r (.ct ρ S) = .ct ρ S := rfl
theorem sq_ex {r : ISs} {c : Nat} {fs} : sqI B C r (.ex c fs ρ S) = .ex c fs ρ S := rfl
theorem tel_nx : tel (.nx ρ S) = .ok (.t .non) S := rfl
theorem tel_rt {d : D} : tel (.rt d S) = .ok d S := rfl
theorem tel_ex {c : Nat} {fs} : tel (.ex c fs ρ S) = .ex c fs S := rfl
theorem r_def {P : Nat → Option Df} {n f : Nat} {d : Df} {ds : List D} (h : P f = some d) (hl : ds.length = d.ps) : cal B P (n + 1) f ds S = tel (evSs B (cal B P n) d.body (ds.map some ++ List.replicate (d.names - ds.length) none) S) := by
  show (match P f with | some d => runDf B (cal B P n) d ds S | none => .no) = _
  rw [h]
  show runDf B (cal B P n) d ds S = _
  unfold runDf
  rw [if_pos hl]
  unfold tel
  cases evSs B (cal B P n) d.body (ds.map some ++ List.replicate (d.names - ds.length) none) S <;> rfl
theorem e_v {i : Nat} : evE B C (.v i) ρ S = oj ρ[i]? S := by rw [evE]; rfl
theorem oj_s {d : D} : oj (some (some d)) S = .ok d S := rfl
theorem e_c {t : T} : evE B C (.c t) ρ S = .ok (.t t) S := by rw [evE]
theorem e_g {x : Str} {t : T} : evE B C (.g x t) ρ S = .ok (.t t) S := by rw [evE]
theorem e_nop : evE B C .nop ρ S = .ok (.t .non) S := by rw [evE]
theorem e_one {e : IE} : evE B C (.one e) ρ S = evE B C e ρ S := by rw [evE]
theorem e_bin {m : Bool} {op : Operator} {a b : IE} : evE B C (.bin m op a b) ρ S = two B C b ρ (pBin m op) (evE B C a ρ S) := by rw [evE]; rfl
theorem e_cmp {op : CmpOp} {a b : IE} : evE B C (.cmp op a b) ρ S = two B C b ρ (pCmp op) (evE B C a ρ S) := by rw [evE]; rfl
theorem e_idx {a b : IE} : evE B C (.idx a b) ρ S = two B C b ρ pIdx (evE B C a ρ S) := by rw [evE]; rfl
theorem two_ok {b : IE} {f : D → D → Sto → R D} {x : D} : two B C b ρ f (.ok x S) = twoJ f x (evE B C b ρ S) := rfl
theorem twoJ_ok {f : D → D → Sto → R D} {x y : D} : twoJ f x (.ok y S) = f x y S := rfl
theorem e_and {a b : IE} : evE B C (.and a b) ρ S = andI B C b ρ (evE B C a ρ S) := by rw [evE]; rfl
theorem and_t {b : IE} : andI B C b ρ (.ok (.t (.bl true)) S) = evE B C b ρ S := rfl
theorem and_f {b : IE} : andI B C b ρ (.ok (.t (.bl false)) S) = .ok (.t (.bl false)) S := rfl
theorem e_or {a b : IE} : evE B C (.or a b) ρ S = orI B C b ρ (evE B C a ρ S) := by rw [evE]; rfl
theorem or_t {b : IE} : orI B C b ρ (.ok (.t (.bl true)) S) = .ok (.t (.bl true)) S := rfl
theorem or_f {b : IE} : orI B C b ρ (.ok (.t (.bl false)) S) = evE B C b ρ S := rfl
theorem e_ite {c a b : IE} : evE B C (.ite c a b) ρ S = iteE B C a b ρ (evE B C c ρ S) := by rw [evE]; rfl
theorem iteE_t {a b : IE} : iteE B C a b ρ (.ok (.t (.bl true)) S) = evE B C a ρ S := rfl
theorem iteE_f {a b : IE} : iteE B C a b ρ (.ok (.t (.bl false)) S) = evE B C b ρ S := rfl
theorem e_not {a : IE} : evE B C (.not a) ρ S = notI (evE B C a ρ S) := by rw [evE]; rfl
theorem not_b {k : Bool} : notI (.ok (.t (.bl k)) S) = .ok (.t (.bl (!k))) S := rfl
theorem e_ch2 {o1 o2 : CmpOp} {a b c : IE} : evE B C (.ch2 o1 o2 a b c) ρ S = ch2I B C o1 o2 b c ρ (evE B C a ρ S) := by rw [evE]; rfl
theorem ch2I_ok {o1 o2 : CmpOp} {b c : IE} {x : D} : ch2I B C o1 o2 b c ρ (.ok x S) = ch2J B C o1 o2 c ρ x (evE B C b ρ S) := rfl
theorem ch2J_ok {o1 o2 : CmpOp} {c : IE} {x y : D} : ch2J B C o1 o2 c ρ x (.ok y S) = ch2K B C o2 c ρ y (pCmp o1 x y S) := rfl
theorem ch2K_t {o2 : CmpOp} {c : IE} {y : D} : ch2K B C o2 c ρ y (.ok (.t (.bl true)) S) = twoJ (pCmp o2) y (evE B C c ρ S) := rfl
theorem ch2K_f {o2 : CmpOp} {c : IE} {y : D} : ch2K B C o2 c ρ y (.ok (.t (.bl false)) S) = .ok (.t (.bl false)) S := rfl
theorem e_ch3 {o1 o2 o3 : CmpOp} {a b c d : IE} : evE B C (.ch3 o1 o2 o3 a b c d) ρ S = ch3I B C o1 o2 o3 b c d ρ (evE B C a ρ S) := by rw [evE]; rfl
theorem ch3I_ok {o1 o2 o3 : CmpOp} {b c d : IE} {x : D} : ch3I B C o1 o2 o3 b c d ρ (.ok x S) = ch3J B C o1 o2 o3 c d ρ x (evE B C b ρ S) := rfl
theorem ch3J_ok {o1 o2 o3 : CmpOp} {c d : IE} {x y : D} : ch3J B C o1 o2 o3 c d ρ x (.ok y S) = ch3K B C o2 o3 c d ρ y (pCmp o1 x y S) := rfl
theorem ch3K_t {o2 o3 : CmpOp} {c d : IE} {y : D} : ch3K B C o2 o3 c d ρ y (.ok (.t (.bl true)) S) = ch2J B C o2 o3 d ρ y (evE B C c ρ S) := rfl
theorem ch3K_f {o2 o3 : CmpOp} {c d : IE} {y : D} : ch3K B C o2 o3 c d ρ y (.ok (.t (.bl false)) S) = .ok (.t (.bl false)) S := rfl
theorem e_tup {es : IEs} : evE B C (.tup es) ρ S = lsI mkT (evEs B C es ρ S) := by rw [evE]; rfl
theorem e_lst {m : Bool} {es : IEs} : evE B C (.lst m es) ρ S = lsI (mkL m) (evEs B C es ρ S) := by rw [evE]; rfl
theorem e_bi {m : Bool} {b : Bi} {es : IEs} : evE B C (.bi m b es) ρ S = lsI (pBi m b) (evEs B C es ρ S) := by rw [evE]; rfl
theorem e_call {m : Bool} {f : Nat} {es : IEs} : evE B C (.call m f es) ρ S = lsI (callD C m f) (evEs B C es ρ S) := by rw [evE]; rfl
theorem e_cv {m : Bool} {i : Nat} {es : IEs} {f : Nat} (h : ρ[i]? = some (some (.t (.fn f)))) (hb : B.isf f = true) : evE B C (.cv m i es) ρ S = lsI (callD C m f) (evEs B C es ρ S) := by
  rw [evE, h]; simp only [hb, if_true]; rfl
theorem lsI_ok {f : List D → Sto → R D} {ds : List D} : lsI f (.ok ds S) = f ds S := rfl
theorem e_dct {m : Bool} {es : IEs} : evE B C (.dct m es) ρ S = dctI m (evPs B C es ρ S) := by rw [evE]; rfl
theorem dct_ok {m : Bool} {ps : List (Ky × D)} : dctI m (.ok ps S) = mkD m (ps.foldl (fun acc p => putKy acc p.1 p.2) []) S := rfl
theorem ps_nil : evPs B C .nil ρ S = .ok [] S := by rw [evPs]
theorem ps_cons {k v : IE} {r : IEs} : evPs B C (.cons k (.cons v r)) ρ S = psI B C v r ρ (evE B C k ρ S) := by rw [evPs]; rfl
theorem psI_ok {v : IE} {r : IEs} {x : D} : psI B C v r ρ (.ok x S) = psJ B C x r ρ (evE B C v ρ S) := rfl
theorem psJ_ok {r : IEs} {x y : D} {k : Ky} (h : kyOf x = some k) : psJ B C x r ρ (.ok y S) = psK k y (evPs B C r ρ S) := by unfold psJ psK; simp only [R.bind_ok, h]
theorem psK_ok {y : D} {k : Ky} {ps} : psK k y (.ok ps S) = .ok ((k, y) :: ps) S := rfl
theorem e_sl {a lo hi : IE} : evE B C (.sl a lo hi) ρ S = slI B C lo hi ρ (evE B C a ρ S) := by rw [evE]; rfl
theorem slI_ok {lo hi : IE} {x : D} : slI B C lo hi ρ (.ok x S) = slJ B C lo hi ρ x (evE B C lo ρ S) := rfl
theorem slJ_ok {lo hi : IE} {x y : D} {l : Option Int} (h : prt lo y = some l) : slJ B C lo hi ρ x (.ok y S) = slK hi x l (evE B C hi ρ S) := by unfold slJ slK; simp only [R.bind_ok, h]
theorem slK_ok {hi : IE} {x y : D} {l h : Option Int} (e : prt hi y = some h) : slK hi x l (.ok y S) = pSl x l h S := by unfold slK; simp only [R.bind_ok, e]
def ssI (r : R D) : R D := r.bind fun x S1 => pSss x S1
theorem e_sss {a : IE} : evE B C (.sss a) ρ S = ssI (evE B C a ρ S) := by rw [evE]; rfl
def lssI (r : R D) : R D := r.bind fun x S1 => pLss x S1
theorem e_lss {a : IE} : evE B C (.lss a) ρ S = lssI (evE B C a ρ S) := by rw [evE]; rfl
theorem lssI_ok {x : D} : lssI (.ok x S) = pLss x S := rfl
theorem ssI_ok {x : D} : ssI (.ok x S) = pSss x S := rfl
theorem e_sl3 {a lo hi : IE} {k : Int} : evE B C (.sl3 a lo hi k) ρ S = s3I B C lo hi k ρ (evE B C a ρ S) := by rw [evE]; rfl
theorem s3I_ok {lo hi : IE} {k : Int} {x : D} : s3I B C lo hi k ρ (.ok x S) = s3J B C lo hi k ρ x (evE B C lo ρ S) := rfl
theorem s3J_c {t : T} {hi : IE} {k : Int} {x : D} {i : Int} : s3J B C (.c t) hi k ρ x (.ok (.t (.int i)) S) = s3K hi k x (some i) (evE B C hi ρ S) := rfl
theorem s3J_n {hi : IE} {k : Int} {x : D} : s3J B C .nop hi k ρ x (.ok (.t .non) S) = s3K hi k x none (evE B C hi ρ S) := rfl
theorem s3K_c {t : T} {k : Int} {x : D} {l : Option Int} {i : Int} : s3K (.c t) k x l (.ok (.t (.int i)) S) = pSl3 x l (some i) k S := rfl
theorem s3K_n {k : Int} {x : D} {l : Option Int} : s3K .nop k x l (.ok (.t .non) S) = pSl3 x l none k S := rfl
theorem e_isi {a : IE} {c : Cl} : evE B C (.isi a c) ρ S = isiI B c (evE B C a ρ S) := by rw [evE]; rfl
theorem isi_ok {c : Cl} {x : D} {k : Bool} (h : isiB B.sub S x c = some k) : isiI B c (.ok x S) = .ok (.t (.bl k)) S := by unfold isiI; simp only [R.bind_ok, h]; rfl
theorem e_lc {m : Bool} {el : IE} {p : Pt} {k : Ik} {es : IEs} {cond : IE} : evE B C (.lc m el p k es cond) ρ S = lcI B C m el p k cond ρ (evEs B C es ρ S) := by rw [evE]; rfl
theorem lcI_ok {m : Bool} {el : IE} {p : Pt} {k : Ik} {cond : IE} {ds xs : List D} (h : itemsOf k ds S = some xs) : lcI B C m el p k cond ρ (.ok ds S) = lcJ m (lcL p (wipeL ρ p.own) (evE B C cond) (evE B C el) xs S []) := by
  have h2 : itemsL (pureE cond && pureE el) k ds S = some xs := by unfold itemsL; simp only [h]
  unfold lcI lcJ; simp only [R.bind_ok, h2]
theorem lcI_okR {m : Bool} {el : IE} {p : Pt} {k : Ik} {cond : IE} {ds xs : List D} (h0 : itemsOf k ds S = none) (hp : (pureE cond && pureE el) = true) (h : itemsR k ds S = some xs) : lcI B C m el p k cond ρ (.ok ds S) = lcJ m (lcL p (wipeL ρ p.own) (evE B C cond) (evE B C el) xs S []) := by
  have h2 : itemsL (pureE cond && pureE el) k ds S = some xs := by unfold itemsL; simp only [h0, hp, if_true, h]
  unfold lcI lcJ; simp only [R.bind_ok, h2]
theorem lcJ_ok {m : Bool} {ys : List D} : lcJ m (.ok ys S) = mkL m ys S := rfl
theorem e_bm {m : Bool} {b : Bm} {o : IE} {es : IEs} : evE B C (.bm m b o es) ρ S = bmI B C m b es ρ (evE B C o ρ S) := by rw [evE]; rfl
theorem bmI_ok {m : Bool} {b : Bm} {es : IEs} {x : D} (h : kindD S x = bmT b) : bmI B C m b es ρ (.ok x S) = bmJ m b x (evEs B C es ρ S) := by unfold bmI bmJ; simp only [R.bind_ok, h, if_true]
theorem bmJ_ok {m : Bool} {b : Bm} {x : D} {ds : List D} : bmJ m b x (.ok ds S) = pBm m b x ds S := rfl
theorem s_sti {o i e : IE} : evS B C (.sti o i e) ρ S = stiI B C o i ρ (evE B C e ρ S) := by rw [evS]; rfl
theorem stiI_ok {o i : IE} {v : D} : stiI B C o i ρ (.ok v S) = stiJ B C i ρ v (evE B C o ρ S) := rfl
theorem stiJ_ok {i : IE} {v x : D} : stiJ B C i ρ v (.ok x S) = stiK ρ v x (evE B C i ρ S) := rfl
theorem stiK_ok {v x y : D} : stiK ρ v x (.ok y S) = nxO ρ (pSt x y v S) := rfl
theorem nxO_s : nxO ρ (some S) = .nx ρ S := rfl
theorem e_att {a : IE} {f : Str} : evE B C (.att a f) ρ S = attI B f (evE B C a ρ S) := by rw [evE]; rfl
theorem attI_ok {f : Str} {x : D} : attI B f (.ok x S) = pAtt B f x S := rfl
theorem e_mth {m : Bool} {o : IE} {f : Str} {es : IEs} : evE B C (.mth m o f es) ρ S = mthO B C m f es ρ (evE B C o ρ S) := by rw [evE]; rfl
theorem mthO_ok {m : Bool} {f : Str} {es : IEs} {x : D} {g : Nat} (h : mthG B f x S = some g) : mthO B C m f es ρ (.ok x S) = mthI C m g x (evEs B C es ρ S) := by unfold mthO mthI; simp only [h]
theorem mthI_ok {m : Bool} {g : Nat} {x : D} {ds : List D} : mthI C m g x (.ok ds S) = callD C m g (x :: ds) S := rfl
theorem e_new {m : Bool} {c g : Nat} {es : IEs} (h : B.ini c = some g) : evE B C (.new m c es) ρ S = lsI (newD B C m c) (evEs B C es ρ S) := by rw [evE, h]; rfl
theorem newD_t {c g : Nat} {ds : List D} {ts : List T} {t : T} {S2 S3 : Sto} (h : B.ini c = some g) (hp : pls ds = some ts) (e : C g (.ref 0 :: ds) [.ins c []] = .ok (.t .non) S2) (f : frz 9 S2 (.ref 0) = some (t, S3)) : newD B C true c ds S = .ok (.t t) S := by
  unfold newD
  simp only [h, hp, e, isNon, f, if_true]
theorem e_pk {f : Nat} {es : IEs} : evE B C (.pk f es) ρ S = lsI (pkD C f) (evEs B C es ρ S) := by rw [evE]; rfl
theorem e_cfn {m : Bool} {cn x : Str} {f : Nat} {es : IEs} : evE B C (.cfn m cn x f es) ρ S = lsI (callD C m f) (evEs B C es ρ S) := by rw [evE]; rfl
def calDd (C : Cal) (m : Bool) (f : Nat) (dv : T) (ds : List D) (S : Sto) : R D := callD C m f (ds ++ [.t dv]) S
theorem e_cald {m : Bool} {f : Nat} {es : IEs} {dv : T} (h : B.dft f = some dv) : evE B C (.cald m f es) ρ S = lsI (calDd C m f dv) (evEs B C es ρ S) := by rw [evE, h]; rfl
def ckwI (B : Tb) (C : Cal) (m : Bool) (f : Nat) (e : IE) (ρ : Ev) (r : R (List D)) : R D := r.bind fun ds S1 => (evE B C e ρ S1).bind fun d S2 => callD C m f (ds ++ [d]) S2
def ckwJ (C : Cal) (m : Bool) (f : Nat) (ds : List D) (r : R D) : R D := r.bind fun d S2 => callD C m f (ds ++ [d]) S2
theorem e_ckw {m : Bool} {f : Nat} {es : IEs} {kn : Str} {e : IE} (h : B.kwn f = some kn) : evE B C (.ckw m f es kn e) ρ S = ckwI B C m f e ρ (evEs B C es ρ S) := by rw [evE, decide_eq_true h]; rfl
theorem ckwI_ok {m : Bool} {f : Nat} {e : IE} {ds : List D} : ckwI B C m f e ρ (.ok ds S) = ckwJ C m f ds (evE B C e ρ S) := rfl
theorem ckwJ_ok {m : Bool} {f : Nat} {ds : List D} {d : D} : ckwJ C m f ds (.ok d S) = callD C m f (ds ++ [d]) S := rfl
theorem calDd_s {m : Bool} {f : Nat} {dv : T} {ds : List D} : calDd C m f dv ds S = callD C m f (ds ++ [.t dv]) S := rfl
def mpkO (B : Tb) (C : Cal) (f : Str) (es : IEs) (ρ : Ev) (r : R D) : R D := match r with
    | .ok x S1 => (match mthG B f x S1 with
      | some g => (evEs B C es ρ S1).bind fun ds S2 => pkD C g (x :: ds) S2
      | none => .no)
    | _ => .no
def mpkI (C : Cal) (g : Nat) (x : D) (r : R (List D)) : R D := r.bind fun ds S2 => pkD C g (x :: ds) S2
theorem e_mpk {o : IE} {f : Str} {es : IEs} : evE B C (.mpk o f es) ρ S = mpkO B C f es ρ (evE B C o ρ S) := by rw [evE]; rfl
theorem mpkO_ok {f : Str} {es : IEs} {x : D} {g : Nat} (h : mthG B f x S = some g) : mpkO B C f es ρ (.ok x S) = mpkI C g x (evEs B C es ρ S) := by unfold mpkO mpkI; simp only [h]
theorem mpkI_ok {g : Nat} {x : D} {ds : List D} : mpkI C g x (.ok ds S) = pkD C g (x :: ds) S := rfl
theorem pkD_s {f : Nat} {ds : List D} {ts : List T} {S' S1 : Sto} {d : D} (h : frzL (frz 9) S ds = some (ts, S')) (e : C f (ts.map .t) [] = .ok d S1) (ha : atomD d = true) : pkD C f ds S = .ok d S := by
  unfold pkD; simp only [h, e, ha, if_true]
def mtdO (B : Tb) (C : Cal) (m : Bool) (f : Str) (es : IEs) (ρ : Ev) (r : R D) : R D := match r with
    | .ok x S1 => (match mthG B f x S1 with
      | some g => (evEs B C es ρ S1).bind fun ds S2 => match B.dft g with
        | some dv => callD C m g (x :: (ds ++ [.t dv])) S2
        | none => .no
      | none => .no)
    | _ => .no
def mtdI (C : Cal) (m : Bool) (g : Nat) (dv : T) (x : D) (r : R (List D)) : R D := r.bind fun ds S2 => callD C m g (x :: (ds ++ [.t dv])) S2
theorem e_mthd {m : Bool} {o : IE} {f : Str} {es : IEs} : evE B C (.mthd m o f es) ρ S = mtdO B C m f es ρ (evE B C o ρ S) := by rw [evE]; rfl
theorem mtdO_ok {m : Bool} {f : Str} {es : IEs} {x : D} {g : Nat} {dv : T} (h : mthG B f x S = some g) (h2 : B.dft g = some dv) : mtdO B C m f es ρ (.ok x S) = mtdI C m g dv x (evEs B C es ρ S) := by unfold mtdO mtdI; simp only [h, h2]
theorem mtdI_ok {m : Bool} {g : Nat} {dv : T} {x : D} {ds : List D} : mtdI C m g dv x (.ok ds S) = callD C m g (x :: (ds ++ [.t dv])) S := rfl
def isoI (B : Tb) (c : Nat) (r : R D) : R D := r.bind fun x S1 => isoD B c x S1
theorem e_iso {a : IE} {c : Nat} : evE B C (.iso a c) ρ S = isoI B c (evE B C a ρ S) := by rw [evE]; rfl
theorem isoI_ok {c : Nat} {x : D} : isoI B c (.ok x S) = isoD B c x S := rfl
def eqtI (r : R D) : R D := r.bind fun x S1 => pEqt x S1
theorem e_eqt {a : IE} : evE B C (.eqt a) ρ S = eqtI (evE B C a ρ S) := by first | (rw [evE]; done) | (rw [evE]; rfl)
theorem eqtI_ok {x : D} : eqtI (.ok x S) = pEqt x S := rfl
theorem e_its {m : Bool} {i j v : Nat} : evE B C (.its m i j v) ρ S = pIts m i j ρ v S := by first | (rw [evE]; done) | (rw [evE]; rfl)
def lrgI (r : R D) : R D := r.bind fun x S1 => pLrg x S1
theorem e_lrg {a : IE} : evE B C (.lrg a) ρ S = lrgI (evE B C a ρ S) := by rw [evE]; rfl
theorem lrgI_ok {x : D} : lrgI (.ok x S) = pLrg x S := rfl
theorem setP_n2 {i j k : Nat} {a b c : T} : setP (.nst i [j, k]) (.t (.tup [a, .tup [b, c]])) ρ = some (((ρ.set i (some (.t a))).set j (some (.t b))).set k (some (.t c))) := rfl
theorem s_sta {o e : IE} {f : Str} : evS B C (.sta o f e) ρ S = staI B C o f ρ (evE B C e ρ S) := by rw [evS]; rfl
theorem staI_ok {o : IE} {f : Str} {v : D} : staI B C o f ρ (.ok v S) = staJ B f ρ v (evE B C o ρ S) := rfl
theorem staJ_ok {f : Str} {v x : D} : staJ B f ρ v (.ok x S) = nxO ρ (pFs B f x v S) := rfl
theorem s_wh {c : IE} {b : ISs} : evS B C (.wh c b) ρ S = whL (evE B C c) (evSs B C b) wf ρ S := by rw [evS]
theorem es_nil : evEs B C .nil ρ S = .ok [] S := by rw [evEs]
theorem es_cons {e : IE} {es : IEs} : evEs B C (.cons e es) ρ S = esI B C es ρ (evE B C e ρ S) := by rw [evEs]; rfl
theorem esI_ok {es : IEs} {x : D} : esI B C es ρ (.ok x S) = esJ x (evEs B C es ρ S) := rfl
theorem esJ_ok {x : D} {xs : List D} : esJ x (.ok xs S) = .ok (x :: xs) S := rfl
end
theorem pAddL {xs ys : List T} {S : Sto} (h : xs.length + ys.length ≤ lim) : pBin false .Add (.t (.lst xs)) (.t (.lst ys)) S = .ok (.t (.lst (xs ++ ys))) S := by
  have h' : (xs.map D.t).length + (ys.map D.t).length ≤ lim := by simpa using h
  simp only [pBin, pAdd, asList, if_pos h', mkL, ← List.map_append, pls_map, Bool.false_eq_true, if_false]
theorem pIdxL {xs : List T} {i : Int} {x : T} {S : Sto} (h : ixAt xs i = some x) : pIdx (.t (.lst xs)) (.t (.int i)) S = .ok (.t x) S := by
  have : ixAt (xs.map D.t) i = some (.t x) := by
    unfold ixAt at h ⊢
    split at h
    · rename_i c; rw [if_pos c, List.getElem?_map, h]; rfl
    · rename_i c
      split at h
      · rename_i c2; rw [if_neg c, if_pos (by simpa using c2), List.getElem?_map]; simp only [List.length_map]; rw [h]; rfl
      · cases h
  simp only [pIdx, dctOf, seqOf, this, opt]
theorem ixAt_in {α : Type} {xs : List α} {i : Int} (h : 0 ≤ i) (h2 : i < xs.length) : ∃ x, ixAt xs i = some x ∧ x ∈ xs := by
  have : i.toNat < xs.length := by omega
  exact ⟨xs[i.toNat], by unfold ixAt; rw [if_pos h]; exact List.getElem?_eq_getElem this, List.getElem_mem this⟩
theorem mkL_t {ts : List T} {ds : List D} {S : Sto} (h : pls ds = some ts) : mkL false ds S = .ok (.t (.lst ts)) S := by simp only [mkL, h, Bool.false_eq_true, if_false]
theorem mkT_t {ts : List T} {ds : List D} {S : Sto} (h : pls ds = some ts) : mkT ds S = .ok (.t (.tup ts)) S := by simp only [mkT, h]
theorem pEqI {a b : Int} {S : Sto} : pCmp .Eq (.t (.int a)) (.t (.int b)) S = .ok (.t (.bl (decide (a = b)))) S := by
  simp [pCmp, eqD, look_t, T.pd, SeqAt.shaped, PyData.canLay0, PyData.depth, PyData.eqv, bl, BEq.beq]
theorem pNeI {a b : Int} {S : Sto} : pCmp .NotEq (.t (.int a)) (.t (.int b)) S = .ok (.t (.bl (!decide (a = b)))) S := by
  simp [pCmp, eqD, look_t, T.pd, SeqAt.shaped, PyData.canLay0, PyData.depth, PyData.eqv, bl, BEq.beq]
theorem pEqS {a b : Str} {S : Sto} (ha : PyData.strOk a = true) (hb : PyData.strOk b = true) : pCmp .Eq (.t (.str a)) (.t (.str b)) S = .ok (.t (.bl (decide (a = b)))) S := by
  simp [pCmp, eqD, look_t, T.pd, SeqAt.shaped, PyData.canLay0, PyData.depth, PyData.eqv, bl, BEq.beq, ha, hb]
theorem pNeS {a b : Str} {S : Sto} (ha : PyData.strOk a = true) (hb : PyData.strOk b = true) : pCmp .NotEq (.t (.str a)) (.t (.str b)) S = .ok (.t (.bl (!decide (a = b)))) S := by
  simp [pCmp, eqD, look_t, T.pd, SeqAt.shaped, PyData.canLay0, PyData.depth, PyData.eqv, bl, BEq.beq, ha, hb]
theorem cut_len {α : Type} (xs : List α) (lo hi : Option Int) : (cut xs lo hi).length ≤ xs.length := by
  unfold cut; simp only [List.length_take, List.length_drop]; omega
theorem Str.len_app (a b : Str) : (a ++ b).length = a.length + b.length := by
  show (a.cps ++ b.cps).size = _
  simp [Str.length]
theorem frzL_t (n : Nat) (S : Sto) : ∀ l : List T, frzL (frz n) S (l.map .t) = some (l, S)
  | [] => rfl
  | x :: l => by simp only [List.map_cons, frzL, frz_t, frzL_t n S l]
theorem frz_lst {S : Sto} {k : Nat} {l : List T} (h : S[k]? = some (.lst (l.map .t))) : frz 9 S (.ref k) = some (.lst l, S.set k .dead) := by
  have ha : alive S k = true := by unfold alive; rw [h]
  simp only [frz, h, frzL_t, ha, if_true]
theorem e_frz {B : Tb} {C : Cal} {e : IE} {ρ : Ev} {S S1 S2 : Sto} {x : D} {t : T} (h : evE B C e ρ S = .ok x S1) (h2 : frz 9 S1 x = some (t, S2)) : evE B C (.frz e) ρ S = .ok (.t t) S2 := by
  rw [evE, h]; simp only [R.bind_ok, h2]
theorem callD_f {C : Cal} {f : Nat} {ds : List D} {S : Sto} : callD C false f ds S = C f ds S := rfl
theorem Str.len_cps (z : Str) : z.length = z.cps.toList.length := by simp [Str.length]
end
end Wc

/-! Wc: plain kinds of things as data: when two are equal, in, index. -/
namespace Wc
noncomputable section
open PySem
/-- things of a kind are told apart by == -/
structure Enc {α : Type} (n : Nat) (f : α → T) where
  pd : α → PyData
  ok : ∀ a, (f a).pd = some (pd a)
  lay : ∀ a, (pd a).canLay0 = true
  dep : ∀ a, (pd a).depth ≤ n
  eq : ∀ a b, PyData.eqv (pd a) (pd b) = true ↔ a = b
def opT : Option Int → T
  | none => .non
  | some i => .int i
def encInt : Enc 0 T.int := ⟨fun i => .int i, fun _ => rfl, fun _ => rfl, fun _ => Nat.le_refl _, fun a b => by simp [PyData.eqv]⟩
def encBl : Enc 0 T.bl := ⟨fun i => .bool i, fun _ => rfl, fun _ => rfl, fun _ => Nat.le_refl _, fun a b => by simp [PyData.eqv]⟩
def encOpt : Enc 0 opT := ⟨fun | none => .none | some i => .int i, fun a => by cases a <;> rfl, fun a => by cases a <;> rfl, fun a => by cases a <;> exact Nat.le_refl _,
  fun a b => by cases a <;> cases b <;> simp [PyData.eqv]⟩
theorem encs_ok {α : Type} {n : Nat} {f : α → T} (E : Enc n f) : ∀ l : List α, T.pds (l.map f) = some (l.map E.pd)
  | [] => rfl
  | a :: l => by simp only [List.map_cons, T.pds, E.ok, encs_ok E l]
theorem encs_lay {α : Type} {n : Nat} {f : α → T} (E : Enc n f) : ∀ l : List α, PyData.canLayAll0 (l.map E.pd) = true
  | [] => rfl
  | a :: l => by simp only [List.map_cons, PyData.canLayAll0, E.lay, encs_lay E l, Bool.and_self]
theorem encs_dep {α : Type} {n : Nat} {f : α → T} (E : Enc n f) : ∀ l : List α, PyData.depthAll (l.map E.pd) ≤ n
  | [] => Nat.zero_le _
  | a :: l => by simp only [List.map_cons, PyData.depthAll]; exact Nat.max_le.mpr ⟨E.dep a, encs_dep E l⟩
theorem encs_eq {α : Type} {n : Nat} {f : α → T} (E : Enc n f) : ∀ l m : List α, PyData.eqvAll (l.map E.pd) (m.map E.pd) = true ↔ l = m
  | [], [] => by simp [PyData.eqvAll]
  | [], b :: m => by simp [PyData.eqvAll]
  | a :: l, [] => by simp [PyData.eqvAll]
  | a :: l, b :: m => by simp only [List.map_cons, PyData.eqvAll, Bool.and_eq_true, E.eq, encs_eq E l m, List.cons.injEq]
def encLst {α : Type} {n : Nat} {f : α → T} (E : Enc n f) : Enc (n + 1) (fun l : List α => T.lst (l.map f)) :=
  ⟨fun l => .list (l.map E.pd), fun l => by simp only [T.pd, encs_ok E l, Option.map_some], fun l => by simp only [PyData.canLay0]; exact encs_lay E l,
   fun l => by simp only [PyData.depth]; exact Nat.succ_le_succ (encs_dep E l), fun l m => by simp only [PyData.eqv]; exact encs_eq E l m⟩
def encTupL {α : Type} {n : Nat} {f : α → T} (E : Enc n f) : Enc (n + 1) (fun l : List α => T.tup (l.map f)) :=
  ⟨fun l => .tuple (l.map E.pd), fun l => by simp only [T.pd, encs_ok E l, Option.map_some], fun l => by simp only [PyData.canLay0]; exact encs_lay E l,
   fun l => by simp only [PyData.depth]; exact Nat.succ_le_succ (encs_dep E l), fun l m => by simp only [PyData.eqv]; exact encs_eq E l m⟩
def encTup2 {α β : Type} {n m : Nat} {f : α → T} {g : β → T} (E : Enc n f) (F : Enc m g) : Enc (max n m + 1) (fun x : α × β => T.tup [f x.1, g x.2]) :=
  ⟨fun x => .tuple [E.pd x.1, F.pd x.2], fun x => by simp only [T.pd, T.pds, E.ok, F.ok, Option.map_some], fun x => by simp only [PyData.canLay0, PyData.canLayAll0, E.lay, F.lay, Bool.and_self],
   fun x => by
    have := E.dep x.1; have := F.dep x.2
    simp only [PyData.depth, PyData.depthAll]; omega,
   fun x y => by simp only [PyData.eqv, PyData.eqvAll, Bool.and_true, Bool.and_eq_true, E.eq, F.eq]; exact ⟨fun h => Prod.ext h.1 h.2, fun h => h ▸ ⟨rfl, rfl⟩⟩⟩
def encTup3 {α β γ : Type} {n m k : Nat} {f : α → T} {g : β → T} {h : γ → T} (E : Enc n f) (F : Enc m g) (G : Enc k h) : Enc (max n (max m k) + 1) (fun x : α × β × γ => T.tup [f x.1, g x.2.1, h x.2.2]) :=
  ⟨fun x => .tuple [E.pd x.1, F.pd x.2.1, G.pd x.2.2], fun x => by simp only [T.pd, T.pds, E.ok, F.ok, G.ok, Option.map_some], fun x => by simp only [PyData.canLay0, PyData.canLayAll0, E.lay, F.lay, G.lay, Bool.and_self],
   fun x => by
    have := E.dep x.1; have := F.dep x.2.1; have := G.dep x.2.2
    simp only [PyData.depth, PyData.depthAll]; omega,
   fun x y => by simp only [PyData.eqv, PyData.eqvAll, Bool.and_true, Bool.and_eq_true, E.eq, F.eq, G.eq]; exact ⟨fun h => Prod.ext h.1 (Prod.ext h.2.1 h.2.2), fun h => h ▸ ⟨rfl, rfl, rfl⟩⟩⟩
section
variable {α : Type} {n : Nat} {f : α → T} (E : Enc n f) {S : Sto}
include E
theorem Enc.shaped (hn : n ≤ 64) (a : α) : SeqAt.shaped (E.pd a) = true := by
  unfold SeqAt.shaped; rw [E.lay, decide_eq_true (Nat.le_trans (E.dep a) hn)]; rfl
theorem Enc.look (a : α) : look S (.t (f a)) = some (E.pd a) := by rw [look_t, E.ok]
theorem eqD_enc [DecidableEq α] (hn : n ≤ 64) (a b : α) : eqD (.t (f a)) (.t (f b)) S = some (decide (a = b)) := by
  unfold eqD
  simp only [E.look, E.shaped hn, Bool.and_self, if_true]
  congr 1
  by_cases h : a = b
  · rw [decide_eq_true h]; exact (E.eq a b).mpr h
  · rw [decide_eq_false h]; cases h2 : PyData.eqv (E.pd a) (E.pd b) with
    | false => rfl
    | true => exact absurd ((E.eq a b).mp h2) h
theorem pEq_enc [DecidableEq α] (hn : n ≤ 64) (a b : α) : pCmp .Eq (.t (f a)) (.t (f b)) S = .ok (.t (.bl (decide (a = b)))) S := by
  simp only [pCmp, eqD_enc E hn, bl]
theorem pNe_enc [DecidableEq α] (hn : n ≤ 64) (a b : α) : pCmp .NotEq (.t (f a)) (.t (f b)) S = .ok (.t (.bl (!decide (a = b)))) S := by
  simp only [pCmp, eqD_enc E hn, bl, Option.map_some]
theorem Enc.eqvd [DecidableEq α] (a b : α) : PyData.eqv (E.pd a) (E.pd b) = decide (a = b) := by
  by_cases h : a = b
  · rw [decide_eq_true h]; exact (E.eq a b).mpr h
  · rw [decide_eq_false h]; cases h2 : PyData.eqv (E.pd a) (E.pd b) with
    | false => rfl
    | true => exact absurd ((E.eq a b).mp h2) h
theorem pIn_enc [DecidableEq α] (hn : n ≤ 63) (a : α) (l : List α) : pCmp .In (.t (f a)) (.t (.lst (l.map f))) S = .ok (.t (.bl (decide (a ∈ l)))) S := by
  have e1 : Wc.look S (.t (.lst (l.map f))) = some (.list (l.map E.pd)) := (encLst E).look l
  have e2 : SeqAt.shaped (.list (l.map E.pd)) = true := (encLst E).shaped (by omega) l
  have e3 : ((l.map E.pd).any fun z => PyData.eqv z (E.pd a)) = decide (a ∈ l) := by
    rw [List.any_map]
    rw [Bool.eq_iff_iff]
    simp only [List.any_eq_true, Function.comp_apply, E.eq, decide_eq_true_eq]
    exact ⟨fun ⟨x, hx, e⟩ => e ▸ hx, fun h => ⟨a, h, rfl⟩⟩
  have e4 : inD (.t (f a)) (.t (.lst (l.map f))) S = some (decide (a ∈ l)) := by
    simp only [inD, dctOf, E.look, e1, e2, E.shaped (by omega : n ≤ 64), Bool.and_self, if_true, e3]
  simp only [pCmp, e4, bl]
theorem pNin_enc [DecidableEq α] (hn : n ≤ 63) (a : α) (l : List α) : pCmp .NotIn (.t (f a)) (.t (.lst (l.map f))) S = .ok (.t (.bl (!decide (a ∈ l)))) S := by
  have := pIn_enc E (S := S) hn a l
  simp only [pCmp] at this ⊢
  cases e : inD (.t (f a)) (.t (.lst (l.map f))) S with
  | none => rw [e] at this; cases this
  | some b => rw [e] at this; simp only [bl] at this ⊢; cases this; rfl
theorem pIn_t (hn : n ≤ 63) {a : α} {l : List α} (h : a ∈ l) : pCmp .In (.t (f a)) (.t (.lst (l.map f))) S = .ok (.t (.bl true)) S := by
  classical
  rw [pIn_enc E hn a l, decide_eq_true h]
theorem pIn_f (hn : n ≤ 63) {a : α} {l : List α} (h : a ∉ l) : pCmp .In (.t (f a)) (.t (.lst (l.map f))) S = .ok (.t (.bl false)) S := by
  classical
  rw [pIn_enc E hn a l, decide_eq_false h]
theorem pNin_t (hn : n ≤ 63) {a : α} {l : List α} (h : a ∉ l) : pCmp .NotIn (.t (f a)) (.t (.lst (l.map f))) S = .ok (.t (.bl true)) S := by
  classical
  rw [pNin_enc E hn a l, decide_eq_false h]; rfl
theorem pNin_f (hn : n ≤ 63) {a : α} {l : List α} (h : a ∈ l) : pCmp .NotIn (.t (f a)) (.t (.lst (l.map f))) S = .ok (.t (.bl false)) S := by
  classical
  rw [pNin_enc E hn a l, decide_eq_true h]; rfl
theorem pIndex_enc [DecidableEq α] (hn : n ≤ 63) (a : α) (l : List α) {j : Nat} (h : l.findIdx? (fun z => decide (z = a)) = some j) : pBm false .index (.t (.lst (l.map f))) [.t (f a)] S = .ok (.t (.int (j : Nat))) S := by
  have e1 : Wc.look S (.t (.lst (l.map f))) = some (.list (l.map E.pd)) := (encLst E).look l
  have e2 : SeqAt.shaped (.list (l.map E.pd)) = true := (encLst E).shaped (by omega) l
  have e3 : ((l.map E.pd).findIdx? fun z => PyData.eqv z (E.pd a)) = some j := by
    rw [List.findIdx?_map, ← h]
    congr 1
    funext z
    exact E.eqvd z a
  simp only [pBm, pInd, E.look, e1, e2, E.shaped (by omega : n ≤ 64), Bool.and_self, if_true, e3]
end
theorem pIs_opt (o : Option Int) (S : Sto) : pCmp .Is (.t (opT o)) (.t .non) S = .ok (.t (.bl o.isNone)) S := by cases o <;> rfl
theorem pIsN_opt (o : Option Int) (S : Sto) : pCmp .IsNot (.t (opT o)) (.t .non) S = .ok (.t (.bl o.isSome)) S := by cases o <;> rfl
theorem pLt (a b : Int) (S : Sto) : pCmp .Lt (.t (.int a)) (.t (.int b)) S = .ok (.t (.bl (decide (a < b)))) S := rfl
theorem pLe (a b : Int) (S : Sto) : pCmp .LtE (.t (.int a)) (.t (.int b)) S = .ok (.t (.bl (decide (a ≤ b)))) S := rfl
theorem pGt (a b : Int) (S : Sto) : pCmp .Gt (.t (.int a)) (.t (.int b)) S = .ok (.t (.bl (decide (b < a)))) S := rfl
theorem pGe (a b : Int) (S : Sto) : pCmp .GtE (.t (.int a)) (.t (.int b)) S = .ok (.t (.bl (decide (b ≤ a)))) S := rfl
theorem pLenL (m : Bool) (l : List T) (S : Sto) : pBi m .len [.t (.lst l)] S = .ok (.t (.int l.length)) S := by
  show R.ok (D.t (.int ((l.map D.t).length : Nat))) _ = _
  rw [List.length_map]
theorem pLenT (m : Bool) (l : List T) (S : Sto) : pBi m .len [.t (.tup l)] S = .ok (.t (.int l.length)) S := by
  show R.ok (D.t (.int ((l.map D.t).length : Nat))) _ = _
  rw [List.length_map]
theorem pListL (l : List T) (S : Sto) : pBi false .list [.t (.lst l)] S = .ok (.t (.lst l)) S := mkL_t (pls_map l)
theorem pSumL (m : Bool) (l : List Int) (S : Sto) : pBi m .sum [.t (.lst (l.map .int))] S = .ok (.t (.int l.sum)) S := by
  have : intsD ((l.map T.int).map D.t) = some l := by
    have := intsD_of (fun i : Int => i) l
    simpa [Function.comp_def] using this
  simp only [pBi, asList, Option.bind_some, this]
theorem pMin (m : Bool) (a b : Int) (S : Sto) : pBi m .min [.t (.int a), .t (.int b)] S = .ok (.t (.int (min a b))) S := rfl
theorem pMax (m : Bool) (a b : Int) (S : Sto) : pBi m .max [.t (.int a), .t (.int b)] S = .ok (.t (.int (max a b))) S := rfl
theorem itR (n : Int) (S : Sto) (h : -(2 ^ 62) ≤ n) (h2 : n < 2 ^ 62) : itemsOf .rng [.t (.int n)] S = some ((List.range n.toNat).map fun (i : Nat) => .t (.int (i : Int))) := by
  simp only [itemsOf, if_pos (⟨h, h2⟩ : -(2 ^ 62) ≤ n ∧ n < 2 ^ 62)]
theorem itRN (n : Nat) (S : Sto) (h2 : n < 2 ^ 62) : itemsOf .rng [.t (.int n)] S = some ((List.range n).map fun (i : Nat) => .t (.int (i : Int))) := by
  rw [itR _ _ (by omega) (by omega), Int.toNat_natCast]
theorem itL (l : List T) (S : Sto) : itemsOf .seq [.t (.lst l)] S = some (l.map .t) := rfl
theorem itTu (l : List T) (S : Sto) : itemsOf .seq [.t (.tup l)] S = some (l.map .t) := rfl
theorem sIx_n (n d i : Nat) : sIx n d (some (i : Int)) = min i n := by
  show (if (i : Int) < 0 then ((i : Int) + n).toNat else min (i : Int).toNat n) = _
  rw [if_neg (by omega), Int.toNat_natCast]
theorem cut_from {α : Type} (xs : List α) (i : Nat) (h : i ≤ xs.length) : cut xs (some (i : Int)) none = xs.drop i := by
  have e1 : sIx xs.length 0 (some (i : Int)) = i := by rw [sIx_n]; exact Nat.min_eq_left h
  have e2 : sIx xs.length xs.length none = xs.length := rfl
  unfold cut
  have h1 : (xs.drop i).length ≤ xs.length - i := by simp
  rw [e1, e2, List.take_of_length_le h1]
theorem cut_to {α : Type} (xs : List α) (i : Nat) : cut xs none (some (i : Int)) = xs.take i := by
  have e1 : sIx xs.length xs.length (some (i : Int)) = min i xs.length := sIx_n _ _ _
  have e2 : sIx xs.length 0 none = 0 := rfl
  unfold cut
  rw [e1, e2]
  simp only [List.drop_zero, Nat.sub_zero]
  by_cases c : i ≤ xs.length
  · rw [Nat.min_eq_left c]
  · rw [Nat.min_eq_right (by omega), List.take_length, List.take_of_length_le (by omega)]
theorem cut_ft {α : Type} (xs : List α) (i j : Nat) (h : i ≤ xs.length) : cut xs (some (i : Int)) (some (j : Int)) = (xs.drop i).take (j - i) := by
  have e1 : sIx xs.length 0 (some (i : Int)) = i := by rw [sIx_n]; exact Nat.min_eq_left h
  have e2 : sIx xs.length xs.length (some (j : Int)) = min j xs.length := sIx_n _ _ _
  unfold cut
  rw [e1, e2]
  by_cases c : j ≤ xs.length
  · rw [Nat.min_eq_left c]
  · have h1 : (xs.drop i).length ≤ xs.length - i := by simp
    have h2 : (xs.drop i).length ≤ j - i := by simp; omega
    rw [Nat.min_eq_right (by omega), List.take_of_length_le h1, List.take_of_length_le h2]
theorem cut_map {α β : Type} (f : α → β) (l : List α) (lo hi : Option Int) : cut (l.map f) lo hi = (cut l lo hi).map f := by
  unfold cut; simp [List.map_take, List.map_drop]
theorem pSlL (l : List T) (lo hi : Option Int) (S : Sto) : pSl (.t (.lst l)) lo hi S = .ok (.t (.lst (cut l lo hi))) S := by
  show mkL false (cut (l.map D.t) lo hi) S = _
  rw [cut_map, mkL_t (pls_map _)]
/-! ### one list in the store -/
theorem ref_ixm1 (acc : List D) (c : D) : pIdx (.ref 0) (.t (.int (-1))) [.lst (acc ++ [c])] = .ok c [.lst (acc ++ [c])] := by
  show opt (ixAt (acc ++ [c]) (-1)) _ = _
  unfold ixAt
  rw [if_neg (by decide), if_pos (by simp; omega)]
  have : ((-1 : Int) + ((acc ++ [c]).length : Nat)).toNat = acc.length := by simp; omega
  rw [this]
  simp [opt]
theorem ref_app (acc : List D) (y : D) (h : acc.length < lim) : pBm false .append (.ref 0) [y] [.lst acc] = .ok (.t .non) [.lst (acc ++ [y])] := by
  show (if acc.length < lim then _ else _) = _
  rw [if_pos h]; rfl
theorem ref_kind (xs : List D) : kindD [.lst xs] (.ref 0) = bmT .append := rfl
theorem pIdxI {l : List Int} {i x : Int} {S : Sto} (h : ixAt l i = some x) : pIdx (.t (.lst (l.map .int))) (.t (.int i)) S = .ok (.t (.int x)) S := pIdxL (by
  unfold ixAt at h ⊢
  simp only [List.length_map, List.getElem?_map] at h ⊢
  split at h
  · rename_i c; rw [if_pos c, h]; rfl
  · rename_i c
    split at h
    · rename_i c2; rw [if_neg c, if_pos c2, h]; rfl
    · cases h)
theorem pSrtI (m : List Int) (S : Sto) : pBi false .sorted [.t (.lst (m.map .int))] S = .ok (.t (.lst ((srtI m).map .int))) S := by
  have : intsD ((m.map T.int).map D.t) = some m := by
    have := intsD_of (fun i : Int => i) m
    simpa [Function.comp_def] using this
  simp only [pBi, asList, Option.bind_some, this]
  have h2 : pls ((srtI m).map fun n => D.t (.int n)) = some ((srtI m).map .int) := pls_of (fun n => T.int n) _
  rw [mkL_t h2]
theorem pMaxL (n : Int) (ns : List Int) (m : Bool) (S : Sto) : pBi m .max [.t (.lst ((n :: ns).map .int))] S = .ok (.t (.int (ns.foldl max n))) S := by
  have : intsD (((n :: ns).map T.int).map D.t) = some (n :: ns) := by
    have := intsD_of (fun i : Int => i) (n :: ns)
    simpa [Function.comp_def] using this
  show pMx max _ S = _
  unfold pMx
  simp only [asList, Option.bind_some, this]
theorem pMinL (n : Int) (ns : List Int) (m : Bool) (S : Sto) : pBi m .min [.t (.lst ((n :: ns).map .int))] S = .ok (.t (.int (ns.foldl min n))) S := by
  have : intsD (((n :: ns).map T.int).map D.t) = some (n :: ns) := by
    have := intsD_of (fun i : Int => i) (n :: ns)
    simpa [Function.comp_def] using this
  show pMx min _ S = _
  unfold pMx
  simp only [asList, Option.bind_some, this]
theorem pSlScr (ns : List Int) (lo hi : Option Int) (S : Sto) : pSl (.t (.scr ns)) lo hi S = .ok (.t (.lst ((cut ns lo hi).map .int))) S := rfl
theorem itLI (l : List Int) (S : Sto) : itemsOf .seq [.t (.lst (l.map .int))] S = some (l.map fun i => .t (.int i)) := by
  show some ((l.map T.int).map D.t) = _
  simp [Function.comp_def]
theorem itLF {α : Type} (f : α → T) (l : List α) (S : Sto) : itemsOf .seq [.t (.lst (l.map f))] S = some (l.map fun i => .t (f i)) := by
  show some ((l.map f).map D.t) = _
  simp [Function.comp_def]
theorem mkL_ints (l : List Int) (S : Sto) : mkL false (l.map fun i => .t (.int i)) S = .ok (.t (.lst (l.map .int))) S := mkL_t (pls_of (fun i => T.int i) l)
end
end Wc

/-! Wc: rows that want a side condition (omega finds it), lists at hand gone through one by one. -/
namespace Wc
noncomputable section
open PySem
section
variable {B : Tb} {C : Cal} {ρ ρ1 : Ev} {S S1 : Sto}
theorem pPowL {m : Bool} {i j : Int} (h : 0 ≤ j) (h2 : j ≤ 1000000) (h3 : -(2 ^ 63) < i) (h4 : i < 2 ^ 63) : pBin m .Pow (.t (.int i)) (.t (.int j)) S = .ok (.t (.int (i ^ j.toNat))) S :=
  pPow ⟨h, h2, by omega⟩
theorem pShrI {m : Bool} {a i : Int} (h : 0 ≤ i) : pBin m .RShift (.t (.int a)) (.t (.int i)) S = .ok (.t (.int (a / 2 ^ i.toNat))) S := by
  have : pBin m .RShift (.t (.int a)) (.t (.int i)) S = if 0 ≤ i then .ok (.t (.int (a / 2 ^ i.toNat))) S else .no := rfl
  rw [this, if_pos h]
theorem decT {p : Prop} {_ : Decidable p} (h : p) : decide p = true := decide_eq_true h
theorem decF {p : Prop} {_ : Decidable p} (h : ¬ p) : decide p = false := decide_eq_false h
/-! ### displays -/
def plC (x : T) (r : Option (List T)) : Option (List T) := r.map (x :: ·)
theorem pls_nl : pls [] = some [] := rfl
theorem pls_tp {xs r : List D} : pls (.tup xs :: r) = none := rfl
theorem pls_rf {k : Nat} {r : List D} : pls (.ref k :: r) = none := rfl
theorem pls_cs {x : T} {r : List D} : pls (.t x :: r) = plC x (pls r) := rfl
theorem plC_n {x : T} : plC x none = none := rfl
theorem plC_s {x : T} {ts : List T} : plC x (some ts) = some (x :: ts) := rfl
theorem pls_mp {α : Type} {f : α → T} {l : List α} : pls (l.map fun a => D.t (f a)) = some (l.map f) := pls_of f l
def mlI (S : Sto) : Option (List T) → R D
  | some ts => .ok (.t (.lst ts)) S
  | none => .no
theorem mkL_s {ds : List D} : mkL false ds S = mlI S (pls ds) := by
  cases h : pls ds <;> simp [mkL, mlI, h]
theorem mlI_s {ts : List T} : mlI S (some ts) = .ok (.t (.lst ts)) S := rfl
theorem mkL_r {ds : List D} : mkL true ds S = .ok (.ref S.length) (S ++ [.lst ds]) := rfl
def mtI (ds : List D) (S : Sto) : Option (List T) → R D
  | some ts => .ok (.t (.tup ts)) S
  | none => .ok (.tup ds) S
theorem mkT_s {ds : List D} : mkT ds S = mtI ds S (pls ds) := by
  unfold mkT mtI; cases pls ds <;> rfl
theorem mtI_n {ds : List D} : mtI ds S none = .ok (.tup ds) S := rfl
theorem mtI_s {ds : List D} {ts : List T} : mtI ds S (some ts) = .ok (.t (.tup ts)) S := rfl
/-! ### targets -/
theorem setP_v {i : Nat} {d : D} : setP (.v i) d ρ = some (ρ.set i (some d)) := rfl
theorem setP_2 {i j : Nat} {a b : T} : setP (.tup [i, j]) (.t (.tup [a, b])) ρ = some ((ρ.set i (some (.t a))).set j (some (.t b))) := rfl
theorem setP_3 {i j k : Nat} {a b c : T} : setP (.tup [i, j, k]) (.t (.tup [a, b, c])) ρ = some (((ρ.set i (some (.t a))).set j (some (.t b))).set k (some (.t c))) := rfl
theorem setP_4 {i j k l : Nat} {a b c d : T} : setP (.tup [i, j, k, l]) (.t (.tup [a, b, c, d])) ρ = some ((((ρ.set i (some (.t a))).set j (some (.t b))).set k (some (.t c))).set l (some (.t d))) := rfl
theorem setP_5 {i j k l m : Nat} {a b c d e : T} : setP (.tup [i, j, k, l, m]) (.t (.tup [a, b, c, d, e])) ρ = some (((((ρ.set i (some (.t a))).set j (some (.t b))).set k (some (.t c))).set l (some (.t d))).set m (some (.t e))) := rfl
theorem setP_d2 {i j : Nat} {a b : D} : setP (.tup [i, j]) (.tup [a, b]) ρ = some ((ρ.set i (some a)).set j (some b)) := rfl
def asT (S : Sto) : Option Ev → RS
  | some ρ1 => .nx ρ1 S
  | none => .no
theorem asg_t {is : List Nat} {d : D} : asgI (.tup is) ρ (.ok d S) = asT S (setP (.tup is) d ρ) := by
  show (match setP (.tup is) d ρ with | some ρ1 => RS.nx ρ1 S | none => .no) = _
  generalize setP (.tup is) d ρ = o
  cases o <;> rfl
theorem asT_s : asT S (some ρ1) = .nx ρ1 S := rfl
/-! ### what is walked -/
def foX (p : Pt) (b : Ev → Sto → RS) (ρ : Ev) (S : Sto) : Option (List D) → RS
  | some xs => foL p b xs ρ S
  | none => .no
theorem fo_st {p : Pt} {k : Ik} {b : ISs} {ds : List D} : foI B C p k b ρ (.ok ds S) = foX p (evSs B C b) ρ S (itemsOf k ds S) := by
  cases h : itemsOf k ds S <;> simp [foI, foX, h]
theorem foX_s {p : Pt} {b : Ev → Sto → RS} {xs : List D} : foX p b ρ S (some xs) = foL p b xs ρ S := rfl
def foA (p : Pt) (b : Ev → Sto → RS) (ds : List D) (S : Sto) : Option Ev → RS
  | some ρ1 => match b ρ1 S with
      | .nx ρ2 S2 => foL p b ds ρ2 S2
      | .ct ρ2 S2 => foL p b ds ρ2 S2
      | .bk ρ2 S2 => .nx ρ2 S2
      | r => r
  | none => .no
def foB (p : Pt) (b : Ev → Sto → RS) (ds : List D) : RS → RS
  | .nx ρ2 S2 => foL p b ds ρ2 S2
  | .ct ρ2 S2 => foL p b ds ρ2 S2
  | .bk ρ2 S2 => .nx ρ2 S2
  | r => r
theorem fo_nil {p : Pt} {b : Ev → Sto → RS} : foL p b [] ρ S = .nx ρ S := rfl
theorem fo_cons {p : Pt} {b : Ev → Sto → RS} {d : D} {ds : List D} : foL p b (d :: ds) ρ S = foA p b ds S (setP p d ρ) := by
  unfold foL foA; cases setP p d ρ <;> rfl
theorem foA_s {p : Pt} {b : ISs} {ds : List D} : foA p (evSs B C b) ds S (some ρ1) = foB p (evSs B C b) ds (evSs B C b ρ1 S) := by
  unfold foA foB; simp only
theorem foA_g {p : Pt} {b : Ev → Sto → RS} {ds : List D} : foA p b ds S (some ρ1) = foB p b ds (b ρ1 S) := by
  unfold foA foB; simp only
theorem foB_nx {p : Pt} {b : Ev → Sto → RS} {ds : List D} : foB p b ds (.nx ρ S) = foL p b ds ρ S := rfl
theorem foB_ct {p : Pt} {b : Ev → Sto → RS} {ds : List D} : foB p b ds (.ct ρ S) = foL p b ds ρ S := rfl
theorem foB_bk {p : Pt} {b : Ev → Sto → RS} {ds : List D} : foB p b ds (.bk ρ S) = .nx ρ S := rfl
theorem foB_rt {p : Pt} {b : Ev → Sto → RS} {ds : List D} {d : D} : foB p b ds (.rt d S) = .rt d S := rfl
theorem foB_ex {p : Pt} {b : Ev → Sto → RS} {ds : List D} {c : Nat} {fs} : foB p b ds (.ex c fs ρ S) = .ex c fs ρ S := rfl
def itA (pu : Bool) (k : Ik) (ds : List D) (S : Sto) : Option (List D) → Option (List D)
  | some xs => some xs
  | none => if pu then itemsR k ds S else none
theorem itemsL_s {pu : Bool} {k : Ik} {ds : List D} : itemsL pu k ds S = itA pu k ds S (itemsOf k ds S) := by
  unfold itemsL itA; cases itemsOf k ds S <;> rfl
theorem itA_s {pu : Bool} {k : Ik} {ds xs : List D} : itA pu k ds S (some xs) = some xs := rfl
def lcX (m : Bool) (p : Pt) (cond el : Ev → Sto → R D) (ρ : Ev) (S : Sto) : Option (List D) → R D
  | some xs => lcJ m (lcL p (wipeL ρ p.own) cond el xs S [])
  | none => .no
theorem lc_st {m : Bool} {el : IE} {p : Pt} {k : Ik} {cond : IE} {ds : List D} : lcI B C m el p k cond ρ (.ok ds S) = lcX m p (evE B C cond) (evE B C el) ρ S (itemsL (pureE cond && pureE el) k ds S) := by
  unfold lcI lcX lcJ; simp only [R.bind_ok]; cases itemsL (pureE cond && pureE el) k ds S <;> rfl
theorem lcX_s {m : Bool} {p : Pt} {cond el : Ev → Sto → R D} {xs : List D} : lcX m p cond el ρ S (some xs) = lcJ m (lcL p (wipeL ρ p.own) cond el xs S []) := rfl
theorem itL_s {xs : List T} : itemsOf .seq [.t (.lst xs)] S = some (xs.map .t) := rfl
theorem itT_s {xs : List T} : itemsOf .seq [.t (.tup xs)] S = some (xs.map .t) := rfl
theorem itD_s {xs : List D} : itemsOf .seq [.tup xs] S = some xs := rfl
theorem itE_s {xs : List T} : itemsOf .enu [.t (.lst xs)] S = some (enuL 0 (xs.map .t)) := rfl
theorem itZ_s {xs ys : List T} : itemsOf .zip [.t (.lst xs), .t (.lst ys)] S = some (zipL (xs.map .t) (ys.map .t)) := rfl
theorem itR_s {n : Int} (h : 0 ≤ n) (h2 : n < 2 ^ 62) : itemsOf .rng [.t (.int n)] S = some ((List.range n.toNat).map fun (i : Nat) => .t (.int (i : Int))) := itR n S (by omega) h2
theorem itR2_s {a b : Int} (h1 : -(2 ^ 62) ≤ a) (h2 : a < 2 ^ 62) (h3 : -(2 ^ 62) ≤ b) (h4 : b < 2 ^ 62) : itemsOf .rng [.t (.int a), .t (.int b)] S = some ((List.range (b - a).toNat).map fun (i : Nat) => .t (.int (a + (i : Int)))) := by
  simp only [itemsOf, if_pos (⟨h1, h2, h3, h4⟩ : -(2 ^ 62) ≤ a ∧ a < 2 ^ 62 ∧ -(2 ^ 62) ≤ b ∧ b < 2 ^ 62)]
/-! ### comprehensions, one by one -/
def lcD (p : Pt) (ρ : Ev) (cond el : Ev → Sto → R D) (ds acc : List D) : R D → R (List D)
  | .ok y S2 => if acc.length < lim then lcL p ρ cond el ds S2 (acc ++ [y]) else .no
  | _ => .no
def lcB (p : Pt) (ρ : Ev) (cond el : Ev → Sto → R D) (ds acc : List D) (ρ1 : Ev) : R D → R (List D)
  | .ok (.t (.bl true)) S1 => lcD p ρ cond el ds acc (el ρ1 S1)
  | .ok (.t (.bl false)) S1 => lcL p ρ cond el ds S1 acc
  | _ => .no
def lcA (p : Pt) (ρ : Ev) (cond el : Ev → Sto → R D) (ds acc : List D) (S : Sto) : Option Ev → R (List D)
  | some ρ1 => lcB p ρ cond el ds acc ρ1 (cond ρ1 S)
  | none => .no
theorem lc_nil {p : Pt} {cond el : Ev → Sto → R D} {acc : List D} : lcL p ρ cond el [] S acc = .ok acc S := rfl
theorem lc_cons {p : Pt} {cond el : Ev → Sto → R D} {d : D} {ds acc : List D} : lcL p ρ cond el (d :: ds) S acc = lcA p ρ cond el ds acc S (setP p d ρ) := by
  conv => lhs; unfold lcL
  generalize setP p d ρ = o
  cases o <;> rfl
theorem lcA_s {p : Pt} {c l : IE} {ds acc : List D} : lcA p ρ (evE B C c) (evE B C l) ds acc S (some ρ1) = lcB p ρ (evE B C c) (evE B C l) ds acc ρ1 (evE B C c ρ1 S) := rfl
theorem lcB_t {p : Pt} {cond : Ev → Sto → R D} {l : IE} {ds acc : List D} : lcB p ρ cond (evE B C l) ds acc ρ1 (.ok (.t (.bl true)) S) = lcD p ρ cond (evE B C l) ds acc (evE B C l ρ1 S) := rfl
theorem lcB_f {p : Pt} {cond el : Ev → Sto → R D} {ds acc : List D} : lcB p ρ cond el ds acc ρ1 (.ok (.t (.bl false)) S) = lcL p ρ cond el ds S acc := rfl
theorem lcD_ok {p : Pt} {cond el : Ev → Sto → R D} {ds acc : List D} {y : D} (h : acc.length < 16000000) : lcD p ρ cond el ds acc (.ok y S) = lcL p ρ cond el ds S (acc ++ [y]) := if_pos h
/-- one turn of a comprehension -/
def lc1 (p : Pt) (ρ : Ev) (cond el : Ev → Sto → R D) (S : Sto) (d : D) : R (Option D) := match setP p d ρ with
  | none => .no
  | some ρ1 => match cond ρ1 S with
    | .ok (.t (.bl true)) S1 => (match el ρ1 S1 with
      | .ok y S2 => .ok (some y) S2
      | _ => .no)
    | .ok (.t (.bl false)) S1 => .ok none S1
    | _ => .no
def lc1D : R D → R (Option D)
  | .ok y S2 => .ok (some y) S2
  | _ => .no
def lc1B (el : Ev → Sto → R D) (ρ1 : Ev) : R D → R (Option D)
  | .ok (.t (.bl true)) S1 => lc1D (el ρ1 S1)
  | .ok (.t (.bl false)) S1 => .ok none S1
  | _ => .no
def lc1A (cond el : Ev → Sto → R D) (S : Sto) : Option Ev → R (Option D)
  | some ρ1 => lc1B el ρ1 (cond ρ1 S)
  | none => .no
theorem lc1_s {p : Pt} {cond el : Ev → Sto → R D} {d : D} : lc1 p ρ cond el S d = lc1A cond el S (setP p d ρ) := by
  unfold lc1
  generalize setP p d ρ = o
  cases o <;> rfl
theorem lc1A_s {c l : IE} : lc1A (evE B C c) (evE B C l) S (some ρ1) = lc1B (evE B C l) ρ1 (evE B C c ρ1 S) := rfl
theorem lc1B_t {l : IE} : lc1B (evE B C l) ρ1 (.ok (.t (.bl true)) S) = lc1D (evE B C l ρ1 S) := rfl
theorem lc1B_f {el : Ev → Sto → R D} : lc1B el ρ1 (.ok (.t (.bl false)) S) = .ok none S := rfl
theorem lc1D_ok {y : D} : lc1D (.ok y S) = .ok (some y) S := rfl
theorem lcL_1 {p : Pt} {cond el : Ev → Sto → R D} {d : D} {ds acc : List D} : lcL p ρ cond el (d :: ds) S acc = match lc1 p ρ cond el S d with
    | .ok (some y) S2 => if acc.length < lim then lcL p ρ cond el ds S2 (acc ++ [y]) else .no
    | .ok none S1 => lcL p ρ cond el ds S1 acc
    | _ => .no := by
  conv => lhs; unfold lcL
  unfold lc1
  cases setP p d ρ with
  | none => rfl
  | some ρ1 =>
    simp only
    cases cond ρ1 S with
    | ok x S1 => cases x with
      | t x => cases x with
        | bl b => cases b <;> simp only <;> cases el ρ1 S1 <;> rfl
        | _ => rfl
      | _ => rfl
    | _ => rfl
theorem lcL_f1 {α : Type} {p : Pt} {cond el : Ev → Sto → R D} {f : α → D} (c : α → Bool) (g : α → D) : ∀ {l : List α} {acc : List D} (_ : acc.length + l.length ≤ 16000000) (_ : ∀ a ∈ l, lc1 p ρ cond el S (f a) = .ok (if c a then some (g a) else none) S),
    lcL p ρ cond el (l.map f) S acc = .ok (acc ++ (l.filter c).map g) S
  | [], acc, _, _ => by simp [lcL]
  | a :: l, acc, hl, h => by
    have ih := fun acc hl => lcL_f1 c g (l := l) (acc := acc) hl fun a m => h a (List.mem_cons_of_mem _ m)
    simp only [List.length_cons] at hl
    rw [List.map_cons, lcL_1, h a List.mem_cons_self]
    cases hc : c a with
    | true =>
      have : acc.length < lim := by unfold lim; omega
      simp only [if_true, this]
      rw [ih _ (by simp; omega)]
      simp [List.filter_cons, hc]
    | false =>
      simp only [Bool.false_eq_true, if_false]
      rw [ih _ (by omega)]
      simp [List.filter_cons, hc]
theorem lcL_m1 {α : Type} {p : Pt} {cond el : Ev → Sto → R D} {f : α → D} (g : α → D) {l : List α} {acc : List D} (hl : acc.length + l.length ≤ 16000000) (h : ∀ a ∈ l, lc1 p ρ cond el S (f a) = .ok (some (g a)) S) :
    lcL p ρ cond el (l.map f) S acc = .ok (acc ++ l.map g) S := by
  rw [lcL_f1 (fun _ => true) g hl fun a m => by rw [h a m]; rfl, List.filter_eq_self.mpr (by simp)]
/-- a loop that keeps a promise; the store may change -/
theorem foL_p {p : Pt} {b : Ev → Sto → RS} (P : Nat → Ev → Sto → Prop) : ∀ (ds : List D) (k : Nat) (ρ : Ev) (S : Sto), P k ρ S →
    (∀ i d ρ S, ds[i]? = some d → P (k + i) ρ S → ∃ ρ1 ρ2 S2, setP p d ρ = some ρ1 ∧ (b ρ1 S = .nx ρ2 S2 ∨ b ρ1 S = .ct ρ2 S2) ∧ P (k + i + 1) ρ2 S2) → ∃ ρ2 S2, foL p b ds ρ S = .nx ρ2 S2 ∧ P (k + ds.length) ρ2 S2
  | [], k, ρ, S, h, _ => ⟨ρ, S, rfl, h⟩
  | d :: ds, k, ρ, S, h, s => by
    obtain ⟨ρ1, ρ2, S2, e1, e2, h2⟩ := s 0 d ρ S rfl h
    obtain ⟨ρ3, S3, e3, h3⟩ := foL_p P ds (k + 1) ρ2 S2 h2 fun i d ρ S e q => by
      have := s (i + 1) d ρ S (by simpa using e) (by rw [show k + (i + 1) = k + 1 + i by omega]; exact q)
      rwa [show k + (i + 1) + 1 = k + 1 + i + 1 by omega] at this
    refine ⟨ρ3, S3, ?_, by rwa [show k + 1 + ds.length = k + (d :: ds).length by simp; omega] at h3⟩
    rcases e2 with e2 | e2 <;> simp [foL, e1, e2, e3]
/-- a loop over a list that gathers: after each item the state is the next one's -/
theorem foL_g {α : Type} {p : Pt} {b : Ev → Sto → RS} {f : α → D} (P : List α → Ev → Sto → Prop) : ∀ (l : List α) (done : List α) (ρ : Ev) (S : Sto), P done ρ S →
    (∀ a done ρ S, P done ρ S → a ∈ l → ∃ ρ1 ρ2 S2, setP p (f a) ρ = some ρ1 ∧ (b ρ1 S = .nx ρ2 S2 ∨ b ρ1 S = .ct ρ2 S2) ∧ P (done ++ [a]) ρ2 S2) → ∃ ρ2 S2, foL p b (l.map f) ρ S = .nx ρ2 S2 ∧ P (done ++ l) ρ2 S2
  | [], done, ρ, S, h, _ => ⟨ρ, S, rfl, by rwa [List.append_nil]⟩
  | a :: l, done, ρ, S, h, s => by
    obtain ⟨ρ1, ρ2, S2, e1, e2, h2⟩ := s a done ρ S h List.mem_cons_self
    obtain ⟨ρ3, S3, e3, h3⟩ := foL_g P l (done ++ [a]) ρ2 S2 h2 fun a d ρ S q m => s a d ρ S q (List.mem_cons_of_mem _ m)
    refine ⟨ρ3, S3, ?_, by rwa [List.append_assoc] at h3⟩
    rcases e2 with e2 | e2 <;> simp [foL, e1, e2, e3]
/-! ### while, turn by turn -/
theorem whL_t {c : Ev → Sto → R D} {b : Ev → Sto → RS} {f : Nat} {ρ2 : Ev} {S2 : Sto} (e1 : c ρ S = .ok (.t (.bl true)) S1) (e2 : b ρ S1 = .nx ρ2 S2) : whL c b (f + 1) ρ S = whL c b f ρ2 S2 := by simp only [whL, e1, e2]
theorem whL_r {c : Ev → Sto → R D} {b : Ev → Sto → RS} {f : Nat} {d : D} {S2 : Sto} (e1 : c ρ S = .ok (.t (.bl true)) S1) (e2 : b ρ S1 = .rt d S2) : whL c b (f + 1) ρ S = .rt d S2 := by simp only [whL, e1, e2]
theorem whL_b {c : Ev → Sto → R D} {b : Ev → Sto → RS} {f : Nat} {ρ2 : Ev} {S2 : Sto} (e1 : c ρ S = .ok (.t (.bl true)) S1) (e2 : b ρ S1 = .bk ρ2 S2) : whL c b (f + 1) ρ S = .nx ρ2 S2 := by simp only [whL, e1, e2]
theorem whL_f {c : Ev → Sto → R D} {b : Ev → Sto → RS} {f : Nat} (e1 : c ρ S = .ok (.t (.bl false)) S1) : whL c b (f + 1) ρ S = .nx ρ S1 := by simp only [whL, e1]
/-! ### indices -/
def opM (o : Option T) (S : Sto) : R D := match o with
  | some x => .ok (.t x) S
  | none => .no
theorem pIdx_l {xs : List T} {i : Int} (h : 0 ≤ i) : pIdx (.t (.lst xs)) (.t (.int i)) S = opM xs[i.toNat]? S := by
  have : pIdx (.t (.lst xs)) (.t (.int i)) S = opt (ixAt (xs.map D.t) i) S := rfl
  rw [this]; unfold ixAt; rw [if_pos h, List.getElem?_map]; cases xs[i.toNat]? <;> rfl
theorem pIdx_t {xs : List T} {i : Int} (h : 0 ≤ i) : pIdx (.t (.tup xs)) (.t (.int i)) S = opM xs[i.toNat]? S := by
  have : pIdx (.t (.tup xs)) (.t (.int i)) S = opt (ixAt (xs.map D.t) i) S := rfl
  rw [this]; unfold ixAt; rw [if_pos h, List.getElem?_map]; cases xs[i.toNat]? <;> rfl
theorem pIdx_sc {ns : List Int} {i : Int} (h : 0 ≤ i) : pIdx (.t (.scr ns)) (.t (.int i)) S = opM (ns[i.toNat]?.map .int) S := by
  have : pIdx (.t (.scr ns)) (.t (.int i)) S = opt ((ixAt ns i).map fun n => .t (.int n)) S := rfl
  rw [this]; unfold ixAt; rw [if_pos h]; cases ns[i.toNat]? <;> rfl
theorem opM_s {x : T} : opM (some x) S = .ok (.t x) S := rfl
theorem pLenL_s {m : Bool} {l : List T} : pBi m .len [.t (.lst l)] S = .ok (.t (.int (l.length : Nat))) S := pLenL m l S
theorem pLenT_s {m : Bool} {l : List T} : pBi m .len [.t (.tup l)] S = .ok (.t (.int (l.length : Nat))) S := pLenT m l S
theorem pLenSc {m : Bool} {ns : List Int} : pBi m .len [.t (.scr ns)] S = .ok (.t (.int (ns.length : Nat))) S := rfl
theorem slJ_c {lo hi : IE} {x : D} {i : Int} (h : isNop lo = false) : slJ B C lo hi ρ x (.ok (.t (.int i)) S) = slK hi x (some i) (evE B C hi ρ S) :=
  slJ_ok (l := some i) (by cases lo <;> first | rfl | cases h)
theorem slJ_c1 {t : T} {hi : IE} {x : D} {i : Int} : slJ B C (.c t) hi ρ x (.ok (.t (.int i)) S) = slK hi x (some i) (evE B C hi ρ S) := slJ_ok (l := some i) rfl
theorem slK_c1 {t : T} {x : D} {l : Option Int} {i : Int} : slK (.c t) x l (.ok (.t (.int i)) S) = pSl x l (some i) S := slK_ok (h := some i) rfl
theorem slJ_v1 {j : Nat} {hi : IE} {x : D} {i : Int} : slJ B C (.v j) hi ρ x (.ok (.t (.int i)) S) = slK hi x (some i) (evE B C hi ρ S) := slJ_ok (l := some i) rfl
theorem slK_v1 {j : Nat} {x : D} {l : Option Int} {i : Int} : slK (.v j) x l (.ok (.t (.int i)) S) = pSl x l (some i) S := slK_ok (h := some i) rfl
theorem slJ_b1 {m : Bool} {op : Operator} {e1 e2 : IE} {hi : IE} {x : D} {i : Int} : slJ B C (.bin m op e1 e2) hi ρ x (.ok (.t (.int i)) S) = slK hi x (some i) (evE B C hi ρ S) := slJ_ok (l := some i) rfl
theorem slK_b1 {m : Bool} {op : Operator} {e1 e2 : IE} {x : D} {l : Option Int} {i : Int} : slK (.bin m op e1 e2) x l (.ok (.t (.int i)) S) = pSl x l (some i) S := slK_ok (h := some i) rfl
theorem slJ_i1 {e1 e2 : IE} {hi : IE} {x : D} {i : Int} : slJ B C (.idx e1 e2) hi ρ x (.ok (.t (.int i)) S) = slK hi x (some i) (evE B C hi ρ S) := slJ_ok (l := some i) rfl
theorem slK_i1 {e1 e2 : IE} {x : D} {l : Option Int} {i : Int} : slK (.idx e1 e2) x l (.ok (.t (.int i)) S) = pSl x l (some i) S := slK_ok (h := some i) rfl
theorem slJ_g1 {m : Bool} {b : Bi} {es : IEs} {hi : IE} {x : D} {i : Int} : slJ B C (.bi m b es) hi ρ x (.ok (.t (.int i)) S) = slK hi x (some i) (evE B C hi ρ S) := slJ_ok (l := some i) rfl
theorem slK_g1 {m : Bool} {b : Bi} {es : IEs} {x : D} {l : Option Int} {i : Int} : slK (.bi m b es) x l (.ok (.t (.int i)) S) = pSl x l (some i) S := slK_ok (h := some i) rfl
theorem slJ_u1 {m : Bool} {f : Nat} {es : IEs} {hi : IE} {x : D} {i : Int} : slJ B C (.call m f es) hi ρ x (.ok (.t (.int i)) S) = slK hi x (some i) (evE B C hi ρ S) := slJ_ok (l := some i) rfl
theorem slK_u1 {m : Bool} {f : Nat} {es : IEs} {x : D} {l : Option Int} {i : Int} : slK (.call m f es) x l (.ok (.t (.int i)) S) = pSl x l (some i) S := slK_ok (h := some i) rfl
theorem slJ_n {hi : IE} {x : D} : slJ B C .nop hi ρ x (.ok (.t .non) S) = slK hi x none (evE B C hi ρ S) := slJ_ok (l := none) rfl
theorem slK_c {hi : IE} {x : D} {l : Option Int} {i : Int} (h : isNop hi = false) : slK hi x l (.ok (.t (.int i)) S) = pSl x l (some i) S :=
  slK_ok (h := some i) (by cases hi <;> first | rfl | cases h)
theorem slK_n {x : D} {l : Option Int} : slK .nop x l (.ok (.t .non) S) = pSl x l none S := slK_ok (h := none) rfl
theorem bm_st {m : Bool} {b : Bm} {es : IEs} {x : D} (h : kindD S x = bmT b) : bmI B C m b es ρ (.ok x S) = bmJ m b x (evEs B C es ρ S) := bmI_ok h
def fzJ (S : Sto) : Option (T × Sto) → R D
  | some (t, S2) => .ok (.t t) S2
  | none => .no
def fzI (r : R D) : R D := r.bind fun x S1 => match frz 9 S1 x with
    | some (t, S2) => .ok (.t t) S2
    | none => .no
theorem e_fz {e : IE} : evE B C (.frz e) ρ S = fzI (evE B C e ρ S) := by first | (unfold fzI; rw [evE]; done) | (unfold fzI; rw [evE]; rfl)
theorem fzI_ok {x : D} : fzI (.ok x S) = fzJ S (frz 9 S x) := by
  unfold fzI fzJ; simp only [R.bind_ok]
theorem fzJ_s {S2 : Sto} {t : T} : fzJ S (some (t, S2)) = .ok (.t t) S2 := rfl
theorem frz0 {l : List T} {r : Sto} : frz 9 (.lst (l.map .t) :: r) (.ref 0) = some (.lst l, .dead :: r) := by
  rw [frz_lst (l := l) rfl]; rfl
theorem frz1 {l : List T} {a : O} {r : Sto} : frz 9 (a :: .lst (l.map .t) :: r) (.ref 1) = some (.lst l, a :: .dead :: r) := by
  rw [frz_lst (l := l) rfl]; rfl
theorem frz0f {α : Type} {f : α → T} {l : List α} {r : Sto} : frz 9 (.lst (l.map fun a => .t (f a)) :: r) (.ref 0) = some (.lst (l.map f), .dead :: r) := by
  have := frz0 (l := l.map f) (r := r)
  rw [List.map_map] at this; exact this
theorem frz1f {α : Type} {f : α → T} {l : List α} {a : O} {r : Sto} : frz 9 (a :: .lst (l.map fun a => .t (f a)) :: r) (.ref 1) = some (.lst (l.map f), a :: .dead :: r) := by
  have := frz1 (l := l.map f) (r := r) (a := a)
  rw [List.map_map] at this; exact this
theorem app0 {m : Bool} {acc : List D} {y : D} {r : Sto} (h : acc.length < 16000000) : pBm m .append (.ref 0) [y] (.lst acc :: r) = .ok (.t .non) (.lst (acc ++ [y]) :: r) := if_pos h
theorem app1 {m : Bool} {acc : List D} {y : D} {a : O} {r : Sto} (h : acc.length < 16000000) : pBm m .append (.ref 1) [y] (a :: .lst acc :: r) = .ok (.t .non) (a :: .lst (acc ++ [y]) :: r) := if_pos h
theorem app2 {m : Bool} {acc : List D} {y : D} {a b : O} {r : Sto} (h : acc.length < 16000000) : pBm m .append (.ref 2) [y] (a :: b :: .lst acc :: r) = .ok (.t .non) (a :: b :: .lst (acc ++ [y]) :: r) := if_pos h
theorem kd0 {acc : List D} {es : IEs} {m : Bool} {r : Sto} : bmI B C m .append es ρ (.ok (.ref 0) (.lst acc :: r)) = bmJ m .append (.ref 0) (evEs B C es ρ (.lst acc :: r)) := bmI_ok rfl
theorem kd1 {acc : List D} {es : IEs} {m : Bool} {a : O} {r : Sto} : bmI B C m .append es ρ (.ok (.ref 1) (a :: .lst acc :: r)) = bmJ m .append (.ref 1) (evEs B C es ρ (a :: .lst acc :: r)) := bmI_ok rfl
theorem kd2 {acc : List D} {es : IEs} {m : Bool} {a b : O} {r : Sto} : bmI B C m .append es ρ (.ok (.ref 2) (a :: b :: .lst acc :: r)) = bmJ m .append (.ref 2) (evEs B C es ρ (a :: b :: .lst acc :: r)) := bmI_ok rfl
def isiK (S : Sto) : Option Bool → R D
  | some k => .ok (.t (.bl k)) S
  | none => .no
theorem isi_s {c : Cl} {x : D} : isiI B c (.ok x S) = isiK S (isiB B.sub S x c) := by
  unfold isiI isiK; simp only [R.bind_ok]; cases isiB B.sub S x c <;> rfl
theorem isiK_s {k : Bool} : isiK S (some k) = .ok (.t (.bl k)) S := rfl
theorem isn_i {i : Int} : pCmp .Is (.t (.int i)) (.t .non) S = .ok (.t (.bl false)) S := rfl
theorem isn_n : pCmp .Is (.t .non) (.t .non) S = .ok (.t (.bl true)) S := rfl
theorem isn_t {l : List T} : pCmp .Is (.t (.tup l)) (.t .non) S = .ok (.t (.bl false)) S := rfl
theorem inn_i {i : Int} : pCmp .IsNot (.t (.int i)) (.t .non) S = .ok (.t (.bl true)) S := rfl
theorem inn_n : pCmp .IsNot (.t .non) (.t .non) S = .ok (.t (.bl false)) S := rfl
theorem inn_t {l : List T} : pCmp .IsNot (.t (.tup l)) (.t .non) S = .ok (.t (.bl true)) S := rfl
theorem inn_l {l : List T} : pCmp .IsNot (.t (.lst l)) (.t .non) S = .ok (.t (.bl true)) S := rfl
theorem bi_int_i {m : Bool} {i : Int} : pBi m .int [.t (.int i)] S = .ok (.t (.int i)) S := rfl
theorem bi_int_t {m : Bool} : pBi m .int [.t (.bl true)] S = .ok (.t (.int 1)) S := rfl
theorem bi_int_f {m : Bool} : pBi m .int [.t (.bl false)] S = .ok (.t (.int 0)) S := rfl
theorem rng1 : List.range 1 = [0] := rfl
theorem rng2 : List.range 2 = [0, 1] := rfl
theorem rng3 : List.range 3 = [0, 1, 2] := rfl
theorem rng4 : List.range 4 = [0, 1, 2, 3] := rfl
/-! ### the last thing of the store -/
theorem get_last {o : O} : (S ++ [o])[S.length]? = some o := by simp
theorem set_last {o o' : O} : (S ++ [o]).set S.length o' = S ++ [o'] := by simp
theorem appE {m : Bool} {acc : List D} {y : D} (h : acc.length < 16000000) : pBm m .append (.ref S.length) [y] (S ++ [.lst acc]) = .ok (.t .non) (S ++ [.lst (acc ++ [y])]) := by
  have : pBm m .append (.ref S.length) [y] (S ++ [.lst acc]) = (match (S ++ [O.lst acc])[S.length]? with
    | some (.lst xs) => if xs.length < lim then .ok (.t .non) ((S ++ [O.lst acc]).set S.length (.lst (xs ++ [y]))) else .no
    | _ => .no) := rfl
  rw [this, get_last]
  simp only
  rw [if_pos (show acc.length < lim from h), set_last]
theorem kdE {acc : List D} {es : IEs} {m : Bool} : bmI B C m .append es ρ (.ok (.ref S.length) (S ++ [.lst acc])) = bmJ m .append (.ref S.length) (evEs B C es ρ (S ++ [.lst acc])) := bmI_ok (by
  show (match (S ++ [O.lst acc])[S.length]? with | some (.lst _) => 3 | some (.dct _) => 5 | _ => 9) = 3
  rw [get_last])
theorem frzE {l : List T} : frz 9 (S ++ [.lst (l.map .t)]) (.ref S.length) = some (.lst l, S ++ [.dead]) := by
  rw [frz_lst (l := l) get_last, set_last]
theorem frzEf {α : Type} {f : α → T} {l : List α} : frz 9 (S ++ [.lst (l.map fun a => .t (f a))]) (.ref S.length) = some (.lst (l.map f), S ++ [.dead]) := by
  have := frzE (S := S) (l := l.map f)
  rw [List.map_map] at this; exact this
theorem frzE1 {a : T} : frz 9 (S ++ [.lst [.t a]]) (.ref S.length) = some (.lst [a], S ++ [.dead]) := frzE (l := [a])
theorem frzE2 {a b : T} : frz 9 (S ++ [.lst [.t a, .t b]]) (.ref S.length) = some (.lst [a, b], S ++ [.dead]) := frzE (l := [a, b])
theorem itO_ref {j : Nat} : itemsOf .seq [.ref j] S = none := rfl
theorem itO_refE {j : Nat} : itemsOf .enu [.ref j] S = none := rfl
theorem itA_n {k : Ik} {ds : List D} : itA true k ds S none = itemsR k ds S := rfl
theorem itRfE {acc : List D} : itemsR .seq [.ref S.length] (S ++ [.lst acc]) = some acc := by
  show (match (S ++ [O.lst acc])[S.length]? with | some (.lst xs) => some xs | _ => none) = _
  rw [get_last]
theorem itRf0 {acc : List D} {r : Sto} : itemsR .seq [.ref 0] (.lst acc :: r) = some acc := rfl
theorem itRf1 {acc : List D} {a : O} {r : Sto} : itemsR .seq [.ref 1] (a :: .lst acc :: r) = some acc := rfl
/-- a law's end: a loop that goes through, then True -/
theorem fin_t {x : RS} {P : Ev → Sto → Prop} (h : ∃ ρ2 S2, x = .nx ρ2 S2 ∧ P ρ2 S2) : ∃ S', tel (sqI B C (.cons (.ret (.c (.bl true))) .nil) x) = .ok (.t (.bl true)) S' := by
  obtain ⟨ρ2, S2, rfl, _⟩ := h
  exact ⟨S2, by rw [sq_nx, s_cons, s_ret, e_c, ret_ok, sq_rt, tel_rt]⟩
theorem cl1 {f : Nat} {a t : T} (e : C f [.t a] [] = .ok (.t t) []) : callD C true f [.t a] S = .ok (.t t) S := callD_t rfl e
theorem cl2 {f : Nat} {a b t : T} (e : C f [.t a, .t b] [] = .ok (.t t) []) : callD C true f [.t a, .t b] S = .ok (.t t) S := callD_t rfl e
theorem cl3 {f : Nat} {a b c t : T} (e : C f [.t a, .t b, .t c] [] = .ok (.t t) []) : callD C true f [.t a, .t b, .t c] S = .ok (.t t) S := callD_t rfl e
theorem cl4 {f : Nat} {a b c d t : T} (e : C f [.t a, .t b, .t c, .t d] [] = .ok (.t t) []) : callD C true f [.t a, .t b, .t c, .t d] S = .ok (.t t) S := callD_t rfl e
theorem cl5 {f : Nat} {a b c d x t : T} (e : C f [.t a, .t b, .t c, .t d, .t x] [] = .ok (.t t) []) : callD C true f [.t a, .t b, .t c, .t d, .t x] S = .ok (.t t) S := callD_t rfl e
theorem cx1 {f : Nat} {a t : T} (e : ∃ S1, C f [.t a] [] = .ok (.t t) S1) : callD C true f [.t a] S = .ok (.t t) S := let ⟨_, e⟩ := e; callD_t rfl e
theorem cx2 {f : Nat} {a b t : T} (e : ∃ S1, C f [.t a, .t b] [] = .ok (.t t) S1) : callD C true f [.t a, .t b] S = .ok (.t t) S := let ⟨_, e⟩ := e; callD_t rfl e
theorem cx3 {f : Nat} {a b c t : T} (e : ∃ S1, C f [.t a, .t b, .t c] [] = .ok (.t t) S1) : callD C true f [.t a, .t b, .t c] S = .ok (.t t) S := let ⟨_, e⟩ := e; callD_t rfl e
theorem cx4 {f : Nat} {a b c d t : T} (e : ∃ S1, C f [.t a, .t b, .t c, .t d] [] = .ok (.t t) S1) : callD C true f [.t a, .t b, .t c, .t d] S = .ok (.t t) S := let ⟨_, e⟩ := e; callD_t rfl e
theorem strsD_of {α : Type} (f : α → Str) (l : List α) : strsD (l.map fun a => D.t (.str (f a))) = some (l.map f) := by
  induction l with
  | nil => rfl
  | cons a l ih => simp [strsD, ih]
theorem Str.eq_of {a b : Str} (h : a.cps.toList = b.cps.toList) : a = b := by
  cases a; cases b
  congr 1
  exact Array.toList_inj.mp h
theorem join_1 {α : Type} (g : α → Nat) : ∀ l : List α, TL.joinL [] (l.map fun a => [g a]) = l.map g
  | [] => rfl
  | [a] => rfl
  | a :: b :: l => by
    show [g a] ++ ([] ++ TL.joinL [] ((b :: l).map fun a => [g a])) = _
    rw [join_1 g (b :: l)]; rfl
theorem pJoin1 {α : Type} {g : α → Nat} {l : List α} (hl : l.length ≤ 1000000) : pBm false .join (.t (.str "")) [.t (.lst (l.map fun a => T.str ⟨#[g a]⟩))] S = .ok (.t (.str ⟨(l.map g).toArray⟩)) S := by
  have e1 : (seqOf S (.t (.lst (l.map fun a => T.str ⟨#[g a]⟩)))).bind strsD = some (l.map fun a => (⟨#[g a]⟩ : Str)) := by
    show strsD ((l.map fun a => T.str ⟨#[g a]⟩).map D.t) = _
    rw [List.map_map]
    exact strsD_of (fun a => (⟨#[g a]⟩ : Str)) l
  have e2 : Txt.join "" (l.map fun a => (⟨#[g a]⟩ : Str)) = ⟨(l.map g).toArray⟩ := by
    rw [TL.join_eq]
    refine Str.eq_of ?_
    refine (TL.tl_join "" _).trans ?_
    rw [List.map_map]
    exact join_1 g l
  have e3 : (l.map fun a => (⟨#[g a]⟩ : Str)).length = l.length := List.length_map _
  have e4 : ((l.map fun a => (⟨#[g a]⟩ : Str)).map (·.length)).sum = l.length := by
    rw [List.map_map]
    clear e1 e2 e3 hl
    induction l with
    | nil => rfl
    | cons a l ih =>
      rw [List.map_cons, List.sum_cons, ih, List.length_cons]
      show 1 + l.length = l.length + 1
      omega
  have e5 : ("" : Str).length = 0 := rfl
  simp only [pBm, pJoin, e1, e2, e3, e4, e5]
  rw [if_pos (by unfold lim; omega)]
theorem kdS_join {m : Bool} {a : Str} {es : IEs} : bmI B C m .join es ρ (.ok (.t (.str a)) S) = bmJ m .join (.t (.str a)) (evEs B C es ρ S) := bmI_ok rfl
theorem kdS_split {m : Bool} {a : Str} {es : IEs} : bmI B C m .split es ρ (.ok (.t (.str a)) S) = bmJ m .split (.t (.str a)) (evEs B C es ρ S) := bmI_ok rfl
theorem kdS_startswith {m : Bool} {a : Str} {es : IEs} : bmI B C m .startswith es ρ (.ok (.t (.str a)) S) = bmJ m .startswith (.t (.str a)) (evEs B C es ρ S) := bmI_ok rfl
theorem kdL_index {m : Bool} {l : List T} {es : IEs} : bmI B C m .index es ρ (.ok (.t (.lst l)) S) = bmJ m .index (.t (.lst l)) (evEs B C es ρ S) := bmI_ok rfl
theorem kdI_bits {m : Bool} {i : Int} {es : IEs} : bmI B C m .bitlen es ρ (.ok (.t (.int i)) S) = bmJ m .bitlen (.t (.int i)) (evEs B C es ρ S) := bmI_ok rfl
theorem kdD_get {m : Bool} {l : List (Ky × T)} {es : IEs} : bmI B C m .get es ρ (.ok (.t (.dct l)) S) = bmJ m .get (.t (.dct l)) (evEs B C es ρ S) := bmI_ok rfl
theorem psJ_str {r : IEs} {x : Str} {y : D} : psJ B C (.t (.str x)) r ρ (.ok y S) = psK (.inr x) y (evPs B C r ρ S) := psJ_ok rfl
theorem psJ_int {r : IEs} {x : Int} {y : D} : psJ B C (.t (.int x)) r ρ (.ok y S) = psK (.inl x) y (evPs B C r ρ S) := psJ_ok rfl
theorem pNe_nn : pCmp .NotEq (.t .non) (.t .non) S = .ok (.t (.bl false)) S := rfl
theorem pEq_nn : pCmp .Eq (.t .non) (.t .non) S = .ok (.t (.bl true)) S := rfl
theorem pSl3S {ns : List Int} {lo hi : Option Int} {k : Int} (h : k ≠ 0) : pSl3 (.t (.scr ns)) lo hi k S = .ok (.t (.lst ((pick3 ns lo hi k).map .int))) S := by
  unfold pSl3; rw [if_neg h]
theorem pick3_le {α : Type} (xs : List α) (a b : Nat) (h : a ≤ b) : (pick3 xs (some (a : Int)) (some (b : Int)) 3).length ≤ (b - a + 2) / 3 := by
  have h1 : (pick3 xs (some (a : Int)) (some (b : Int)) 3).length ≤ _ := List.length_filterMap_le _ _
  refine Nat.le_trans h1 ?_
  unfold sliceRange sliceBounds
  simp only [List.length_map, List.length_range, Option.getD_some]
  rw [if_pos (show (3 : Int) > 0 by decide), if_neg (show ¬ (a : Int) < 0 by omega), if_neg (show ¬ (b : Int) < 0 by omega)]
  simp only [show ((3 : Int) > 0) = True from by simp, if_true]
  split <;> omega
theorem pAddL_s {xs ys : List T} (h : xs.length + ys.length ≤ 16000000) : pBin false .Add (.t (.lst xs)) (.t (.lst ys)) S = .ok (.t (.lst (xs ++ ys))) S := pAddL h
theorem pIdxE0 {a : D} {r : List D} : pIdx (.ref S.length) (.t (.int 0)) (S ++ [.lst (a :: r)]) = .ok a (S ++ [.lst (a :: r)]) := by
  have e1 : dctOf (S ++ [.lst (a :: r)]) (.ref S.length) = none := by unfold dctOf; simp only [get_last]
  have e2 : seqOf (S ++ [.lst (a :: r)]) (.ref S.length) = some (a :: r) := by unfold seqOf; simp only [get_last]
  simp only [pIdx, e1, e2]; rfl
theorem pIdxE1 {a b : D} {r : List D} : pIdx (.ref S.length) (.t (.int 1)) (S ++ [.lst (a :: b :: r)]) = .ok b (S ++ [.lst (a :: b :: r)]) := by
  have e1 : dctOf (S ++ [.lst (a :: b :: r)]) (.ref S.length) = none := by unfold dctOf; simp only [get_last]
  have e2 : seqOf (S ++ [.lst (a :: b :: r)]) (.ref S.length) = some (a :: b :: r) := by unfold seqOf; simp only [get_last]
  simp only [pIdx, e1, e2]; rfl
theorem pNeE2 {a b c d : Int} (h1 : a = c) (h2 : b = d) : pCmp .NotEq (.ref S.length) (.t (.lst [.int c, .int d])) (S ++ [.lst [.t (.int a), .t (.int b)]]) = .ok (.t (.bl false)) (S ++ [.lst [.t (.int a), .t (.int b)]]) := by
  subst h1 h2
  have e1 : look (S ++ [.lst [.t (.int a), .t (.int b)]]) (.ref S.length) = (T.lst [.int a, .int b]).pd := by unfold look; rw [frzE2]
  have e2 : look (S ++ [.lst [.t (.int a), .t (.int b)]]) (.t (.lst [.int a, .int b])) = (T.lst [.int a, .int b]).pd := look_t _ _
  have e3 : (T.lst [.int a, .int b]).pd = some ((encLst encInt).pd [a, b]) := (encLst encInt).ok [a, b]
  have e4 : eqD (.ref S.length) (.t (.lst [.int a, .int b])) (S ++ [.lst [.t (.int a), .t (.int b)]]) = some true := by
    unfold eqD
    rw [e1, e2, e3]
    simp only [(encLst encInt).shaped (by decide), Bool.and_self, if_true]
    rw [((encLst encInt).eq [a, b] [a, b]).mpr rfl]
  simp only [pCmp, e4, bl, Option.map_some, Bool.not_true]
end
end
end Wc

namespace Lw
open PySem L2 Wc
def top (i : Nat) : Stmt := PySem.Challenge.pw_windchest_k50_rolls_made.main.body.getD i (.Pass ⟨0, 0, 0, 0⟩)
abbrev f_is_whole : Nat := 0
abbrev f_is_length : Nat := 1
abbrev f_is_hole : Nat := 2
abbrev f_by_first : Nat := 3
abbrev f_are_holes : Nat := 4
abbrev f_is_roll : Nat := 5
abbrev f_roll_of : Nat := 6
abbrev f__law_cell_at : Nat := 7
abbrev f__law_whole : Nat := 8
abbrev f__law_mix : Nat := 9
abbrev f__law_length : Nat := 10
abbrev f__law_points : Nat := 11
abbrev f__law_span : Nat := 12
abbrev f__law_spans : Nat := 13
abbrev f__law_covered : Nat := 14
abbrev f__law_holes : Nat := 15
abbrev f__law_is : Nat := 16
abbrev f_law : Nat := 17
/-- 0: is_whole; 0 thing -/
def b_is_whole : ISs := (.cons (.ret (.and (.isi (.v 0) .int) (.one (.not (.isi (.v 0) .bool)))))
      .nil)
/-- 1: is_length; 0 thing -/
def b_is_length : ISs := (.cons (.ret (.and (.call true f_is_whole (.cons (.v 0) .nil)) (.one (.ch2 .LtE .LtE (.c (.int 0)) (.v 0) (.g "MOST_TICKS" (.int 1000000000000))))))
      .nil)
/-- 2: is_hole; 0 thing, 1 length, 2 part -/
def b_is_hole : ISs := (.cons (.ite (.or (.not (.isi (.v 0) .tuple)) (.or (.cmp .NotEq (.bi false .len (.cons (.v 0) .nil)) (.c (.int 3))) (.one (.not (.bi false .all (.cons (.lc false (.call true f_is_whole (.cons (.v 2) .nil)) (.v 2) .seq (.cons (.v 0) .nil) (.c (.bl true))) .nil)))))) (.cons (.ret (.c (.bl false)))
      .nil) .nil)
      (.cons (.ret (.and (.ch2 .LtE .Lt (.c (.int 0)) (.idx (.v 0) (.c (.int 0))) (.g "MOST_TRACKS" (.int 1200))) (.one (.ch3 .LtE .Lt .LtE (.c (.int 0)) (.idx (.v 0) (.c (.int 1))) (.idx (.v 0) (.c (.int 2))) (.v 1)))))
      .nil))
/-- 3: by_first; 0 hole -/
def b_by_first : ISs := (.cons (.ret (.tup (.cons (.idx (.v 0) (.c (.int 1))) (.cons (.idx (.v 0) (.c (.int 0))) .nil))))
      .nil)
abbrev b_are_holes_1 : ISs := (.cons (.ite (.or (.not (.call true f_is_hole (.cons (.v 4) (.cons (.v 1) .nil)))) (.one (.cmp .LtE (.call true f_by_first (.cons (.v 4) .nil)) (.v 3)))) (.cons (.ret (.c (.bl false)))
      .nil) .nil)
      (.cons (.ite (.and (.cmp .In (.idx (.v 4) (.c (.int 0))) (.v 2)) (.one (.cmp .LtE (.idx (.v 4) (.c (.int 1))) (.idx (.v 2) (.idx (.v 4) (.c (.int 0))))))) (.cons (.ret (.c (.bl false)))
      .nil) .nil)
      (.cons (.sti (.v 2) (.idx (.v 4) (.c (.int 0))) (.idx (.v 4) (.c (.int 2))))
      (.cons (.asg (.v 3) (.call true f_by_first (.cons (.v 4) .nil)))
      .nil))))
/-- 4: are_holes; 0 holes, 1 length, 2 behinds, 3 ahead, 4 hole -/
def b_are_holes : ISs := (.cons (.asg (.v 2) (.dct true .nil))
      (.cons (.asg (.v 3) (.tup (.cons (.neg (.c (.int 1))) (.cons (.neg (.c (.int 1))) .nil))))
      (.cons (.fo (.v 4) .seq (.cons (.v 0) .nil) b_are_holes_1)
      (.cons (.ret (.c (.bl true)))
      .nil))))
/-- 5: is_roll; 0 thing -/
def b_is_roll : ISs := (.cons (.ite (.or (.not (.isi (.v 0) .tuple)) (.or (.cmp .NotEq (.bi false .len (.cons (.v 0) .nil)) (.c (.int 2))) (.one (.not (.call true f_is_length (.cons (.idx (.v 0) (.c (.int 0))) .nil)))))) (.cons (.ret (.c (.bl false)))
      .nil) .nil)
      (.cons (.ite (.or (.not (.isi (.idx (.v 0) (.c (.int 1))) .list)) (.one (.cmp .Gt (.bi false .len (.cons (.idx (.v 0) (.c (.int 1))) .nil)) (.g "MOST_HOLES" (.int 400))))) (.cons (.ret (.c (.bl false)))
      .nil) .nil)
      (.cons (.ret (.call true f_are_holes (.cons (.idx (.v 0) (.c (.int 1))) (.cons (.idx (.v 0) (.c (.int 0))) .nil))))
      .nil)))
abbrev b_roll_of_1 : ISs := (.cons (.ite (.and (.cmp .NotEq (.v 3) (.lst false .nil)) (.and (.cmp .Eq (.idx (.idx (.v 3) (.neg (.c (.int 1)))) (.c (.int 0))) (.v 4)) (.one (.cmp .LtE (.v 5) (.idx (.idx (.v 3) (.neg (.c (.int 1)))) (.c (.int 2))))))) (.cons (.sti (.v 3) (.neg (.c (.int 1))) (.tup (.cons (.v 4) (.cons (.idx (.idx (.v 3) (.neg (.c (.int 1)))) (.c (.int 1))) (.cons (.bi false .max (.cons (.v 6) (.cons (.idx (.idx (.v 3) (.neg (.c (.int 1)))) (.c (.int 2))) .nil))) .nil)))))
      .nil) (.cons (.ex (.bm false .append (.v 3) (.cons (.tup (.cons (.v 4) (.cons (.v 5) (.cons (.v 6) .nil)))) .nil)))
      .nil))
      .nil)
abbrev b_roll_of_2 : ISs := (.cons (.ite (.not (.call true f_is_hole (.cons (.v 2) (.cons (.v 0) .nil)))) (.cons .stk
      .nil) .nil)
      .nil)
/-- 6: roll_of; 0 length, 1 spans, 2 span, 3 holes, 4 track, 5 first, 6 behind -/
def b_roll_of : ISs := (.cons (.ite (.or (.not (.call true f_is_length (.cons (.v 0) .nil))) (.one (.not (.isi (.v 1) .list)))) (.cons .stk
      .nil) .nil)
      (.cons (.fol (.v 2) (.v 1) b_roll_of_2)
      (.cons (.asg (.v 3) (.lst true .nil))
      (.cons (.fo (.tup [4, 5, 6]) .seq (.cons (.bi false .sorted (.cons (.v 1) .nil)) .nil) b_roll_of_1)
      (.cons (.ite (.cmp .Gt (.bi false .len (.cons (.v 3) .nil)) (.g "MOST_HOLES" (.int 400))) (.cons .stk
      .nil) .nil)
      (.cons (.ret (.tup (.cons (.v 0) (.cons (.sky true f_by_first (.v 3)) .nil))))
      .nil))))))
/-- 7: _law_cell_at; 0 _law_script, 1 _law_k -/
def b__law_cell_at : ISs := (.cons (.ite (.cmp .Lt (.v 1) (.bi false .len (.cons (.v 0) .nil))) (.cons (.ret (.idx (.v 0) (.v 1)))
      .nil) .nil)
      (.cons (.ret (.c (.int 0)))
      .nil))
/-- 8: _law_whole; 0 _law_found -/
def b__law_whole : ISs := (.cons (.ret (.and (.isi (.v 0) .int) (.one (.not (.isi (.v 0) .bool)))))
      .nil)
abbrev b__law_mix_1 : ISs := (.cons (.asg (.v 3) (.bin false .FloorDiv (.v 3) (.bin false .Pow (.c (.int 10)) (.c (.int 13)))))
      .nil)
/-- 9: _law_mix; 0 _law_cell, 1 _law_by, 2 _law_many, 3 _law_digits, 4 _law_turn, 5 _law_one, 6 _law_two -/
def b__law_mix : ISs := (.cons (.ite (.cmp .GtE (.v 0) (.bin false .Pow (.c (.int 10)) (.c (.int 18)))) (.cons (.asg (.v 3) (.bin false .FloorDiv (.v 0) (.c (.int 10080))))
      (.cons (.fo (.v 4) .rng (.cons (.bin false .Mod (.bin false .Add (.v 1) (.bin false .Mod (.v 0) (.c (.int 10080)))) (.c (.int 29))) .nil) b__law_mix_1)
      (.cons (.ret (.bin false .Mod (.bin false .Mod (.v 3) (.bin false .Pow (.c (.int 10)) (.c (.int 13)))) (.v 2)))
      .nil))) .nil)
      (.cons (.asg (.v 5) (.bin false .Mod (.bin false .Mult (.bin false .Add (.bin false .Mod (.v 0) (.c (.int 1000003))) (.v 1)) (.c (.int 48271))) (.c (.int 2147483647))))
      (.cons (.asg (.v 6) (.bin false .Mod (.bin false .Add (.bin false .Mult (.v 5) (.v 5)) (.v 1)) (.c (.int 2147483629))))
      (.cons (.ret (.bin false .Mod (.bin false .FloorDiv (.bin false .Add (.bin false .Mult (.v 6) (.c (.int 2147483647))) (.bin false .Mod (.bin false .Mult (.v 6) (.v 5)) (.c (.int 2147483587)))) (.c (.int 64))) (.v 2)))
      .nil))))
/-- 10: _law_length; 0 _law_cell, 1 _law_some -/
def b__law_length : ISs := (.cons (.asg (.v 1) (.lst false (.cons (.bin false .Add (.c (.int 1)) (.call true f__law_mix (.cons (.v 0) (.cons (.c (.int 31541)) (.cons (.c (.int 40)) .nil))))) (.cons (.bin false .Sub (.bin false .Pow (.c (.int 10)) (.c (.int 12))) (.call true f__law_mix (.cons (.v 0) (.cons (.c (.int 44621)) (.cons (.c (.int 3)) .nil))))) (.cons (.bin false .Mod (.bin false .FloorDiv (.v 0) (.c (.int 3))) (.bin false .Add (.bin false .Pow (.c (.int 10)) (.c (.int 12))) (.c (.int 1)))) .nil)))))
      (.cons (.ret (.idx (.bin false .Add (.v 1) (.lst false (.cons (.bin false .Add (.c (.int 2)) (.call true f__law_mix (.cons (.v 0) (.cons (.c (.int 55051)) (.cons (.c (.int 300)) .nil))))) .nil))) (.call true f__law_mix (.cons (.v 0) (.cons (.c (.int 27437)) (.cons (.c (.int 4)) .nil))))))
      .nil))
abbrev b__law_points_1 : ISs := (.cons (.asg (.v 4) (.bin false .Mult (.call true f__law_mix (.cons (.bin false .Add (.v 1) (.bin false .Mult (.c (.int 37)) (.v 3))) (.cons (.c (.int 48271)) (.cons (.c (.int 1000003)) .nil)))) (.bin false .Add (.bin false .FloorDiv (.v 0) (.c (.int 1000003))) (.c (.int 1)))))
      (.cons (.ex (.bm false .append (.v 2) (.cons (.bin false .Mod (.v 4) (.bin false .Add (.v 0) (.c (.int 1)))) .nil)))
      (.cons (.ex (.bm false .append (.v 2) (.cons (.bi false .min (.cons (.v 0) (.cons (.bin false .Add (.idx (.v 2) (.neg (.c (.int 1)))) (.c (.int 1))) .nil))) .nil)))
      .nil)))
/-- 11: _law_points; 0 _law_length_here, 1 _law_cell, 2 _law_points_here, 3 _law_k, 4 _law_step -/
def b__law_points : ISs := (.cons (.asg (.v 2) (.lst true (.cons (.c (.int 0)) (.cons (.v 0) .nil))))
      (.cons (.fo (.v 3) .rng (.cons (.c (.int 7)) .nil) b__law_points_1)
      (.cons (.ret (.sss (.v 2)))
      .nil)))
/-- 12: _law_span; 0 _law_points_here, 1 _law_cell, 2 _law_low, 3 _law_high, 4 _law_track -/
def b__law_span : ISs := (.cons (.asg (.v 2) (.call true f__law_mix (.cons (.v 1) (.cons (.c (.int 69623)) (.cons (.bin false .Sub (.bi false .len (.cons (.v 0) .nil)) (.c (.int 1))) .nil)))))
      (.cons (.asg (.v 3) (.bin false .Add (.bin false .Add (.v 2) (.c (.int 1))) (.call true f__law_mix (.cons (.v 1) (.cons (.c (.int 40709)) (.cons (.bi false .min (.cons (.c (.int 3)) (.cons (.bin false .Sub (.bin false .Sub (.bi false .len (.cons (.v 0) .nil)) (.c (.int 1))) (.v 2)) .nil))) .nil))))))
      (.cons (.asg (.v 4) (.lst false (.cons (.call true f__law_mix (.cons (.v 1) (.cons (.c (.int 18149)) (.cons (.c (.int 4)) .nil)))) (.cons (.call true f__law_mix (.cons (.v 1) (.cons (.c (.int 13499)) (.cons (.c (.int 6)) .nil)))) (.cons (.bin false .Mod (.bin false .FloorDiv (.v 1) (.c (.int 7))) (.c (.int 1200))) (.cons (.bin false .Sub (.c (.int 1199)) (.call true f__law_mix (.cons (.v 1) (.cons (.c (.int 57089)) (.cons (.c (.int 3)) .nil))))) .nil))))))
      (.cons (.ret (.tup (.cons (.idx (.v 4) (.call true f__law_mix (.cons (.v 1) (.cons (.c (.int 17681)) (.cons (.c (.int 4)) .nil))))) (.cons (.idx (.v 0) (.v 2)) (.cons (.idx (.v 0) (.v 3)) .nil)))))
      .nil))))
/-- 13: _law_spans; 0 _law_cells, 1 _law_length_here, 2 _law_cell, 3 _law_points_here, 4 _law_one -/
def b__law_spans : ISs := (.cons (.asg (.v 3) (.call true f__law_points (.cons (.v 1) (.cons (.v 2) .nil))))
      (.cons (.ite (.cmp .Lt (.bi false .len (.cons (.v 3) .nil)) (.c (.int 2))) (.cons (.ret (.lst false .nil))
      .nil) .nil)
      (.cons (.ret (.lc false (.call true f__law_span (.cons (.v 3) (.cons (.v 4) .nil))) (.v 4) .seq (.cons (.v 0) .nil) (.c (.bl true))))
      .nil)))
abbrev b__law_covered_1 : ISs := (.cons (.ite (.and (.cmp .LtE (.v 3) (.v 1)) (.one (.cmp .Lt (.v 1) (.v 4)))) (.cons (.ret (.c (.bl true)))
      .nil) .nil)
      .nil)
/-- 14: _law_covered; 0 _law_mine, 1 _law_tick, 2 _law_track, 3 _law_first, 4 _law_behind -/
def b__law_covered : ISs := (.cons (.fo (.tup [2, 3, 4]) .seq (.cons (.v 0) .nil) b__law_covered_1)
      (.cons (.ret (.c (.bl false)))
      .nil))
abbrev b__law_holes_1 : ISs := (.cons (.asg (.v 7) (.call true f__law_covered (.cons (.v 4) (.cons (.v 6) .nil))))
      (.cons (.ite (.and (.v 7) (.one (.cmp .Is (.v 5) (.c .non)))) (.cons (.asg (.v 5) (.v 6))
      .nil) .nil)
      (.cons (.ite (.and (.not (.v 7)) (.one (.cmp .IsNot (.v 5) (.c .non)))) (.cons (.ex (.bm false .append (.v 1) (.cons (.tup (.cons (.v 2) (.cons (.v 5) (.cons (.v 6) .nil)))) .nil)))
      (.cons (.asg (.v 5) (.c .non))
      .nil)) .nil)
      .nil)))
abbrev b__law_holes_2 : ISs := (.cons (.asg (.v 4) (.lc false (.v 3) (.v 3) .seq (.cons (.v 0) .nil) (.cmp .Eq (.idx (.v 3) (.c (.int 0))) (.v 2))))
      (.cons (.asg (.v 5) (.c .non))
      (.cons (.fo (.v 6) .seq (.cons (.sss (.bin false .Add (.lc false (.idx (.v 3) (.c (.int 1))) (.v 3) .seq (.cons (.v 4) .nil) (.c (.bl true))) (.lc false (.idx (.v 3) (.c (.int 2))) (.v 3) .seq (.cons (.v 4) .nil) (.c (.bl true))))) .nil) b__law_holes_1)
      .nil)))
/-- 15: _law_holes; 0 _law_spans_here, 1 _law_holes_here, 2 _law_track, 3 _law_span_here, 4 _law_mine, 5 _law_begun, 6 _law_cut, 7 _law_covered_here -/
def b__law_holes : ISs := (.cons (.asg (.v 1) (.lst true .nil))
      (.cons (.fo (.v 2) .seq (.cons (.sss (.lc false (.idx (.v 3) (.c (.int 0))) (.v 3) .seq (.cons (.v 0) .nil) (.c (.bl true)))) .nil) b__law_holes_2)
      (.cons (.ret (.skl (.v 1)))
      .nil)))
abbrev b__law_is_1 : ISs := (.cons (.ite (.or (.not (.isi (.v 3) .tuple)) (.one (.cmp .NotEq (.bi false .len (.cons (.lc false (.v 4) (.v 4) .seq (.cons (.v 3) .nil) (.call true f__law_whole (.cons (.v 4) .nil))) .nil)) (.c (.int 3))))) (.cons (.ret (.c (.bl false)))
      .nil) .nil)
      .nil)
/-- 16: _law_is; 0 _law_found, 1 _law_length_here, 2 _law_holes_here, 3 _law_hole, 4 _law_part -/
def b__law_is : ISs := (.cons (.ite (.or (.not (.isi (.v 0) .tuple)) (.or (.cmp .NotEq (.bi false .len (.cons (.v 0) .nil)) (.c (.int 2))) (.or (.not (.call true f__law_whole (.cons (.idx (.v 0) (.c (.int 0))) .nil))) (.one (.not (.isi (.idx (.v 0) (.c (.int 1))) .list)))))) (.cons (.ret (.c (.bl false)))
      .nil) .nil)
      (.cons (.fo (.v 3) .seq (.cons (.idx (.v 0) (.c (.int 1))) .nil) b__law_is_1)
      (.cons (.ret (.cmp .Eq (.v 0) (.tup (.cons (.v 1) (.cons (.v 2) .nil)))))
      .nil)))
abbrev b_law_1 : ISs := (.cons (.ite (.not (.pk f__law_is (.cons (.call true f_roll_of (.cons (.v 1) (.cons (.v 6) .nil))) (.cons (.v 1) (.cons (.v 3) .nil))))) (.cons (.ret (.c (.bl false)))
      .nil) .nil)
      .nil)
/-- 17: law; 0 _law_script, 1 _law_length_here, 2 _law_spans_here, 3 _law_holes_here, 4 _law_handed, 5 _law_found, 6 _law_some, 7 _law_kept -/
def b_law : ISs := (.cons (.asg (.v 1) (.call true f__law_length (.cons (.call true f__law_cell_at (.cons (.v 0) (.cons (.c (.int 0)) .nil))) .nil)))
      (.cons (.asg (.v 2) (.call true f__law_spans (.cons (.sl (.v 0) (.c (.int 2)) (.c (.int 62))) (.cons (.v 1) (.cons (.call true f__law_cell_at (.cons (.v 0) (.cons (.c (.int 1)) .nil))) .nil)))))
      (.cons (.asg (.v 3) (.call true f__law_holes (.cons (.v 2) .nil)))
      (.cons (.asg (.v 4) (.bi true .list (.cons (.v 2) .nil)))
      (.cons (.asg (.v 5) (.call false f_roll_of (.cons (.v 1) (.cons (.v 4) .nil))))
      (.cons (.ite (.or (.cmp .NotEq (.v 4) (.v 2)) (.or (.not (.pk f__law_is (.cons (.v 5) (.cons (.v 1) (.cons (.v 3) .nil))))) (.one (.cmp .IsNot (.pk f_is_roll (.cons (.v 5) .nil)) (.c (.bl true)))))) (.cons (.ret (.c (.bl false)))
      .nil) .nil)
      (.cons (.ex (.bm false .clear (.v 4) .nil))
      (.cons (.fo (.v 6) .seq (.cons (.lst false (.cons (.sl3 (.v 2) .nop .nop (-1)) (.cons (.bin false .Add (.v 2) (.v 2)) (.cons (.v 3) (.cons (.sl3 (.v 3) .nop .nop (-1)) (.cons (.bin false .Add (.sl3 (.v 2) (.c (.int 1)) .nop (2)) (.v 2)) .nil)))))) .nil) b_law_1)
      (.cons (.ex (.bm false .append (.idx (.v 5) (.c (.int 1))) (.cons (.tup (.cons (.c (.int 0)) (.cons (.c (.int 0)) (.cons (.c (.int 1)) .nil)))) .nil)))
      (.cons (.asg (.v 7) (.bi false .list (.cons (.v 3) .nil)))
      (.cons (.ex (.bm false .append (.idx (.call false f_roll_of (.cons (.v 1) (.cons (.v 7) .nil))) (.c (.int 1))) (.cons (.tup (.cons (.c (.int 0)) (.cons (.c (.int 0)) (.cons (.c (.int 1)) .nil)))) .nil)))
      (.cons (.ite (.cmp .NotEq (.v 7) (.v 3)) (.cons (.ret (.c (.bl false)))
      .nil) .nil)
      (.cons (.ret (.and (.pk f__law_is (.cons (.call true f_roll_of (.cons (.v 1) (.cons (.v 2) .nil))) (.cons (.v 1) (.cons (.v 3) .nil)))) (.one (.pk f__law_is (.cons (.call true f_roll_of (.cons (.v 1) (.cons (.lst false .nil) .nil))) (.cons (.v 1) (.cons (.lst false .nil) .nil)))))))
      .nil)))))))))))))
def defs : List Df := [(⟨1, 1, b_is_whole⟩ : Df), (⟨1, 1, b_is_length⟩ : Df), (⟨2, 3, b_is_hole⟩ : Df), (⟨1, 1, b_by_first⟩ : Df), (⟨2, 5, b_are_holes⟩ : Df), (⟨1, 1, b_is_roll⟩ : Df), (⟨2, 7, b_roll_of⟩ : Df), (⟨2, 2, b__law_cell_at⟩ : Df), (⟨1, 1, b__law_whole⟩ : Df), (⟨3, 7, b__law_mix⟩ : Df), (⟨1, 2, b__law_length⟩ : Df), (⟨2, 5, b__law_points⟩ : Df), (⟨2, 5, b__law_span⟩ : Df), (⟨3, 5, b__law_spans⟩ : Df), (⟨2, 5, b__law_covered⟩ : Df), (⟨1, 8, b__law_holes⟩ : Df), (⟨3, 5, b__law_is⟩ : Df), (⟨1, 8, b_law⟩ : Df)]
def cds : List Cd := []
abbrev xls : List (Nat × Xd) := []
abbrev hds : List (Nat × (HSs × Nat)) := []
abbrev sls : List ((Nat × Nat) × Bool) := []
def tabs : Txl := { sl := sls, xl := xls, hl := [], cl := cds, dl := [], kl := [], gl := [(("MOST_HOLES", (.int 400)) : Str × T), (("MOST_TICKS", (.int 1000000000000)) : Str × T), (("MOST_TRACKS", (.int 1200)) : Str × T), (("_law_cell_at", (.fn 7)) : Str × T), (("_law_covered", (.fn 14)) : Str × T), (("_law_holes", (.fn 15)) : Str × T), (("_law_is", (.fn 16)) : Str × T), (("_law_length", (.fn 10)) : Str × T), (("_law_mix", (.fn 9)) : Str × T), (("_law_points", (.fn 11)) : Str × T), (("_law_span", (.fn 12)) : Str × T), (("_law_spans", (.fn 13)) : Str × T), (("_law_whole", (.fn 8)) : Str × T), (("are_holes", (.fn 4)) : Str × T), (("by_first", (.fn 3)) : Str × T), (("is_hole", (.fn 2)) : Str × T), (("is_length", (.fn 1)) : Str × T), (("is_roll", (.fn 5)) : Str × T), (("is_whole", (.fn 0)) : Str × T), (("roll_of", (.fn 6)) : Str × T)], bl := [("all" : Str), ("bool" : Str), ("int" : Str), ("isinstance" : Str), ("len" : Str), ("list" : Str), ("max" : Str), ("min" : Str), ("range" : Str), ("set" : Str), ("sorted" : Str), ("tuple" : Str)], fl := [(some "is_whole" : Option Str), (some "is_length" : Option Str), (some "is_hole" : Option Str), (some "by_first" : Option Str), (some "are_holes" : Option Str), (some "is_roll" : Option Str), (some "roll_of" : Option Str), (some "_law_cell_at" : Option Str), (some "_law_whole" : Option Str), (some "_law_mix" : Option Str), (some "_law_length" : Option Str), (some "_law_points" : Option Str), (some "_law_span" : Option Str), (some "_law_spans" : Option Str), (some "_law_covered" : Option Str), (some "_law_holes" : Option Str), (some "_law_is" : Option Str), (some "law" : Option Str)] }
abbrev BT : Tb := tbH (tbX (tbD (tbOf 18 cds) []) xls sls) hds
def PD (f : Nat) : Option Df := defs[f]?
noncomputable abbrev run (n f : Nat) (ds : List D) (S : Sto) : Wc.R D := cal BT PD n f ds S
end Lw
namespace Lw
open PySem L2 Wc
def GD (K : PySem.W.Frag) (fs cs : List Addr) (lm : Addr × Addr × Str) : Gd := ⟨K, fun i => fs.getD i 0, fun i => cs.getD i 0, some lm⟩
theorem sc0 : FnScope ["thing"] ["thing"] (defScope (top 4)) := ⟨rfl, rfl, rfl, by decide +kernel, rfl, by decide +kernel, by decide +kernel⟩
theorem ck0 : erSs tabs.tx ["thing"] b_is_whole (defScope (top 4)) (defBody (top 4)) = true := by decide +kernel
theorem sc1 : FnScope ["thing"] ["thing"] (defScope (top 9)) := ⟨rfl, rfl, rfl, by decide +kernel, rfl, by decide +kernel, by decide +kernel⟩
theorem ck1 : erSs tabs.tx ["thing"] b_is_length (defScope (top 9)) (defBody (top 9)) = true := by decide +kernel
theorem sc2 : FnScope ["thing", "length", "part"] ["thing", "length"] (defScope (top 10)) := ⟨rfl, rfl, rfl, by decide +kernel, rfl, by decide +kernel, by decide +kernel⟩
theorem ck2 : erSs tabs.tx ["thing", "length", "part"] b_is_hole (defScope (top 10)) (defBody (top 10)) = true := by decide +kernel
theorem sc3 : FnScope ["hole"] ["hole"] (defScope (top 11)) := ⟨rfl, rfl, rfl, by decide +kernel, rfl, by decide +kernel, by decide +kernel⟩
theorem ck3 : erSs tabs.tx ["hole"] b_by_first (defScope (top 11)) (defBody (top 11)) = true := by decide +kernel
theorem sc4 : FnScope ["holes", "length", "behinds", "ahead", "hole"] ["holes", "length"] (defScope (top 12)) := ⟨rfl, rfl, rfl, by decide +kernel, rfl, by decide +kernel, by decide +kernel⟩
theorem ck4 : erSs tabs.tx ["holes", "length", "behinds", "ahead", "hole"] b_are_holes (defScope (top 12)) (defBody (top 12)) = true := by decide +kernel
theorem sc5 : FnScope ["thing"] ["thing"] (defScope (top 13)) := ⟨rfl, rfl, rfl, by decide +kernel, rfl, by decide +kernel, by decide +kernel⟩
theorem ck5 : erSs tabs.tx ["thing"] b_is_roll (defScope (top 13)) (defBody (top 13)) = true := by decide +kernel
theorem sc6 : FnScope ["length", "spans", "span", "holes", "track", "first", "behind"] ["length", "spans"] (defScope (top 14)) := ⟨rfl, rfl, rfl, by decide +kernel, rfl, by decide +kernel, by decide +kernel⟩
theorem ck6 : erSs tabs.tx ["length", "spans", "span", "holes", "track", "first", "behind"] b_roll_of (defScope (top 14)) (defBody (top 14)) = true := by decide +kernel
theorem sc7 : FnScope ["_law_script", "_law_k"] ["_law_script", "_law_k"] (defScope (top 16)) := ⟨rfl, rfl, rfl, by decide +kernel, rfl, by decide +kernel, by decide +kernel⟩
theorem ck7 : erSs tabs.tx ["_law_script", "_law_k"] b__law_cell_at (defScope (top 16)) (defBody (top 16)) = true := by decide +kernel
theorem sc8 : FnScope ["_law_found"] ["_law_found"] (defScope (top 17)) := ⟨rfl, rfl, rfl, by decide +kernel, rfl, by decide +kernel, by decide +kernel⟩
theorem ck8 : erSs tabs.tx ["_law_found"] b__law_whole (defScope (top 17)) (defBody (top 17)) = true := by decide +kernel
theorem sc9 : FnScope ["_law_cell", "_law_by", "_law_many", "_law_digits", "_law_turn", "_law_one", "_law_two"] ["_law_cell", "_law_by", "_law_many"] (defScope (top 18)) := ⟨rfl, rfl, rfl, by decide +kernel, rfl, by decide +kernel, by decide +kernel⟩
theorem ck9 : erSs tabs.tx ["_law_cell", "_law_by", "_law_many", "_law_digits", "_law_turn", "_law_one", "_law_two"] b__law_mix (defScope (top 18)) (defBody (top 18)) = true := by decide +kernel
theorem sc10 : FnScope ["_law_cell", "_law_some"] ["_law_cell"] (defScope (top 19)) := ⟨rfl, rfl, rfl, by decide +kernel, rfl, by decide +kernel, by decide +kernel⟩
theorem ck10 : erSs tabs.tx ["_law_cell", "_law_some"] b__law_length (defScope (top 19)) (defBody (top 19)) = true := by decide +kernel
theorem sc11 : FnScope ["_law_length_here", "_law_cell", "_law_points_here", "_law_k", "_law_step"] ["_law_length_here", "_law_cell"] (defScope (top 20)) := ⟨rfl, rfl, rfl, by decide +kernel, rfl, by decide +kernel, by decide +kernel⟩
theorem ck11 : erSs tabs.tx ["_law_length_here", "_law_cell", "_law_points_here", "_law_k", "_law_step"] b__law_points (defScope (top 20)) (defBody (top 20)) = true := by decide +kernel
theorem sc12 : FnScope ["_law_points_here", "_law_cell", "_law_low", "_law_high", "_law_track"] ["_law_points_here", "_law_cell"] (defScope (top 21)) := ⟨rfl, rfl, rfl, by decide +kernel, rfl, by decide +kernel, by decide +kernel⟩
theorem ck12 : erSs tabs.tx ["_law_points_here", "_law_cell", "_law_low", "_law_high", "_law_track"] b__law_span (defScope (top 21)) (defBody (top 21)) = true := by decide +kernel
theorem sc13 : FnScope ["_law_cells", "_law_length_here", "_law_cell", "_law_points_here", "_law_one"] ["_law_cells", "_law_length_here", "_law_cell"] (defScope (top 22)) := ⟨rfl, rfl, rfl, by decide +kernel, rfl, by decide +kernel, by decide +kernel⟩
theorem ck13 : erSs tabs.tx ["_law_cells", "_law_length_here", "_law_cell", "_law_points_here", "_law_one"] b__law_spans (defScope (top 22)) (defBody (top 22)) = true := by decide +kernel
theorem sc14 : FnScope ["_law_mine", "_law_tick", "_law_track", "_law_first", "_law_behind"] ["_law_mine", "_law_tick"] (defScope (top 23)) := ⟨rfl, rfl, rfl, by decide +kernel, rfl, by decide +kernel, by decide +kernel⟩
theorem ck14 : erSs tabs.tx ["_law_mine", "_law_tick", "_law_track", "_law_first", "_law_behind"] b__law_covered (defScope (top 23)) (defBody (top 23)) = true := by decide +kernel
theorem sc15 : FnScope ["_law_spans_here", "_law_holes_here", "_law_track", "_law_span_here", "_law_mine", "_law_begun", "_law_cut", "_law_covered_here"] ["_law_spans_here"] (defScope (top 24)) := ⟨rfl, rfl, rfl, by decide +kernel, rfl, by decide +kernel, by decide +kernel⟩
theorem ck15 : erSs { tabs.tx with lm := true } ["_law_spans_here", "_law_holes_here", "_law_track", "_law_span_here", "_law_mine", "_law_begun", "_law_cut", "_law_covered_here"] b__law_holes (defScope (top 24)) (defBody (top 24)) = true := by decide +kernel
theorem sc16 : FnScope ["_law_found", "_law_length_here", "_law_holes_here", "_law_hole", "_law_part"] ["_law_found", "_law_length_here", "_law_holes_here"] (defScope (top 25)) := ⟨rfl, rfl, rfl, by decide +kernel, rfl, by decide +kernel, by decide +kernel⟩
theorem ck16 : erSs tabs.tx ["_law_found", "_law_length_here", "_law_holes_here", "_law_hole", "_law_part"] b__law_is (defScope (top 25)) (defBody (top 25)) = true := by decide +kernel
theorem sc17 : FnScope ["_law_script", "_law_length_here", "_law_spans_here", "_law_holes_here", "_law_handed", "_law_found", "_law_some", "_law_kept"] ["_law_script"] (defScope (top 26)) := ⟨rfl, rfl, rfl, by decide +kernel, rfl, by decide +kernel, by decide +kernel⟩
theorem ck17 : erSs tabs.tx ["_law_script", "_law_length_here", "_law_spans_here", "_law_holes_here", "_law_handed", "_law_found", "_law_some", "_law_kept"] b_law (defScope (top 26)) (defBody (top 26)) = true := by decide +kernel
theorem all_mk {l : PySem.W.OpenLaw} {w : World} {K : PySem.W.Frag} {h : Heap} {mg : Str → Option Value} {fa f0 f1 f2 f3 f4 f5 f6 f7 f8 f9 f10 f11 f12 f13 f14 f15 f16 f17 : Addr} (X : K.In h) (G : h.Ns mainGlobals mg) (hfa : mg "law" = some (.ref fa))
    {od0 an0 : Option Addr} {sl0 : Array (Option Value)} {oc0 kV0 dc0 pm0 cd0 ct0 : Value}
    (a0 : PySem.W.nsIn K mainGlobals "is_whole" = some (some (.ref f0)))
    (l0 : K.lookup f0 = some ⟨oc0, od0, .func (PySem.W.fnOf "is_whole" "is_whole" (defArgs (top 4)) (defBody (top 4)) (defScope (top 4)) .none kV0 dc0 pm0 an0 cd0 ct0), sl0⟩) (c0 : PySem.W.codeIn K cd0 "is_whole" = true) (k0 : PySem.W.keepIn K (.ref f0) = true)
    {od1 an1 : Option Addr} {sl1 : Array (Option Value)} {oc1 kV1 dc1 pm1 cd1 ct1 : Value}
    (a1 : PySem.W.nsIn K mainGlobals "is_length" = some (some (.ref f1)))
    (l1 : K.lookup f1 = some ⟨oc1, od1, .func (PySem.W.fnOf "is_length" "is_length" (defArgs (top 9)) (defBody (top 9)) (defScope (top 9)) .none kV1 dc1 pm1 an1 cd1 ct1), sl1⟩) (c1 : PySem.W.codeIn K cd1 "is_length" = true) (k1 : PySem.W.keepIn K (.ref f1) = true)
    {od2 an2 : Option Addr} {sl2 : Array (Option Value)} {oc2 kV2 dc2 pm2 cd2 ct2 : Value}
    (a2 : PySem.W.nsIn K mainGlobals "is_hole" = some (some (.ref f2)))
    (l2 : K.lookup f2 = some ⟨oc2, od2, .func (PySem.W.fnOf "is_hole" "is_hole" (defArgs (top 10)) (defBody (top 10)) (defScope (top 10)) .none kV2 dc2 pm2 an2 cd2 ct2), sl2⟩) (c2 : PySem.W.codeIn K cd2 "is_hole" = true) (k2 : PySem.W.keepIn K (.ref f2) = true)
    {od3 an3 : Option Addr} {sl3 : Array (Option Value)} {oc3 kV3 dc3 pm3 cd3 ct3 : Value}
    (a3 : PySem.W.nsIn K mainGlobals "by_first" = some (some (.ref f3)))
    (l3 : K.lookup f3 = some ⟨oc3, od3, .func (PySem.W.fnOf "by_first" "by_first" (defArgs (top 11)) (defBody (top 11)) (defScope (top 11)) .none kV3 dc3 pm3 an3 cd3 ct3), sl3⟩) (c3 : PySem.W.codeIn K cd3 "by_first" = true) (k3 : PySem.W.keepIn K (.ref f3) = true)
    {od4 an4 : Option Addr} {sl4 : Array (Option Value)} {oc4 kV4 dc4 pm4 cd4 ct4 : Value}
    (a4 : PySem.W.nsIn K mainGlobals "are_holes" = some (some (.ref f4)))
    (l4 : K.lookup f4 = some ⟨oc4, od4, .func (PySem.W.fnOf "are_holes" "are_holes" (defArgs (top 12)) (defBody (top 12)) (defScope (top 12)) .none kV4 dc4 pm4 an4 cd4 ct4), sl4⟩) (c4 : PySem.W.codeIn K cd4 "are_holes" = true) (k4 : PySem.W.keepIn K (.ref f4) = true)
    {od5 an5 : Option Addr} {sl5 : Array (Option Value)} {oc5 kV5 dc5 pm5 cd5 ct5 : Value}
    (a5 : PySem.W.nsIn K mainGlobals "is_roll" = some (some (.ref f5)))
    (l5 : K.lookup f5 = some ⟨oc5, od5, .func (PySem.W.fnOf "is_roll" "is_roll" (defArgs (top 13)) (defBody (top 13)) (defScope (top 13)) .none kV5 dc5 pm5 an5 cd5 ct5), sl5⟩) (c5 : PySem.W.codeIn K cd5 "is_roll" = true) (k5 : PySem.W.keepIn K (.ref f5) = true)
    {od6 an6 : Option Addr} {sl6 : Array (Option Value)} {oc6 kV6 dc6 pm6 cd6 ct6 : Value}
    (a6 : PySem.W.nsIn K mainGlobals "roll_of" = some (some (.ref f6)))
    (l6 : K.lookup f6 = some ⟨oc6, od6, .func (PySem.W.fnOf "roll_of" "roll_of" (defArgs (top 14)) (defBody (top 14)) (defScope (top 14)) .none kV6 dc6 pm6 an6 cd6 ct6), sl6⟩) (c6 : PySem.W.codeIn K cd6 "roll_of" = true) (k6 : PySem.W.keepIn K (.ref f6) = true)
    {od7 an7 : Option Addr} {sl7 : Array (Option Value)} {oc7 kV7 dc7 pm7 cd7 ct7 : Value}
    (a7 : PySem.W.nsIn K mainGlobals "_law_cell_at" = some (some (.ref f7)))
    (l7 : K.lookup f7 = some ⟨oc7, od7, .func (PySem.W.fnOf "_law_cell_at" "_law_cell_at" (defArgs (top 16)) (defBody (top 16)) (defScope (top 16)) .none kV7 dc7 pm7 an7 cd7 ct7), sl7⟩) (c7 : PySem.W.codeIn K cd7 "_law_cell_at" = true) (k7 : PySem.W.keepIn K (.ref f7) = true)
    {od8 an8 : Option Addr} {sl8 : Array (Option Value)} {oc8 kV8 dc8 pm8 cd8 ct8 : Value}
    (a8 : PySem.W.nsIn K mainGlobals "_law_whole" = some (some (.ref f8)))
    (l8 : K.lookup f8 = some ⟨oc8, od8, .func (PySem.W.fnOf "_law_whole" "_law_whole" (defArgs (top 17)) (defBody (top 17)) (defScope (top 17)) .none kV8 dc8 pm8 an8 cd8 ct8), sl8⟩) (c8 : PySem.W.codeIn K cd8 "_law_whole" = true) (k8 : PySem.W.keepIn K (.ref f8) = true)
    {od9 an9 : Option Addr} {sl9 : Array (Option Value)} {oc9 kV9 dc9 pm9 cd9 ct9 : Value}
    (a9 : PySem.W.nsIn K mainGlobals "_law_mix" = some (some (.ref f9)))
    (l9 : K.lookup f9 = some ⟨oc9, od9, .func (PySem.W.fnOf "_law_mix" "_law_mix" (defArgs (top 18)) (defBody (top 18)) (defScope (top 18)) .none kV9 dc9 pm9 an9 cd9 ct9), sl9⟩) (c9 : PySem.W.codeIn K cd9 "_law_mix" = true) (k9 : PySem.W.keepIn K (.ref f9) = true)
    {od10 an10 : Option Addr} {sl10 : Array (Option Value)} {oc10 kV10 dc10 pm10 cd10 ct10 : Value}
    (a10 : PySem.W.nsIn K mainGlobals "_law_length" = some (some (.ref f10)))
    (l10 : K.lookup f10 = some ⟨oc10, od10, .func (PySem.W.fnOf "_law_length" "_law_length" (defArgs (top 19)) (defBody (top 19)) (defScope (top 19)) .none kV10 dc10 pm10 an10 cd10 ct10), sl10⟩) (c10 : PySem.W.codeIn K cd10 "_law_length" = true) (k10 : PySem.W.keepIn K (.ref f10) = true)
    {od11 an11 : Option Addr} {sl11 : Array (Option Value)} {oc11 kV11 dc11 pm11 cd11 ct11 : Value}
    (a11 : PySem.W.nsIn K mainGlobals "_law_points" = some (some (.ref f11)))
    (l11 : K.lookup f11 = some ⟨oc11, od11, .func (PySem.W.fnOf "_law_points" "_law_points" (defArgs (top 20)) (defBody (top 20)) (defScope (top 20)) .none kV11 dc11 pm11 an11 cd11 ct11), sl11⟩) (c11 : PySem.W.codeIn K cd11 "_law_points" = true) (k11 : PySem.W.keepIn K (.ref f11) = true)
    {od12 an12 : Option Addr} {sl12 : Array (Option Value)} {oc12 kV12 dc12 pm12 cd12 ct12 : Value}
    (a12 : PySem.W.nsIn K mainGlobals "_law_span" = some (some (.ref f12)))
    (l12 : K.lookup f12 = some ⟨oc12, od12, .func (PySem.W.fnOf "_law_span" "_law_span" (defArgs (top 21)) (defBody (top 21)) (defScope (top 21)) .none kV12 dc12 pm12 an12 cd12 ct12), sl12⟩) (c12 : PySem.W.codeIn K cd12 "_law_span" = true) (k12 : PySem.W.keepIn K (.ref f12) = true)
    {od13 an13 : Option Addr} {sl13 : Array (Option Value)} {oc13 kV13 dc13 pm13 cd13 ct13 : Value}
    (a13 : PySem.W.nsIn K mainGlobals "_law_spans" = some (some (.ref f13)))
    (l13 : K.lookup f13 = some ⟨oc13, od13, .func (PySem.W.fnOf "_law_spans" "_law_spans" (defArgs (top 22)) (defBody (top 22)) (defScope (top 22)) .none kV13 dc13 pm13 an13 cd13 ct13), sl13⟩) (c13 : PySem.W.codeIn K cd13 "_law_spans" = true) (k13 : PySem.W.keepIn K (.ref f13) = true)
    {od14 an14 : Option Addr} {sl14 : Array (Option Value)} {oc14 kV14 dc14 pm14 cd14 ct14 : Value}
    (a14 : PySem.W.nsIn K mainGlobals "_law_covered" = some (some (.ref f14)))
    (l14 : K.lookup f14 = some ⟨oc14, od14, .func (PySem.W.fnOf "_law_covered" "_law_covered" (defArgs (top 23)) (defBody (top 23)) (defScope (top 23)) .none kV14 dc14 pm14 an14 cd14 ct14), sl14⟩) (c14 : PySem.W.codeIn K cd14 "_law_covered" = true) (k14 : PySem.W.keepIn K (.ref f14) = true)
    {cc cP : Addr} {ce : Value} {cdd : Option Addr} {csl : Array (Option Value)} {cvs : Array Value}
    {od15 an15 : Option Addr} {sl15 : Array (Option Value)} {oc15 kV15 dc15 pm15 ct15 : Value}
    (a15 : PySem.W.nsIn K mainGlobals "_law_holes" = some (some (.ref f15)))
    (l15 : K.lookup f15 = some ⟨oc15, od15, .func (PySem.W.fnOf "_law_holes" "_law_holes" (defArgs (top 24)) (defBody (top 24)) (defScope (top 24)) .none kV15 dc15 pm15 an15 (.ref cc) ct15), sl15⟩) (c15 : PySem.W.codeIn K (.ref cc) "_law_holes" = true) (k15 : PySem.W.keepIn K (.ref f15) = true) (lcc : K.lookup cc = some ⟨ce, cdd, .fields cvs, csl⟩) (hcv : cvs[11]? = some (.ref cP)) (ncP : K.lookup cP = none)
    {od16 an16 : Option Addr} {sl16 : Array (Option Value)} {oc16 kV16 dc16 pm16 cd16 ct16 : Value}
    (a16 : PySem.W.nsIn K mainGlobals "_law_is" = some (some (.ref f16)))
    (l16 : K.lookup f16 = some ⟨oc16, od16, .func (PySem.W.fnOf "_law_is" "_law_is" (defArgs (top 25)) (defBody (top 25)) (defScope (top 25)) .none kV16 dc16 pm16 an16 cd16 ct16), sl16⟩) (c16 : PySem.W.codeIn K cd16 "_law_is" = true) (k16 : PySem.W.keepIn K (.ref f16) = true)
    {od17 an17 : Option Addr} {sl17 : Array (Option Value)} {oc17 kV17 dc17 pm17 cd17 ct17 : Value}
    (a17 : PySem.W.nsIn K mainGlobals "law" = some (some (.ref f17)))
    (l17 : K.lookup f17 = some ⟨oc17, od17, .func (PySem.W.fnOf "law" "law" (defArgs (top 26)) (defBody (top 26)) (defScope (top 26)) .none kV17 dc17 pm17 an17 cd17 ct17), sl17⟩) (c17 : PySem.W.codeIn K cd17 "law" = true) (k17 : PySem.W.keepIn K (.ref f17) = true)
    {tk0 : Tok} (gg0 : PySem.W.nsIn K mainGlobals "MOST_HOLES" = some (some (.int 400 tk0)))
    {tk1 : Tok} (gg1 : PySem.W.nsIn K mainGlobals "MOST_TICKS" = some (some (.int 1000000000000 tk1)))
    {tk2 : Tok} (gg2 : PySem.W.nsIn K mainGlobals "MOST_TRACKS" = some (some (.int 1200 tk2)))
    (z0 : PySem.W.nsIn K mainGlobals "all" = some none)
    (z1 : PySem.W.nsIn K mainGlobals "bool" = some none)
    (z2 : PySem.W.nsIn K mainGlobals "int" = some none)
    (z3 : PySem.W.nsIn K mainGlobals "isinstance" = some none)
    (z4 : PySem.W.nsIn K mainGlobals "len" = some none)
    (z5 : PySem.W.nsIn K mainGlobals "list" = some none)
    (z6 : PySem.W.nsIn K mainGlobals "max" = some none)
    (z7 : PySem.W.nsIn K mainGlobals "min" = some none)
    (z8 : PySem.W.nsIn K mainGlobals "range" = some none)
    (z9 : PySem.W.nsIn K mainGlobals "set" = some none)
    (z10 : PySem.W.nsIn K mainGlobals "sorted" = some none)
    (z11 : PySem.W.nsIn K mainGlobals "tuple" = some none)
    (hlaw : ∀ ns : List Int, ns.length ≤ 63 → (∀ z ∈ ns, Builtin.Int.intBits z ≤ 1048576) → ∃ S', run 20 f_law [.t (.scr ns)] [] = .ok (.t (.bl true)) S') :
    ∃ c P : Addr, PySem.W.tabIn K "_law_holes" = some (c, P) ∧ K.lookup P = none ∧ ∃ fd : FuncData, (∀ (s : Shared) (v : Value), BindsTo s fd ⟨[v], []⟩ [("_law_script", v)]) ∧ ∀ base : Heap, K.In base → base.Ns mainGlobals mg → LamX.TabB base mg c P → FnOk l.prog w K mg base (L2.CX l.prog w) 40 fa fd ["_law_script"] (spScr K [P]) := by
  have e := (PySem.W.mg_of X G a17).symm.trans hfa
  have e2 : f17 = fa := by cases e; rfl
  subst e2
  have M : MgOk tabs.tx (GD K [f0, f1, f2, f3, f4, f5, f6, f7, f8, f9, f10, f11, f12, f13, f14, f15, f16, f17] [] (cc, cP, ("_law_holes" ++ ".<locals>.") ++ "<lambda>")) BT mg := (mgOk_of (l := tabs) (G := (GD K [f0, f1, f2, f3, f4, f5, f6, f7, f8, f9, f10, f11, f12, f13, f14, f15, f16, f17] [] (cc, cP, ("_law_holes" ++ ".<locals>.") ++ "<lambda>"))) (.cons (gn_int (PySem.W.mg_of X G gg0)) (.cons (gn_int (PySem.W.mg_of X G gg1)) (.cons (gn_int (PySem.W.mg_of X G gg2)) (.cons (gn_fn (PySem.W.mg_of X G a7) rfl) (.cons (gn_fn (PySem.W.mg_of X G a14) rfl) (.cons (gn_fn (PySem.W.mg_of X G a15) rfl) (.cons (gn_fn (PySem.W.mg_of X G a16) rfl) (.cons (gn_fn (PySem.W.mg_of X G a10) rfl) (.cons (gn_fn (PySem.W.mg_of X G a9) rfl) (.cons (gn_fn (PySem.W.mg_of X G a11) rfl) (.cons (gn_fn (PySem.W.mg_of X G a12) rfl) (.cons (gn_fn (PySem.W.mg_of X G a13) rfl) (.cons (gn_fn (PySem.W.mg_of X G a8) rfl) (.cons (gn_fn (PySem.W.mg_of X G a4) rfl) (.cons (gn_fn (PySem.W.mg_of X G a3) rfl) (.cons (gn_fn (PySem.W.mg_of X G a2) rfl) (.cons (gn_fn (PySem.W.mg_of X G a1) rfl) (.cons (gn_fn (PySem.W.mg_of X G a5) rfl) (.cons (gn_fn (PySem.W.mg_of X G a0) rfl) (.cons (gn_fn (PySem.W.mg_of X G a6) rfl) .nil)))))))))))))))))))) (.cons (PySem.W.mg_none_of X G z0) (.cons (PySem.W.mg_none_of X G z1) (.cons (PySem.W.mg_none_of X G z2) (.cons (PySem.W.mg_none_of X G z3) (.cons (PySem.W.mg_none_of X G z4) (.cons (PySem.W.mg_none_of X G z5) (.cons (PySem.W.mg_none_of X G z6) (.cons (PySem.W.mg_none_of X G z7) (.cons (PySem.W.mg_none_of X G z8) (.cons (PySem.W.mg_none_of X G z9) (.cons (PySem.W.mg_none_of X G z10) (.cons (PySem.W.mg_none_of X G z11) .nil)))))))))))) (.cons (fun _ e => by cases e; exact PySem.W.mg_of X G a0) (.cons (fun _ e => by cases e; exact PySem.W.mg_of X G a1) (.cons (fun _ e => by cases e; exact PySem.W.mg_of X G a2) (.cons (fun _ e => by cases e; exact PySem.W.mg_of X G a3) (.cons (fun _ e => by cases e; exact PySem.W.mg_of X G a4) (.cons (fun _ e => by cases e; exact PySem.W.mg_of X G a5) (.cons (fun _ e => by cases e; exact PySem.W.mg_of X G a6) (.cons (fun _ e => by cases e; exact PySem.W.mg_of X G a7) (.cons (fun _ e => by cases e; exact PySem.W.mg_of X G a8) (.cons (fun _ e => by cases e; exact PySem.W.mg_of X G a9) (.cons (fun _ e => by cases e; exact PySem.W.mg_of X G a10) (.cons (fun _ e => by cases e; exact PySem.W.mg_of X G a11) (.cons (fun _ e => by cases e; exact PySem.W.mg_of X G a12) (.cons (fun _ e => by cases e; exact PySem.W.mg_of X G a13) (.cons (fun _ e => by cases e; exact PySem.W.mg_of X G a14) (.cons (fun _ e => by cases e; exact PySem.W.mg_of X G a15) (.cons (fun _ e => by cases e; exact PySem.W.mg_of X G a16) (.cons (fun _ e => by cases e; exact PySem.W.mg_of X G a17) (.nil _))))))))))))))))))) rfl (.nil _) .nil .nil .nil .nil .nil .nil).h hds
  have HH : Al (fun (p : Nat × (HSs × Nat)) => ∃ fd ps, DefHAt tabs.tx (GD K [f0, f1, f2, f3, f4, f5, f6, f7, f8, f9, f10, f11, f12, f13, f14, f15, f16, f17] [] (cc, cP, ("_law_holes" ++ ".<locals>.") ++ "<lambda>")) p.1 p.2.1 p.2.2 fd ps) hds := .nil
  have d0 := def_mk (G := (GD K [f0, f1, f2, f3, f4, f5, f6, f7, f8, f9, f10, f11, f12, f13, f14, f15, f16, f17] [] (cc, cP, ("_law_holes" ++ ".<locals>.") ++ "<lambda>"))) (st := top 4) (ps := ["thing"]) (d := ⟨1, 1, b_is_whole⟩) (i := 0) rfl rfl l0 c0 k0 (fun _ _ _ _ _ _ us hl => match us, hl with | [_], _ => rfl) sc0 rfl rfl ck0 rfl
  have d1 := def_mk (G := (GD K [f0, f1, f2, f3, f4, f5, f6, f7, f8, f9, f10, f11, f12, f13, f14, f15, f16, f17] [] (cc, cP, ("_law_holes" ++ ".<locals>.") ++ "<lambda>"))) (st := top 9) (ps := ["thing"]) (d := ⟨1, 1, b_is_length⟩) (i := 1) rfl rfl l1 c1 k1 (fun _ _ _ _ _ _ us hl => match us, hl with | [_], _ => rfl) sc1 rfl rfl ck1 rfl
  have d2 := def_mk (G := (GD K [f0, f1, f2, f3, f4, f5, f6, f7, f8, f9, f10, f11, f12, f13, f14, f15, f16, f17] [] (cc, cP, ("_law_holes" ++ ".<locals>.") ++ "<lambda>"))) (st := top 10) (ps := ["thing", "length"]) (d := ⟨2, 3, b_is_hole⟩) (i := 2) rfl rfl l2 c2 k2 (fun _ _ _ _ _ _ us hl => match us, hl with | [_, _], _ => rfl) sc2 rfl rfl ck2 rfl
  have d3 := def_mk (G := (GD K [f0, f1, f2, f3, f4, f5, f6, f7, f8, f9, f10, f11, f12, f13, f14, f15, f16, f17] [] (cc, cP, ("_law_holes" ++ ".<locals>.") ++ "<lambda>"))) (st := top 11) (ps := ["hole"]) (d := ⟨1, 1, b_by_first⟩) (i := 3) rfl rfl l3 c3 k3 (fun _ _ _ _ _ _ us hl => match us, hl with | [_], _ => rfl) sc3 rfl rfl ck3 rfl
  have d4 := def_mk (G := (GD K [f0, f1, f2, f3, f4, f5, f6, f7, f8, f9, f10, f11, f12, f13, f14, f15, f16, f17] [] (cc, cP, ("_law_holes" ++ ".<locals>.") ++ "<lambda>"))) (st := top 12) (ps := ["holes", "length"]) (d := ⟨2, 5, b_are_holes⟩) (i := 4) rfl rfl l4 c4 k4 (fun _ _ _ _ _ _ us hl => match us, hl with | [_, _], _ => rfl) sc4 rfl rfl ck4 rfl
  have d5 := def_mk (G := (GD K [f0, f1, f2, f3, f4, f5, f6, f7, f8, f9, f10, f11, f12, f13, f14, f15, f16, f17] [] (cc, cP, ("_law_holes" ++ ".<locals>.") ++ "<lambda>"))) (st := top 13) (ps := ["thing"]) (d := ⟨1, 1, b_is_roll⟩) (i := 5) rfl rfl l5 c5 k5 (fun _ _ _ _ _ _ us hl => match us, hl with | [_], _ => rfl) sc5 rfl rfl ck5 rfl
  have d6 := def_mk (G := (GD K [f0, f1, f2, f3, f4, f5, f6, f7, f8, f9, f10, f11, f12, f13, f14, f15, f16, f17] [] (cc, cP, ("_law_holes" ++ ".<locals>.") ++ "<lambda>"))) (st := top 14) (ps := ["length", "spans"]) (d := ⟨2, 7, b_roll_of⟩) (i := 6) rfl rfl l6 c6 k6 (fun _ _ _ _ _ _ us hl => match us, hl with | [_, _], _ => rfl) sc6 rfl rfl ck6 rfl
  have d7 := def_mk (G := (GD K [f0, f1, f2, f3, f4, f5, f6, f7, f8, f9, f10, f11, f12, f13, f14, f15, f16, f17] [] (cc, cP, ("_law_holes" ++ ".<locals>.") ++ "<lambda>"))) (st := top 16) (ps := ["_law_script", "_law_k"]) (d := ⟨2, 2, b__law_cell_at⟩) (i := 7) rfl rfl l7 c7 k7 (fun _ _ _ _ _ _ us hl => match us, hl with | [_, _], _ => rfl) sc7 rfl rfl ck7 rfl
  have d8 := def_mk (G := (GD K [f0, f1, f2, f3, f4, f5, f6, f7, f8, f9, f10, f11, f12, f13, f14, f15, f16, f17] [] (cc, cP, ("_law_holes" ++ ".<locals>.") ++ "<lambda>"))) (st := top 17) (ps := ["_law_found"]) (d := ⟨1, 1, b__law_whole⟩) (i := 8) rfl rfl l8 c8 k8 (fun _ _ _ _ _ _ us hl => match us, hl with | [_], _ => rfl) sc8 rfl rfl ck8 rfl
  have d9 := def_mk (G := (GD K [f0, f1, f2, f3, f4, f5, f6, f7, f8, f9, f10, f11, f12, f13, f14, f15, f16, f17] [] (cc, cP, ("_law_holes" ++ ".<locals>.") ++ "<lambda>"))) (st := top 18) (ps := ["_law_cell", "_law_by", "_law_many"]) (d := ⟨3, 7, b__law_mix⟩) (i := 9) rfl rfl l9 c9 k9 (fun _ _ _ _ _ _ us hl => match us, hl with | [_, _, _], _ => rfl) sc9 rfl rfl ck9 rfl
  have d10 := def_mk (G := (GD K [f0, f1, f2, f3, f4, f5, f6, f7, f8, f9, f10, f11, f12, f13, f14, f15, f16, f17] [] (cc, cP, ("_law_holes" ++ ".<locals>.") ++ "<lambda>"))) (st := top 19) (ps := ["_law_cell"]) (d := ⟨1, 2, b__law_length⟩) (i := 10) rfl rfl l10 c10 k10 (fun _ _ _ _ _ _ us hl => match us, hl with | [_], _ => rfl) sc10 rfl rfl ck10 rfl
  have d11 := def_mk (G := (GD K [f0, f1, f2, f3, f4, f5, f6, f7, f8, f9, f10, f11, f12, f13, f14, f15, f16, f17] [] (cc, cP, ("_law_holes" ++ ".<locals>.") ++ "<lambda>"))) (st := top 20) (ps := ["_law_length_here", "_law_cell"]) (d := ⟨2, 5, b__law_points⟩) (i := 11) rfl rfl l11 c11 k11 (fun _ _ _ _ _ _ us hl => match us, hl with | [_, _], _ => rfl) sc11 rfl rfl ck11 rfl
  have d12 := def_mk (G := (GD K [f0, f1, f2, f3, f4, f5, f6, f7, f8, f9, f10, f11, f12, f13, f14, f15, f16, f17] [] (cc, cP, ("_law_holes" ++ ".<locals>.") ++ "<lambda>"))) (st := top 21) (ps := ["_law_points_here", "_law_cell"]) (d := ⟨2, 5, b__law_span⟩) (i := 12) rfl rfl l12 c12 k12 (fun _ _ _ _ _ _ us hl => match us, hl with | [_, _], _ => rfl) sc12 rfl rfl ck12 rfl
  have d13 := def_mk (G := (GD K [f0, f1, f2, f3, f4, f5, f6, f7, f8, f9, f10, f11, f12, f13, f14, f15, f16, f17] [] (cc, cP, ("_law_holes" ++ ".<locals>.") ++ "<lambda>"))) (st := top 22) (ps := ["_law_cells", "_law_length_here", "_law_cell"]) (d := ⟨3, 5, b__law_spans⟩) (i := 13) rfl rfl l13 c13 k13 (fun _ _ _ _ _ _ us hl => match us, hl with | [_, _, _], _ => rfl) sc13 rfl rfl ck13 rfl
  have d14 := def_mk (G := (GD K [f0, f1, f2, f3, f4, f5, f6, f7, f8, f9, f10, f11, f12, f13, f14, f15, f16, f17] [] (cc, cP, ("_law_holes" ++ ".<locals>.") ++ "<lambda>"))) (st := top 23) (ps := ["_law_mine", "_law_tick"]) (d := ⟨2, 5, b__law_covered⟩) (i := 14) rfl rfl l14 c14 k14 (fun _ _ _ _ _ _ us hl => match us, hl with | [_, _], _ => rfl) sc14 rfl rfl ck14 rfl
  have d15 := def_mkL (G := (GD K [f0, f1, f2, f3, f4, f5, f6, f7, f8, f9, f10, f11, f12, f13, f14, f15, f16, f17] [] (cc, cP, ("_law_holes" ++ ".<locals>.") ++ "<lambda>"))) (st := top 24) (ps := ["_law_spans_here"]) (d := ⟨1, 8, b__law_holes⟩) (i := 15) (cP := cP) rfl rfl l15 c15 k15 (fun _ _ _ _ _ _ us hl => match us, hl with | [_], _ => rfl) sc15 rfl rfl ck15 rfl rfl
  have d16 := def_mk (G := (GD K [f0, f1, f2, f3, f4, f5, f6, f7, f8, f9, f10, f11, f12, f13, f14, f15, f16, f17] [] (cc, cP, ("_law_holes" ++ ".<locals>.") ++ "<lambda>"))) (st := top 25) (ps := ["_law_found", "_law_length_here", "_law_holes_here"]) (d := ⟨3, 5, b__law_is⟩) (i := 16) rfl rfl l16 c16 k16 (fun _ _ _ _ _ _ us hl => match us, hl with | [_, _, _], _ => rfl) sc16 rfl rfl ck16 rfl
  have d17 := def_mk (G := (GD K [f0, f1, f2, f3, f4, f5, f6, f7, f8, f9, f10, f11, f12, f13, f14, f15, f16, f17] [] (cc, cP, ("_law_holes" ++ ".<locals>.") ++ "<lambda>"))) (st := top 26) (ps := ["_law_script"]) (d := ⟨1, 8, b_law⟩) (i := 17) rfl rfl l17 c17 k17 (fun _ _ _ _ _ _ us hl => match us, hl with | [_], _ => rfl) sc17 rfl rfl ck17 rfl
  have O : AlI (fun i d => DefOk tabs.tx (GD K [f0, f1, f2, f3, f4, f5, f6, f7, f8, f9, f10, f11, f12, f13, f14, f15, f16, f17] [] (cc, cP, ("_law_holes" ++ ".<locals>.") ++ "<lambda>")) i d) 0 defs := (.cons ⟨_, _, d0⟩ (.cons ⟨_, _, d1⟩ (.cons ⟨_, _, d2⟩ (.cons ⟨_, _, d3⟩ (.cons ⟨_, _, d4⟩ (.cons ⟨_, _, d5⟩ (.cons ⟨_, _, d6⟩ (.cons ⟨_, _, d7⟩ (.cons ⟨_, _, d8⟩ (.cons ⟨_, _, d9⟩ (.cons ⟨_, _, d10⟩ (.cons ⟨_, _, d11⟩ (.cons ⟨_, _, d12⟩ (.cons ⟨_, _, d13⟩ (.cons ⟨_, _, d14⟩ (.cons ⟨_, _, d15⟩ (.cons ⟨_, _, d16⟩ (.cons ⟨_, _, d17⟩ (.nil _)))))))))))))))))))
  exact ⟨cc, cP, tab_mk a15 l15 lcc hcv, ncP, _, fun s v => .of_eq rfl, fun base _ _ TB => law_fn (G := (GD K [f0, f1, f2, f3, f4, f5, f6, f7, f8, f9, f10, f11, f12, f13, f14, f15, f16, f17] [] (cc, cP, ("_law_holes" ++ ".<locals>.") ++ "<lambda>"))) hlaw (fn_all (P := l.prog) (w := w) (base := base) M (fun _ _ _ e => by cases e; exact TB) (HD := fun f => hds.lookup f) (hH_of _ hds) (hDH_of HH) (D := PD) (fun f hf => have h0 : decide (f < 18) = true := hf; have h1 : f < defs.length := of_decide_eq_true h0; ⟨defs[f], List.getElem?_eq_getElem h1⟩) (fun f d hd => by have q := O.at hd; rw [Nat.zero_add] at q; exact q) 20 f_law _ _ _ rfl d17).1⟩
end Lw
namespace Lw
open PySem L2 Wc
abbrev I (i : Int) : D := .t (.int i)
abbrev NI (k : Nat) : D := .t (.int (k : Int))
/-! ### plain things of any kinds: not the empty list -/
def OkP (n : Nat) (t : T) : Prop := ∃ d, t.pd = some d ∧ d.canLay0 = true ∧ d.depth ≤ n
theorem okP_str {z : Str} (h : PyData.strOk z = true) : OkP 0 (.str z) := ⟨_, rfl, by simp [PyData.canLay0, h], by simp [PyData.depth]⟩
theorem okP_int (i : Int) : OkP 0 (.int i) := ⟨_, rfl, by simp [PyData.canLay0], by simp [PyData.depth]⟩
theorem okP_s {n : Nat} : ∀ {l : List T}, (∀ t ∈ l, OkP n t) → ∃ ds, T.pds l = some ds ∧ PyData.canLayAll0 ds = true ∧ PyData.depthAll ds ≤ n ∧ ds.length = l.length
  | [], _ => ⟨[], rfl, rfl, Nat.zero_le _, rfl⟩
  | t :: l, h => by
    obtain ⟨d, h1, h2, h3⟩ := h t List.mem_cons_self
    obtain ⟨ds, g1, g2, g3, g4⟩ := okP_s (l := l) fun t ht => h t (List.mem_cons_of_mem _ ht)
    exact ⟨d :: ds, by simp only [T.pds, h1, g1], by simp only [PyData.canLayAll0, h2, g2, Bool.and_self], by simp only [PyData.depthAll]; exact Nat.max_le.mpr ⟨h3, g3⟩, by simp [g4]⟩
theorem okP_lst {n : Nat} {l : List T} (h : ∀ t ∈ l, OkP n t) : OkP (n + 1) (.lst l) := by
  obtain ⟨ds, g1, g2, g3, _⟩ := okP_s h
  exact ⟨.list ds, by simp only [T.pd, g1, Option.map_some], by simpa only [PyData.canLay0] using g2, by simp only [PyData.depth]; omega⟩
theorem okP_tup {n : Nat} {l : List T} (h : ∀ t ∈ l, OkP n t) : OkP (n + 1) (.tup l) := by
  obtain ⟨ds, g1, g2, g3, _⟩ := okP_s h
  exact ⟨.tuple ds, by simp only [T.pd, g1, Option.map_some], by simpa only [PyData.canLay0] using g2, by simp only [PyData.depth]; omega⟩
theorem OkP.le {n m : Nat} {t : T} (h : OkP n t) (hm : n ≤ m) : OkP m t := let ⟨d, a, b, c⟩ := h; ⟨d, a, b, by omega⟩
theorem ne_nil {n : Nat} {l : List T} (hn : n ≤ 60) (h : ∀ t ∈ l, OkP n t) (S : Sto) : pCmp .NotEq (.t (.lst l)) (.t (.lst [])) S = .ok (.t (.bl (!l.isEmpty))) S := by
  obtain ⟨ds, g1, g2, g3, g4⟩ := okP_s h
  have e1 : look S (.t (.lst l)) = some (.list ds) := by rw [look_t]; simp only [T.pd, g1, Option.map_some]
  have e2 : look S (.t (.lst [])) = some (.list []) := by rw [look_t]; rfl
  have s1 : SeqAt.shaped (.list ds) = true := by
    unfold SeqAt.shaped
    rw [show (PyData.list ds).canLay0 = true by simpa only [PyData.canLay0] using g2, decide_eq_true (show (PyData.list ds).depth ≤ 64 by simp only [PyData.depth]; omega)]; rfl
  have s2 : SeqAt.shaped (.list []) = true := by rfl
  simp only [pCmp, eqD, e1, e2, s1, s2, Bool.and_self, if_true, Option.map_some, bl]
  cases ds with
  | nil =>
    have : l = [] := List.length_eq_zero_iff.mp (by simpa using g4.symm)
    subst this; rfl
  | cons d ds =>
    cases l with
    | nil => simp at g4
    | cons t l => rfl
theorem ne_nilR {S : Sto} {k n : Nat} {l : List T} (hk : S[k]? = some (.lst (l.map .t))) (hn : n ≤ 60) (h : ∀ t ∈ l, OkP n t) : pCmp .NotEq (.ref k) (.t (.lst [])) S = .ok (.t (.bl (!l.isEmpty))) S := by
  have q := ne_nil hn h S
  have e : eqD (.ref k) (.t (.lst [])) S = eqD (.t (.lst l)) (.t (.lst [])) S := by
    have a1 : look S (.ref k) = look S (.t (.lst l)) := by unfold look; rw [frz_lst hk, frz_t]
    simp only [eqD, a1]
  simp only [pCmp] at q ⊢
  rw [e]
  exact q

--@need law
/-! ### rolls, in plain words -/
abbrev Cov (hs : List I3) (t x : Int) : Prop := ∃ h ∈ hs, h.1 = t ∧ h.2.1 ≤ x ∧ x < h.2.2
structure RollOk (hs : List I3) : Prop where
  srt : hs.Pairwise fun a b => a.2.1 < b.2.1 ∨ (a.2.1 = b.2.1 ∧ a.1 < b.1)
  pos : ∀ h ∈ hs, h.2.1 < h.2.2
  sep : ∀ a ∈ hs, ∀ b ∈ hs, a.1 = b.1 → a = b ∨ a.2.2 < b.2.1 ∨ b.2.2 < a.2.1
theorem RollOk.sub {h1 h2 : List I3} (r1 : RollOk h1) (r2 : RollOk h2) (e : ∀ t x, Cov h1 t x ↔ Cov h2 t x) : ∀ h ∈ h1, h ∈ h2 := by
  intro h hh
  have p1 := r1.pos h hh
  obtain ⟨g, hg, g1, g2, g3⟩ := (e h.1 h.2.1).mp ⟨h, hh, rfl, Int.le_refl _, p1⟩
  have p2 := r2.pos g hg
  have ef : g.2.1 = h.2.1 := by
    rcases Int.lt_or_eq_of_le g2 with c | c
    · obtain ⟨k, hk, k1, k2, k3⟩ := (e h.1 (h.2.1 - 1)).mpr ⟨g, hg, g1, by omega, by omega⟩
      rcases r1.sep k hk h hh k1 with q | q | q
      · rw [q] at k2; omega
      · omega
      · omega
    · exact c
  have eb : g.2.2 = h.2.2 := by
    rcases Int.lt_trichotomy g.2.2 h.2.2 with c | c | c
    · obtain ⟨k, hk, k1, k2, k3⟩ := (e h.1 g.2.2).mp ⟨h, hh, rfl, by omega, c⟩
      rcases r2.sep k hk g hg (k1.trans g1.symm) with q | q | q
      · rw [q] at k3; omega
      · omega
      · omega
    · exact c
    · obtain ⟨k, hk, k1, k2, k3⟩ := (e h.1 h.2.2).mpr ⟨g, hg, g1, by omega, c⟩
      rcases r1.sep k hk h hh k1 with q | q | q
      · rw [q] at k3; omega
      · omega
      · omega
  have : h = g := by
    obtain ⟨a, b, c⟩ := h
    obtain ⟨a', b', c'⟩ := g
    simp only at g1 ef eb
    rw [g1, ef, eb]
  rw [this]; exact hg
theorem RollOk.nd {hs : List I3} (r : RollOk hs) : hs.Nodup := r.srt.imp fun {a b} h e => by subst e; omega
theorem srt_eq3 : ∀ {l m : List I3}, l.Pairwise (fun a b => a.2.1 < b.2.1 ∨ (a.2.1 = b.2.1 ∧ a.1 < b.1)) → m.Pairwise (fun a b => a.2.1 < b.2.1 ∨ (a.2.1 = b.2.1 ∧ a.1 < b.1)) → (∀ x, x ∈ l ↔ x ∈ m) → l = m
  | [], [], _, _, _ => rfl
  | [], y :: m, _, _, h => by have := (h y).mpr List.mem_cons_self; simp at this
  | x :: l, [], _, _, h => by have := (h x).mp List.mem_cons_self; simp at this
  | x :: l, y :: m, h1, h2, h => by
    rw [List.pairwise_cons] at h1 h2
    have e : x = y := by
      rcases List.mem_cons.mp ((h x).mp List.mem_cons_self) with e | hx
      · exact e
      · rcases List.mem_cons.mp ((h y).mpr List.mem_cons_self) with e | hy
        · exact e.symm
        · have a := h1.1 y hy
          have b := h2.1 x hx
          omega
    subst e
    rw [srt_eq3 h1.2 h2.2 fun z => ⟨fun hz => ?_, fun hz => ?_⟩]
    · rcases List.mem_cons.mp ((h z).mp (List.mem_cons_of_mem _ hz)) with e | q
      · subst e
        have := h1.1 z hz
        omega
      · exact q
    · rcases List.mem_cons.mp ((h z).mpr (List.mem_cons_of_mem _ hz)) with e | q
      · subst e
        have := h2.1 z hz
        omega
      · exact q
/-- one roll for each cover -/
theorem RollOk.uniq {h1 h2 : List I3} (r1 : RollOk h1) (r2 : RollOk h2) (e : ∀ t x, Cov h1 t x ↔ Cov h2 t x) : h1 = h2 :=
  srt_eq3 r1.srt r2.srt fun x => ⟨r1.sub r2 e x, r2.sub r1 (fun t x => (e t x).symm) x⟩
/-- one span more -/
def mstep (hs : List I3) (x : I3) : List I3 := match hs.getLast? with
  | some l => if l.1 = x.1 ∧ x.2.1 ≤ l.2.2 then hs.dropLast ++ [(x.1, l.2.1, max x.2.2 l.2.2)] else hs ++ [x]
  | none => hs ++ [x]
def mrgF (xs : List I3) : List I3 := xs.foldl mstep []
def rollF (xs : List I3) : List I3 := (mrgF (xs.mergeSort le3)).mergeSort le3k
structure Mrg (pre hs : List I3) : Prop where
  srt : hs.Pairwise fun a b => a.1 < b.1 ∨ (a.1 = b.1 ∧ a.2.2 < b.2.1)
  pos : ∀ h ∈ hs, h.2.1 < h.2.2
  cov : ∀ t x, Cov hs t x ↔ Cov pre t x
  fro : ∀ h ∈ hs, (∃ s ∈ pre, s.1 = h.1 ∧ s.2.1 = h.2.1) ∧ ∃ s ∈ pre, s.1 = h.1 ∧ s.2.2 = h.2.2
  len : hs.length ≤ pre.length
theorem Mrg.step {pre hs : List I3} (m : Mrg pre hs) {x : I3} (hx : x.2.1 < x.2.2) (ho : ∀ s ∈ pre, s.1 < x.1 ∨ (s.1 = x.1 ∧ s.2.1 ≤ x.2.1)) : Mrg (pre ++ [x]) (mstep hs x) := by
  have plain : (∀ h ∈ hs, h.1 < x.1 ∨ (h.1 = x.1 ∧ h.2.2 < x.2.1)) → Mrg (pre ++ [x]) (hs ++ [x]) := fun ha => by
    refine ⟨?_, fun h hh => ?_, fun t y => ?_, fun h hh => ?_, ?_⟩
    · rw [List.pairwise_append]
      refine ⟨m.srt, List.pairwise_singleton _ _, fun a h1 b h2 => ?_⟩
      rw [List.mem_singleton.mp h2]
      exact ha a h1
    · rcases List.mem_append.mp hh with hh | hh
      · exact m.pos h hh
      · rw [List.mem_singleton.mp hh]; exact hx
    · constructor
      · rintro ⟨h, hh, e⟩
        rcases List.mem_append.mp hh with hh | hh
        · obtain ⟨g, hg, e2⟩ := (m.cov t y).mp ⟨h, hh, e⟩
          exact ⟨g, List.mem_append_left _ hg, e2⟩
        · exact ⟨h, List.mem_append_right _ hh, e⟩
      · rintro ⟨h, hh, e⟩
        rcases List.mem_append.mp hh with hh | hh
        · obtain ⟨g, hg, e2⟩ := (m.cov t y).mpr ⟨h, hh, e⟩
          exact ⟨g, List.mem_append_left _ hg, e2⟩
        · exact ⟨h, List.mem_append_right _ hh, e⟩
    · rcases List.mem_append.mp hh with hh | hh
      · obtain ⟨⟨s, h1, h2⟩, ⟨u, h3, h4⟩⟩ := m.fro h hh
        exact ⟨⟨s, List.mem_append_left _ h1, h2⟩, ⟨u, List.mem_append_left _ h3, h4⟩⟩
      · exact ⟨⟨h, List.mem_append_right _ hh, rfl, rfl⟩, ⟨h, List.mem_append_right _ hh, rfl, rfl⟩⟩
    · have := m.len
      simp only [List.length_append, List.length_singleton]; omega
  have fr : ∀ h ∈ hs, h.1 < x.1 ∨ (h.1 = x.1 ∧ h.2.1 ≤ x.2.1) := fun h hh => by
    obtain ⟨⟨s, h1, h2, h3⟩, _⟩ := m.fro h hh
    have := ho s h1
    omega
  unfold mstep
  rcases List.eq_nil_or_concat hs with rfl | ⟨r, l, rfl⟩
  · exact plain fun h hh => nomatch hh
  · rw [List.concat_eq_append] at *
    rw [List.getLast?_concat]
    simp only
    have srt := m.srt
    rw [List.pairwise_append] at srt
    have hlm : l ∈ r ++ [l] := List.mem_append_right _ (List.mem_singleton.mpr rfl)
    have lpos := m.pos l hlm
    have lfr := fr l hlm
    split
    · rename_i c
      rw [List.dropLast_concat]
      have old : ∀ a ∈ r, a.1 < l.1 ∨ (a.1 = l.1 ∧ a.2.2 < l.2.1) := fun a ha => srt.2.2 a ha l (List.mem_singleton.mpr rfl)
      refine ⟨?_, fun h hh => ?_, fun t y => ?_, fun h hh => ?_, ?_⟩
      · rw [List.pairwise_append]
        refine ⟨srt.1, List.pairwise_singleton _ _, fun a h1 b h2 => ?_⟩
        rw [List.mem_singleton.mp h2]
        have := old a h1
        simp only
        omega
      · rcases List.mem_append.mp hh with hh | hh
        · exact m.pos h (List.mem_append_left _ hh)
        · rw [List.mem_singleton.mp hh]; simp only; omega
      · have q := m.cov t y
        constructor
        · rintro ⟨h, hh, e1, e2, e3⟩
          rcases List.mem_append.mp hh with hh | hh
          · obtain ⟨g, hg, e⟩ := q.mp ⟨h, List.mem_append_left _ hh, e1, e2, e3⟩
            exact ⟨g, List.mem_append_left _ hg, e⟩
          · rw [List.mem_singleton.mp hh] at e1 e2 e3
            simp only at e1 e2 e3
            by_cases c1 : y < l.2.2
            · obtain ⟨g, hg, e⟩ := q.mp ⟨l, hlm, by omega, e2, c1⟩
              exact ⟨g, List.mem_append_left _ hg, e⟩
            · exact ⟨x, List.mem_append_right _ (List.mem_singleton.mpr rfl), e1, by omega, by omega⟩
        · rintro ⟨h, hh, e1, e2, e3⟩
          rcases List.mem_append.mp hh with hh | hh
          · obtain ⟨g, hg, e4, e5, e6⟩ := q.mpr ⟨h, hh, e1, e2, e3⟩
            rcases List.mem_append.mp hg with hg | hg
            · exact ⟨g, List.mem_append_left _ hg, e4, e5, e6⟩
            · rw [List.mem_singleton.mp hg] at e4 e5 e6
              exact ⟨_, List.mem_append_right _ (List.mem_singleton.mpr rfl), by simp only; omega, e5, by simp only; omega⟩
          · rw [List.mem_singleton.mp hh] at e1 e2 e3
            exact ⟨_, List.mem_append_right _ (List.mem_singleton.mpr rfl), e1, by simp only; omega, by simp only; omega⟩
      · rcases List.mem_append.mp hh with hh | hh
        · obtain ⟨⟨s, h1, h2⟩, ⟨u, h3, h4⟩⟩ := m.fro h (List.mem_append_left _ hh)
          exact ⟨⟨s, List.mem_append_left _ h1, h2⟩, ⟨u, List.mem_append_left _ h3, h4⟩⟩
        · rw [List.mem_singleton.mp hh]
          obtain ⟨⟨s, h1, h2, h3⟩, ⟨u, h4, h5, h6⟩⟩ := m.fro l hlm
          refine ⟨⟨s, List.mem_append_left _ h1, by simp only; omega, h3⟩, ?_⟩
          rcases Int.le_total x.2.2 l.2.2 with c2 | c2
          · exact ⟨u, List.mem_append_left _ h4, by simp only; omega, by simp only; omega⟩
          · exact ⟨x, List.mem_append_right _ (List.mem_singleton.mpr rfl), rfl, by simp only; omega⟩
      · have := m.len
        simp only [List.length_append, List.length_singleton] at this ⊢; omega
    · rename_i c
      refine plain fun h hh => ?_
      have := fr h hh
      rcases List.mem_append.mp hh with hh | hh
      · have := srt.2.2 h hh l (List.mem_singleton.mpr rfl)
        omega
      · rw [List.mem_singleton.mp hh]
        omega
theorem mrg_all : ∀ (xs pre hs : List I3), Mrg pre hs → (∀ x ∈ xs, x.2.1 < x.2.2) → (∀ s ∈ pre, ∀ x ∈ xs, s.1 < x.1 ∨ (s.1 = x.1 ∧ s.2.1 ≤ x.2.1)) → xs.Pairwise (fun s x => s.1 < x.1 ∨ (s.1 = x.1 ∧ s.2.1 ≤ x.2.1)) → Mrg (pre ++ xs) (xs.foldl mstep hs)
  | [], pre, hs, m, _, _, _ => by rw [List.append_nil]; exact m
  | x :: xs, pre, hs, m, h1, h2, h3 => by
    rw [List.pairwise_cons] at h3
    have q := mrg_all xs (pre ++ [x]) (mstep hs x) (m.step (h1 x List.mem_cons_self) fun s hs => h2 s hs x List.mem_cons_self) (fun y hy => h1 y (List.mem_cons_of_mem _ hy)) (fun s hs y hy => by
      rcases List.mem_append.mp hs with hs | hs
      · exact h2 s hs y (List.mem_cons_of_mem _ hy)
      · rw [List.mem_singleton.mp hs]; exact h3.1 y hy) h3.2
    rw [List.append_assoc] at q
    exact q
theorem le3_srt (xs : List I3) : (xs.mergeSort le3).Pairwise fun a b => le3 a b = true := by
  have h1 : ∀ a b c : I3, le3 a b = true → le3 b c = true → le3 a c = true := fun a b c => by unfold le3; simp only [decide_eq_true_eq]; omega
  have h2 : ∀ a b : I3, (le3 a b || le3 b a) = true := fun a b => by unfold le3; rw [Bool.or_eq_true, decide_eq_true_eq, decide_eq_true_eq]; omega
  first
    | exact List.pairwise_mergeSort h1 h2 xs
    | exact List.sorted_mergeSort h1 h2 xs
theorem le3k_srt (xs : List I3) : (xs.mergeSort le3k).Pairwise fun a b => le3k a b = true := by
  have h1 : ∀ a b c : I3, le3k a b = true → le3k b c = true → le3k a c = true := fun a b c => by unfold le3k; simp only [decide_eq_true_eq]; omega
  have h2 : ∀ a b : I3, (le3k a b || le3k b a) = true := fun a b => by unfold le3k; rw [Bool.or_eq_true, decide_eq_true_eq, decide_eq_true_eq]; omega
  first
    | exact List.pairwise_mergeSort h1 h2 xs
    | exact List.sorted_mergeSort h1 h2 xs
theorem mrg_of {xs : List I3} (h : ∀ x ∈ xs, x.2.1 < x.2.2) : Mrg (xs.mergeSort le3) (mrgF (xs.mergeSort le3)) := by
  have q := mrg_all (xs.mergeSort le3) [] [] ⟨.nil, (fun _ h => nomatch h), (fun _ _ => Iff.rfl), (fun _ h => nomatch h), Nat.le_refl _⟩ (fun x hx => h x ((List.mergeSort_perm _ _).mem_iff.mp hx)) (fun _ h => nomatch h) ((le3_srt xs).imp fun {a b} e => by
    unfold le3 at e
    rw [decide_eq_true_eq] at e
    omega)
  rwa [List.nil_append] at q
theorem roll_ok {xs : List I3} (h : ∀ x ∈ xs, x.2.1 < x.2.2) : RollOk (rollF xs) := by
  have m := mrg_of h
  have mem : ∀ z, z ∈ rollF xs ↔ z ∈ mrgF (xs.mergeSort le3) := fun z => (List.mergeSort_perm _ _).mem_iff
  have sep : ∀ a ∈ mrgF (xs.mergeSort le3), ∀ b ∈ mrgF (xs.mergeSort le3), a.1 = b.1 → a = b ∨ a.2.2 < b.2.1 ∨ b.2.2 < a.2.1 := by
    intro a ha b hb e
    obtain ⟨i, hi⟩ := List.mem_iff_getElem?.mp ha
    obtain ⟨j, hj⟩ := List.mem_iff_getElem?.mp hb
    have pw := List.pairwise_iff_getElem.mp m.srt
    obtain ⟨li, ei⟩ := List.getElem?_eq_some_iff.mp hi
    obtain ⟨lj, ej⟩ := List.getElem?_eq_some_iff.mp hj
    rcases Nat.lt_trichotomy i j with c | c | c
    · have := pw i j li lj c
      rw [ei, ej] at this
      omega
    · subst c
      rw [hi] at hj
      exact .inl (Option.some.inj hj)
    · have := pw j i lj li c
      rw [ei, ej] at this
      omega
  have nd : (mrgF (xs.mergeSort le3)).Nodup := by
    have pos := m.pos
    have srt := m.srt
    generalize mrgF (xs.mergeSort le3) = l at *
    induction l with
    | nil => exact List.nodup_nil
    | cons a l ih =>
      rw [List.pairwise_cons] at srt
      refine List.nodup_cons.mpr ⟨fun hm => ?_, ?_⟩
      · have := srt.1 a hm
        have := pos a List.mem_cons_self
        omega
      · have : ∀ (l : List I3), (∀ h ∈ l, h.2.1 < h.2.2) → l.Pairwise (fun a b => a.1 < b.1 ∨ (a.1 = b.1 ∧ a.2.2 < b.2.1)) → l.Nodup := by
          intro l
          induction l with
          | nil => intro _ _; exact List.nodup_nil
          | cons a l ih =>
            intro pos srt
            rw [List.pairwise_cons] at srt
            refine List.nodup_cons.mpr ⟨fun hm => ?_, ih (fun h hh => pos h (List.mem_cons_of_mem _ hh)) srt.2⟩
            have := srt.1 a hm
            have := pos a List.mem_cons_self
            omega
        exact this l (fun h hh => pos h (List.mem_cons_of_mem _ hh)) srt.2
  have nd2 : (rollF xs).Nodup := (List.mergeSort_perm _ _).nodup_iff.mpr nd
  refine ⟨?_, fun z hz => m.pos z ((mem z).mp hz), fun a ha b hb => sep a ((mem a).mp ha) b ((mem b).mp hb)⟩
  have s1 := le3k_srt (mrgF (xs.mergeSort le3))
  have mem2 := mem
  have key : ∀ l : List I3, l.Nodup → (∀ z ∈ l, z ∈ mrgF (xs.mergeSort le3)) → l.Pairwise (fun a b => le3k a b = true) → l.Pairwise fun a b => a.2.1 < b.2.1 ∨ (a.2.1 = b.2.1 ∧ a.1 < b.1) := by
    intro l
    induction l with
    | nil => intro _ _ _; exact .nil
    | cons a l ih =>
      intro nd hm hp
      rw [List.pairwise_cons] at hp ⊢
      rw [List.nodup_cons] at nd
      refine ⟨fun b hb => ?_, ih nd.2 (fun z hz => hm z (List.mem_cons_of_mem _ hz)) hp.2⟩
      have q := hp.1 b hb
      unfold le3k at q
      rw [decide_eq_true_eq] at q
      rcases q with q | q
      · exact .inl q
      · refine .inr ⟨q.1, ?_⟩
        rcases Int.lt_or_eq_of_le q.2 with c | c
        · exact c
        · exfalso
          have pa := m.pos a (hm a List.mem_cons_self)
          have pb := m.pos b (hm b (List.mem_cons_of_mem _ hb))
          rcases sep a (hm a List.mem_cons_self) b (hm b (List.mem_cons_of_mem _ hb)) c with e | e | e
          · exact nd.1 (e ▸ hb)
          · omega
          · omega
  exact key _ nd2 (fun z hz => (mem z).mp hz) s1
theorem roll_cov {xs : List I3} (h : ∀ x ∈ xs, x.2.1 < x.2.2) (t x : Int) : Cov (rollF xs) t x ↔ Cov xs t x := by
  have m := mrg_of h
  have e1 : Cov (rollF xs) t x ↔ Cov (mrgF (xs.mergeSort le3)) t x := ⟨fun ⟨z, hz, e⟩ => ⟨z, (List.mergeSort_perm _ _).mem_iff.mp hz, e⟩, fun ⟨z, hz, e⟩ => ⟨z, (List.mergeSort_perm _ _).mem_iff.mpr hz, e⟩⟩
  have e2 : Cov (xs.mergeSort le3) t x ↔ Cov xs t x := ⟨fun ⟨z, hz, e⟩ => ⟨z, (List.mergeSort_perm _ _).mem_iff.mp hz, e⟩, fun ⟨z, hz, e⟩ => ⟨z, (List.mergeSort_perm _ _).mem_iff.mpr hz, e⟩⟩
  exact e1.trans ((m.cov t x).trans e2)
theorem roll_len {xs : List I3} (h : ∀ x ∈ xs, x.2.1 < x.2.2) : (rollF xs).length ≤ xs.length := by
  have m := (mrg_of h).len
  rw [List.length_mergeSort] at m
  unfold rollF
  rw [List.length_mergeSort]
  exact m
theorem roll_fro {xs : List I3} (h : ∀ x ∈ xs, x.2.1 < x.2.2) {z : I3} (hz : z ∈ rollF xs) : (∃ s ∈ xs, s.1 = z.1 ∧ s.2.1 = z.2.1) ∧ ∃ s ∈ xs, s.1 = z.1 ∧ s.2.2 = z.2.2 := by
  obtain ⟨⟨s, h1, h2⟩, ⟨u, h3, h4⟩⟩ := (mrg_of h).fro z ((List.mergeSort_perm _ _).mem_iff.mp hz)
  exact ⟨⟨s, (List.mergeSort_perm _ _).mem_iff.mp h1, h2⟩, ⟨u, (List.mergeSort_perm _ _).mem_iff.mp h3, h4⟩⟩
abbrev HoleOk (L : Int) (x : I3) : Prop := (0 ≤ x.1 ∧ x.1 < 1200) ∧ 0 ≤ x.2.1 ∧ x.2.1 < x.2.2 ∧ x.2.2 ≤ L
theorem roll_in {L : Int} {xs : List I3} (h : ∀ x ∈ xs, HoleOk L x) {z : I3} (hz : z ∈ rollF xs) : HoleOk L z := by
  have hp : ∀ x ∈ xs, x.2.1 < x.2.2 := fun x hx => (h x hx).2.2.1
  obtain ⟨⟨s, h1, h2, h3⟩, ⟨u, h4, h5, h6⟩⟩ := roll_fro hp hz
  have a := h s h1
  have b := h u h4
  have c := (roll_ok hp).pos z hz
  unfold HoleOk at *
  omega
/-- what it was made of again: the same -/
theorem roll_same {xs ys : List I3} (h1 : ∀ x ∈ xs, x.2.1 < x.2.2) (h2 : ∀ x ∈ ys, x.2.1 < x.2.2) (e : ∀ t x, Cov xs t x ↔ Cov ys t x) : rollF xs = rollF ys :=
  (roll_ok h1).uniq (roll_ok h2) fun t x => ((roll_cov h1 t x).trans (e t x)).trans (roll_cov h2 t x).symm
theorem roll_self {hs : List I3} (r : RollOk hs) : rollF hs = hs := (roll_ok r.pos).uniq r fun t x => roll_cov r.pos t x

/-! ### rolls, made -/
abbrev rlT (L : Int) (hs : List I3) : T := .tup [.int L, .lst (hs.map tri)]
abbrev hD (hs : List I3) : List D := hs.map fun x => .t (tri x)
theorem run_consR {B : Tb} {C : Cal} {s : IS} {r : ISs} {ρ ρ1 : Ev} {S S1 : Sto} (h : evS B C s ρ S = .nx ρ1 S1) : evSs B C (.cons s r) ρ S = evSs B C r ρ1 S1 := by
  rw [s_cons, h, sq_nx]
theorem run_asgR {B : Tb} {C : Cal} {p : Pt} {e : IE} {ρ ρ1 : Ev} {S S1 : Sto} {d : D} (h : evE B C e ρ S = .ok d S1) (hp : setP p d ρ = some ρ1) : evS B C (.asg p e) ρ S = .nx ρ1 S1 := by
  rw [s_asg, h]
  show (match setP p d ρ with | some ρ1 => RS.nx ρ1 S1 | none => .no) = _
  rw [hp]
theorem neg1R {B : Tb} {C : Cal} {ρ : Ev} {S : Sto} : evE B C (.neg (.c (.int 1))) ρ S = .ok (.t (.int (-1))) S := by first | rfl | (rw [evE]; rfl)
theorem rl_isw (n : Nat) (i : Int) (S : Sto) : callD (cal BT PD (n + 1)) true f_is_whole [.t (.int i)] S = .ok (.t (.bl true)) S := cl1 rfl
theorem tri_i0 (x : I3) (S : Sto) : pIdx (.t (tri x)) (.t (.int 0)) S = .ok (.t (.int x.1)) S := rfl
theorem tri_i1 (x : I3) (S : Sto) : pIdx (.t (tri x)) (.t (.int 1)) S = .ok (.t (.int x.2.1)) S := rfl
theorem tri_i2 (x : I3) (S : Sto) : pIdx (.t (tri x)) (.t (.int 2)) S = .ok (.t (.int x.2.2)) S := rfl
theorem mk_tri (a b c : Int) (S : Sto) : mkT [.t (.int a), .t (.int b), .t (.int c)] S = .ok (.t (tri (a, b, c))) S := rfl
theorem c_is_length (n : Nat) {L : Int} (h0 : 0 ≤ L) (h1 : L ≤ 1000000000000) (S : Sto) : callD (cal BT PD (n + 2)) true f_is_length [.t (.int L)] S = .ok (.t (.bl true)) S := cl1 (by
  have w := fun S => rl_isw n L S
  rw [r_def (d := ⟨1, 1, b_is_length⟩) rfl rfl]
  simp -implicitDefEqProofs only [b_is_length, List.map_cons, List.map_nil, List.length_cons, List.length_nil, List.replicate, List.cons_append, List.nil_append, s_tr, tr_nx, tr_rt, tr_ex, s_rse, ex_ex, s_asg, asg_ok, s_ex, ex_ok, s_ret, ret_ok, s_retN, s_brk, s_cnt, s_pas, s_ite, ite_t, ite_f, s_fo, s_nil, s_cons, sq_nx, sq_rt, sq_bk, sq_ct, sq_ex, tel_nx, tel_rt, tel_ex, e_v, oj_s, e_c, e_g, e_nop, e_one, e_bin, e_cmp, e_idx, two_ok, twoJ_ok, e_and, and_t, and_f, e_or, or_t, or_f, e_ite, iteE_t, iteE_f, e_not, not_b, e_ch2, ch2I_ok, ch2J_ok, ch2K_t, ch2K_f, e_ch3, ch3I_ok, ch3J_ok, ch3K_t, ch3K_f, e_tup, e_lst, e_bi, e_call, lsI_ok, e_dct, dct_ok, ps_nil, ps_cons, psI_ok, psK_ok, e_sl, slI_ok, e_sl3, e_sss, ssI_ok, e_lss, lssI_ok, s3I_ok, s3J_c, s3J_n, s3K_c, s3K_n, e_isi, e_lc, lcJ_ok, e_bm, bmJ_ok, e_att, attI_ok, e_mth, mthI_ok, e_pk, e_cfn, calDd_s, ckwI_ok, ckwJ_ok, e_mpk, mpkI_ok, e_mthd, mtdI_ok, e_its, e_lrg, lrgI_ok, e_eqt, eqtI_ok, e_iso, isoI_ok, s_sta, staI_ok, staJ_ok, s_sti, stiI_ok, stiJ_ok, stiK_ok, nxO_s, s_wh, callD_f, es_nil, es_cons, esI_ok, esJ_ok, pAddI, pSubI, List.getElem?_cons_zero, List.getElem?_cons_succ, List.set_cons_zero, List.set_cons_succ, Bool.not_true, Bool.not_false, w, pLe, decide_eq_true h0, decide_eq_true h1])
theorem c_is_hole (n : Nat) {L : Int} {x : I3} (h : HoleOk L x) (S : Sto) : callD (cal BT PD (n + 2)) true f_is_hole [.t (tri x), .t (.int L)] S = .ok (.t (.bl true)) S := cl2 (by
  have w := fun i S => rl_isw n i S
  obtain ⟨⟨h1, h2⟩, h3, h4, h5⟩ := h
  have it : ∀ S, isiB BT.sub S (.t (tri x)) .tuple = some true := fun _ => rfl
  have ln : ∀ S, pBi false .len [.t (tri x)] S = .ok (.t (.int 3)) S := fun _ => rfl
  have n3 : ∀ S, pCmp .NotEq (.t (.int 3)) (.t (.int 3)) S = .ok (.t (.bl false)) S := fun S => by rw [pNeI]; rfl
  have its : ∀ S, itemsOf .seq [.t (tri x)] S = some [.t (.int x.1), .t (.int x.2.1), .t (.int x.2.2)] := fun _ => rfl
  have al : ∀ S, pBi false .all [.t (.lst [.bl true, .bl true, .bl true])] S = .ok (.t (.bl true)) S := fun _ => rfl
  rw [r_def (d := ⟨2, 3, b_is_hole⟩) rfl rfl]
  simp -implicitDefEqProofs (disch := (first | omega | rfl | (simp only [List.length_map, List.length_append, List.length_cons, List.length_nil, List.length_range] <;> omega))) only [s_tr, tr_nx, tr_rt, tr_ex, s_rse, ex_ex, s_asg, asg_ok, s_ex, ex_ok, s_ret, ret_ok, s_retN, s_brk, s_cnt, s_pas, s_ite, ite_t, ite_f, s_fo, s_nil, s_cons, sq_nx, sq_rt, sq_bk, sq_ct, sq_ex, tel_nx, tel_rt, tel_ex, e_v, oj_s, e_c, e_g, e_nop, e_one, e_bin, e_cmp, e_idx, two_ok, twoJ_ok, e_and, and_t, and_f, e_or, or_t, or_f, e_ite, iteE_t, iteE_f, e_not, not_b, e_ch2, ch2I_ok, ch2J_ok, ch2K_t, ch2K_f, e_ch3, ch3I_ok, ch3J_ok, ch3K_t, ch3K_f, e_tup, e_lst, e_bi, e_call, lsI_ok, e_dct, dct_ok, ps_nil, ps_cons, psI_ok, psK_ok, e_sl, slI_ok, e_sl3, e_sss, ssI_ok, e_lss, lssI_ok, s3I_ok, s3J_c, s3J_n, s3K_c, s3K_n, e_isi, e_lc, lcJ_ok, e_bm, bmJ_ok, e_att, attI_ok, e_mth, mthI_ok, e_pk, e_cfn, calDd_s, ckwI_ok, ckwJ_ok, e_mpk, mpkI_ok, e_mthd, mtdI_ok, e_its, e_lrg, lrgI_ok, e_eqt, eqtI_ok, e_iso, isoI_ok, s_sta, staI_ok, staJ_ok, s_sti, stiI_ok, stiJ_ok, stiK_ok, nxO_s, s_wh, callD_f, es_nil, es_cons, esI_ok, esJ_ok, pAddI, pSubI, List.getElem?_cons_zero, List.getElem?_cons_succ, List.set_cons_zero, List.set_cons_succ, Bool.not_true, Bool.not_false, pMulL, pMulR, pDiv, pMod, pPowL, pShrI, decT, decF, decide_true, decide_false, pls_nl, pls_cs, plC_s, pls_tp, pls_rf, plC_n, mtI_n, pls_mp, mkL_s, mkL_r, mlI_s, mkT_s, mtI_s, setP_v, setP_2, setP_3, setP_4, setP_5, setP_d2, setP_n2, asg_t, asT_s, fo_st, foX_s, fo_nil, fo_cons, foA_s, foB_nx, foB_ct, foB_bk, foB_rt, itemsL_s, itA_s, lc_st, lcX_s, itL_s, itT_s, itD_s, itR_s, itR2_s, lc_nil, lc_cons, lcA_s, lcB_t, lcB_f, lcD_ok, lc1_s, lc1A_s, lc1B_t, lc1B_f, lc1D_ok, pIdx_l, pIdx_t, opM_s, pLenL_s, pLenT_s, pLenSc, e_fz, fzI_ok, fzJ_s, frz0, frz1, frz0f, frz1f, app0, app1, app2, kd0, kd1, kd2, isn_i, isn_n, isn_t, inn_i, inn_n, inn_t, inn_l, bi_int_i, bi_int_t, bi_int_f, pEqI, pNeI, pLt, pLe, pGt, pGe, wipeL, Pt.own, rng1, rng2, rng3, rng4, List.map_cons, List.map_nil, List.nil_append, List.cons_append, Int.reduceToNat, Int.reduceAdd, Int.reduceSub, Int.reduceMul, Int.toNat_zero, Int.toNat_one, Int.toNat_natCast, Int.natCast_zero, Int.natCast_one, Int.cast_ofNat_Int, mthI_ok, appE, kdE, frzE, frzEf, frzE1, frzE2, itO_ref, itA_n, itRfE, itRf0, itRf1, slJ_c1, slK_c1, slJ_v1, slK_v1, slJ_b1, slK_b1, slJ_i1, slK_i1, slJ_g1, slK_g1, slJ_u1, slK_u1, slJ_n, slK_n, pIdxE0, pIdxE1, pNe_nn, pEq_nn, pAddL_s, psJ_str, psJ_int, kdS_join, kdS_split, kdS_startswith, kdL_index, kdI_bits, kdD_get, pureE, pureEs, Bool.and_self, Bool.true_and, Bool.and_true, Bool.not_false, b_is_hole, List.map_cons, List.map_nil, List.length_cons, List.length_nil, List.replicate, List.cons_append, List.nil_append, it, isi_ok (it _), ln, n3, its, lcI_ok (its _), al, w, tri_i0, tri_i1, tri_i2, pLe, pLt, decide_eq_true h1, decide_eq_true h2, decide_eq_true h3, decide_eq_true h4, decide_eq_true h5])
theorem c_by_first (n : Nat) (x : I3) (S : Sto) : cal BT PD (n + 1) f_by_first [.t (tri x)] S = .ok (.t (.tup [.int x.2.1, .int x.1])) S := by
  rw [r_def (d := ⟨1, 1, b_by_first⟩) rfl rfl]
  simp -implicitDefEqProofs only [b_by_first, List.map_cons, List.map_nil, List.length_cons, List.length_nil, List.replicate, List.cons_append, List.nil_append, s_tr, tr_nx, tr_rt, tr_ex, s_rse, ex_ex, s_asg, asg_ok, s_ex, ex_ok, s_ret, ret_ok, s_retN, s_brk, s_cnt, s_pas, s_ite, ite_t, ite_f, s_fo, s_nil, s_cons, sq_nx, sq_rt, sq_bk, sq_ct, sq_ex, tel_nx, tel_rt, tel_ex, e_v, oj_s, e_c, e_g, e_nop, e_one, e_bin, e_cmp, e_idx, two_ok, twoJ_ok, e_and, and_t, and_f, e_or, or_t, or_f, e_ite, iteE_t, iteE_f, e_not, not_b, e_ch2, ch2I_ok, ch2J_ok, ch2K_t, ch2K_f, e_ch3, ch3I_ok, ch3J_ok, ch3K_t, ch3K_f, e_tup, e_lst, e_bi, e_call, lsI_ok, e_dct, dct_ok, ps_nil, ps_cons, psI_ok, psK_ok, e_sl, slI_ok, e_sl3, e_sss, ssI_ok, e_lss, lssI_ok, s3I_ok, s3J_c, s3J_n, s3K_c, s3K_n, e_isi, e_lc, lcJ_ok, e_bm, bmJ_ok, e_att, attI_ok, e_mth, mthI_ok, e_pk, e_cfn, calDd_s, ckwI_ok, ckwJ_ok, e_mpk, mpkI_ok, e_mthd, mtdI_ok, e_its, e_lrg, lrgI_ok, e_eqt, eqtI_ok, e_iso, isoI_ok, s_sta, staI_ok, staJ_ok, s_sti, stiI_ok, stiJ_ok, stiK_ok, nxO_s, s_wh, callD_f, es_nil, es_cons, esI_ok, esJ_ok, pAddI, pSubI, List.getElem?_cons_zero, List.getElem?_cons_succ, List.set_cons_zero, List.set_cons_succ, Bool.not_true, Bool.not_false, tri_i0, tri_i1, mkT_s, pls_cs, pls_nl, plC_s, mtI_s]
theorem ro_chk (n : Nat) (L : Int) (sp : Option D) (S : Sto) : ∀ (l : List I3) (x2 : Option D), (∀ x ∈ l, HoleOk L x) →
    ∃ x2', foL (.v 2) (evSs BT (cal BT PD (n + 2)) b_roll_of_2) (hD l) [some (.t (.int L)), sp, x2, none, none, none, none] S = .nx [some (.t (.int L)), sp, x2', none, none, none, none] S
  | [], x2, _ => ⟨x2, rfl⟩
  | x :: l, x2, h => by
    have k := fun S => c_is_hole n (h x List.mem_cons_self) S
    obtain ⟨x3, e⟩ := ro_chk n L sp S l (some (.t (tri x))) fun y hy => h y (List.mem_cons_of_mem _ hy)
    refine ⟨x3, Eq.trans ?_ e⟩
    show foL _ _ (.t (tri x) :: hD l) _ _ = _
    rw [fo_cons]
    simp -implicitDefEqProofs only [s_tr, tr_nx, tr_rt, tr_ex, s_rse, ex_ex, s_asg, asg_ok, s_ex, ex_ok, s_ret, ret_ok, s_retN, s_brk, s_cnt, s_pas, s_ite, ite_t, ite_f, s_fo, s_nil, s_cons, sq_nx, sq_rt, sq_bk, sq_ct, sq_ex, tel_nx, tel_rt, tel_ex, e_v, oj_s, e_c, e_g, e_nop, e_one, e_bin, e_cmp, e_idx, two_ok, twoJ_ok, e_and, and_t, and_f, e_or, or_t, or_f, e_ite, iteE_t, iteE_f, e_not, not_b, e_ch2, ch2I_ok, ch2J_ok, ch2K_t, ch2K_f, e_ch3, ch3I_ok, ch3J_ok, ch3K_t, ch3K_f, e_tup, e_lst, e_bi, e_call, lsI_ok, e_dct, dct_ok, ps_nil, ps_cons, psI_ok, psK_ok, e_sl, slI_ok, e_sl3, e_sss, ssI_ok, e_lss, lssI_ok, s3I_ok, s3J_c, s3J_n, s3K_c, s3K_n, e_isi, e_lc, lcJ_ok, e_bm, bmJ_ok, e_att, attI_ok, e_mth, mthI_ok, e_pk, e_cfn, calDd_s, ckwI_ok, ckwJ_ok, e_mpk, mpkI_ok, e_mthd, mtdI_ok, e_its, e_lrg, lrgI_ok, e_eqt, eqtI_ok, e_iso, isoI_ok, s_sta, staI_ok, staJ_ok, s_sti, stiI_ok, stiJ_ok, stiK_ok, nxO_s, s_wh, callD_f, es_nil, es_cons, esI_ok, esJ_ok, pAddI, pSubI, List.getElem?_cons_zero, List.getElem?_cons_succ, List.set_cons_zero, List.set_cons_succ, Bool.not_true, Bool.not_false, setP_v, foA_s, b_roll_of_2, k, foB_nx, List.set_cons_zero, List.set_cons_succ]
theorem ixm1R {S : Sto} {k : Nat} {l : List D} {d : D} (h : S[k]? = some (.lst (l ++ [d]))) : pIdx (.ref k) (.t (.int (-1))) S = .ok d S := by
  have e1 : dctOf S (.ref k) = none := by unfold dctOf; simp only [h]
  have e2 : seqOf S (.ref k) = some (l ++ [d]) := by unfold seqOf; simp only [h]
  simp only [pIdx, e1, e2]
  unfold ixAt
  rw [if_neg (by decide), if_pos (by simp; omega)]
  rw [show ((-1 : Int) + ((l ++ [d]).length : Nat)).toNat = l.length by simp; omega]
  simp [opt]
theorem stm1R {S : Sto} {k : Nat} {l : List D} {d y : D} (h : S[k]? = some (.lst (l ++ [d]))) : pSt (.ref k) (.t (.int (-1))) y S = some (S.set k (.lst (l ++ [y]))) := by
  unfold pSt
  simp only [h]
  have e : ixP (l ++ [d]).length (-1) = some l.length := by
    unfold ixP
    rw [if_neg (by decide), if_pos (by simp; omega)]
    congr 1
    simp; omega
  rw [e]
  simp
theorem appR {S : Sto} {k : Nat} {xs : List D} {y : D} {m : Bool} (h : S[k]? = some (.lst xs)) (hl : xs.length < 16000000) : pBm m .append (.ref k) [y] S = .ok (.t .non) (S.set k (.lst (xs ++ [y]))) := by
  show pApp (.ref k) [y] S = _
  unfold pApp
  simp only [h]
  rw [if_pos (show xs.length < lim from hl)]
theorem kndR {S : Sto} {k : Nat} {xs : List D} (h : S[k]? = some (.lst xs)) : kindD S (.ref k) = bmT .append := by
  unfold kindD
  simp only [h]; rfl
theorem tri_okP (x : I3) : OkP 1 (tri x) := okP_tup (n := 0) fun t ht => by
  simp only [List.mem_cons, List.not_mem_nil, or_false] at ht
  rcases ht with rfl | rfl | rfl <;> exact okP_int _
theorem ro_mrg (n : Nat) (L : Int) (sp x2 : Option D) : ∀ (l hs : List I3) (x4 x5 x6 : Option D), hs.length + l.length ≤ 10000 →
    ∃ x4' x5' x6', foL (.tup [4, 5, 6]) (evSs BT (cal BT PD n) b_roll_of_1) (hD l) [some (.t (.int L)), sp, x2, some (.ref 0), x4, x5, x6] [.lst (hD hs)] = .nx [some (.t (.int L)), sp, x2, some (.ref 0), x4', x5', x6'] [.lst (hD (l.foldl mstep hs))]
  | [], hs, x4, x5, x6, _ => ⟨x4, x5, x6, rfl⟩
  | x :: l, hs, x4, x5, x6, hl => by
    rw [List.length_cons] at hl
    have hm : (mstep hs x).length ≤ hs.length + 1 := by
      unfold mstep
      split
      · split
        · simp
        · simp
      · simp
    obtain ⟨y4, y5, y6, e⟩ := ro_mrg n L sp x2 l (mstep hs x) (some (.t (.int x.1))) (some (.t (.int x.2.1))) (some (.t (.int x.2.2))) (by omega)
    refine ⟨y4, y5, y6, Eq.trans ?_ e⟩
    show foL _ _ (.t (tri x) :: hD l) _ _ = _
    rw [fo_cons]
    have st : setP (.tup [4, 5, 6]) (.t (tri x)) [some (.t (.int L)), sp, x2, some (.ref 0), x4, x5, x6] = some [some (.t (.int L)), sp, x2, some (.ref 0), some (.t (.int x.1)), some (.t (.int x.2.1)), some (.t (.int x.2.2))] := rfl
    rw [st, foA_s]
    have body : evSs BT (cal BT PD n) b_roll_of_1 [some (.t (.int L)), sp, x2, some (.ref 0), some (.t (.int x.1)), some (.t (.int x.2.1)), some (.t (.int x.2.2))] [.lst (hD hs)] = .nx [some (.t (.int L)), sp, x2, some (.ref 0), some (.t (.int x.1)), some (.t (.int x.2.1)), some (.t (.int x.2.2))] [.lst (hD (mstep hs x))] := by
      have h0 : ([O.lst (hD hs)] : Sto)[0]? = some (.lst ((hs.map tri).map .t)) := by rw [List.map_map]; rfl
      have nn := ne_nilR (n := 1) h0 (by decide) (fun t ht => by obtain ⟨z, _, rfl⟩ := List.mem_map.mp ht; exact tri_okP z)
      have mk := fun S => mk_tri x.1 x.2.1 x.2.2 S
      have kd := bmI_ok (B := BT) (C := cal BT PD n) (m := false) (es := .cons (.tup (.cons (.v 4) (.cons (.v 5) (.cons (.v 6) .nil)))) .nil) (ρ := [some (.t (.int L)), sp, x2, some (.ref 0), some (.t (.int x.1)), some (.t (.int x.2.1)), some (.t (.int x.2.2))]) (kndR (S := [O.lst (hD hs)]) (k := 0) (xs := hD hs) rfl)
      have ap : pBm false .append (.ref 0) [.t (tri (x.1, x.2.1, x.2.2))] [O.lst (hD hs)] = .ok (.t .non) [O.lst (hD (hs ++ [x]))] := by
        rw [appR (S := [O.lst (hD hs)]) (k := 0) (xs := hD hs) rfl (by rw [List.length_map]; omega)]
        show R.ok _ [O.lst (hD hs ++ [.t (tri x)])] = _
        simp [hD]
      rcases List.eq_nil_or_concat hs with rfl | ⟨r, z, rfl⟩
      · have nn : pCmp .NotEq (.ref 0) (.t (.lst [])) [O.lst (hD [])] = .ok (.t (.bl false)) [O.lst (hD [])] := nn
        rw [b_roll_of_1]
        simp -implicitDefEqProofs only [s_tr, tr_nx, tr_rt, tr_ex, s_rse, ex_ex, s_asg, asg_ok, s_ex, ex_ok, s_ret, ret_ok, s_retN, s_brk, s_cnt, s_pas, s_ite, ite_t, ite_f, s_fo, s_nil, s_cons, sq_nx, sq_rt, sq_bk, sq_ct, sq_ex, tel_nx, tel_rt, tel_ex, e_v, oj_s, e_c, e_g, e_nop, e_one, e_bin, e_cmp, e_idx, two_ok, twoJ_ok, e_and, and_t, and_f, e_or, or_t, or_f, e_ite, iteE_t, iteE_f, e_not, not_b, e_ch2, ch2I_ok, ch2J_ok, ch2K_t, ch2K_f, e_ch3, ch3I_ok, ch3J_ok, ch3K_t, ch3K_f, e_tup, e_lst, e_bi, e_call, lsI_ok, e_dct, dct_ok, ps_nil, ps_cons, psI_ok, psK_ok, e_sl, slI_ok, e_sl3, e_sss, ssI_ok, e_lss, lssI_ok, s3I_ok, s3J_c, s3J_n, s3K_c, s3K_n, e_isi, e_lc, lcJ_ok, e_bm, bmJ_ok, e_att, attI_ok, e_mth, mthI_ok, e_pk, e_cfn, calDd_s, ckwI_ok, ckwJ_ok, e_mpk, mpkI_ok, e_mthd, mtdI_ok, e_its, e_lrg, lrgI_ok, e_eqt, eqtI_ok, e_iso, isoI_ok, s_sta, staI_ok, staJ_ok, s_sti, stiI_ok, stiJ_ok, stiK_ok, nxO_s, s_wh, callD_f, es_nil, es_cons, esI_ok, esJ_ok, pAddI, pSubI, List.getElem?_cons_zero, List.getElem?_cons_succ, List.set_cons_zero, List.set_cons_succ, Bool.not_true, Bool.not_false, mkL_s, pls_nl, mlI_s, nn, kd, mk, ap]
        rfl
      · rw [List.concat_eq_append] at *
        have e0 : hD (r ++ [z]) = hD r ++ [.t (tri z)] := by simp [hD]
        have nn : pCmp .NotEq (.ref 0) (.t (.lst [])) [O.lst (hD (r ++ [z]))] = .ok (.t (.bl true)) [O.lst (hD (r ++ [z]))] := by rw [nn]; simp
        have ix : pIdx (.ref 0) (.t (.int (-1))) [O.lst (hD (r ++ [z]))] = .ok (.t (tri z)) [O.lst (hD (r ++ [z]))] := ixm1R (l := hD r) (by rw [e0]; rfl)
        have mm : mstep (r ++ [z]) x = if z.1 = x.1 ∧ x.2.1 ≤ z.2.2 then r ++ [(x.1, z.2.1, max x.2.2 z.2.2)] else r ++ [z] ++ [x] := by
          unfold mstep; rw [List.getLast?_concat]; simp only [List.dropLast_concat]
        rw [mm]
        by_cases c1 : z.1 = x.1
        · by_cases c2 : x.2.1 ≤ z.2.2
          · rw [if_pos ⟨c1, c2⟩]
            have mx : ∀ S, pBi false .max [.t (.int x.2.2), .t (.int z.2.2)] S = .ok (.t (.int (max x.2.2 z.2.2))) S := fun _ => rfl
            have mk2 := fun S => mk_tri x.1 z.2.1 (max x.2.2 z.2.2) S
            have ps : pSt (.ref 0) (.t (.int (-1))) (.t (tri (x.1, z.2.1, max x.2.2 z.2.2))) [O.lst (hD (r ++ [z]))] = some [O.lst (hD (r ++ [(x.1, z.2.1, max x.2.2 z.2.2)]))] := by
              rw [stm1R (l := hD r) (d := .t (tri z)) (by rw [e0]; rfl)]
              simp [hD]
            rw [b_roll_of_1]
            simp -implicitDefEqProofs only [s_tr, tr_nx, tr_rt, tr_ex, s_rse, ex_ex, s_asg, asg_ok, s_ex, ex_ok, s_ret, ret_ok, s_retN, s_brk, s_cnt, s_pas, s_ite, ite_t, ite_f, s_fo, s_nil, s_cons, sq_nx, sq_rt, sq_bk, sq_ct, sq_ex, tel_nx, tel_rt, tel_ex, e_v, oj_s, e_c, e_g, e_nop, e_one, e_bin, e_cmp, e_idx, two_ok, twoJ_ok, e_and, and_t, and_f, e_or, or_t, or_f, e_ite, iteE_t, iteE_f, e_not, not_b, e_ch2, ch2I_ok, ch2J_ok, ch2K_t, ch2K_f, e_ch3, ch3I_ok, ch3J_ok, ch3K_t, ch3K_f, e_tup, e_lst, e_bi, e_call, lsI_ok, e_dct, dct_ok, ps_nil, ps_cons, psI_ok, psK_ok, e_sl, slI_ok, e_sl3, e_sss, ssI_ok, e_lss, lssI_ok, s3I_ok, s3J_c, s3J_n, s3K_c, s3K_n, e_isi, e_lc, lcJ_ok, e_bm, bmJ_ok, e_att, attI_ok, e_mth, mthI_ok, e_pk, e_cfn, calDd_s, ckwI_ok, ckwJ_ok, e_mpk, mpkI_ok, e_mthd, mtdI_ok, e_its, e_lrg, lrgI_ok, e_eqt, eqtI_ok, e_iso, isoI_ok, s_sta, staI_ok, staJ_ok, s_sti, stiI_ok, stiJ_ok, stiK_ok, nxO_s, s_wh, callD_f, es_nil, es_cons, esI_ok, esJ_ok, pAddI, pSubI, List.getElem?_cons_zero, List.getElem?_cons_succ, List.set_cons_zero, List.set_cons_succ, Bool.not_true, Bool.not_false, neg1R, mkL_s, pls_nl, mlI_s, nn, ix, tri_i0, tri_i1, tri_i2, pEqI, pLe, decide_eq_true c1, decide_eq_true c2, mx, mk2, ps]
          · rw [if_neg (fun h => c2 h.2)]
            rw [b_roll_of_1]
            simp -implicitDefEqProofs only [s_tr, tr_nx, tr_rt, tr_ex, s_rse, ex_ex, s_asg, asg_ok, s_ex, ex_ok, s_ret, ret_ok, s_retN, s_brk, s_cnt, s_pas, s_ite, ite_t, ite_f, s_fo, s_nil, s_cons, sq_nx, sq_rt, sq_bk, sq_ct, sq_ex, tel_nx, tel_rt, tel_ex, e_v, oj_s, e_c, e_g, e_nop, e_one, e_bin, e_cmp, e_idx, two_ok, twoJ_ok, e_and, and_t, and_f, e_or, or_t, or_f, e_ite, iteE_t, iteE_f, e_not, not_b, e_ch2, ch2I_ok, ch2J_ok, ch2K_t, ch2K_f, e_ch3, ch3I_ok, ch3J_ok, ch3K_t, ch3K_f, e_tup, e_lst, e_bi, e_call, lsI_ok, e_dct, dct_ok, ps_nil, ps_cons, psI_ok, psK_ok, e_sl, slI_ok, e_sl3, e_sss, ssI_ok, e_lss, lssI_ok, s3I_ok, s3J_c, s3J_n, s3K_c, s3K_n, e_isi, e_lc, lcJ_ok, e_bm, bmJ_ok, e_att, attI_ok, e_mth, mthI_ok, e_pk, e_cfn, calDd_s, ckwI_ok, ckwJ_ok, e_mpk, mpkI_ok, e_mthd, mtdI_ok, e_its, e_lrg, lrgI_ok, e_eqt, eqtI_ok, e_iso, isoI_ok, s_sta, staI_ok, staJ_ok, s_sti, stiI_ok, stiJ_ok, stiK_ok, nxO_s, s_wh, callD_f, es_nil, es_cons, esI_ok, esJ_ok, pAddI, pSubI, List.getElem?_cons_zero, List.getElem?_cons_succ, List.set_cons_zero, List.set_cons_succ, Bool.not_true, Bool.not_false, neg1R, mkL_s, pls_nl, mlI_s, nn, ix, tri_i0, tri_i1, tri_i2, pEqI, pLe, decide_eq_true c1, decide_eq_false c2, kd, mk, ap]
        · rw [if_neg (fun h => c1 h.1)]
          rw [b_roll_of_1]
          simp -implicitDefEqProofs only [s_tr, tr_nx, tr_rt, tr_ex, s_rse, ex_ex, s_asg, asg_ok, s_ex, ex_ok, s_ret, ret_ok, s_retN, s_brk, s_cnt, s_pas, s_ite, ite_t, ite_f, s_fo, s_nil, s_cons, sq_nx, sq_rt, sq_bk, sq_ct, sq_ex, tel_nx, tel_rt, tel_ex, e_v, oj_s, e_c, e_g, e_nop, e_one, e_bin, e_cmp, e_idx, two_ok, twoJ_ok, e_and, and_t, and_f, e_or, or_t, or_f, e_ite, iteE_t, iteE_f, e_not, not_b, e_ch2, ch2I_ok, ch2J_ok, ch2K_t, ch2K_f, e_ch3, ch3I_ok, ch3J_ok, ch3K_t, ch3K_f, e_tup, e_lst, e_bi, e_call, lsI_ok, e_dct, dct_ok, ps_nil, ps_cons, psI_ok, psK_ok, e_sl, slI_ok, e_sl3, e_sss, ssI_ok, e_lss, lssI_ok, s3I_ok, s3J_c, s3J_n, s3K_c, s3K_n, e_isi, e_lc, lcJ_ok, e_bm, bmJ_ok, e_att, attI_ok, e_mth, mthI_ok, e_pk, e_cfn, calDd_s, ckwI_ok, ckwJ_ok, e_mpk, mpkI_ok, e_mthd, mtdI_ok, e_its, e_lrg, lrgI_ok, e_eqt, eqtI_ok, e_iso, isoI_ok, s_sta, staI_ok, staJ_ok, s_sti, stiI_ok, stiJ_ok, stiK_ok, nxO_s, s_wh, callD_f, es_nil, es_cons, esI_ok, esJ_ok, pAddI, pSubI, List.getElem?_cons_zero, List.getElem?_cons_succ, List.set_cons_zero, List.set_cons_succ, Bool.not_true, Bool.not_false, neg1R, mkL_s, pls_nl, mlI_s, nn, ix, tri_i0, tri_i1, tri_i2, pEqI, decide_eq_false c1, kd, mk, ap]
    rw [body, foB_nx]
theorem trisD_hD : ∀ l : List I3, trisD (hD l) = some l
  | [] => rfl
  | x :: l => by
    show (match triT (tri x) with | some a => (trisD (hD l)).map (a :: ·) | none => none) = _
    rw [trisD_hD l]; rfl
theorem pls_hD (l : List I3) : pls (hD l) = some (l.map tri) := pls_of tri l
theorem srt_tri (l : List I3) (S : Sto) : pBi false .sorted [.t (.lst (l.map tri))] S = .ok (.t (.lst ((l.mergeSort le3).map tri))) S := by
  have e1 : asList S (.t (.lst (l.map tri))) = some (hD l) := by
    show some ((l.map tri).map D.t) = _
    rw [List.map_map]; rfl
  have e2 : (asList S (.t (.lst (l.map tri)))).bind trisD = some l := by rw [e1]; exact trisD_hD l
  cases l with
  | nil => rw [show ([] : List I3).mergeSort le3 = [] by simp]; rfl
  | cons x l =>
    have e3 : (asList S (.t (.lst ((x :: l).map tri)))).bind intsD = none := by rw [e1]; rfl
    simp only [pBi, e3, e2]
    exact mkL_t (pls_hD _)
theorem sky_tri {C : Cal} {f : Nat} {S : Sto} {k : Nat} {l : List I3} (h : S[k]? = some (.lst (hD l))) (hC : ∀ x : I3, ∃ S1, C f [.t (tri x)] [] = .ok (.t (.tup [.int x.2.1, .int x.1])) S1) : pSky false C f (.ref k) S = .ok (.t (.lst ((l.mergeSort le3k).map tri))) S := by
  have e1 : (asList S (.ref k)).bind trisD = some l := by
    have : asList S (.ref k) = some (hD l) := by unfold asList; simp only [h]
    rw [this]; exact trisD_hD l
  unfold pSky
  rw [e1]
  simp only
  rw [if_pos fun a _ => hC a]
  exact mkL_t (pls_hD _)
noncomputable def skyI (m : Bool) (C : Cal) (f : Nat) (r : R D) : R D := r.bind fun x S1 => pSky m C f x S1
theorem e_sky {B : Tb} {C : Cal} {ρ : Ev} {S : Sto} {m : Bool} {f : Nat} {a : IE} : evE B C (.sky m f a) ρ S = skyI m C f (evE B C a ρ S) := by first | (rw [evE]; done) | (rw [evE]; rfl)
theorem skyI_ok {C : Cal} {S : Sto} {m : Bool} {f : Nat} {x : D} : skyI m C f (.ok x S) = pSky m C f x S := rfl

/-! ### roll_of goes over its spans as they stand (conf "held": ["spans"]): plain lists and lists in the store -/
theorem fol_nil {k : Nat} {o : Option O} {p : Pt} {b : Ev → Sto → RS} {ρ : Ev} {S : Sto} (h : S[k]? = o) : folL k o p b [] ρ S = .nx ρ S := by unfold folL; rw [if_pos h]
theorem fol_cons {k : Nat} {o : Option O} {p : Pt} {b : Ev → Sto → RS} {ρ ρ1 ρ2 : Ev} {S S2 : Sto} {d : D} {ds : List D} (h : S[k]? = o) (h1 : setP p d ρ = some ρ1) (h2 : b ρ1 S = .nx ρ2 S2) : folL k o p b (d :: ds) ρ S = folL k o p b ds ρ2 S2 := by
  conv => lhs; unfold folL
  rw [if_pos h, h1]
  simp only [h2]
theorem skyR_tri {C : Cal} {f : Nat} {S : Sto} {k : Nat} {l : List I3} (h : S[k]? = some (.lst (hD l))) (hC : ∀ x : I3, ∃ S1, C f [.t (tri x)] [] = .ok (.t (.tup [.int x.2.1, .int x.1])) S1) : pSky true C f (.ref k) S = .ok (.ref S.length) (S ++ [.lst (hD (l.mergeSort le3k))]) := by
  have e1 : (asList S (.ref k)).bind trisD = some l := by
    have : asList S (.ref k) = some (hD l) := by unfold asList; simp only [h]
    rw [this]; exact trisD_hD l
  unfold pSky
  rw [e1]
  simp only
  rw [if_pos fun a _ => hC a]
  rfl
theorem ro_mrgG (n : Nat) (S0 : Sto) (L : Int) (sp x2 : Option D) : ∀ (l hs : List I3) (x4 x5 x6 : Option D), hs.length + l.length ≤ 10000 →
    ∃ x4' x5' x6', foL (.tup [4, 5, 6]) (evSs BT (cal BT PD n) b_roll_of_1) (hD l) [some (.t (.int L)), sp, x2, some (.ref S0.length), x4, x5, x6] (S0 ++ [.lst (hD hs)]) = .nx [some (.t (.int L)), sp, x2, some (.ref S0.length), x4', x5', x6'] (S0 ++ [.lst (hD (l.foldl mstep hs))])
  | [], hs, x4, x5, x6, _ => ⟨x4, x5, x6, rfl⟩
  | x :: l, hs, x4, x5, x6, hl => by
    rw [List.length_cons] at hl
    have hm : (mstep hs x).length ≤ hs.length + 1 := by
      unfold mstep
      split
      · split
        · simp
        · simp
      · simp
    obtain ⟨y4, y5, y6, e⟩ := ro_mrgG n S0 L sp x2 l (mstep hs x) (some (.t (.int x.1))) (some (.t (.int x.2.1))) (some (.t (.int x.2.2))) (by omega)
    refine ⟨y4, y5, y6, Eq.trans ?_ e⟩
    show foL _ _ (.t (tri x) :: hD l) _ _ = _
    rw [fo_cons]
    have st : setP (.tup [4, 5, 6]) (.t (tri x)) [some (.t (.int L)), sp, x2, some (.ref S0.length), x4, x5, x6] = some [some (.t (.int L)), sp, x2, some (.ref S0.length), some (.t (.int x.1)), some (.t (.int x.2.1)), some (.t (.int x.2.2))] := rfl
    rw [st, foA_s]
    have body : evSs BT (cal BT PD n) b_roll_of_1 [some (.t (.int L)), sp, x2, some (.ref S0.length), some (.t (.int x.1)), some (.t (.int x.2.1)), some (.t (.int x.2.2))] (S0 ++ [.lst (hD hs)]) = .nx [some (.t (.int L)), sp, x2, some (.ref S0.length), some (.t (.int x.1)), some (.t (.int x.2.1)), some (.t (.int x.2.2))] (S0 ++ [.lst (hD (mstep hs x))]) := by
      have h0 : ((S0 ++ [O.lst (hD hs)]) : Sto)[S0.length]? = some (.lst ((hs.map tri).map .t)) := by rw [get_last, List.map_map]; rfl
      have nn := ne_nilR (n := 1) h0 (by decide) (fun t ht => by obtain ⟨z, _, rfl⟩ := List.mem_map.mp ht; exact tri_okP z)
      have mk := fun S => mk_tri x.1 x.2.1 x.2.2 S
      have kd := bmI_ok (B := BT) (C := cal BT PD n) (m := false) (es := .cons (.tup (.cons (.v 4) (.cons (.v 5) (.cons (.v 6) .nil)))) .nil) (ρ := [some (.t (.int L)), sp, x2, some (.ref S0.length), some (.t (.int x.1)), some (.t (.int x.2.1)), some (.t (.int x.2.2))]) (kndR (S := (S0 ++ [O.lst (hD hs)])) (k := S0.length) (xs := hD hs) get_last)
      have ap : pBm false .append (.ref S0.length) [.t (tri (x.1, x.2.1, x.2.2))] (S0 ++ [O.lst (hD hs)]) = .ok (.t .non) (S0 ++ [O.lst (hD (hs ++ [x]))]) := by
        rw [appR (S := (S0 ++ [O.lst (hD hs)])) (k := S0.length) (xs := hD hs) get_last (by rw [List.length_map]; omega), set_last]
        show R.ok _ (S0 ++ [O.lst (hD hs ++ [.t (tri x)])]) = _
        simp [hD]
      rcases List.eq_nil_or_concat hs with rfl | ⟨r, z, rfl⟩
      · have nn : pCmp .NotEq (.ref S0.length) (.t (.lst [])) (S0 ++ [O.lst (hD [])]) = .ok (.t (.bl false)) (S0 ++ [O.lst (hD [])]) := nn
        rw [b_roll_of_1]
        simp -implicitDefEqProofs only [s_tr, tr_nx, tr_rt, tr_ex, s_rse, ex_ex, s_asg, asg_ok, s_ex, ex_ok, s_ret, ret_ok, s_retN, s_brk, s_cnt, s_pas, s_ite, ite_t, ite_f, s_fo, s_nil, s_cons, sq_nx, sq_rt, sq_bk, sq_ct, sq_ex, tel_nx, tel_rt, tel_ex, e_v, oj_s, e_c, e_g, e_nop, e_one, e_bin, e_cmp, e_idx, two_ok, twoJ_ok, e_and, and_t, and_f, e_or, or_t, or_f, e_ite, iteE_t, iteE_f, e_not, not_b, e_ch2, ch2I_ok, ch2J_ok, ch2K_t, ch2K_f, e_ch3, ch3I_ok, ch3J_ok, ch3K_t, ch3K_f, e_tup, e_lst, e_bi, e_call, lsI_ok, e_dct, dct_ok, ps_nil, ps_cons, psI_ok, psK_ok, e_sl, slI_ok, e_sl3, e_sss, ssI_ok, e_lss, lssI_ok, s3I_ok, s3J_c, s3J_n, s3K_c, s3K_n, e_isi, e_lc, lcJ_ok, e_bm, bmJ_ok, e_att, attI_ok, e_mth, mthI_ok, e_pk, e_cfn, calDd_s, ckwI_ok, ckwJ_ok, e_mpk, mpkI_ok, e_mthd, mtdI_ok, e_its, e_lrg, lrgI_ok, e_eqt, eqtI_ok, e_iso, isoI_ok, s_sta, staI_ok, staJ_ok, s_sti, stiI_ok, stiJ_ok, stiK_ok, nxO_s, s_wh, callD_f, es_nil, es_cons, esI_ok, esJ_ok, pAddI, pSubI, List.getElem?_cons_zero, List.getElem?_cons_succ, List.set_cons_zero, List.set_cons_succ, Bool.not_true, Bool.not_false, mkL_s, pls_nl, mlI_s, nn, kd, mk, ap]
        rfl
      · rw [List.concat_eq_append] at *
        have e0 : hD (r ++ [z]) = hD r ++ [.t (tri z)] := by simp [hD]
        have nn : pCmp .NotEq (.ref S0.length) (.t (.lst [])) (S0 ++ [O.lst (hD (r ++ [z]))]) = .ok (.t (.bl true)) (S0 ++ [O.lst (hD (r ++ [z]))]) := by rw [nn]; simp
        have ix : pIdx (.ref S0.length) (.t (.int (-1))) (S0 ++ [O.lst (hD (r ++ [z]))]) = .ok (.t (tri z)) (S0 ++ [O.lst (hD (r ++ [z]))]) := ixm1R (l := hD r) (by rw [e0, get_last])
        have mm : mstep (r ++ [z]) x = if z.1 = x.1 ∧ x.2.1 ≤ z.2.2 then r ++ [(x.1, z.2.1, max x.2.2 z.2.2)] else r ++ [z] ++ [x] := by
          unfold mstep; rw [List.getLast?_concat]; simp only [List.dropLast_concat]
        rw [mm]
        by_cases c1 : z.1 = x.1
        · by_cases c2 : x.2.1 ≤ z.2.2
          · rw [if_pos ⟨c1, c2⟩]
            have mx : ∀ S, pBi false .max [.t (.int x.2.2), .t (.int z.2.2)] S = .ok (.t (.int (max x.2.2 z.2.2))) S := fun _ => rfl
            have mk2 := fun S => mk_tri x.1 z.2.1 (max x.2.2 z.2.2) S
            have ps : pSt (.ref S0.length) (.t (.int (-1))) (.t (tri (x.1, z.2.1, max x.2.2 z.2.2))) (S0 ++ [O.lst (hD (r ++ [z]))]) = some (S0 ++ [O.lst (hD (r ++ [(x.1, z.2.1, max x.2.2 z.2.2)]))]) := by
              rw [stm1R (l := hD r) (d := .t (tri z)) (by rw [e0, get_last]), set_last]
              simp [hD]
            rw [b_roll_of_1]
            simp -implicitDefEqProofs only [s_tr, tr_nx, tr_rt, tr_ex, s_rse, ex_ex, s_asg, asg_ok, s_ex, ex_ok, s_ret, ret_ok, s_retN, s_brk, s_cnt, s_pas, s_ite, ite_t, ite_f, s_fo, s_nil, s_cons, sq_nx, sq_rt, sq_bk, sq_ct, sq_ex, tel_nx, tel_rt, tel_ex, e_v, oj_s, e_c, e_g, e_nop, e_one, e_bin, e_cmp, e_idx, two_ok, twoJ_ok, e_and, and_t, and_f, e_or, or_t, or_f, e_ite, iteE_t, iteE_f, e_not, not_b, e_ch2, ch2I_ok, ch2J_ok, ch2K_t, ch2K_f, e_ch3, ch3I_ok, ch3J_ok, ch3K_t, ch3K_f, e_tup, e_lst, e_bi, e_call, lsI_ok, e_dct, dct_ok, ps_nil, ps_cons, psI_ok, psK_ok, e_sl, slI_ok, e_sl3, e_sss, ssI_ok, e_lss, lssI_ok, s3I_ok, s3J_c, s3J_n, s3K_c, s3K_n, e_isi, e_lc, lcJ_ok, e_bm, bmJ_ok, e_att, attI_ok, e_mth, mthI_ok, e_pk, e_cfn, calDd_s, ckwI_ok, ckwJ_ok, e_mpk, mpkI_ok, e_mthd, mtdI_ok, e_its, e_lrg, lrgI_ok, e_eqt, eqtI_ok, e_iso, isoI_ok, s_sta, staI_ok, staJ_ok, s_sti, stiI_ok, stiJ_ok, stiK_ok, nxO_s, s_wh, callD_f, es_nil, es_cons, esI_ok, esJ_ok, pAddI, pSubI, List.getElem?_cons_zero, List.getElem?_cons_succ, List.set_cons_zero, List.set_cons_succ, Bool.not_true, Bool.not_false, neg1R, mkL_s, pls_nl, mlI_s, nn, ix, tri_i0, tri_i1, tri_i2, pEqI, pLe, decide_eq_true c1, decide_eq_true c2, mx, mk2, ps]
          · rw [if_neg (fun h => c2 h.2)]
            rw [b_roll_of_1]
            simp -implicitDefEqProofs only [s_tr, tr_nx, tr_rt, tr_ex, s_rse, ex_ex, s_asg, asg_ok, s_ex, ex_ok, s_ret, ret_ok, s_retN, s_brk, s_cnt, s_pas, s_ite, ite_t, ite_f, s_fo, s_nil, s_cons, sq_nx, sq_rt, sq_bk, sq_ct, sq_ex, tel_nx, tel_rt, tel_ex, e_v, oj_s, e_c, e_g, e_nop, e_one, e_bin, e_cmp, e_idx, two_ok, twoJ_ok, e_and, and_t, and_f, e_or, or_t, or_f, e_ite, iteE_t, iteE_f, e_not, not_b, e_ch2, ch2I_ok, ch2J_ok, ch2K_t, ch2K_f, e_ch3, ch3I_ok, ch3J_ok, ch3K_t, ch3K_f, e_tup, e_lst, e_bi, e_call, lsI_ok, e_dct, dct_ok, ps_nil, ps_cons, psI_ok, psK_ok, e_sl, slI_ok, e_sl3, e_sss, ssI_ok, e_lss, lssI_ok, s3I_ok, s3J_c, s3J_n, s3K_c, s3K_n, e_isi, e_lc, lcJ_ok, e_bm, bmJ_ok, e_att, attI_ok, e_mth, mthI_ok, e_pk, e_cfn, calDd_s, ckwI_ok, ckwJ_ok, e_mpk, mpkI_ok, e_mthd, mtdI_ok, e_its, e_lrg, lrgI_ok, e_eqt, eqtI_ok, e_iso, isoI_ok, s_sta, staI_ok, staJ_ok, s_sti, stiI_ok, stiJ_ok, stiK_ok, nxO_s, s_wh, callD_f, es_nil, es_cons, esI_ok, esJ_ok, pAddI, pSubI, List.getElem?_cons_zero, List.getElem?_cons_succ, List.set_cons_zero, List.set_cons_succ, Bool.not_true, Bool.not_false, neg1R, mkL_s, pls_nl, mlI_s, nn, ix, tri_i0, tri_i1, tri_i2, pEqI, pLe, decide_eq_true c1, decide_eq_false c2, kd, mk, ap]
        · rw [if_neg (fun h => c1 h.1)]
          rw [b_roll_of_1]
          simp -implicitDefEqProofs only [s_tr, tr_nx, tr_rt, tr_ex, s_rse, ex_ex, s_asg, asg_ok, s_ex, ex_ok, s_ret, ret_ok, s_retN, s_brk, s_cnt, s_pas, s_ite, ite_t, ite_f, s_fo, s_nil, s_cons, sq_nx, sq_rt, sq_bk, sq_ct, sq_ex, tel_nx, tel_rt, tel_ex, e_v, oj_s, e_c, e_g, e_nop, e_one, e_bin, e_cmp, e_idx, two_ok, twoJ_ok, e_and, and_t, and_f, e_or, or_t, or_f, e_ite, iteE_t, iteE_f, e_not, not_b, e_ch2, ch2I_ok, ch2J_ok, ch2K_t, ch2K_f, e_ch3, ch3I_ok, ch3J_ok, ch3K_t, ch3K_f, e_tup, e_lst, e_bi, e_call, lsI_ok, e_dct, dct_ok, ps_nil, ps_cons, psI_ok, psK_ok, e_sl, slI_ok, e_sl3, e_sss, ssI_ok, e_lss, lssI_ok, s3I_ok, s3J_c, s3J_n, s3K_c, s3K_n, e_isi, e_lc, lcJ_ok, e_bm, bmJ_ok, e_att, attI_ok, e_mth, mthI_ok, e_pk, e_cfn, calDd_s, ckwI_ok, ckwJ_ok, e_mpk, mpkI_ok, e_mthd, mtdI_ok, e_its, e_lrg, lrgI_ok, e_eqt, eqtI_ok, e_iso, isoI_ok, s_sta, staI_ok, staJ_ok, s_sti, stiI_ok, stiJ_ok, stiK_ok, nxO_s, s_wh, callD_f, es_nil, es_cons, esI_ok, esJ_ok, pAddI, pSubI, List.getElem?_cons_zero, List.getElem?_cons_succ, List.set_cons_zero, List.set_cons_succ, Bool.not_true, Bool.not_false, neg1R, mkL_s, pls_nl, mlI_s, nn, ix, tri_i0, tri_i1, tri_i2, pEqI, decide_eq_false c1, kd, mk, ap]
    rw [body, foB_nx]
/-- the check of spans in the store -/
theorem ro_chkK (n : Nat) (L : Int) (k : Nat) (sp : Option D) (S : Sto) (o : Option O) (hk : S[k]? = o) : ∀ (l : List I3) (x2 : Option D), (∀ x ∈ l, HoleOk L x) →
    ∃ x2', folL k o (.v 2) (evSs BT (cal BT PD (n + 2)) b_roll_of_2) (hD l) [some (.t (.int L)), sp, x2, none, none, none, none] S = .nx [some (.t (.int L)), sp, x2', none, none, none, none] S
  | [], x2, _ => ⟨x2, fol_nil hk⟩
  | x :: l, x2, h => by
    have kh := fun S => c_is_hole n (h x List.mem_cons_self) S
    obtain ⟨x3, e⟩ := ro_chkK n L k sp S o hk l (some (.t (tri x))) fun y hy => h y (List.mem_cons_of_mem _ hy)
    refine ⟨x3, Eq.trans ?_ e⟩
    show folL _ _ _ _ (.t (tri x) :: hD l) _ _ = _
    refine fol_cons (ρ1 := [some (.t (.int L)), sp, some (.t (tri x)), none, none, none, none]) hk rfl ?_
    rw [b_roll_of_2]
    simp -implicitDefEqProofs only [s_tr, tr_nx, tr_rt, tr_ex, s_rse, ex_ex, s_asg, asg_ok, s_ex, ex_ok, s_ret, ret_ok, s_retN, s_brk, s_cnt, s_pas, s_ite, ite_t, ite_f, s_fo, s_nil, s_cons, sq_nx, sq_rt, sq_bk, sq_ct, sq_ex, tel_nx, tel_rt, tel_ex, e_v, oj_s, e_c, e_g, e_nop, e_one, e_bin, e_cmp, e_idx, two_ok, twoJ_ok, e_and, and_t, and_f, e_or, or_t, or_f, e_ite, iteE_t, iteE_f, e_not, not_b, e_ch2, ch2I_ok, ch2J_ok, ch2K_t, ch2K_f, e_ch3, ch3I_ok, ch3J_ok, ch3K_t, ch3K_f, e_tup, e_lst, e_bi, e_call, lsI_ok, e_dct, dct_ok, ps_nil, ps_cons, psI_ok, psK_ok, e_sl, slI_ok, e_sl3, e_sss, ssI_ok, e_lss, lssI_ok, s3I_ok, s3J_c, s3J_n, s3K_c, s3K_n, e_isi, e_lc, lcJ_ok, e_bm, bmJ_ok, e_att, attI_ok, e_mth, mthI_ok, e_pk, e_cfn, calDd_s, ckwI_ok, ckwJ_ok, e_mpk, mpkI_ok, e_mthd, mtdI_ok, e_its, e_lrg, lrgI_ok, e_eqt, eqtI_ok, e_iso, isoI_ok, s_sta, staI_ok, staJ_ok, s_sti, stiI_ok, stiJ_ok, stiK_ok, nxO_s, s_wh, callD_f, es_nil, es_cons, esI_ok, esJ_ok, pAddI, pSubI, List.getElem?_cons_zero, List.getElem?_cons_succ, List.set_cons_zero, List.set_cons_succ, Bool.not_true, Bool.not_false, kh]
theorem srt_triK {S : Sto} {k : Nat} (l : List I3) (h : S[k]? = some (.lst (hD l))) : pBi false .sorted [.ref k] S = .ok (.t (.lst ((l.mergeSort le3).map tri))) S := by
  have e1 : asList S (.ref k) = some (hD l) := by unfold asList; simp only [h]
  have e2 : (asList S (.ref k)).bind trisD = some l := by rw [e1]; exact trisD_hD l
  cases l with
  | nil =>
    rw [show ([] : List I3).mergeSort le3 = [] by simp]
    have e3 : (asList S (.ref k)).bind intsD = some [] := by rw [e1]; rfl
    simp only [pBi, e3]; rfl
  | cons x l =>
    have e3 : (asList S (.ref k)).bind intsD = none := by rw [e1]; rfl
    simp only [pBi, e3, e2]
    exact mkL_t (pls_hD _)
/-- what the spans handed in are: a plain list, or one in the store -/
inductive SpA (S : Sto) (xs : List I3) : D → Prop where
  | pl : SpA S xs (.t (.lst (xs.map tri)))
  | rf {k : Nat} (h : S[k]? = some (.lst (hD xs))) : SpA S xs (.ref k)
theorem c_roll_ofS (n : Nat) {L : Int} {xs : List I3} (h0 : 0 ≤ L) (h1 : L ≤ 1000000000000) (hx : ∀ x ∈ xs, HoleOk L x) (h4 : (rollF xs).length ≤ 400) (hl : xs.length ≤ 10000) (S0 : Sto) {sp : D} (hsp : SpA S0 xs sp) : cal BT PD (n + 3) f_roll_of [.t (.int L), sp] S0 = .ok (.tup [.t (.int L), .ref (S0.length + 1)]) (S0 ++ [.lst (hD (mrgF (xs.mergeSort le3))), .lst (hD (rollF xs))]) := by
  have k1 := fun S => c_is_length n h0 h1 S
  have il : isiB BT.sub S0 sp .list = some true := by
    cases hsp with
    | pl => rfl
    | rf h => unfold isiB; simp only [h]; rfl
  obtain ⟨x2, e2⟩ : ∃ x2, evS BT (cal BT PD (n + 2)) (.fol (.v 2) (.v 1) b_roll_of_2) [some (.t (.int L)), some sp, none, none, none, none, none] S0 = .nx [some (.t (.int L)), some sp, x2, none, none, none, none] S0 := by
    cases hsp with
    | pl =>
      obtain ⟨x2, e2⟩ := ro_chk n L (some (.t (.lst (xs.map tri)))) S0 xs none hx
      refine ⟨x2, ?_⟩
      rw [s_fol]
      simp -implicitDefEqProofs only [s_tr, tr_nx, tr_rt, tr_ex, s_rse, ex_ex, s_asg, asg_ok, s_ex, ex_ok, s_ret, ret_ok, s_retN, s_brk, s_cnt, s_pas, s_ite, ite_t, ite_f, s_fo, s_nil, s_cons, sq_nx, sq_rt, sq_bk, sq_ct, sq_ex, tel_nx, tel_rt, tel_ex, e_v, oj_s, e_c, e_g, e_nop, e_one, e_bin, e_cmp, e_idx, two_ok, twoJ_ok, e_and, and_t, and_f, e_or, or_t, or_f, e_ite, iteE_t, iteE_f, e_not, not_b, e_ch2, ch2I_ok, ch2J_ok, ch2K_t, ch2K_f, e_ch3, ch3I_ok, ch3J_ok, ch3K_t, ch3K_f, e_tup, e_lst, e_bi, e_call, lsI_ok, e_dct, dct_ok, ps_nil, ps_cons, psI_ok, psK_ok, e_sl, slI_ok, e_sl3, e_sss, ssI_ok, e_lss, lssI_ok, s3I_ok, s3J_c, s3J_n, s3K_c, s3K_n, e_isi, e_lc, lcJ_ok, e_bm, bmJ_ok, e_att, attI_ok, e_mth, mthI_ok, e_pk, e_cfn, calDd_s, ckwI_ok, ckwJ_ok, e_mpk, mpkI_ok, e_mthd, mtdI_ok, e_its, e_lrg, lrgI_ok, e_eqt, eqtI_ok, e_iso, isoI_ok, s_sta, staI_ok, staJ_ok, s_sti, stiI_ok, stiJ_ok, stiK_ok, nxO_s, s_wh, callD_f, es_nil, es_cons, esI_ok, esJ_ok, pAddI, pSubI, List.getElem?_cons_zero, List.getElem?_cons_succ, List.set_cons_zero, List.set_cons_succ, Bool.not_true, Bool.not_false, folI_t, List.map_map]
      exact e2
    | @rf k h =>
      obtain ⟨x2, e2⟩ := ro_chkK n L k (some (.ref k)) S0 _ h xs none hx
      refine ⟨x2, ?_⟩
      rw [s_fol]
      simp -implicitDefEqProofs only [s_tr, tr_nx, tr_rt, tr_ex, s_rse, ex_ex, s_asg, asg_ok, s_ex, ex_ok, s_ret, ret_ok, s_retN, s_brk, s_cnt, s_pas, s_ite, ite_t, ite_f, s_fo, s_nil, s_cons, sq_nx, sq_rt, sq_bk, sq_ct, sq_ex, tel_nx, tel_rt, tel_ex, e_v, oj_s, e_c, e_g, e_nop, e_one, e_bin, e_cmp, e_idx, two_ok, twoJ_ok, e_and, and_t, and_f, e_or, or_t, or_f, e_ite, iteE_t, iteE_f, e_not, not_b, e_ch2, ch2I_ok, ch2J_ok, ch2K_t, ch2K_f, e_ch3, ch3I_ok, ch3J_ok, ch3K_t, ch3K_f, e_tup, e_lst, e_bi, e_call, lsI_ok, e_dct, dct_ok, ps_nil, ps_cons, psI_ok, psK_ok, e_sl, slI_ok, e_sl3, e_sss, ssI_ok, e_lss, lssI_ok, s3I_ok, s3J_c, s3J_n, s3K_c, s3K_n, e_isi, e_lc, lcJ_ok, e_bm, bmJ_ok, e_att, attI_ok, e_mth, mthI_ok, e_pk, e_cfn, calDd_s, ckwI_ok, ckwJ_ok, e_mpk, mpkI_ok, e_mthd, mtdI_ok, e_its, e_lrg, lrgI_ok, e_eqt, eqtI_ok, e_iso, isoI_ok, s_sta, staI_ok, staJ_ok, s_sti, stiI_ok, stiJ_ok, stiK_ok, nxO_s, s_wh, callD_f, es_nil, es_cons, esI_ok, esJ_ok, pAddI, pSubI, List.getElem?_cons_zero, List.getElem?_cons_succ, List.set_cons_zero, List.set_cons_succ, Bool.not_true, Bool.not_false, folI_ok h]
      exact e2
  have st : pBi false .sorted [sp] (S0 ++ [.lst []]) = .ok (.t (.lst ((xs.mergeSort le3).map tri))) (S0 ++ [.lst []]) := by
    cases hsp with
    | pl => exact srt_tri xs _
    | @rf k h => exact srt_triK xs (by rw [List.getElem?_append_left (List.getElem?_eq_some_iff.mp h).1]; exact h)
  have it2 : ∀ S, itemsOf .seq [.t (.lst ((xs.mergeSort le3).map tri))] S = some (hD (xs.mergeSort le3)) := fun S => by rw [itL_s, List.map_map]; rfl
  obtain ⟨x4, x5, x6, e3⟩ := ro_mrgG (n + 2) S0 L (some sp) x2 (xs.mergeSort le3) [] none none none (by rw [List.length_mergeSort]; simpa using hl)
  have h4' : (mrgF (xs.mergeSort le3)).length ≤ 400 := by
    have := h4
    unfold rollF at this
    rwa [List.length_mergeSort] at this
  have e3 : foL (.tup [4, 5, 6]) (evSs BT (cal BT PD (n + 2)) b_roll_of_1) (hD (xs.mergeSort le3)) [some (.t (.int L)), some sp, x2, some (.ref S0.length), none, none, none] (S0 ++ [.lst []]) = .nx [some (.t (.int L)), some sp, x2, some (.ref S0.length), x4, x5, x6] (S0 ++ [.lst (hD (mrgF (xs.mergeSort le3)))]) := e3
  have hr : rollF xs = (mrgF (xs.mergeSort le3)).mergeSort le3k := rfl
  rw [hr]
  generalize mrgF (xs.mergeSort le3) = ms at *
  have ln : ∀ S : Sto, S[S0.length]? = some (.lst (hD ms)) → pBi false .len [.ref S0.length] S = .ok (.t (.int (ms.length : Nat))) S := fun S h => by
    have : seqOf S (.ref S0.length) = some (hD ms) := by unfold seqOf; simp only [h]
    simp only [pBi, pLen, this, List.length_map]
  have gt : ∀ S, pCmp .Gt (.t (.int (ms.length : Nat))) (.t (.int 400)) S = .ok (.t (.bl false)) S := fun S => by rw [pGt, decide_eq_false (by omega)]
  have sk := skyR_tri (C := cal BT PD (n + 2)) (f := f_by_first) (S := S0 ++ [O.lst (hD ms)]) (k := S0.length) (l := ms) get_last fun x => ⟨_, c_by_first (n + 1) x []⟩
  have sk : pSky true (cal BT PD (n + 2)) f_by_first (.ref S0.length) (S0 ++ [O.lst (hD ms)]) = .ok (.ref (S0.length + 1)) (S0 ++ [O.lst (hD ms), O.lst (hD (ms.mergeSort le3k))]) := by
    rw [sk, List.length_append, List.length_singleton, List.append_assoc]; rfl
  have mkR : ∀ S, mkT [.t (.int L), .ref (S0.length + 1)] S = .ok (.tup [.t (.int L), .ref (S0.length + 1)]) S := fun _ => rfl
  rw [r_def (d := ⟨2, 7, b_roll_of⟩) rfl rfl]
  rw [b_roll_of]
  simp -implicitDefEqProofs only [List.map_cons, List.map_nil, List.length_cons, List.length_nil, List.replicate, List.cons_append, List.nil_append]
  refine Eq.trans (congrArg tel (run_consR (S1 := S0) (ρ1 := [some (.t (.int L)), some sp, none, none, none, none, none]) ?_)) ?_
  · simp -implicitDefEqProofs only [s_tr, tr_nx, tr_rt, tr_ex, s_rse, ex_ex, s_asg, asg_ok, s_ex, ex_ok, s_ret, ret_ok, s_retN, s_brk, s_cnt, s_pas, s_ite, ite_t, ite_f, s_fo, s_nil, s_cons, sq_nx, sq_rt, sq_bk, sq_ct, sq_ex, tel_nx, tel_rt, tel_ex, e_v, oj_s, e_c, e_g, e_nop, e_one, e_bin, e_cmp, e_idx, two_ok, twoJ_ok, e_and, and_t, and_f, e_or, or_t, or_f, e_ite, iteE_t, iteE_f, e_not, not_b, e_ch2, ch2I_ok, ch2J_ok, ch2K_t, ch2K_f, e_ch3, ch3I_ok, ch3J_ok, ch3K_t, ch3K_f, e_tup, e_lst, e_bi, e_call, lsI_ok, e_dct, dct_ok, ps_nil, ps_cons, psI_ok, psK_ok, e_sl, slI_ok, e_sl3, e_sss, ssI_ok, e_lss, lssI_ok, s3I_ok, s3J_c, s3J_n, s3K_c, s3K_n, e_isi, e_lc, lcJ_ok, e_bm, bmJ_ok, e_att, attI_ok, e_mth, mthI_ok, e_pk, e_cfn, calDd_s, ckwI_ok, ckwJ_ok, e_mpk, mpkI_ok, e_mthd, mtdI_ok, e_its, e_lrg, lrgI_ok, e_eqt, eqtI_ok, e_iso, isoI_ok, s_sta, staI_ok, staJ_ok, s_sti, stiI_ok, stiJ_ok, stiK_ok, nxO_s, s_wh, callD_f, es_nil, es_cons, esI_ok, esJ_ok, pAddI, pSubI, List.getElem?_cons_zero, List.getElem?_cons_succ, List.set_cons_zero, List.set_cons_succ, Bool.not_true, Bool.not_false, k1, isi_ok il]
  refine Eq.trans (congrArg tel (run_consR (S1 := S0) (ρ1 := [some (.t (.int L)), some sp, x2, none, none, none, none]) e2)) ?_
  refine Eq.trans (congrArg tel (run_consR (run_asgR (S1 := S0 ++ [.lst []]) (d := .ref S0.length) (ρ1 := [some (.t (.int L)), some sp, x2, some (.ref S0.length), none, none, none]) ?_ rfl))) ?_
  · simp -implicitDefEqProofs only [s_tr, tr_nx, tr_rt, tr_ex, s_rse, ex_ex, s_asg, asg_ok, s_ex, ex_ok, s_ret, ret_ok, s_retN, s_brk, s_cnt, s_pas, s_ite, ite_t, ite_f, s_fo, s_nil, s_cons, sq_nx, sq_rt, sq_bk, sq_ct, sq_ex, tel_nx, tel_rt, tel_ex, e_v, oj_s, e_c, e_g, e_nop, e_one, e_bin, e_cmp, e_idx, two_ok, twoJ_ok, e_and, and_t, and_f, e_or, or_t, or_f, e_ite, iteE_t, iteE_f, e_not, not_b, e_ch2, ch2I_ok, ch2J_ok, ch2K_t, ch2K_f, e_ch3, ch3I_ok, ch3J_ok, ch3K_t, ch3K_f, e_tup, e_lst, e_bi, e_call, lsI_ok, e_dct, dct_ok, ps_nil, ps_cons, psI_ok, psK_ok, e_sl, slI_ok, e_sl3, e_sss, ssI_ok, e_lss, lssI_ok, s3I_ok, s3J_c, s3J_n, s3K_c, s3K_n, e_isi, e_lc, lcJ_ok, e_bm, bmJ_ok, e_att, attI_ok, e_mth, mthI_ok, e_pk, e_cfn, calDd_s, ckwI_ok, ckwJ_ok, e_mpk, mpkI_ok, e_mthd, mtdI_ok, e_its, e_lrg, lrgI_ok, e_eqt, eqtI_ok, e_iso, isoI_ok, s_sta, staI_ok, staJ_ok, s_sti, stiI_ok, stiJ_ok, stiK_ok, nxO_s, s_wh, callD_f, es_nil, es_cons, esI_ok, esJ_ok, pAddI, pSubI, List.getElem?_cons_zero, List.getElem?_cons_succ, List.set_cons_zero, List.set_cons_succ, Bool.not_true, Bool.not_false, mkL_r]
    try rfl
  refine Eq.trans (congrArg tel (run_consR (S1 := S0 ++ [.lst (hD ms)]) (ρ1 := [some (.t (.int L)), some sp, x2, some (.ref S0.length), x4, x5, x6]) ?_)) ?_
  · simp -implicitDefEqProofs only [s_tr, tr_nx, tr_rt, tr_ex, s_rse, ex_ex, s_asg, asg_ok, s_ex, ex_ok, s_ret, ret_ok, s_retN, s_brk, s_cnt, s_pas, s_ite, ite_t, ite_f, s_fo, s_nil, s_cons, sq_nx, sq_rt, sq_bk, sq_ct, sq_ex, tel_nx, tel_rt, tel_ex, e_v, oj_s, e_c, e_g, e_nop, e_one, e_bin, e_cmp, e_idx, two_ok, twoJ_ok, e_and, and_t, and_f, e_or, or_t, or_f, e_ite, iteE_t, iteE_f, e_not, not_b, e_ch2, ch2I_ok, ch2J_ok, ch2K_t, ch2K_f, e_ch3, ch3I_ok, ch3J_ok, ch3K_t, ch3K_f, e_tup, e_lst, e_bi, e_call, lsI_ok, e_dct, dct_ok, ps_nil, ps_cons, psI_ok, psK_ok, e_sl, slI_ok, e_sl3, e_sss, ssI_ok, e_lss, lssI_ok, s3I_ok, s3J_c, s3J_n, s3K_c, s3K_n, e_isi, e_lc, lcJ_ok, e_bm, bmJ_ok, e_att, attI_ok, e_mth, mthI_ok, e_pk, e_cfn, calDd_s, ckwI_ok, ckwJ_ok, e_mpk, mpkI_ok, e_mthd, mtdI_ok, e_its, e_lrg, lrgI_ok, e_eqt, eqtI_ok, e_iso, isoI_ok, s_sta, staI_ok, staJ_ok, s_sti, stiI_ok, stiJ_ok, stiK_ok, nxO_s, s_wh, callD_f, es_nil, es_cons, esI_ok, esJ_ok, pAddI, pSubI, List.getElem?_cons_zero, List.getElem?_cons_succ, List.set_cons_zero, List.set_cons_succ, Bool.not_true, Bool.not_false, st, fo_ok (it2 _)]
    exact e3
  simp -implicitDefEqProofs only [s_tr, tr_nx, tr_rt, tr_ex, s_rse, ex_ex, s_asg, asg_ok, s_ex, ex_ok, s_ret, ret_ok, s_retN, s_brk, s_cnt, s_pas, s_ite, ite_t, ite_f, s_fo, s_nil, s_cons, sq_nx, sq_rt, sq_bk, sq_ct, sq_ex, tel_nx, tel_rt, tel_ex, e_v, oj_s, e_c, e_g, e_nop, e_one, e_bin, e_cmp, e_idx, two_ok, twoJ_ok, e_and, and_t, and_f, e_or, or_t, or_f, e_ite, iteE_t, iteE_f, e_not, not_b, e_ch2, ch2I_ok, ch2J_ok, ch2K_t, ch2K_f, e_ch3, ch3I_ok, ch3J_ok, ch3K_t, ch3K_f, e_tup, e_lst, e_bi, e_call, lsI_ok, e_dct, dct_ok, ps_nil, ps_cons, psI_ok, psK_ok, e_sl, slI_ok, e_sl3, e_sss, ssI_ok, e_lss, lssI_ok, s3I_ok, s3J_c, s3J_n, s3K_c, s3K_n, e_isi, e_lc, lcJ_ok, e_bm, bmJ_ok, e_att, attI_ok, e_mth, mthI_ok, e_pk, e_cfn, calDd_s, ckwI_ok, ckwJ_ok, e_mpk, mpkI_ok, e_mthd, mtdI_ok, e_its, e_lrg, lrgI_ok, e_eqt, eqtI_ok, e_iso, isoI_ok, s_sta, staI_ok, staJ_ok, s_sti, stiI_ok, stiJ_ok, stiK_ok, nxO_s, s_wh, callD_f, es_nil, es_cons, esI_ok, esJ_ok, pAddI, pSubI, List.getElem?_cons_zero, List.getElem?_cons_succ, List.set_cons_zero, List.set_cons_succ, Bool.not_true, Bool.not_false, ln (S0 ++ [O.lst (hD ms)]) get_last, gt, e_sky, skyI_ok, sk, mkR]
theorem callD_rr {C : Cal} {f : Nat} {ds : List D} {ts : List T} {S S1 : Sto} {x : D} {t : T} (h : pls ds = some ts) (e : C f ds [] = .ok x S1) (fz : ∃ S2, frz 9 S1 x = some (t, S2)) : callD C true f ds S = .ok (.t t) S := by
  obtain ⟨S2, fz⟩ := fz
  unfold callD
  simp only [if_true, h, e, fz]
theorem frz_hD {S : Sto} {k n : Nat} {hs : List I3} (h : S[k]? = some (.lst (hD hs))) : ∃ S2, frz (n + 1) S (.ref k) = some (.lst (hs.map tri), S2) := by
  have h' : S[k]? = some (.lst ((hs.map tri).map D.t)) := by rw [List.map_map]; exact h
  have ha : alive S k = true := by unfold alive; rw [h']
  exact ⟨S.set k .dead, by simp only [frz, h', frzL_t, ha, if_true]⟩
theorem frz_rl {S : Sto} {k : Nat} {L : Int} {hs : List I3} (h : S[k]? = some (.lst (hD hs))) : ∃ S2, frz 9 S (.tup [.t (.int L), .ref k]) = some (rlT L hs, S2) := by
  obtain ⟨S2, e⟩ := frz_hD (n := 7) h
  refine ⟨S2, ?_⟩
  show (match frzL (frz 8) S [.t (.int L), .ref k] with | some (ts, S1) => some (T.tup ts, S1) | none => none) = _
  have e2 : frzL (frz 8) S [.t (.int L), .ref k] = some ([.int L, .lst (hs.map tri)], S2) := by
    simp only [frzL, frz_t, e]
  rw [e2]
theorem c_roll_of (n : Nat) {L : Int} {xs : List I3} (h0 : 0 ≤ L) (h1 : L ≤ 1000000000000) (hx : ∀ x ∈ xs, HoleOk L x) (h4 : (rollF xs).length ≤ 400) (hl : xs.length ≤ 10000) (S : Sto) : callD (cal BT PD (n + 3)) true f_roll_of [.t (.int L), .t (.lst (xs.map tri))] S = .ok (.t (rlT L (rollF xs))) S :=
  callD_rr (ts := [.int L, .lst (xs.map tri)]) rfl (c_roll_ofS n h0 h1 hx h4 hl [] .pl) (frz_rl rfl)
/-- what a call apart told of a truth -/
theorem frz_bl {S S2 : Sto} {x : D} {b : Bool} (h : frz 9 S x = some (.bl b, S2)) : x = .t (.bl b) := by
  cases x with
  | t x =>
    have h : some (x, S) = some (T.bl b, S2) := h
    injection h with h
    injection h with h1 _
    rw [h1]
  | tup ds =>
    have h : (match frzL (frz 8) S ds with | some (ts, S1) => some (T.tup ts, S1) | none => none) = some (T.bl b, S2) := h
    split at h <;> simp at h
  | ref k =>
    simp only [frz] at h
    split at h
    · split at h
      · split at h <;> simp at h
      · simp at h
    · split at h
      · split at h <;> simp at h
      · simp at h
    · split at h
      · split at h <;> simp at h
      · simp at h
    · simp at h
theorem callD_bl {C : Cal} {f : Nat} {ts : List T} {S : Sto} {b : Bool} (h : callD C true f (ts.map .t) S = .ok (.t (.bl b)) S) : ∃ S1, C f (ts.map .t) [] = .ok (.t (.bl b)) S1 := by
  unfold callD at h
  simp only [if_true] at h
  split at h
  · split at h
    · rename_i d S1 e
      split at h
      · rename_i t S2 z
        injection h with h1 _
        injection h1 with h1
        subst h1
        rw [frz_bl z] at e
        exact ⟨S1, e⟩
      · cases h
    · cases h
    · cases h
  · cases h
theorem pk_bl {C : Cal} {f : Nat} {ts : List T} {ds : List D} {S S' : Sto} {b : Bool} (hd : frzL (frz 9) S ds = some (ts, S')) (h : ∀ S, callD C true f (ts.map .t) S = .ok (.t (.bl b)) S) : pkD C f ds S = .ok (.t (.bl b)) S := by
  obtain ⟨S1, e⟩ := callD_bl (h [])
  exact pkD_s hd e rfl

/-! ### sorted ints -/
theorem asIntsR {S : Sto} {l : List Int} : (asList S (.t (.lst (l.map .int)))).bind intsD = some l := by
  show intsD ((l.map T.int).map D.t) = _
  rw [List.map_map]
  have := intsD_of (fun i : Int => i) l
  simpa [Function.comp_def] using this
theorem srt_ints (l : List Int) (S : Sto) : pBi false .sorted [.t (.lst (l.map .int))] S = .ok (.t (.lst ((srtI l).map .int))) S := by
  simp only [pBi, asIntsR]
  exact mkL_t (pls_of T.int (srtI l))
theorem srt_ext {l m : List Int} (h1 : l.Pairwise (· ≤ ·)) (h2 : m.Pairwise (· ≤ ·)) (n1 : l.Nodup) (n2 : m.Nodup) (e : ∀ x, x ∈ l ↔ x ∈ m) : l = m := srt_uniq ((List.perm_ext_iff_of_nodup n1 n2).mpr e) h1 h2
theorem srtDd {l m : List Int} (e : ∀ x, x ∈ l ↔ x ∈ m) : srtI (ddI l) = srtI (ddI m) :=
  srt_ext (srtI_srt _) (srtI_srt _) ((srtI_perm _).nodup_iff.mpr (ddI_nodup _)) ((srtI_perm _).nodup_iff.mpr (ddI_nodup _)) fun x => by
    rw [(srtI_perm _).mem_iff, (srtI_perm _).mem_iff, ddI_mem, ddI_mem]; exact e x
theorem ddI_len : ∀ l : List Int, (ddI l).length ≤ l.length
  | [] => Nat.le_refl _
  | a :: l => by
    show (if a ∈ ddI l then ddI l else a :: ddI l).length ≤ _
    have := ddI_len l
    split
    · rw [List.length_cons]; omega
    · rw [List.length_cons, List.length_cons]; omega
theorem sssR (l : List Int) (h : l.length ≤ 4000) (S : Sto) : pSss (.t (.lst (l.map .int))) S = .ok (.t (.lst ((srtI (ddI l)).map .int))) S := by
  unfold pSss
  rw [asIntsR]
  simp only
  rw [if_pos ⟨h, by have := ddI_len l; omega⟩]
  exact mkL_t (pls_of T.int _)

/-! ### the law's own walk, in plain words -/
abbrev mineF (xs : List I3) (t : Int) : List I3 := xs.filter fun h => decide (h.1 = t)
abbrev cutsF (m : List I3) : List Int := srtI (ddI (m.map (·.2.1) ++ m.map (·.2.2)))
def covB (m : List I3) (x : Int) : Bool := m.any fun h => decide (h.2.1 ≤ x ∧ x < h.2.2)
abbrev HS := Option Int × List I3
def hstep (m : List I3) (t : Int) (s : HS) (c : Int) : HS := match covB m c, s.1 with
  | true, none => (some c, s.2)
  | true, some b => (some b, s.2)
  | false, none => (none, s.2)
  | false, some b => (none, s.2 ++ [(t, b, c)])
def hone (xs : List I3) (acc : List I3) (t : Int) : List I3 := ((cutsF (mineF xs t)).foldl (hstep (mineF xs t) t) (none, acc)).2
def holesF (xs : List I3) : List I3 := ((srtI (ddI (xs.map (·.1)))).foldl (hone xs) []).mergeSort le3k
theorem covB_iff {m : List I3} {x : Int} : covB m x = true ↔ ∃ h ∈ m, h.2.1 ≤ x ∧ x < h.2.2 := by
  unfold covB
  rw [List.any_eq_true]
  simp only [decide_eq_true_eq]
theorem srtD_lt (l : List Int) : (srtI (ddI l)).Pairwise (· < ·) := by
  have h1 := srtI_srt (ddI l)
  have h2 : (srtI (ddI l)).Nodup := (srtI_perm _).nodup_iff.mpr (ddI_nodup _)
  have := List.Pairwise.and h1 h2
  exact this.imp fun {a b} h => by omega
theorem srtD_mem {l : List Int} {x : Int} : x ∈ srtI (ddI l) ↔ x ∈ l := by rw [(srtI_perm _).mem_iff, ddI_mem]
/-- what holds behind some cuts -/
structure HI (m : List I3) (t : Int) (a0 : List I3) (rest : List Int) (s : HS) : Prop where
  app : ∃ own, s.2 = a0 ++ own ∧ (∀ h ∈ own, h.1 = t ∧ h.2.1 < h.2.2) ∧ own.Pairwise (fun a b => a.2.2 < b.2.1) ∧ (∀ h ∈ own, ∀ b, s.1 = some b → h.2.2 < b) ∧ (∀ h ∈ own, ∀ c ∈ rest, h.2.2 < c) ∧
    ∀ x, (∀ c ∈ rest, x < c) → ((∃ h ∈ m, h.2.1 ≤ x ∧ x < h.2.2) ↔ (∃ h ∈ own, h.2.1 ≤ x ∧ x < h.2.2) ∨ ∃ b, s.1 = some b ∧ b ≤ x)
  beg : ∀ b, s.1 = some b → ∀ c ∈ rest, b < c
theorem HI.step {m : List I3} {t : Int} {a0 : List I3} {c : Int} {rest : List Int} {s : HS} (h : HI m t a0 (c :: rest) s) (hs : ∀ k ∈ rest, c < k) (hall : ∀ h ∈ m, (h.2.1 ≤ c ∨ h.2.1 ∈ rest) ∧ (h.2.2 ≤ c ∨ h.2.2 ∈ rest)) : HI m t a0 rest (hstep m t s c) := by
  obtain ⟨own, e, p1, p2, p3, p4, p5⟩ := h.app
  have beg := h.beg
  have const : ∀ x, c ≤ x → (∀ k ∈ rest, x < k) → ((∃ h ∈ m, h.2.1 ≤ x ∧ x < h.2.2) ↔ covB m c = true) := fun x hx hk => by
    rw [covB_iff]
    constructor
    · rintro ⟨g, hg, g1, g2⟩
      refine ⟨g, hg, ?_, by omega⟩
      rcases (hall g hg).1 with q | q
      · exact q
      · have := hk _ q; omega
    · rintro ⟨g, hg, g1, g2⟩
      refine ⟨g, hg, by omega, ?_⟩
      rcases (hall g hg).2 with q | q
      · omega
      · exact hk _ q
  have low : ∀ x, x < c → ((∃ h ∈ m, h.2.1 ≤ x ∧ x < h.2.2) ↔ (∃ h ∈ own, h.2.1 ≤ x ∧ x < h.2.2) ∨ ∃ b, s.1 = some b ∧ b ≤ x) := fun x hx => p5 x fun k hk => by
    rcases List.mem_cons.mp hk with e | hk
    · omega
    · have := hs k hk; omega
  have ownlt : ∀ g ∈ own, g.2.2 < c := fun g hg => p4 g hg c List.mem_cons_self
  have p4' : ∀ g ∈ own, ∀ k ∈ rest, g.2.2 < k := fun g hg k hk => p4 g hg k (List.mem_cons_of_mem _ hk)
  obtain ⟨b0, acc⟩ := s
  simp only at e beg p3 low
  subst e
  unfold hstep
  cases hc : covB m c with
  | true =>
    cases b0 with
    | none =>
      refine ⟨⟨own, rfl, p1, p2, fun g hg b e => by cases e; exact ownlt g hg, p4', fun x hx => ?_⟩, fun b e k hk => by cases e; exact hs k hk⟩
      by_cases q : c ≤ x
      · rw [const x q hx, hc]
        exact ⟨fun _ => .inr ⟨c, rfl, q⟩, fun _ => rfl⟩
      · rw [low x (by omega)]
        constructor
        · rintro (z | ⟨b, z, _⟩)
          · exact .inl z
          · cases z
        · rintro (z | ⟨b, z, z2⟩)
          · exact .inl z
          · cases z; exact absurd z2 q
    | some b =>
      refine ⟨⟨own, rfl, p1, p2, p3, p4', fun x hx => ?_⟩, fun b' e k hk => beg b' e k (List.mem_cons_of_mem _ hk)⟩
      by_cases q : c ≤ x
      · rw [const x q hx, hc]
        have := beg b rfl c List.mem_cons_self
        exact ⟨fun _ => .inr ⟨b, rfl, by omega⟩, fun _ => rfl⟩
      · exact low x (by omega)
  | false =>
    cases b0 with
    | none =>
      refine ⟨⟨own, rfl, p1, p2, fun g hg b e => (nomatch e), p4', fun x hx => ?_⟩, fun b e => nomatch e⟩
      by_cases q : c ≤ x
      · rw [const x q hx, hc]
        constructor
        · intro z; cases z
        · rintro (⟨g, hg, g1, g2⟩ | ⟨b, z, _⟩)
          · have := ownlt g hg; omega
          · cases z
      · exact low x (by omega)
    | some b =>
      have hb := beg b rfl c List.mem_cons_self
      refine ⟨⟨own ++ [(t, b, c)], by simp, fun g hg => ?_, ?_, fun g hg b e => (nomatch e), fun g hg k hk => ?_, fun x hx => ?_⟩, fun b e => nomatch e⟩
      · rcases List.mem_append.mp hg with hg | hg
        · exact p1 g hg
        · rw [List.mem_singleton.mp hg]; exact ⟨rfl, hb⟩
      · rw [List.pairwise_append]
        refine ⟨p2, List.pairwise_singleton _ _, fun a ha g hg => ?_⟩
        rw [List.mem_singleton.mp hg]
        exact p3 a ha b rfl
      · rcases List.mem_append.mp hg with hg | hg
        · exact p4' g hg k hk
        · rw [List.mem_singleton.mp hg]; exact hs k hk
      · by_cases q : c ≤ x
        · rw [const x q hx, hc]
          constructor
          · intro z; cases z
          · rintro (⟨g, hg, g1, g2⟩ | ⟨b, z, _⟩)
            · rcases List.mem_append.mp hg with hg | hg
              · have := ownlt g hg; omega
              · rw [List.mem_singleton.mp hg] at g2; simp only at g2; omega
            · cases z
        · rw [low x (by omega)]
          constructor
          · rintro (⟨g, hg, z⟩ | ⟨b', z, z2⟩)
            · exact .inl ⟨g, List.mem_append_left _ hg, z⟩
            · cases z
              exact .inl ⟨_, List.mem_append_right _ (List.mem_singleton.mpr rfl), z2, by simp only; omega⟩
          · rintro (⟨g, hg, g1, g2⟩ | ⟨b', z, _⟩)
            · rcases List.mem_append.mp hg with hg | hg
              · exact .inl ⟨g, hg, g1, g2⟩
              · rw [List.mem_singleton.mp hg] at g1 g2
                exact .inr ⟨b, rfl, g1⟩
            · cases z
theorem HI.all {m : List I3} {t : Int} {a0 : List I3} : ∀ {cs : List Int} {s : HS}, HI m t a0 cs s → cs.Pairwise (· < ·) → (∀ pre : List Int, (∀ h ∈ m, (h.2.1 ∈ pre ∨ h.2.1 ∈ cs) ∧ (h.2.2 ∈ pre ∨ h.2.2 ∈ cs)) → (∀ k ∈ pre, ∀ c ∈ cs, k < c) → HI m t a0 [] (cs.foldl (hstep m t) s))
  | [], s, h, _, _, _, _ => h
  | c :: cs, s, h, hp, pre, hm, hpre => by
    rw [List.pairwise_cons] at hp
    have h2 := h.step hp.1 fun g hg => by
      have q := hm g hg
      constructor
      · rcases q.1 with z | z
        · exact .inl (by have := hpre _ z c List.mem_cons_self; omega)
        · rcases List.mem_cons.mp z with z | z
          · exact .inl (by omega)
          · exact .inr z
      · rcases q.2 with z | z
        · exact .inl (by have := hpre _ z c List.mem_cons_self; omega)
        · rcases List.mem_cons.mp z with z | z
          · exact .inl (by omega)
          · exact .inr z
    refine HI.all (cs := cs) (s := hstep m t s c) h2 hp.2 (pre ++ [c]) (fun g hg => ?_) fun k hk d hd => ?_
    · have q := hm g hg
      constructor
      · rcases q.1 with z | z
        · exact .inl (List.mem_append_left _ z)
        · rcases List.mem_cons.mp z with z | z
          · exact .inl (List.mem_append_right _ (List.mem_singleton.mpr z))
          · exact .inr z
      · rcases q.2 with z | z
        · exact .inl (List.mem_append_left _ z)
        · rcases List.mem_cons.mp z with z | z
          · exact .inl (List.mem_append_right _ (List.mem_singleton.mpr z))
          · exact .inr z
    · rcases List.mem_append.mp hk with hk | hk
      · exact hpre k hk d (List.mem_cons_of_mem _ hd)
      · rw [List.mem_singleton.mp hk]; exact hp.1 d hd
/-- one track -/
theorem hone_ok {L : Int} {xs : List I3} (hx : ∀ x ∈ xs, HoleOk L x) (acc : List I3) (t : Int) : ∃ own, hone xs acc t = acc ++ own ∧ (∀ h ∈ own, h.1 = t ∧ h.2.1 < h.2.2) ∧ own.Pairwise (fun a b => a.2.2 < b.2.1) ∧ ∀ x, Cov own t x ↔ Cov xs t x := by
  have hm : ∀ h, h ∈ mineF xs t ↔ h ∈ xs ∧ h.1 = t := fun h => by rw [List.mem_filter, decide_eq_true_eq]
  have hc : ∀ h ∈ mineF xs t, h.2.1 ∈ cutsF (mineF xs t) ∧ h.2.2 ∈ cutsF (mineF xs t) := fun h hh => by
    constructor
    · exact srtD_mem.mpr (List.mem_append_left _ (List.mem_map.mpr ⟨h, hh, rfl⟩))
    · exact srtD_mem.mpr (List.mem_append_right _ (List.mem_map.mpr ⟨h, hh, rfl⟩))
  have h0 : HI (mineF xs t) t acc (cutsF (mineF xs t)) (none, acc) := ⟨⟨[], by simp, (fun _ h => nomatch h), .nil, (fun _ h => nomatch h), (fun _ h => nomatch h), fun x hx => ⟨fun ⟨h, hh, h1, _⟩ => by
    have := hx _ (hc h hh).1
    omega, fun z => by
    rcases z with ⟨h, hh, _⟩ | ⟨b, z, _⟩
    · cases hh
    · cases z⟩⟩, fun b z => nomatch z⟩
  have h1 := h0.all (srtD_lt _) [] (fun h hh => ⟨.inr (hc h hh).1, .inr (hc h hh).2⟩) (fun _ h => nomatch h)
  obtain ⟨own, e, p1, p2, p3, p4, p5⟩ := h1.app
  refine ⟨own, e, p1, p2, fun x => ?_⟩
  generalize (cutsF (mineF xs t)).foldl (hstep (mineF xs t) t) (none, acc) = s at *
  have hn : ∀ b, s.1 ≠ some b := fun b z => by
    have q := (p5 (max b L) (fun _ h => nomatch h)).mpr (.inr ⟨b, z, by omega⟩)
    obtain ⟨g, hg, g1, g2⟩ := q
    have := hx g ((hm g).mp hg).1
    unfold HoleOk at this
    omega
  have q := p5 x (fun _ h => nomatch h)
  constructor
  · rintro ⟨h, hh, e1, e2⟩
    obtain ⟨g, hg, g1⟩ := q.mpr (.inl ⟨h, hh, e2⟩)
    have := (hm g).mp hg
    exact ⟨g, this.1, this.2, g1⟩
  · rintro ⟨h, hh, e1, e2⟩
    rcases q.mp ⟨h, (hm h).mpr ⟨hh, e1⟩, e2⟩ with ⟨g, hg, g1⟩ | ⟨b, z, _⟩
    · exact ⟨g, hg, (p1 g hg).1, g1⟩
    · exact absurd z (hn b)
theorem holes_all {L : Int} {xs : List I3} (hx : ∀ x ∈ xs, HoleOk L x) : ∀ (ts : List Int) (acc : List I3) (done : List Int), ts.Nodup → (∀ t ∈ done, t ∉ ts) → (∀ h ∈ acc, h.1 ∈ done ∧ h.2.1 < h.2.2) → (acc.Pairwise fun a b => a.1 ≠ b.1 ∨ a.2.2 < b.2.1) → (∀ t ∈ done, ∀ x, Cov acc t x ↔ Cov xs t x) →
    (∀ h ∈ ts.foldl (hone xs) acc, h.1 ∈ done ++ ts ∧ h.2.1 < h.2.2) ∧ ((ts.foldl (hone xs) acc).Pairwise fun a b => a.1 ≠ b.1 ∨ a.2.2 < b.2.1) ∧ ∀ t ∈ done ++ ts, ∀ x, Cov (ts.foldl (hone xs) acc) t x ↔ Cov xs t x
  | [], acc, done, _, _, h1, h2, h3 => by
    rw [List.append_nil]
    exact ⟨h1, h2, h3⟩
  | t :: ts, acc, done, nd, hd, h1, h2, h3 => by
    rw [List.nodup_cons] at nd
    obtain ⟨own, e, p1, p2, p3⟩ := hone_ok hx acc t
    have ht : t ∉ done := fun z => hd t z List.mem_cons_self
    have q := holes_all hx ts (acc ++ own) (done ++ [t]) nd.2 (fun k hk => by
      rcases List.mem_append.mp hk with hk | hk
      · exact fun z => hd k hk (List.mem_cons_of_mem _ z)
      · rw [List.mem_singleton.mp hk]; exact nd.1) (fun h hh => by
      rcases List.mem_append.mp hh with hh | hh
      · exact ⟨List.mem_append_left _ (h1 h hh).1, (h1 h hh).2⟩
      · exact ⟨List.mem_append_right _ (List.mem_singleton.mpr (p1 h hh).1), (p1 h hh).2⟩) (by
      rw [List.pairwise_append]
      refine ⟨h2, p2.imp fun {a b} z => .inr z, fun a ha b hb => .inl fun z => ?_⟩
      have := (h1 a ha).1
      rw [z, (p1 b hb).1] at this
      exact ht this) (fun k hk x => by
      have split : Cov (acc ++ own) k x ↔ Cov acc k x ∨ Cov own k x := ⟨fun ⟨h, hh, z⟩ => (List.mem_append.mp hh).imp (fun q => ⟨h, q, z⟩) (fun q => ⟨h, q, z⟩), fun z => by
        rcases z with ⟨h, hh, z⟩ | ⟨h, hh, z⟩
        · exact ⟨h, List.mem_append_left _ hh, z⟩
        · exact ⟨h, List.mem_append_right _ hh, z⟩⟩
      rw [split]
      rcases List.mem_append.mp hk with hk | hk
      · rw [← h3 k hk x]
        refine ⟨fun z => z.elim id fun ⟨h, hh, z1, _⟩ => ?_, .inl⟩
        rw [(p1 h hh).1] at z1
        exact absurd (z1 ▸ hk) ht
      · rw [List.mem_singleton.mp hk, ← p3 x]
        refine ⟨fun z => z.elim (fun ⟨h, hh, z1, _⟩ => ?_) id, .inr⟩
        have := (h1 h hh).1
        rw [z1] at this
        exact absurd this ht)
    rw [List.foldl_cons, e]
    rw [List.append_assoc] at q
    exact q
/-- sorted by their first ticks: a roll's holes -/
theorem RollOk.ofSort {l : List I3} (pos : ∀ h ∈ l, h.2.1 < h.2.2) (pw : l.Pairwise fun a b => a.1 ≠ b.1 ∨ a.2.2 < b.2.1) : RollOk (l.mergeSort le3k) := by
  have mem : ∀ z, z ∈ l.mergeSort le3k ↔ z ∈ l := fun z => (List.mergeSort_perm _ _).mem_iff
  have sep : ∀ a ∈ l, ∀ b ∈ l, a.1 = b.1 → a = b ∨ a.2.2 < b.2.1 ∨ b.2.2 < a.2.1 := by
    clear mem
    induction l with
    | nil => intro a ha; cases ha
    | cons c l ih =>
      rw [List.pairwise_cons] at pw
      intro a ha b hb e
      rcases List.mem_cons.mp ha with ea | ha' <;> rcases List.mem_cons.mp hb with eb | hb'
      · exact .inl (ea.trans eb.symm)
      · subst ea
        rcases pw.1 b hb' with z | z
        · exact absurd e z
        · exact .inr (.inl z)
      · subst eb
        rcases pw.1 a ha' with z | z
        · exact absurd e.symm z
        · exact .inr (.inr z)
      · exact ih (fun h hh => pos h (List.mem_cons_of_mem _ hh)) pw.2 a ha' b hb' e
  have nd : l.Nodup := by
    clear mem sep
    induction l with
    | nil => exact List.nodup_nil
    | cons c l ih =>
      rw [List.pairwise_cons] at pw
      refine List.nodup_cons.mpr ⟨fun hm => ?_, ih (fun h hh => pos h (List.mem_cons_of_mem _ hh)) pw.2⟩
      have := pos c List.mem_cons_self
      rcases pw.1 c hm with z | z
      · exact z rfl
      · omega
  have nd2 : (l.mergeSort le3k).Nodup := (List.mergeSort_perm _ _).nodup_iff.mpr nd
  refine ⟨?_, fun z hz => pos z ((mem z).mp hz), fun a ha b hb => sep a ((mem a).mp ha) b ((mem b).mp hb)⟩
  have s1 := le3k_srt l
  have key : ∀ k : List I3, k.Nodup → (∀ z ∈ k, z ∈ l) → k.Pairwise (fun a b => le3k a b = true) → k.Pairwise fun a b => a.2.1 < b.2.1 ∨ (a.2.1 = b.2.1 ∧ a.1 < b.1) := by
    intro k
    induction k with
    | nil => intro _ _ _; exact .nil
    | cons a k ih =>
      intro nd hm hp
      rw [List.pairwise_cons] at hp ⊢
      rw [List.nodup_cons] at nd
      refine ⟨fun b hb => ?_, ih nd.2 (fun z hz => hm z (List.mem_cons_of_mem _ hz)) hp.2⟩
      have q := hp.1 b hb
      unfold le3k at q
      rw [decide_eq_true_eq] at q
      rcases q with q | q
      · exact .inl q
      · refine .inr ⟨q.1, ?_⟩
        rcases Int.lt_or_eq_of_le q.2 with c | c
        · exact c
        · exfalso
          have pa := pos a (hm a List.mem_cons_self)
          have pb := pos b (hm b (List.mem_cons_of_mem _ hb))
          rcases sep a (hm a List.mem_cons_self) b (hm b (List.mem_cons_of_mem _ hb)) c with e | e | e
          · exact nd.1 (e ▸ hb)
          · omega
          · omega
  exact key _ nd2 (fun z hz => (mem z).mp hz) s1
/-- the law's holes are the roll's -/
theorem holesF_eq {L : Int} {xs : List I3} (hx : ∀ x ∈ xs, HoleOk L x) : holesF xs = rollF xs := by
  have hp : ∀ x ∈ xs, x.2.1 < x.2.2 := fun x h => (hx x h).2.2.1
  obtain ⟨h1, h2, h3⟩ := holes_all hx (srtI (ddI (xs.map (·.1)))) [] [] ((srtD_lt _).imp fun {a b} h e => by omega) (fun _ h => nomatch h) (fun _ h => nomatch h) .nil (fun _ h => nomatch h)
  refine (RollOk.ofSort (fun h hh => (h1 h hh).2) h2).uniq (roll_ok hp) fun t x => ?_
  rw [roll_cov hp]
  have e1 : Cov (holesF xs) t x ↔ Cov ((srtI (ddI (xs.map (·.1)))).foldl (hone xs) []) t x := ⟨fun ⟨z, hz, e⟩ => ⟨z, (List.mergeSort_perm _ _).mem_iff.mp hz, e⟩, fun ⟨z, hz, e⟩ => ⟨z, (List.mergeSort_perm _ _).mem_iff.mpr hz, e⟩⟩
  refine e1.trans ?_
  by_cases q : t ∈ srtI (ddI (xs.map (·.1)))
  · exact h3 t (by simpa using q) x
  · constructor
    · rintro ⟨h, hh, z, _⟩
      have := (h1 h hh).1
      rw [z] at this
      exact absurd (by simpa using this) q
    · rintro ⟨h, hh, z, _⟩
      exact absurd (srtD_mem.mpr (List.mem_map.mpr ⟨h, hh, z⟩)) q

theorem cut_leR {α : Type} (l : List α) (a b : Option Int) : (cut l a b).length ≤ l.length := by
  unfold cut
  first | (simp; omega) | simp
theorem c_cellat (n : Nat) (ns : List Int) (k : Int) (hk : 0 ≤ k) : ∃ c : Int, ∀ S, callD (cal BT PD (n + 1)) true f__law_cell_at [.t (.scr ns), I k] S = .ok (I c) S := by
  have ln : ∀ S, pBi false .len [.t (.scr ns)] S = .ok (I (ns.length : Nat)) S := fun _ => rfl
  by_cases h : k < (ns.length : Nat)
  · have ix : ∀ S, pIdx (.t (.scr ns)) (I k) S = .ok (I (ns[k.toNat]'(by omega))) S := fun S => by
      show opt ((ixAt ns k).map fun n => D.t (.int n)) S = _
      unfold ixAt
      rw [if_pos hk, List.getElem?_eq_getElem (by omega)]; rfl
    refine ⟨ns[k.toNat]'(by omega), fun S => cl2 (t := T.int (ns[k.toNat]'(by omega))) ?_⟩
    rw [r_def (d := ⟨2, 2, b__law_cell_at⟩) rfl rfl]
    simp -implicitDefEqProofs only [b__law_cell_at, List.map_cons, List.map_nil, List.length_cons, List.length_nil, List.replicate, List.cons_append, List.nil_append, s_tr, tr_nx, tr_rt, tr_ex, s_rse, ex_ex, s_asg, asg_ok, s_ex, ex_ok, s_ret, ret_ok, s_retN, s_brk, s_cnt, s_pas, s_ite, ite_t, ite_f, s_fo, s_nil, s_cons, sq_nx, sq_rt, sq_bk, sq_ct, sq_ex, tel_nx, tel_rt, tel_ex, e_v, oj_s, e_c, e_g, e_nop, e_one, e_bin, e_cmp, e_idx, two_ok, twoJ_ok, e_and, and_t, and_f, e_or, or_t, or_f, e_ite, iteE_t, iteE_f, e_not, not_b, e_ch2, ch2I_ok, ch2J_ok, ch2K_t, ch2K_f, e_ch3, ch3I_ok, ch3J_ok, ch3K_t, ch3K_f, e_tup, e_lst, e_bi, e_call, lsI_ok, e_dct, dct_ok, ps_nil, ps_cons, psI_ok, psK_ok, e_sl, slI_ok, e_sl3, e_sss, ssI_ok, e_lss, lssI_ok, s3I_ok, s3J_c, s3J_n, s3K_c, s3K_n, e_isi, e_lc, lcJ_ok, e_bm, bmJ_ok, e_att, attI_ok, e_mth, mthI_ok, e_pk, e_cfn, calDd_s, ckwI_ok, ckwJ_ok, e_mpk, mpkI_ok, e_mthd, mtdI_ok, e_its, e_lrg, lrgI_ok, e_eqt, eqtI_ok, e_iso, isoI_ok, s_sta, staI_ok, staJ_ok, s_sti, stiI_ok, stiJ_ok, stiK_ok, nxO_s, s_wh, callD_f, es_nil, es_cons, esI_ok, esJ_ok, pAddI, pSubI, List.getElem?_cons_zero, List.getElem?_cons_succ, List.set_cons_zero, List.set_cons_succ, Bool.not_true, Bool.not_false, ln, pLt, decide_eq_true h, ix]
  · refine ⟨0, fun S => cl2 (t := T.int 0) ?_⟩
    rw [r_def (d := ⟨2, 2, b__law_cell_at⟩) rfl rfl]
    simp -implicitDefEqProofs only [b__law_cell_at, List.map_cons, List.map_nil, List.length_cons, List.length_nil, List.replicate, List.cons_append, List.nil_append, s_tr, tr_nx, tr_rt, tr_ex, s_rse, ex_ex, s_asg, asg_ok, s_ex, ex_ok, s_ret, ret_ok, s_retN, s_brk, s_cnt, s_pas, s_ite, ite_t, ite_f, s_fo, s_nil, s_cons, sq_nx, sq_rt, sq_bk, sq_ct, sq_ex, tel_nx, tel_rt, tel_ex, e_v, oj_s, e_c, e_g, e_nop, e_one, e_bin, e_cmp, e_idx, two_ok, twoJ_ok, e_and, and_t, and_f, e_or, or_t, or_f, e_ite, iteE_t, iteE_f, e_not, not_b, e_ch2, ch2I_ok, ch2J_ok, ch2K_t, ch2K_f, e_ch3, ch3I_ok, ch3J_ok, ch3K_t, ch3K_f, e_tup, e_lst, e_bi, e_call, lsI_ok, e_dct, dct_ok, ps_nil, ps_cons, psI_ok, psK_ok, e_sl, slI_ok, e_sl3, e_sss, ssI_ok, e_lss, lssI_ok, s3I_ok, s3J_c, s3J_n, s3K_c, s3K_n, e_isi, e_lc, lcJ_ok, e_bm, bmJ_ok, e_att, attI_ok, e_mth, mthI_ok, e_pk, e_cfn, calDd_s, ckwI_ok, ckwJ_ok, e_mpk, mpkI_ok, e_mthd, mtdI_ok, e_its, e_lrg, lrgI_ok, e_eqt, eqtI_ok, e_iso, isoI_ok, s_sta, staI_ok, staJ_ok, s_sti, stiI_ok, stiJ_ok, stiK_ok, nxO_s, s_wh, callD_f, es_nil, es_cons, esI_ok, esJ_ok, pAddI, pSubI, List.getElem?_cons_zero, List.getElem?_cons_succ, List.set_cons_zero, List.set_cons_succ, Bool.not_true, Bool.not_false, ln, pLt, decide_eq_false h]
theorem p10_18 (S : Sto) : pBin false .Pow (I 10) (I 18) S = .ok (I 1000000000000000000) S := by rw [pPow (by unfold powOk; decide)]; rfl
theorem p10_13 (S : Sto) : pBin false .Pow (I 10) (I 13) S = .ok (I 10000000000000) S := by rw [pPow (by unfold powOk; decide)]; rfl
theorem p10_12 (S : Sto) : pBin false .Pow (I 10) (I 12) S = .ok (I 1000000000000) S := by rw [pPow (by unfold powOk; decide)]; rfl
theorem dv13 (x : Int) (S : Sto) : pBin false .FloorDiv (I x) (I 10000000000000) S = .ok (I (x / 10000000000000)) S := by
  simp only [pBin]; rw [if_pos (by unfold divOk; decide)]
theorem mix_lp (n : Nat) (C B M : Option D) : ∀ (l : List Nat) (g : Int) (x4 : Option D), ∃ (g' : Int) (x4' : Option D), foL (.v 4) (evSs BT (cal BT PD n) b__law_mix_1) (l.map fun i => NI i) [C, B, M, some (I g), x4, none, none] [] = .nx [C, B, M, some (I g'), x4', none, none] []
  | [], g, x4 => ⟨g, x4, rfl⟩
  | i :: l, g, x4 => by
    obtain ⟨g', x4', e⟩ := mix_lp n C B M l (g / 10000000000000) (some (NI i))
    refine ⟨g', x4', Eq.trans ?_ e⟩
    rw [List.map_cons, fo_cons, setP_v, foA_s]
    have body : evSs BT (cal BT PD n) b__law_mix_1 [C, B, M, some (I g), some (NI i), none, none] [] = .nx [C, B, M, some (I (g / 10000000000000)), some (NI i), none, none] [] := by
      rw [b__law_mix_1]
      simp -implicitDefEqProofs only [s_tr, tr_nx, tr_rt, tr_ex, s_rse, ex_ex, s_asg, asg_ok, s_ex, ex_ok, s_ret, ret_ok, s_retN, s_brk, s_cnt, s_pas, s_ite, ite_t, ite_f, s_fo, s_nil, s_cons, sq_nx, sq_rt, sq_bk, sq_ct, sq_ex, tel_nx, tel_rt, tel_ex, e_v, oj_s, e_c, e_g, e_nop, e_one, e_bin, e_cmp, e_idx, two_ok, twoJ_ok, e_and, and_t, and_f, e_or, or_t, or_f, e_ite, iteE_t, iteE_f, e_not, not_b, e_ch2, ch2I_ok, ch2J_ok, ch2K_t, ch2K_f, e_ch3, ch3I_ok, ch3J_ok, ch3K_t, ch3K_f, e_tup, e_lst, e_bi, e_call, lsI_ok, e_dct, dct_ok, ps_nil, ps_cons, psI_ok, psK_ok, e_sl, slI_ok, e_sl3, e_sss, ssI_ok, e_lss, lssI_ok, s3I_ok, s3J_c, s3J_n, s3K_c, s3K_n, e_isi, e_lc, lcJ_ok, e_bm, bmJ_ok, e_att, attI_ok, e_mth, mthI_ok, e_pk, e_cfn, calDd_s, ckwI_ok, ckwJ_ok, e_mpk, mpkI_ok, e_mthd, mtdI_ok, e_its, e_lrg, lrgI_ok, e_eqt, eqtI_ok, e_iso, isoI_ok, s_sta, staI_ok, staJ_ok, s_sti, stiI_ok, stiJ_ok, stiK_ok, nxO_s, s_wh, callD_f, es_nil, es_cons, esI_ok, esJ_ok, pAddI, pSubI, List.getElem?_cons_zero, List.getElem?_cons_succ, List.set_cons_zero, List.set_cons_succ, Bool.not_true, Bool.not_false, p10_13, dv13, setP_v, List.set_cons_zero, List.set_cons_succ]
    simp only [List.set_cons_zero, List.set_cons_succ]
    rw [body, foB_nx]
theorem c_mix (n : Nat) (c b m : Int) (hb : 0 ≤ b ∧ b ≤ 1000000) (hm : 0 < m) : ∃ r : Int, (0 ≤ r ∧ r < m) ∧ ∀ S, callD (cal BT PD (n + 1)) true f__law_mix [I c, I b, I m] S = .ok (I r) S := by
  have m0 : ∀ (x : Int) S, pBin false .Mod (I x) (I m) S = .ok (I (x % m)) S := fun x S => pMod hm
  by_cases h : (1000000000000000000 : Int) ≤ c
  · have m1 : ∀ S, pBin false .Mod (I c) (I 10080) S = .ok (I (c % 10080)) S := fun S => pMod (by decide)
    have m2 : ∀ (x : Int) S, pBin false .Mod (I x) (I 29) S = .ok (I (x % 29)) S := fun x S => pMod (by decide)
    have m3 : ∀ (x : Int) S, pBin false .Mod (I x) (I 10000000000000) S = .ok (I (x % 10000000000000)) S := fun x S => pMod (by decide)
    have d1 : ∀ S, pBin false .FloorDiv (I c) (I 10080) S = .ok (I (c / 10080)) S := fun S => pDiv (by decide) (by decide)
    have it : ∀ S, itemsOf .rng [I ((b + c % 10080) % 29)] S = some ((List.range ((b + c % 10080) % 29).toNat).map fun (i : Nat) => NI i) := fun S => itR_s (by omega) (by omega)
    obtain ⟨g, x4, e⟩ := mix_lp n (some (I c)) (some (I b)) (some (I m)) (List.range ((b + c % 10080) % 29).toNat) (c / 10080) none
    refine ⟨g % 10000000000000 % m, ⟨Int.emod_nonneg _ (by omega), Int.emod_lt_of_pos _ hm⟩, fun S => cl3 ?_⟩
    rw [r_def (d := ⟨3, 7, b__law_mix⟩) rfl rfl]
    simp -implicitDefEqProofs only [b__law_mix, List.map_cons, List.map_nil, List.length_cons, List.length_nil, List.replicate, List.cons_append, List.nil_append, s_tr, tr_nx, tr_rt, tr_ex, s_rse, ex_ex, s_asg, asg_ok, s_ex, ex_ok, s_ret, ret_ok, s_retN, s_brk, s_cnt, s_pas, s_ite, ite_t, ite_f, s_fo, s_nil, s_cons, sq_nx, sq_rt, sq_bk, sq_ct, sq_ex, tel_nx, tel_rt, tel_ex, e_v, oj_s, e_c, e_g, e_nop, e_one, e_bin, e_cmp, e_idx, two_ok, twoJ_ok, e_and, and_t, and_f, e_or, or_t, or_f, e_ite, iteE_t, iteE_f, e_not, not_b, e_ch2, ch2I_ok, ch2J_ok, ch2K_t, ch2K_f, e_ch3, ch3I_ok, ch3J_ok, ch3K_t, ch3K_f, e_tup, e_lst, e_bi, e_call, lsI_ok, e_dct, dct_ok, ps_nil, ps_cons, psI_ok, psK_ok, e_sl, slI_ok, e_sl3, e_sss, ssI_ok, e_lss, lssI_ok, s3I_ok, s3J_c, s3J_n, s3K_c, s3K_n, e_isi, e_lc, lcJ_ok, e_bm, bmJ_ok, e_att, attI_ok, e_mth, mthI_ok, e_pk, e_cfn, calDd_s, ckwI_ok, ckwJ_ok, e_mpk, mpkI_ok, e_mthd, mtdI_ok, e_its, e_lrg, lrgI_ok, e_eqt, eqtI_ok, e_iso, isoI_ok, s_sta, staI_ok, staJ_ok, s_sti, stiI_ok, stiJ_ok, stiK_ok, nxO_s, s_wh, callD_f, es_nil, es_cons, esI_ok, esJ_ok, pAddI, pSubI, List.getElem?_cons_zero, List.getElem?_cons_succ, List.set_cons_zero, List.set_cons_succ, Bool.not_true, Bool.not_false, p10_18, pGe, decide_eq_true h, d1, m1, m2, fo_ok (it _), setP_v, List.set_cons_zero, List.set_cons_succ, e, p10_13, m3, m0]
  · have m1 : ∀ S, pBin false .Mod (I c) (I 1000003) S = .ok (I (c % 1000003)) S := fun S => pMod (by decide)
    have m2 : ∀ (x : Int) S, pBin false .Mult (I x) (I 48271) S = .ok (I (x * 48271)) S := fun x S => pMulR (by decide) (by decide)
    have m3 : ∀ (x : Int) S, pBin false .Mod (I x) (I 2147483647) S = .ok (I (x % 2147483647)) S := fun x S => pMod (by decide)
    have m4 : ∀ (x : Int) S, pBin false .Mod (I x) (I 2147483629) S = .ok (I (x % 2147483629)) S := fun x S => pMod (by decide)
    have m5 : ∀ (x : Int) S, pBin false .Mod (I x) (I 2147483587) S = .ok (I (x % 2147483587)) S := fun x S => pMod (by decide)
    have m6 : ∀ (x : Int) S, pBin false .Mult (I x) (I 2147483647) S = .ok (I (x * 2147483647)) S := fun x S => pMulR (by decide) (by decide)
    have d1 : ∀ (x : Int) S, pBin false .FloorDiv (I x) (I 64) S = .ok (I (x / 64)) S := fun x S => pDiv (by decide) (by decide)
    generalize ho : (c % 1000003 + b) * 48271 % 2147483647 = o
    have hob : 0 ≤ o ∧ o < 2147483647 := by rw [← ho]; exact ⟨Int.emod_nonneg _ (by decide), Int.emod_lt_of_pos _ (by decide)⟩
    generalize ht : (o * o + b) % 2147483629 = t
    have m7 : ∀ S, pBin false .Mult (I o) (I o) S = .ok (I (o * o)) S := fun S => pMulR (by omega) (by omega)
    have m8 : ∀ S, pBin false .Mult (I t) (I o) S = .ok (I (t * o)) S := fun S => pMulR (by omega) (by omega)
    refine ⟨(t * 2147483647 + t * o % 2147483587) / 64 % m, ⟨Int.emod_nonneg _ (by omega), Int.emod_lt_of_pos _ hm⟩, fun S => cl3 ?_⟩
    rw [r_def (d := ⟨3, 7, b__law_mix⟩) rfl rfl]
    simp -implicitDefEqProofs only [b__law_mix, List.map_cons, List.map_nil, List.length_cons, List.length_nil, List.replicate, List.cons_append, List.nil_append, s_tr, tr_nx, tr_rt, tr_ex, s_rse, ex_ex, s_asg, asg_ok, s_ex, ex_ok, s_ret, ret_ok, s_retN, s_brk, s_cnt, s_pas, s_ite, ite_t, ite_f, s_fo, s_nil, s_cons, sq_nx, sq_rt, sq_bk, sq_ct, sq_ex, tel_nx, tel_rt, tel_ex, e_v, oj_s, e_c, e_g, e_nop, e_one, e_bin, e_cmp, e_idx, two_ok, twoJ_ok, e_and, and_t, and_f, e_or, or_t, or_f, e_ite, iteE_t, iteE_f, e_not, not_b, e_ch2, ch2I_ok, ch2J_ok, ch2K_t, ch2K_f, e_ch3, ch3I_ok, ch3J_ok, ch3K_t, ch3K_f, e_tup, e_lst, e_bi, e_call, lsI_ok, e_dct, dct_ok, ps_nil, ps_cons, psI_ok, psK_ok, e_sl, slI_ok, e_sl3, e_sss, ssI_ok, e_lss, lssI_ok, s3I_ok, s3J_c, s3J_n, s3K_c, s3K_n, e_isi, e_lc, lcJ_ok, e_bm, bmJ_ok, e_att, attI_ok, e_mth, mthI_ok, e_pk, e_cfn, calDd_s, ckwI_ok, ckwJ_ok, e_mpk, mpkI_ok, e_mthd, mtdI_ok, e_its, e_lrg, lrgI_ok, e_eqt, eqtI_ok, e_iso, isoI_ok, s_sta, staI_ok, staJ_ok, s_sti, stiI_ok, stiJ_ok, stiK_ok, nxO_s, s_wh, callD_f, es_nil, es_cons, esI_ok, esJ_ok, pAddI, pSubI, List.getElem?_cons_zero, List.getElem?_cons_succ, List.set_cons_zero, List.set_cons_succ, Bool.not_true, Bool.not_false, p10_18, pGe, decide_eq_false h, m1, m2, m3, ho, m7, m4, ht, m6, m8, m5, d1, m0, setP_v, List.set_cons_zero, List.set_cons_succ]
theorem c_length (n : Nat) (c : Int) : ∃ L : Int, (0 ≤ L ∧ L ≤ 1000000000000) ∧ ∀ S, callD (cal BT PD (n + 2)) true f__law_length [I c] S = .ok (I L) S := by
  obtain ⟨r1, h1, k1⟩ := c_mix n c 31541 40 (by decide) (by decide)
  obtain ⟨r2, h2, k2⟩ := c_mix n c 44621 3 (by decide) (by decide)
  obtain ⟨r3, h3, k3⟩ := c_mix n c 55051 300 (by decide) (by decide)
  obtain ⟨r4, h4, k4⟩ := c_mix n c 27437 4 (by decide) (by decide)
  have d1 : ∀ S, pBin false .FloorDiv (I c) (I 3) S = .ok (I (c / 3)) S := fun S => pDiv (by decide) (by decide)
  have m1 : ∀ (x : Int) S, pBin false .Mod (I x) (I (1000000000000 + 1)) S = .ok (I (x % (1000000000000 + 1))) S := fun x S => pMod (by decide)
  have b1 : 0 ≤ c / 3 % (1000000000000 + 1) ∧ c / 3 % (1000000000000 + 1) < 1000000000000 + 1 := ⟨Int.emod_nonneg _ (by decide), Int.emod_lt_of_pos _ (by decide)⟩
  generalize hv : c / 3 % (1000000000000 + 1) = v at b1
  obtain ⟨L, hL, ix⟩ : ∃ L : Int, (0 ≤ L ∧ L ≤ 1000000000000) ∧ ∀ S, pIdx (.t (.lst [.int (1 + r1), .int (1000000000000 - r2), .int v, .int (2 + r3)])) (I r4) S = .ok (I L) S := by
    have : r4 = 0 ∨ r4 = 1 ∨ r4 = 2 ∨ r4 = 3 := by omega
    rcases this with e | e | e | e <;> subst e
    · exact ⟨1 + r1, by omega, fun _ => rfl⟩
    · exact ⟨1000000000000 - r2, by omega, fun _ => rfl⟩
    · exact ⟨v, by omega, fun _ => rfl⟩
    · exact ⟨2 + r3, by omega, fun _ => rfl⟩
  have ad : ∀ S, pBin false .Add (.t (.lst [.int (1 + r1), .int (1000000000000 - r2), .int v])) (.t (.lst [.int (2 + r3)])) S = .ok (.t (.lst [.int (1 + r1), .int (1000000000000 - r2), .int v, .int (2 + r3)])) S := fun S => by rw [pAddL_s (by simp)]; rfl
  refine ⟨L, hL, fun S => cl1 ?_⟩
  rw [r_def (d := ⟨1, 2, b__law_length⟩) rfl rfl]
  simp -implicitDefEqProofs only [b__law_length, List.map_cons, List.map_nil, List.length_cons, List.length_nil, List.replicate, List.cons_append, List.nil_append, s_tr, tr_nx, tr_rt, tr_ex, s_rse, ex_ex, s_asg, asg_ok, s_ex, ex_ok, s_ret, ret_ok, s_retN, s_brk, s_cnt, s_pas, s_ite, ite_t, ite_f, s_fo, s_nil, s_cons, sq_nx, sq_rt, sq_bk, sq_ct, sq_ex, tel_nx, tel_rt, tel_ex, e_v, oj_s, e_c, e_g, e_nop, e_one, e_bin, e_cmp, e_idx, two_ok, twoJ_ok, e_and, and_t, and_f, e_or, or_t, or_f, e_ite, iteE_t, iteE_f, e_not, not_b, e_ch2, ch2I_ok, ch2J_ok, ch2K_t, ch2K_f, e_ch3, ch3I_ok, ch3J_ok, ch3K_t, ch3K_f, e_tup, e_lst, e_bi, e_call, lsI_ok, e_dct, dct_ok, ps_nil, ps_cons, psI_ok, psK_ok, e_sl, slI_ok, e_sl3, e_sss, ssI_ok, e_lss, lssI_ok, s3I_ok, s3J_c, s3J_n, s3K_c, s3K_n, e_isi, e_lc, lcJ_ok, e_bm, bmJ_ok, e_att, attI_ok, e_mth, mthI_ok, e_pk, e_cfn, calDd_s, ckwI_ok, ckwJ_ok, e_mpk, mpkI_ok, e_mthd, mtdI_ok, e_its, e_lrg, lrgI_ok, e_eqt, eqtI_ok, e_iso, isoI_ok, s_sta, staI_ok, staJ_ok, s_sti, stiI_ok, stiJ_ok, stiK_ok, nxO_s, s_wh, callD_f, es_nil, es_cons, esI_ok, esJ_ok, pAddI, pSubI, List.getElem?_cons_zero, List.getElem?_cons_succ, List.set_cons_zero, List.set_cons_succ, Bool.not_true, Bool.not_false, k1, k2, k3, k4, p10_12, d1, m1, hv, mkL_s, pls_cs, pls_nl, plC_s, mlI_s, ad, ix, setP_v, List.set_cons_zero, List.set_cons_succ]
theorem ixI {l : List Int} {i : Int} (h0 : 0 ≤ i) (h1 : i < l.length) (S : Sto) : pIdx (.t (.lst (l.map .int))) (I i) S = .ok (I (l[i.toNat]'(by omega))) S := by
  show (match seqOf S (.t (.lst (l.map .int))) with | some xs => opt (ixAt xs i) S | none => .no) = _
  show opt (ixAt ((l.map T.int).map D.t) i) S = _
  unfold ixAt
  rw [if_pos h0, List.getElem?_map, List.getElem?_map, List.getElem?_eq_getElem (by omega)]
  rfl
theorem sssRf {S : Sto} {k : Nat} {l : List Int} (h : S[k]? = some (.lst (l.map fun i => I i))) (hl : l.length ≤ 4000) : pSss (.ref k) S = .ok (.t (.lst ((srtI (ddI l)).map .int))) S := by
  have e : (asList S (.ref k)).bind intsD = some l := by
    have : asList S (.ref k) = some (l.map fun i => I i) := by unfold asList; simp only [h]
    rw [this]
    have := intsD_of (fun i : Int => i) l
    simpa using this
  unfold pSss
  rw [e]
  simp only
  rw [if_pos ⟨hl, by have := ddI_len l; omega⟩]
  exact mkL_t (pls_of T.int _)
theorem pts_lp (n : Nat) (L c : Int) (hL : 0 ≤ L ∧ L ≤ 1000000000000) : ∀ (ks : List Nat) (l : List Int) (x3 x4 : Option D), (∀ p ∈ l, 0 ≤ p ∧ p ≤ L) → l.length + 2 * ks.length ≤ 1000 →
    ∃ (l' : List Int) (x3' x4' : Option D), (∀ p ∈ l, p ∈ l') ∧ (∀ p ∈ l', 0 ≤ p ∧ p ≤ L) ∧ l'.length = l.length + 2 * ks.length ∧
      foL (.v 3) (evSs BT (cal BT PD (n + 1)) b__law_points_1) (ks.map fun i => NI i) [some (I L), some (I c), some (.ref 0), x3, x4] [.lst (l.map fun i => I i)] = .nx [some (I L), some (I c), some (.ref 0), x3', x4'] [.lst (l'.map fun i => I i)]
  | [], l, x3, x4, h, _ => ⟨l, x3, x4, fun _ h => h, h, rfl, rfl⟩
  | k :: ks, l, x3, x4, h, hl => by
    rw [List.length_cons] at hl
    obtain ⟨r, hr, kr⟩ := c_mix n (c + 37 * (k : Int)) 48271 1000003 (by decide) (by decide)
    have m1 : ∀ S, pBin false .Mult (I 37) (NI k) S = .ok (I (37 * (k : Int))) S := fun S => pMulL (by decide) (by decide)
    have d1 : ∀ S, pBin false .FloorDiv (I L) (I 1000003) S = .ok (I (L / 1000003)) S := fun S => pDiv (by decide) (by decide)
    have m2 : ∀ (x : Int) S, pBin false .Mult (I r) (I x) S = .ok (I (r * x)) S := fun x S => pMulL (by omega) (by omega)
    have m3 : ∀ (x : Int) S, pBin false .Mod (I x) (I (L + 1)) S = .ok (I (x % (L + 1))) S := fun x S => pMod (by omega)
    have b1 : 0 ≤ r * (L / 1000003 + 1) % (L + 1) ∧ r * (L / 1000003 + 1) % (L + 1) < L + 1 := ⟨Int.emod_nonneg _ (by omega), Int.emod_lt_of_pos _ (by omega)⟩
    generalize hv : r * (L / 1000003 + 1) % (L + 1) = v at b1
    have mn : ∀ (x : Int) S, pBi false .min [I L, I x] S = .ok (I (min L x)) S := fun _ _ => rfl
    obtain ⟨l', y3, y4, g1, g2, g3, g4⟩ := pts_lp n L c hL ks (l ++ [v] ++ [min L (v + 1)]) (some (NI k)) (some (I (r * (L / 1000003 + 1)))) (fun p hp => by
      rw [List.append_assoc, List.mem_append] at hp
      rcases hp with hp | hp
      · exact h p hp
      · simp only [List.singleton_append, List.mem_cons, List.not_mem_nil, or_false] at hp
        rcases hp with rfl | rfl <;> omega) (by simp only [List.length_append, List.length_singleton, List.length_cons, List.length_nil]; omega)
    refine ⟨l', y3, y4, fun p hp => g1 p (List.mem_append_left _ (List.mem_append_left _ hp)), g2, by rw [g3]; simp only [List.length_append, List.length_singleton, List.length_cons, List.length_nil]; omega, Eq.trans ?_ g4⟩
    rw [List.map_cons, fo_cons, setP_v, foA_s]
    simp only [List.set_cons_zero, List.set_cons_succ]
    have kd := bmI_ok (B := BT) (C := cal BT PD (n + 1)) (m := false) (es := .cons (.bin false .Mod (.v 4) (.bin false .Add (.v 0) (.c (.int 1)))) .nil) (ρ := [some (I L), some (I c), some (.ref 0), some (NI k), some (I (r * (L / 1000003 + 1)))]) (kndR (S := [O.lst (l.map fun i => I i)]) (k := 0) (xs := l.map fun i => I i) rfl)
    have kd2 := bmI_ok (B := BT) (C := cal BT PD (n + 1)) (m := false) (es := .cons (.bi false .min (.cons (.v 0) (.cons (.bin false .Add (.idx (.v 2) (.neg (.c (.int 1)))) (.c (.int 1))) .nil))) .nil) (ρ := [some (I L), some (I c), some (.ref 0), some (NI k), some (I (r * (L / 1000003 + 1)))]) (kndR (S := [O.lst ((l ++ [v]).map fun i => I i)]) (k := 0) (xs := (l ++ [v]).map fun i => I i) rfl)
    have ap : pBm false .append (.ref 0) [I v] [O.lst (l.map fun i => I i)] = .ok (.t .non) [O.lst ((l ++ [v]).map fun i => I i)] := by
      rw [appR (S := [O.lst (l.map fun i => I i)]) (k := 0) (xs := l.map fun i => I i) rfl (by rw [List.length_map]; omega), List.map_append]; rfl
    have ap2 : pBm false .append (.ref 0) [I (min L (v + 1))] [O.lst ((l ++ [v]).map fun i => I i)] = .ok (.t .non) [O.lst ((l ++ [v] ++ [min L (v + 1)]).map fun i => I i)] := by
      rw [appR (S := [O.lst ((l ++ [v]).map fun i => I i)]) (k := 0) (xs := (l ++ [v]).map fun i => I i) rfl (by rw [List.length_map, List.length_append, List.length_singleton]; omega), List.map_append (l₁ := l ++ [v])]; rfl
    have ix : pIdx (.ref 0) (.t (.int (-1))) [O.lst ((l ++ [v]).map fun i => I i)] = .ok (I v) [O.lst ((l ++ [v]).map fun i => I i)] := ixm1R (l := l.map fun i => I i) (by rw [List.map_append]; rfl)
    have body : evSs BT (cal BT PD (n + 1)) b__law_points_1 [some (I L), some (I c), some (.ref 0), some (NI k), x4] [.lst (l.map fun i => I i)] = .nx [some (I L), some (I c), some (.ref 0), some (NI k), some (I (r * (L / 1000003 + 1)))] [.lst ((l ++ [v] ++ [min L (v + 1)]).map fun i => I i)] := by
      rw [b__law_points_1]
      simp -implicitDefEqProofs only [s_tr, tr_nx, tr_rt, tr_ex, s_rse, ex_ex, s_asg, asg_ok, s_ex, ex_ok, s_ret, ret_ok, s_retN, s_brk, s_cnt, s_pas, s_ite, ite_t, ite_f, s_fo, s_nil, s_cons, sq_nx, sq_rt, sq_bk, sq_ct, sq_ex, tel_nx, tel_rt, tel_ex, e_v, oj_s, e_c, e_g, e_nop, e_one, e_bin, e_cmp, e_idx, two_ok, twoJ_ok, e_and, and_t, and_f, e_or, or_t, or_f, e_ite, iteE_t, iteE_f, e_not, not_b, e_ch2, ch2I_ok, ch2J_ok, ch2K_t, ch2K_f, e_ch3, ch3I_ok, ch3J_ok, ch3K_t, ch3K_f, e_tup, e_lst, e_bi, e_call, lsI_ok, e_dct, dct_ok, ps_nil, ps_cons, psI_ok, psK_ok, e_sl, slI_ok, e_sl3, e_sss, ssI_ok, e_lss, lssI_ok, s3I_ok, s3J_c, s3J_n, s3K_c, s3K_n, e_isi, e_lc, lcJ_ok, e_bm, bmJ_ok, e_att, attI_ok, e_mth, mthI_ok, e_pk, e_cfn, calDd_s, ckwI_ok, ckwJ_ok, e_mpk, mpkI_ok, e_mthd, mtdI_ok, e_its, e_lrg, lrgI_ok, e_eqt, eqtI_ok, e_iso, isoI_ok, s_sta, staI_ok, staJ_ok, s_sti, stiI_ok, stiJ_ok, stiK_ok, nxO_s, s_wh, callD_f, es_nil, es_cons, esI_ok, esJ_ok, pAddI, pSubI, List.getElem?_cons_zero, List.getElem?_cons_succ, List.set_cons_zero, List.set_cons_succ, Bool.not_true, Bool.not_false, m1, kr, d1, m2, setP_v, List.set_cons_zero, List.set_cons_succ, kd, m3, hv, ap, kd2, neg1R, ix, mn, ap2]
    rw [body, foB_nx]
theorem c_points (n : Nat) (L c : Int) (hL : 0 ≤ L ∧ L ≤ 1000000000000) : ∃ ps : List Int, (∀ p ∈ ps, 0 ≤ p ∧ p ≤ L) ∧ ps.Pairwise (· < ·) ∧ (ps.length ≤ 16 ∧ 0 < ps.length) ∧ ∀ S, callD (cal BT PD (n + 2)) true f__law_points [I L, I c] S = .ok (.t (.lst (ps.map .int))) S := by
  obtain ⟨l, x3, x4, g1, g2, g3, g4⟩ := pts_lp n L c hL (List.range 7) [0, L] none none (fun p hp => by
    simp only [List.mem_cons, List.not_mem_nil, or_false] at hp
    rcases hp with rfl | rfl <;> omega) (by simp)
  have hl : l.length = 16 := by rw [g3]; rfl
  have it : ∀ S, itemsOf .rng [I 7] S = some ((List.range 7).map fun (i : Nat) => NI i) := fun S => itR_s (by decide) (by decide)
  refine ⟨srtI (ddI l), fun p hp => g2 p (srtD_mem.mp hp), srtD_lt l, ⟨?_, ?_⟩, fun S => cx2 ⟨[.lst (l.map fun i => I i)], ?_⟩⟩
  · rw [(srtI_perm _).length_eq]; have := ddI_len l; omega
  · exact List.length_pos_of_mem (srtD_mem.mpr (g1 0 List.mem_cons_self))
  · have so := sssRf (S := [.lst (l.map fun i => I i)]) (k := 0) (l := l) rfl (by omega)
    rw [r_def (d := ⟨2, 5, b__law_points⟩) rfl rfl]
    rw [b__law_points]
    simp -implicitDefEqProofs only [List.map_cons, List.map_nil, List.length_cons, List.length_nil, List.replicate, List.cons_append, List.nil_append]
    refine Eq.trans (congrArg tel (run_consR (run_asgR (S1 := [.lst [I 0, I L]]) (d := .ref 0) (ρ1 := [some (I L), some (I c), some (.ref 0), none, none]) ?_ rfl))) ?_
    · simp -implicitDefEqProofs only [s_tr, tr_nx, tr_rt, tr_ex, s_rse, ex_ex, s_asg, asg_ok, s_ex, ex_ok, s_ret, ret_ok, s_retN, s_brk, s_cnt, s_pas, s_ite, ite_t, ite_f, s_fo, s_nil, s_cons, sq_nx, sq_rt, sq_bk, sq_ct, sq_ex, tel_nx, tel_rt, tel_ex, e_v, oj_s, e_c, e_g, e_nop, e_one, e_bin, e_cmp, e_idx, two_ok, twoJ_ok, e_and, and_t, and_f, e_or, or_t, or_f, e_ite, iteE_t, iteE_f, e_not, not_b, e_ch2, ch2I_ok, ch2J_ok, ch2K_t, ch2K_f, e_ch3, ch3I_ok, ch3J_ok, ch3K_t, ch3K_f, e_tup, e_lst, e_bi, e_call, lsI_ok, e_dct, dct_ok, ps_nil, ps_cons, psI_ok, psK_ok, e_sl, slI_ok, e_sl3, e_sss, ssI_ok, e_lss, lssI_ok, s3I_ok, s3J_c, s3J_n, s3K_c, s3K_n, e_isi, e_lc, lcJ_ok, e_bm, bmJ_ok, e_att, attI_ok, e_mth, mthI_ok, e_pk, e_cfn, calDd_s, ckwI_ok, ckwJ_ok, e_mpk, mpkI_ok, e_mthd, mtdI_ok, e_its, e_lrg, lrgI_ok, e_eqt, eqtI_ok, e_iso, isoI_ok, s_sta, staI_ok, staJ_ok, s_sti, stiI_ok, stiJ_ok, stiK_ok, nxO_s, s_wh, callD_f, es_nil, es_cons, esI_ok, esJ_ok, pAddI, pSubI, List.getElem?_cons_zero, List.getElem?_cons_succ, List.set_cons_zero, List.set_cons_succ, Bool.not_true, Bool.not_false, mkL_r]; rfl
    refine Eq.trans (congrArg tel (run_consR (S1 := [.lst (l.map fun i => I i)]) (ρ1 := [some (I L), some (I c), some (.ref 0), x3, x4]) ?_)) ?_
    · simp -implicitDefEqProofs only [s_tr, tr_nx, tr_rt, tr_ex, s_rse, ex_ex, s_asg, asg_ok, s_ex, ex_ok, s_ret, ret_ok, s_retN, s_brk, s_cnt, s_pas, s_ite, ite_t, ite_f, s_fo, s_nil, s_cons, sq_nx, sq_rt, sq_bk, sq_ct, sq_ex, tel_nx, tel_rt, tel_ex, e_v, oj_s, e_c, e_g, e_nop, e_one, e_bin, e_cmp, e_idx, two_ok, twoJ_ok, e_and, and_t, and_f, e_or, or_t, or_f, e_ite, iteE_t, iteE_f, e_not, not_b, e_ch2, ch2I_ok, ch2J_ok, ch2K_t, ch2K_f, e_ch3, ch3I_ok, ch3J_ok, ch3K_t, ch3K_f, e_tup, e_lst, e_bi, e_call, lsI_ok, e_dct, dct_ok, ps_nil, ps_cons, psI_ok, psK_ok, e_sl, slI_ok, e_sl3, e_sss, ssI_ok, e_lss, lssI_ok, s3I_ok, s3J_c, s3J_n, s3K_c, s3K_n, e_isi, e_lc, lcJ_ok, e_bm, bmJ_ok, e_att, attI_ok, e_mth, mthI_ok, e_pk, e_cfn, calDd_s, ckwI_ok, ckwJ_ok, e_mpk, mpkI_ok, e_mthd, mtdI_ok, e_its, e_lrg, lrgI_ok, e_eqt, eqtI_ok, e_iso, isoI_ok, s_sta, staI_ok, staJ_ok, s_sti, stiI_ok, stiJ_ok, stiK_ok, nxO_s, s_wh, callD_f, es_nil, es_cons, esI_ok, esJ_ok, pAddI, pSubI, List.getElem?_cons_zero, List.getElem?_cons_succ, List.set_cons_zero, List.set_cons_succ, Bool.not_true, Bool.not_false, fo_ok (it _)]
      exact g4
    simp -implicitDefEqProofs only [s_tr, tr_nx, tr_rt, tr_ex, s_rse, ex_ex, s_asg, asg_ok, s_ex, ex_ok, s_ret, ret_ok, s_retN, s_brk, s_cnt, s_pas, s_ite, ite_t, ite_f, s_fo, s_nil, s_cons, sq_nx, sq_rt, sq_bk, sq_ct, sq_ex, tel_nx, tel_rt, tel_ex, e_v, oj_s, e_c, e_g, e_nop, e_one, e_bin, e_cmp, e_idx, two_ok, twoJ_ok, e_and, and_t, and_f, e_or, or_t, or_f, e_ite, iteE_t, iteE_f, e_not, not_b, e_ch2, ch2I_ok, ch2J_ok, ch2K_t, ch2K_f, e_ch3, ch3I_ok, ch3J_ok, ch3K_t, ch3K_f, e_tup, e_lst, e_bi, e_call, lsI_ok, e_dct, dct_ok, ps_nil, ps_cons, psI_ok, psK_ok, e_sl, slI_ok, e_sl3, e_sss, ssI_ok, e_lss, lssI_ok, s3I_ok, s3J_c, s3J_n, s3K_c, s3K_n, e_isi, e_lc, lcJ_ok, e_bm, bmJ_ok, e_att, attI_ok, e_mth, mthI_ok, e_pk, e_cfn, calDd_s, ckwI_ok, ckwJ_ok, e_mpk, mpkI_ok, e_mthd, mtdI_ok, e_its, e_lrg, lrgI_ok, e_eqt, eqtI_ok, e_iso, isoI_ok, s_sta, staI_ok, staJ_ok, s_sti, stiI_ok, stiJ_ok, stiK_ok, nxO_s, s_wh, callD_f, es_nil, es_cons, esI_ok, esJ_ok, pAddI, pSubI, List.getElem?_cons_zero, List.getElem?_cons_succ, List.set_cons_zero, List.set_cons_succ, Bool.not_true, Bool.not_false, so]
theorem c_span (n : Nat) (ps : List Int) (c L : Int) (hp : ∀ p ∈ ps, 0 ≤ p ∧ p ≤ L) (hs : ps.Pairwise (· < ·)) (hl : 2 ≤ ps.length ∧ ps.length ≤ 1000) : ∃ z : I3, HoleOk L z ∧ ∀ S, callD (cal BT PD (n + 2)) true f__law_span [.t (.lst (ps.map .int)), I c] S = .ok (.t (tri z)) S := by
  obtain ⟨lo, h1, k1⟩ := c_mix n c 69623 ((ps.length : Int) - 1) (by decide) (by omega)
  obtain ⟨d, h2, k2⟩ := c_mix n c 40709 (min 3 ((ps.length : Int) - 1 - lo)) (by decide) (by omega)
  obtain ⟨t1, h3, k3⟩ := c_mix n c 18149 4 (by decide) (by decide)
  obtain ⟨t2, h4, k4⟩ := c_mix n c 13499 6 (by decide) (by decide)
  obtain ⟨t4, h5, k5⟩ := c_mix n c 57089 3 (by decide) (by decide)
  obtain ⟨w, h6, k6⟩ := c_mix n c 17681 4 (by decide) (by decide)
  have d1 : ∀ S, pBin false .FloorDiv (I c) (I 7) S = .ok (I (c / 7)) S := fun S => pDiv (by decide) (by decide)
  have m1 : ∀ (x : Int) S, pBin false .Mod (I x) (I 1200) S = .ok (I (x % 1200)) S := fun x S => pMod (by decide)
  have b3 : 0 ≤ c / 7 % 1200 ∧ c / 7 % 1200 < 1200 := by omega
  generalize hv : c / 7 % 1200 = t3 at b3
  have ln : ∀ S, pBi false .len [.t (.lst (ps.map .int))] S = .ok (I (ps.length : Int)) S := fun S => by rw [pLenL, List.length_map]
  have mn : ∀ (x : Int) S, pBi false .min [I 3, I x] S = .ok (I (min 3 x)) S := fun _ _ => rfl
  obtain ⟨t, ht, ix⟩ : ∃ t : Int, (0 ≤ t ∧ t < 1200) ∧ ∀ S, pIdx (.t (.lst [.int t1, .int t2, .int t3, .int (1199 - t4)])) (I w) S = .ok (I t) S := by
    have : w = 0 ∨ w = 1 ∨ w = 2 ∨ w = 3 := by omega
    rcases this with e | e | e | e <;> subst e
    · exact ⟨t1, by omega, fun _ => rfl⟩
    · exact ⟨t2, by omega, fun _ => rfl⟩
    · exact ⟨t3, by omega, fun _ => rfl⟩
    · exact ⟨1199 - t4, by omega, fun _ => rfl⟩
  have hlo : lo.toNat < ps.length := by omega
  have hhi : (lo + 1 + d).toNat < ps.length := by omega
  have i1 := ixI (l := ps) (i := lo) (by omega) (by omega)
  have i2 := ixI (l := ps) (i := lo + 1 + d) (by omega) (by omega)
  have lt := List.pairwise_iff_getElem.mp hs lo.toNat (lo + 1 + d).toNat hlo hhi (by omega)
  have q1 := hp _ (List.getElem_mem hlo)
  have q2 := hp _ (List.getElem_mem hhi)
  generalize ps[lo.toNat]'hlo = a at *
  generalize ps[(lo + 1 + d).toNat]'hhi = b at *
  have mk := fun S => mk_tri t a b S
  refine ⟨(t, a, b), ⟨ht, q1.1, lt, q2.2⟩, fun S => cl2 ?_⟩
  rw [r_def (d := ⟨2, 5, b__law_span⟩) rfl rfl]
  simp -implicitDefEqProofs only [b__law_span, List.map_cons, List.map_nil, List.length_cons, List.length_nil, List.replicate, List.cons_append, List.nil_append, s_tr, tr_nx, tr_rt, tr_ex, s_rse, ex_ex, s_asg, asg_ok, s_ex, ex_ok, s_ret, ret_ok, s_retN, s_brk, s_cnt, s_pas, s_ite, ite_t, ite_f, s_fo, s_nil, s_cons, sq_nx, sq_rt, sq_bk, sq_ct, sq_ex, tel_nx, tel_rt, tel_ex, e_v, oj_s, e_c, e_g, e_nop, e_one, e_bin, e_cmp, e_idx, two_ok, twoJ_ok, e_and, and_t, and_f, e_or, or_t, or_f, e_ite, iteE_t, iteE_f, e_not, not_b, e_ch2, ch2I_ok, ch2J_ok, ch2K_t, ch2K_f, e_ch3, ch3I_ok, ch3J_ok, ch3K_t, ch3K_f, e_tup, e_lst, e_bi, e_call, lsI_ok, e_dct, dct_ok, ps_nil, ps_cons, psI_ok, psK_ok, e_sl, slI_ok, e_sl3, e_sss, ssI_ok, e_lss, lssI_ok, s3I_ok, s3J_c, s3J_n, s3K_c, s3K_n, e_isi, e_lc, lcJ_ok, e_bm, bmJ_ok, e_att, attI_ok, e_mth, mthI_ok, e_pk, e_cfn, calDd_s, ckwI_ok, ckwJ_ok, e_mpk, mpkI_ok, e_mthd, mtdI_ok, e_its, e_lrg, lrgI_ok, e_eqt, eqtI_ok, e_iso, isoI_ok, s_sta, staI_ok, staJ_ok, s_sti, stiI_ok, stiJ_ok, stiK_ok, nxO_s, s_wh, callD_f, es_nil, es_cons, esI_ok, esJ_ok, pAddI, pSubI, List.getElem?_cons_zero, List.getElem?_cons_succ, List.set_cons_zero, List.set_cons_succ, Bool.not_true, Bool.not_false, ln, k1, mn, k2, k3, k4, d1, m1, hv, k5, mkL_s, pls_cs, pls_nl, plC_s, mlI_s, setP_v, List.set_cons_zero, List.set_cons_succ, k6, ix, i1, i2, mk]
theorem spans_all (n : Nat) (ps : List Int) (L : Int) (hp : ∀ p ∈ ps, 0 ≤ p ∧ p ≤ L) (hs : ps.Pairwise (· < ·)) (hl : 2 ≤ ps.length ∧ ps.length ≤ 1000) : ∀ cs : List Int, ∃ zs : List I3, zs.length = cs.length ∧ (∀ z ∈ zs, HoleOk L z) ∧
    ∀ (ρ : Ev) (hρ : 4 < ρ.length ∧ ∀ d, (ρ.set 4 (some d))[3]? = some (some (.t (.lst (ps.map .int))))) (acc : List D) (S : Sto), acc.length + cs.length ≤ 1000 → lcL (.v 4) ρ (evE BT (cal BT PD (n + 2)) (.c (.bl true))) (evE BT (cal BT PD (n + 2)) (.call true f__law_span (.cons (.v 3) (.cons (.v 4) .nil)))) (cs.map fun c => I c) S acc = .ok (acc ++ hD zs) S
  | [] => ⟨[], rfl, (fun _ h => nomatch h), fun ρ _ acc S _ => by simp [lcL]⟩
  | c :: cs => by
    obtain ⟨zs, h1, h2, h3⟩ := spans_all n ps L hp hs hl cs
    obtain ⟨z, hz, k⟩ := c_span n ps c L hp hs hl
    refine ⟨z :: zs, by simp [h1], fun y hy => by rcases List.mem_cons.mp hy with rfl | hy; exact hz; exact h2 y hy, fun ρ hρ acc S ha => ?_⟩
    rw [List.length_cons] at ha
    have e1 : lc1 (.v 4) ρ (evE BT (cal BT PD (n + 2)) (.c (.bl true))) (evE BT (cal BT PD (n + 2)) (.call true f__law_span (.cons (.v 3) (.cons (.v 4) .nil)))) S (I c) = .ok (some (.t (tri z))) S := by
      have v4 : (ρ.set 4 (some (I c)))[4]? = some (some (I c)) := List.getElem?_set_self hρ.1
      have v3 := hρ.2 (I c)
      rw [lc1_s, setP_v, lc1A_s]
      simp -implicitDefEqProofs only [s_tr, tr_nx, tr_rt, tr_ex, s_rse, ex_ex, s_asg, asg_ok, s_ex, ex_ok, s_ret, ret_ok, s_retN, s_brk, s_cnt, s_pas, s_ite, ite_t, ite_f, s_fo, s_nil, s_cons, sq_nx, sq_rt, sq_bk, sq_ct, sq_ex, tel_nx, tel_rt, tel_ex, e_v, oj_s, e_c, e_g, e_nop, e_one, e_bin, e_cmp, e_idx, two_ok, twoJ_ok, e_and, and_t, and_f, e_or, or_t, or_f, e_ite, iteE_t, iteE_f, e_not, not_b, e_ch2, ch2I_ok, ch2J_ok, ch2K_t, ch2K_f, e_ch3, ch3I_ok, ch3J_ok, ch3K_t, ch3K_f, e_tup, e_lst, e_bi, e_call, lsI_ok, e_dct, dct_ok, ps_nil, ps_cons, psI_ok, psK_ok, e_sl, slI_ok, e_sl3, e_sss, ssI_ok, e_lss, lssI_ok, s3I_ok, s3J_c, s3J_n, s3K_c, s3K_n, e_isi, e_lc, lcJ_ok, e_bm, bmJ_ok, e_att, attI_ok, e_mth, mthI_ok, e_pk, e_cfn, calDd_s, ckwI_ok, ckwJ_ok, e_mpk, mpkI_ok, e_mthd, mtdI_ok, e_its, e_lrg, lrgI_ok, e_eqt, eqtI_ok, e_iso, isoI_ok, s_sta, staI_ok, staJ_ok, s_sti, stiI_ok, stiJ_ok, stiK_ok, nxO_s, s_wh, callD_f, es_nil, es_cons, esI_ok, esJ_ok, pAddI, pSubI, List.getElem?_cons_zero, List.getElem?_cons_succ, List.set_cons_zero, List.set_cons_succ, Bool.not_true, Bool.not_false, e_c, lc1B_t, e_v, v4, v3, oj_s, k, lc1D_ok]
    rw [List.map_cons, lcL_1, e1]
    simp only
    rw [if_pos (show acc.length < lim by unfold lim; omega), h3 ρ hρ _ S (by simp; omega)]
    simp [hD]
theorem c_spans (n : Nat) (cs : List Int) (L c : Int) (hL : 0 ≤ L ∧ L ≤ 1000000000000) (hc : cs.length ≤ 900) : ∃ zs : List I3, zs.length ≤ cs.length ∧ (∀ z ∈ zs, HoleOk L z) ∧ ∀ S, callD (cal BT PD (n + 3)) true f__law_spans [.t (.lst (cs.map .int)), I L, I c] S = .ok (.t (.lst (zs.map tri))) S := by
  obtain ⟨ps, p1, p2, p3, p4⟩ := c_points n L c hL
  have ln : ∀ S, pBi false .len [.t (.lst (ps.map .int))] S = .ok (I (ps.length : Int)) S := fun S => by rw [pLenL, List.length_map]
  by_cases h : (ps.length : Int) < 2
  · refine ⟨[], by simp, (fun _ h => nomatch h), fun S => cl3 ?_⟩
    rw [r_def (d := ⟨3, 5, b__law_spans⟩) rfl rfl]
    simp -implicitDefEqProofs only [b__law_spans, List.map_cons, List.map_nil, List.length_cons, List.length_nil, List.replicate, List.cons_append, List.nil_append, s_tr, tr_nx, tr_rt, tr_ex, s_rse, ex_ex, s_asg, asg_ok, s_ex, ex_ok, s_ret, ret_ok, s_retN, s_brk, s_cnt, s_pas, s_ite, ite_t, ite_f, s_fo, s_nil, s_cons, sq_nx, sq_rt, sq_bk, sq_ct, sq_ex, tel_nx, tel_rt, tel_ex, e_v, oj_s, e_c, e_g, e_nop, e_one, e_bin, e_cmp, e_idx, two_ok, twoJ_ok, e_and, and_t, and_f, e_or, or_t, or_f, e_ite, iteE_t, iteE_f, e_not, not_b, e_ch2, ch2I_ok, ch2J_ok, ch2K_t, ch2K_f, e_ch3, ch3I_ok, ch3J_ok, ch3K_t, ch3K_f, e_tup, e_lst, e_bi, e_call, lsI_ok, e_dct, dct_ok, ps_nil, ps_cons, psI_ok, psK_ok, e_sl, slI_ok, e_sl3, e_sss, ssI_ok, e_lss, lssI_ok, s3I_ok, s3J_c, s3J_n, s3K_c, s3K_n, e_isi, e_lc, lcJ_ok, e_bm, bmJ_ok, e_att, attI_ok, e_mth, mthI_ok, e_pk, e_cfn, calDd_s, ckwI_ok, ckwJ_ok, e_mpk, mpkI_ok, e_mthd, mtdI_ok, e_its, e_lrg, lrgI_ok, e_eqt, eqtI_ok, e_iso, isoI_ok, s_sta, staI_ok, staJ_ok, s_sti, stiI_ok, stiJ_ok, stiK_ok, nxO_s, s_wh, callD_f, es_nil, es_cons, esI_ok, esJ_ok, pAddI, pSubI, List.getElem?_cons_zero, List.getElem?_cons_succ, List.set_cons_zero, List.set_cons_succ, Bool.not_true, Bool.not_false, p4, ln, pLt, decide_eq_true h, setP_v, List.set_cons_zero, List.set_cons_succ, mkL_s, pls_nl, mlI_s, List.map_nil]
  · obtain ⟨zs, z1, z2, z3⟩ := spans_all n ps L p1 p2 ⟨by omega, by omega⟩ cs
    have it : ∀ S, itemsOf .seq [.t (.lst (cs.map .int))] S = some (cs.map fun c => I c) := fun S => by rw [itL_s, List.map_map]; rfl
    have lz : ∀ S, lcL (.v 4) [some (.t (.lst (cs.map .int))), some (I L), some (I c), some (.t (.lst (ps.map .int))), none] (evE BT (cal BT PD (n + 2)) (.c (.bl true))) (evE BT (cal BT PD (n + 2)) (.call true f__law_span (.cons (.v 3) (.cons (.v 4) .nil)))) (cs.map fun c => I c) S [] = .ok (hD zs) S := fun S => by
      have := z3 [some (.t (.lst (cs.map .int))), some (I L), some (I c), some (.t (.lst (ps.map .int))), none] ⟨by simp, fun d => rfl⟩ [] S (by simp; omega)
      rw [List.nil_append] at this
      exact this
    have mz : ∀ S, mkL false (hD zs) S = .ok (.t (.lst (zs.map tri))) S := fun S => mkL_t (pls_hD zs)
    refine ⟨zs, by omega, z2, fun S => cl3 ?_⟩
    rw [r_def (d := ⟨3, 5, b__law_spans⟩) rfl rfl]
    simp -implicitDefEqProofs only [b__law_spans, List.map_cons, List.map_nil, List.length_cons, List.length_nil, List.replicate, List.cons_append, List.nil_append, s_tr, tr_nx, tr_rt, tr_ex, s_rse, ex_ex, s_asg, asg_ok, s_ex, ex_ok, s_ret, ret_ok, s_retN, s_brk, s_cnt, s_pas, s_ite, ite_t, ite_f, s_fo, s_nil, s_cons, sq_nx, sq_rt, sq_bk, sq_ct, sq_ex, tel_nx, tel_rt, tel_ex, e_v, oj_s, e_c, e_g, e_nop, e_one, e_bin, e_cmp, e_idx, two_ok, twoJ_ok, e_and, and_t, and_f, e_or, or_t, or_f, e_ite, iteE_t, iteE_f, e_not, not_b, e_ch2, ch2I_ok, ch2J_ok, ch2K_t, ch2K_f, e_ch3, ch3I_ok, ch3J_ok, ch3K_t, ch3K_f, e_tup, e_lst, e_bi, e_call, lsI_ok, e_dct, dct_ok, ps_nil, ps_cons, psI_ok, psK_ok, e_sl, slI_ok, e_sl3, e_sss, ssI_ok, e_lss, lssI_ok, s3I_ok, s3J_c, s3J_n, s3K_c, s3K_n, e_isi, e_lc, lcJ_ok, e_bm, bmJ_ok, e_att, attI_ok, e_mth, mthI_ok, e_pk, e_cfn, calDd_s, ckwI_ok, ckwJ_ok, e_mpk, mpkI_ok, e_mthd, mtdI_ok, e_its, e_lrg, lrgI_ok, e_eqt, eqtI_ok, e_iso, isoI_ok, s_sta, staI_ok, staJ_ok, s_sti, stiI_ok, stiJ_ok, stiK_ok, nxO_s, s_wh, callD_f, es_nil, es_cons, esI_ok, esJ_ok, pAddI, pSubI, List.getElem?_cons_zero, List.getElem?_cons_succ, List.set_cons_zero, List.set_cons_succ, Bool.not_true, Bool.not_false, p4, ln, pLt, decide_eq_false h, setP_v, List.set_cons_zero, List.set_cons_succ, lcI_ok (it _), wipeL, Pt.own, lz, lcJ_ok, mz]

def encI3 : Enc 1 tri := encTup3 encInt encInt encInt
theorem eqRl (L M : Int) (hs ks : List I3) (S : Sto) : pCmp .Eq (.t (rlT L hs)) (.t (rlT M ks)) S = .ok (.t (.bl (decide ((L, hs) = (M, ks))))) S := pEq_enc (encTup2 encInt (encLst encI3)) (S := S) (by decide) (L, hs) (M, ks)
theorem neRl (L M : Int) (hs ks : List I3) (S : Sto) : pCmp .NotEq (.t (rlT L hs)) (.t (rlT M ks)) S = .ok (.t (.bl (!decide ((L, hs) = (M, ks))))) S := pNe_enc (encTup2 encInt (encLst encI3)) (S := S) (by decide) (L, hs) (M, ks)
theorem eqHs (hs ks : List I3) (S : Sto) : pCmp .Eq (.t (.lst (hs.map tri))) (.t (.lst (ks.map tri))) S = .ok (.t (.bl (decide (hs = ks)))) S := pEq_enc (encLst encI3) (S := S) (by decide) hs ks
theorem neHs (hs ks : List I3) (S : Sto) : pCmp .NotEq (.t (.lst (hs.map tri))) (.t (.lst (ks.map tri))) S = .ok (.t (.bl (!decide (hs = ks)))) S := pNe_enc (encLst encI3) (S := S) (by decide) hs ks
theorem c_whole (n : Nat) (i : Int) (S : Sto) : callD (cal BT PD (n + 1)) true f__law_whole [I i] S = .ok (.t (.bl true)) S := cl1 rfl
theorem cov_lp (n : Nat) (A : Option D) (x : Int) : ∀ (l : List I3) (x2 x3 x4 : Option D),
    (covB l x = true → foL (.tup [2, 3, 4]) (evSs BT (cal BT PD n) b__law_covered_1) (hD l) [A, some (I x), x2, x3, x4] [] = .rt (.t (.bl true)) []) ∧
    (covB l x = false → ∃ y2 y3 y4, foL (.tup [2, 3, 4]) (evSs BT (cal BT PD n) b__law_covered_1) (hD l) [A, some (I x), x2, x3, x4] [] = .nx [A, some (I x), y2, y3, y4] [])
  | [], x2, x3, x4 => ⟨(fun h => nomatch h), fun _ => ⟨x2, x3, x4, rfl⟩⟩
  | h :: l, x2, x3, x4 => by
    have ih := cov_lp n A x l (some (I h.1)) (some (I h.2.1)) (some (I h.2.2))
    have st : setP (.tup [2, 3, 4]) (.t (tri h)) [A, some (I x), x2, x3, x4] = some [A, some (I x), some (I h.1), some (I h.2.1), some (I h.2.2)] := rfl
    have e0 : covB (h :: l) x = (decide (h.2.1 ≤ x ∧ x < h.2.2) || covB l x) := rfl
    rw [e0]
    show (_ → foL _ _ (.t (tri h) :: hD l) _ _ = _) ∧ (_ → ∃ y2 y3 y4, foL _ _ (.t (tri h) :: hD l) _ _ = _)
    rw [fo_cons, st, foA_s]
    by_cases c : h.2.1 ≤ x ∧ x < h.2.2
    · have body : evSs BT (cal BT PD n) b__law_covered_1 [A, some (I x), some (I h.1), some (I h.2.1), some (I h.2.2)] [] = .rt (.t (.bl true)) [] := by
        rw [b__law_covered_1]
        simp -implicitDefEqProofs only [s_tr, tr_nx, tr_rt, tr_ex, s_rse, ex_ex, s_asg, asg_ok, s_ex, ex_ok, s_ret, ret_ok, s_retN, s_brk, s_cnt, s_pas, s_ite, ite_t, ite_f, s_fo, s_nil, s_cons, sq_nx, sq_rt, sq_bk, sq_ct, sq_ex, tel_nx, tel_rt, tel_ex, e_v, oj_s, e_c, e_g, e_nop, e_one, e_bin, e_cmp, e_idx, two_ok, twoJ_ok, e_and, and_t, and_f, e_or, or_t, or_f, e_ite, iteE_t, iteE_f, e_not, not_b, e_ch2, ch2I_ok, ch2J_ok, ch2K_t, ch2K_f, e_ch3, ch3I_ok, ch3J_ok, ch3K_t, ch3K_f, e_tup, e_lst, e_bi, e_call, lsI_ok, e_dct, dct_ok, ps_nil, ps_cons, psI_ok, psK_ok, e_sl, slI_ok, e_sl3, e_sss, ssI_ok, e_lss, lssI_ok, s3I_ok, s3J_c, s3J_n, s3K_c, s3K_n, e_isi, e_lc, lcJ_ok, e_bm, bmJ_ok, e_att, attI_ok, e_mth, mthI_ok, e_pk, e_cfn, calDd_s, ckwI_ok, ckwJ_ok, e_mpk, mpkI_ok, e_mthd, mtdI_ok, e_its, e_lrg, lrgI_ok, e_eqt, eqtI_ok, e_iso, isoI_ok, s_sta, staI_ok, staJ_ok, s_sti, stiI_ok, stiJ_ok, stiK_ok, nxO_s, s_wh, callD_f, es_nil, es_cons, esI_ok, esJ_ok, pAddI, pSubI, List.getElem?_cons_zero, List.getElem?_cons_succ, List.set_cons_zero, List.set_cons_succ, Bool.not_true, Bool.not_false, pLe, pLt, decide_eq_true c.1, decide_eq_true c.2]
      rw [body, foB_rt, decide_eq_true c]
      exact ⟨fun _ => rfl, fun h => nomatch h⟩
    · have body : evSs BT (cal BT PD n) b__law_covered_1 [A, some (I x), some (I h.1), some (I h.2.1), some (I h.2.2)] [] = .nx [A, some (I x), some (I h.1), some (I h.2.1), some (I h.2.2)] [] := by
        rw [b__law_covered_1]
        by_cases c1 : h.2.1 ≤ x
        · simp -implicitDefEqProofs only [s_tr, tr_nx, tr_rt, tr_ex, s_rse, ex_ex, s_asg, asg_ok, s_ex, ex_ok, s_ret, ret_ok, s_retN, s_brk, s_cnt, s_pas, s_ite, ite_t, ite_f, s_fo, s_nil, s_cons, sq_nx, sq_rt, sq_bk, sq_ct, sq_ex, tel_nx, tel_rt, tel_ex, e_v, oj_s, e_c, e_g, e_nop, e_one, e_bin, e_cmp, e_idx, two_ok, twoJ_ok, e_and, and_t, and_f, e_or, or_t, or_f, e_ite, iteE_t, iteE_f, e_not, not_b, e_ch2, ch2I_ok, ch2J_ok, ch2K_t, ch2K_f, e_ch3, ch3I_ok, ch3J_ok, ch3K_t, ch3K_f, e_tup, e_lst, e_bi, e_call, lsI_ok, e_dct, dct_ok, ps_nil, ps_cons, psI_ok, psK_ok, e_sl, slI_ok, e_sl3, e_sss, ssI_ok, e_lss, lssI_ok, s3I_ok, s3J_c, s3J_n, s3K_c, s3K_n, e_isi, e_lc, lcJ_ok, e_bm, bmJ_ok, e_att, attI_ok, e_mth, mthI_ok, e_pk, e_cfn, calDd_s, ckwI_ok, ckwJ_ok, e_mpk, mpkI_ok, e_mthd, mtdI_ok, e_its, e_lrg, lrgI_ok, e_eqt, eqtI_ok, e_iso, isoI_ok, s_sta, staI_ok, staJ_ok, s_sti, stiI_ok, stiJ_ok, stiK_ok, nxO_s, s_wh, callD_f, es_nil, es_cons, esI_ok, esJ_ok, pAddI, pSubI, List.getElem?_cons_zero, List.getElem?_cons_succ, List.set_cons_zero, List.set_cons_succ, Bool.not_true, Bool.not_false, pLe, pLt, decide_eq_true c1, decide_eq_false (show ¬ x < h.2.2 from fun z => c ⟨c1, z⟩)]
        · simp -implicitDefEqProofs only [s_tr, tr_nx, tr_rt, tr_ex, s_rse, ex_ex, s_asg, asg_ok, s_ex, ex_ok, s_ret, ret_ok, s_retN, s_brk, s_cnt, s_pas, s_ite, ite_t, ite_f, s_fo, s_nil, s_cons, sq_nx, sq_rt, sq_bk, sq_ct, sq_ex, tel_nx, tel_rt, tel_ex, e_v, oj_s, e_c, e_g, e_nop, e_one, e_bin, e_cmp, e_idx, two_ok, twoJ_ok, e_and, and_t, and_f, e_or, or_t, or_f, e_ite, iteE_t, iteE_f, e_not, not_b, e_ch2, ch2I_ok, ch2J_ok, ch2K_t, ch2K_f, e_ch3, ch3I_ok, ch3J_ok, ch3K_t, ch3K_f, e_tup, e_lst, e_bi, e_call, lsI_ok, e_dct, dct_ok, ps_nil, ps_cons, psI_ok, psK_ok, e_sl, slI_ok, e_sl3, e_sss, ssI_ok, e_lss, lssI_ok, s3I_ok, s3J_c, s3J_n, s3K_c, s3K_n, e_isi, e_lc, lcJ_ok, e_bm, bmJ_ok, e_att, attI_ok, e_mth, mthI_ok, e_pk, e_cfn, calDd_s, ckwI_ok, ckwJ_ok, e_mpk, mpkI_ok, e_mthd, mtdI_ok, e_its, e_lrg, lrgI_ok, e_eqt, eqtI_ok, e_iso, isoI_ok, s_sta, staI_ok, staJ_ok, s_sti, stiI_ok, stiJ_ok, stiK_ok, nxO_s, s_wh, callD_f, es_nil, es_cons, esI_ok, esJ_ok, pAddI, pSubI, List.getElem?_cons_zero, List.getElem?_cons_succ, List.set_cons_zero, List.set_cons_succ, Bool.not_true, Bool.not_false, pLe, pLt, decide_eq_false c1]
      rw [body, foB_nx, decide_eq_false c, Bool.false_or]
      exact ih
theorem c_covered (n : Nat) (m : List I3) (x : Int) (S : Sto) : callD (cal BT PD (n + 1)) true f__law_covered [.t (.lst (m.map tri)), I x] S = .ok (.t (.bl (covB m x))) S := cl2 (by
  have it : ∀ S, itemsOf .seq [.t (.lst (m.map tri))] S = some (hD m) := fun S => by rw [itL_s, List.map_map]; rfl
  have q := cov_lp n (some (.t (.lst (m.map tri)))) x m none none none
  rw [r_def (d := ⟨2, 5, b__law_covered⟩) rfl rfl]
  cases h : covB m x with
  | true => simp -implicitDefEqProofs only [b__law_covered, List.map_cons, List.map_nil, List.length_cons, List.length_nil, List.replicate, List.cons_append, List.nil_append, s_tr, tr_nx, tr_rt, tr_ex, s_rse, ex_ex, s_asg, asg_ok, s_ex, ex_ok, s_ret, ret_ok, s_retN, s_brk, s_cnt, s_pas, s_ite, ite_t, ite_f, s_fo, s_nil, s_cons, sq_nx, sq_rt, sq_bk, sq_ct, sq_ex, tel_nx, tel_rt, tel_ex, e_v, oj_s, e_c, e_g, e_nop, e_one, e_bin, e_cmp, e_idx, two_ok, twoJ_ok, e_and, and_t, and_f, e_or, or_t, or_f, e_ite, iteE_t, iteE_f, e_not, not_b, e_ch2, ch2I_ok, ch2J_ok, ch2K_t, ch2K_f, e_ch3, ch3I_ok, ch3J_ok, ch3K_t, ch3K_f, e_tup, e_lst, e_bi, e_call, lsI_ok, e_dct, dct_ok, ps_nil, ps_cons, psI_ok, psK_ok, e_sl, slI_ok, e_sl3, e_sss, ssI_ok, e_lss, lssI_ok, s3I_ok, s3J_c, s3J_n, s3K_c, s3K_n, e_isi, e_lc, lcJ_ok, e_bm, bmJ_ok, e_att, attI_ok, e_mth, mthI_ok, e_pk, e_cfn, calDd_s, ckwI_ok, ckwJ_ok, e_mpk, mpkI_ok, e_mthd, mtdI_ok, e_its, e_lrg, lrgI_ok, e_eqt, eqtI_ok, e_iso, isoI_ok, s_sta, staI_ok, staJ_ok, s_sti, stiI_ok, stiJ_ok, stiK_ok, nxO_s, s_wh, callD_f, es_nil, es_cons, esI_ok, esJ_ok, pAddI, pSubI, List.getElem?_cons_zero, List.getElem?_cons_succ, List.set_cons_zero, List.set_cons_succ, Bool.not_true, Bool.not_false, fo_ok (it _), q.1 h]
  | false =>
    obtain ⟨y2, y3, y4, e⟩ := q.2 h
    simp -implicitDefEqProofs only [b__law_covered, List.map_cons, List.map_nil, List.length_cons, List.length_nil, List.replicate, List.cons_append, List.nil_append, s_tr, tr_nx, tr_rt, tr_ex, s_rse, ex_ex, s_asg, asg_ok, s_ex, ex_ok, s_ret, ret_ok, s_retN, s_brk, s_cnt, s_pas, s_ite, ite_t, ite_f, s_fo, s_nil, s_cons, sq_nx, sq_rt, sq_bk, sq_ct, sq_ex, tel_nx, tel_rt, tel_ex, e_v, oj_s, e_c, e_g, e_nop, e_one, e_bin, e_cmp, e_idx, two_ok, twoJ_ok, e_and, and_t, and_f, e_or, or_t, or_f, e_ite, iteE_t, iteE_f, e_not, not_b, e_ch2, ch2I_ok, ch2J_ok, ch2K_t, ch2K_f, e_ch3, ch3I_ok, ch3J_ok, ch3K_t, ch3K_f, e_tup, e_lst, e_bi, e_call, lsI_ok, e_dct, dct_ok, ps_nil, ps_cons, psI_ok, psK_ok, e_sl, slI_ok, e_sl3, e_sss, ssI_ok, e_lss, lssI_ok, s3I_ok, s3J_c, s3J_n, s3K_c, s3K_n, e_isi, e_lc, lcJ_ok, e_bm, bmJ_ok, e_att, attI_ok, e_mth, mthI_ok, e_pk, e_cfn, calDd_s, ckwI_ok, ckwJ_ok, e_mpk, mpkI_ok, e_mthd, mtdI_ok, e_its, e_lrg, lrgI_ok, e_eqt, eqtI_ok, e_iso, isoI_ok, s_sta, staI_ok, staJ_ok, s_sti, stiI_ok, stiJ_ok, stiK_ok, nxO_s, s_wh, callD_f, es_nil, es_cons, esI_ok, esJ_ok, pAddI, pSubI, List.getElem?_cons_zero, List.getElem?_cons_succ, List.set_cons_zero, List.set_cons_succ, Bool.not_true, Bool.not_false, fo_ok (it _), e])
noncomputable def sklI (r : R D) : R D := r.bind fun x S1 => pSkl x S1
theorem e_skl {B : Tb} {C : Cal} {ρ : Ev} {S : Sto} {a : IE} : evE B C (.skl a) ρ S = sklI (evE B C a ρ S) := by first | (rw [evE]; done) | (rw [evE]; rfl)
theorem sklI_ok {S : Sto} {x : D} : sklI (.ok x S) = pSkl x S := rfl
theorem skl_tri {S : Sto} {k : Nat} {l : List I3} (h : S[k]? = some (.lst (hD l))) : pSkl (.ref k) S = .ok (.t (.lst ((l.mergeSort le3k).map tri))) S := by
  have e1 : (asList S (.ref k)).bind trisD = some l := by
    have : asList S (.ref k) = some (hD l) := by unfold asList; simp only [h]
    rw [this]; exact trisD_hD l
  unfold pSkl
  rw [e1]
  exact mkL_t (pls_hD _)
theorem hstep_len (m : List I3) (t : Int) : ∀ (cs : List Int) (s : HS), (cs.foldl (hstep m t) s).2.length ≤ s.2.length + cs.length
  | [], s => Nat.le_refl _
  | c :: cs, s => by
    have ih := hstep_len m t cs (hstep m t s c)
    have : (hstep m t s c).2.length ≤ s.2.length + 1 := by
      unfold hstep
      split <;> simp
    rw [List.foldl_cons, List.length_cons]
    omega
theorem hol_in (n : Nat) (A x3 : Option D) (m : List I3) (t : Int) : ∀ (cs : List Int) (s : HS) (x6 x7 : Option D), s.2.length + cs.length ≤ 10000000 →
    ∃ x6' x7', foL (.v 6) (evSs BT (cal BT PD (n + 1)) b__law_holes_1) (cs.map fun i => I i) [A, some (.ref 0), some (I t), x3, some (.t (.lst (m.map tri))), some (.t (opT s.1)), x6, x7] [.lst (hD s.2)] =
      .nx [A, some (.ref 0), some (I t), x3, some (.t (.lst (m.map tri))), some (.t (opT (cs.foldl (hstep m t) s).1)), x6', x7'] [.lst (hD (cs.foldl (hstep m t) s).2)]
  | [], s, x6, x7, _ => ⟨x6, x7, rfl⟩
  | c :: cs, s, x6, x7, hl => by
    rw [List.length_cons] at hl
    have hs1 : (hstep m t s c).2.length ≤ s.2.length + 1 := hstep_len m t [c] s
    obtain ⟨y6, y7, e⟩ := hol_in n A x3 m t cs (hstep m t s c) (some (I c)) (some (.t (.bl (covB m c)))) (by omega)
    refine ⟨y6, y7, Eq.trans ?_ e⟩
    rw [List.map_cons, fo_cons, setP_v, foA_s]
    simp only [List.set_cons_zero, List.set_cons_succ]
    have k := fun S => c_covered n m c S
    have body : evSs BT (cal BT PD (n + 1)) b__law_holes_1 [A, some (.ref 0), some (I t), x3, some (.t (.lst (m.map tri))), some (.t (opT s.1)), some (I c), x7] [.lst (hD s.2)] =
        .nx [A, some (.ref 0), some (I t), x3, some (.t (.lst (m.map tri))), some (.t (opT (hstep m t s c).1)), some (I c), some (.t (.bl (covB m c)))] [.lst (hD (hstep m t s c).2)] := by
      obtain ⟨b, acc⟩ := s
      simp only at hl
      rw [b__law_holes_1]
      unfold hstep
      simp only
      cases hc : covB m c with
      | true =>
        have k : ∀ S, callD (cal BT PD (n + 1)) true f__law_covered [.t (.lst (m.map tri)), I c] S = .ok (.t (.bl true)) S := fun S => by rw [k, hc]
        cases b with
        | none =>
          have i1 : ∀ S, pCmp .Is (.t (opT none)) (.t .non) S = .ok (.t (.bl true)) S := fun S => pIs_opt _ _
          simp -implicitDefEqProofs only [s_tr, tr_nx, tr_rt, tr_ex, s_rse, ex_ex, s_asg, asg_ok, s_ex, ex_ok, s_ret, ret_ok, s_retN, s_brk, s_cnt, s_pas, s_ite, ite_t, ite_f, s_fo, s_nil, s_cons, sq_nx, sq_rt, sq_bk, sq_ct, sq_ex, tel_nx, tel_rt, tel_ex, e_v, oj_s, e_c, e_g, e_nop, e_one, e_bin, e_cmp, e_idx, two_ok, twoJ_ok, e_and, and_t, and_f, e_or, or_t, or_f, e_ite, iteE_t, iteE_f, e_not, not_b, e_ch2, ch2I_ok, ch2J_ok, ch2K_t, ch2K_f, e_ch3, ch3I_ok, ch3J_ok, ch3K_t, ch3K_f, e_tup, e_lst, e_bi, e_call, lsI_ok, e_dct, dct_ok, ps_nil, ps_cons, psI_ok, psK_ok, e_sl, slI_ok, e_sl3, e_sss, ssI_ok, e_lss, lssI_ok, s3I_ok, s3J_c, s3J_n, s3K_c, s3K_n, e_isi, e_lc, lcJ_ok, e_bm, bmJ_ok, e_att, attI_ok, e_mth, mthI_ok, e_pk, e_cfn, calDd_s, ckwI_ok, ckwJ_ok, e_mpk, mpkI_ok, e_mthd, mtdI_ok, e_its, e_lrg, lrgI_ok, e_eqt, eqtI_ok, e_iso, isoI_ok, s_sta, staI_ok, staJ_ok, s_sti, stiI_ok, stiJ_ok, stiK_ok, nxO_s, s_wh, callD_f, es_nil, es_cons, esI_ok, esJ_ok, pAddI, pSubI, List.getElem?_cons_zero, List.getElem?_cons_succ, List.set_cons_zero, List.set_cons_succ, Bool.not_true, Bool.not_false, k, i1, setP_v, List.set_cons_zero, List.set_cons_succ]
          rfl
        | some b =>
          have i1 : ∀ S, pCmp .Is (.t (opT (some b))) (.t .non) S = .ok (.t (.bl false)) S := fun S => pIs_opt _ _
          simp -implicitDefEqProofs only [s_tr, tr_nx, tr_rt, tr_ex, s_rse, ex_ex, s_asg, asg_ok, s_ex, ex_ok, s_ret, ret_ok, s_retN, s_brk, s_cnt, s_pas, s_ite, ite_t, ite_f, s_fo, s_nil, s_cons, sq_nx, sq_rt, sq_bk, sq_ct, sq_ex, tel_nx, tel_rt, tel_ex, e_v, oj_s, e_c, e_g, e_nop, e_one, e_bin, e_cmp, e_idx, two_ok, twoJ_ok, e_and, and_t, and_f, e_or, or_t, or_f, e_ite, iteE_t, iteE_f, e_not, not_b, e_ch2, ch2I_ok, ch2J_ok, ch2K_t, ch2K_f, e_ch3, ch3I_ok, ch3J_ok, ch3K_t, ch3K_f, e_tup, e_lst, e_bi, e_call, lsI_ok, e_dct, dct_ok, ps_nil, ps_cons, psI_ok, psK_ok, e_sl, slI_ok, e_sl3, e_sss, ssI_ok, e_lss, lssI_ok, s3I_ok, s3J_c, s3J_n, s3K_c, s3K_n, e_isi, e_lc, lcJ_ok, e_bm, bmJ_ok, e_att, attI_ok, e_mth, mthI_ok, e_pk, e_cfn, calDd_s, ckwI_ok, ckwJ_ok, e_mpk, mpkI_ok, e_mthd, mtdI_ok, e_its, e_lrg, lrgI_ok, e_eqt, eqtI_ok, e_iso, isoI_ok, s_sta, staI_ok, staJ_ok, s_sti, stiI_ok, stiJ_ok, stiK_ok, nxO_s, s_wh, callD_f, es_nil, es_cons, esI_ok, esJ_ok, pAddI, pSubI, List.getElem?_cons_zero, List.getElem?_cons_succ, List.set_cons_zero, List.set_cons_succ, Bool.not_true, Bool.not_false, k, i1, setP_v, List.set_cons_zero, List.set_cons_succ]
      | false =>
        have k : ∀ S, callD (cal BT PD (n + 1)) true f__law_covered [.t (.lst (m.map tri)), I c] S = .ok (.t (.bl false)) S := fun S => by rw [k, hc]
        cases b with
        | none =>
          have i1 : ∀ S, pCmp .IsNot (.t (opT none)) (.t .non) S = .ok (.t (.bl false)) S := fun S => pIsN_opt _ _
          simp -implicitDefEqProofs only [s_tr, tr_nx, tr_rt, tr_ex, s_rse, ex_ex, s_asg, asg_ok, s_ex, ex_ok, s_ret, ret_ok, s_retN, s_brk, s_cnt, s_pas, s_ite, ite_t, ite_f, s_fo, s_nil, s_cons, sq_nx, sq_rt, sq_bk, sq_ct, sq_ex, tel_nx, tel_rt, tel_ex, e_v, oj_s, e_c, e_g, e_nop, e_one, e_bin, e_cmp, e_idx, two_ok, twoJ_ok, e_and, and_t, and_f, e_or, or_t, or_f, e_ite, iteE_t, iteE_f, e_not, not_b, e_ch2, ch2I_ok, ch2J_ok, ch2K_t, ch2K_f, e_ch3, ch3I_ok, ch3J_ok, ch3K_t, ch3K_f, e_tup, e_lst, e_bi, e_call, lsI_ok, e_dct, dct_ok, ps_nil, ps_cons, psI_ok, psK_ok, e_sl, slI_ok, e_sl3, e_sss, ssI_ok, e_lss, lssI_ok, s3I_ok, s3J_c, s3J_n, s3K_c, s3K_n, e_isi, e_lc, lcJ_ok, e_bm, bmJ_ok, e_att, attI_ok, e_mth, mthI_ok, e_pk, e_cfn, calDd_s, ckwI_ok, ckwJ_ok, e_mpk, mpkI_ok, e_mthd, mtdI_ok, e_its, e_lrg, lrgI_ok, e_eqt, eqtI_ok, e_iso, isoI_ok, s_sta, staI_ok, staJ_ok, s_sti, stiI_ok, stiJ_ok, stiK_ok, nxO_s, s_wh, callD_f, es_nil, es_cons, esI_ok, esJ_ok, pAddI, pSubI, List.getElem?_cons_zero, List.getElem?_cons_succ, List.set_cons_zero, List.set_cons_succ, Bool.not_true, Bool.not_false, k, i1, setP_v, List.set_cons_zero, List.set_cons_succ]
        | some b =>
          have i1 : ∀ S, pCmp .IsNot (.t (opT (some b))) (.t .non) S = .ok (.t (.bl true)) S := fun S => pIsN_opt _ _
          have mk : ∀ S, mkT [I t, .t (opT (some b)), I c] S = .ok (.t (tri (t, b, c))) S := fun S => mk_tri t b c S
          have kd := bmI_ok (B := BT) (C := cal BT PD (n + 1)) (m := false) (es := .cons (.tup (.cons (.v 2) (.cons (.v 5) (.cons (.v 6) .nil)))) .nil) (ρ := [A, some (.ref 0), some (I t), x3, some (.t (.lst (m.map tri))), some (.t (opT (some b))), some (I c), some (.t (.bl false))]) (kndR (S := [O.lst (hD acc)]) (k := 0) (xs := hD acc) rfl)
          have ap : pBm false .append (.ref 0) [.t (tri (t, b, c))] [O.lst (hD acc)] = .ok (.t .non) [O.lst (hD (acc ++ [(t, b, c)]))] := by
            rw [appR (S := [O.lst (hD acc)]) (k := 0) (xs := hD acc) rfl (by rw [List.length_map]; omega)]
            show R.ok _ [O.lst (hD acc ++ [.t (tri (t, b, c))])] = _
            simp [hD]
          simp -implicitDefEqProofs only [s_tr, tr_nx, tr_rt, tr_ex, s_rse, ex_ex, s_asg, asg_ok, s_ex, ex_ok, s_ret, ret_ok, s_retN, s_brk, s_cnt, s_pas, s_ite, ite_t, ite_f, s_fo, s_nil, s_cons, sq_nx, sq_rt, sq_bk, sq_ct, sq_ex, tel_nx, tel_rt, tel_ex, e_v, oj_s, e_c, e_g, e_nop, e_one, e_bin, e_cmp, e_idx, two_ok, twoJ_ok, e_and, and_t, and_f, e_or, or_t, or_f, e_ite, iteE_t, iteE_f, e_not, not_b, e_ch2, ch2I_ok, ch2J_ok, ch2K_t, ch2K_f, e_ch3, ch3I_ok, ch3J_ok, ch3K_t, ch3K_f, e_tup, e_lst, e_bi, e_call, lsI_ok, e_dct, dct_ok, ps_nil, ps_cons, psI_ok, psK_ok, e_sl, slI_ok, e_sl3, e_sss, ssI_ok, e_lss, lssI_ok, s3I_ok, s3J_c, s3J_n, s3K_c, s3K_n, e_isi, e_lc, lcJ_ok, e_bm, bmJ_ok, e_att, attI_ok, e_mth, mthI_ok, e_pk, e_cfn, calDd_s, ckwI_ok, ckwJ_ok, e_mpk, mpkI_ok, e_mthd, mtdI_ok, e_its, e_lrg, lrgI_ok, e_eqt, eqtI_ok, e_iso, isoI_ok, s_sta, staI_ok, staJ_ok, s_sti, stiI_ok, stiJ_ok, stiK_ok, nxO_s, s_wh, callD_f, es_nil, es_cons, esI_ok, esJ_ok, pAddI, pSubI, List.getElem?_cons_zero, List.getElem?_cons_succ, List.set_cons_zero, List.set_cons_succ, Bool.not_true, Bool.not_false, k, i1, kd, mk, ap, setP_v, List.set_cons_zero, List.set_cons_succ]
          rfl
    rw [body, foB_nx]
theorem hol_out (n : Nat) (xs : List I3) (hx : xs.length ≤ 900) : ∀ (ts : List Int) (acc : List I3) (x2 x3 x4 x5 x6 x7 : Option D), acc.length + 2000 * ts.length ≤ 10000000 →
    ∃ y2 y3 y4 y5 y6 y7, foL (.v 2) (evSs BT (cal BT PD (n + 1)) b__law_holes_2) (ts.map fun i => I i) [some (.t (.lst (xs.map tri))), some (.ref 0), x2, x3, x4, x5, x6, x7] [.lst (hD acc)] = .nx [some (.t (.lst (xs.map tri))), some (.ref 0), y2, y3, y4, y5, y6, y7] [.lst (hD (ts.foldl (hone xs) acc))]
  | [], acc, x2, x3, x4, x5, x6, x7, _ => ⟨x2, x3, x4, x5, x6, x7, rfl⟩
  | t :: ts, acc, x2, x3, x4, x5, x6, x7, hl => by
    rw [List.length_cons] at hl
    have ml : (mineF xs t).length ≤ xs.length := List.length_filter_le _ _
    have cl : (cutsF (mineF xs t)).length ≤ 1800 := by
      rw [(srtI_perm _).length_eq]
      have := ddI_len ((mineF xs t).map (·.2.1) ++ (mineF xs t).map (·.2.2))
      simp only [List.length_append, List.length_map] at this
      omega
    have hol := hstep_len (mineF xs t) t (cutsF (mineF xs t)) (none, acc)
    simp only at hol
    obtain ⟨x6', x7', e1⟩ := hol_in n (some (.t (.lst (xs.map tri)))) x3 (mineF xs t) t (cutsF (mineF xs t)) (none, acc) x6 x7 (by simp only; omega)
    obtain ⟨y2, y3, y4, y5, y6, y7, e⟩ := hol_out n xs hx ts (hone xs acc t) (some (I t)) x3 (some (.t (.lst ((mineF xs t).map tri)))) (some (.t (opT ((cutsF (mineF xs t)).foldl (hstep (mineF xs t) t) (none, acc)).1))) x6' x7' (by unfold hone; omega)
    refine ⟨y2, y3, y4, y5, y6, y7, Eq.trans ?_ e⟩
    rw [List.map_cons, fo_cons, setP_v, foA_s]
    simp only [List.set_cons_zero, List.set_cons_succ]
    have it : ∀ S, itemsOf .seq [.t (.lst (xs.map tri))] S = some (hD xs) := fun S => by rw [itL_s, List.map_map]; rfl
    have it2 : ∀ S, itemsOf .seq [.t (.lst ((mineF xs t).map tri))] S = some (hD (mineF xs t)) := fun S => by rw [itL_s, List.map_map]; rfl
    have it3 : ∀ S, itemsOf .seq [.t (.lst ((cutsF (mineF xs t)).map .int))] S = some ((cutsF (mineF xs t)).map fun i => I i) := fun S => by rw [itL_s, List.map_map]; rfl
    have lc : ∀ (x5 x6 x7 : Option D) S, lcL (.v 3) [some (.t (.lst (xs.map tri))), some (.ref 0), some (I t), none, x4, x5, x6, x7] (evE BT (cal BT PD (n + 1)) (.cmp .Eq (.idx (.v 3) (.c (.int 0))) (.v 2))) (evE BT (cal BT PD (n + 1)) (.v 3)) (hD xs) S [] = .ok (hD (mineF xs t)) S := fun x5 x6 x7 S => by
      have q := lcL_f1 (p := .v 3) (ρ := [some (.t (.lst (xs.map tri))), some (.ref 0), some (I t), none, x4, x5, x6, x7]) (cond := evE BT (cal BT PD (n + 1)) (.cmp .Eq (.idx (.v 3) (.c (.int 0))) (.v 2))) (el := evE BT (cal BT PD (n + 1)) (.v 3)) (S := S) (f := fun h => .t (tri h)) (fun h => decide (h.1 = t)) (fun h => .t (tri h)) (l := xs) (acc := []) (by simp; omega) fun h hh => by
        rw [lc1_s, setP_v, lc1A_s]
        simp only [List.set_cons_zero, List.set_cons_succ]
        by_cases c1 : h.1 = t
        · rw [decide_eq_true c1]
          simp -implicitDefEqProofs only [s_tr, tr_nx, tr_rt, tr_ex, s_rse, ex_ex, s_asg, asg_ok, s_ex, ex_ok, s_ret, ret_ok, s_retN, s_brk, s_cnt, s_pas, s_ite, ite_t, ite_f, s_fo, s_nil, s_cons, sq_nx, sq_rt, sq_bk, sq_ct, sq_ex, tel_nx, tel_rt, tel_ex, e_v, oj_s, e_c, e_g, e_nop, e_one, e_bin, e_cmp, e_idx, two_ok, twoJ_ok, e_and, and_t, and_f, e_or, or_t, or_f, e_ite, iteE_t, iteE_f, e_not, not_b, e_ch2, ch2I_ok, ch2J_ok, ch2K_t, ch2K_f, e_ch3, ch3I_ok, ch3J_ok, ch3K_t, ch3K_f, e_tup, e_lst, e_bi, e_call, lsI_ok, e_dct, dct_ok, ps_nil, ps_cons, psI_ok, psK_ok, e_sl, slI_ok, e_sl3, e_sss, ssI_ok, e_lss, lssI_ok, s3I_ok, s3J_c, s3J_n, s3K_c, s3K_n, e_isi, e_lc, lcJ_ok, e_bm, bmJ_ok, e_att, attI_ok, e_mth, mthI_ok, e_pk, e_cfn, calDd_s, ckwI_ok, ckwJ_ok, e_mpk, mpkI_ok, e_mthd, mtdI_ok, e_its, e_lrg, lrgI_ok, e_eqt, eqtI_ok, e_iso, isoI_ok, s_sta, staI_ok, staJ_ok, s_sti, stiI_ok, stiJ_ok, stiK_ok, nxO_s, s_wh, callD_f, es_nil, es_cons, esI_ok, esJ_ok, pAddI, pSubI, List.getElem?_cons_zero, List.getElem?_cons_succ, List.set_cons_zero, List.set_cons_succ, Bool.not_true, Bool.not_false, tri_i0, pEqI, decide_eq_true c1, lc1B_t, lc1D_ok, if_true]
        · rw [decide_eq_false c1]
          simp -implicitDefEqProofs only [s_tr, tr_nx, tr_rt, tr_ex, s_rse, ex_ex, s_asg, asg_ok, s_ex, ex_ok, s_ret, ret_ok, s_retN, s_brk, s_cnt, s_pas, s_ite, ite_t, ite_f, s_fo, s_nil, s_cons, sq_nx, sq_rt, sq_bk, sq_ct, sq_ex, tel_nx, tel_rt, tel_ex, e_v, oj_s, e_c, e_g, e_nop, e_one, e_bin, e_cmp, e_idx, two_ok, twoJ_ok, e_and, and_t, and_f, e_or, or_t, or_f, e_ite, iteE_t, iteE_f, e_not, not_b, e_ch2, ch2I_ok, ch2J_ok, ch2K_t, ch2K_f, e_ch3, ch3I_ok, ch3J_ok, ch3K_t, ch3K_f, e_tup, e_lst, e_bi, e_call, lsI_ok, e_dct, dct_ok, ps_nil, ps_cons, psI_ok, psK_ok, e_sl, slI_ok, e_sl3, e_sss, ssI_ok, e_lss, lssI_ok, s3I_ok, s3J_c, s3J_n, s3K_c, s3K_n, e_isi, e_lc, lcJ_ok, e_bm, bmJ_ok, e_att, attI_ok, e_mth, mthI_ok, e_pk, e_cfn, calDd_s, ckwI_ok, ckwJ_ok, e_mpk, mpkI_ok, e_mthd, mtdI_ok, e_its, e_lrg, lrgI_ok, e_eqt, eqtI_ok, e_iso, isoI_ok, s_sta, staI_ok, staJ_ok, s_sti, stiI_ok, stiJ_ok, stiK_ok, nxO_s, s_wh, callD_f, es_nil, es_cons, esI_ok, esJ_ok, pAddI, pSubI, List.getElem?_cons_zero, List.getElem?_cons_succ, List.set_cons_zero, List.set_cons_succ, Bool.not_true, Bool.not_false, tri_i0, pEqI, decide_eq_false c1, lc1B_f, Bool.false_eq_true, if_false]
      rw [List.nil_append] at q
      exact q
    have mk : ∀ S, mkL false (hD (mineF xs t)) S = .ok (.t (.lst ((mineF xs t).map tri))) S := fun S => mkL_t (pls_hD _)
    have lcA : ∀ (k : Int) (g : I3 → Int) (hg : ∀ h S, pIdx (.t (tri h)) (I k) S = .ok (I (g h)) S) S, lcL (.v 3) [some (.t (.lst (xs.map tri))), some (.ref 0), some (I t), none, some (.t (.lst ((mineF xs t).map tri))), some (.t .non), x6, x7] (evE BT (cal BT PD (n + 1)) (.c (.bl true))) (evE BT (cal BT PD (n + 1)) (.idx (.v 3) (.c (.int k)))) (hD (mineF xs t)) S [] = .ok ((mineF xs t).map fun h => I (g h)) S := fun k g hg S => by
      have q := lcL_m1 (p := .v 3) (ρ := [some (.t (.lst (xs.map tri))), some (.ref 0), some (I t), none, some (.t (.lst ((mineF xs t).map tri))), some (.t .non), x6, x7]) (cond := evE BT (cal BT PD (n + 1)) (.c (.bl true))) (el := evE BT (cal BT PD (n + 1)) (.idx (.v 3) (.c (.int k)))) (S := S) (f := fun h => .t (tri h)) (fun h => I (g h)) (l := mineF xs t) (acc := []) (by simp only [List.length_nil]; omega) fun h hh => by
        rw [lc1_s, setP_v, lc1A_s]
        simp only [List.set_cons_zero, List.set_cons_succ]
        simp -implicitDefEqProofs only [s_tr, tr_nx, tr_rt, tr_ex, s_rse, ex_ex, s_asg, asg_ok, s_ex, ex_ok, s_ret, ret_ok, s_retN, s_brk, s_cnt, s_pas, s_ite, ite_t, ite_f, s_fo, s_nil, s_cons, sq_nx, sq_rt, sq_bk, sq_ct, sq_ex, tel_nx, tel_rt, tel_ex, e_v, oj_s, e_c, e_g, e_nop, e_one, e_bin, e_cmp, e_idx, two_ok, twoJ_ok, e_and, and_t, and_f, e_or, or_t, or_f, e_ite, iteE_t, iteE_f, e_not, not_b, e_ch2, ch2I_ok, ch2J_ok, ch2K_t, ch2K_f, e_ch3, ch3I_ok, ch3J_ok, ch3K_t, ch3K_f, e_tup, e_lst, e_bi, e_call, lsI_ok, e_dct, dct_ok, ps_nil, ps_cons, psI_ok, psK_ok, e_sl, slI_ok, e_sl3, e_sss, ssI_ok, e_lss, lssI_ok, s3I_ok, s3J_c, s3J_n, s3K_c, s3K_n, e_isi, e_lc, lcJ_ok, e_bm, bmJ_ok, e_att, attI_ok, e_mth, mthI_ok, e_pk, e_cfn, calDd_s, ckwI_ok, ckwJ_ok, e_mpk, mpkI_ok, e_mthd, mtdI_ok, e_its, e_lrg, lrgI_ok, e_eqt, eqtI_ok, e_iso, isoI_ok, s_sta, staI_ok, staJ_ok, s_sti, stiI_ok, stiJ_ok, stiK_ok, nxO_s, s_wh, callD_f, es_nil, es_cons, esI_ok, esJ_ok, pAddI, pSubI, List.getElem?_cons_zero, List.getElem?_cons_succ, List.set_cons_zero, List.set_cons_succ, Bool.not_true, Bool.not_false, hg, lc1B_t, lc1D_ok]
      rw [List.nil_append] at q
      exact q
    have mkA : ∀ (g : I3 → Int) S, mkL false ((mineF xs t).map fun h => I (g h)) S = .ok (.t (.lst (((mineF xs t).map g).map .int))) S := fun g S => by
      rw [mkL_t (pls_of (fun h : I3 => T.int (g h)) _), List.map_map]; rfl
    have ad : ∀ S, pBin false .Add (.t (.lst (((mineF xs t).map (·.2.1)).map .int))) (.t (.lst (((mineF xs t).map (·.2.2)).map .int))) S = .ok (.t (.lst (((mineF xs t).map (·.2.1) ++ (mineF xs t).map (·.2.2)).map .int))) S := fun S => by
      rw [pAddL_s (by simp only [List.length_map]; omega), ← List.map_append]
    have so := fun S => sssR ((mineF xs t).map (·.2.1) ++ (mineF xs t).map (·.2.2)) (by simp only [List.length_append, List.length_map]; omega) S
    have body : evSs BT (cal BT PD (n + 1)) b__law_holes_2 [some (.t (.lst (xs.map tri))), some (.ref 0), some (I t), x3, x4, x5, x6, x7] [.lst (hD acc)] =
        .nx [some (.t (.lst (xs.map tri))), some (.ref 0), some (I t), x3, some (.t (.lst ((mineF xs t).map tri))), some (.t (opT ((cutsF (mineF xs t)).foldl (hstep (mineF xs t) t) (none, acc)).1)), x6', x7'] [.lst (hD (hone xs acc t))] := by
      rw [b__law_holes_2]
      refine Eq.trans (run_consR (run_asgR (S1 := [.lst (hD acc)]) (d := .t (.lst ((mineF xs t).map tri))) (ρ1 := [some (.t (.lst (xs.map tri))), some (.ref 0), some (I t), x3, some (.t (.lst ((mineF xs t).map tri))), x5, x6, x7]) ?_ rfl)) ?_
      · simp -implicitDefEqProofs only [s_tr, tr_nx, tr_rt, tr_ex, s_rse, ex_ex, s_asg, asg_ok, s_ex, ex_ok, s_ret, ret_ok, s_retN, s_brk, s_cnt, s_pas, s_ite, ite_t, ite_f, s_fo, s_nil, s_cons, sq_nx, sq_rt, sq_bk, sq_ct, sq_ex, tel_nx, tel_rt, tel_ex, e_v, oj_s, e_c, e_g, e_nop, e_one, e_bin, e_cmp, e_idx, two_ok, twoJ_ok, e_and, and_t, and_f, e_or, or_t, or_f, e_ite, iteE_t, iteE_f, e_not, not_b, e_ch2, ch2I_ok, ch2J_ok, ch2K_t, ch2K_f, e_ch3, ch3I_ok, ch3J_ok, ch3K_t, ch3K_f, e_tup, e_lst, e_bi, e_call, lsI_ok, e_dct, dct_ok, ps_nil, ps_cons, psI_ok, psK_ok, e_sl, slI_ok, e_sl3, e_sss, ssI_ok, e_lss, lssI_ok, s3I_ok, s3J_c, s3J_n, s3K_c, s3K_n, e_isi, e_lc, lcJ_ok, e_bm, bmJ_ok, e_att, attI_ok, e_mth, mthI_ok, e_pk, e_cfn, calDd_s, ckwI_ok, ckwJ_ok, e_mpk, mpkI_ok, e_mthd, mtdI_ok, e_its, e_lrg, lrgI_ok, e_eqt, eqtI_ok, e_iso, isoI_ok, s_sta, staI_ok, staJ_ok, s_sti, stiI_ok, stiJ_ok, stiK_ok, nxO_s, s_wh, callD_f, es_nil, es_cons, esI_ok, esJ_ok, pAddI, pSubI, List.getElem?_cons_zero, List.getElem?_cons_succ, List.set_cons_zero, List.set_cons_succ, Bool.not_true, Bool.not_false, lcI_ok (it _), wipeL, Pt.own, List.set_cons_zero, List.set_cons_succ, lc, lcJ_ok, mk]
      refine Eq.trans (run_consR (run_asgR (S1 := [.lst (hD acc)]) (d := .t .non) (ρ1 := [some (.t (.lst (xs.map tri))), some (.ref 0), some (I t), x3, some (.t (.lst ((mineF xs t).map tri))), some (.t .non), x6, x7]) ?_ rfl)) ?_
      · simp -implicitDefEqProofs only [s_tr, tr_nx, tr_rt, tr_ex, s_rse, ex_ex, s_asg, asg_ok, s_ex, ex_ok, s_ret, ret_ok, s_retN, s_brk, s_cnt, s_pas, s_ite, ite_t, ite_f, s_fo, s_nil, s_cons, sq_nx, sq_rt, sq_bk, sq_ct, sq_ex, tel_nx, tel_rt, tel_ex, e_v, oj_s, e_c, e_g, e_nop, e_one, e_bin, e_cmp, e_idx, two_ok, twoJ_ok, e_and, and_t, and_f, e_or, or_t, or_f, e_ite, iteE_t, iteE_f, e_not, not_b, e_ch2, ch2I_ok, ch2J_ok, ch2K_t, ch2K_f, e_ch3, ch3I_ok, ch3J_ok, ch3K_t, ch3K_f, e_tup, e_lst, e_bi, e_call, lsI_ok, e_dct, dct_ok, ps_nil, ps_cons, psI_ok, psK_ok, e_sl, slI_ok, e_sl3, e_sss, ssI_ok, e_lss, lssI_ok, s3I_ok, s3J_c, s3J_n, s3K_c, s3K_n, e_isi, e_lc, lcJ_ok, e_bm, bmJ_ok, e_att, attI_ok, e_mth, mthI_ok, e_pk, e_cfn, calDd_s, ckwI_ok, ckwJ_ok, e_mpk, mpkI_ok, e_mthd, mtdI_ok, e_its, e_lrg, lrgI_ok, e_eqt, eqtI_ok, e_iso, isoI_ok, s_sta, staI_ok, staJ_ok, s_sti, stiI_ok, stiJ_ok, stiK_ok, nxO_s, s_wh, callD_f, es_nil, es_cons, esI_ok, esJ_ok, pAddI, pSubI, List.getElem?_cons_zero, List.getElem?_cons_succ, List.set_cons_zero, List.set_cons_succ, Bool.not_true, Bool.not_false]
      refine Eq.trans (run_consR (S1 := [.lst (hD (hone xs acc t))]) (ρ1 := [some (.t (.lst (xs.map tri))), some (.ref 0), some (I t), x3, some (.t (.lst ((mineF xs t).map tri))), some (.t (opT ((cutsF (mineF xs t)).foldl (hstep (mineF xs t) t) (none, acc)).1)), x6', x7']) ?_) (s_nil ..)
      simp -implicitDefEqProofs only [s_tr, tr_nx, tr_rt, tr_ex, s_rse, ex_ex, s_asg, asg_ok, s_ex, ex_ok, s_ret, ret_ok, s_retN, s_brk, s_cnt, s_pas, s_ite, ite_t, ite_f, s_fo, s_nil, s_cons, sq_nx, sq_rt, sq_bk, sq_ct, sq_ex, tel_nx, tel_rt, tel_ex, e_v, oj_s, e_c, e_g, e_nop, e_one, e_bin, e_cmp, e_idx, two_ok, twoJ_ok, e_and, and_t, and_f, e_or, or_t, or_f, e_ite, iteE_t, iteE_f, e_not, not_b, e_ch2, ch2I_ok, ch2J_ok, ch2K_t, ch2K_f, e_ch3, ch3I_ok, ch3J_ok, ch3K_t, ch3K_f, e_tup, e_lst, e_bi, e_call, lsI_ok, e_dct, dct_ok, ps_nil, ps_cons, psI_ok, psK_ok, e_sl, slI_ok, e_sl3, e_sss, ssI_ok, e_lss, lssI_ok, s3I_ok, s3J_c, s3J_n, s3K_c, s3K_n, e_isi, e_lc, lcJ_ok, e_bm, bmJ_ok, e_att, attI_ok, e_mth, mthI_ok, e_pk, e_cfn, calDd_s, ckwI_ok, ckwJ_ok, e_mpk, mpkI_ok, e_mthd, mtdI_ok, e_its, e_lrg, lrgI_ok, e_eqt, eqtI_ok, e_iso, isoI_ok, s_sta, staI_ok, staJ_ok, s_sti, stiI_ok, stiJ_ok, stiK_ok, nxO_s, s_wh, callD_f, es_nil, es_cons, esI_ok, esJ_ok, pAddI, pSubI, List.getElem?_cons_zero, List.getElem?_cons_succ, List.set_cons_zero, List.set_cons_succ, Bool.not_true, Bool.not_false, lcI_ok (it2 _), wipeL, Pt.own, List.set_cons_zero, List.set_cons_succ, lcA 1 (·.2.1) tri_i1, lcA 2 (·.2.2) tri_i2, lcJ_ok, mkA, ad, so, fo_ok (it3 _)]
      exact e1
    rw [body, foB_nx]
theorem c_holes (n : Nat) (xs : List I3) (hx : xs.length ≤ 900) (S : Sto) : callD (cal BT PD (n + 2)) true f__law_holes [.t (.lst (xs.map tri))] S = .ok (.t (.lst ((holesF xs).map tri))) S := cx1 (by
  have it : ∀ S, itemsOf .seq [.t (.lst (xs.map tri))] S = some (hD xs) := fun S => by rw [itL_s, List.map_map]; rfl
  have it3 : ∀ S, itemsOf .seq [.t (.lst ((srtI (ddI (xs.map (·.1)))).map .int))] S = some ((srtI (ddI (xs.map (·.1)))).map fun i => I i) := fun S => by rw [itL_s, List.map_map]; rfl
  have tl : (srtI (ddI (xs.map (·.1)))).length ≤ 900 := by
    rw [(srtI_perm _).length_eq]
    have := ddI_len (xs.map (·.1))
    simp only [List.length_map] at this
    omega
  obtain ⟨y2, y3, y4, y5, y6, y7, e⟩ := hol_out n xs hx (srtI (ddI (xs.map (·.1)))) [] none none none none none none (by simp only [List.length_nil]; omega)
  have e : foL (.v 2) (evSs BT (cal BT PD (n + 1)) b__law_holes_2) ((srtI (ddI (xs.map (·.1)))).map fun i => I i) [some (.t (.lst (xs.map tri))), some (.ref 0), none, none, none, none, none, none] [.lst []] = .nx [some (.t (.lst (xs.map tri))), some (.ref 0), y2, y3, y4, y5, y6, y7] [.lst (hD ((srtI (ddI (xs.map (·.1)))).foldl (hone xs) []))] := e
  have lcA : ∀ S, lcL (.v 3) [some (.t (.lst (xs.map tri))), some (.ref 0), none, none, none, none, none, none] (evE BT (cal BT PD (n + 1)) (.c (.bl true))) (evE BT (cal BT PD (n + 1)) (.idx (.v 3) (.c (.int 0)))) (hD xs) S [] = .ok (xs.map fun h => I h.1) S := fun S => by
    have q := lcL_m1 (p := .v 3) (ρ := [some (.t (.lst (xs.map tri))), some (.ref 0), none, none, none, none, none, none]) (cond := evE BT (cal BT PD (n + 1)) (.c (.bl true))) (el := evE BT (cal BT PD (n + 1)) (.idx (.v 3) (.c (.int 0)))) (S := S) (f := fun h => .t (tri h)) (fun h => I h.1) (l := xs) (acc := []) (by simp only [List.length_nil]; omega) fun h hh => by
      rw [lc1_s, setP_v, lc1A_s]
      simp only [List.set_cons_zero, List.set_cons_succ]
      simp -implicitDefEqProofs only [s_tr, tr_nx, tr_rt, tr_ex, s_rse, ex_ex, s_asg, asg_ok, s_ex, ex_ok, s_ret, ret_ok, s_retN, s_brk, s_cnt, s_pas, s_ite, ite_t, ite_f, s_fo, s_nil, s_cons, sq_nx, sq_rt, sq_bk, sq_ct, sq_ex, tel_nx, tel_rt, tel_ex, e_v, oj_s, e_c, e_g, e_nop, e_one, e_bin, e_cmp, e_idx, two_ok, twoJ_ok, e_and, and_t, and_f, e_or, or_t, or_f, e_ite, iteE_t, iteE_f, e_not, not_b, e_ch2, ch2I_ok, ch2J_ok, ch2K_t, ch2K_f, e_ch3, ch3I_ok, ch3J_ok, ch3K_t, ch3K_f, e_tup, e_lst, e_bi, e_call, lsI_ok, e_dct, dct_ok, ps_nil, ps_cons, psI_ok, psK_ok, e_sl, slI_ok, e_sl3, e_sss, ssI_ok, e_lss, lssI_ok, s3I_ok, s3J_c, s3J_n, s3K_c, s3K_n, e_isi, e_lc, lcJ_ok, e_bm, bmJ_ok, e_att, attI_ok, e_mth, mthI_ok, e_pk, e_cfn, calDd_s, ckwI_ok, ckwJ_ok, e_mpk, mpkI_ok, e_mthd, mtdI_ok, e_its, e_lrg, lrgI_ok, e_eqt, eqtI_ok, e_iso, isoI_ok, s_sta, staI_ok, staJ_ok, s_sti, stiI_ok, stiJ_ok, stiK_ok, nxO_s, s_wh, callD_f, es_nil, es_cons, esI_ok, esJ_ok, pAddI, pSubI, List.getElem?_cons_zero, List.getElem?_cons_succ, List.set_cons_zero, List.set_cons_succ, Bool.not_true, Bool.not_false, tri_i0, lc1B_t, lc1D_ok]
    rw [List.nil_append] at q
    exact q
  have mkA : ∀ S, mkL false (xs.map fun h => I h.1) S = .ok (.t (.lst ((xs.map (·.1)).map .int))) S := fun S => by
    rw [mkL_t (pls_of (fun h : I3 => T.int h.1) _), List.map_map]; rfl
  have so := fun S => sssR (xs.map (·.1)) (by simp only [List.length_map]; omega) S
  have sk := skl_tri (S := [.lst (hD ((srtI (ddI (xs.map (·.1)))).foldl (hone xs) []))]) (k := 0) rfl
  refine ⟨[.lst (hD ((srtI (ddI (xs.map (·.1)))).foldl (hone xs) []))], ?_⟩
  rw [r_def (d := ⟨1, 8, b__law_holes⟩) rfl rfl]
  rw [b__law_holes]
  simp -implicitDefEqProofs only [List.map_cons, List.map_nil, List.length_cons, List.length_nil, List.replicate, List.cons_append, List.nil_append]
  refine Eq.trans (congrArg tel (run_consR (run_asgR (S1 := [.lst []]) (d := .ref 0) (ρ1 := [some (.t (.lst (xs.map tri))), some (.ref 0), none, none, none, none, none, none]) ?_ rfl))) ?_
  · simp -implicitDefEqProofs only [s_tr, tr_nx, tr_rt, tr_ex, s_rse, ex_ex, s_asg, asg_ok, s_ex, ex_ok, s_ret, ret_ok, s_retN, s_brk, s_cnt, s_pas, s_ite, ite_t, ite_f, s_fo, s_nil, s_cons, sq_nx, sq_rt, sq_bk, sq_ct, sq_ex, tel_nx, tel_rt, tel_ex, e_v, oj_s, e_c, e_g, e_nop, e_one, e_bin, e_cmp, e_idx, two_ok, twoJ_ok, e_and, and_t, and_f, e_or, or_t, or_f, e_ite, iteE_t, iteE_f, e_not, not_b, e_ch2, ch2I_ok, ch2J_ok, ch2K_t, ch2K_f, e_ch3, ch3I_ok, ch3J_ok, ch3K_t, ch3K_f, e_tup, e_lst, e_bi, e_call, lsI_ok, e_dct, dct_ok, ps_nil, ps_cons, psI_ok, psK_ok, e_sl, slI_ok, e_sl3, e_sss, ssI_ok, e_lss, lssI_ok, s3I_ok, s3J_c, s3J_n, s3K_c, s3K_n, e_isi, e_lc, lcJ_ok, e_bm, bmJ_ok, e_att, attI_ok, e_mth, mthI_ok, e_pk, e_cfn, calDd_s, ckwI_ok, ckwJ_ok, e_mpk, mpkI_ok, e_mthd, mtdI_ok, e_its, e_lrg, lrgI_ok, e_eqt, eqtI_ok, e_iso, isoI_ok, s_sta, staI_ok, staJ_ok, s_sti, stiI_ok, stiJ_ok, stiK_ok, nxO_s, s_wh, callD_f, es_nil, es_cons, esI_ok, esJ_ok, pAddI, pSubI, List.getElem?_cons_zero, List.getElem?_cons_succ, List.set_cons_zero, List.set_cons_succ, Bool.not_true, Bool.not_false, mkL_r]; rfl
  refine Eq.trans (congrArg tel (run_consR (S1 := [.lst (hD ((srtI (ddI (xs.map (·.1)))).foldl (hone xs) []))]) (ρ1 := [some (.t (.lst (xs.map tri))), some (.ref 0), y2, y3, y4, y5, y6, y7]) ?_)) ?_
  · simp -implicitDefEqProofs only [s_tr, tr_nx, tr_rt, tr_ex, s_rse, ex_ex, s_asg, asg_ok, s_ex, ex_ok, s_ret, ret_ok, s_retN, s_brk, s_cnt, s_pas, s_ite, ite_t, ite_f, s_fo, s_nil, s_cons, sq_nx, sq_rt, sq_bk, sq_ct, sq_ex, tel_nx, tel_rt, tel_ex, e_v, oj_s, e_c, e_g, e_nop, e_one, e_bin, e_cmp, e_idx, two_ok, twoJ_ok, e_and, and_t, and_f, e_or, or_t, or_f, e_ite, iteE_t, iteE_f, e_not, not_b, e_ch2, ch2I_ok, ch2J_ok, ch2K_t, ch2K_f, e_ch3, ch3I_ok, ch3J_ok, ch3K_t, ch3K_f, e_tup, e_lst, e_bi, e_call, lsI_ok, e_dct, dct_ok, ps_nil, ps_cons, psI_ok, psK_ok, e_sl, slI_ok, e_sl3, e_sss, ssI_ok, e_lss, lssI_ok, s3I_ok, s3J_c, s3J_n, s3K_c, s3K_n, e_isi, e_lc, lcJ_ok, e_bm, bmJ_ok, e_att, attI_ok, e_mth, mthI_ok, e_pk, e_cfn, calDd_s, ckwI_ok, ckwJ_ok, e_mpk, mpkI_ok, e_mthd, mtdI_ok, e_its, e_lrg, lrgI_ok, e_eqt, eqtI_ok, e_iso, isoI_ok, s_sta, staI_ok, staJ_ok, s_sti, stiI_ok, stiJ_ok, stiK_ok, nxO_s, s_wh, callD_f, es_nil, es_cons, esI_ok, esJ_ok, pAddI, pSubI, List.getElem?_cons_zero, List.getElem?_cons_succ, List.set_cons_zero, List.set_cons_succ, Bool.not_true, Bool.not_false, lcI_ok (it _), wipeL, Pt.own, List.set_cons_zero, List.set_cons_succ, lcA, lcJ_ok, mkA, so, fo_ok (it3 _)]
    exact e
  simp -implicitDefEqProofs only [s_tr, tr_nx, tr_rt, tr_ex, s_rse, ex_ex, s_asg, asg_ok, s_ex, ex_ok, s_ret, ret_ok, s_retN, s_brk, s_cnt, s_pas, s_ite, ite_t, ite_f, s_fo, s_nil, s_cons, sq_nx, sq_rt, sq_bk, sq_ct, sq_ex, tel_nx, tel_rt, tel_ex, e_v, oj_s, e_c, e_g, e_nop, e_one, e_bin, e_cmp, e_idx, two_ok, twoJ_ok, e_and, and_t, and_f, e_or, or_t, or_f, e_ite, iteE_t, iteE_f, e_not, not_b, e_ch2, ch2I_ok, ch2J_ok, ch2K_t, ch2K_f, e_ch3, ch3I_ok, ch3J_ok, ch3K_t, ch3K_f, e_tup, e_lst, e_bi, e_call, lsI_ok, e_dct, dct_ok, ps_nil, ps_cons, psI_ok, psK_ok, e_sl, slI_ok, e_sl3, e_sss, ssI_ok, e_lss, lssI_ok, s3I_ok, s3J_c, s3J_n, s3K_c, s3K_n, e_isi, e_lc, lcJ_ok, e_bm, bmJ_ok, e_att, attI_ok, e_mth, mthI_ok, e_pk, e_cfn, calDd_s, ckwI_ok, ckwJ_ok, e_mpk, mpkI_ok, e_mthd, mtdI_ok, e_its, e_lrg, lrgI_ok, e_eqt, eqtI_ok, e_iso, isoI_ok, s_sta, staI_ok, staJ_ok, s_sti, stiI_ok, stiJ_ok, stiK_ok, nxO_s, s_wh, callD_f, es_nil, es_cons, esI_ok, esJ_ok, pAddI, pSubI, List.getElem?_cons_zero, List.getElem?_cons_succ, List.set_cons_zero, List.set_cons_succ, Bool.not_true, Bool.not_false, e_skl, sklI_ok, sk]
  rfl)
def opS (zs : List I3) (x : Int) : List Int := srtI (ddI ((zs.filter fun h => decide (h.2.1 ≤ x ∧ x < h.2.2)).map (·.1)))
theorem opS_mem (zs : List I3) (x t : Int) : t ∈ opS zs x ↔ Cov zs t x := by
  unfold opS
  rw [(srtI_perm _).mem_iff, ddI_mem, List.mem_map]
  constructor
  · rintro ⟨h, hh, rfl⟩
    rw [List.mem_filter, decide_eq_true_eq] at hh
    exact ⟨h, hh.1, rfl, hh.2.1, hh.2.2⟩
  · rintro ⟨h, hh, e1, e2, e3⟩
    exact ⟨h, List.mem_filter.mpr ⟨hh, decide_eq_true ⟨e2, e3⟩⟩, e1⟩
theorem is_lp (n : Nat) (A B C : Option D) : ∀ (l : List I3) (x3 : Option D), ∃ x3', foL (.v 3) (evSs BT (cal BT PD (n + 1)) b__law_is_1) (hD l) [A, B, C, x3, none] [] = .nx [A, B, C, x3', none] []
  | [], x3 => ⟨x3, rfl⟩
  | h :: l, x3 => by
    obtain ⟨y3, e⟩ := is_lp n A B C l (some (.t (tri h)))
    refine ⟨y3, Eq.trans ?_ e⟩
    show foL _ _ (.t (tri h) :: hD l) _ _ = _
    have w := fun i S => c_whole n i S
    have it : ∀ S, isiB BT.sub S (.t (tri h)) .tuple = some true := fun _ => rfl
    have its : ∀ S, itemsOf .seq [.t (tri h)] S = some [I h.1, I h.2.1, I h.2.2] := fun _ => rfl
    have ln : ∀ S, pBi false .len [.t (.lst [.int h.1, .int h.2.1, .int h.2.2])] S = .ok (I 3) S := fun _ => rfl
    have n3 : ∀ S, pCmp .NotEq (I 3) (I 3) S = .ok (.t (.bl false)) S := fun S => by rw [pNeI]; rfl
    have body : evSs BT (cal BT PD (n + 1)) b__law_is_1 [A, B, C, some (.t (tri h)), none] [] = .nx [A, B, C, some (.t (tri h)), none] [] := by
      rw [b__law_is_1]
      simp -implicitDefEqProofs (disch := (first | omega | rfl | (simp only [List.length_map, List.length_append, List.length_cons, List.length_nil, List.length_range] <;> omega))) only [s_tr, tr_nx, tr_rt, tr_ex, s_rse, ex_ex, s_asg, asg_ok, s_ex, ex_ok, s_ret, ret_ok, s_retN, s_brk, s_cnt, s_pas, s_ite, ite_t, ite_f, s_fo, s_nil, s_cons, sq_nx, sq_rt, sq_bk, sq_ct, sq_ex, tel_nx, tel_rt, tel_ex, e_v, oj_s, e_c, e_g, e_nop, e_one, e_bin, e_cmp, e_idx, two_ok, twoJ_ok, e_and, and_t, and_f, e_or, or_t, or_f, e_ite, iteE_t, iteE_f, e_not, not_b, e_ch2, ch2I_ok, ch2J_ok, ch2K_t, ch2K_f, e_ch3, ch3I_ok, ch3J_ok, ch3K_t, ch3K_f, e_tup, e_lst, e_bi, e_call, lsI_ok, e_dct, dct_ok, ps_nil, ps_cons, psI_ok, psK_ok, e_sl, slI_ok, e_sl3, e_sss, ssI_ok, e_lss, lssI_ok, s3I_ok, s3J_c, s3J_n, s3K_c, s3K_n, e_isi, e_lc, lcJ_ok, e_bm, bmJ_ok, e_att, attI_ok, e_mth, mthI_ok, e_pk, e_cfn, calDd_s, ckwI_ok, ckwJ_ok, e_mpk, mpkI_ok, e_mthd, mtdI_ok, e_its, e_lrg, lrgI_ok, e_eqt, eqtI_ok, e_iso, isoI_ok, s_sta, staI_ok, staJ_ok, s_sti, stiI_ok, stiJ_ok, stiK_ok, nxO_s, s_wh, callD_f, es_nil, es_cons, esI_ok, esJ_ok, pAddI, pSubI, List.getElem?_cons_zero, List.getElem?_cons_succ, List.set_cons_zero, List.set_cons_succ, Bool.not_true, Bool.not_false, pMulL, pMulR, pDiv, pMod, pPowL, pShrI, decT, decF, decide_true, decide_false, pls_nl, pls_cs, plC_s, pls_tp, pls_rf, plC_n, mtI_n, pls_mp, mkL_s, mkL_r, mlI_s, mkT_s, mtI_s, setP_v, setP_2, setP_3, setP_4, setP_5, setP_d2, setP_n2, asg_t, asT_s, fo_st, foX_s, fo_nil, fo_cons, foA_s, foB_nx, foB_ct, foB_bk, foB_rt, itemsL_s, itA_s, lc_st, lcX_s, itL_s, itT_s, itD_s, itR_s, itR2_s, lc_nil, lc_cons, lcA_s, lcB_t, lcB_f, lcD_ok, lc1_s, lc1A_s, lc1B_t, lc1B_f, lc1D_ok, pIdx_l, pIdx_t, opM_s, pLenL_s, pLenT_s, pLenSc, e_fz, fzI_ok, fzJ_s, frz0, frz1, frz0f, frz1f, app0, app1, app2, kd0, kd1, kd2, isn_i, isn_n, isn_t, inn_i, inn_n, inn_t, inn_l, bi_int_i, bi_int_t, bi_int_f, pEqI, pNeI, pLt, pLe, pGt, pGe, wipeL, Pt.own, rng1, rng2, rng3, rng4, List.map_cons, List.map_nil, List.nil_append, List.cons_append, Int.reduceToNat, Int.reduceAdd, Int.reduceSub, Int.reduceMul, Int.toNat_zero, Int.toNat_one, Int.toNat_natCast, Int.natCast_zero, Int.natCast_one, Int.cast_ofNat_Int, mthI_ok, appE, kdE, frzE, frzEf, frzE1, frzE2, itO_ref, itA_n, itRfE, itRf0, itRf1, slJ_c1, slK_c1, slJ_v1, slK_v1, slJ_b1, slK_b1, slJ_i1, slK_i1, slJ_g1, slK_g1, slJ_u1, slK_u1, slJ_n, slK_n, pIdxE0, pIdxE1, pNe_nn, pEq_nn, pAddL_s, psJ_str, psJ_int, kdS_join, kdS_split, kdS_startswith, kdL_index, kdI_bits, kdD_get, pureE, pureEs, Bool.and_self, Bool.true_and, Bool.and_true, Bool.not_false, it, isi_ok (it _), lcI_ok (its _), w, ln, n3]
    rw [fo_cons, setP_v, foA_s]
    simp only [List.set_cons_zero, List.set_cons_succ]
    rw [body, foB_nx]
theorem c_is (n : Nat) (L M : Int) (hs ks : List I3) (S : Sto) : callD (cal BT PD (n + 2)) true f__law_is [.t (rlT L hs), I M, .t (.lst (ks.map tri))] S = .ok (.t (.bl (decide ((L, hs) = (M, ks))))) S := cl3 (by
  have w := fun i S => c_whole n i S
  have i0 : ∀ S, pIdx (.t (rlT L hs)) (I 0) S = .ok (I L) S := fun _ => rfl
  have i1 : ∀ S, pIdx (.t (rlT L hs)) (I 1) S = .ok (.t (.lst (hs.map tri))) S := fun _ => rfl
  have it : ∀ S, isiB BT.sub S (.t (rlT L hs)) .tuple = some true := fun _ => rfl
  have il : ∀ S, isiB BT.sub S (.t (.lst (hs.map tri))) .list = some true := fun _ => rfl
  have ln : ∀ S, pBi false .len [.t (rlT L hs)] S = .ok (I 2) S := fun _ => rfl
  have n2 : ∀ S, pCmp .NotEq (I 2) (I 2) S = .ok (.t (.bl false)) S := fun S => by rw [pNeI]; rfl
  have its : ∀ S, itemsOf .seq [.t (.lst (hs.map tri))] S = some (hD hs) := fun S => by rw [itL_s, List.map_map]; rfl
  obtain ⟨x3, e⟩ := is_lp n (some (.t (rlT L hs))) (some (I M)) (some (.t (.lst (ks.map tri)))) hs none
  have q := fun S => eqRl L M hs ks S
  have mk : ∀ S, mkT [I M, .t (.lst (ks.map tri))] S = .ok (.t (rlT M ks)) S := fun _ => rfl
  rw [r_def (d := ⟨3, 5, b__law_is⟩) rfl rfl]
  simp -implicitDefEqProofs only [b__law_is, List.map_cons, List.map_nil, List.length_cons, List.length_nil, List.replicate, List.cons_append, List.nil_append, s_tr, tr_nx, tr_rt, tr_ex, s_rse, ex_ex, s_asg, asg_ok, s_ex, ex_ok, s_ret, ret_ok, s_retN, s_brk, s_cnt, s_pas, s_ite, ite_t, ite_f, s_fo, s_nil, s_cons, sq_nx, sq_rt, sq_bk, sq_ct, sq_ex, tel_nx, tel_rt, tel_ex, e_v, oj_s, e_c, e_g, e_nop, e_one, e_bin, e_cmp, e_idx, two_ok, twoJ_ok, e_and, and_t, and_f, e_or, or_t, or_f, e_ite, iteE_t, iteE_f, e_not, not_b, e_ch2, ch2I_ok, ch2J_ok, ch2K_t, ch2K_f, e_ch3, ch3I_ok, ch3J_ok, ch3K_t, ch3K_f, e_tup, e_lst, e_bi, e_call, lsI_ok, e_dct, dct_ok, ps_nil, ps_cons, psI_ok, psK_ok, e_sl, slI_ok, e_sl3, e_sss, ssI_ok, e_lss, lssI_ok, s3I_ok, s3J_c, s3J_n, s3K_c, s3K_n, e_isi, e_lc, lcJ_ok, e_bm, bmJ_ok, e_att, attI_ok, e_mth, mthI_ok, e_pk, e_cfn, calDd_s, ckwI_ok, ckwJ_ok, e_mpk, mpkI_ok, e_mthd, mtdI_ok, e_its, e_lrg, lrgI_ok, e_eqt, eqtI_ok, e_iso, isoI_ok, s_sta, staI_ok, staJ_ok, s_sti, stiI_ok, stiJ_ok, stiK_ok, nxO_s, s_wh, callD_f, es_nil, es_cons, esI_ok, esJ_ok, pAddI, pSubI, List.getElem?_cons_zero, List.getElem?_cons_succ, List.set_cons_zero, List.set_cons_succ, Bool.not_true, Bool.not_false, isi_ok (it _), isi_ok (il _), i0, i1, ln, n2, w, fo_ok (its _), e, mk, q])
theorem c_isT (n : Nat) (L : Int) (hs : List I3) (S : Sto) : callD (cal BT PD (n + 2)) true f__law_is [.t (rlT L hs), I L, .t (.lst (hs.map tri))] S = .ok (.t (.bl true)) S := by rw [c_is, decide_eq_true rfl]

/-! ### what is a roll -/
theorem neg1I {B : Tb} {C : Cal} {ρ : Ev} {S : Sto} : evE B C (.neg (.c (.int 1))) ρ S = .ok (.t (.int (-1))) S := by first | rfl | (rw [evE]; rfl)
theorem getK_putI (k k' : Ky) (v : D) (kvs : List (Ky × D)) : getK (putKy kvs k v) k' = if k' = k then some v else getK kvs k' := by
  unfold putKy
  by_cases ha : (kvs.any fun kv => decide (kv.1 = k)) = true
  · rw [if_pos ha]
    unfold getK
    rw [List.find?_map]
    have e : ((fun kv : Ky × D => decide (kv.1 = k')) ∘ fun kv => if kv.1 = k then (kv.1, v) else kv) = fun kv => decide (kv.1 = k') := by
      funext kv
      show decide ((if kv.1 = k then (kv.1, v) else kv).1 = k') = _
      split <;> rfl
    rw [e]
    by_cases hk : k' = k
    · subst hk
      rw [if_pos rfl]
      obtain ⟨x, hx, hx2⟩ := List.any_eq_true.mp ha
      cases hf : kvs.find? fun kv => decide (kv.1 = k') with
      | none =>
        have := List.find?_eq_none.mp hf x hx
        exact absurd hx2 this
      | some y =>
        have hy : y.1 = k' := by simpa using List.find?_some hf
        simp [hy]
    · rw [if_neg hk]
      cases hf : kvs.find? fun kv => decide (kv.1 = k') with
      | none => rfl
      | some y =>
        have hy : y.1 = k' := by simpa using List.find?_some hf
        simp [hy, hk]
  · rw [if_neg ha]
    unfold getK
    rw [List.find?_append]
    have hn : ∀ kv ∈ kvs, ¬ kv.1 = k := fun kv h e => ha (List.any_eq_true.mpr ⟨kv, h, decide_eq_true e⟩)
    by_cases hk : k' = k
    · subst hk
      rw [if_pos rfl]
      have : kvs.find? (fun kv => decide (kv.1 = k')) = none := List.find?_eq_none.mpr fun kv h => by simpa using hn kv h
      rw [this]; simp
    · rw [if_neg hk]
      cases hf : kvs.find? fun kv => decide (kv.1 = k') with
      | none =>
        have : decide (k = k') = false := decide_eq_false fun e => hk e.symm
        simp [this]
      | some y => rfl
theorem putKy_lnI (k : Ky) (v : D) (kvs : List (Ky × D)) : (putKy kvs k v).length ≤ kvs.length + 1 := by
  unfold putKy
  split <;> simp
theorem i_isw (n : Nat) (i : Int) (S : Sto) : callD (cal BT PD (n + 1)) true f_is_whole [.t (.int i)] S = .ok (.t (.bl true)) S := cl1 rfl
theorem i_hole (n : Nat) (L : Int) (x : I3) (S : Sto) : callD (cal BT PD (n + 2)) true f_is_hole [.t (tri x), .t (.int L)] S = .ok (.t (.bl (decide (HoleOk L x)))) S := cl2 (by
  have w := fun i S => i_isw n i S
  have i0 : ∀ S, pIdx (.t (tri x)) (.t (.int 0)) S = .ok (.t (.int x.1)) S := fun _ => rfl
  have i1 : ∀ S, pIdx (.t (tri x)) (.t (.int 1)) S = .ok (.t (.int x.2.1)) S := fun _ => rfl
  have i2 : ∀ S, pIdx (.t (tri x)) (.t (.int 2)) S = .ok (.t (.int x.2.2)) S := fun _ => rfl
  have it : ∀ S, isiB BT.sub S (.t (tri x)) .tuple = some true := fun _ => rfl
  have ln : ∀ S, pBi false .len [.t (tri x)] S = .ok (.t (.int 3)) S := fun _ => rfl
  have n3 : ∀ S, pCmp .NotEq (.t (.int 3)) (.t (.int 3)) S = .ok (.t (.bl false)) S := fun S => by rw [pNeI]; rfl
  have its : ∀ S, itemsOf .seq [.t (tri x)] S = some [.t (.int x.1), .t (.int x.2.1), .t (.int x.2.2)] := fun _ => rfl
  have al : ∀ S, pBi false .all [.t (.lst [.bl true, .bl true, .bl true])] S = .ok (.t (.bl true)) S := fun _ => rfl
  rw [r_def (d := ⟨2, 3, b_is_hole⟩) rfl rfl]
  by_cases h1 : 0 ≤ x.1
  · by_cases h2 : x.1 < 1200
    · by_cases h3 : 0 ≤ x.2.1
      · by_cases h4 : x.2.1 < x.2.2
        · by_cases h5 : x.2.2 ≤ L
          · rw [decide_eq_true (show HoleOk L x from ⟨⟨h1, h2⟩, h3, h4, h5⟩)]
            simp -implicitDefEqProofs (disch := (first | omega | rfl | (simp only [List.length_map, List.length_append, List.length_cons, List.length_nil, List.length_range] <;> omega))) only [s_tr, tr_nx, tr_rt, tr_ex, s_rse, ex_ex, s_asg, asg_ok, s_ex, ex_ok, s_ret, ret_ok, s_retN, s_brk, s_cnt, s_pas, s_ite, ite_t, ite_f, s_fo, s_nil, s_cons, sq_nx, sq_rt, sq_bk, sq_ct, sq_ex, tel_nx, tel_rt, tel_ex, e_v, oj_s, e_c, e_g, e_nop, e_one, e_bin, e_cmp, e_idx, two_ok, twoJ_ok, e_and, and_t, and_f, e_or, or_t, or_f, e_ite, iteE_t, iteE_f, e_not, not_b, e_ch2, ch2I_ok, ch2J_ok, ch2K_t, ch2K_f, e_ch3, ch3I_ok, ch3J_ok, ch3K_t, ch3K_f, e_tup, e_lst, e_bi, e_call, lsI_ok, e_dct, dct_ok, ps_nil, ps_cons, psI_ok, psK_ok, e_sl, slI_ok, e_sl3, e_sss, ssI_ok, e_lss, lssI_ok, s3I_ok, s3J_c, s3J_n, s3K_c, s3K_n, e_isi, e_lc, lcJ_ok, e_bm, bmJ_ok, e_att, attI_ok, e_mth, mthI_ok, e_pk, e_cfn, calDd_s, ckwI_ok, ckwJ_ok, e_mpk, mpkI_ok, e_mthd, mtdI_ok, e_its, e_lrg, lrgI_ok, e_eqt, eqtI_ok, e_iso, isoI_ok, s_sta, staI_ok, staJ_ok, s_sti, stiI_ok, stiJ_ok, stiK_ok, nxO_s, s_wh, callD_f, es_nil, es_cons, esI_ok, esJ_ok, pAddI, pSubI, List.getElem?_cons_zero, List.getElem?_cons_succ, List.set_cons_zero, List.set_cons_succ, Bool.not_true, Bool.not_false, pMulL, pMulR, pDiv, pMod, pPowL, pShrI, decT, decF, decide_true, decide_false, pls_nl, pls_cs, plC_s, pls_tp, pls_rf, plC_n, mtI_n, pls_mp, mkL_s, mkL_r, mlI_s, mkT_s, mtI_s, setP_v, setP_2, setP_3, setP_4, setP_5, setP_d2, setP_n2, asg_t, asT_s, fo_st, foX_s, fo_nil, fo_cons, foA_s, foB_nx, foB_ct, foB_bk, foB_rt, itemsL_s, itA_s, lc_st, lcX_s, itL_s, itT_s, itD_s, itR_s, itR2_s, lc_nil, lc_cons, lcA_s, lcB_t, lcB_f, lcD_ok, lc1_s, lc1A_s, lc1B_t, lc1B_f, lc1D_ok, pIdx_l, pIdx_t, opM_s, pLenL_s, pLenT_s, pLenSc, e_fz, fzI_ok, fzJ_s, frz0, frz1, frz0f, frz1f, app0, app1, app2, kd0, kd1, kd2, isn_i, isn_n, isn_t, inn_i, inn_n, inn_t, inn_l, bi_int_i, bi_int_t, bi_int_f, pEqI, pNeI, pLt, pLe, pGt, pGe, wipeL, Pt.own, rng1, rng2, rng3, rng4, List.map_cons, List.map_nil, List.nil_append, List.cons_append, Int.reduceToNat, Int.reduceAdd, Int.reduceSub, Int.reduceMul, Int.toNat_zero, Int.toNat_one, Int.toNat_natCast, Int.natCast_zero, Int.natCast_one, Int.cast_ofNat_Int, mthI_ok, appE, kdE, frzE, frzEf, frzE1, frzE2, itO_ref, itA_n, itRfE, itRf0, itRf1, slJ_c1, slK_c1, slJ_v1, slK_v1, slJ_b1, slK_b1, slJ_i1, slK_i1, slJ_g1, slK_g1, slJ_u1, slK_u1, slJ_n, slK_n, pIdxE0, pIdxE1, pNe_nn, pEq_nn, pAddL_s, psJ_str, psJ_int, kdS_join, kdS_split, kdS_startswith, kdL_index, kdI_bits, kdD_get, pureE, pureEs, Bool.and_self, Bool.true_and, Bool.and_true, Bool.not_false, b_is_hole, List.map_cons, List.map_nil, List.length_cons, List.length_nil, List.replicate, List.cons_append, List.nil_append, it, isi_ok (it _), ln, n3, its, lcI_ok (its _), al, w, i0, i1, i2, pLe, pLt, decide_eq_true h1, decide_eq_true h2, decide_eq_true h3, decide_eq_true h4, decide_eq_true h5]
          · rw [decide_eq_false (show ¬ HoleOk L x from fun z => h5 z.2.2.2)]
            simp -implicitDefEqProofs (disch := (first | omega | rfl | (simp only [List.length_map, List.length_append, List.length_cons, List.length_nil, List.length_range] <;> omega))) only [s_tr, tr_nx, tr_rt, tr_ex, s_rse, ex_ex, s_asg, asg_ok, s_ex, ex_ok, s_ret, ret_ok, s_retN, s_brk, s_cnt, s_pas, s_ite, ite_t, ite_f, s_fo, s_nil, s_cons, sq_nx, sq_rt, sq_bk, sq_ct, sq_ex, tel_nx, tel_rt, tel_ex, e_v, oj_s, e_c, e_g, e_nop, e_one, e_bin, e_cmp, e_idx, two_ok, twoJ_ok, e_and, and_t, and_f, e_or, or_t, or_f, e_ite, iteE_t, iteE_f, e_not, not_b, e_ch2, ch2I_ok, ch2J_ok, ch2K_t, ch2K_f, e_ch3, ch3I_ok, ch3J_ok, ch3K_t, ch3K_f, e_tup, e_lst, e_bi, e_call, lsI_ok, e_dct, dct_ok, ps_nil, ps_cons, psI_ok, psK_ok, e_sl, slI_ok, e_sl3, e_sss, ssI_ok, e_lss, lssI_ok, s3I_ok, s3J_c, s3J_n, s3K_c, s3K_n, e_isi, e_lc, lcJ_ok, e_bm, bmJ_ok, e_att, attI_ok, e_mth, mthI_ok, e_pk, e_cfn, calDd_s, ckwI_ok, ckwJ_ok, e_mpk, mpkI_ok, e_mthd, mtdI_ok, e_its, e_lrg, lrgI_ok, e_eqt, eqtI_ok, e_iso, isoI_ok, s_sta, staI_ok, staJ_ok, s_sti, stiI_ok, stiJ_ok, stiK_ok, nxO_s, s_wh, callD_f, es_nil, es_cons, esI_ok, esJ_ok, pAddI, pSubI, List.getElem?_cons_zero, List.getElem?_cons_succ, List.set_cons_zero, List.set_cons_succ, Bool.not_true, Bool.not_false, pMulL, pMulR, pDiv, pMod, pPowL, pShrI, decT, decF, decide_true, decide_false, pls_nl, pls_cs, plC_s, pls_tp, pls_rf, plC_n, mtI_n, pls_mp, mkL_s, mkL_r, mlI_s, mkT_s, mtI_s, setP_v, setP_2, setP_3, setP_4, setP_5, setP_d2, setP_n2, asg_t, asT_s, fo_st, foX_s, fo_nil, fo_cons, foA_s, foB_nx, foB_ct, foB_bk, foB_rt, itemsL_s, itA_s, lc_st, lcX_s, itL_s, itT_s, itD_s, itR_s, itR2_s, lc_nil, lc_cons, lcA_s, lcB_t, lcB_f, lcD_ok, lc1_s, lc1A_s, lc1B_t, lc1B_f, lc1D_ok, pIdx_l, pIdx_t, opM_s, pLenL_s, pLenT_s, pLenSc, e_fz, fzI_ok, fzJ_s, frz0, frz1, frz0f, frz1f, app0, app1, app2, kd0, kd1, kd2, isn_i, isn_n, isn_t, inn_i, inn_n, inn_t, inn_l, bi_int_i, bi_int_t, bi_int_f, pEqI, pNeI, pLt, pLe, pGt, pGe, wipeL, Pt.own, rng1, rng2, rng3, rng4, List.map_cons, List.map_nil, List.nil_append, List.cons_append, Int.reduceToNat, Int.reduceAdd, Int.reduceSub, Int.reduceMul, Int.toNat_zero, Int.toNat_one, Int.toNat_natCast, Int.natCast_zero, Int.natCast_one, Int.cast_ofNat_Int, mthI_ok, appE, kdE, frzE, frzEf, frzE1, frzE2, itO_ref, itA_n, itRfE, itRf0, itRf1, slJ_c1, slK_c1, slJ_v1, slK_v1, slJ_b1, slK_b1, slJ_i1, slK_i1, slJ_g1, slK_g1, slJ_u1, slK_u1, slJ_n, slK_n, pIdxE0, pIdxE1, pNe_nn, pEq_nn, pAddL_s, psJ_str, psJ_int, kdS_join, kdS_split, kdS_startswith, kdL_index, kdI_bits, kdD_get, pureE, pureEs, Bool.and_self, Bool.true_and, Bool.and_true, Bool.not_false, b_is_hole, List.map_cons, List.map_nil, List.length_cons, List.length_nil, List.replicate, List.cons_append, List.nil_append, it, isi_ok (it _), ln, n3, its, lcI_ok (its _), al, w, i0, i1, i2, pLe, pLt, decide_eq_true h1, decide_eq_true h2, decide_eq_true h3, decide_eq_true h4, decide_eq_false h5]
        · rw [decide_eq_false (show ¬ HoleOk L x from fun z => h4 z.2.2.1)]
          simp -implicitDefEqProofs (disch := (first | omega | rfl | (simp only [List.length_map, List.length_append, List.length_cons, List.length_nil, List.length_range] <;> omega))) only [s_tr, tr_nx, tr_rt, tr_ex, s_rse, ex_ex, s_asg, asg_ok, s_ex, ex_ok, s_ret, ret_ok, s_retN, s_brk, s_cnt, s_pas, s_ite, ite_t, ite_f, s_fo, s_nil, s_cons, sq_nx, sq_rt, sq_bk, sq_ct, sq_ex, tel_nx, tel_rt, tel_ex, e_v, oj_s, e_c, e_g, e_nop, e_one, e_bin, e_cmp, e_idx, two_ok, twoJ_ok, e_and, and_t, and_f, e_or, or_t, or_f, e_ite, iteE_t, iteE_f, e_not, not_b, e_ch2, ch2I_ok, ch2J_ok, ch2K_t, ch2K_f, e_ch3, ch3I_ok, ch3J_ok, ch3K_t, ch3K_f, e_tup, e_lst, e_bi, e_call, lsI_ok, e_dct, dct_ok, ps_nil, ps_cons, psI_ok, psK_ok, e_sl, slI_ok, e_sl3, e_sss, ssI_ok, e_lss, lssI_ok, s3I_ok, s3J_c, s3J_n, s3K_c, s3K_n, e_isi, e_lc, lcJ_ok, e_bm, bmJ_ok, e_att, attI_ok, e_mth, mthI_ok, e_pk, e_cfn, calDd_s, ckwI_ok, ckwJ_ok, e_mpk, mpkI_ok, e_mthd, mtdI_ok, e_its, e_lrg, lrgI_ok, e_eqt, eqtI_ok, e_iso, isoI_ok, s_sta, staI_ok, staJ_ok, s_sti, stiI_ok, stiJ_ok, stiK_ok, nxO_s, s_wh, callD_f, es_nil, es_cons, esI_ok, esJ_ok, pAddI, pSubI, List.getElem?_cons_zero, List.getElem?_cons_succ, List.set_cons_zero, List.set_cons_succ, Bool.not_true, Bool.not_false, pMulL, pMulR, pDiv, pMod, pPowL, pShrI, decT, decF, decide_true, decide_false, pls_nl, pls_cs, plC_s, pls_tp, pls_rf, plC_n, mtI_n, pls_mp, mkL_s, mkL_r, mlI_s, mkT_s, mtI_s, setP_v, setP_2, setP_3, setP_4, setP_5, setP_d2, setP_n2, asg_t, asT_s, fo_st, foX_s, fo_nil, fo_cons, foA_s, foB_nx, foB_ct, foB_bk, foB_rt, itemsL_s, itA_s, lc_st, lcX_s, itL_s, itT_s, itD_s, itR_s, itR2_s, lc_nil, lc_cons, lcA_s, lcB_t, lcB_f, lcD_ok, lc1_s, lc1A_s, lc1B_t, lc1B_f, lc1D_ok, pIdx_l, pIdx_t, opM_s, pLenL_s, pLenT_s, pLenSc, e_fz, fzI_ok, fzJ_s, frz0, frz1, frz0f, frz1f, app0, app1, app2, kd0, kd1, kd2, isn_i, isn_n, isn_t, inn_i, inn_n, inn_t, inn_l, bi_int_i, bi_int_t, bi_int_f, pEqI, pNeI, pLt, pLe, pGt, pGe, wipeL, Pt.own, rng1, rng2, rng3, rng4, List.map_cons, List.map_nil, List.nil_append, List.cons_append, Int.reduceToNat, Int.reduceAdd, Int.reduceSub, Int.reduceMul, Int.toNat_zero, Int.toNat_one, Int.toNat_natCast, Int.natCast_zero, Int.natCast_one, Int.cast_ofNat_Int, mthI_ok, appE, kdE, frzE, frzEf, frzE1, frzE2, itO_ref, itA_n, itRfE, itRf0, itRf1, slJ_c1, slK_c1, slJ_v1, slK_v1, slJ_b1, slK_b1, slJ_i1, slK_i1, slJ_g1, slK_g1, slJ_u1, slK_u1, slJ_n, slK_n, pIdxE0, pIdxE1, pNe_nn, pEq_nn, pAddL_s, psJ_str, psJ_int, kdS_join, kdS_split, kdS_startswith, kdL_index, kdI_bits, kdD_get, pureE, pureEs, Bool.and_self, Bool.true_and, Bool.and_true, Bool.not_false, b_is_hole, List.map_cons, List.map_nil, List.length_cons, List.length_nil, List.replicate, List.cons_append, List.nil_append, it, isi_ok (it _), ln, n3, its, lcI_ok (its _), al, w, i0, i1, i2, pLe, pLt, decide_eq_true h1, decide_eq_true h2, decide_eq_true h3, decide_eq_false h4]
      · rw [decide_eq_false (show ¬ HoleOk L x from fun z => h3 z.2.1)]
        simp -implicitDefEqProofs (disch := (first | omega | rfl | (simp only [List.length_map, List.length_append, List.length_cons, List.length_nil, List.length_range] <;> omega))) only [s_tr, tr_nx, tr_rt, tr_ex, s_rse, ex_ex, s_asg, asg_ok, s_ex, ex_ok, s_ret, ret_ok, s_retN, s_brk, s_cnt, s_pas, s_ite, ite_t, ite_f, s_fo, s_nil, s_cons, sq_nx, sq_rt, sq_bk, sq_ct, sq_ex, tel_nx, tel_rt, tel_ex, e_v, oj_s, e_c, e_g, e_nop, e_one, e_bin, e_cmp, e_idx, two_ok, twoJ_ok, e_and, and_t, and_f, e_or, or_t, or_f, e_ite, iteE_t, iteE_f, e_not, not_b, e_ch2, ch2I_ok, ch2J_ok, ch2K_t, ch2K_f, e_ch3, ch3I_ok, ch3J_ok, ch3K_t, ch3K_f, e_tup, e_lst, e_bi, e_call, lsI_ok, e_dct, dct_ok, ps_nil, ps_cons, psI_ok, psK_ok, e_sl, slI_ok, e_sl3, e_sss, ssI_ok, e_lss, lssI_ok, s3I_ok, s3J_c, s3J_n, s3K_c, s3K_n, e_isi, e_lc, lcJ_ok, e_bm, bmJ_ok, e_att, attI_ok, e_mth, mthI_ok, e_pk, e_cfn, calDd_s, ckwI_ok, ckwJ_ok, e_mpk, mpkI_ok, e_mthd, mtdI_ok, e_its, e_lrg, lrgI_ok, e_eqt, eqtI_ok, e_iso, isoI_ok, s_sta, staI_ok, staJ_ok, s_sti, stiI_ok, stiJ_ok, stiK_ok, nxO_s, s_wh, callD_f, es_nil, es_cons, esI_ok, esJ_ok, pAddI, pSubI, List.getElem?_cons_zero, List.getElem?_cons_succ, List.set_cons_zero, List.set_cons_succ, Bool.not_true, Bool.not_false, pMulL, pMulR, pDiv, pMod, pPowL, pShrI, decT, decF, decide_true, decide_false, pls_nl, pls_cs, plC_s, pls_tp, pls_rf, plC_n, mtI_n, pls_mp, mkL_s, mkL_r, mlI_s, mkT_s, mtI_s, setP_v, setP_2, setP_3, setP_4, setP_5, setP_d2, setP_n2, asg_t, asT_s, fo_st, foX_s, fo_nil, fo_cons, foA_s, foB_nx, foB_ct, foB_bk, foB_rt, itemsL_s, itA_s, lc_st, lcX_s, itL_s, itT_s, itD_s, itR_s, itR2_s, lc_nil, lc_cons, lcA_s, lcB_t, lcB_f, lcD_ok, lc1_s, lc1A_s, lc1B_t, lc1B_f, lc1D_ok, pIdx_l, pIdx_t, opM_s, pLenL_s, pLenT_s, pLenSc, e_fz, fzI_ok, fzJ_s, frz0, frz1, frz0f, frz1f, app0, app1, app2, kd0, kd1, kd2, isn_i, isn_n, isn_t, inn_i, inn_n, inn_t, inn_l, bi_int_i, bi_int_t, bi_int_f, pEqI, pNeI, pLt, pLe, pGt, pGe, wipeL, Pt.own, rng1, rng2, rng3, rng4, List.map_cons, List.map_nil, List.nil_append, List.cons_append, Int.reduceToNat, Int.reduceAdd, Int.reduceSub, Int.reduceMul, Int.toNat_zero, Int.toNat_one, Int.toNat_natCast, Int.natCast_zero, Int.natCast_one, Int.cast_ofNat_Int, mthI_ok, appE, kdE, frzE, frzEf, frzE1, frzE2, itO_ref, itA_n, itRfE, itRf0, itRf1, slJ_c1, slK_c1, slJ_v1, slK_v1, slJ_b1, slK_b1, slJ_i1, slK_i1, slJ_g1, slK_g1, slJ_u1, slK_u1, slJ_n, slK_n, pIdxE0, pIdxE1, pNe_nn, pEq_nn, pAddL_s, psJ_str, psJ_int, kdS_join, kdS_split, kdS_startswith, kdL_index, kdI_bits, kdD_get, pureE, pureEs, Bool.and_self, Bool.true_and, Bool.and_true, Bool.not_false, b_is_hole, List.map_cons, List.map_nil, List.length_cons, List.length_nil, List.replicate, List.cons_append, List.nil_append, it, isi_ok (it _), ln, n3, its, lcI_ok (its _), al, w, i0, i1, i2, pLe, pLt, decide_eq_true h1, decide_eq_true h2, decide_eq_false h3]
    · rw [decide_eq_false (show ¬ HoleOk L x from fun z => h2 z.1.2)]
      simp -implicitDefEqProofs (disch := (first | omega | rfl | (simp only [List.length_map, List.length_append, List.length_cons, List.length_nil, List.length_range] <;> omega))) only [s_tr, tr_nx, tr_rt, tr_ex, s_rse, ex_ex, s_asg, asg_ok, s_ex, ex_ok, s_ret, ret_ok, s_retN, s_brk, s_cnt, s_pas, s_ite, ite_t, ite_f, s_fo, s_nil, s_cons, sq_nx, sq_rt, sq_bk, sq_ct, sq_ex, tel_nx, tel_rt, tel_ex, e_v, oj_s, e_c, e_g, e_nop, e_one, e_bin, e_cmp, e_idx, two_ok, twoJ_ok, e_and, and_t, and_f, e_or, or_t, or_f, e_ite, iteE_t, iteE_f, e_not, not_b, e_ch2, ch2I_ok, ch2J_ok, ch2K_t, ch2K_f, e_ch3, ch3I_ok, ch3J_ok, ch3K_t, ch3K_f, e_tup, e_lst, e_bi, e_call, lsI_ok, e_dct, dct_ok, ps_nil, ps_cons, psI_ok, psK_ok, e_sl, slI_ok, e_sl3, e_sss, ssI_ok, e_lss, lssI_ok, s3I_ok, s3J_c, s3J_n, s3K_c, s3K_n, e_isi, e_lc, lcJ_ok, e_bm, bmJ_ok, e_att, attI_ok, e_mth, mthI_ok, e_pk, e_cfn, calDd_s, ckwI_ok, ckwJ_ok, e_mpk, mpkI_ok, e_mthd, mtdI_ok, e_its, e_lrg, lrgI_ok, e_eqt, eqtI_ok, e_iso, isoI_ok, s_sta, staI_ok, staJ_ok, s_sti, stiI_ok, stiJ_ok, stiK_ok, nxO_s, s_wh, callD_f, es_nil, es_cons, esI_ok, esJ_ok, pAddI, pSubI, List.getElem?_cons_zero, List.getElem?_cons_succ, List.set_cons_zero, List.set_cons_succ, Bool.not_true, Bool.not_false, pMulL, pMulR, pDiv, pMod, pPowL, pShrI, decT, decF, decide_true, decide_false, pls_nl, pls_cs, plC_s, pls_tp, pls_rf, plC_n, mtI_n, pls_mp, mkL_s, mkL_r, mlI_s, mkT_s, mtI_s, setP_v, setP_2, setP_3, setP_4, setP_5, setP_d2, setP_n2, asg_t, asT_s, fo_st, foX_s, fo_nil, fo_cons, foA_s, foB_nx, foB_ct, foB_bk, foB_rt, itemsL_s, itA_s, lc_st, lcX_s, itL_s, itT_s, itD_s, itR_s, itR2_s, lc_nil, lc_cons, lcA_s, lcB_t, lcB_f, lcD_ok, lc1_s, lc1A_s, lc1B_t, lc1B_f, lc1D_ok, pIdx_l, pIdx_t, opM_s, pLenL_s, pLenT_s, pLenSc, e_fz, fzI_ok, fzJ_s, frz0, frz1, frz0f, frz1f, app0, app1, app2, kd0, kd1, kd2, isn_i, isn_n, isn_t, inn_i, inn_n, inn_t, inn_l, bi_int_i, bi_int_t, bi_int_f, pEqI, pNeI, pLt, pLe, pGt, pGe, wipeL, Pt.own, rng1, rng2, rng3, rng4, List.map_cons, List.map_nil, List.nil_append, List.cons_append, Int.reduceToNat, Int.reduceAdd, Int.reduceSub, Int.reduceMul, Int.toNat_zero, Int.toNat_one, Int.toNat_natCast, Int.natCast_zero, Int.natCast_one, Int.cast_ofNat_Int, mthI_ok, appE, kdE, frzE, frzEf, frzE1, frzE2, itO_ref, itA_n, itRfE, itRf0, itRf1, slJ_c1, slK_c1, slJ_v1, slK_v1, slJ_b1, slK_b1, slJ_i1, slK_i1, slJ_g1, slK_g1, slJ_u1, slK_u1, slJ_n, slK_n, pIdxE0, pIdxE1, pNe_nn, pEq_nn, pAddL_s, psJ_str, psJ_int, kdS_join, kdS_split, kdS_startswith, kdL_index, kdI_bits, kdD_get, pureE, pureEs, Bool.and_self, Bool.true_and, Bool.and_true, Bool.not_false, b_is_hole, List.map_cons, List.map_nil, List.length_cons, List.length_nil, List.replicate, List.cons_append, List.nil_append, it, isi_ok (it _), ln, n3, its, lcI_ok (its _), al, w, i0, i1, i2, pLe, pLt, decide_eq_true h1, decide_eq_false h2]
  · rw [decide_eq_false (show ¬ HoleOk L x from fun z => h1 z.1.1)]
    simp -implicitDefEqProofs (disch := (first | omega | rfl | (simp only [List.length_map, List.length_append, List.length_cons, List.length_nil, List.length_range] <;> omega))) only [s_tr, tr_nx, tr_rt, tr_ex, s_rse, ex_ex, s_asg, asg_ok, s_ex, ex_ok, s_ret, ret_ok, s_retN, s_brk, s_cnt, s_pas, s_ite, ite_t, ite_f, s_fo, s_nil, s_cons, sq_nx, sq_rt, sq_bk, sq_ct, sq_ex, tel_nx, tel_rt, tel_ex, e_v, oj_s, e_c, e_g, e_nop, e_one, e_bin, e_cmp, e_idx, two_ok, twoJ_ok, e_and, and_t, and_f, e_or, or_t, or_f, e_ite, iteE_t, iteE_f, e_not, not_b, e_ch2, ch2I_ok, ch2J_ok, ch2K_t, ch2K_f, e_ch3, ch3I_ok, ch3J_ok, ch3K_t, ch3K_f, e_tup, e_lst, e_bi, e_call, lsI_ok, e_dct, dct_ok, ps_nil, ps_cons, psI_ok, psK_ok, e_sl, slI_ok, e_sl3, e_sss, ssI_ok, e_lss, lssI_ok, s3I_ok, s3J_c, s3J_n, s3K_c, s3K_n, e_isi, e_lc, lcJ_ok, e_bm, bmJ_ok, e_att, attI_ok, e_mth, mthI_ok, e_pk, e_cfn, calDd_s, ckwI_ok, ckwJ_ok, e_mpk, mpkI_ok, e_mthd, mtdI_ok, e_its, e_lrg, lrgI_ok, e_eqt, eqtI_ok, e_iso, isoI_ok, s_sta, staI_ok, staJ_ok, s_sti, stiI_ok, stiJ_ok, stiK_ok, nxO_s, s_wh, callD_f, es_nil, es_cons, esI_ok, esJ_ok, pAddI, pSubI, List.getElem?_cons_zero, List.getElem?_cons_succ, List.set_cons_zero, List.set_cons_succ, Bool.not_true, Bool.not_false, pMulL, pMulR, pDiv, pMod, pPowL, pShrI, decT, decF, decide_true, decide_false, pls_nl, pls_cs, plC_s, pls_tp, pls_rf, plC_n, mtI_n, pls_mp, mkL_s, mkL_r, mlI_s, mkT_s, mtI_s, setP_v, setP_2, setP_3, setP_4, setP_5, setP_d2, setP_n2, asg_t, asT_s, fo_st, foX_s, fo_nil, fo_cons, foA_s, foB_nx, foB_ct, foB_bk, foB_rt, itemsL_s, itA_s, lc_st, lcX_s, itL_s, itT_s, itD_s, itR_s, itR2_s, lc_nil, lc_cons, lcA_s, lcB_t, lcB_f, lcD_ok, lc1_s, lc1A_s, lc1B_t, lc1B_f, lc1D_ok, pIdx_l, pIdx_t, opM_s, pLenL_s, pLenT_s, pLenSc, e_fz, fzI_ok, fzJ_s, frz0, frz1, frz0f, frz1f, app0, app1, app2, kd0, kd1, kd2, isn_i, isn_n, isn_t, inn_i, inn_n, inn_t, inn_l, bi_int_i, bi_int_t, bi_int_f, pEqI, pNeI, pLt, pLe, pGt, pGe, wipeL, Pt.own, rng1, rng2, rng3, rng4, List.map_cons, List.map_nil, List.nil_append, List.cons_append, Int.reduceToNat, Int.reduceAdd, Int.reduceSub, Int.reduceMul, Int.toNat_zero, Int.toNat_one, Int.toNat_natCast, Int.natCast_zero, Int.natCast_one, Int.cast_ofNat_Int, mthI_ok, appE, kdE, frzE, frzEf, frzE1, frzE2, itO_ref, itA_n, itRfE, itRf0, itRf1, slJ_c1, slK_c1, slJ_v1, slK_v1, slJ_b1, slK_b1, slJ_i1, slK_i1, slJ_g1, slK_g1, slJ_u1, slK_u1, slJ_n, slK_n, pIdxE0, pIdxE1, pNe_nn, pEq_nn, pAddL_s, psJ_str, psJ_int, kdS_join, kdS_split, kdS_startswith, kdL_index, kdI_bits, kdD_get, pureE, pureEs, Bool.and_self, Bool.true_and, Bool.and_true, Bool.not_false, b_is_hole, List.map_cons, List.map_nil, List.length_cons, List.length_nil, List.replicate, List.cons_append, List.nil_append, it, isi_ok (it _), ln, n3, its, lcI_ok (its _), al, w, i0, i1, i2, pLe, pLt, decide_eq_false h1])
abbrev prI (p : Int × Int) : T := .tup [.int p.1, .int p.2]
theorem i_by_first (n : Nat) (x : I3) (S : Sto) : callD (cal BT PD (n + 1)) true f_by_first [.t (tri x)] S = .ok (.t (prI (x.2.1, x.1))) S := cl1 (by
  have i0 : ∀ S, pIdx (.t (tri x)) (.t (.int 0)) S = .ok (.t (.int x.1)) S := fun _ => rfl
  have i1 : ∀ S, pIdx (.t (tri x)) (.t (.int 1)) S = .ok (.t (.int x.2.1)) S := fun _ => rfl
  have mk : ∀ S, mkT [.t (.int x.2.1), .t (.int x.1)] S = .ok (.t (prI (x.2.1, x.1))) S := fun _ => rfl
  rw [r_def (d := ⟨1, 1, b_by_first⟩) rfl rfl]
  simp -implicitDefEqProofs only [b_by_first, List.map_cons, List.map_nil, List.length_cons, List.length_nil, List.replicate, List.cons_append, List.nil_append, s_tr, tr_nx, tr_rt, tr_ex, s_rse, ex_ex, s_asg, asg_ok, s_ex, ex_ok, s_ret, ret_ok, s_retN, s_brk, s_cnt, s_pas, s_ite, ite_t, ite_f, s_fo, s_nil, s_cons, sq_nx, sq_rt, sq_bk, sq_ct, sq_ex, tel_nx, tel_rt, tel_ex, e_v, oj_s, e_c, e_g, e_nop, e_one, e_bin, e_cmp, e_idx, two_ok, twoJ_ok, e_and, and_t, and_f, e_or, or_t, or_f, e_ite, iteE_t, iteE_f, e_not, not_b, e_ch2, ch2I_ok, ch2J_ok, ch2K_t, ch2K_f, e_ch3, ch3I_ok, ch3J_ok, ch3K_t, ch3K_f, e_tup, e_lst, e_bi, e_call, lsI_ok, e_dct, dct_ok, ps_nil, ps_cons, psI_ok, psK_ok, e_sl, slI_ok, e_sl3, e_sss, ssI_ok, e_lss, lssI_ok, s3I_ok, s3J_c, s3J_n, s3K_c, s3K_n, e_isi, e_lc, lcJ_ok, e_bm, bmJ_ok, e_att, attI_ok, e_mth, mthI_ok, e_pk, e_cfn, calDd_s, ckwI_ok, ckwJ_ok, e_mpk, mpkI_ok, e_mthd, mtdI_ok, e_its, e_lrg, lrgI_ok, e_eqt, eqtI_ok, e_iso, isoI_ok, s_sta, staI_ok, staJ_ok, s_sti, stiI_ok, stiJ_ok, stiK_ok, nxO_s, s_wh, callD_f, es_nil, es_cons, esI_ok, esJ_ok, pAddI, pSubI, List.getElem?_cons_zero, List.getElem?_cons_succ, List.set_cons_zero, List.set_cons_succ, Bool.not_true, Bool.not_false, i0, i1, mk])
def ahd : List I3 → Int × Int
  | [] => (-1, -1)
  | z :: _ => (z.2.1, z.1)
def hit (bs : List I3) (x : I3) : Bool := match bs.find? fun z => decide (z.1 = x.1) with
  | some z => decide (x.2.1 ≤ z.2.2)
  | none => false
def leP (p q : Int × Int) : Bool := decide (p.1 < q.1 ∨ (p.1 = q.1 ∧ p.2 ≤ q.2))
/-- are_holes behind some holes, the last first -/
def ahB (L : Int) : List I3 → List I3 → Bool
  | _, [] => true
  | bs, x :: l => decide (HoleOk L x) && (!leP (x.2.1, x.1) (ahd bs) && (!hit bs x && ahB L (x :: bs) l))
def DK (kvs : List (Ky × D)) (bs : List I3) : Prop := ∀ t : Int, getK kvs (.inl t) = (bs.find? fun z => decide (z.1 = t)).map fun z => .t (.int z.2.2)
theorem DK.put {kvs : List (Ky × D)} {bs : List I3} (h : DK kvs bs) (x : I3) : DK (putKy kvs (.inl x.1) (.t (.int x.2.2))) (x :: bs) := fun t => by
  rw [getK_putI, List.find?_cons]
  by_cases e : x.1 = t
  · rw [decide_eq_true e, if_pos (congrArg Sum.inl e.symm)]; rfl
  · rw [decide_eq_false e, if_neg (fun q => e (Sum.inl.inj q).symm)]; exact h t
theorem ah_walk (n : Nat) (L : Int) (h0 : Option D) (r : List D) : ∀ (l bs : List I3) (kvs : List (Ky × D)) (x4 : Option D), DK kvs bs → kvs.length + l.length ≤ 10000 →
    (ahB L bs l = false ∧ ∃ S', foL (.v 4) (evSs BT (cal BT PD (n + 2)) b_are_holes_1) (l.map (fun x => D.t (tri x)) ++ r) [h0, some (.t (.int L)), some (.ref 0), some (.t (prI (ahd bs))), x4] [.dct kvs] = .rt (.t (.bl false)) S') ∨
    (ahB L bs l = true ∧ ∃ a x4' kvs', foL (.v 4) (evSs BT (cal BT PD (n + 2)) b_are_holes_1) (l.map (fun x => D.t (tri x)) ++ r) [h0, some (.t (.int L)), some (.ref 0), some (.t (prI (ahd bs))), x4] [.dct kvs] = foL (.v 4) (evSs BT (cal BT PD (n + 2)) b_are_holes_1) r [h0, some (.t (.int L)), some (.ref 0), some (.t (prI a)), x4'] [.dct kvs'])
  | [], bs, kvs, x4, _, _ => .inr ⟨rfl, ahd bs, x4, kvs, rfl⟩
  | x :: l, bs, kvs, x4, h, hl => by
    rw [List.length_cons] at hl
    have k := fun S => i_hole n L x S
    have kb := fun S => i_by_first (n + 1) x S
    have i0 : ∀ S, pIdx (.t (tri x)) (.t (.int 0)) S = .ok (.t (.int x.1)) S := fun _ => rfl
    have i1 : ∀ S, pIdx (.t (tri x)) (.t (.int 1)) S = .ok (.t (.int x.2.1)) S := fun _ => rfl
    have i2 : ∀ S, pIdx (.t (tri x)) (.t (.int 2)) S = .ok (.t (.int x.2.2)) S := fun _ => rfl
    have cle : ∀ S, pCmp .LtE (.t (prI (x.2.1, x.1))) (.t (prI (ahd bs))) S = .ok (.t (.bl (leP (x.2.1, x.1) (ahd bs)))) S := fun _ => rfl
    have cin : pCmp .In (.t (.int x.1)) (.ref 0) [.dct kvs] = .ok (.t (.bl (getK kvs (.inl x.1)).isSome)) [.dct kvs] := rfl
    have cix : pIdx (.ref 0) (.t (.int x.1)) [.dct kvs] = opt (getK kvs (.inl x.1)) [.dct kvs] := rfl
    have ps : pSt (.ref 0) (.t (.int x.1)) (.t (.int x.2.2)) [.dct kvs] = some [.dct (putKy kvs (.inl x.1) (.t (.int x.2.2)))] := by
      show (if kvs.length < lim then some _ else none) = _
      rw [if_pos (show kvs.length < lim from (by show kvs.length < 16000000; omega))]; rfl
    have hp := putKy_lnI (.inl x.1) (.t (.int x.2.2)) kvs
    have hk := h x.1
    rw [hk] at cin cix
    have hd : DK (putKy kvs (.inl x.1) (.t (.int x.2.2))) (x :: bs) := h.put x
    have go := ah_walk n L h0 r l (x :: bs) (putKy kvs (.inl x.1) (.t (.int x.2.2))) (some (.t (tri x))) hd (by omega)
    generalize ha : ahd bs = a0 at *
    have step : ∀ (F : Bool), ahB L bs (x :: l) = (decide (HoleOk L x) && (!leP (x.2.1, x.1) a0 && (!hit bs x && ahB L (x :: bs) l))) := fun _ => by rw [← ha]; rfl
    rw [step true, List.map_cons, List.cons_append, fo_cons, setP_v, foA_s]
    simp only [List.set_cons_zero, List.set_cons_succ]
    by_cases h1 : HoleOk L x
    · rw [decide_eq_true h1, Bool.true_and]
      rw [decide_eq_true h1] at k
      cases h2 : leP (x.2.1, x.1) a0
      · rw [h2] at cle
        rw [Bool.not_false, Bool.true_and]
        unfold hit
        cases h3 : bs.find? fun z => decide (z.1 = x.1) with
        | none =>
          rw [h3] at cin
          have cin : pCmp .In (.t (.int x.1)) (.ref 0) [.dct kvs] = .ok (.t (.bl false)) [.dct kvs] := cin
          have body : evSs BT (cal BT PD (n + 2)) b_are_holes_1 [h0, some (.t (.int L)), some (.ref 0), some (.t (prI a0)), some (.t (tri x))] [.dct kvs] = .nx [h0, some (.t (.int L)), some (.ref 0), some (.t (prI (ahd (x :: bs)))), some (.t (tri x))] [.dct (putKy kvs (.inl x.1) (.t (.int x.2.2)))] := by
            rw [b_are_holes_1]
            simp -implicitDefEqProofs only [s_tr, tr_nx, tr_rt, tr_ex, s_rse, ex_ex, s_asg, asg_ok, s_ex, ex_ok, s_ret, ret_ok, s_retN, s_brk, s_cnt, s_pas, s_ite, ite_t, ite_f, s_fo, s_nil, s_cons, sq_nx, sq_rt, sq_bk, sq_ct, sq_ex, tel_nx, tel_rt, tel_ex, e_v, oj_s, e_c, e_g, e_nop, e_one, e_bin, e_cmp, e_idx, two_ok, twoJ_ok, e_and, and_t, and_f, e_or, or_t, or_f, e_ite, iteE_t, iteE_f, e_not, not_b, e_ch2, ch2I_ok, ch2J_ok, ch2K_t, ch2K_f, e_ch3, ch3I_ok, ch3J_ok, ch3K_t, ch3K_f, e_tup, e_lst, e_bi, e_call, lsI_ok, e_dct, dct_ok, ps_nil, ps_cons, psI_ok, psK_ok, e_sl, slI_ok, e_sl3, e_sss, ssI_ok, e_lss, lssI_ok, s3I_ok, s3J_c, s3J_n, s3K_c, s3K_n, e_isi, e_lc, lcJ_ok, e_bm, bmJ_ok, e_att, attI_ok, e_mth, mthI_ok, e_pk, e_cfn, calDd_s, ckwI_ok, ckwJ_ok, e_mpk, mpkI_ok, e_mthd, mtdI_ok, e_its, e_lrg, lrgI_ok, e_eqt, eqtI_ok, e_iso, isoI_ok, s_sta, staI_ok, staJ_ok, s_sti, stiI_ok, stiJ_ok, stiK_ok, nxO_s, s_wh, callD_f, es_nil, es_cons, esI_ok, esJ_ok, pAddI, pSubI, List.getElem?_cons_zero, List.getElem?_cons_succ, List.set_cons_zero, List.set_cons_succ, Bool.not_true, Bool.not_false, k, kb, cle, i0, i1, i2, cin, ps]
            try rfl
          rw [body, foB_nx]
          simp only [Bool.not_false, Bool.true_and]
          exact go
        | some z =>
          rw [h3] at cin cix
          have cin : pCmp .In (.t (.int x.1)) (.ref 0) [.dct kvs] = .ok (.t (.bl true)) [.dct kvs] := cin
          have cix : pIdx (.ref 0) (.t (.int x.1)) [.dct kvs] = .ok (.t (.int z.2.2)) [.dct kvs] := cix
          by_cases h4 : x.2.1 ≤ z.2.2
          · simp only [decide_eq_true h4, Bool.not_true, Bool.false_and]
            refine .inl ⟨by first | rfl | trivial, [.dct kvs], ?_⟩
            rw [b_are_holes_1]
            simp -implicitDefEqProofs only [s_tr, tr_nx, tr_rt, tr_ex, s_rse, ex_ex, s_asg, asg_ok, s_ex, ex_ok, s_ret, ret_ok, s_retN, s_brk, s_cnt, s_pas, s_ite, ite_t, ite_f, s_fo, s_nil, s_cons, sq_nx, sq_rt, sq_bk, sq_ct, sq_ex, tel_nx, tel_rt, tel_ex, e_v, oj_s, e_c, e_g, e_nop, e_one, e_bin, e_cmp, e_idx, two_ok, twoJ_ok, e_and, and_t, and_f, e_or, or_t, or_f, e_ite, iteE_t, iteE_f, e_not, not_b, e_ch2, ch2I_ok, ch2J_ok, ch2K_t, ch2K_f, e_ch3, ch3I_ok, ch3J_ok, ch3K_t, ch3K_f, e_tup, e_lst, e_bi, e_call, lsI_ok, e_dct, dct_ok, ps_nil, ps_cons, psI_ok, psK_ok, e_sl, slI_ok, e_sl3, e_sss, ssI_ok, e_lss, lssI_ok, s3I_ok, s3J_c, s3J_n, s3K_c, s3K_n, e_isi, e_lc, lcJ_ok, e_bm, bmJ_ok, e_att, attI_ok, e_mth, mthI_ok, e_pk, e_cfn, calDd_s, ckwI_ok, ckwJ_ok, e_mpk, mpkI_ok, e_mthd, mtdI_ok, e_its, e_lrg, lrgI_ok, e_eqt, eqtI_ok, e_iso, isoI_ok, s_sta, staI_ok, staJ_ok, s_sti, stiI_ok, stiJ_ok, stiK_ok, nxO_s, s_wh, callD_f, es_nil, es_cons, esI_ok, esJ_ok, pAddI, pSubI, List.getElem?_cons_zero, List.getElem?_cons_succ, List.set_cons_zero, List.set_cons_succ, Bool.not_true, Bool.not_false, k, kb, cle, i0, i1, i2, cin, cix, pLe, decide_eq_true h4, foB_rt]
          · have body : evSs BT (cal BT PD (n + 2)) b_are_holes_1 [h0, some (.t (.int L)), some (.ref 0), some (.t (prI a0)), some (.t (tri x))] [.dct kvs] = .nx [h0, some (.t (.int L)), some (.ref 0), some (.t (prI (ahd (x :: bs)))), some (.t (tri x))] [.dct (putKy kvs (.inl x.1) (.t (.int x.2.2)))] := by
              rw [b_are_holes_1]
              simp -implicitDefEqProofs only [s_tr, tr_nx, tr_rt, tr_ex, s_rse, ex_ex, s_asg, asg_ok, s_ex, ex_ok, s_ret, ret_ok, s_retN, s_brk, s_cnt, s_pas, s_ite, ite_t, ite_f, s_fo, s_nil, s_cons, sq_nx, sq_rt, sq_bk, sq_ct, sq_ex, tel_nx, tel_rt, tel_ex, e_v, oj_s, e_c, e_g, e_nop, e_one, e_bin, e_cmp, e_idx, two_ok, twoJ_ok, e_and, and_t, and_f, e_or, or_t, or_f, e_ite, iteE_t, iteE_f, e_not, not_b, e_ch2, ch2I_ok, ch2J_ok, ch2K_t, ch2K_f, e_ch3, ch3I_ok, ch3J_ok, ch3K_t, ch3K_f, e_tup, e_lst, e_bi, e_call, lsI_ok, e_dct, dct_ok, ps_nil, ps_cons, psI_ok, psK_ok, e_sl, slI_ok, e_sl3, e_sss, ssI_ok, e_lss, lssI_ok, s3I_ok, s3J_c, s3J_n, s3K_c, s3K_n, e_isi, e_lc, lcJ_ok, e_bm, bmJ_ok, e_att, attI_ok, e_mth, mthI_ok, e_pk, e_cfn, calDd_s, ckwI_ok, ckwJ_ok, e_mpk, mpkI_ok, e_mthd, mtdI_ok, e_its, e_lrg, lrgI_ok, e_eqt, eqtI_ok, e_iso, isoI_ok, s_sta, staI_ok, staJ_ok, s_sti, stiI_ok, stiJ_ok, stiK_ok, nxO_s, s_wh, callD_f, es_nil, es_cons, esI_ok, esJ_ok, pAddI, pSubI, List.getElem?_cons_zero, List.getElem?_cons_succ, List.set_cons_zero, List.set_cons_succ, Bool.not_true, Bool.not_false, k, kb, cle, i0, i1, i2, cin, cix, pLe, decide_eq_false h4, ps]
              try rfl
            rw [body, foB_nx]
            simp only [decide_eq_false h4, Bool.not_false, Bool.true_and]
            exact go
      · rw [h2] at cle
        rw [Bool.not_true, Bool.false_and]
        refine .inl ⟨by first | rfl | trivial, [.dct kvs], ?_⟩
        rw [b_are_holes_1]
        simp -implicitDefEqProofs only [s_tr, tr_nx, tr_rt, tr_ex, s_rse, ex_ex, s_asg, asg_ok, s_ex, ex_ok, s_ret, ret_ok, s_retN, s_brk, s_cnt, s_pas, s_ite, ite_t, ite_f, s_fo, s_nil, s_cons, sq_nx, sq_rt, sq_bk, sq_ct, sq_ex, tel_nx, tel_rt, tel_ex, e_v, oj_s, e_c, e_g, e_nop, e_one, e_bin, e_cmp, e_idx, two_ok, twoJ_ok, e_and, and_t, and_f, e_or, or_t, or_f, e_ite, iteE_t, iteE_f, e_not, not_b, e_ch2, ch2I_ok, ch2J_ok, ch2K_t, ch2K_f, e_ch3, ch3I_ok, ch3J_ok, ch3K_t, ch3K_f, e_tup, e_lst, e_bi, e_call, lsI_ok, e_dct, dct_ok, ps_nil, ps_cons, psI_ok, psK_ok, e_sl, slI_ok, e_sl3, e_sss, ssI_ok, e_lss, lssI_ok, s3I_ok, s3J_c, s3J_n, s3K_c, s3K_n, e_isi, e_lc, lcJ_ok, e_bm, bmJ_ok, e_att, attI_ok, e_mth, mthI_ok, e_pk, e_cfn, calDd_s, ckwI_ok, ckwJ_ok, e_mpk, mpkI_ok, e_mthd, mtdI_ok, e_its, e_lrg, lrgI_ok, e_eqt, eqtI_ok, e_iso, isoI_ok, s_sta, staI_ok, staJ_ok, s_sti, stiI_ok, stiJ_ok, stiK_ok, nxO_s, s_wh, callD_f, es_nil, es_cons, esI_ok, esJ_ok, pAddI, pSubI, List.getElem?_cons_zero, List.getElem?_cons_succ, List.set_cons_zero, List.set_cons_succ, Bool.not_true, Bool.not_false, k, kb, cle, foB_rt]
    · rw [decide_eq_false h1, Bool.false_and]
      rw [decide_eq_false h1] at k
      refine .inl ⟨by first | rfl | trivial, [.dct kvs], ?_⟩
      rw [b_are_holes_1]
      simp -implicitDefEqProofs only [s_tr, tr_nx, tr_rt, tr_ex, s_rse, ex_ex, s_asg, asg_ok, s_ex, ex_ok, s_ret, ret_ok, s_retN, s_brk, s_cnt, s_pas, s_ite, ite_t, ite_f, s_fo, s_nil, s_cons, sq_nx, sq_rt, sq_bk, sq_ct, sq_ex, tel_nx, tel_rt, tel_ex, e_v, oj_s, e_c, e_g, e_nop, e_one, e_bin, e_cmp, e_idx, two_ok, twoJ_ok, e_and, and_t, and_f, e_or, or_t, or_f, e_ite, iteE_t, iteE_f, e_not, not_b, e_ch2, ch2I_ok, ch2J_ok, ch2K_t, ch2K_f, e_ch3, ch3I_ok, ch3J_ok, ch3K_t, ch3K_f, e_tup, e_lst, e_bi, e_call, lsI_ok, e_dct, dct_ok, ps_nil, ps_cons, psI_ok, psK_ok, e_sl, slI_ok, e_sl3, e_sss, ssI_ok, e_lss, lssI_ok, s3I_ok, s3J_c, s3J_n, s3K_c, s3K_n, e_isi, e_lc, lcJ_ok, e_bm, bmJ_ok, e_att, attI_ok, e_mth, mthI_ok, e_pk, e_cfn, calDd_s, ckwI_ok, ckwJ_ok, e_mpk, mpkI_ok, e_mthd, mtdI_ok, e_its, e_lrg, lrgI_ok, e_eqt, eqtI_ok, e_iso, isoI_ok, s_sta, staI_ok, staJ_ok, s_sti, stiI_ok, stiJ_ok, stiK_ok, nxO_s, s_wh, callD_f, es_nil, es_cons, esI_ok, esJ_ok, pAddI, pSubI, List.getElem?_cons_zero, List.getElem?_cons_succ, List.set_cons_zero, List.set_cons_succ, Bool.not_true, Bool.not_false, k, foB_rt]
theorem c_are_holes (n : Nat) (L : Int) (l : List I3) (hl : l.length ≤ 10000) (S : Sto) : callD (cal BT PD (n + 3)) true f_are_holes [.t (.lst (l.map tri)), .t (.int L)] S = .ok (.t (.bl (ahB L [] l))) S := by
  obtain ⟨S1, e⟩ : ∃ S1, cal BT PD (n + 3) f_are_holes [.t (.lst (l.map tri)), .t (.int L)] [] = .ok (.t (.bl (ahB L [] l))) S1 := by
    have it : ∀ S, itemsOf .seq [.t (.lst (l.map tri))] S = some (l.map fun x => D.t (tri x)) := fun S => by rw [itL_s, List.map_map]; rfl
    have mk : ∀ S, mkT [.t (.int (-1)), .t (.int (-1))] S = .ok (.t (prI (ahd []))) S := fun _ => rfl
    have w := ah_walk n L (some (.t (.lst (l.map tri)))) [] l [] [] none (fun _ => rfl) (by simpa using hl)
    have md : mkD true (List.foldl (fun (acc : List (Ky × D)) (p : Ky × D) => putKy acc p.1 p.2) [] []) [] = .ok (.ref 0) [.dct []] := rfl
    rw [List.append_nil] at w
    rw [r_def (d := ⟨2, 5, b_are_holes⟩) rfl rfl]
    rw [b_are_holes]
    simp -implicitDefEqProofs only [List.map_cons, List.map_nil, List.length_cons, List.length_nil, List.replicate, List.cons_append, List.nil_append, s_tr, tr_nx, tr_rt, tr_ex, s_rse, ex_ex, s_asg, asg_ok, s_ex, ex_ok, s_ret, ret_ok, s_retN, s_brk, s_cnt, s_pas, s_ite, ite_t, ite_f, s_fo, s_nil, s_cons, sq_nx, sq_rt, sq_bk, sq_ct, sq_ex, tel_nx, tel_rt, tel_ex, e_v, oj_s, e_c, e_g, e_nop, e_one, e_bin, e_cmp, e_idx, two_ok, twoJ_ok, e_and, and_t, and_f, e_or, or_t, or_f, e_ite, iteE_t, iteE_f, e_not, not_b, e_ch2, ch2I_ok, ch2J_ok, ch2K_t, ch2K_f, e_ch3, ch3I_ok, ch3J_ok, ch3K_t, ch3K_f, e_tup, e_lst, e_bi, e_call, lsI_ok, e_dct, dct_ok, ps_nil, ps_cons, psI_ok, psK_ok, e_sl, slI_ok, e_sl3, e_sss, ssI_ok, e_lss, lssI_ok, s3I_ok, s3J_c, s3J_n, s3K_c, s3K_n, e_isi, e_lc, lcJ_ok, e_bm, bmJ_ok, e_att, attI_ok, e_mth, mthI_ok, e_pk, e_cfn, calDd_s, ckwI_ok, ckwJ_ok, e_mpk, mpkI_ok, e_mthd, mtdI_ok, e_its, e_lrg, lrgI_ok, e_eqt, eqtI_ok, e_iso, isoI_ok, s_sta, staI_ok, staJ_ok, s_sti, stiI_ok, stiJ_ok, stiK_ok, nxO_s, s_wh, callD_f, es_nil, es_cons, esI_ok, esJ_ok, pAddI, pSubI, List.getElem?_cons_zero, List.getElem?_cons_succ, List.set_cons_zero, List.set_cons_succ, Bool.not_true, Bool.not_false, md, neg1I, mk, fo_ok (it _)]
    rcases w with ⟨e, S', w⟩ | ⟨e, a, x4, kvs, w⟩
    · rw [e]
      simp -implicitDefEqProofs only [s_tr, tr_nx, tr_rt, tr_ex, s_rse, ex_ex, s_asg, asg_ok, s_ex, ex_ok, s_ret, ret_ok, s_retN, s_brk, s_cnt, s_pas, s_ite, ite_t, ite_f, s_fo, s_nil, s_cons, sq_nx, sq_rt, sq_bk, sq_ct, sq_ex, tel_nx, tel_rt, tel_ex, e_v, oj_s, e_c, e_g, e_nop, e_one, e_bin, e_cmp, e_idx, two_ok, twoJ_ok, e_and, and_t, and_f, e_or, or_t, or_f, e_ite, iteE_t, iteE_f, e_not, not_b, e_ch2, ch2I_ok, ch2J_ok, ch2K_t, ch2K_f, e_ch3, ch3I_ok, ch3J_ok, ch3K_t, ch3K_f, e_tup, e_lst, e_bi, e_call, lsI_ok, e_dct, dct_ok, ps_nil, ps_cons, psI_ok, psK_ok, e_sl, slI_ok, e_sl3, e_sss, ssI_ok, e_lss, lssI_ok, s3I_ok, s3J_c, s3J_n, s3K_c, s3K_n, e_isi, e_lc, lcJ_ok, e_bm, bmJ_ok, e_att, attI_ok, e_mth, mthI_ok, e_pk, e_cfn, calDd_s, ckwI_ok, ckwJ_ok, e_mpk, mpkI_ok, e_mthd, mtdI_ok, e_its, e_lrg, lrgI_ok, e_eqt, eqtI_ok, e_iso, isoI_ok, s_sta, staI_ok, staJ_ok, s_sti, stiI_ok, stiJ_ok, stiK_ok, nxO_s, s_wh, callD_f, es_nil, es_cons, esI_ok, esJ_ok, pAddI, pSubI, List.getElem?_cons_zero, List.getElem?_cons_succ, List.set_cons_zero, List.set_cons_succ, Bool.not_true, Bool.not_false, w]
      exact ⟨_, rfl⟩
    · rw [e]
      have nl : ∀ ρ S, foL (.v 4) (evSs BT (cal BT PD (n + 2)) b_are_holes_1) [] ρ S = .nx ρ S := fun _ _ => rfl
      rw [nl] at w
      simp -implicitDefEqProofs only [s_tr, tr_nx, tr_rt, tr_ex, s_rse, ex_ex, s_asg, asg_ok, s_ex, ex_ok, s_ret, ret_ok, s_retN, s_brk, s_cnt, s_pas, s_ite, ite_t, ite_f, s_fo, s_nil, s_cons, sq_nx, sq_rt, sq_bk, sq_ct, sq_ex, tel_nx, tel_rt, tel_ex, e_v, oj_s, e_c, e_g, e_nop, e_one, e_bin, e_cmp, e_idx, two_ok, twoJ_ok, e_and, and_t, and_f, e_or, or_t, or_f, e_ite, iteE_t, iteE_f, e_not, not_b, e_ch2, ch2I_ok, ch2J_ok, ch2K_t, ch2K_f, e_ch3, ch3I_ok, ch3J_ok, ch3K_t, ch3K_f, e_tup, e_lst, e_bi, e_call, lsI_ok, e_dct, dct_ok, ps_nil, ps_cons, psI_ok, psK_ok, e_sl, slI_ok, e_sl3, e_sss, ssI_ok, e_lss, lssI_ok, s3I_ok, s3J_c, s3J_n, s3K_c, s3K_n, e_isi, e_lc, lcJ_ok, e_bm, bmJ_ok, e_att, attI_ok, e_mth, mthI_ok, e_pk, e_cfn, calDd_s, ckwI_ok, ckwJ_ok, e_mpk, mpkI_ok, e_mthd, mtdI_ok, e_its, e_lrg, lrgI_ok, e_eqt, eqtI_ok, e_iso, isoI_ok, s_sta, staI_ok, staJ_ok, s_sti, stiI_ok, stiJ_ok, stiK_ok, nxO_s, s_wh, callD_f, es_nil, es_cons, esI_ok, esJ_ok, pAddI, pSubI, List.getElem?_cons_zero, List.getElem?_cons_succ, List.set_cons_zero, List.set_cons_succ, Bool.not_true, Bool.not_false, w]
      exact ⟨_, rfl⟩
  exact callD_t rfl e
/-- no hole within the length -/
def BadI (L : Int) (t : T) : Prop := ∀ n S, callD (cal BT PD (n + 2)) true f_is_hole [.t t, .t (.int L)] S = .ok (.t (.bl false)) S
theorem badI_tri {L : Int} {x : I3} (h : ¬ HoleOk L x) : BadI L (tri x) := fun n S => by rw [i_hole, decide_eq_false h]
theorem c_are_holesB (n : Nat) (L : Int) (l : List I3) {t : T} (ht : BadI L t) (r : List T) (hl : l.length ≤ 10000) (S : Sto) : callD (cal BT PD (n + 3)) true f_are_holes [.t (.lst (l.map tri ++ t :: r)), .t (.int L)] S = .ok (.t (.bl false)) S := by
  obtain ⟨S1, e⟩ : ∃ S1, cal BT PD (n + 3) f_are_holes [.t (.lst (l.map tri ++ t :: r)), .t (.int L)] [] = .ok (.t (.bl false)) S1 := by
    have k := fun S => ht n S
    have it : ∀ S, itemsOf .seq [.t (.lst (l.map tri ++ t :: r))] S = some ((l.map fun x => D.t (tri x)) ++ .t t :: r.map .t) := fun S => by rw [itL_s, List.map_append, List.map_map]; rfl
    have mk : ∀ S, mkT [.t (.int (-1)), .t (.int (-1))] S = .ok (.t (prI (ahd []))) S := fun _ => rfl
    have w := ah_walk n L (some (.t (.lst (l.map tri ++ t :: r)))) (.t t :: r.map .t) l [] [] none (fun _ => rfl) (by simpa using hl)
    have md : mkD true (List.foldl (fun (acc : List (Ky × D)) (p : Ky × D) => putKy acc p.1 p.2) [] []) [] = .ok (.ref 0) [.dct []] := rfl
    rw [r_def (d := ⟨2, 5, b_are_holes⟩) rfl rfl]
    rw [b_are_holes]
    simp -implicitDefEqProofs only [List.map_cons, List.map_nil, List.length_cons, List.length_nil, List.replicate, List.cons_append, List.nil_append, s_tr, tr_nx, tr_rt, tr_ex, s_rse, ex_ex, s_asg, asg_ok, s_ex, ex_ok, s_ret, ret_ok, s_retN, s_brk, s_cnt, s_pas, s_ite, ite_t, ite_f, s_fo, s_nil, s_cons, sq_nx, sq_rt, sq_bk, sq_ct, sq_ex, tel_nx, tel_rt, tel_ex, e_v, oj_s, e_c, e_g, e_nop, e_one, e_bin, e_cmp, e_idx, two_ok, twoJ_ok, e_and, and_t, and_f, e_or, or_t, or_f, e_ite, iteE_t, iteE_f, e_not, not_b, e_ch2, ch2I_ok, ch2J_ok, ch2K_t, ch2K_f, e_ch3, ch3I_ok, ch3J_ok, ch3K_t, ch3K_f, e_tup, e_lst, e_bi, e_call, lsI_ok, e_dct, dct_ok, ps_nil, ps_cons, psI_ok, psK_ok, e_sl, slI_ok, e_sl3, e_sss, ssI_ok, e_lss, lssI_ok, s3I_ok, s3J_c, s3J_n, s3K_c, s3K_n, e_isi, e_lc, lcJ_ok, e_bm, bmJ_ok, e_att, attI_ok, e_mth, mthI_ok, e_pk, e_cfn, calDd_s, ckwI_ok, ckwJ_ok, e_mpk, mpkI_ok, e_mthd, mtdI_ok, e_its, e_lrg, lrgI_ok, e_eqt, eqtI_ok, e_iso, isoI_ok, s_sta, staI_ok, staJ_ok, s_sti, stiI_ok, stiJ_ok, stiK_ok, nxO_s, s_wh, callD_f, es_nil, es_cons, esI_ok, esJ_ok, pAddI, pSubI, List.getElem?_cons_zero, List.getElem?_cons_succ, List.set_cons_zero, List.set_cons_succ, Bool.not_true, Bool.not_false, md, neg1I, mk, fo_ok (it _)]
    rcases w with ⟨_, S', w⟩ | ⟨_, a, x4, kvs, w⟩
    · simp -implicitDefEqProofs only [s_tr, tr_nx, tr_rt, tr_ex, s_rse, ex_ex, s_asg, asg_ok, s_ex, ex_ok, s_ret, ret_ok, s_retN, s_brk, s_cnt, s_pas, s_ite, ite_t, ite_f, s_fo, s_nil, s_cons, sq_nx, sq_rt, sq_bk, sq_ct, sq_ex, tel_nx, tel_rt, tel_ex, e_v, oj_s, e_c, e_g, e_nop, e_one, e_bin, e_cmp, e_idx, two_ok, twoJ_ok, e_and, and_t, and_f, e_or, or_t, or_f, e_ite, iteE_t, iteE_f, e_not, not_b, e_ch2, ch2I_ok, ch2J_ok, ch2K_t, ch2K_f, e_ch3, ch3I_ok, ch3J_ok, ch3K_t, ch3K_f, e_tup, e_lst, e_bi, e_call, lsI_ok, e_dct, dct_ok, ps_nil, ps_cons, psI_ok, psK_ok, e_sl, slI_ok, e_sl3, e_sss, ssI_ok, e_lss, lssI_ok, s3I_ok, s3J_c, s3J_n, s3K_c, s3K_n, e_isi, e_lc, lcJ_ok, e_bm, bmJ_ok, e_att, attI_ok, e_mth, mthI_ok, e_pk, e_cfn, calDd_s, ckwI_ok, ckwJ_ok, e_mpk, mpkI_ok, e_mthd, mtdI_ok, e_its, e_lrg, lrgI_ok, e_eqt, eqtI_ok, e_iso, isoI_ok, s_sta, staI_ok, staJ_ok, s_sti, stiI_ok, stiJ_ok, stiK_ok, nxO_s, s_wh, callD_f, es_nil, es_cons, esI_ok, esJ_ok, pAddI, pSubI, List.getElem?_cons_zero, List.getElem?_cons_succ, List.set_cons_zero, List.set_cons_succ, Bool.not_true, Bool.not_false, w]
      exact ⟨_, rfl⟩
    · have bd : foL (.v 4) (evSs BT (cal BT PD (n + 2)) b_are_holes_1) (.t t :: r.map .t) [some (.t (.lst (l.map tri ++ t :: r))), some (.t (.int L)), some (.ref 0), some (.t (prI a)), x4] [.dct kvs] = .rt (.t (.bl false)) [.dct kvs] := by
        rw [fo_cons, setP_v, foA_s]
        simp only [List.set_cons_zero, List.set_cons_succ]
        rw [b_are_holes_1]
        simp -implicitDefEqProofs only [s_tr, tr_nx, tr_rt, tr_ex, s_rse, ex_ex, s_asg, asg_ok, s_ex, ex_ok, s_ret, ret_ok, s_retN, s_brk, s_cnt, s_pas, s_ite, ite_t, ite_f, s_fo, s_nil, s_cons, sq_nx, sq_rt, sq_bk, sq_ct, sq_ex, tel_nx, tel_rt, tel_ex, e_v, oj_s, e_c, e_g, e_nop, e_one, e_bin, e_cmp, e_idx, two_ok, twoJ_ok, e_and, and_t, and_f, e_or, or_t, or_f, e_ite, iteE_t, iteE_f, e_not, not_b, e_ch2, ch2I_ok, ch2J_ok, ch2K_t, ch2K_f, e_ch3, ch3I_ok, ch3J_ok, ch3K_t, ch3K_f, e_tup, e_lst, e_bi, e_call, lsI_ok, e_dct, dct_ok, ps_nil, ps_cons, psI_ok, psK_ok, e_sl, slI_ok, e_sl3, e_sss, ssI_ok, e_lss, lssI_ok, s3I_ok, s3J_c, s3J_n, s3K_c, s3K_n, e_isi, e_lc, lcJ_ok, e_bm, bmJ_ok, e_att, attI_ok, e_mth, mthI_ok, e_pk, e_cfn, calDd_s, ckwI_ok, ckwJ_ok, e_mpk, mpkI_ok, e_mthd, mtdI_ok, e_its, e_lrg, lrgI_ok, e_eqt, eqtI_ok, e_iso, isoI_ok, s_sta, staI_ok, staJ_ok, s_sti, stiI_ok, stiJ_ok, stiK_ok, nxO_s, s_wh, callD_f, es_nil, es_cons, esI_ok, esJ_ok, pAddI, pSubI, List.getElem?_cons_zero, List.getElem?_cons_succ, List.set_cons_zero, List.set_cons_succ, Bool.not_true, Bool.not_false, k, foB_rt]
      rw [bd] at w
      simp -implicitDefEqProofs only [s_tr, tr_nx, tr_rt, tr_ex, s_rse, ex_ex, s_asg, asg_ok, s_ex, ex_ok, s_ret, ret_ok, s_retN, s_brk, s_cnt, s_pas, s_ite, ite_t, ite_f, s_fo, s_nil, s_cons, sq_nx, sq_rt, sq_bk, sq_ct, sq_ex, tel_nx, tel_rt, tel_ex, e_v, oj_s, e_c, e_g, e_nop, e_one, e_bin, e_cmp, e_idx, two_ok, twoJ_ok, e_and, and_t, and_f, e_or, or_t, or_f, e_ite, iteE_t, iteE_f, e_not, not_b, e_ch2, ch2I_ok, ch2J_ok, ch2K_t, ch2K_f, e_ch3, ch3I_ok, ch3J_ok, ch3K_t, ch3K_f, e_tup, e_lst, e_bi, e_call, lsI_ok, e_dct, dct_ok, ps_nil, ps_cons, psI_ok, psK_ok, e_sl, slI_ok, e_sl3, e_sss, ssI_ok, e_lss, lssI_ok, s3I_ok, s3J_c, s3J_n, s3K_c, s3K_n, e_isi, e_lc, lcJ_ok, e_bm, bmJ_ok, e_att, attI_ok, e_mth, mthI_ok, e_pk, e_cfn, calDd_s, ckwI_ok, ckwJ_ok, e_mpk, mpkI_ok, e_mthd, mtdI_ok, e_its, e_lrg, lrgI_ok, e_eqt, eqtI_ok, e_iso, isoI_ok, s_sta, staI_ok, staJ_ok, s_sti, stiI_ok, stiJ_ok, stiK_ok, nxO_s, s_wh, callD_f, es_nil, es_cons, esI_ok, esJ_ok, pAddI, pSubI, List.getElem?_cons_zero, List.getElem?_cons_succ, List.set_cons_zero, List.set_cons_succ, Bool.not_true, Bool.not_false, w]
      exact ⟨_, rfl⟩
  exact callD_t (pls_of (fun x => x) [.lst (l.map tri ++ t :: r), .int L]) e
/-- what is_roll tells of a length and holes -/
theorem c_is_roll (n : Nat) {L : Int} (h0 : 0 ≤ L) (h1 : L ≤ 1000000000000) (l : List I3) (hl : l.length ≤ 10000) (S : Sto) : callD (cal BT PD (n + 4)) true f_is_roll [.t (rlT L l)] S = .ok (.t (.bl (decide (l.length ≤ 400) && ahB L [] l))) S := cl1 (by
  have k := fun S => c_is_length (n + 1) h0 h1 S
  have ka := fun S => c_are_holes n L l hl S
  have it : ∀ S, isiB BT.sub S (.t (rlT L l)) .tuple = some true := fun _ => rfl
  have il : ∀ S, isiB BT.sub S (.t (.lst (l.map tri))) .list = some true := fun _ => rfl
  have ln : ∀ S, pBi false .len [.t (rlT L l)] S = .ok (.t (.int 2)) S := fun _ => rfl
  have n3 : ∀ S, pCmp .NotEq (.t (.int 2)) (.t (.int 2)) S = .ok (.t (.bl false)) S := fun S => by rw [pNeI]; rfl
  have i0 : ∀ S, pIdx (.t (rlT L l)) (.t (.int 0)) S = .ok (.t (.int L)) S := fun _ => rfl
  have i1 : ∀ S, pIdx (.t (rlT L l)) (.t (.int 1)) S = .ok (.t (.lst (l.map tri))) S := fun _ => rfl
  have le : ∀ S, pBi false .len [.t (.lst (l.map tri))] S = .ok (.t (.int (l.length : Nat))) S := fun S => by rw [pLenL, List.length_map]
  rw [r_def (d := ⟨1, 1, b_is_roll⟩) rfl rfl]
  by_cases h4 : l.length ≤ 400
  · rw [decide_eq_true h4, Bool.true_and]
    simp -implicitDefEqProofs only [b_is_roll, List.map_cons, List.map_nil, List.length_cons, List.length_nil, List.replicate, List.cons_append, List.nil_append, s_tr, tr_nx, tr_rt, tr_ex, s_rse, ex_ex, s_asg, asg_ok, s_ex, ex_ok, s_ret, ret_ok, s_retN, s_brk, s_cnt, s_pas, s_ite, ite_t, ite_f, s_fo, s_nil, s_cons, sq_nx, sq_rt, sq_bk, sq_ct, sq_ex, tel_nx, tel_rt, tel_ex, e_v, oj_s, e_c, e_g, e_nop, e_one, e_bin, e_cmp, e_idx, two_ok, twoJ_ok, e_and, and_t, and_f, e_or, or_t, or_f, e_ite, iteE_t, iteE_f, e_not, not_b, e_ch2, ch2I_ok, ch2J_ok, ch2K_t, ch2K_f, e_ch3, ch3I_ok, ch3J_ok, ch3K_t, ch3K_f, e_tup, e_lst, e_bi, e_call, lsI_ok, e_dct, dct_ok, ps_nil, ps_cons, psI_ok, psK_ok, e_sl, slI_ok, e_sl3, e_sss, ssI_ok, e_lss, lssI_ok, s3I_ok, s3J_c, s3J_n, s3K_c, s3K_n, e_isi, e_lc, lcJ_ok, e_bm, bmJ_ok, e_att, attI_ok, e_mth, mthI_ok, e_pk, e_cfn, calDd_s, ckwI_ok, ckwJ_ok, e_mpk, mpkI_ok, e_mthd, mtdI_ok, e_its, e_lrg, lrgI_ok, e_eqt, eqtI_ok, e_iso, isoI_ok, s_sta, staI_ok, staJ_ok, s_sti, stiI_ok, stiJ_ok, stiK_ok, nxO_s, s_wh, callD_f, es_nil, es_cons, esI_ok, esJ_ok, pAddI, pSubI, List.getElem?_cons_zero, List.getElem?_cons_succ, List.set_cons_zero, List.set_cons_succ, Bool.not_true, Bool.not_false, k, ka, isi_ok (it _), isi_ok (il _), ln, n3, i0, i1, le, pGt, decide_eq_false (show ¬ (400 : Int) < (l.length : Nat) by omega)]
  · rw [decide_eq_false h4, Bool.false_and]
    simp -implicitDefEqProofs only [b_is_roll, List.map_cons, List.map_nil, List.length_cons, List.length_nil, List.replicate, List.cons_append, List.nil_append, s_tr, tr_nx, tr_rt, tr_ex, s_rse, ex_ex, s_asg, asg_ok, s_ex, ex_ok, s_ret, ret_ok, s_retN, s_brk, s_cnt, s_pas, s_ite, ite_t, ite_f, s_fo, s_nil, s_cons, sq_nx, sq_rt, sq_bk, sq_ct, sq_ex, tel_nx, tel_rt, tel_ex, e_v, oj_s, e_c, e_g, e_nop, e_one, e_bin, e_cmp, e_idx, two_ok, twoJ_ok, e_and, and_t, and_f, e_or, or_t, or_f, e_ite, iteE_t, iteE_f, e_not, not_b, e_ch2, ch2I_ok, ch2J_ok, ch2K_t, ch2K_f, e_ch3, ch3I_ok, ch3J_ok, ch3K_t, ch3K_f, e_tup, e_lst, e_bi, e_call, lsI_ok, e_dct, dct_ok, ps_nil, ps_cons, psI_ok, psK_ok, e_sl, slI_ok, e_sl3, e_sss, ssI_ok, e_lss, lssI_ok, s3I_ok, s3J_c, s3J_n, s3K_c, s3K_n, e_isi, e_lc, lcJ_ok, e_bm, bmJ_ok, e_att, attI_ok, e_mth, mthI_ok, e_pk, e_cfn, calDd_s, ckwI_ok, ckwJ_ok, e_mpk, mpkI_ok, e_mthd, mtdI_ok, e_its, e_lrg, lrgI_ok, e_eqt, eqtI_ok, e_iso, isoI_ok, s_sta, staI_ok, staJ_ok, s_sti, stiI_ok, stiJ_ok, stiK_ok, nxO_s, s_wh, callD_f, es_nil, es_cons, esI_ok, esJ_ok, pAddI, pSubI, List.getElem?_cons_zero, List.getElem?_cons_succ, List.set_cons_zero, List.set_cons_succ, Bool.not_true, Bool.not_false, k, ka, isi_ok (it _), isi_ok (il _), ln, n3, i0, i1, le, pGt, decide_eq_true (show (400 : Int) < (l.length : Nat) by omega)])
/-- the law of it -/
theorem ahB_ok {L : Int} : ∀ (l bs : List I3), (∀ x ∈ l, HoleOk L x) → l.Pairwise (fun a b => a.2.1 < b.2.1 ∨ (a.2.1 = b.2.1 ∧ a.1 < b.1)) → l.Pairwise (fun a b => a.1 = b.1 → a.2.2 < b.2.1) → (∀ x ∈ l, leP (x.2.1, x.1) (ahd bs) = false) → (∀ z ∈ bs, ∀ x ∈ l, z.1 = x.1 → z.2.2 < x.2.1) → ahB L bs l = true
  | [], _, _, _, _, _, _ => rfl
  | x :: l, bs, h1, h2, h3, h4, h5 => by
    rw [List.pairwise_cons] at h2 h3
    have hh : hit bs x = false := by
      unfold hit
      cases e : bs.find? fun z => decide (z.1 = x.1) with
      | none => rfl
      | some z =>
        have e1 : z.1 = x.1 := by simpa using List.find?_some e
        have := h5 z (List.mem_of_find?_eq_some e) x List.mem_cons_self e1
        show decide _ = false
        exact decide_eq_false (by omega)
    have go := ahB_ok l (x :: bs) (fun y hy => h1 y (List.mem_cons_of_mem _ hy)) h2.2 h3.2 (fun y hy => by
      have := h2.1 y hy
      show decide _ = false
      exact decide_eq_false (by simp only [ahd]; omega)) fun z hz y hy => by
        rcases List.mem_cons.mp hz with rfl | hz
        · exact h3.1 y hy
        · exact h5 z hz y (List.mem_cons_of_mem _ hy)
    show (decide (HoleOk L x) && (!leP (x.2.1, x.1) (ahd bs) && (!hit bs x && ahB L (x :: bs) l))) = true
    rw [decide_eq_true (h1 x List.mem_cons_self), h4 x List.mem_cons_self, hh, go]; rfl
theorem ahB_roll {L : Int} {l : List I3} (r : RollOk l) (h : ∀ x ∈ l, HoleOk L x) : ahB L [] l = true := by
  refine ahB_ok l [] h r.srt ?_ (fun x hx => ?_) fun _ hz => nomatch hz
  · have : l.Pairwise fun a b => (a ∈ l ∧ b ∈ l) ∧ (a.2.1 < b.2.1 ∨ (a.2.1 = b.2.1 ∧ a.1 < b.1)) := List.Pairwise.and (List.Pairwise.and_mem.mp (r.srt.imp fun _ => trivial) |>.imp fun {a b} q => ⟨q.1, q.2.1⟩) r.srt
    refine this.imp fun {a b} q e => ?_
    rcases r.sep a q.1.1 b q.1.2 e with c | c | c
    · subst c; omega
    · exact c
    · have := r.pos a q.1.1; have := r.pos b q.1.2; omega
  · have := h x hx
    unfold HoleOk at this
    show decide _ = false
    exact decide_eq_false (by simp only [ahd]; omega)

--@need law
/-! ### the plain law -/
theorem pick3_sub {α : Type} {l : List α} {a b : Option Int} {k : Int} {x : α} (h : x ∈ pick3 l a b k) : x ∈ l := by
  unfold pick3 at h
  rw [List.mem_filterMap] at h
  obtain ⟨i, _, h⟩ := h
  exact List.mem_of_getElem? h
theorem pick3_map {α β : Type} (f : α → β) (l : List α) (a b : Option Int) (k : Int) : pick3 (l.map f) a b k = (pick3 l a b k).map f := by
  unfold pick3
  rw [List.length_map, List.map_filterMap]
  congr 1
  funext i
  rw [List.getElem?_map]
theorem pick3_revG {α : Type} (l : List α) (x : α) : x ∈ pick3 l none none (-1) ↔ x ∈ l := by
  have hb : sliceBounds none none (some (-1)) l.length = ((l.length : Int) - 1, -1, -1) := by
    first | rfl | (simp [sliceBounds]; done) | (simp [sliceBounds]; omega)
  have hr : ∀ j : Nat, j < l.length → j ∈ sliceRange ((l.length : Int) - 1) (-1) (-1) := fun j hj => by
    unfold sliceRange
    rw [List.mem_map]
    refine ⟨l.length - 1 - j, ?_, by omega⟩
    rw [List.mem_range, if_neg (by decide), if_pos (by omega)]
    have : ((l.length : Int) - 1 - -1 - -1 - 1) / (- -1) = l.length := by rw [show (- -1 : Int) = 1 from rfl, Int.ediv_one]; omega
    rw [this]
    omega
  unfold pick3
  rw [hb, List.mem_filterMap]
  constructor
  · rintro ⟨i, _, h⟩; exact List.mem_of_getElem? h
  · intro h
    obtain ⟨j, hj, e⟩ := List.mem_iff_getElem.mp h
    exact ⟨j, hr j hj, by rw [List.getElem?_eq_getElem hj, e]⟩
theorem sl3T {zs : List I3} {a b : Option Int} {k : Int} (hk : k ≠ 0) (S : Sto) : pSl3 (.t (.lst (zs.map tri))) a b k S = .ok (.t (.lst ((pick3 zs a b k).map tri))) S := by
  have e : asList S (.t (.lst (zs.map tri))) = some (hD zs) := by
    show some ((zs.map tri).map D.t) = _
    rw [List.map_map]; rfl
  unfold pSl3
  rw [if_neg hk]
  simp only [e]
  have e2 : pick3 (hD zs) a b k = hD (pick3 zs a b k) := pick3_map _ _ _ _ _
  rw [e2]
  exact mkL_t (pls_hD _)
/-- the same cover -/
structure Alk (L : Int) (zs ws : List I3) : Prop where
  h : ∀ w ∈ ws, HoleOk L w
  c : ∀ t x, Cov ws t x ↔ Cov zs t x
  n : ws.length ≤ 1000
theorem Alk.eq {L : Int} {zs ws : List I3} (hz : ∀ z ∈ zs, HoleOk L z) (a : Alk L zs ws) : rollF ws = rollF zs :=
  roll_same (fun z hz => (a.h z hz).2.2.1) (fun z h => (hz z h).2.2.1) a.c
theorem cov_mem {zs ws : List I3} (h : ∀ w, w ∈ ws ↔ w ∈ zs) (t x : Int) : Cov ws t x ↔ Cov zs t x := ⟨fun ⟨w, hw, e⟩ => ⟨w, (h w).mp hw, e⟩, fun ⟨w, hw, e⟩ => ⟨w, (h w).mpr hw, e⟩⟩
theorem adT {hs ks : List I3} (h : hs.length + ks.length ≤ 5000) (S : Sto) : pBin false .Add (.t (.lst (hs.map tri))) (.t (.lst (ks.map tri))) S = .ok (.t (.lst ((hs ++ ks).map tri))) S := by
  rw [pAddL_s (by simp only [List.length_map]; omega), ← List.map_append]
theorem hlaw (ns : List Int) (hl : ns.length ≤ 63) (hb : ∀ z ∈ ns, Builtin.Int.intBits z ≤ 1048576) : ∃ S', run 20 f_law [.t (.scr ns)] [] = .ok (.t (.bl true)) S' := by
  obtain ⟨c0, k0⟩ := c_cellat 18 ns 0 (by decide)
  obtain ⟨c1, k1⟩ := c_cellat 18 ns 1 (by decide)
  obtain ⟨L, hL, kL⟩ := c_length 17 c0
  have hcs : ∀ S, pSl (.t (.scr ns)) (some 2) (some 62) S = .ok (.t (.lst ((cut ns (some 2) (some 62)).map .int))) S := fun S => rfl
  have hcl : (cut ns (some 2) (some 62)).length ≤ 63 := Nat.le_trans (cut_leR _ _ _) hl
  generalize cut ns (some 2) (some 62) = cs at *
  obtain ⟨zs, z1, z2, kz⟩ := c_spans 16 cs L c1 hL (by omega)
  have hp : ∀ z ∈ zs, z.2.1 < z.2.2 := fun z h => (z2 z h).2.2.1
  have rl := roll_len hp
  have ro := roll_ok hp
  have ri : ∀ z ∈ rollF zs, HoleOk L z := fun z hz => roll_in z2 hz
  have kh : ∀ S, callD (cal BT PD 19) true f__law_holes [.t (.lst (zs.map tri))] S = .ok (.t (.lst ((rollF zs).map tri))) S := fun S => by rw [c_holes 17 zs (by omega) S, holesF_eq z2]
  -- every other list of spans
  have alike : ∀ ws, Alk L zs ws → ∀ S, callD (cal BT PD 19) true f_roll_of [.t (.int L), .t (.lst (ws.map tri))] S = .ok (.t (rlT L (rollF zs))) S := fun ws a S => by
    have e := a.eq z2
    have wn := a.n
    rw [c_roll_of 16 hL.1 hL.2 a.h (by rw [e]; omega) (by omega) S, e]
  have a0 : Alk L zs zs := ⟨z2, fun _ _ => Iff.rfl, by omega⟩
  have a1 : Alk L zs (pick3 zs none none (-1)) := ⟨fun w hw => z2 w ((pick3_revG zs w).mp hw), cov_mem (pick3_revG zs), by have := pick3_len zs none none (k := -1) (by decide); omega⟩
  have a2 : Alk L zs (zs ++ zs) := ⟨fun w hw => z2 w (by simpa using hw), cov_mem (by simp), by rw [List.length_append]; omega⟩
  have a3 : Alk L zs (rollF zs) := ⟨ri, roll_cov hp, by omega⟩
  have a4 : Alk L zs (pick3 (rollF zs) none none (-1)) := ⟨fun w hw => ri w ((pick3_revG _ w).mp hw), fun t x => (cov_mem (pick3_revG (rollF zs)) t x).trans (roll_cov hp t x), by have := pick3_len (rollF zs) none none (k := -1) (by decide); omega⟩
  have a5 : Alk L zs (pick3 zs (some 1) none 2 ++ zs) := ⟨fun w hw => (List.mem_append.mp hw).elim (fun q => z2 w (pick3_sub q)) (z2 w), cov_mem fun w => ⟨fun hw => (List.mem_append.mp hw).elim (fun q => pick3_sub q) id, fun hw => List.mem_append_right _ hw⟩, by have := pick3_len zs (some 1) none (k := 2) (by decide); rw [List.length_append]; omega⟩
  have kr1 := c_roll_ofS 16 (L := L) hL.1 hL.2 z2 (by omega) (by omega) [O.lst (hD zs)] (sp := .ref 0) (.rf rfl)
  have s1 : ∀ S, pSl3 (.t (.lst (zs.map tri))) none none (-1) S = .ok (.t (.lst ((pick3 zs none none (-1)).map tri))) S := fun S => sl3T (by decide) S
  have s4 : ∀ S, pSl3 (.t (.lst ((rollF zs).map tri))) none none (-1) S = .ok (.t (.lst ((pick3 (rollF zs) none none (-1)).map tri))) S := fun S => sl3T (by decide) S
  have s5 : ∀ S, pSl3 (.t (.lst (zs.map tri))) (some 1) none 2 S = .ok (.t (.lst ((pick3 zs (some 1) none 2).map tri))) S := fun S => sl3T (by decide) S
  have d2 : ∀ S, pBin false .Add (.t (.lst (zs.map tri))) (.t (.lst (zs.map tri))) S = .ok (.t (.lst ((zs ++ zs).map tri))) S := fun S => adT (by omega) S
  have d5 : ∀ S, pBin false .Add (.t (.lst ((pick3 zs (some 1) none 2).map tri))) (.t (.lst (zs.map tri))) S = .ok (.t (.lst ((pick3 zs (some 1) none 2 ++ zs).map tri))) S := fun S => adT (by have := a5.n; rw [List.length_append] at this; omega) S
  have kr0 := alike zs a0
  have rn : rollF [] = [] := by simp [rollF, mrgF]
  have krn : ∀ S, callD (cal BT PD 19) true f_roll_of [.t (.int L), .t (.lst [])] S = .ok (.t (rlT L [])) S := fun S => by
    have e := c_roll_of 16 (L := L) (xs := []) hL.1 hL.2 (fun _ h => nomatch h) (by rw [rn]; simp) (by simp) S
    rw [rn] at e
    exact e
  generalize pick3 zs none none (-1) = w1 at *
  generalize pick3 zs (some 1) none 2 = w5 at *
  have ki := fun S => c_isT 17 L (rollF zs) S
  have kin := fun S => c_isT 17 L [] S
  have kir : ∀ S, callD (cal BT PD 19) true f_is_roll [.t (rlT L (rollF zs))] S = .ok (.t (.bl true)) S := fun S => by rw [c_is_roll 15 hL.1 hL.2 (rollF zs) (by omega) S, ahB_roll ro ri, decide_eq_true (by omega)]; rfl
  have kr2 : ∀ S0, cal BT PD 19 f_roll_of [.t (.int L), .t (.lst ((rollF zs).map tri))] S0 = .ok (.tup [.t (.int L), .ref (S0.length + 1)]) (S0 ++ [.lst (hD (mrgF ((rollF zs).mergeSort le3))), .lst (hD (rollF zs))]) := fun S0 => by
    have e := c_roll_ofS 16 (L := L) hL.1 hL.2 ri (by rw [a3.eq z2]; omega) (by omega) S0 .pl
    rw [a3.eq z2] at e
    exact e
  generalize mrgF (zs.mergeSort le3) = m1 at *
  generalize mrgF ((rollF zs).mergeSort le3) = m2 at *
  generalize pick3 (rollF zs) none none (-1) = w4 at *
  generalize rollF zs = hs at *
  -- the turns of the loop
  have body : ∀ (ws : List I3), Alk L zs ws → ∀ (x4 x7 : Option D) (x5 : Option D) (S : Sto), evSs BT (cal BT PD 19) b_law_1 [some (.t (.scr ns)), some (I L), some (.t (.lst (zs.map tri))), some (.t (.lst (hs.map tri))), x4, x5, some (.t (.lst (ws.map tri))), x7] S = .nx [some (.t (.scr ns)), some (I L), some (.t (.lst (zs.map tri))), some (.t (.lst (hs.map tri))), x4, x5, some (.t (.lst (ws.map tri))), x7] S := fun ws a x4 x7 x5 S => by
    have k := alike ws a
    have pk : ∀ S, pkD (cal BT PD 19) f__law_is [.t (rlT L hs), I L, .t (.lst (hs.map tri))] S = .ok (.t (.bl true)) S := fun S => pk_bl (ts := [rlT L hs, .int L, .lst (hs.map tri)]) (frzL_t 9 S [rlT L hs, .int L, .lst (hs.map tri)]) ki
    rw [b_law_1]
    simp -implicitDefEqProofs only [s_tr, tr_nx, tr_rt, tr_ex, s_rse, ex_ex, s_asg, asg_ok, s_ex, ex_ok, s_ret, ret_ok, s_retN, s_brk, s_cnt, s_pas, s_ite, ite_t, ite_f, s_fo, s_nil, s_cons, sq_nx, sq_rt, sq_bk, sq_ct, sq_ex, tel_nx, tel_rt, tel_ex, e_v, oj_s, e_c, e_g, e_nop, e_one, e_bin, e_cmp, e_idx, two_ok, twoJ_ok, e_and, and_t, and_f, e_or, or_t, or_f, e_ite, iteE_t, iteE_f, e_not, not_b, e_ch2, ch2I_ok, ch2J_ok, ch2K_t, ch2K_f, e_ch3, ch3I_ok, ch3J_ok, ch3K_t, ch3K_f, e_tup, e_lst, e_bi, e_call, lsI_ok, e_dct, dct_ok, ps_nil, ps_cons, psI_ok, psK_ok, e_sl, slI_ok, e_sl3, e_sss, ssI_ok, e_lss, lssI_ok, s3I_ok, s3J_c, s3J_n, s3K_c, s3K_n, e_isi, e_lc, lcJ_ok, e_bm, bmJ_ok, e_att, attI_ok, e_mth, mthI_ok, e_pk, e_cfn, calDd_s, ckwI_ok, ckwJ_ok, e_mpk, mpkI_ok, e_mthd, mtdI_ok, e_its, e_lrg, lrgI_ok, e_eqt, eqtI_ok, e_iso, isoI_ok, s_sta, staI_ok, staJ_ok, s_sti, stiI_ok, stiJ_ok, stiK_ok, nxO_s, s_wh, callD_f, es_nil, es_cons, esI_ok, esJ_ok, pAddI, pSubI, List.getElem?_cons_zero, List.getElem?_cons_succ, List.set_cons_zero, List.set_cons_succ, Bool.not_true, Bool.not_false, k, pk]
  have lp : ∀ (x4 x7 x5 : Option D) (S : Sto) (l : List (List I3)), (∀ ws ∈ l, Alk L zs ws) → ∀ x6 : Option D, ∃ y6, foL (.v 6) (evSs BT (cal BT PD 19) b_law_1) (l.map fun ws => .t (.lst (ws.map tri))) [some (.t (.scr ns)), some (I L), some (.t (.lst (zs.map tri))), some (.t (.lst (hs.map tri))), x4, x5, x6, x7] S = .nx [some (.t (.scr ns)), some (I L), some (.t (.lst (zs.map tri))), some (.t (.lst (hs.map tri))), x4, x5, y6, x7] S := fun x4 x7 x5 S l => by
    induction l with
    | nil => exact fun _ x6 => ⟨x6, rfl⟩
    | cons ws l ih =>
      intro h x6
      obtain ⟨y6, e⟩ := ih (fun w hw => h w (List.mem_cons_of_mem _ hw)) (some (.t (.lst (ws.map tri))))
      refine ⟨y6, Eq.trans ?_ e⟩
      rw [List.map_cons, fo_cons, setP_v, foA_s]
      simp only [List.set_cons_zero, List.set_cons_succ]
      rw [body ws (h ws List.mem_cons_self), foB_nx]
  have lsR : ∀ S, pBi true .list [.t (.lst (zs.map tri))] S = .ok (.ref S.length) (S ++ [.lst (hD zs)]) := fun S => by
    show mkL true ((zs.map tri).map D.t) S = _
    rw [List.map_map]; rfl
  have ne1 : ∀ S : Sto, S[0]? = some (.lst (hD zs)) → pCmp .NotEq (.ref 0) (.t (.lst (zs.map tri))) S = .ok (.t (.bl false)) S := fun S h => by
    have h' : S[0]? = some (.lst ((zs.map tri).map D.t)) := by rw [List.map_map]; exact h
    have a1 : look S (.ref 0) = look S (.t (.lst (zs.map tri))) := by unfold look; rw [frz_lst h', frz_t]
    have q := neHs (S := S) zs zs
    have e : eqD (.ref 0) (.t (.lst (zs.map tri))) S = eqD (.t (.lst (zs.map tri))) (.t (.lst (zs.map tri))) S := by simp only [eqD, a1]
    simp only [pCmp] at q ⊢
    rw [e, q]
    simp
  have pk1 : pkD (cal BT PD 19) f__law_is [.tup [I L, .ref 2], I L, .t (.lst (hs.map tri))] [O.lst (hD zs), O.lst (hD m1), O.lst (hD hs)] = .ok (.t (.bl true)) [O.lst (hD zs), O.lst (hD m1), O.lst (hD hs)] := by
    obtain ⟨S2, e⟩ := frz_rl (S := [O.lst (hD zs), O.lst (hD m1), O.lst (hD hs)]) (k := 2) (L := L) (hs := hs) rfl
    refine pk_bl (ts := [rlT L hs, .int L, .lst (hs.map tri)]) (S' := S2) ?_ ki
    simp only [frzL, e, frz_t]
  have pk2 : pkD (cal BT PD 19) f_is_roll [.tup [I L, .ref 2]] [O.lst (hD zs), O.lst (hD m1), O.lst (hD hs)] = .ok (.t (.bl true)) [O.lst (hD zs), O.lst (hD m1), O.lst (hD hs)] := by
    obtain ⟨S2, e⟩ := frz_rl (S := [O.lst (hD zs), O.lst (hD m1), O.lst (hD hs)]) (k := 2) (L := L) (hs := hs) rfl
    refine pk_bl (ts := [rlT L hs]) (S' := S2) ?_ kir
    simp only [frzL, e]
  have pk3 : ∀ S, pkD (cal BT PD 19) f__law_is [.t (rlT L hs), I L, .t (.lst (hs.map tri))] S = .ok (.t (.bl true)) S := fun S => pk_bl (ts := [rlT L hs, .int L, .lst (hs.map tri)]) (frzL_t 9 S [rlT L hs, .int L, .lst (hs.map tri)]) ki
  have pk4 : ∀ S, pkD (cal BT PD 19) f__law_is [.t (rlT L []), I L, .t (.lst [])] S = .ok (.t (.bl true)) S := fun S => pk_bl (ts := [rlT L [], .int L, .lst []]) (frzL_t 9 S [rlT L [], .int L, .lst []]) kin
  have kl2 : ∀ S, pBi false .list [.t (.lst (hs.map tri))] S = .ok (.t (.lst (hs.map tri))) S := fun S => pListL _ S
  have ne2 : ∀ S, pCmp .NotEq (.t (.lst (hs.map tri))) (.t (.lst (hs.map tri))) S = .ok (.t (.bl false)) S := fun S => by rw [neHs]; simp
  obtain ⟨y6, e6⟩ := lp (some (.ref 0)) none (some (.tup [I L, .ref 2])) [O.lst [], O.lst (hD m1), O.lst (hD hs)] [w1, zs ++ zs, hs, w4, w5 ++ zs] (fun w hw => by
    simp only [List.mem_cons, List.not_mem_nil, or_false] at hw
    rcases hw with rfl | rfl | rfl | rfl | rfl
    · exact a1
    · exact a2
    · exact a3
    · exact a4
    · exact a5) none
  have it6 : ∀ S, itemsOf .seq [.t (.lst [.lst (w1.map tri), .lst ((zs ++ zs).map tri), .lst (hs.map tri), .lst (w4.map tri), .lst ((w5 ++ zs).map tri)])] S = some ([w1, zs ++ zs, hs, w4, w5 ++ zs].map fun ws => .t (.lst (ws.map tri))) := fun _ => rfl
  refine ⟨[O.lst [], O.lst (hD m1), O.lst (hD hs ++ [.t (tri (0, 0, 1))]), O.lst (hD m2), O.lst (hD hs ++ [.t (tri (0, 0, 1))])], ?_⟩
  unfold run
  rw [r_def (d := ⟨1, 8, b_law⟩) rfl rfl]
  rw [b_law]
  simp -implicitDefEqProofs only [List.map_cons, List.map_nil, List.length_cons, List.length_nil, List.replicate, List.cons_append, List.nil_append]
  rw [run_consR (S1 := []) (ρ1 := [some (.t (.scr ns)), some (I L), none, none, none, none, none, none]) (by simp -implicitDefEqProofs only [s_tr, tr_nx, tr_rt, tr_ex, s_rse, ex_ex, s_asg, asg_ok, s_ex, ex_ok, s_ret, ret_ok, s_retN, s_brk, s_cnt, s_pas, s_ite, ite_t, ite_f, s_fo, s_nil, s_cons, sq_nx, sq_rt, sq_bk, sq_ct, sq_ex, tel_nx, tel_rt, tel_ex, e_v, oj_s, e_c, e_g, e_nop, e_one, e_bin, e_cmp, e_idx, two_ok, twoJ_ok, e_and, and_t, and_f, e_or, or_t, or_f, e_ite, iteE_t, iteE_f, e_not, not_b, e_ch2, ch2I_ok, ch2J_ok, ch2K_t, ch2K_f, e_ch3, ch3I_ok, ch3J_ok, ch3K_t, ch3K_f, e_tup, e_lst, e_bi, e_call, lsI_ok, e_dct, dct_ok, ps_nil, ps_cons, psI_ok, psK_ok, e_sl, slI_ok, e_sl3, e_sss, ssI_ok, e_lss, lssI_ok, s3I_ok, s3J_c, s3J_n, s3K_c, s3K_n, e_isi, e_lc, lcJ_ok, e_bm, bmJ_ok, e_att, attI_ok, e_mth, mthI_ok, e_pk, e_cfn, calDd_s, ckwI_ok, ckwJ_ok, e_mpk, mpkI_ok, e_mthd, mtdI_ok, e_its, e_lrg, lrgI_ok, e_eqt, eqtI_ok, e_iso, isoI_ok, s_sta, staI_ok, staJ_ok, s_sti, stiI_ok, stiJ_ok, stiK_ok, nxO_s, s_wh, callD_f, es_nil, es_cons, esI_ok, esJ_ok, pAddI, pSubI, List.getElem?_cons_zero, List.getElem?_cons_succ, List.set_cons_zero, List.set_cons_succ, Bool.not_true, Bool.not_false, k0, kL, setP_v, List.set_cons_zero, List.set_cons_succ])]
  rw [run_consR (S1 := []) (ρ1 := [some (.t (.scr ns)), some (I L), some (.t (.lst (zs.map tri))), none, none, none, none, none]) (by simp -implicitDefEqProofs (disch := (first | omega | rfl | (simp only [List.length_map, List.length_append, List.length_cons, List.length_nil, List.length_range] <;> omega))) only [s_tr, tr_nx, tr_rt, tr_ex, s_rse, ex_ex, s_asg, asg_ok, s_ex, ex_ok, s_ret, ret_ok, s_retN, s_brk, s_cnt, s_pas, s_ite, ite_t, ite_f, s_fo, s_nil, s_cons, sq_nx, sq_rt, sq_bk, sq_ct, sq_ex, tel_nx, tel_rt, tel_ex, e_v, oj_s, e_c, e_g, e_nop, e_one, e_bin, e_cmp, e_idx, two_ok, twoJ_ok, e_and, and_t, and_f, e_or, or_t, or_f, e_ite, iteE_t, iteE_f, e_not, not_b, e_ch2, ch2I_ok, ch2J_ok, ch2K_t, ch2K_f, e_ch3, ch3I_ok, ch3J_ok, ch3K_t, ch3K_f, e_tup, e_lst, e_bi, e_call, lsI_ok, e_dct, dct_ok, ps_nil, ps_cons, psI_ok, psK_ok, e_sl, slI_ok, e_sl3, e_sss, ssI_ok, e_lss, lssI_ok, s3I_ok, s3J_c, s3J_n, s3K_c, s3K_n, e_isi, e_lc, lcJ_ok, e_bm, bmJ_ok, e_att, attI_ok, e_mth, mthI_ok, e_pk, e_cfn, calDd_s, ckwI_ok, ckwJ_ok, e_mpk, mpkI_ok, e_mthd, mtdI_ok, e_its, e_lrg, lrgI_ok, e_eqt, eqtI_ok, e_iso, isoI_ok, s_sta, staI_ok, staJ_ok, s_sti, stiI_ok, stiJ_ok, stiK_ok, nxO_s, s_wh, callD_f, es_nil, es_cons, esI_ok, esJ_ok, pAddI, pSubI, List.getElem?_cons_zero, List.getElem?_cons_succ, List.set_cons_zero, List.set_cons_succ, Bool.not_true, Bool.not_false, pMulL, pMulR, pDiv, pMod, pPowL, pShrI, decT, decF, decide_true, decide_false, pls_nl, pls_cs, plC_s, pls_tp, pls_rf, plC_n, mtI_n, pls_mp, mkL_s, mkL_r, mlI_s, mkT_s, mtI_s, setP_v, setP_2, setP_3, setP_4, setP_5, setP_d2, setP_n2, asg_t, asT_s, fo_st, foX_s, fo_nil, fo_cons, foA_s, foB_nx, foB_ct, foB_bk, foB_rt, itemsL_s, itA_s, lc_st, lcX_s, itL_s, itT_s, itD_s, itR_s, itR2_s, lc_nil, lc_cons, lcA_s, lcB_t, lcB_f, lcD_ok, lc1_s, lc1A_s, lc1B_t, lc1B_f, lc1D_ok, pIdx_l, pIdx_t, opM_s, pLenL_s, pLenT_s, pLenSc, e_fz, fzI_ok, fzJ_s, frz0, frz1, frz0f, frz1f, app0, app1, app2, kd0, kd1, kd2, isn_i, isn_n, isn_t, inn_i, inn_n, inn_t, inn_l, bi_int_i, bi_int_t, bi_int_f, pEqI, pNeI, pLt, pLe, pGt, pGe, wipeL, Pt.own, rng1, rng2, rng3, rng4, List.map_cons, List.map_nil, List.nil_append, List.cons_append, Int.reduceToNat, Int.reduceAdd, Int.reduceSub, Int.reduceMul, Int.toNat_zero, Int.toNat_one, Int.toNat_natCast, Int.natCast_zero, Int.natCast_one, Int.cast_ofNat_Int, mthI_ok, appE, kdE, frzE, frzEf, frzE1, frzE2, itO_ref, itA_n, itRfE, itRf0, itRf1, slJ_c1, slK_c1, slJ_v1, slK_v1, slJ_b1, slK_b1, slJ_i1, slK_i1, slJ_g1, slK_g1, slJ_u1, slK_u1, slJ_n, slK_n, pIdxE0, pIdxE1, pNe_nn, pEq_nn, pAddL_s, psJ_str, psJ_int, kdS_join, kdS_split, kdS_startswith, kdL_index, kdI_bits, kdD_get, pureE, pureEs, Bool.and_self, Bool.true_and, Bool.and_true, Bool.not_false, k1, hcs, kz])]
  rw [run_consR (S1 := []) (ρ1 := [some (.t (.scr ns)), some (I L), some (.t (.lst (zs.map tri))), some (.t (.lst (hs.map tri))), none, none, none, none]) (by simp -implicitDefEqProofs only [s_tr, tr_nx, tr_rt, tr_ex, s_rse, ex_ex, s_asg, asg_ok, s_ex, ex_ok, s_ret, ret_ok, s_retN, s_brk, s_cnt, s_pas, s_ite, ite_t, ite_f, s_fo, s_nil, s_cons, sq_nx, sq_rt, sq_bk, sq_ct, sq_ex, tel_nx, tel_rt, tel_ex, e_v, oj_s, e_c, e_g, e_nop, e_one, e_bin, e_cmp, e_idx, two_ok, twoJ_ok, e_and, and_t, and_f, e_or, or_t, or_f, e_ite, iteE_t, iteE_f, e_not, not_b, e_ch2, ch2I_ok, ch2J_ok, ch2K_t, ch2K_f, e_ch3, ch3I_ok, ch3J_ok, ch3K_t, ch3K_f, e_tup, e_lst, e_bi, e_call, lsI_ok, e_dct, dct_ok, ps_nil, ps_cons, psI_ok, psK_ok, e_sl, slI_ok, e_sl3, e_sss, ssI_ok, e_lss, lssI_ok, s3I_ok, s3J_c, s3J_n, s3K_c, s3K_n, e_isi, e_lc, lcJ_ok, e_bm, bmJ_ok, e_att, attI_ok, e_mth, mthI_ok, e_pk, e_cfn, calDd_s, ckwI_ok, ckwJ_ok, e_mpk, mpkI_ok, e_mthd, mtdI_ok, e_its, e_lrg, lrgI_ok, e_eqt, eqtI_ok, e_iso, isoI_ok, s_sta, staI_ok, staJ_ok, s_sti, stiI_ok, stiJ_ok, stiK_ok, nxO_s, s_wh, callD_f, es_nil, es_cons, esI_ok, esJ_ok, pAddI, pSubI, List.getElem?_cons_zero, List.getElem?_cons_succ, List.set_cons_zero, List.set_cons_succ, Bool.not_true, Bool.not_false, kh, setP_v, List.set_cons_zero, List.set_cons_succ])]
  rw [run_consR (run_asgR (d := .ref 0) (S1 := [.lst (hD zs)]) (ρ1 := [some (.t (.scr ns)), some (I L), some (.t (.lst (zs.map tri))), some (.t (.lst (hs.map tri))), some (.ref 0), none, none, none]) (by simp -implicitDefEqProofs only [s_tr, tr_nx, tr_rt, tr_ex, s_rse, ex_ex, s_asg, asg_ok, s_ex, ex_ok, s_ret, ret_ok, s_retN, s_brk, s_cnt, s_pas, s_ite, ite_t, ite_f, s_fo, s_nil, s_cons, sq_nx, sq_rt, sq_bk, sq_ct, sq_ex, tel_nx, tel_rt, tel_ex, e_v, oj_s, e_c, e_g, e_nop, e_one, e_bin, e_cmp, e_idx, two_ok, twoJ_ok, e_and, and_t, and_f, e_or, or_t, or_f, e_ite, iteE_t, iteE_f, e_not, not_b, e_ch2, ch2I_ok, ch2J_ok, ch2K_t, ch2K_f, e_ch3, ch3I_ok, ch3J_ok, ch3K_t, ch3K_f, e_tup, e_lst, e_bi, e_call, lsI_ok, e_dct, dct_ok, ps_nil, ps_cons, psI_ok, psK_ok, e_sl, slI_ok, e_sl3, e_sss, ssI_ok, e_lss, lssI_ok, s3I_ok, s3J_c, s3J_n, s3K_c, s3K_n, e_isi, e_lc, lcJ_ok, e_bm, bmJ_ok, e_att, attI_ok, e_mth, mthI_ok, e_pk, e_cfn, calDd_s, ckwI_ok, ckwJ_ok, e_mpk, mpkI_ok, e_mthd, mtdI_ok, e_its, e_lrg, lrgI_ok, e_eqt, eqtI_ok, e_iso, isoI_ok, s_sta, staI_ok, staJ_ok, s_sti, stiI_ok, stiJ_ok, stiK_ok, nxO_s, s_wh, callD_f, es_nil, es_cons, esI_ok, esJ_ok, pAddI, pSubI, List.getElem?_cons_zero, List.getElem?_cons_succ, List.set_cons_zero, List.set_cons_succ, Bool.not_true, Bool.not_false, lsR]; rfl) rfl)]
  rw [run_consR (run_asgR (d := .tup [I L, .ref 2]) (S1 := [.lst (hD zs), .lst (hD m1), .lst (hD hs)]) (ρ1 := [some (.t (.scr ns)), some (I L), some (.t (.lst (zs.map tri))), some (.t (.lst (hs.map tri))), some (.ref 0), some (.tup [I L, .ref 2]), none, none]) (by
    simp -implicitDefEqProofs only [s_tr, tr_nx, tr_rt, tr_ex, s_rse, ex_ex, s_asg, asg_ok, s_ex, ex_ok, s_ret, ret_ok, s_retN, s_brk, s_cnt, s_pas, s_ite, ite_t, ite_f, s_fo, s_nil, s_cons, sq_nx, sq_rt, sq_bk, sq_ct, sq_ex, tel_nx, tel_rt, tel_ex, e_v, oj_s, e_c, e_g, e_nop, e_one, e_bin, e_cmp, e_idx, two_ok, twoJ_ok, e_and, and_t, and_f, e_or, or_t, or_f, e_ite, iteE_t, iteE_f, e_not, not_b, e_ch2, ch2I_ok, ch2J_ok, ch2K_t, ch2K_f, e_ch3, ch3I_ok, ch3J_ok, ch3K_t, ch3K_f, e_tup, e_lst, e_bi, e_call, lsI_ok, e_dct, dct_ok, ps_nil, ps_cons, psI_ok, psK_ok, e_sl, slI_ok, e_sl3, e_sss, ssI_ok, e_lss, lssI_ok, s3I_ok, s3J_c, s3J_n, s3K_c, s3K_n, e_isi, e_lc, lcJ_ok, e_bm, bmJ_ok, e_att, attI_ok, e_mth, mthI_ok, e_pk, e_cfn, calDd_s, ckwI_ok, ckwJ_ok, e_mpk, mpkI_ok, e_mthd, mtdI_ok, e_its, e_lrg, lrgI_ok, e_eqt, eqtI_ok, e_iso, isoI_ok, s_sta, staI_ok, staJ_ok, s_sti, stiI_ok, stiJ_ok, stiK_ok, nxO_s, s_wh, callD_f, es_nil, es_cons, esI_ok, esJ_ok, pAddI, pSubI, List.getElem?_cons_zero, List.getElem?_cons_succ, List.set_cons_zero, List.set_cons_succ, Bool.not_true, Bool.not_false, callD_f, kr1]
    rfl) rfl)]
  rw [run_consR (S1 := [.lst (hD zs), .lst (hD m1), .lst (hD hs)]) (ρ1 := [some (.t (.scr ns)), some (I L), some (.t (.lst (zs.map tri))), some (.t (.lst (hs.map tri))), some (.ref 0), some (.tup [I L, .ref 2]), none, none]) (by
    simp -implicitDefEqProofs only [s_tr, tr_nx, tr_rt, tr_ex, s_rse, ex_ex, s_asg, asg_ok, s_ex, ex_ok, s_ret, ret_ok, s_retN, s_brk, s_cnt, s_pas, s_ite, ite_t, ite_f, s_fo, s_nil, s_cons, sq_nx, sq_rt, sq_bk, sq_ct, sq_ex, tel_nx, tel_rt, tel_ex, e_v, oj_s, e_c, e_g, e_nop, e_one, e_bin, e_cmp, e_idx, two_ok, twoJ_ok, e_and, and_t, and_f, e_or, or_t, or_f, e_ite, iteE_t, iteE_f, e_not, not_b, e_ch2, ch2I_ok, ch2J_ok, ch2K_t, ch2K_f, e_ch3, ch3I_ok, ch3J_ok, ch3K_t, ch3K_f, e_tup, e_lst, e_bi, e_call, lsI_ok, e_dct, dct_ok, ps_nil, ps_cons, psI_ok, psK_ok, e_sl, slI_ok, e_sl3, e_sss, ssI_ok, e_lss, lssI_ok, s3I_ok, s3J_c, s3J_n, s3K_c, s3K_n, e_isi, e_lc, lcJ_ok, e_bm, bmJ_ok, e_att, attI_ok, e_mth, mthI_ok, e_pk, e_cfn, calDd_s, ckwI_ok, ckwJ_ok, e_mpk, mpkI_ok, e_mthd, mtdI_ok, e_its, e_lrg, lrgI_ok, e_eqt, eqtI_ok, e_iso, isoI_ok, s_sta, staI_ok, staJ_ok, s_sti, stiI_ok, stiJ_ok, stiK_ok, nxO_s, s_wh, callD_f, es_nil, es_cons, esI_ok, esJ_ok, pAddI, pSubI, List.getElem?_cons_zero, List.getElem?_cons_succ, List.set_cons_zero, List.set_cons_succ, Bool.not_true, Bool.not_false, ne1 [.lst (hD zs), .lst (hD m1), .lst (hD hs)] rfl, pk1, pk2]
    first | done | rfl)]
  rw [run_consR (S1 := [.lst [], .lst (hD m1), .lst (hD hs)]) (ρ1 := [some (.t (.scr ns)), some (I L), some (.t (.lst (zs.map tri))), some (.t (.lst (hs.map tri))), some (.ref 0), some (.tup [I L, .ref 2]), none, none]) (by
    rw [s_ex, e_bm]
    simp -implicitDefEqProofs only [s_tr, tr_nx, tr_rt, tr_ex, s_rse, ex_ex, s_asg, asg_ok, s_ex, ex_ok, s_ret, ret_ok, s_retN, s_brk, s_cnt, s_pas, s_ite, ite_t, ite_f, s_fo, s_nil, s_cons, sq_nx, sq_rt, sq_bk, sq_ct, sq_ex, tel_nx, tel_rt, tel_ex, e_v, oj_s, e_c, e_g, e_nop, e_one, e_bin, e_cmp, e_idx, two_ok, twoJ_ok, e_and, and_t, and_f, e_or, or_t, or_f, e_ite, iteE_t, iteE_f, e_not, not_b, e_ch2, ch2I_ok, ch2J_ok, ch2K_t, ch2K_f, e_ch3, ch3I_ok, ch3J_ok, ch3K_t, ch3K_f, e_tup, e_lst, e_bi, e_call, lsI_ok, e_dct, dct_ok, ps_nil, ps_cons, psI_ok, psK_ok, e_sl, slI_ok, e_sl3, e_sss, ssI_ok, e_lss, lssI_ok, s3I_ok, s3J_c, s3J_n, s3K_c, s3K_n, e_isi, e_lc, lcJ_ok, e_bm, bmJ_ok, e_att, attI_ok, e_mth, mthI_ok, e_pk, e_cfn, calDd_s, ckwI_ok, ckwJ_ok, e_mpk, mpkI_ok, e_mthd, mtdI_ok, e_its, e_lrg, lrgI_ok, e_eqt, eqtI_ok, e_iso, isoI_ok, s_sta, staI_ok, staJ_ok, s_sti, stiI_ok, stiJ_ok, stiK_ok, nxO_s, s_wh, callD_f, es_nil, es_cons, esI_ok, esJ_ok, pAddI, pSubI, List.getElem?_cons_zero, List.getElem?_cons_succ, List.set_cons_zero, List.set_cons_succ, Bool.not_true, Bool.not_false]
    rfl)]
  rw [run_consR (S1 := [.lst [], .lst (hD m1), .lst (hD hs)]) (ρ1 := [some (.t (.scr ns)), some (I L), some (.t (.lst (zs.map tri))), some (.t (.lst (hs.map tri))), some (.ref 0), some (.tup [I L, .ref 2]), y6, none]) (by
    simp -implicitDefEqProofs only [s_tr, tr_nx, tr_rt, tr_ex, s_rse, ex_ex, s_asg, asg_ok, s_ex, ex_ok, s_ret, ret_ok, s_retN, s_brk, s_cnt, s_pas, s_ite, ite_t, ite_f, s_fo, s_nil, s_cons, sq_nx, sq_rt, sq_bk, sq_ct, sq_ex, tel_nx, tel_rt, tel_ex, e_v, oj_s, e_c, e_g, e_nop, e_one, e_bin, e_cmp, e_idx, two_ok, twoJ_ok, e_and, and_t, and_f, e_or, or_t, or_f, e_ite, iteE_t, iteE_f, e_not, not_b, e_ch2, ch2I_ok, ch2J_ok, ch2K_t, ch2K_f, e_ch3, ch3I_ok, ch3J_ok, ch3K_t, ch3K_f, e_tup, e_lst, e_bi, e_call, lsI_ok, e_dct, dct_ok, ps_nil, ps_cons, psI_ok, psK_ok, e_sl, slI_ok, e_sl3, e_sss, ssI_ok, e_lss, lssI_ok, s3I_ok, s3J_c, s3J_n, s3K_c, s3K_n, e_isi, e_lc, lcJ_ok, e_bm, bmJ_ok, e_att, attI_ok, e_mth, mthI_ok, e_pk, e_cfn, calDd_s, ckwI_ok, ckwJ_ok, e_mpk, mpkI_ok, e_mthd, mtdI_ok, e_its, e_lrg, lrgI_ok, e_eqt, eqtI_ok, e_iso, isoI_ok, s_sta, staI_ok, staJ_ok, s_sti, stiI_ok, stiJ_ok, stiK_ok, nxO_s, s_wh, callD_f, es_nil, es_cons, esI_ok, esJ_ok, pAddI, pSubI, List.getElem?_cons_zero, List.getElem?_cons_succ, List.set_cons_zero, List.set_cons_succ, Bool.not_true, Bool.not_false, s3I_ok, s3J_n, s3K_n, s1, s4, s5, d2, d5, mkL_s, pls_cs, pls_nl, plC_s, mlI_s, fo_ok (it6 _)]
    exact e6)]
  have lh : hs.length ≤ 1000 := by omega
  have ix5 : pIdx (.tup [I L, .ref 2]) (I 1) [O.lst [], O.lst (hD m1), O.lst (hD hs)] = .ok (.ref 2) [O.lst [], O.lst (hD m1), O.lst (hD hs)] := rfl
  have kd5 := fun ρ es => bmI_ok (B := BT) (C := cal BT PD 19) (m := false) (es := es) (ρ := ρ) (kndR (S := [O.lst [], O.lst (hD m1), O.lst (hD hs)]) (k := 2) (xs := hD hs) rfl)
  have ap5 : pBm false .append (.ref 2) [.t (tri (0, 0, 1))] [O.lst [], O.lst (hD m1), O.lst (hD hs)] = .ok (.t .non) [O.lst [], O.lst (hD m1), O.lst (hD hs ++ [.t (tri (0, 0, 1))])] := appR (xs := hD hs) rfl (by rw [List.length_map]; omega)
  have mk5 := fun S => mk_tri 0 0 1 S
  rw [run_consR (S1 := [.lst [], .lst (hD m1), .lst (hD hs ++ [.t (tri (0, 0, 1))])]) (ρ1 := [some (.t (.scr ns)), some (I L), some (.t (.lst (zs.map tri))), some (.t (.lst (hs.map tri))), some (.ref 0), some (.tup [I L, .ref 2]), y6, none]) (by
    simp -implicitDefEqProofs only [s_tr, tr_nx, tr_rt, tr_ex, s_rse, ex_ex, s_asg, asg_ok, s_ex, ex_ok, s_ret, ret_ok, s_retN, s_brk, s_cnt, s_pas, s_ite, ite_t, ite_f, s_fo, s_nil, s_cons, sq_nx, sq_rt, sq_bk, sq_ct, sq_ex, tel_nx, tel_rt, tel_ex, e_v, oj_s, e_c, e_g, e_nop, e_one, e_bin, e_cmp, e_idx, two_ok, twoJ_ok, e_and, and_t, and_f, e_or, or_t, or_f, e_ite, iteE_t, iteE_f, e_not, not_b, e_ch2, ch2I_ok, ch2J_ok, ch2K_t, ch2K_f, e_ch3, ch3I_ok, ch3J_ok, ch3K_t, ch3K_f, e_tup, e_lst, e_bi, e_call, lsI_ok, e_dct, dct_ok, ps_nil, ps_cons, psI_ok, psK_ok, e_sl, slI_ok, e_sl3, e_sss, ssI_ok, e_lss, lssI_ok, s3I_ok, s3J_c, s3J_n, s3K_c, s3K_n, e_isi, e_lc, lcJ_ok, e_bm, bmJ_ok, e_att, attI_ok, e_mth, mthI_ok, e_pk, e_cfn, calDd_s, ckwI_ok, ckwJ_ok, e_mpk, mpkI_ok, e_mthd, mtdI_ok, e_its, e_lrg, lrgI_ok, e_eqt, eqtI_ok, e_iso, isoI_ok, s_sta, staI_ok, staJ_ok, s_sti, stiI_ok, stiJ_ok, stiK_ok, nxO_s, s_wh, callD_f, es_nil, es_cons, esI_ok, esJ_ok, pAddI, pSubI, List.getElem?_cons_zero, List.getElem?_cons_succ, List.set_cons_zero, List.set_cons_succ, Bool.not_true, Bool.not_false, ix5, kd5, mk5, ap5])]
  rw [run_consR (S1 := [.lst [], .lst (hD m1), .lst (hD hs ++ [.t (tri (0, 0, 1))])]) (ρ1 := [some (.t (.scr ns)), some (I L), some (.t (.lst (zs.map tri))), some (.t (.lst (hs.map tri))), some (.ref 0), some (.tup [I L, .ref 2]), y6, some (.t (.lst (hs.map tri)))]) (by
    simp -implicitDefEqProofs only [s_tr, tr_nx, tr_rt, tr_ex, s_rse, ex_ex, s_asg, asg_ok, s_ex, ex_ok, s_ret, ret_ok, s_retN, s_brk, s_cnt, s_pas, s_ite, ite_t, ite_f, s_fo, s_nil, s_cons, sq_nx, sq_rt, sq_bk, sq_ct, sq_ex, tel_nx, tel_rt, tel_ex, e_v, oj_s, e_c, e_g, e_nop, e_one, e_bin, e_cmp, e_idx, two_ok, twoJ_ok, e_and, and_t, and_f, e_or, or_t, or_f, e_ite, iteE_t, iteE_f, e_not, not_b, e_ch2, ch2I_ok, ch2J_ok, ch2K_t, ch2K_f, e_ch3, ch3I_ok, ch3J_ok, ch3K_t, ch3K_f, e_tup, e_lst, e_bi, e_call, lsI_ok, e_dct, dct_ok, ps_nil, ps_cons, psI_ok, psK_ok, e_sl, slI_ok, e_sl3, e_sss, ssI_ok, e_lss, lssI_ok, s3I_ok, s3J_c, s3J_n, s3K_c, s3K_n, e_isi, e_lc, lcJ_ok, e_bm, bmJ_ok, e_att, attI_ok, e_mth, mthI_ok, e_pk, e_cfn, calDd_s, ckwI_ok, ckwJ_ok, e_mpk, mpkI_ok, e_mthd, mtdI_ok, e_its, e_lrg, lrgI_ok, e_eqt, eqtI_ok, e_iso, isoI_ok, s_sta, staI_ok, staJ_ok, s_sti, stiI_ok, stiJ_ok, stiK_ok, nxO_s, s_wh, callD_f, es_nil, es_cons, esI_ok, esJ_ok, pAddI, pSubI, List.getElem?_cons_zero, List.getElem?_cons_succ, List.set_cons_zero, List.set_cons_succ, Bool.not_true, Bool.not_false, kl2, setP_v, List.set_cons_zero, List.set_cons_succ])]
  have kr3 := kr2 [.lst [], .lst (hD m1), .lst (hD hs ++ [.t (tri (0, 0, 1))])]
  have ix6 : ∀ S, pIdx (.tup [I L, .ref 4]) (I 1) S = .ok (.ref 4) S := fun _ => rfl
  have kd6 := fun ρ es => bmI_ok (B := BT) (C := cal BT PD 19) (m := false) (es := es) (ρ := ρ) (kndR (S := [O.lst [], O.lst (hD m1), O.lst (hD hs ++ [.t (tri (0, 0, 1))]), O.lst (hD m2), O.lst (hD hs)]) (k := 4) (xs := hD hs) rfl)
  have ap6 : pBm false .append (.ref 4) [.t (tri (0, 0, 1))] [O.lst [], O.lst (hD m1), O.lst (hD hs ++ [.t (tri (0, 0, 1))]), O.lst (hD m2), O.lst (hD hs)] = .ok (.t .non) [O.lst [], O.lst (hD m1), O.lst (hD hs ++ [.t (tri (0, 0, 1))]), O.lst (hD m2), O.lst (hD hs ++ [.t (tri (0, 0, 1))])] := appR (xs := hD hs) rfl (by rw [List.length_map]; omega)
  rw [run_consR (S1 := [O.lst [], O.lst (hD m1), O.lst (hD hs ++ [.t (tri (0, 0, 1))]), O.lst (hD m2), O.lst (hD hs ++ [.t (tri (0, 0, 1))])]) (ρ1 := [some (.t (.scr ns)), some (I L), some (.t (.lst (zs.map tri))), some (.t (.lst (hs.map tri))), some (.ref 0), some (.tup [I L, .ref 2]), y6, some (.t (.lst (hs.map tri)))]) (by
    have kr3 : cal BT PD 19 f_roll_of [.t (.int L), .t (.lst (hs.map tri))] [.lst [], .lst (hD m1), .lst (hD hs ++ [.t (tri (0, 0, 1))])] = .ok (.tup [I L, .ref 4]) [O.lst [], O.lst (hD m1), O.lst (hD hs ++ [.t (tri (0, 0, 1))]), O.lst (hD m2), O.lst (hD hs)] := kr3
    simp -implicitDefEqProofs only [s_tr, tr_nx, tr_rt, tr_ex, s_rse, ex_ex, s_asg, asg_ok, s_ex, ex_ok, s_ret, ret_ok, s_retN, s_brk, s_cnt, s_pas, s_ite, ite_t, ite_f, s_fo, s_nil, s_cons, sq_nx, sq_rt, sq_bk, sq_ct, sq_ex, tel_nx, tel_rt, tel_ex, e_v, oj_s, e_c, e_g, e_nop, e_one, e_bin, e_cmp, e_idx, two_ok, twoJ_ok, e_and, and_t, and_f, e_or, or_t, or_f, e_ite, iteE_t, iteE_f, e_not, not_b, e_ch2, ch2I_ok, ch2J_ok, ch2K_t, ch2K_f, e_ch3, ch3I_ok, ch3J_ok, ch3K_t, ch3K_f, e_tup, e_lst, e_bi, e_call, lsI_ok, e_dct, dct_ok, ps_nil, ps_cons, psI_ok, psK_ok, e_sl, slI_ok, e_sl3, e_sss, ssI_ok, e_lss, lssI_ok, s3I_ok, s3J_c, s3J_n, s3K_c, s3K_n, e_isi, e_lc, lcJ_ok, e_bm, bmJ_ok, e_att, attI_ok, e_mth, mthI_ok, e_pk, e_cfn, calDd_s, ckwI_ok, ckwJ_ok, e_mpk, mpkI_ok, e_mthd, mtdI_ok, e_its, e_lrg, lrgI_ok, e_eqt, eqtI_ok, e_iso, isoI_ok, s_sta, staI_ok, staJ_ok, s_sti, stiI_ok, stiJ_ok, stiK_ok, nxO_s, s_wh, callD_f, es_nil, es_cons, esI_ok, esJ_ok, pAddI, pSubI, List.getElem?_cons_zero, List.getElem?_cons_succ, List.set_cons_zero, List.set_cons_succ, Bool.not_true, Bool.not_false, callD_f, kr3, ix6, kd6, mk5, ap6])]
  simp -implicitDefEqProofs only [s_tr, tr_nx, tr_rt, tr_ex, s_rse, ex_ex, s_asg, asg_ok, s_ex, ex_ok, s_ret, ret_ok, s_retN, s_brk, s_cnt, s_pas, s_ite, ite_t, ite_f, s_fo, s_nil, s_cons, sq_nx, sq_rt, sq_bk, sq_ct, sq_ex, tel_nx, tel_rt, tel_ex, e_v, oj_s, e_c, e_g, e_nop, e_one, e_bin, e_cmp, e_idx, two_ok, twoJ_ok, e_and, and_t, and_f, e_or, or_t, or_f, e_ite, iteE_t, iteE_f, e_not, not_b, e_ch2, ch2I_ok, ch2J_ok, ch2K_t, ch2K_f, e_ch3, ch3I_ok, ch3J_ok, ch3K_t, ch3K_f, e_tup, e_lst, e_bi, e_call, lsI_ok, e_dct, dct_ok, ps_nil, ps_cons, psI_ok, psK_ok, e_sl, slI_ok, e_sl3, e_sss, ssI_ok, e_lss, lssI_ok, s3I_ok, s3J_c, s3J_n, s3K_c, s3K_n, e_isi, e_lc, lcJ_ok, e_bm, bmJ_ok, e_att, attI_ok, e_mth, mthI_ok, e_pk, e_cfn, calDd_s, ckwI_ok, ckwJ_ok, e_mpk, mpkI_ok, e_mthd, mtdI_ok, e_its, e_lrg, lrgI_ok, e_eqt, eqtI_ok, e_iso, isoI_ok, s_sta, staI_ok, staJ_ok, s_sti, stiI_ok, stiJ_ok, stiK_ok, nxO_s, s_wh, callD_f, es_nil, es_cons, esI_ok, esJ_ok, pAddI, pSubI, List.getElem?_cons_zero, List.getElem?_cons_succ, List.set_cons_zero, List.set_cons_succ, Bool.not_true, Bool.not_false, ne2, kr0, krn, pk3, pk4, mkL_s, pls_nl, mlI_s]
end Lw

open PySem PySem.W PyProof.Rows in
set_option maxRecDepth 100000 in
set_option maxHeartbeats 0 in
theorem PySem.Challenge.cw_windchest_k50_rolls_made_holds : PySem.Challenge.rw_windchest_k50_rolls_made.Holds := by
  w_on; o_law; k_head; (case hw => w_witness2)
  k_fill
  refine Wc.walkT (l := PySem.Challenge.rw_windchest_k50_rolls_made) (k := 40) (x := "_law_script") "_law_holes" rfl rfl ⟨rfl, by decide, by decide⟩ (by decide +kernel) (fun w h Y => PySem.W.km_in_of Y) ?F
  case F =>
    intro w mg fa h KX G hmg
    refine' Lw.all_mk KX G hmg ?a0 ?l0 ?c0 ?k0 ?a1 ?l1 ?c1 ?k1 ?a2 ?l2 ?c2 ?k2 ?a3 ?l3 ?c3 ?k3 ?a4 ?l4 ?c4 ?k4 ?a5 ?l5 ?c5 ?k5 ?a6 ?l6 ?c6 ?k6 ?a7 ?l7 ?c7 ?k7 ?a8 ?l8 ?c8 ?k8 ?a9 ?l9 ?c9 ?k9 ?a10 ?l10 ?c10 ?k10 ?a11 ?l11 ?c11 ?k11 ?a12 ?l12 ?c12 ?k12 ?a13 ?l13 ?c13 ?k13 ?a14 ?l14 ?c14 ?k14 ?a15 ?l15 ?c15 ?k15 ?lcc ?hcv ?ncP ?a16 ?l16 ?c16 ?k16 ?a17 ?l17 ?c17 ?k17 ?gg0 ?gg1 ?gg2 ?z0 ?z1 ?z2 ?z3 ?z4 ?z5 ?z6 ?z7 ?z8 ?z9 ?z10 ?z11 Lw.hlaw
    (case a0 => k_is)
    (case l0 => k_is)
    (case c0 => k_is)
    (case k0 => k_is)
    (case a1 => k_is)
    (case l1 => k_is)
    (case c1 => k_is)
    (case k1 => k_is)
    (case a2 => k_is)
    (case l2 => k_is)
    (case c2 => k_is)
    (case k2 => k_is)
    (case a3 => k_is)
    (case l3 => k_is)
    (case c3 => k_is)
    (case k3 => k_is)
    (case a4 => k_is)
    (case l4 => k_is)
    (case c4 => k_is)
    (case k4 => k_is)
    (case a5 => k_is)
    (case l5 => k_is)
    (case c5 => k_is)
    (case k5 => k_is)
    (case a6 => k_is)
    (case l6 => k_is)
    (case c6 => k_is)
    (case k6 => k_is)
    (case a7 => k_is)
    (case l7 => k_is)
    (case c7 => k_is)
    (case k7 => k_is)
    (case a8 => k_is)
    (case l8 => k_is)
    (case c8 => k_is)
    (case k8 => k_is)
    (case a9 => k_is)
    (case l9 => k_is)
    (case c9 => k_is)
    (case k9 => k_is)
    (case a10 => k_is)
    (case l10 => k_is)
    (case c10 => k_is)
    (case k10 => k_is)
    (case a11 => k_is)
    (case l11 => k_is)
    (case c11 => k_is)
    (case k11 => k_is)
    (case a12 => k_is)
    (case l12 => k_is)
    (case c12 => k_is)
    (case k12 => k_is)
    (case a13 => k_is)
    (case l13 => k_is)
    (case c13 => k_is)
    (case k13 => k_is)
    (case a14 => k_is)
    (case l14 => k_is)
    (case c14 => k_is)
    (case k14 => k_is)
    (case a15 => k_is)
    (case l15 => k_is)
    (case c15 => k_is)
    (case k15 => k_is)
    (case lcc => k_is)
    (case hcv => exact rfl)
    (case ncP => first | k_is | kernel_rfl | rfl)
    (case a16 => k_is)
    (case l16 => k_is)
    (case c16 => k_is)
    (case k16 => k_is)
    (case a17 => k_is)
    (case l17 => k_is)
    (case c17 => k_is)
    (case k17 => k_is)
    (case gg0 => k_is)
    (case gg1 => k_is)
    (case gg2 => k_is)
    (case z0 => k_is)
    (case z1 => k_is)
    (case z2 => k_is)
    (case z3 => k_is)
    (case z4 => k_is)
    (case z5 => k_is)
    (case z6 => k_is)
    (case z7 => k_is)
    (case z8 => k_is)
    (case z9 => k_is)
    (case z10 => k_is)
    (case z11 => k_is)
#print axioms PySem.Challenge.cw_windchest_k50_rolls_made_holds

