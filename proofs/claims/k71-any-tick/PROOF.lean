import PyProof.Rows.All
import Wide.All
import OpenK.AllK
import Wide.FinOn
import HandS.ForMost
import HandS.Wide
import HandS.WideBits
import HandS.IsInst
import HandS.Deep
import HandS.Style
import HandS.Exc
import HandS.CallSlots
import HandS.WordsExc
import HandS.ExcOwn
import HandS.CallLocal
import HandS.SortInts
import HandS.Walk
import HandS.Small
import HandS.EndBits
import PySem.Challenge.RW_windchest_k71_whole_any_tick
set_option Elab.async false
set_option linter.all false
set_option maxRecDepth 100000
set_option maxHeartbeats 4000000
/-! Wc: a small evaluator of the programs' own text over plain data (T), things that change (O, by number), and what stands between (D). -/
namespace Wc
open PySem

abbrev Ky := Sum Int Str
/-- plain data, never changed any more -/
inductive T where
  | non | bl (b : Bool) | int (i : Int) | str (x : Str)
  | lst (xs : List T) | tup (xs : List T) | dct (kvs : List (Ky × T))
  | ins (c : Nat) (fs : List (Str × T))
  | fn (f : Nat)
  | scr (ns : List Int)
/-- a value: plain, a thing that may change, or a tuple that holds such -/
inductive D where
  | t (x : T) | ref (k : Nat) | tup (xs : List D)
/-- a thing that may change -/
inductive O where
  | dead | lst (xs : List D) | dct (kvs : List (Ky × D)) | ins (c : Nat) (fs : List (Str × D))
abbrev Ev := List (Option D)
abbrev Sto := List O
/-- how an expression ends: a value, an exception of a class with fields, or nothing is said -/
inductive R (α : Type) where
  | ok (a : α) (S : Sto) | ex (c : Nat) (fs : List (Str × T)) (S : Sto) | no
def R.bind {α β : Type} (r : R α) (f : α → Sto → R β) : R β := match r with
  | .ok a S => f a S
  | .ex c fs S => .ex c fs S
  | .no => .no
@[simp] theorem R.bind_ok {α β : Type} (a : α) (S : Sto) (f : α → Sto → R β) : (R.ok a S).bind f = f a S := rfl
@[simp] theorem R.bind_ex {α β : Type} (c : Nat) (fs) (S : Sto) (f : α → Sto → R β) : (R.ex c fs S : R α).bind f = .ex c fs S := rfl
@[simp] theorem R.bind_no {α β : Type} (f : α → Sto → R β) : (R.no : R α).bind f = .no := rfl

/-! ### plain data as data -/
mutual
def T.pd : T → Option PyData
  | .non => some .none
  | .bl b => some (.bool b)
  | .int i => some (.int i)
  | .str x => some (.str x)
  | .lst xs => (T.pds xs).map .list
  | .tup xs => (T.pds xs).map .tuple
  | _ => none
def T.pds : List T → Option (List PyData)
  | [] => some []
  | x :: xs => match T.pd x, T.pds xs with
    | some d, some ds => some (d :: ds)
    | _, _ => none
end

/-! ### things to plain data: what is frozen is never changed any more -/
def frzL (f : Sto → D → Option (T × Sto)) : Sto → List D → Option (List T × Sto)
  | S, [] => some ([], S)
  | S, d :: ds => match f S d with
    | some (t, S1) => match frzL f S1 ds with
      | some (ts, S2) => some (t :: ts, S2)
      | none => none
    | none => none
def alive (S : Sto) (k : Nat) : Bool := match S[k]? with
  | some .dead => false
  | some _ => true
  | none => false
def frz : Nat → Sto → D → Option (T × Sto)
  | _, S, .t x => some (x, S)
  | 0, _, _ => none
  | n + 1, S, .tup ds => match frzL (frz n) S ds with
    | some (ts, S1) => some (.tup ts, S1)
    | none => none
  | n + 1, S, .ref k => match S[k]? with
    | some (.lst ds) => match frzL (frz n) S ds with
      | some (ts, S1) => if alive S1 k then some (.lst ts, S1.set k .dead) else none
      | none => none
    | some (.dct kvs) => match frzL (frz n) S (kvs.map (·.2)) with
      | some (ts, S1) => if alive S1 k then some (.dct ((kvs.map (·.1)).zip ts), S1.set k .dead) else none
      | none => none
    | some (.ins c fs) => match frzL (frz n) S (fs.map (·.2)) with
      | some (ts, S1) => if alive S1 k then some (.ins c ((fs.map (·.1)).zip ts), S1.set k .dead) else none
      | none => none
    | _ => none
/-- plain at once, or not at all -/
def D.pl : D → Option T
  | .t x => some x
  | _ => none
def pls : List D → Option (List T)
  | [] => some []
  | .t x :: r => (pls r).map (x :: ·)
  | _ :: _ => none
/-- what a list, a tuple holds just now -/
def seqOf (S : Sto) : D → Option (List D)
  | .t (.lst xs) => some (xs.map .t)
  | .t (.tup xs) => some (xs.map .t)
  | .tup xs => some xs
  | .ref k => match S[k]? with
    | some (.lst xs) => some xs
    | _ => none
  | _ => none
/-- what stands there as plain data, the store as it is -/
def look (S : Sto) (d : D) : Option PyData := match frz 9 S d with
  | some (t, _) => t.pd
  | none => none
end Wc

/-! Wc: what stands for what: values, objects, the heap. -/
namespace Wc
open PySem L2

/-- where the text's defs and classes stand -/
structure Gd where
  K : PySem.W.Frag
  fa : Nat → Addr
  ca : Nat → Addr
mutual
inductive RT (G : Gd) (H : Hp) : V → T → Prop
  | non : RT G H .non .non
  | bl (b : Bool) : RT G H (.bl b) (.bl b)
  | int (i : Int) : RT G H (.int i) (.int i)
  | str (x : Str) : RT G H (.str x) (.str x)
  | lst {a : Addr} {xs : List V} {ts : List T} : H a = some (.lst xs) → RTs G H xs ts → RT G H (.ref a) (.lst ts)
  | tup {a : Addr} {xs : List V} {ts : List T} : H a = some (.tup xs) → RTs G H xs ts → RT G H (.ref a) (.tup ts)
  | dct {a : Addr} {kvs : List (Key × V)} {ts : List (Ky × T)} : H a = some (.dK kvs) → kvs.map (·.1) = ts.map (·.1) → RTs G H (kvs.map (·.2)) (ts.map (·.2)) → RT G H (.ref a) (.dct ts)
  | ins {a dx : Addr} {c : Nat} {fs : List (Str × V)} {ts : List (Str × T)} : H a = some (.ins (G.ca c) dx fs) → fs.map (·.1) = ts.map (·.1) → RTs G H (fs.map (·.2)) (ts.map (·.2)) → RT G H (.ref a) (.ins c ts)
  | fn (f : Nat) : RT G H (.ref (G.fa f)) (.fn f)
  | scr {a : Addr} {ns : List Int} : SqL G.K H a (ns.map V.int) → RT G H (.ref a) (.scr ns)
inductive RTs (G : Gd) (H : Hp) : List V → List T → Prop
  | nil : RTs G H [] []
  | cons {v : V} {vs : List V} {t : T} {ts : List T} : RT G H v t → RTs G H vs ts → RTs G H (v :: vs) (t :: ts)
end
/-- the frozen part of the heap; where the things stand -/
structure Wd where
  Hf : Hp
  F : List Addr
mutual
inductive RD (G : Gd) (W : Wd) : V → D → Prop
  | t {v : V} {x : T} : RT G W.Hf v x → RD G W v (.t x)
  | ref {a : Addr} {k : Nat} : W.F[k]? = some a → RD G W (.ref a) (.ref k)
  | tup {a : Addr} {xs : List V} {ds : List D} : W.Hf a = some (.tup xs) → RDs G W xs ds → RD G W (.ref a) (.tup ds)
inductive RDs (G : Gd) (W : Wd) : List V → List D → Prop
  | nil : RDs G W [] []
  | cons {v : V} {vs : List V} {d : D} {ds : List D} : RD G W v d → RDs G W vs ds → RDs G W (v :: vs) (d :: ds)
end
/-- what stands at a thing's address -/
inductive RO (G : Gd) (H : Hp) (W : Wd) (a : Addr) : O → Prop
  | dead : RO G H W a .dead
  | lst {xs : List V} {ds : List D} : H a = some (.lst xs) → RDs G W xs ds → RO G H W a (.lst ds)
  | dct {kvs : List (Key × V)} {ds : List (Ky × D)} : H a = some (.dK kvs) → kvs.map (·.1) = ds.map (·.1) → RDs G W (kvs.map (·.2)) (ds.map (·.2)) → RO G H W a (.dct ds)
  | ins {dx : Addr} {c : Nat} {fs : List (Str × V)} {ds : List (Str × D)} : H a = some (.ins (G.ca c) dx fs) → fs.map (·.1) = ds.map (·.1) → RDs G W (fs.map (·.2)) (ds.map (·.2)) → RO G H W a (.ins c ds)
structure Rel (G : Gd) (H : Hp) (W : Wd) (S : Sto) : Prop where
  sub : Same W.Hf H
  len : W.F.length = S.length
  nd : ∀ (i j : Nat) (a : Addr), W.F[i]? = some a → W.F[j]? = some a → i = j
  out : ∀ a ∈ W.F, ∃ u, H a = some u
  apart : ∀ (k : Nat) (o : O) (a : Addr), S[k]? = some o → W.F[k]? = some a → o ≠ .dead → W.Hf a = none
  obj : ∀ (k : Nat) (o : O) (a : Addr), S[k]? = some o → W.F[k]? = some a → RO G H W a o
/-- from one state to a later one -/
structure Ext (H : Hp) (W : Wd) (H' : Hp) (W' : Wd) : Prop where
  hf : Same W.Hf W'.Hf
  f : W.F <+: W'.F
  old : ∀ a u, H a = some u → a ∉ W.F → H' a = some u
  live : ∀ a u, H a = some u → ∃ u', H' a = some u'
  fresh : ∀ a, W'.Hf a ≠ none → W.Hf a ≠ none ∨ H a = none ∨ a ∈ W.F
  freshF : ∀ a ∈ W'.F, a ∈ W.F ∨ H a = none
section
variable {G : Gd} {H H' H'' : Hp} {W W' W'' : Wd} {S S' : Sto}
theorem rd_mono {K : PySem.W.Frag} {a : Addr} {xs : List V} (e : Same H H') (h : SqL K H a xs) : SqL K H' a xs := e.seq h
mutual
theorem RT.mono (e : Same H H') : ∀ {t : T} {v : V}, RT G H v t → RT G H' v t
  | .non, _, h => by cases h; exact .non
  | .bl b, _, h => by cases h; exact .bl b
  | .int i, _, h => by cases h; exact .int i
  | .str x, _, h => by cases h; exact .str x
  | .lst ts, _, h => by cases h with | lst h1 h2 => exact .lst (e _ _ h1) (RTs.mono e h2)
  | .tup ts, _, h => by cases h with | tup h1 h2 => exact .tup (e _ _ h1) (RTs.mono e h2)
  | .dct ts, _, h => by cases h with | dct h1 h3 h2 => exact .dct (e _ _ h1) h3 (RTk.mono e h2)
  | .ins c ts, _, h => by cases h with | ins h1 h3 h2 => exact .ins (e _ _ h1) h3 (RTf.mono e h2)
  | .fn f, _, h => by cases h; exact .fn f
  | .scr ns, _, h => by cases h with | scr h1 => exact .scr (e.seq h1)
theorem RTs.mono (e : Same H H') : ∀ {ts : List T} {vs : List V}, RTs G H vs ts → RTs G H' vs ts
  | [], _, h => by cases h; exact .nil
  | t :: ts, _, h => by cases h with | cons h1 h2 => exact .cons (RT.mono e h1) (RTs.mono e h2)
theorem RTk.mono (e : Same H H') : ∀ {ts : List (Ky × T)} {vs : List V}, RTs G H vs (ts.map (·.2)) → RTs G H' vs (ts.map (·.2))
  | [], _, h => by cases h; exact .nil
  | (_, t) :: ts, _, h => by cases h with | cons h1 h2 => exact .cons (RT.mono e h1) (RTk.mono e h2)
theorem RTf.mono (e : Same H H') : ∀ {ts : List (Str × T)} {vs : List V}, RTs G H vs (ts.map (·.2)) → RTs G H' vs (ts.map (·.2))
  | [], _, h => by cases h; exact .nil
  | (_, t) :: ts, _, h => by cases h with | cons h1 h2 => exact .cons (RT.mono e h1) (RTf.mono e h2)
end
theorem Pre.at {F F' : List Addr} (p : F <+: F') {k : Nat} {a : Addr} (h : F[k]? = some a) : F'[k]? = some a := by
  obtain ⟨r, rfl⟩ := p
  have hk := (List.getElem?_eq_some_iff.mp h).1
  rw [List.getElem?_append_left hk]; exact h
mutual
theorem RD.mono' (e : Same W.Hf W'.Hf) (p : W.F <+: W'.F) : ∀ {d : D} {v : V}, RD G W v d → RD G W' v d
  | .t x, _, h => by cases h with | t h => exact .t (h.mono e)
  | .ref k, _, h => by cases h with | ref h => exact .ref (Pre.at p h)
  | .tup ds, _, h => by cases h with | tup h1 h2 => exact .tup (e _ _ h1) (RDs.mono' e p h2)
theorem RDs.mono' (e : Same W.Hf W'.Hf) (p : W.F <+: W'.F) : ∀ {ds : List D} {vs : List V}, RDs G W vs ds → RDs G W' vs ds
  | [], _, h => by cases h; exact .nil
  | d :: ds, _, h => by cases h with | cons h1 h2 => exact .cons (RD.mono' e p h1) (RDs.mono' e p h2)
end
theorem RD.mono (x : Ext H W H' W') {d : D} {v : V} (h : RD G W v d) : RD G W' v d := RD.mono' x.hf x.f h
theorem RDs.mono (x : Ext H W H' W') {ds : List D} {vs : List V} (h : RDs G W vs ds) : RDs G W' vs ds := RDs.mono' x.hf x.f h
theorem RDs.length : ∀ {ds : List D} {vs : List V}, RDs G W vs ds → vs.length = ds.length
  | [], _, h => by cases h; rfl
  | d :: ds, _, h => by cases h with | cons h1 h2 => simp [RDs.length h2]
theorem RTs.length : ∀ {ts : List T} {vs : List V}, RTs G H vs ts → vs.length = ts.length
  | [], _, h => by cases h; rfl
  | d :: ds, _, h => by cases h with | cons h1 h2 => simp [RTs.length h2]
theorem RDs.get : ∀ {ds : List D} {vs : List V} {i : Nat} {d : D}, RDs G W vs ds → ds[i]? = some d → ∃ v, vs[i]? = some v ∧ RD G W v d
  | _ :: _, _, 0, d, h, e => by
    cases h with
    | cons h1 h2 =>
      simp at e; subst e
      exact ⟨_, rfl, h1⟩
  | _ :: _, _, i + 1, d, h, e => by
    cases h with
    | cons h1 h2 =>
      obtain ⟨v, a, b⟩ := RDs.get (i := i) h2 (by simpa using e)
      exact ⟨v, by simpa using a, b⟩
theorem RDs.append : ∀ {ds es : List D} {vs ws : List V}, RDs G W vs ds → RDs G W ws es → RDs G W (vs ++ ws) (ds ++ es)
  | [], _, _, _, h, k => by cases h; exact k
  | d :: ds, _, _, _, h, k => by cases h with | cons h1 h2 => exact .cons h1 (RDs.append h2 k)
theorem RDs.ofT : ∀ {ts : List T} {vs : List V}, RTs G W.Hf vs ts → RDs G W vs (ts.map .t)
  | [], _, h => by cases h; exact .nil
  | t :: ts, _, h => by cases h with | cons h1 h2 => exact .cons (.t h1) (RDs.ofT h2)
theorem RDs.toT : ∀ {ts : List T} {vs : List V}, RDs G W vs (ts.map .t) → RTs G W.Hf vs ts
  | [], _, h => by cases h; exact .nil
  | t :: ts, _, h => by cases h with | cons h1 h2 => cases h1 with | t h1 => exact .cons h1 (RDs.toT h2)
theorem pls_eq : ∀ {ds : List D} {ts : List T}, pls ds = some ts → ds = ts.map .t
  | [], ts, h => by simp [pls] at h; subst h; rfl
  | .t x :: r, ts, h => by
    simp only [pls, Option.map_eq_some_iff] at h
    obtain ⟨us, h, rfl⟩ := h
    simp [pls_eq h]
  | .ref k :: r, ts, h => by simp [pls] at h
  | .tup k :: r, ts, h => by simp [pls] at h
@[simp] theorem pls_map : ∀ ts : List T, pls (ts.map .t) = some ts
  | [] => rfl
  | t :: ts => by simp [pls, pls_map ts]
theorem Ext.refl : Ext H W H W := ⟨Same.refl _, List.prefix_refl _, fun _ _ h _ => h, fun _ u h => ⟨u, h⟩, fun _ h => .inl h, fun _ h => .inl h⟩
theorem Ext.trans (a : Ext H W H' W') (b : Ext H' W' H'' W'') : Ext H W H'' W'' where
  hf := a.hf.trans b.hf
  f := a.f.trans b.f
  old := fun x u h n => b.old x u (a.old x u h n) fun m => by
    rcases a.freshF x m with q | q
    · exact n q
    · rw [q] at h; cases h
  live := fun x u h => let ⟨u', h'⟩ := a.live x u h; b.live x u' h'
  fresh := fun x h => by
    rcases b.fresh x h with q | q | q
    · exact a.fresh x q
    · cases e : H x with
      | none => exact .inr (.inl rfl)
      | some u =>
        obtain ⟨u', h'⟩ := a.live x u e
        rw [q] at h'; cases h'
    · rcases a.freshF x q with q | q
      · exact .inr (.inr q)
      · exact .inr (.inl q)
  freshF := fun x h => by
    rcases b.freshF x h with q | q
    · exact a.freshF x q
    · cases e : H x with
      | none => exact .inr rfl
      | some u =>
        obtain ⟨u', h'⟩ := a.live x u e
        rw [q] at h'; cases h'
theorem RO.mono {a : Addr} {o : O} (h : RO G H W a o) (e : ∀ u, H a = some u → H' a = some u) (hf : Same W.Hf W'.Hf) (p : W.F <+: W'.F) : RO G H' W' a o := by
  cases h with
  | dead => exact .dead
  | lst h1 h2 => exact .lst (e _ h1) (RDs.mono' hf p h2)
  | dct h1 h3 h2 => exact .dct (e _ h1) h3 (RDs.mono' hf p h2)
  | ins h1 h3 h2 => exact .ins (e _ h1) h3 (RDs.mono' hf p h2)
theorem Rel.inF (r : Rel G H W S) {k : Nat} {a : Addr} (h : W.F[k]? = some a) : a ∈ W.F := List.mem_of_getElem? h
/-- a new object that is frozen at once -/
theorem Rel.new (r : Rel G H W S) {p : Addr} {o : HO} (hp : H p = none) : Rel G (upd H p o) ⟨upd W.Hf p o, W.F⟩ S ∧ Ext H W (upd H p o) ⟨upd W.Hf p o, W.F⟩ := by
  have hfp : W.Hf p = none := r.sub.free hp
  have s1 : Same W.Hf (upd W.Hf p o) := fun b u e => by rw [upd_ne (ne_of_none e hfp)]; exact e
  have s2 : Same H (upd H p o) := fun b u e => by rw [upd_ne (ne_of_none e hp)]; exact e
  have nF : ∀ a ∈ W.F, a ≠ p := fun a ha e => by
    obtain ⟨u, hu⟩ := r.out a ha
    rw [e, hp] at hu; cases hu
  refine ⟨⟨fun b u e => ?_, r.len, r.nd, fun a ha => ?_, fun k q a h1 h2 hd => ?_, fun k q a h1 h2 => ?_⟩, ⟨s1, List.prefix_refl _, fun a u h _ => s2 a u h, fun a u h => ⟨u, s2 a u h⟩, fun a h => ?_, fun a h => .inl h⟩⟩
  · have e : upd W.Hf p o b = some u := e
    by_cases e1 : b = p
    · subst e1; rw [upd_same] at e; rw [upd_same]; exact e
    · rw [upd_ne e1] at e; rw [upd_ne e1]; exact r.sub _ _ e
  · obtain ⟨u, hu⟩ := r.out a ha
    exact ⟨u, s2 a u hu⟩
  · show upd W.Hf p o a = none
    rw [upd_ne (nF a (r.inF h2))]; exact r.apart k q a h1 h2 hd
  · exact (r.obj k q a h1 h2).mono (s2 a) s1 (List.prefix_refl _)
  · by_cases e1 : a = p
    · subst e1; exact .inr (.inl hp)
    · exact .inl (by have h' : upd W.Hf p o a ≠ none := h; rw [upd_ne e1] at h'; exact h')
/-- a new object that is a thing -/
theorem Rel.alloc (r : Rel G H W S) {p : Addr} {u : HO} {o : O} (hp : H p = none) (ho : ∀ H' W', H' p = some u → Same W.Hf W'.Hf → W.F <+: W'.F → RO G H' W' p o) :
    Rel G (upd H p u) ⟨W.Hf, W.F ++ [p]⟩ (S ++ [o]) ∧ Ext H W (upd H p u) ⟨W.Hf, W.F ++ [p]⟩ := by
  have hfp : W.Hf p = none := r.sub.free hp
  have s2 : Same H (upd H p u) := fun b x e => by rw [upd_ne (ne_of_none e hp)]; exact e
  have pr : W.F <+: W.F ++ [p] := List.prefix_append _ _
  have nF : p ∉ W.F := fun ha => by
    obtain ⟨x, hu⟩ := r.out p ha
    rw [hp] at hu; cases hu
  have spl : ∀ {k : Nat} {a : Addr}, (W.F ++ [p])[k]? = some a → (k < W.F.length ∧ W.F[k]? = some a) ∨ (k = W.F.length ∧ a = p) := fun {k a} h => by
    by_cases hk : k < W.F.length
    · rw [List.getElem?_append_left hk] at h; exact .inl ⟨hk, h⟩
    · have hk' := (List.getElem?_eq_some_iff.mp h).1
      have e : k = W.F.length := by simp at hk'; omega
      subst e
      exact .inr ⟨rfl, by simpa using h.symm⟩
  have splS : ∀ {k : Nat} {q : O}, (S ++ [o])[k]? = some q → (k < S.length ∧ S[k]? = some q) ∨ (k = S.length ∧ q = o) := fun {k q} h => by
    by_cases hk : k < S.length
    · rw [List.getElem?_append_left hk] at h; exact .inl ⟨hk, h⟩
    · have hk' := (List.getElem?_eq_some_iff.mp h).1
      have e : k = S.length := by simp at hk'; omega
      subst e
      exact .inr ⟨rfl, by simpa using h.symm⟩
  refine ⟨⟨fun b x e => s2 b x (r.sub _ _ e), by simp [r.len], fun i j a h1 h2 => ?_, fun a ha => ?_, fun k q a h1 h2 hd => ?_, fun k q a h1 h2 => ?_⟩, ⟨Same.refl _, pr, fun a x h _ => s2 a x h, fun a x h => ⟨x, s2 a x h⟩, fun a h => .inl h, fun a h => ?_⟩⟩
  · rcases spl h1 with ⟨l1, e1⟩ | ⟨l1, e1⟩ <;> rcases spl h2 with ⟨l2, e2⟩ | ⟨l2, e2⟩
    · exact r.nd i j a e1 e2
    · subst e2; exact absurd (List.mem_of_getElem? e1) nF
    · subst e1; exact absurd (List.mem_of_getElem? e2) nF
    · omega
  · rcases List.mem_append.mp ha with h | h
    · obtain ⟨x, hu⟩ := r.out a h
      exact ⟨x, s2 a x hu⟩
    · simp at h; subst h; exact ⟨u, upd_same⟩
  · rcases spl h2 with ⟨l2, e2⟩ | ⟨l2, e2⟩
    · rcases splS h1 with ⟨l1, e1⟩ | ⟨l1, e1⟩
      · exact r.apart k q a e1 e2 hd
      · rw [r.len] at l2; omega
    · subst e2; exact hfp
  · rcases spl h2 with ⟨l2, e2⟩ | ⟨l2, e2⟩
    · rcases splS h1 with ⟨l1, e1⟩ | ⟨l1, e1⟩
      · exact (r.obj k q a e1 e2).mono (s2 a) (Same.refl _) pr
      · rw [r.len] at l2; omega
    · rcases splS h1 with ⟨l1, e1⟩ | ⟨l1, e1⟩
      · rw [r.len] at l2; omega
      · subst e2; subst e1; exact ho _ _ upd_same (Same.refl _) pr
  · rcases List.mem_append.mp h with h | h
    · exact .inl h
    · simp at h; subst h; exact .inr hp
/-- a thing is changed -/
theorem Rel.put (r : Rel G H W S) {k : Nat} {a : Addr} {u : HO} {o o' : O} (ha : W.F[k]? = some a) (hS : S[k]? = some o') (hd : o' ≠ .dead) (ho : ∀ H', H' a = some u → RO G H' W a o) :
    Rel G (upd H a u) W (S.set k o) ∧ Ext H W (upd H a u) W := by
  have hin := r.inF ha
  have ha0 := r.apart k o' a hS ha hd
  have hk : k < S.length := (List.getElem?_eq_some_iff.mp hS).1
  have lv : ∀ b x, H b = some x → ∃ y, upd H a u b = some y := fun b x e => by
    by_cases q : b = a
    · subst q; exact ⟨u, upd_same⟩
    · exact ⟨x, by rw [upd_ne q]; exact e⟩
  refine ⟨⟨fun b x e => ?_, by simp [r.len], r.nd, fun b hb => ?_, fun j q b h1 h2 hq => ?_, fun j q b h1 h2 => ?_⟩, ⟨Same.refl _, List.prefix_refl _, fun b x h n => ?_, lv, fun b h => .inl h, fun b h => .inl h⟩⟩
  · have q : b ≠ a := fun z => by rw [z, ha0] at e; cases e
    rw [upd_ne q]; exact r.sub _ _ e
  · obtain ⟨x, hx⟩ := r.out b hb
    exact lv b x hx
  · by_cases e : k = j
    · subst e
      rw [ha] at h2; cases h2; exact ha0
    · rw [List.getElem?_set_ne e] at h1
      exact r.apart j q b h1 h2 hq
  · by_cases e : k = j
    · subst e
      rw [List.getElem?_set_self hk] at h1
      have e1 : o = q := by simpa using h1
      have e2 : a = b := by rw [ha] at h2; simpa using h2
      subst e1; subst e2
      exact ho _ upd_same
    · rw [List.getElem?_set_ne e] at h1
      have q' : b ≠ a := fun z => by
        subst z
        exact e (r.nd k j b ha h2)
      exact (r.obj j q b h1 h2).mono (fun x hx => by rw [upd_ne q']; exact hx) (Same.refl _) (List.prefix_refl _)
  · have q : b ≠ a := fun z => n (z ▸ hin)
    rw [upd_ne q]; exact h
/-- a thing is frozen -/
theorem Rel.freeze (r : Rel G H W S) {k : Nat} {a : Addr} {u : HO} {o' : O} (ha : W.F[k]? = some a) (hS : S[k]? = some o') (hd : o' ≠ .dead) (hu : H a = some u) :
    Rel G H ⟨upd W.Hf a u, W.F⟩ (S.set k .dead) ∧ Ext H W H ⟨upd W.Hf a u, W.F⟩ := by
  have ha0 := r.apart k o' a hS ha hd
  have hin := r.inF ha
  have hk : k < S.length := (List.getElem?_eq_some_iff.mp hS).1
  have s1 : Same W.Hf (upd W.Hf a u) := fun b x e => by rw [upd_ne (ne_of_none e ha0)]; exact e
  refine ⟨⟨fun b x e => ?_, by simp [r.len], r.nd, r.out, fun j q b h1 h2 hq => ?_, fun j q b h1 h2 => ?_⟩, ⟨s1, List.prefix_refl _, fun b x h _ => h, fun b x h => ⟨x, h⟩, fun b h => ?_, fun b h => .inl h⟩⟩
  · have e : upd W.Hf a u b = some x := e
    by_cases q : b = a
    · subst q; rw [upd_same] at e; cases e; exact hu
    · rw [upd_ne q] at e; exact r.sub _ _ e
  · by_cases e : k = j
    · subst e
      rw [List.getElem?_set_self hk] at h1
      cases h1; exact absurd rfl hq
    · rw [List.getElem?_set_ne e] at h1
      have q' : b ≠ a := fun z => by
        subst z
        exact e (r.nd k j b ha h2)
      show upd W.Hf a u b = none
      rw [upd_ne q']; exact r.apart j q b h1 h2 hq
  · by_cases e : k = j
    · subst e
      rw [List.getElem?_set_self hk] at h1
      cases h1; exact .dead
    · rw [List.getElem?_set_ne e] at h1
      exact (r.obj j q b h1 h2).mono (fun x hx => hx) s1 (List.prefix_refl _)
  · by_cases e1 : b = a
    · subst e1; exact .inr (.inr hin)
    · exact .inl (by have h' : upd W.Hf a u b ≠ none := h; rw [upd_ne e1] at h'; exact h')
/-- a call apart: nothing of the caller's things is known to the callee -/
theorem Rel.apartW (r : Rel G H W S) : Rel G H ⟨W.Hf, []⟩ [] :=
  ⟨r.sub, rfl, fun i j a h => by simp at h, fun a h => by simp at h, fun k o a h => by simp at h, fun k o a h => by simp at h⟩
theorem Rel.back (r : Rel G H W S) {W1 : Wd} {S1 : Sto} (r1 : Rel G H' W1 S1) (x : Ext H ⟨W.Hf, []⟩ H' W1) : Rel G H' ⟨W1.Hf, W.F⟩ S ∧ Ext H W H' ⟨W1.Hf, W.F⟩ := by
  have sm : Same H H' := fun a u h => x.old a u h (by simp)
  refine ⟨⟨r1.sub, r.len, r.nd, fun a h => ?_, fun k o a h1 h2 hd => ?_, fun k o a h1 h2 => ?_⟩, ⟨x.hf, List.prefix_refl _, fun a u h _ => sm a u h, x.live, fun a h => ?_, fun a h => .inl h⟩⟩
  · obtain ⟨u, hu⟩ := r.out a h
    exact ⟨u, sm a u hu⟩
  · have h0 := r.apart k o a h1 h2 hd
    cases e : W1.Hf a with
    | none => rfl
    | some u =>
      have q := x.fresh a (by rw [e]; simp)
      rcases q with q | q | q
      · exact absurd h0 q
      · obtain ⟨y, hy⟩ := r.out a (r.inF h2)
        rw [q] at hy; cases hy
      · simp at q
  · exact (r.obj k o a h1 h2).mono (sm a) x.hf (List.prefix_refl _)
  · rcases x.fresh a h with q | q | q
    · exact .inl q
    · exact .inr (.inl q)
    · simp at q

/-- freezing changes nothing in the heap -/
def Frz (G : Gd) (f : Sto → D → Option (T × Sto)) : Prop := ∀ ⦃H : Hp⦄ ⦃W : Wd⦄ ⦃S S' : Sto⦄ ⦃v : V⦄ ⦃d : D⦄ ⦃t : T⦄, Rel G H W S → RD G W v d → f S d = some (t, S') →
  ∃ W', Rel G H W' S' ∧ Ext H W H W' ∧ RT G W'.Hf v t ∧ W'.F = W.F
theorem frzL_ok {f : Sto → D → Option (T × Sto)} (hf : Frz G f) : ∀ {ds : List D} {H : Hp} {W : Wd} {S S' : Sto} {vs : List V} {ts : List T}, Rel G H W S → RDs G W vs ds → frzL f S ds = some (ts, S') →
    ∃ W', Rel G H W' S' ∧ Ext H W H W' ∧ RTs G W'.Hf vs ts ∧ W'.F = W.F
  | [], H, W, S, S', vs, ts, r, h, e => by
    cases h
    simp [frzL] at e
    obtain ⟨rfl, rfl⟩ := e
    exact ⟨W, r, Ext.refl, .nil, rfl⟩
  | d :: ds, H, W, S, S', vs, ts, r, h, e => by
    cases h with
    | cons h1 h2 =>
      unfold frzL at e
      cases e1 : f S d with
      | none => rw [e1] at e; cases e
      | some p =>
        obtain ⟨t, S1⟩ := p
        rw [e1] at e
        simp only at e
        cases e2 : frzL f S1 ds with
        | none => rw [e2] at e; cases e
        | some p =>
          obtain ⟨us, S2⟩ := p
          rw [e2] at e
          simp only [Option.some.injEq, Prod.mk.injEq] at e
          obtain ⟨rfl, rfl⟩ := e
          obtain ⟨W1, r1, x1, q1, f1⟩ := hf r h1 e1
          obtain ⟨W2, r2, x2, q2, f2⟩ := frzL_ok hf r1 (h2.mono x1) e2
          exact ⟨W2, r2, x1.trans x2, .cons (q1.mono x2.hf) q2, f2.trans f1⟩
theorem frzL_len {f : Sto → D → Option (T × Sto)} : ∀ {ds : List D} {S S' : Sto} {ts : List T}, frzL f S ds = some (ts, S') → ts.length = ds.length
  | [], S, S', ts, e => by
    simp [frzL] at e
    obtain ⟨rfl, rfl⟩ := e
    rfl
  | d :: ds, S, S', ts, e => by
    unfold frzL at e
    cases e1 : f S d with
    | none => rw [e1] at e; cases e
    | some p =>
      obtain ⟨t, S1⟩ := p
      rw [e1] at e
      simp only at e
      cases e2 : frzL f S1 ds with
      | none => rw [e2] at e; cases e
      | some p =>
        obtain ⟨us, S2⟩ := p
        rw [e2] at e
        simp only [Option.some.injEq, Prod.mk.injEq] at e
        obtain ⟨rfl, rfl⟩ := e
        simp [frzL_len e2]
theorem frz_set : ∀ {n : Nat} {S S' : Sto} {d : D} {t : T} {k : Nat} {o : O}, frz n S d = some (t, S') → S'[k]? = some o → o ≠ .dead → S[k]? = some o
  | 0, S, S', d, t, k, o, e, h, hd => by
    cases d <;> simp [frz] at e
    obtain ⟨rfl, rfl⟩ := e
    exact h
  | n + 1, S, S', d, t, k, o, e, h, hd => by
    have hl : ∀ {ds : List D} {S S' : Sto} {ts : List T}, frzL (frz n) S ds = some (ts, S') → S'[k]? = some o → S[k]? = some o := by
      intro ds
      induction ds with
      | nil =>
        intro S S' ts e h
        simp [frzL] at e
        obtain ⟨rfl, rfl⟩ := e
        exact h
      | cons d ds ih =>
        intro S S' ts e h
        unfold frzL at e
        cases e1 : frz n S d with
        | none => rw [e1] at e; cases e
        | some p =>
          obtain ⟨t, S1⟩ := p
          rw [e1] at e
          simp only at e
          cases e2 : frzL (frz n) S1 ds with
          | none => rw [e2] at e; cases e
          | some p =>
            obtain ⟨us, S2⟩ := p
            rw [e2] at e
            simp only [Option.some.injEq, Prod.mk.injEq] at e
            obtain ⟨rfl, rfl⟩ := e
            exact frz_set e1 (ih e2 h) hd
    have hs : ∀ {S1 : Sto} {j : Nat}, (S1.set j O.dead)[k]? = some o → S1[k]? = some o := fun {S1 j} h => by
      by_cases q : j = k
      · subst q
        by_cases l : j < S1.length
        · rw [List.getElem?_set_self l] at h; cases h; exact absurd rfl hd
        · rw [List.getElem?_eq_none (by simpa using l)] at h; cases h
      · rw [List.getElem?_set_ne q] at h; exact h
    cases d with
    | t x => simp [frz] at e; obtain ⟨rfl, rfl⟩ := e; exact h
    | tup ds =>
      unfold frz at e
      split at e
      · rename_i ts S1 e1
        cases e
        exact hl e1 h
      · cases e
    | ref j =>
      unfold frz at e
      split at e
      all_goals first | cases e; done | skip
      all_goals
        split at e
        · rename_i ts S1 e1
          split at e
          · cases e
            exact hl e1 (hs h)
          · cases e
        · cases e
theorem unzip_fst {α β : Type} : ∀ {l : List (α × β)} {ts : List T}, ts.length = l.length → ((l.map (·.1)).zip ts).map (·.1) = l.map (·.1)
  | [], [], _ => rfl
  | a :: l, t :: ts, h => by simp [unzip_fst (l := l) (ts := ts) (by simpa using h)]
  | [], _ :: _, h => by simp at h
  | _ :: _, [], h => by simp at h
theorem unzip_snd {α β : Type} : ∀ {l : List (α × β)} {ts : List T}, ts.length = l.length → ((l.map (·.1)).zip ts).map (·.2) = ts
  | [], [], _ => rfl
  | a :: l, t :: ts, h => by simp [unzip_snd (l := l) (ts := ts) (by simpa using h)]
  | [], _ :: _, h => by simp at h
  | _ :: _, [], h => by simp at h
theorem frz_ok : ∀ n : Nat, Frz G (frz n)
  | 0 => by
    intro H W S S' v d t r h e
    cases d <;> simp [frz] at e
    obtain ⟨rfl, rfl⟩ := e
    cases h with
    | t h => exact ⟨W, r, Ext.refl, h, rfl⟩
  | n + 1 => by
    intro H W S S' v d t r h e
    cases h with
    | t h =>
      simp [frz] at e
      obtain ⟨rfl, rfl⟩ := e
      exact ⟨W, r, Ext.refl, h, rfl⟩
    | tup h1 h2 =>
      unfold frz at e
      split at e
      · rename_i ts S1 e1
        cases e
        obtain ⟨W1, r1, x1, q1, f1⟩ := frzL_ok (frz_ok n) r h2 e1
        exact ⟨W1, r1, x1, .tup (x1.hf _ _ h1) q1, f1⟩
      · cases e
    | @ref a k h1 =>
      -- the thing k at a: its parts first
      have key : ∀ {o : O} {ds : List D} {vs : List V} {ts : List T} {S1 : Sto} {u : HO} {t : T}, S[k]? = some o → H a = some u → RDs G W vs ds → frzL (frz n) S ds = some (ts, S1) → alive S1 k = true →
          (∀ W' : Wd, W'.Hf a = some u → RTs G W'.Hf vs ts → RT G W'.Hf (.ref a) t) → ∃ W', Rel G H W' (S1.set k .dead) ∧ Ext H W H W' ∧ RT G W'.Hf (.ref a) t ∧ W'.F = W.F := by
        intro o ds vs ts S1 u t ho hu hr e1 hal hq
        obtain ⟨W1, r1, x1, q1, f1⟩ := frzL_ok (frz_ok n) r hr e1
        have h1' : W1.F[k]? = some a := by rw [f1]; exact h1
        obtain ⟨o1, ho1, hd1⟩ : ∃ o1, S1[k]? = some o1 ∧ o1 ≠ .dead := by
          unfold alive at hal
          split at hal
          · cases hal
          · rename_i o1 hne e1
            exact ⟨o1, e1, fun z => hne z⟩
          · cases hal
        obtain ⟨r2, x2⟩ := r1.freeze h1' ho1 hd1 hu
        exact ⟨_, r2, x1.trans x2, hq _ upd_same (RTs.mono x2.hf q1), f1⟩
      unfold frz at e
      split at e
      · rename_i ds e0
        have ro := r.obj k _ a e0 h1
        cases ro with
        | lst h3 h4 =>
          split at e
          · rename_i ts S1 e1
            split at e
            · rename_i hal
              cases e
              exact key e0 h3 h4 e1 hal fun W' g1 g2 => .lst g1 g2
            · cases e
          · cases e
      · rename_i kvs e0
        have ro := r.obj k _ a e0 h1
        cases ro with
        | dct h3 h5 h4 =>
          split at e
          · rename_i ts S1 e1
            split at e
            · rename_i hal
              cases e
              have hl := frzL_len e1
              refine key e0 h3 h4 e1 hal fun W' g1 g2 => .dct g1 ?_ ?_
              · rw [unzip_fst (by simpa using hl)]; exact h5
              · rw [unzip_snd (by simpa using hl)]; exact g2
            · cases e
          · cases e
      · rename_i c fs e0
        have ro := r.obj k _ a e0 h1
        cases ro with
        | ins h3 h5 h4 =>
          split at e
          · rename_i ts S1 e1
            split at e
            · rename_i hal
              cases e
              have hl := frzL_len e1
              refine key e0 h3 h4 e1 hal fun W' g1 g2 => .ins g1 ?_ ?_
              · rw [unzip_fst (by simpa using hl)]; exact h5
              · rw [unzip_snd (by simpa using hl)]; exact g2
            · cases e
          · cases e
      · cases e
end
end Wc

/-! Wc: the small language and its evaluator. -/
namespace Wc
open PySem

/-- targets: a name's place, a tuple of places -/
inductive Pt where | v (i : Nat) | tup (is : List Nat)
/-- what is walked -/
inductive Ik where | seq | rng | enu | zip | items | keys
/-- built-in classes asked for by isinstance; an own class -/
inductive Cl where | int | bool | str | list | tuple | dict | own (c : Nat)
inductive Bi where | len | all | any | sum | list | tuple | int | str | min | max | abs | sorted | set
inductive Bm where | append | extend | insert | popL | popD | clear | reverse | index | count | split | join | startswith | get | setdefault | bitlen | find | upper | replace
mutual
inductive IE where
  | v (i : Nat) | c (t : T) | g (x : Str) (t : T)
  | bin (m : Bool) (op : Operator) (a b : IE) | neg (a : IE)
  | cmp (op : CmpOp) (a b : IE) | ch2 (o1 o2 : CmpOp) (a b c : IE) | ch3 (o1 o2 o3 : CmpOp) (a b c d : IE)
  | and (a b : IE) | or (a b : IE) | not (a : IE) | ite (c a b : IE)
  | tup (es : IEs) | lst (m : Bool) (es : IEs) | dct (m : Bool) (kvs : IEs)
  | idx (a b : IE) | sl (a lo hi : IE) | nop
  | att (a : IE) (f : Str)
  | call (m : Bool) (f : Nat) (es : IEs) | cv (m : Bool) (i : Nat) (es : IEs) | new (m : Bool) (c : Nat) (es : IEs) | mth (m : Bool) (o : IE) (f : Str) (es : IEs)
  | bi (m : Bool) (b : Bi) (es : IEs) | bm (m : Bool) (b : Bm) (o : IE) (es : IEs) | isi (a : IE) (c : Cl)
  | lc (m : Bool) (el : IE) (p : Pt) (k : Ik) (es : IEs) (cond : IE)
  | frz (e : IE) | one (e : IE)
inductive IEs where | nil | cons (e : IE) (es : IEs)
end
mutual
inductive IS where
  | asg (p : Pt) (e : IE) | ex (e : IE) | ret (e : IE) | retN
  | ite (c : IE) (a b : ISs) | wh (c : IE) (b : ISs) | fo (p : Pt) (k : Ik) (es : IEs) (b : ISs)
  | brk | cnt | pas
  | rse (c : Nat) (es : IEs)
  | sti (o i e : IE) | sta (o : IE) (f : Str) (e : IE)
  | tr (b : ISs) (c : Nat) (v : Option Nat) (h el : ISs)
inductive ISs where | nil | cons (s : IS) (r : ISs)
end

/-! ### operations -/
def lim : Nat := 16000000
def mulOk (i j : Int) : Prop := (-(2 ^ 64) < i ∧ i < 2 ^ 64) ∨ (-(2 ^ 64) < j ∧ j < 2 ^ 64) ∨ i.natAbs.log2 + j.natAbs.log2 < 1000000
instance (i j : Int) : Decidable (mulOk i j) := by unfold mulOk; exact inferInstance
def divOk (j : Int) : Prop := 0 < j ∧ (j < 1073741824 ∨ j.natAbs.log2 < 9000)
instance (j : Int) : Decidable (divOk j) := by unfold divOk; exact inferInstance
def powOk (i j : Int) : Prop := 0 ≤ j ∧ j ≤ 1000000 ∧ i.natAbs < 2 ^ 64
instance (i j : Int) : Decidable (powOk i j) := by unfold powOk; exact inferInstance
def shlOk (i j : Int) : Prop := (0 ≤ j ∧ j ≤ 1000000 ∧ i.natAbs < 2 ^ 64) ∨ (0 ≤ j ∧ (Builtin.Int.intBits i : Int) + j ≤ 2 ^ 27)
instance (i j : Int) : Decidable (shlOk i j) := by unfold shlOk; exact inferInstance
/-- a new list: plain, or a thing -/
def mkL (m : Bool) (ds : List D) (S : Sto) : R D :=
  if m then .ok (.ref S.length) (S ++ [.lst ds]) else match pls ds with
    | some ts => .ok (.t (.lst ts)) S
    | none => .no
def mkT (ds : List D) (S : Sto) : R D := match pls ds with
  | some ts => .ok (.t (.tup ts)) S
  | none => .ok (.tup ds) S
def asList (S : Sto) : D → Option (List D)
  | .t (.lst xs) => some (xs.map .t)
  | .ref k => match S[k]? with
    | some (.lst xs) => some xs
    | _ => none
  | _ => none
def asTup : D → Option (List D)
  | .t (.tup xs) => some (xs.map .t)
  | .tup xs => some xs
  | _ => none
def repL (n : Nat) (ds : List D) : List D := (List.replicate n ds).flatten
def repS (n : Nat) (x : Str) : Str := ⟨((List.replicate n x.cps.toList).flatten).toArray⟩
def pAdd (m : Bool) (x y : D) (S : Sto) : R D := match x, y with
  | .t (.int i), .t (.int j) => .ok (.t (.int (i + j))) S
  | .t (.str a), .t (.str b) => if a.length + b.length ≤ lim then .ok (.t (.str (a ++ b))) S else .no
  | x, y => match asList S x, asList S y with
    | some xs, some ys => if xs.length + ys.length ≤ lim then mkL m (xs ++ ys) S else .no
    | _, _ => .no
def pBin (m : Bool) (op : Operator) (x y : D) (S : Sto) : R D := match op with
  | .Add => pAdd m x y S
  | .Mult => (match x, y with
    | .t (.int i), .t (.int j) => if mulOk i j then .ok (.t (.int (i * j))) S else .no
    | .t (.str a), .t (.int k) => if -(2 ^ 63) ≤ k ∧ k < 2 ^ 63 ∧ a.length * k.toNat ≤ lim then .ok (.t (.str (repS k.toNat a))) S else .no
    | x, .t (.int k) => (match asList S x with
      | some xs => if -(2 ^ 63) ≤ k ∧ k < 2 ^ 63 ∧ xs.length * k.toNat ≤ lim then mkL m (repL k.toNat xs) S else .no
      | none => .no)
    | _, _ => .no)
  | _ => match x, y with
    | .t (.int i), .t (.int j) => (match op with
      | .Sub => .ok (.t (.int (i - j))) S
      | .FloorDiv => if divOk j then .ok (.t (.int (i / j))) S else .no
      | .Mod => if 0 < j then .ok (.t (.int (i % j))) S else .no
      | .Pow => if powOk i j then .ok (.t (.int (i ^ j.toNat))) S else .no
      | .LShift => if shlOk i j then .ok (.t (.int (i * 2 ^ j.toNat))) S else .no
      | .RShift => if 0 ≤ j then .ok (.t (.int (i / 2 ^ j.toNat))) S else .no
      | .BitAnd => .ok (.t (.int (Builtin.bitAnd i j))) S
      | .BitOr => .ok (.t (.int (Builtin.bitOr i j))) S
      | .BitXor => .ok (.t (.int (Builtin.bitXor i j))) S
      | _ => .no)
    | _, _ => .no
def eqD (x y : D) (S : Sto) : Option Bool := match look S x, look S y with
  | some d, some e => if SeqAt.shaped d && SeqAt.shaped e then some (PyData.eqv d e) else none
  | _, _ => none
def kyOf : D → Option Ky
  | .t (.int i) => some (.inl i)
  | .t (.str x) => some (.inr x)
  | _ => none
def dctOf (S : Sto) : D → Option (List (Ky × D))
  | .t (.dct kvs) => some (kvs.map fun p => (p.1, .t p.2))
  | .ref k => match S[k]? with
    | some (.dct kvs) => some kvs
    | _ => none
  | _ => none
def getK {α : Type} (kvs : List (Ky × α)) (k : Ky) : Option α := (kvs.find? fun kv => decide (kv.1 = k)).map (·.2)
def flatP : PyData → Bool
  | .none => true
  | .bool _ => true
  | .int _ => true
  | .str _ => true
  | _ => false
def inD (x y : D) (S : Sto) : Option Bool := match y with
  | .t (.str z) => (match x with
    | .t (.str c) => some (!(Builtin.Str.occurrences z c 0 z.length 1).isEmpty)
    | _ => none)
  | _ => match dctOf S y with
    | some kvs => (match kyOf x with
      | some k => some (getK kvs k).isSome
      | none => none)
    | none => match look S x, look S y with
      | some d, some (.list ds) => if SeqAt.shaped d && SeqAt.shaped (.list ds) then some (ds.any fun z => PyData.eqv z d) else none
      | some d, some (.tuple ds) => if flatP d && ds.all flatP then some (ds.any fun z => PyData.eqv z d) else none
      | _, _ => none
def bl (o : Option Bool) (S : Sto) : R D := match o with
  | some b => .ok (.t (.bl b)) S
  | none => .no
def isN : D → Bool
  | .t .non => true
  | _ => false
def pCmp (op : CmpOp) (x y : D) (S : Sto) : R D := match op with
  | .Eq => bl (eqD x y S) S
  | .NotEq => bl ((eqD x y S).map (!·)) S
  | .In => bl (inD x y S) S
  | .NotIn => bl ((inD x y S).map (!·)) S
  | .Is => (match y with
    | .t .non => .ok (.t (.bl (isN x))) S
    | .t (.bl b) => (match x with
      | .t (.bl a) => .ok (.t (.bl (decide (a = b)))) S
      | _ => .no)
    | _ => .no)
  | .IsNot => (match y with
    | .t .non => .ok (.t (.bl (!isN x))) S
    | .t (.bl b) => (match x with
      | .t (.bl a) => .ok (.t (.bl (!decide (a = b)))) S
      | _ => .no)
    | _ => .no)
  | .Lt => (match x, y with
    | .t (.int i), .t (.int j) => .ok (.t (.bl (decide (i < j)))) S
    | .t (.str a), .t (.str b) => .ok (.t (.bl (decide (a.cps.toList < b.cps.toList)))) S
    | _, _ => .no)
  | .LtE => (match x, y with
    | .t (.int i), .t (.int j) => .ok (.t (.bl (decide (i ≤ j)))) S
    | .t (.str a), .t (.str b) => .ok (.t (.bl (!decide (b.cps.toList < a.cps.toList)))) S
    | _, _ => .no)
  | .Gt => (match x, y with
    | .t (.int i), .t (.int j) => .ok (.t (.bl (decide (j < i)))) S
    | .t (.str a), .t (.str b) => .ok (.t (.bl (decide (b.cps.toList < a.cps.toList)))) S
    | _, _ => .no)
  | .GtE => (match x, y with
    | .t (.int i), .t (.int j) => .ok (.t (.bl (decide (j ≤ i)))) S
    | .t (.str a), .t (.str b) => .ok (.t (.bl (!decide (a.cps.toList < b.cps.toList)))) S
    | _, _ => .no)
def ixAt {α : Type} (xs : List α) (i : Int) : Option α := if 0 ≤ i then xs[i.toNat]? else if -(xs.length : Int) ≤ i then xs[(i + xs.length).toNat]? else none
def opt (o : Option D) (S : Sto) : R D := match o with
  | some d => .ok d S
  | none => .no
def pIdx (x y : D) (S : Sto) : R D := match dctOf S x with
  | some kvs => (match kyOf y with
    | some k => opt (getK kvs k) S
    | none => .no)
  | none => match y with
    | .t (.int i) => (match x with
      | .t (.str z) => if z.length ≤ lim then opt ((ixAt z.cps.toList i).map fun c => .t (.str ⟨#[c]⟩)) S else .no
      | .t (.scr ns) => opt ((ixAt ns i).map fun n => .t (.int n)) S
      | x => match seqOf S x with
        | some xs => opt (ixAt xs i) S
        | none => .no)
    | _ => .no
def sIx (n d : Nat) : Option Int → Nat
  | none => d
  | some v => if v < 0 then (v + n).toNat else min v.toNat n
def cut {α : Type} (xs : List α) (lo hi : Option Int) : List α := (xs.drop (sIx xs.length 0 lo)).take (sIx xs.length xs.length hi - sIx xs.length 0 lo)
def pSl (x : D) (lo hi : Option Int) (S : Sto) : R D := match x with
  | .t (.str z) => if z.length ≤ lim then .ok (.t (.str ⟨(cut z.cps.toList lo hi).toArray⟩)) S else .no
  | .t (.scr ns) => .ok (.t (.lst ((cut ns lo hi).map .int))) S
  | x => match asList S x with
    | some xs => mkL false (cut xs lo hi) S
    | none => .no
def intOf : D → Option Int
  | .t (.int i) => some i
  | _ => none
def ci : Cl → Nat
  | .int => 0 | .bool => 1 | .str => 2 | .list => 3 | .tuple => 4 | .dict => 5 | .own _ => 6
def isiB (sub : Nat → Nat → Bool) (S : Sto) (x : D) (c : Cl) : Option Bool := match x with
  | .t .non => some false
  | .t (.bl _) => some (ci c == 0 || ci c == 1)
  | .t (.int _) => some (ci c == 0)
  | .t (.str _) => some (ci c == 2)
  | .t (.lst _) => some (ci c == 3)
  | .t (.scr _) => some (ci c == 3)
  | .t (.tup _) => some (ci c == 4)
  | .tup _ => some (ci c == 4)
  | .t (.dct _) => some (ci c == 5)
  | .ref k => (match S[k]? with
    | some (.lst _) => some (ci c == 3)
    | some (.dct _) => some (ci c == 5)
    | _ => none)
  | _ => none
def blsD : List D → Option (List Bool)
  | [] => some []
  | .t (.bl b) :: r => (blsD r).map (b :: ·)
  | _ => none
def intsD : List D → Option (List Int)
  | [] => some []
  | .t (.int b) :: r => (intsD r).map (b :: ·)
  | _ => none
def pLen (x : D) (S : Sto) : R D := match x with
  | .t (.str z) => if z.length ≤ lim then .ok (.t (.int z.length)) S else .no
  | .t (.scr ns) => .ok (.t (.int ns.length)) S
  | x => match seqOf S x with
    | some xs => .ok (.t (.int xs.length)) S
    | none => .no
def insI (x : Int) : List Int → List Int
  | [] => [x]
  | y :: l => if x ≤ y then x :: y :: l else y :: insI x l
/-- whole numbers, rising -/
def srtI : List Int → List Int
  | [] => []
  | x :: l => insI x (srtI l)
def pMx (f : Int → Int → Int) (x : D) (S : Sto) : R D := match (asList S x).bind intsD with
  | some (n :: ns) => .ok (.t (.int (ns.foldl f n))) S
  | _ => .no
def pMM (f : Int → Int → Int) (ds : List D) (S : Sto) : R D := match ds with
  | [x] => pMx f x S
  | [.t (.int i), .t (.int j)] => .ok (.t (.int (f i j))) S
  | _ => .no
def pBi (m : Bool) (b : Bi) (ds : List D) (S : Sto) : R D := match b, ds with
  | .len, [x] => pLen x S
  | .all, [x] => (match (asList S x).bind blsD with
    | some bs => .ok (.t (.bl (bs.all id))) S
    | none => .no)
  | .any, [x] => (match (asList S x).bind blsD with
    | some bs => .ok (.t (.bl (bs.any id))) S
    | none => .no)
  | .sum, [x] => (match (asList S x).bind intsD with
    | some ns => .ok (.t (.int ns.sum)) S
    | none => .no)
  | .list, [x] => (match x with
    | .t (.scr ns) => mkL m (ns.map fun n => .t (.int n)) S
    | x => match seqOf S x with
      | some xs => mkL m xs S
      | none => .no)
  | .tuple, [x] => (match x with
    | .t (.tup ts) => .ok (.t (.tup ts)) S
    | .tup ds => .ok (.tup ds) S
    | x => match asList S x with
      | some xs => mkT xs S
      | none => .no)
  | .int, [x] => (match x with
    | .t (.int i) => .ok (.t (.int i)) S
    | .t (.bl k) => .ok (.t (.int (if k then 1 else 0))) S
    | .t (.str a) => (match PySem.intText? a with
      | some n => if a.length ≤ 640 then .ok (.t (.int n)) S else .no
      | none => .no)
    | _ => .no)
  | .str, [x] => (match x with
    | .t (.int i) => if i.natAbs.log2 < 1920 then .ok (.t (.str (toString i))) S else .no
    | _ => .no)
  | .max, ds => pMM max ds S
  | .min, ds => pMM min ds S
  | .abs, [.t (.int i)] => .ok (.t (.int (if i < 0 then -i else i))) S
  | .sorted, [x] => (match (asList S x).bind intsD with
    | some ns => mkL m ((srtI ns).map fun n => .t (.int n)) S
    | none => .no)
  | _, _ => .no
def putKy {α : Type} (kvs : List (Ky × α)) (k : Ky) (v : α) : List (Ky × α) :=
  if kvs.any (fun kv => decide (kv.1 = k)) then kvs.map (fun kv => if kv.1 = k then (kv.1, v) else kv) else kvs ++ [(k, v)]
def plk : List (Ky × D) → Option (List (Ky × T))
  | [] => some []
  | (k, .t x) :: r => (plk r).map ((k, x) :: ·)
  | _ => none
/-- a new dict: plain, or a thing -/
def mkD (m : Bool) (kvs : List (Ky × D)) (S : Sto) : R D :=
  if m then .ok (.ref S.length) (S ++ [.dct kvs]) else match plk kvs with
    | some ts => .ok (.t (.dct ts)) S
    | none => .no
def bmT : Bm → Nat
  | .append | .extend | .insert | .popL | .clear | .reverse | .index | .count => 3
  | .popD | .get | .setdefault => 5
  | .bitlen => 0
  | _ => 2
def kindD (S : Sto) : D → Nat
  | .t (.str _) => 2
  | .t (.int _) => 0
  | .t (.lst _) => 3
  | .t (.dct _) => 5
  | .ref k => (match S[k]? with
    | some (.lst _) => 3
    | some (.dct _) => 5
    | _ => 9)
  | _ => 9
def pApp (x : D) (ds : List D) (S : Sto) : R D := match x, ds with
  | .ref k, [y] => (match S[k]? with
    | some (.lst xs) => if xs.length < lim then .ok (.t .non) (S.set k (.lst (xs ++ [y]))) else .no
    | _ => .no)
  | _, _ => .no
def pInd (x : D) (ds : List D) (S : Sto) : R D := match ds with
  | [y] => (match look S x, look S y with
    | some (.list ds), some d => if SeqAt.shaped d && SeqAt.shaped (.list ds) then (match ds.findIdx? fun z => PyData.eqv z d with
      | some j => .ok (.t (.int (j : Nat))) S
      | none => .no) else .no
    | _, _ => .no)
  | _ => .no
def pBm (m : Bool) (b : Bm) (x : D) (ds : List D) (S : Sto) : R D := match b with
  | .append => pApp x ds S
  | .index => pInd x ds S
  | _ => .no
def itemsOf (k : Ik) (ds : List D) (S : Sto) : Option (List D) := match k, ds with
  | .seq, [.t (.scr ns)] => some (ns.map fun n => .t (.int n))
  | .seq, [.t (.lst xs)] => some (xs.map .t)
  | .seq, [.t (.tup xs)] => some (xs.map .t)
  | .seq, [.tup xs] => some xs
  | .seq, [.t (.str z)] => some (z.cps.toList.map fun c => .t (.str ⟨#[c]⟩))
  | .rng, [.t (.int n)] => if -(2 ^ 62) ≤ n ∧ n < 2 ^ 62 then some ((List.range n.toNat).map fun (i : Nat) => .t (.int (i : Int))) else none
  | .rng, [.t (.int a), .t (.int b)] => if -(2 ^ 62) ≤ a ∧ a < 2 ^ 62 ∧ -(2 ^ 62) ≤ b ∧ b < 2 ^ 62 then some ((List.range (b - a).toNat).map fun (i : Nat) => .t (.int (a + (i : Int)))) else none
  | _, _ => none
inductive RS where
  | nx (ρ : Ev) (S : Sto) | rt (d : D) (S : Sto) | bk (ρ : Ev) (S : Sto) | ct (ρ : Ev) (S : Sto) | ex (c : Nat) (fs : List (Str × T)) (ρ : Ev) (S : Sto) | no
def ixP (n : Nat) (i : Int) : Option Nat := if 0 ≤ i then (if i < n then some i.toNat else none) else if -(n : Int) ≤ i then some (i + n).toNat else none
/-- x[y] = v: the store behind it -/
def pSt (x y v : D) (S : Sto) : Option Sto := match x with
  | .ref k => (match S[k]? with
    | some (.lst xs) => (match y with
      | .t (.int i) => (ixP xs.length i).map fun j => S.set k (.lst (xs.set j v))
      | _ => none)
    | some (.dct kvs) => (match kyOf y with
      | some ky => if kvs.length < lim then some (S.set k (.dct (putKy kvs ky v))) else none
      | none => none)
    | _ => none)
  | _ => none
def nxO (ρ : Ev) : Option Sto → RS
  | some S => .nx ρ S
  | none => .no
/-- a target takes a value -/
def setP (p : Pt) (d : D) (ρ : Ev) : Option Ev := match p with
  | .v i => some (ρ.set i (some d))
  | .tup is => match asTup d with
    | some ds => if ds.length = is.length then some ((is.zip ds).foldl (fun ρ q => ρ.set q.1 (some q.2)) ρ) else none
    | none => none

/-! ### the text's tables -/
structure Tb where
  mt : Nat → Str → Option Nat
  ini : Nat → Option Nat
  sub : Nat → Nat → Bool
  isf : Nat → Bool
abbrev Cal := Nat → List D → Sto → R D
def callD (C : Cal) (m : Bool) (f : Nat) (ds : List D) (S : Sto) : R D :=
  if m then match pls ds with
    | some _ => (match C f ds [] with
      | .ok d S1 => (match frz 9 S1 d with
        | some (t, _) => .ok (.t t) S
        | none => .no)
      | .ex c fs _ => .ex c fs S
      | .no => .no)
    | none => .no
  else C f ds S
def clsOf (S : Sto) : D → Option Nat
  | .t (.ins c _) => some c
  | .ref k => match S[k]? with
    | some (.ins c _) => some c
    | _ => none
  | _ => none
def attD (S : Sto) (f : Str) : D → Option D
  | .t (.ins _ fs) => (fs.lookup f).map .t
  | .ref k => match S[k]? with
    | some (.ins _ fs) => fs.lookup f
    | _ => none
  | _ => none
/-- [el for p in .. if cond]: what is gathered -/
def lcL (p : Pt) (ρ : Ev) (cond el : Ev → Sto → R D) : List D → Sto → List D → R (List D)
  | [], S, acc => .ok acc S
  | d :: ds, S, acc => match setP p d ρ with
    | none => .no
    | some ρ1 => match cond ρ1 S with
      | .ok (.t (.bl true)) S1 => (match el ρ1 S1 with
        | .ok y S2 => if acc.length < lim then lcL p ρ cond el ds S2 (acc ++ [y]) else .no
        | _ => .no)
      | .ok (.t (.bl false)) S1 => lcL p ρ cond el ds S1 acc
      | _ => .no
def foL (p : Pt) (b : Ev → Sto → RS) : List D → Ev → Sto → RS
  | [], ρ, S => .nx ρ S
  | d :: ds, ρ, S => match setP p d ρ with
    | none => .no
    | some ρ1 => match b ρ1 S with
      | .nx ρ2 S2 => foL p b ds ρ2 S2
      | .ct ρ2 S2 => foL p b ds ρ2 S2
      | .bk ρ2 S2 => .nx ρ2 S2
      | r => r
def whL (c : Ev → Sto → R D) (b : Ev → Sto → RS) : Nat → Ev → Sto → RS
  | 0, _, _ => .no
  | n + 1, ρ, S => match c ρ S with
    | .ok (.t (.bl true)) S1 => (match b ρ S1 with
      | .nx ρ2 S2 => whL c b n ρ2 S2
      | .ct ρ2 S2 => whL c b n ρ2 S2
      | .bk ρ2 S2 => .nx ρ2 S2
      | r => r)
    | .ok (.t (.bl false)) S1 => .nx ρ S1
    | .ex k fs S1 => .ex k fs ρ S1
    | _ => .no
def wf : Nat := 10 ^ 40
/-- the own places of a comprehension's target, forgotten ahead of it -/
def wipeL (ρ : Ev) : List Nat → Ev
  | [] => ρ
  | v :: vs => (wipeL ρ vs).set v none
def Pt.own : Pt → List Nat
  | .v i => [i]
  | .tup is => is
def prt (lo : IE) (d : D) : Option (Option Int) := match lo with
  | .nop => some none
  | _ => (intOf d).map some
mutual
def evE (B : Tb) (C : Cal) : IE → Ev → Sto → R D
  | .v i, ρ, S => match ρ[i]? with
    | some (some d) => .ok d S
    | _ => .no
  | .c t, _, S => .ok (.t t) S
  | .g _ t, _, S => .ok (.t t) S
  | .bin m op a b, ρ, S => (evE B C a ρ S).bind fun x S1 => (evE B C b ρ S1).bind fun y S2 => pBin m op x y S2
  | .neg a, ρ, S => (evE B C a ρ S).bind fun x S1 => match x with
    | .t (.int i) => .ok (.t (.int (-i))) S1
    | _ => .no
  | .cmp op a b, ρ, S => (evE B C a ρ S).bind fun x S1 => (evE B C b ρ S1).bind fun y S2 => pCmp op x y S2
  | .ch2 o1 o2 a b c, ρ, S => (evE B C a ρ S).bind fun x S1 => (evE B C b ρ S1).bind fun y S2 => (pCmp o1 x y S2).bind fun k S3 => match k with
    | .t (.bl true) => (evE B C c ρ S3).bind fun z S4 => pCmp o2 y z S4
    | .t (.bl false) => .ok (.t (.bl false)) S3
    | _ => .no
  | .ch3 o1 o2 o3 a b c d, ρ, S => (evE B C a ρ S).bind fun x S1 => (evE B C b ρ S1).bind fun y S2 => (pCmp o1 x y S2).bind fun k S3 => match k with
    | .t (.bl true) => (evE B C c ρ S3).bind fun z S4 => (pCmp o2 y z S4).bind fun k S5 => match k with
      | .t (.bl true) => (evE B C d ρ S5).bind fun w S6 => pCmp o3 z w S6
      | .t (.bl false) => .ok (.t (.bl false)) S5
      | _ => .no
    | .t (.bl false) => .ok (.t (.bl false)) S3
    | _ => .no
  | .and a b, ρ, S => (evE B C a ρ S).bind fun x S1 => match x with
    | .t (.bl true) => evE B C b ρ S1
    | .t (.bl false) => .ok (.t (.bl false)) S1
    | _ => .no
  | .or a b, ρ, S => (evE B C a ρ S).bind fun x S1 => match x with
    | .t (.bl true) => .ok (.t (.bl true)) S1
    | .t (.bl false) => evE B C b ρ S1
    | _ => .no
  | .not a, ρ, S => (evE B C a ρ S).bind fun x S1 => match x with
    | .t (.bl k) => .ok (.t (.bl (!k))) S1
    | _ => .no
  | .ite c a b, ρ, S => (evE B C c ρ S).bind fun x S1 => match x with
    | .t (.bl true) => evE B C a ρ S1
    | .t (.bl false) => evE B C b ρ S1
    | _ => .no
  | .tup es, ρ, S => (evEs B C es ρ S).bind fun ds S1 => mkT ds S1
  | .lst m es, ρ, S => (evEs B C es ρ S).bind fun ds S1 => mkL m ds S1
  | .dct m kvs, ρ, S => (evPs B C kvs ρ S).bind fun ps S1 => mkD m (ps.foldl (fun acc p => putKy acc p.1 p.2) []) S1
  | .idx a b, ρ, S => (evE B C a ρ S).bind fun x S1 => (evE B C b ρ S1).bind fun y S2 => pIdx x y S2
  | .sl a lo hi, ρ, S => (evE B C a ρ S).bind fun x S1 => (evE B C lo ρ S1).bind fun l S2 => match prt lo l with
    | none => .no
    | some l => (evE B C hi ρ S2).bind fun h S3 => match prt hi h with
      | none => .no
      | some h => pSl x l h S3
  | .nop, _, S => .ok (.t .non) S
  | .att a f, ρ, S => (evE B C a ρ S).bind fun x S1 => opt (attD S1 f x) S1
  | .call m f es, ρ, S => (evEs B C es ρ S).bind fun ds S1 => callD C m f ds S1
  | .cv m i es, ρ, S => match ρ[i]? with
    | some (some (.t (.fn f))) => if B.isf f then (evEs B C es ρ S).bind fun ds S1 => callD C m f ds S1 else .no
    | _ => .no
  | .new m c es, ρ, S => (evEs B C es ρ S).bind fun ds S1 => match B.ini c with
    | none => .no
    | some f => if m then match pls ds with
        | some _ => (match C f (.ref 0 :: ds) [.ins c []] with
          | .ok _ S2 => (match frz 9 S2 (.ref 0) with
            | some (t, _) => .ok (.t t) S1
            | none => .no)
          | .ex k fs _ => .ex k fs S1
          | .no => .no)
        | none => .no
      else match C f (.ref S1.length :: ds) (S1 ++ [.ins c []]) with
        | .ok _ S2 => .ok (.ref S1.length) S2
        | .ex k fs S2 => .ex k fs S2
        | .no => .no
  | .mth m o f es, ρ, S => (evE B C o ρ S).bind fun x S1 => match clsOf S1 x with
    | none => .no
    | some c => match B.mt c f with
      | none => .no
      | some g => (evEs B C es ρ S1).bind fun ds S2 => callD C m g (x :: ds) S2
  | .bi m b es, ρ, S => (evEs B C es ρ S).bind fun ds S1 => pBi m b ds S1
  | .bm m b o es, ρ, S => (evE B C o ρ S).bind fun x S1 => if kindD S1 x = bmT b then (evEs B C es ρ S1).bind fun ds S2 => pBm m b x ds S2 else .no
  | .isi a c, ρ, S => (evE B C a ρ S).bind fun x S1 => bl (isiB B.sub S1 x c) S1
  | .lc m el p k es cond, ρ, S => (evEs B C es ρ S).bind fun ds S1 => match itemsOf k ds S1 with
    | none => .no
    | some xs => (lcL p (wipeL ρ p.own) (evE B C cond) (evE B C el) xs S1 []).bind fun ys S2 => mkL m ys S2
  | .frz e, ρ, S => (evE B C e ρ S).bind fun x S1 => match frz 9 S1 x with
    | some (t, S2) => .ok (.t t) S2
    | none => .no
  | .one e, ρ, S => evE B C e ρ S
def evEs (B : Tb) (C : Cal) : IEs → Ev → Sto → R (List D)
  | .nil, _, S => .ok [] S
  | .cons e es, ρ, S => (evE B C e ρ S).bind fun x S1 => (evEs B C es ρ S1).bind fun xs S2 => .ok (x :: xs) S2
/-- keys and values by turns -/
def evPs (B : Tb) (C : Cal) : IEs → Ev → Sto → R (List (Ky × D))
  | .nil, _, S => .ok [] S
  | .cons _ .nil, _, _ => .no
  | .cons k (.cons v r), ρ, S => (evE B C k ρ S).bind fun x S1 => (evE B C v ρ S1).bind fun y S2 => match kyOf x with
    | none => .no
    | some ky => (evPs B C r ρ S2).bind fun ps S3 => .ok ((ky, y) :: ps) S3
end
mutual
def evS (B : Tb) (C : Cal) : IS → Ev → Sto → RS
  | .asg p e, ρ, S => match evE B C e ρ S with
    | .ok d S1 => (match setP p d ρ with
      | some ρ1 => .nx ρ1 S1
      | none => .no)
    | .ex c fs S1 => .ex c fs ρ S1
    | .no => .no
  | .ex e, ρ, S => match evE B C e ρ S with
    | .ok _ S1 => .nx ρ S1
    | .ex c fs S1 => .ex c fs ρ S1
    | .no => .no
  | .ret e, ρ, S => match evE B C e ρ S with
    | .ok d S1 => .rt d S1
    | .ex c fs S1 => .ex c fs ρ S1
    | .no => .no
  | .retN, _, S => .rt (.t .non) S
  | .ite c a b, ρ, S => match evE B C c ρ S with
    | .ok (.t (.bl true)) S1 => evSs B C a ρ S1
    | .ok (.t (.bl false)) S1 => evSs B C b ρ S1
    | .ex k fs S1 => .ex k fs ρ S1
    | _ => .no
  | .wh c b, ρ, S => whL (evE B C c) (evSs B C b) wf ρ S
  | .fo p k es b, ρ, S => match evEs B C es ρ S with
    | .ok ds S1 => (match itemsOf k ds S1 with
      | some xs => foL p (evSs B C b) xs ρ S1
      | none => .no)
    | .ex c fs S1 => .ex c fs ρ S1
    | .no => .no
  | .brk, ρ, S => .bk ρ S
  | .cnt, ρ, S => .ct ρ S
  | .pas, ρ, S => .nx ρ S
  | .rse c es, ρ, S => match evEs B C es ρ S with
    | .ok _ S1 => .ex c [] ρ S1
    | _ => .no
  | .sti o i e, ρ, S => match evE B C e ρ S with
    | .ok v S1 => (match evE B C o ρ S1 with
      | .ok x S2 => (match evE B C i ρ S2 with
        | .ok y S3 => nxO ρ (pSt x y v S3)
        | .ex c fs S3 => .ex c fs ρ S3
        | .no => .no)
      | .ex c fs S2 => .ex c fs ρ S2
      | .no => .no)
    | .ex c fs S1 => .ex c fs ρ S1
    | .no => .no
  | .sta o f e, ρ, S => .no
  | .tr b c v h el, ρ, S => .no
def evSs (B : Tb) (C : Cal) : ISs → Ev → Sto → RS
  | .nil, ρ, S => .nx ρ S
  | .cons s r, ρ, S => match evS B C s ρ S with
    | .nx ρ1 S1 => evSs B C r ρ1 S1
    | x => x
end
/-- a def: how many names it has, its body -/
structure Df where
  ps : Nat
  names : Nat
  body : ISs
def runDf (B : Tb) (C : Cal) (d : Df) (ds : List D) (S : Sto) : R D :=
  if ds.length = d.ps then match evSs B C d.body (ds.map some ++ List.replicate (d.names - ds.length) none) S with
    | .nx _ S1 => .ok (.t .non) S1
    | .rt d S1 => .ok d S1
    | .ex c fs _ S1 => .ex c fs S1
    | _ => .no
  else .no
/-- all defs, one in another n deep at most -/
def cal (B : Tb) (P : Nat → Option Df) : Nat → Cal
  | 0, _, _, _ => .no
  | n + 1, f, ds, S => match P f with
    | some d => runDf B (cal B P n) d ds S
    | none => .no
end Wc

/-! Wc: what the evaluator says holds of the program: readings. -/
namespace Wc
open PySem PySem.Spec PyProof.Rows L2

/-- names of a def and their values -/
structure REn (G : Gd) (W : Wd) (σ : L2.St) (ρ : Ev) : Prop where
  len : σ.length = ρ.length
  at_ : ∀ (i : Nat) (d : D), ρ[i]? = some (some d) → ∃ v, σ[i]? = some (some v) ∧ RD G W v d
/-- an exception and what is said of it -/
def ExR (G : Gd) (H : Hp) (W : Wd) (c : Nat) (fs : List (Str × T)) (cls : Value) (dx : Option Addr) : Prop :=
  cls = .ref (G.ca c) ∧ match fs with
    | [] => dx = none
    | _ => ∃ dd vs, dx = some dd ∧ H dd = some (.xd vs) ∧ vs.map (·.1) = fs.map (·.1) ∧ RTs G W.Hf (vs.map (·.2)) (fs.map (·.2))
section
variable {G : Gd} {H H' : Hp} {W W' : Wd} {S S' : Sto} {σ : L2.St} {ρ : Ev}
theorem REn.mono (x : Ext H W H' W') (h : REn G W σ ρ) : REn G W' σ ρ := ⟨h.len, fun i d e => let ⟨v, a, b⟩ := h.at_ i d e; ⟨v, a, b.mono x⟩⟩
theorem REn.set (h : REn G W σ ρ) {v : V} {d : D} (r : RD G W v d) (i : Nat) : REn G W (σ.set i (some v)) (ρ.set i (some d)) := by
  refine ⟨by simp [h.len], fun j e he => ?_⟩
  by_cases q : i = j
  · subst q
    by_cases l : i < ρ.length
    · rw [List.getElem?_set_self l] at he
      cases he
      exact ⟨v, by rw [List.getElem?_set_self (by rw [h.len]; exact l)], r⟩
    · rw [List.getElem?_eq_none (by simpa using l)] at he; cases he
  · rw [List.getElem?_set_ne q] at he
    rw [List.getElem?_set_ne q]
    exact h.at_ j e he
theorem REn.clear (h : REn G W σ ρ) (i : Nat) : REn G W (σ.set i none) (ρ.set i none) := by
  refine ⟨by simp [h.len], fun j e he => ?_⟩
  by_cases q : i = j
  · subst q
    by_cases l : i < ρ.length
    · rw [List.getElem?_set_self l] at he; cases he
    · rw [List.getElem?_eq_none (by simpa using l)] at he; cases he
  · rw [List.getElem?_set_ne q] at he
    rw [List.getElem?_set_ne q]
    exact h.at_ j e he
end

/-! ### readings -/
section
variable (G : Gd)
/-- behind an answer -/
def Aft {α β : Type} (rel : Wd → β → α → Prop) (Wx : Value → Option Addr → Hp → Prop) (H : Hp) (W : Wd) (Q : β → Hp → Prop) : R α → Prop
  | .ok d S' => ∀ v H' W', Rel G H' W' S' → Ext H W H' W' → rel W' v d → Q v H'
  | .ex c fs S' => ∀ cls dx H' W', Rel G H' W' S' → Ext H W H' W' → ExR G H' W' c fs cls dx → Wx cls dx H'
  | .no => False
def tE (ev : Ev → Sto → R D) (Wx : WX) : TE := fun σ H Q => ∃ W ρ S, Rel G H W S ∧ REn G W σ ρ ∧ Aft G (fun W' v d => RD G W' v d) (fun cls dx H' => Wx cls dx σ H') H W Q (ev ρ S)
def tA (ev : Ev → Sto → R (List D)) (Wx : WX) : TA := fun σ H Q => ∃ W ρ S, Rel G H W S ∧ REn G W σ ρ ∧ Aft G (fun W' v d => RDs G W' v d) (fun cls dx H' => Wx cls dx σ H') H W Q (ev ρ S)
def rP2 (p : D → D → Sto → R D) : R2 := fun x y H Q => ∃ W S dx dy, Rel G H W S ∧ RD G W x dx ∧ RD G W y dy ∧ Aft G (fun W' v d => RD G W' v d) (fun _ _ _ => False) H W Q (p dx dy S)
def rP1 (p : D → Sto → R D) : V → Hp → VK → Prop := fun x H Q => ∃ W S dx, Rel G H W S ∧ RD G W x dx ∧ Aft G (fun W' v d => RD G W' v d) (fun _ _ _ => False) H W Q (p dx S)
def rPs (p : List D → Sto → R D) : List V → Hp → VK → Prop := fun xs H Q => ∃ W S ds, Rel G H W S ∧ RDs G W xs ds ∧ Aft G (fun W' v d => RD G W' v d) (fun _ _ _ => False) H W Q (p ds S)
end
section
variable {G : Gd} {X : Cx}
theorem pe_imp {e : Expr} {t t' : TE} (h : PE X e t) (k : ∀ σ H Q, t' σ H Q → t σ H Q) : PE X e t' := ⟨fun pins s σ H Q I q => h.run pins s σ H Q I (k _ _ _ q)⟩
theorem pt_imp {e : Expr} {t t' : TT} (h : PT X e t) (k : ∀ σ H Q, t' σ H Q → t σ H Q) : PT X e t' := ⟨fun pins s σ H Q I q => h.run pins s σ H Q I (k _ _ _ q)⟩
theorem pw_imp {e : Expr} {t t' : TT} (h : PW X e t) (k : ∀ σ H Q, t' σ H Q → t σ H Q) : PW X e t' := ⟨fun whole pins s σ H Q I q => h.run whole pins s σ H Q I (k _ _ _ q)⟩
theorem pa_imp {es : List Expr} {t t' : TA} (h : PA X es t) (k : ∀ σ H Q, t' σ H Q → t σ H Q) : PA X es t' := ⟨fun pos pins s σ H Q I q => h.run pos pins s σ H Q I (k _ _ _ q)⟩
theorem ps_imp {st : Stmt} {t t' : TS} (h : PS X st t) (k : ∀ D σ H, t' D σ H → t D σ H) : PS X st t' := ⟨fun pins s σ H D I q => h.run pins s σ H D I (k _ _ _ q)⟩
theorem opr_imp {f : Value → Value → Sem Value} {r r' : R2} (h : OpR X f r) (k : ∀ x y H Q, r' x y H Q → r x y H Q) : OpR X f r' := fun pins s σ H x y v u Q I rx ry q => h pins s σ H x y v u Q I rx ry (k _ _ _ _ q)
/-- Aft through a bind: first e, then what follows -/
theorem Aft.bind {α β γ δ : Type} {rel : Wd → β → α → Prop} {rel2 : Wd → δ → γ → Prop} {Wx : Value → Option Addr → Hp → Prop} {H : Hp} {W : Wd} {Q : δ → Hp → Prop} {r : R α} {f : α → Sto → R γ}
    (h : Aft G rel2 Wx H W Q (r.bind f)) : Aft G rel Wx H W (fun v H1 => ∃ d S1 W1, Rel G H1 W1 S1 ∧ Ext H W H1 W1 ∧ rel W1 v d ∧ Aft G rel2 Wx H1 W1 Q (f d S1)) r := by
  cases r with
  | ok d S1 =>
    intro v H1 W1 r1 x1 q1
    refine ⟨d, S1, W1, r1, x1, q1, ?_⟩
    have h : Aft G rel2 Wx H W Q (f d S1) := h
    cases e : f d S1 with
    | ok d2 S2 => rw [e] at h; exact fun v H2 W2 r2 x2 q2 => h v H2 W2 r2 (x1.trans x2) q2
    | ex c fs S2 => rw [e] at h; exact fun cls dx H2 W2 r2 x2 q2 => h cls dx H2 W2 r2 (x1.trans x2) q2
    | no => rw [e] at h; exact h
  | ex c fs S1 => exact h
  | no => exact h
theorem Aft.imp {α β : Type} {rel : Wd → β → α → Prop} {Wx Wx' : Value → Option Addr → Hp → Prop} {H : Hp} {W : Wd} {Q Q' : β → Hp → Prop} {r : R α}
    (h : Aft G rel Wx H W Q r) (k : ∀ v H', Q v H' → Q' v H') (kx : ∀ c d H', Wx c d H' → Wx' c d H') : Aft G rel Wx' H W Q' r := by
  cases r with
  | ok d S1 => exact fun v H1 W1 r1 x1 q1 => k _ _ (h v H1 W1 r1 x1 q1)
  | ex c fs S1 => exact fun cls dx H1 W1 r1 x1 q1 => kx _ _ _ (h cls dx H1 W1 r1 x1 q1)
  | no => exact h
def noEx {α : Type} : R α → Prop
  | .ex _ _ _ => False
  | _ => True
theorem Aft.noEx {α β : Type} {rel : Wd → β → α → Prop} {Wx Wx' : Value → Option Addr → Hp → Prop} {H : Hp} {W : Wd} {Q : β → Hp → Prop} {r : R α} (h : Aft G rel Wx H W Q r) (n : noEx r) : Aft G rel Wx' H W Q r := by
  cases r with
  | ok d S1 => exact h
  | ex c fs S1 => exact n.elim
  | no => exact h
theorem tE_op {eva evb : Ev → Sto → R D} {p : D → D → Sto → R D} {Wx : WX} {r : R2} (hp : ∀ x y S, noEx (p x y S)) (hr : ∀ x y H Q, rP2 G p x y H Q → r x y H Q) {σ : L2.St} {H : Hp} {Q : VK}
    (h : tE G (fun ρ S => (eva ρ S).bind fun x S1 => (evb ρ S1).bind fun y S2 => p x y S2) Wx σ H Q) : tOp r (tE G eva Wx) (tE G evb Wx) σ H Q := by
  obtain ⟨W, ρ, S, rl, en, q⟩ := h
  refine ⟨W, ρ, S, rl, en, (Aft.bind (rel := fun W' v d => RD G W' v d) q).imp (fun v H1 ⟨d, S1, W1, r1, x1, q1, a1⟩ => ?_) fun _ _ _ z => z⟩
  refine ⟨W1, ρ, S1, r1, en.mono x1, (Aft.bind (rel := fun W' v d => RD G W' v d) a1).imp (fun u H2 ⟨e, S2, W2, r2, x2, q2, a2⟩ => ?_) fun _ _ _ z => z⟩
  exact hr _ _ _ _ ⟨W2, S2, d, e, r2, q1.mono x2, q2, a2.noEx (hp _ _ _)⟩
theorem tE_un {eva : Ev → Sto → R D} {p : D → Sto → R D} {Wx : WX} {r : V → Hp → VK → Prop} (hp : ∀ x S, noEx (p x S)) (hr : ∀ x H Q, rP1 G p x H Q → r x H Q) {σ : L2.St} {H : Hp} {Q : VK}
    (h : tE G (fun ρ S => (eva ρ S).bind fun x S1 => p x S1) Wx σ H Q) : tUn r (tE G eva Wx) σ H Q := by
  obtain ⟨W, ρ, S, rl, en, q⟩ := h
  refine ⟨W, ρ, S, rl, en, (Aft.bind (rel := fun W' v d => RD G W' v d) q).imp (fun v H1 ⟨d, S1, W1, r1, x1, q1, a1⟩ => ?_) fun _ _ _ z => z⟩
  exact hr _ _ _ ⟨W1, S1, d, r1, q1, a1.noEx (hp _ _)⟩
/-- names, constants -/
theorem sE_var {B : Tb} {C : Cal} {i : Nat} {Wx : WX} {e : Expr} (h : PE X e (tVar i)) : PE X e (tE G (evE B C (.v i)) Wx) := pe_imp h fun σ H Q ⟨W, ρ, S, rl, en, q⟩ => by
  unfold evE at q
  cases e : ρ[i]? with
  | none => rw [e] at q; exact q.elim
  | some o =>
    cases o with
    | none => rw [e] at q; exact q.elim
    | some d =>
      rw [e] at q
      obtain ⟨v, a, b⟩ := en.at_ i d e
      exact ⟨v, a, q v H W rl Ext.refl b⟩
theorem sE_con {B : Tb} {C : Cal} {t : T} {v : V} {Wx : WX} {e : Expr} (ht : ∀ H, RT G H v t) (h : PE X e (tC v)) : PE X e (tE G (evE B C (.c t)) Wx) := pe_imp h fun σ H Q ⟨W, ρ, S, rl, en, q⟩ => by
  unfold evE at q
  exact q v H W rl Ext.refl (.t (ht _))
theorem sE_glo {B : Tb} {C : Cal} {x : Str} {t : T} {v : V} {Wx : WX} {e : Expr} (ht : ∀ H, RT G H v t) (h : PE X e (tC v)) : PE X e (tE G (evE B C (.g x t)) Wx) := pe_imp h fun σ H Q ⟨W, ρ, S, rl, en, q⟩ => by
  unfold evE at q
  exact q v H W rl Ext.refl (.t (ht _))
/-- tests from values -/
theorem pt_of {e : Expr} {t : TE} (h : PE X e t) (he : ∀ whole, isTrue e X.env whole = (do let v ← whole; standAt e.pos; holding [v] (truthy v))) : PT X e (tTest t) :=
  pt_val h he
end
end Wc

/-! Wc: the operations on values. -/
namespace Wc
open PySem PySem.Spec PyProof.Rows L2
section
variable {G : Gd} {X : Cx} {H : Hp} {W : Wd} {S : Sto} {Q : VK} {Wx : Value → Option Addr → Hp → Prop}
theorem lim_le : lim ≤ sizeLine := by rw [sizeLine_eq]; decide
theorem pls_none {ds : List D} : pls ds = none → ∃ d ∈ ds, d.pl = none := by
  induction ds with
  | nil => intro h; cases h
  | cons d r ih =>
    intro h
    cases d with
    | t x =>
      simp only [pls, Option.map_eq_none_iff] at h
      obtain ⟨d, a, b⟩ := ih h
      exact ⟨d, List.mem_cons_of_mem _ a, b⟩
    | ref k => exact ⟨_, List.mem_cons_self, rfl⟩
    | tup k => exact ⟨_, List.mem_cons_self, rfl⟩
theorem mkL_ok {m : Bool} {xs : List V} {ds : List D} (rl : Rel G H W S) (h : RDs G W xs ds) (q : Aft G (fun W' v d => RD G W' v d) Wx H W Q (mkL m ds S)) : ∀ p, H p = none → Q (.ref p) (upd H p (.lst xs)) := by
  intro p hp
  unfold mkL at q
  cases m with
  | true =>
    rw [if_pos rfl] at q
    obtain ⟨r2, x2⟩ := rl.alloc (u := .lst xs) (o := .lst ds) hp fun H' W' e s f => .lst e (h.mono' s f)
    exact q _ _ _ r2 x2 (.ref (by show (W.F ++ [p])[S.length]? = some p; rw [← rl.len]; simp))
  | false =>
    rw [if_neg (by simp)] at q
    cases e : pls ds with
    | none => rw [e] at q; exact q.elim
    | some ts =>
      rw [e] at q
      have e2 := pls_eq e
      subst e2
      obtain ⟨r2, x2⟩ := rl.new (o := .lst xs) hp
      exact q _ _ _ r2 x2 (.t (.lst upd_same ((h.mono x2).toT)))
theorem mkT_ok {xs : List V} {ds : List D} (rl : Rel G H W S) (h : RDs G W xs ds) (q : Aft G (fun W' v d => RD G W' v d) Wx H W Q (mkT ds S)) : ∀ p, H p = none → Q (.ref p) (upd H p (.tup xs)) := by
  intro p hp
  unfold mkT at q
  obtain ⟨r2, x2⟩ := rl.new (o := .tup xs) hp
  cases e : pls ds with
  | none => rw [e] at q; exact q _ _ _ r2 x2 (.tup upd_same (h.mono x2))
  | some ts =>
    rw [e] at q
    have e2 := pls_eq e
    subst e2
    exact q _ _ _ r2 x2 (.t (.tup upd_same ((h.mono x2).toT)))
theorem mkT_noEx (ds : List D) (S : Sto) : noEx (mkT ds S) := by unfold mkT; split <;> exact True.intro
theorem mkL_noEx (m : Bool) (ds : List D) (S : Sto) : noEx (mkL m ds S) := by
  unfold mkL
  split
  · exact True.intro
  · split <;> exact True.intro
theorem asList_ok {v : V} {d : D} {ds : List D} (rl : Rel G H W S) (r : RD G W v d) (e : asList S d = some ds) : ∃ a xs, v = .ref a ∧ H a = some (.lst xs) ∧ RDs G W xs ds := by
  unfold asList at e
  split at e
  · cases e
    cases r with
    | t r =>
      cases r with
      | lst h1 h2 => exact ⟨_, _, rfl, rl.sub _ _ h1, RDs.ofT h2⟩
  · cases r with
    | ref h1 =>
      split at e
      · rename_i e1
        cases e
        have ro := rl.obj _ _ _ e1 h1
        cases ro with
        | lst h3 h4 => exact ⟨_, _, rfl, h3, h4⟩
      · cases e
  · cases e
theorem asTup_ok {v : V} {d : D} {ds : List D} (rl : Rel G H W S) (r : RD G W v d) (e : asTup d = some ds) : ∃ a xs, v = .ref a ∧ W.Hf a = some (.tup xs) ∧ RDs G W xs ds := by
  unfold asTup at e
  split at e
  · cases e
    cases r with
    | t r =>
      cases r with
      | tup h1 h2 => exact ⟨_, _, rfl, h1, RDs.ofT h2⟩
  · cases e
    cases r with
    | tup h1 h2 => exact ⟨_, _, rfl, h1, h2⟩
  · cases e
theorem seqOf_ok {v : V} {d : D} {ds : List D} (rl : Rel G H W S) (r : RD G W v d) (e : seqOf S d = some ds) : ∃ a xs, v = .ref a ∧ (H a = some (.lst xs) ∨ H a = some (.tup xs)) ∧ RDs G W xs ds := by
  unfold seqOf at e
  split at e
  · cases e
    cases r with
    | t r =>
      cases r with
      | lst h1 h2 => exact ⟨_, _, rfl, .inl (rl.sub _ _ h1), RDs.ofT h2⟩
  · cases e
    cases r with
    | t r =>
      cases r with
      | tup h1 h2 => exact ⟨_, _, rfl, .inr (rl.sub _ _ h1), RDs.ofT h2⟩
  · cases e
    cases r with
    | tup h1 h2 => exact ⟨_, _, rfl, .inr (rl.sub _ _ h1), h2⟩
  · cases r with
    | ref h1 =>
      split at e
      · rename_i e1
        cases e
        have ro := rl.obj _ _ _ e1 h1
        cases ro with
        | lst h3 h4 => exact ⟨_, _, rfl, .inl h3, h4⟩
      · cases e
  · cases e
theorem RD.int_of {v : V} {i : Int} (r : RD G W v (.t (.int i))) : v = .int i := by
  cases r with | t r => cases r; rfl
theorem RD.str_of {v : V} {i : Str} (r : RD G W v (.t (.str i))) : v = .str i := by
  cases r with | t r => cases r; rfl
theorem RD.bl_of {v : V} {i : Bool} (r : RD G W v (.t (.bl i))) : v = .bl i := by
  cases r with | t r => cases r; rfl
theorem RD.non_of {v : V} (r : RD G W v (.t .non)) : v = .non := by
  cases r with | t r => cases r; rfl
theorem RDs.rep {xs : List V} {ds : List D} (h : RDs G W xs ds) : ∀ n : Nat, RDs G W (List.replicate n xs).flatten (repL n ds)
  | 0 => .nil
  | n + 1 => by
    unfold repL
    rw [List.replicate_succ, List.replicate_succ, List.flatten_cons, List.flatten_cons]
    exact h.append (RDs.rep h n)
theorem opr_add {m : Bool} : OpR X (binaryOp .Add) (rP2 G (pBin m .Add)) := by
  refine opr_imp (op_add.or (op_add_str.or op_cat)) fun x y H Q ⟨W, S, dx, dy, rl, r1, r2, q⟩ => ?_
  unfold pBin at q
  simp only at q
  unfold pAdd at q
  split at q
  · cases r1.int_of; cases r2.int_of
    exact .inl ⟨_, _, rfl, rfl, q _ _ _ rl Ext.refl (.t (.int _))⟩
  · cases r1.str_of; cases r2.str_of
    split at q
    · rename_i hl
      exact .inr (.inl ⟨_, _, rfl, rfl, Nat.le_trans hl lim_le, q _ _ _ rl Ext.refl (.t (.str _))⟩)
    · exact q.elim
  · split at q
    · rename_i xs ys e1 e2
      obtain ⟨a, us, rfl, h1, k1⟩ := asList_ok rl r1 e1
      obtain ⟨b, ws, rfl, h2, k2⟩ := asList_ok rl r2 e2
      split at q
      · rename_i hl
        refine .inr (.inr ⟨a, b, us, ws, rfl, rfl, h1, h2, ?_, mkL_ok rl (k1.append k2) q⟩)
        rw [k1.length, k2.length]; exact Nat.le_trans hl lim_le
      · exact q.elim
    · exact q.elim
theorem mul_mulOk {i j : Int} (h : mulOk i j) : CMul i j ∨ CMulW i j := by
  rcases h with h | h | h
  · exact .inl (.inl h)
  · exact .inl (.inr h)
  · exact .inr h
theorem foldl_app (x : Array Nat) : ∀ (n : Nat) (acc : Array Nat), ((List.replicate n x).foldl (· ++ ·) acc) = acc ++ ((List.replicate n x.toList).flatten).toArray
  | 0, acc => by simp
  | n + 1, acc => by
    rw [List.replicate_succ, List.foldl_cons, foldl_app x n, List.replicate_succ, List.flatten_cons]
    apply Array.ext'
    simp
theorem op_rep_str : OpR X (binaryOp .Mult) (fun x y H Q => ∃ a k, x = .str a ∧ y = .int k ∧ -(2 ^ 63) ≤ k ∧ k < 2 ^ 63 ∧ a.length * k.toNat ≤ lim ∧ Q (.str (repS k.toNat a)) H) := by
  intro pins s σ H x y v u Q I rx ry h
  obtain ⟨a, k, rfl, rfl, h1, h2, h3, q⟩ := h
  obtain ⟨t, rfl⟩ := rx
  obtain ⟨t', rfl⟩ := ry
  have hlen : (a.length : Int) * k ≤ 16000000 ∨ k < 1 := by
    by_cases hk : k < 1
    · exact .inr hk
    · refine .inl ?_
      have e : (k.toNat : Int) = k := Int.toNat_of_nonneg (by omega)
      have h4 : ((a.length * k.toNat : Nat) : Int) ≤ ((lim : Nat) : Int) := by exact_mod_cast h3
      rw [Int.natCast_mul, e] at h4
      exact h4
  refine PySem.P.mul_str ?_ ?_ ?_ ?_
  · rw [decide_eq_false (by omega), decide_eq_false (by omega)]; rfl
  · intro h4 _ h5
    have h6 : (a.length : Int) ≤ (2 ^ 63 - 1) / k := by
      rw [Int.le_ediv_iff_mul_le (by omega)]
      rcases hlen with h | h
      · omega
      · omega
    omega
  · intro h4 _
    have h5 : a.length * k.toNat ≤ sizeLine := Nat.le_trans h3 lim_le
    first
      | exact decide_eq_false (by omega)
      | (unfold tooLong; exact decide_eq_false (by omega))
  · have e0 : k < 1 → repS k.toNat a = Str.empty := fun h => by
      have : k.toNat = 0 := by omega
      rw [this]; rfl
    have e1 : (k == 1 || a.length == 0) = true → repS k.toNat a = a := fun h => by
      rw [Bool.or_eq_true, beq_iff_eq, beq_iff_eq] at h
      obtain ⟨cps⟩ := a
      rcases h with h | h
      · subst h; simp [repS]
      · have : cps = #[] := Array.eq_empty_of_size_eq_zero h
        subst this
        unfold repS
        congr 1
        have : ∀ n : Nat, (List.replicate n ([] : List Nat)).flatten = [] := fun n => by induction n with
          | zero => rfl
          | succ n ih => rw [List.replicate_succ, List.flatten_cons, ih]; rfl
        rw [this]
    split
    · rename_i h
      rw [e0 h] at q
      exact ⟨by decide, .str _, H, I.tok _, ⟨_, rfl⟩, q⟩
    · split
      · rename_i h
        rw [e1 h] at q
        exact ⟨.str a, H, I, ⟨_, rfl⟩, q⟩
      · have e2 : (⟨(List.replicate k.toNat a.cps).foldl (· ++ ·) #[]⟩ : Str) = repS k.toNat a := by
          unfold repS
          congr 1
          rw [foldl_app]; simp
        rw [e2]
        refine ⟨?_, .str _, H, I.tok _, ⟨_, rfl⟩, q⟩
        have hl : (repS k.toNat a).length = k.toNat * a.length := by
          show ((List.replicate k.toNat a.cps.toList).flatten.toArray).size = _
          rw [List.size_toArray, List.length_flatten, List.map_replicate, List.sum_replicate_nat]
          simp [Str.length]
        rw [hl, Nat.mul_comm]
        exact Nat.le_trans h3 lim_le
theorem opr_mul {m : Bool} : OpR X (binaryOp .Mult) (rP2 G (pBin m .Mult)) := by
  refine opr_imp ((op_mul.or op_mulW).or (op_rep_str.or op_rep)) fun x y H Q ⟨W, S, dx, dy, rl, r1, r2, q⟩ => ?_
  unfold pBin at q
  simp only at q
  split at q
  · cases r1.int_of; cases r2.int_of
    split at q
    · rename_i hm
      rcases mul_mulOk hm with h | h
      · exact .inl (.inl ⟨_, _, rfl, rfl, h, q _ _ _ rl Ext.refl (.t (.int _))⟩)
      · exact .inl (.inr ⟨_, _, rfl, rfl, h, q _ _ _ rl Ext.refl (.t (.int _))⟩)
    · exact q.elim
  · cases r1.str_of; cases r2.int_of
    split at q
    · rename_i hm
      exact .inr (.inl ⟨_, _, rfl, rfl, hm.1, hm.2.1, hm.2.2, q _ _ _ rl Ext.refl (.t (.str _))⟩)
    · exact q.elim
  · cases r2.int_of
    split at q
    · rename_i xs e1
      obtain ⟨a, us, rfl, h1, k1⟩ := asList_ok rl r1 e1
      split at q
      · rename_i hl
        obtain ⟨l1, l2, l3⟩ := hl
        refine .inr (.inr ⟨a, _, us, rfl, rfl, h1, l1, l2, ?_, mkL_ok rl (k1.rep _) q⟩)
        rw [k1.length]; exact Nat.le_trans l3 lim_le
      · exact q.elim
    · exact q.elim
  · exact q.elim
theorem opr_sub {m : Bool} : OpR X (binaryOp .Sub) (rP2 G (pBin m .Sub)) := by
  refine opr_imp op_sub fun x y H Q ⟨W, S, dx, dy, rl, r1, r2, q⟩ => ?_
  unfold pBin at q
  simp only at q
  split at q
  · cases r1.int_of; cases r2.int_of
    exact ⟨_, _, rfl, rfl, q _ _ _ rl Ext.refl (.t (.int _))⟩
  · exact q.elim
theorem opr_fdiv {m : Bool} : OpR X (binaryOp .FloorDiv) (rP2 G (pBin m .FloorDiv)) := by
  refine opr_imp (op_fdiv.or op_fdivW) fun x y H Q ⟨W, S, dx, dy, rl, r1, r2, q⟩ => ?_
  unfold pBin at q
  simp only at q
  split at q
  · cases r1.int_of; cases r2.int_of
    split at q
    · rename_i hm
      obtain ⟨h0, h | h⟩ := hm
      · exact .inl ⟨_, _, rfl, rfl, ⟨h0, h⟩, q _ _ _ rl Ext.refl (.t (.int _))⟩
      · exact .inr ⟨_, _, rfl, rfl, ⟨h0, h⟩, q _ _ _ rl Ext.refl (.t (.int _))⟩
    · exact q.elim
  · exact q.elim
theorem opr_mod {m : Bool} : OpR X (binaryOp .Mod) (rP2 G (pBin m .Mod)) := by
  refine opr_imp op_mod fun x y H Q ⟨W, S, dx, dy, rl, r1, r2, q⟩ => ?_
  unfold pBin at q
  simp only at q
  split at q
  · cases r1.int_of; cases r2.int_of
    split at q
    · rename_i hm
      exact ⟨_, _, rfl, rfl, hm, q _ _ _ rl Ext.refl (.t (.int _))⟩
    · exact q.elim
  · exact q.elim
theorem opr_pow {m : Bool} : OpR X (binaryOp .Pow) (rP2 G (pBin m .Pow)) := by
  refine opr_imp op_pow fun x y H Q ⟨W, S, dx, dy, rl, r1, r2, q⟩ => ?_
  unfold pBin at q
  simp only at q
  split at q
  · cases r1.int_of; cases r2.int_of
    split at q
    · rename_i hm
      exact ⟨_, _, rfl, rfl, hm, q _ _ _ rl Ext.refl (.t (.int _))⟩
    · exact q.elim
  · exact q.elim
theorem opr_shl {m : Bool} : OpR X (binaryOp .LShift) (rP2 G (pBin m .LShift)) := by
  refine opr_imp (op_shl.or op_shlW) fun x y H Q ⟨W, S, dx, dy, rl, r1, r2, q⟩ => ?_
  unfold pBin at q
  simp only at q
  split at q
  · cases r1.int_of; cases r2.int_of
    split at q
    · rename_i hm
      rcases hm with h | h
      · exact .inl ⟨_, _, rfl, rfl, h, q _ _ _ rl Ext.refl (.t (.int _))⟩
      · exact .inr ⟨_, _, rfl, rfl, h, q _ _ _ rl Ext.refl (.t (.int _))⟩
    · exact q.elim
  · exact q.elim
theorem opr_shr {m : Bool} : OpR X (binaryOp .RShift) (rP2 G (pBin m .RShift)) := by
  refine opr_imp op_shr fun x y H Q ⟨W, S, dx, dy, rl, r1, r2, q⟩ => ?_
  unfold pBin at q
  simp only at q
  split at q
  · cases r1.int_of; cases r2.int_of
    split at q
    · rename_i hm
      exact ⟨_, _, rfl, rfl, hm, q _ _ _ rl Ext.refl (.t (.int _))⟩
    · exact q.elim
  · exact q.elim
theorem opr_and {m : Bool} : OpR X (binaryOp .BitAnd) (rP2 G (pBin m .BitAnd)) := by
  refine opr_imp op_and fun x y H Q ⟨W, S, dx, dy, rl, r1, r2, q⟩ => ?_
  unfold pBin at q
  simp only at q
  split at q
  · cases r1.int_of; cases r2.int_of
    exact ⟨_, _, rfl, rfl, q _ _ _ rl Ext.refl (.t (.int _))⟩
  · exact q.elim
theorem opr_or {m : Bool} : OpR X (binaryOp .BitOr) (rP2 G (pBin m .BitOr)) := by
  refine opr_imp op_or fun x y H Q ⟨W, S, dx, dy, rl, r1, r2, q⟩ => ?_
  unfold pBin at q
  simp only at q
  split at q
  · cases r1.int_of; cases r2.int_of
    exact ⟨_, _, rfl, rfl, q _ _ _ rl Ext.refl (.t (.int _))⟩
  · exact q.elim
theorem opr_xor {m : Bool} : OpR X (binaryOp .BitXor) (rP2 G (pBin m .BitXor)) := by
  refine opr_imp op_xor fun x y H Q ⟨W, S, dx, dy, rl, r1, r2, q⟩ => ?_
  unfold pBin at q
  simp only at q
  split at q
  · cases r1.int_of; cases r2.int_of
    exact ⟨_, _, rfl, rfl, q _ _ _ rl Ext.refl (.t (.int _))⟩
  · exact q.elim
theorem opr_never {f : Value → Value → Sem Value} : OpR X f (fun _ _ _ _ => False) := fun _ _ _ _ _ _ _ _ _ _ _ _ h => h.elim
theorem opr_bin {m : Bool} : ∀ op : Operator, OpR X (binaryOp op) (rP2 G (pBin m op))
  | .Add => opr_add
  | .Sub => opr_sub
  | .Mult => opr_mul
  | .FloorDiv => opr_fdiv
  | .Mod => opr_mod
  | .Pow => opr_pow
  | .LShift => opr_shl
  | .RShift => opr_shr
  | .BitAnd => opr_and
  | .BitOr => opr_or
  | .BitXor => opr_xor
  | .Div => opr_imp opr_never fun x y H Q ⟨W, S, dx, dy, rl, r1, r2, q⟩ => by
    unfold pBin at q
    simp only at q
    split at q <;> exact q.elim
  | .MatMult => opr_imp opr_never fun x y H Q ⟨W, S, dx, dy, rl, r1, r2, q⟩ => by
    unfold pBin at q
    simp only at q
    split at q <;> exact q.elim
theorem pBin_noEx (m : Bool) (op : Operator) (x y : D) (S : Sto) : noEx (pBin m op x y S) := by
  unfold pBin pAdd
  repeat' (first | exact True.intro | exact mkL_noEx _ _ _ | split)
end
end Wc

/-! Wc: comparisons, in, subscripts, slices. -/
namespace Wc
open PySem PySem.Spec PyProof.Rows L2
section
variable {G : Gd} {X : Cx} {H : Hp} {W : Wd} {S : Sto} {Q : VK} {Wx : Value → Option Addr → Hp → Prop}
mutual
theorem RT.dp : ∀ {t : T} {v : V} {d : PyData}, RT G H v t → t.pd = some d → Dp G.K H v d
  | .non, _, _, h, e => by cases h; cases e; exact .non
  | .bl b, _, _, h, e => by cases h; cases e; exact .bl b
  | .int b, _, _, h, e => by cases h; cases e; exact .int b
  | .str b, _, _, h, e => by cases h; cases e; exact .str b
  | .lst ts, _, _, h, e => by
    cases h with
    | lst h1 h2 =>
      simp only [T.pd, Option.map_eq_some_iff] at e
      obtain ⟨ds, e, rfl⟩ := e
      exact .lst (SqL.of h1) (RTs.dp h2 e)
  | .tup ts, _, _, h, e => by
    cases h with
    | tup h1 h2 =>
      simp only [T.pd, Option.map_eq_some_iff] at e
      obtain ⟨ds, e, rfl⟩ := e
      exact .tup (SqT.of h1) (RTs.dp h2 e)
  | .dct ts, _, _, h, e => by simp [T.pd] at e
  | .ins c ts, _, _, h, e => by simp [T.pd] at e
  | .fn c, _, _, h, e => by simp [T.pd] at e
  | .scr ns, _, _, h, e => by simp [T.pd] at e
theorem RTs.dp : ∀ {ts : List T} {vs : List V} {ds : List PyData}, RTs G H vs ts → T.pds ts = some ds → DpAll G.K H vs ds
  | [], _, _, h, e => by cases h; cases e; exact .nil
  | t :: ts, _, _, h, e => by
    cases h with
    | cons h1 h2 =>
      unfold T.pds at e
      split at e
      · rename_i d ds e1 e2
        cases e
        exact .cons (RT.dp h1 e1) (RTs.dp h2 e2)
      · cases e
end
theorem look_ok {v : V} {d : D} {p : PyData} (rl : Rel G H W S) (r : RD G W v d) (e : look S d = some p) : Dp G.K H v p := by
  unfold look at e
  split at e
  · rename_i t S1 e1
    obtain ⟨W', r', x', q', _⟩ := frz_ok 9 rl r e1
    exact (q'.mono r'.sub).dp e
  · cases e
theorem bl_noEx (o : Option Bool) (S : Sto) : noEx (bl o S) := by cases o <;> exact True.intro
theorem bl_ok {o : Option Bool} (rl : Rel G H W S) (q : Aft G (fun W' v d => RD G W' v d) Wx H W Q (bl o S)) : ∃ b, o = some b ∧ Q (.bl b) H := by
  cases o with
  | none => exact q.elim
  | some b => exact ⟨b, rfl, q _ _ _ rl Ext.refl (.t (.bl b))⟩
theorem eqD_ok {x y : V} {dx dy : D} {b : Bool} (rl : Rel G H W S) (r1 : RD G W x dx) (r2 : RD G W y dy) (e : eqD dx dy S = some b) :
    ∃ d e, Dp G.K H x d ∧ Dp G.K H y e ∧ SeqAt.shaped d = true ∧ SeqAt.shaped e = true ∧ b = PyData.eqv d e := by
  unfold eqD at e
  split at e
  · rename_i p q e1 e2
    split at e
    · rename_i hs
      cases e
      rw [Bool.and_eq_true] at hs
      exact ⟨p, q, look_ok rl r1 e1, look_ok rl r2 e2, hs.1, hs.2, rfl⟩
    · cases e
  · cases e
theorem opr_eq (hK : X.K = G.K) (hu : X.A.units + 65 < cLine) : OpR X (compareOp .Eq) (rP2 G (pCmp .Eq)) := by
  refine opr_imp (op_eqD (by omega)) fun x y H Q ⟨W, S, dx, dy, rl, r1, r2, q⟩ => ?_
  obtain ⟨b, e, q⟩ := bl_ok rl q
  obtain ⟨d, f, h1, h2, h3, h4, rfl⟩ := eqD_ok rl r1 r2 e
  rw [← hK] at h1 h2
  exact ⟨d, f, h1, h2, h3, h4, q⟩
theorem opr_ne (hK : X.K = G.K) (hu : X.A.units + 65 < cLine) : OpR X (compareOp .NotEq) (rP2 G (pCmp .NotEq)) := by
  refine opr_imp (op_neD (by omega)) fun x y H Q ⟨W, S, dx, dy, rl, r1, r2, q⟩ => ?_
  obtain ⟨b, e, q⟩ := bl_ok rl q
  rw [Option.map_eq_some_iff] at e
  obtain ⟨b0, e, rfl⟩ := e
  obtain ⟨d, f, h1, h2, h3, h4, rfl⟩ := eqD_ok rl r1 r2 e
  rw [← hK] at h1 h2
  exact ⟨d, f, h1, h2, h3, h4, q⟩
theorem RD.isN_of {v : V} {d : D} (r : RD G W v d) : isN d = decide (v = .non) := by
  cases r with
  | t r => cases r <;> simp [isN]
  | ref h => simp [isN]
  | tup h1 h2 => simp [isN]
theorem opr_is : OpR X (compareOp .Is) (rP2 G (pCmp .Is)) := by
  refine opr_imp (op_isN.or op_isBl) fun x y H Q ⟨W, S, dx, dy, rl, r1, r2, q⟩ => ?_
  unfold pCmp at q
  simp only at q
  split at q
  · cases r2.non_of
    exact .inl ⟨rfl, by rw [← r1.isN_of]; exact q _ _ _ rl Ext.refl (.t (.bl _))⟩
  · split at q
    · cases r1.bl_of; cases r2.bl_of
      exact .inr ⟨_, _, rfl, rfl, q _ _ _ rl Ext.refl (.t (.bl _))⟩
    · exact q.elim
  · exact q.elim
theorem opr_isnot : OpR X (compareOp .IsNot) (rP2 G (pCmp .IsNot)) := by
  refine opr_imp (op_notN.or op_notBl) fun x y H Q ⟨W, S, dx, dy, rl, r1, r2, q⟩ => ?_
  unfold pCmp at q
  simp only at q
  split at q
  · cases r2.non_of
    exact .inl ⟨rfl, by rw [← r1.isN_of]; exact q _ _ _ rl Ext.refl (.t (.bl _))⟩
  · split at q
    · cases r1.bl_of; cases r2.bl_of
      exact .inr ⟨_, _, rfl, rfl, q _ _ _ rl Ext.refl (.t (.bl _))⟩
    · exact q.elim
  · exact q.elim
theorem opr_lt : OpR X (compareOp .Lt) (rP2 G (pCmp .Lt)) := by
  refine opr_imp (op_lt.or op_lt_str) fun x y H Q ⟨W, S, dx, dy, rl, r1, r2, q⟩ => ?_
  unfold pCmp at q
  simp only at q
  split at q
  · cases r1.int_of; cases r2.int_of
    exact .inl ⟨_, _, rfl, rfl, q _ _ _ rl Ext.refl (.t (.bl _))⟩
  · cases r1.str_of; cases r2.str_of
    exact .inr ⟨_, _, rfl, rfl, q _ _ _ rl Ext.refl (.t (.bl _))⟩
  · exact q.elim
theorem opr_le : OpR X (compareOp .LtE) (rP2 G (pCmp .LtE)) := by
  refine opr_imp (op_le.or op_le_str) fun x y H Q ⟨W, S, dx, dy, rl, r1, r2, q⟩ => ?_
  unfold pCmp at q
  simp only at q
  split at q
  · cases r1.int_of; cases r2.int_of
    exact .inl ⟨_, _, rfl, rfl, q _ _ _ rl Ext.refl (.t (.bl _))⟩
  · cases r1.str_of; cases r2.str_of
    exact .inr ⟨_, _, rfl, rfl, q _ _ _ rl Ext.refl (.t (.bl _))⟩
  · exact q.elim
theorem opr_gt : OpR X (compareOp .Gt) (rP2 G (pCmp .Gt)) := by
  refine opr_imp (op_gt.or op_gt_str) fun x y H Q ⟨W, S, dx, dy, rl, r1, r2, q⟩ => ?_
  unfold pCmp at q
  simp only at q
  split at q
  · cases r1.int_of; cases r2.int_of
    exact .inl ⟨_, _, rfl, rfl, q _ _ _ rl Ext.refl (.t (.bl _))⟩
  · cases r1.str_of; cases r2.str_of
    exact .inr ⟨_, _, rfl, rfl, q _ _ _ rl Ext.refl (.t (.bl _))⟩
  · exact q.elim
theorem opr_ge : OpR X (compareOp .GtE) (rP2 G (pCmp .GtE)) := by
  refine opr_imp (op_ge.or op_ge_str) fun x y H Q ⟨W, S, dx, dy, rl, r1, r2, q⟩ => ?_
  unfold pCmp at q
  simp only at q
  split at q
  · cases r1.int_of; cases r2.int_of
    exact .inl ⟨_, _, rfl, rfl, q _ _ _ rl Ext.refl (.t (.bl _))⟩
  · cases r1.str_of; cases r2.str_of
    exact .inr ⟨_, _, rfl, rfl, q _ _ _ rl Ext.refl (.t (.bl _))⟩
  · exact q.elim
/-! dicts -/
theorem dctOf_ok {v : V} {d : D} {ds : List (Ky × D)} (rl : Rel G H W S) (r : RD G W v d) (e : dctOf S d = some ds) :
    ∃ a kvs, v = .ref a ∧ H a = some (.dK kvs) ∧ kvs.map (·.1) = ds.map (·.1) ∧ RDs G W (kvs.map (·.2)) (ds.map (·.2)) := by
  unfold dctOf at e
  split at e
  · rename_i ts
    cases e
    cases r with
    | t r =>
      cases r with
      | dct h1 h3 h2 =>
        refine ⟨_, _, rfl, rl.sub _ _ h1, ?_, ?_⟩
        · simpa [Function.comp_def] using h3
        · have q := RDs.ofT h2
          simpa [Function.comp_def] using q
  · cases r with
    | ref h1 =>
      split at e
      · rename_i e1
        cases e
        have ro := rl.obj _ _ _ e1 h1
        cases ro with
        | dct h3 h5 h4 => exact ⟨_, _, rfl, h3, h5, h4⟩
      · cases e
  · cases e
theorem getK_ok : ∀ {kvs : List (Key × V)} {ds : List (Ky × D)} (k : Ky), kvs.map (·.1) = ds.map (·.1) → RDs G W (kvs.map (·.2)) (ds.map (·.2)) →
    (getK ds k = none ∧ valV kvs k = none) ∨ ∃ d v, getK ds k = some d ∧ valV kvs k = some v ∧ RD G W v d
  | [], [], k, _, _ => .inl ⟨rfl, rfl⟩
  | [], _ :: _, k, h, _ => by simp at h
  | _ :: _, [], k, h, _ => by simp at h
  | (a, v) :: kvs, (b, d) :: ds, k, h, r => by
    simp only [List.map_cons, List.cons.injEq] at h
    obtain ⟨rfl, h⟩ := h
    cases r with
    | cons r1 r2 =>
      by_cases e : a = k
      · exact .inr ⟨d, v, by simp [getK, e], by simp [valV, e], r1⟩
      · have ih := getK_ok k h r2
        have e1 : getK ((a, d) :: ds) k = getK ds k := by simp [getK, List.find?_cons, e]
        have e2 : valV ((a, v) :: kvs) k = valV kvs k := by simp [valV, List.find?_cons, e]
        rw [e1, e2]; exact ih
theorem kyOf_ok {v : V} {d : D} {k : Ky} (r : RD G W v d) (e : kyOf d = some k) : v = kV k := by
  unfold kyOf at e
  split at e
  · cases e; exact r.int_of
  · cases e; exact r.str_of
  · cases e
def rDIn (neg : Bool) : R2 := fun y x H Q => ∃ a o, x = .ref a ∧ DGet H a y o ∧ Q (.bl (if neg then !o.isSome else o.isSome)) H
theorem op_in_d (hu : X.A.units + 1 < cLine) : OpR X (compareOp .In) (rDIn false) := by
  intro pins s σ H y x v u Q I ry rx h
  obtain ⟨a, o, rfl, g, q⟩ := h
  obtain rfl : u = Value.ref a := rx
  exact d_in hu I g ry fun s3 I3 => ⟨.bl o.isSome, H, I3, rfl, q⟩
theorem op_notin_d (hu : X.A.units + 1 < cLine) : OpR X (compareOp .NotIn) (rDIn true) := by
  intro pins s σ H y x v u Q I ry rx h
  obtain ⟨a, o, rfl, g, q⟩ := h
  obtain rfl : u = Value.ref a := rx
  exact d_notIn hu I g ry fun s3 I3 => ⟨.bl (!o.isSome), H, I3, rfl, q⟩
theorem dp_flat {K : PySem.W.Frag} {v : V} {d : PyData} (h : Dp K H v d) (f : flatP d = true) : flatV v = true := by
  cases h with
  | lst _ _ => cases f
  | tup _ _ => cases f
  | _ => rfl
theorem dp_eqV {K : PySem.W.Frag} {x y : V} {d e : PyData} (h : Dp K H x d) (k : Dp K H y e) (f : flatP d = true) (g : flatP e = true) : L2.eqV x y = PyData.eqv d e := by
  cases h with
  | lst _ _ => cases f
  | tup _ _ => cases f
  | _ =>
    cases k with
    | lst _ _ => cases g
    | tup _ _ => cases g
    | _ => simp [L2.eqV, PyData.eqv]
theorem dpA_flat {K : PySem.W.Frag} {x : V} {d : PyData} (k : Dp K H x d) (g : flatP d = true) : ∀ {ds : List PyData} {vs : List V}, DpAll K H vs ds → ds.all flatP = true → vs.all flatV = true ∧ inV x vs = ds.any fun z => PyData.eqv z d
  | [], _, h, _ => by cases h; exact ⟨rfl, rfl⟩
  | e :: ds, _, h, f => by
    cases h with
    | cons h1 h2 =>
      rw [List.all_cons, Bool.and_eq_true] at f
      obtain ⟨i1, i2⟩ := dpA_flat k g h2 f.2
      refine ⟨?_, ?_⟩
      · rw [List.all_cons, dp_flat h1 f.1, i1]; rfl
      · unfold inV at i2 ⊢
        rw [List.any_cons, List.any_cons, i2, dp_eqV h1 k f.1 g]
theorem inD_ok {x y : V} {dx dy : D} {b : Bool} (rl : Rel G H W S) (r1 : RD G W x dx) (r2 : RD G W y dy) (e : inD dx dy S = some b) :
    (∃ i j, x = .str i ∧ y = .str j ∧ b = !(Builtin.Str.occurrences j i 0 j.length 1).isEmpty) ∨ (∃ a o, y = .ref a ∧ DGet H a x o ∧ b = o.isSome) ∨
    (∃ d ds, Dp G.K H x d ∧ Dp G.K H y (.list ds) ∧ SeqAt.shaped d = true ∧ SeqAt.shaped (.list ds) = true ∧ b = ds.any fun z => PyData.eqv z d) ∨
    (∃ p xs, y = .ref p ∧ SqT G.K H p xs ∧ flatV x = true ∧ xs.all flatV = true ∧ b = inV x xs) := by
  unfold inD at e
  split at e
  · split at e
    · cases e
      exact .inl ⟨_, _, r1.str_of, r2.str_of, rfl⟩
    · cases e
  · split at e
    · rename_i kvs e1
      split at e
      · rename_i k e2
        cases e
        obtain ⟨a, ks, rfl, h1, h2, h3⟩ := dctOf_ok rl r2 e1
        have hk := kyOf_ok r1 e2
        subst hk
        refine .inr (.inl ⟨a, valV ks k, rfl, DGet.k h1, ?_⟩)
        rcases getK_ok k h2 h3 with ⟨a1, a2⟩ | ⟨d, v, a1, a2, _⟩
        · rw [a1, a2]; rfl
        · rw [a1, a2]; rfl
      · cases e
    · split at e
      · rename_i d ds e1 e2
        split at e
        · rename_i hs
          cases e
          rw [Bool.and_eq_true] at hs
          exact .inr (.inr (.inl ⟨d, ds, look_ok rl r1 e1, look_ok rl r2 e2, hs.1, hs.2, rfl⟩))
        · cases e
      · rename_i d ds e1 e2
        split at e
        · rename_i hs
          cases e
          rw [Bool.and_eq_true] at hs
          have k1 := look_ok rl r1 e1
          have k2 := look_ok rl r2 e2
          cases k2 with
          | tup h1 h2 =>
            obtain ⟨i1, i2⟩ := dpA_flat k1 hs.1 h2 hs.2
            exact .inr (.inr (.inr ⟨_, _, rfl, h1, dp_flat k1 hs.1, i1, i2.symm⟩))
        · cases e
      · cases e
theorem opr_in (hK : X.K = G.K) (hu : X.A.units + 65 < cLine) : OpR X (compareOp .In) (rP2 G (pCmp .In)) := by
  refine opr_imp (op_in_str.or ((op_in_d (by omega)).or ((op_inD hu).or op_in_seq))) fun x y H Q ⟨W, S, dx, dy, rl, r1, r2, q⟩ => ?_
  obtain ⟨b, e, q⟩ := bl_ok rl q
  rcases inD_ok rl r1 r2 e with ⟨i, j, rfl, rfl, rfl⟩ | ⟨a, o, rfl, h, rfl⟩ | ⟨d, ds, h1, h2, h3, h4, rfl⟩ | ⟨p, xs, rfl, h1, h2, h3, rfl⟩
  · exact .inl ⟨i, j, rfl, rfl, q⟩
  · exact .inr (.inl ⟨a, o, rfl, h, q⟩)
  · rw [← hK] at h1 h2; exact .inr (.inr (.inl ⟨d, ds, h1, h2, h3, h4, q⟩))
  · rw [← hK] at h1; exact .inr (.inr (.inr ⟨p, xs, rfl, .inr h1, h2, h3, q⟩))
theorem opr_notin (hK : X.K = G.K) (hu : X.A.units + 65 < cLine) : OpR X (compareOp .NotIn) (rP2 G (pCmp .NotIn)) := by
  refine opr_imp (op_notin_str.or ((op_notin_d (by omega)).or ((op_notInD hu).or op_notIn_seq))) fun x y H Q ⟨W, S, dx, dy, rl, r1, r2, q⟩ => ?_
  obtain ⟨b, e, q⟩ := bl_ok rl q
  rw [Option.map_eq_some_iff] at e
  obtain ⟨b0, e, rfl⟩ := e
  rcases inD_ok rl r1 r2 e with ⟨i, j, rfl, rfl, rfl⟩ | ⟨a, o, rfl, h, rfl⟩ | ⟨d, ds, h1, h2, h3, h4, rfl⟩ | ⟨p, xs, rfl, h1, h2, h3, rfl⟩
  · exact .inl ⟨i, j, rfl, rfl, q⟩
  · exact .inr (.inl ⟨a, o, rfl, h, q⟩)
  · rw [← hK] at h1 h2; exact .inr (.inr (.inl ⟨d, ds, h1, h2, h3, h4, q⟩))
  · rw [← hK] at h1; exact .inr (.inr (.inr ⟨p, xs, rfl, .inr h1, h2, h3, q⟩))
theorem opr_cmp (hK : X.K = G.K) (hu : X.A.units + 65 < cLine) : ∀ op : CmpOp, OpR X (compareOp op) (rP2 G (pCmp op))
  | .Eq => opr_eq hK hu
  | .NotEq => opr_ne hK hu
  | .Lt => opr_lt
  | .LtE => opr_le
  | .Gt => opr_gt
  | .GtE => opr_ge
  | .Is => opr_is
  | .IsNot => opr_isnot
  | .In => opr_in hK hu
  | .NotIn => opr_notin hK hu
theorem pCmp_noEx (op : CmpOp) (x y : D) (S : Sto) : noEx (pCmp op x y S) := by
  unfold pCmp
  repeat' (first | exact True.intro | exact bl_noEx _ _ | split)
theorem pCmp_bl (op : CmpOp) (x y : D) (S : Sto) : (∃ b, pCmp op x y S = .ok (.t (.bl b)) S) ∨ pCmp op x y S = .no := by
  unfold pCmp bl
  repeat' (first | exact .inr rfl | exact .inl ⟨_, rfl⟩ | split)
end
end Wc

/-! Wc: subscripts, slices. -/
namespace Wc
open PySem PySem.Spec PyProof.Rows L2
section
variable {G : Gd} {X : Cx} {H : Hp} {W : Wd} {S : Sto} {Q : VK} {Wx : Value → Option Addr → Hp → Prop}
def rDIx : R2 := fun x y H Q => ∃ a v, x = .ref a ∧ DGet H a y (some v) ∧ Q v H
theorem ix_d (hu : X.A.units + 1 < cLine) : IxR X rDIx := by
  intro value slice pins s σ H x y v u Q I rx ry h hs
  obtain ⟨a, w0, rfl, g, q⟩ := h
  obtain rfl : v = Value.ref a := rx
  exact tail_any (dict_typeIs I g) slot_dict_getitem.lookup (d_getItem hu I g ry fun w' s3 I3 rw' => ⟨w0, H, I3, rw', q⟩) hs
theorem ixAt_atI {α : Type} (xs : List α) (i : Int) : ixAt xs i = atI xs i := by
  unfold ixAt atI ixN
  by_cases h : 0 ≤ i
  · rw [if_pos h, if_pos h]
    by_cases h2 : i < xs.length
    · rw [if_pos h2]; rfl
    · rw [if_neg h2]
      exact List.getElem?_eq_none (by omega)
  · rw [if_neg h, if_neg h]
    by_cases h2 : -(xs.length : Int) ≤ i
    · rw [if_pos h2, if_pos h2]; rfl
    · rw [if_neg h2, if_neg h2]; rfl
theorem RDs.atI {xs : List V} {ds : List D} {i : Int} {d : D} (h : RDs G W xs ds) (e : ixAt ds i = some d) : ∃ v, L2.atI xs i = some v ∧ RD G W v d := by
  have hl := h.length
  unfold ixAt at e
  rw [← ixAt_atI]
  unfold ixAt
  by_cases h0 : 0 ≤ i
  · rw [if_pos h0] at e ⊢
    exact h.get e
  · rw [if_neg h0] at e ⊢
    rw [hl]
    by_cases h1 : -(ds.length : Int) ≤ i
    · rw [if_pos h1] at e ⊢
      exact h.get e
    · rw [if_neg h1] at e; cases e
theorem opt_noEx (o : Option D) (S : Sto) : noEx (opt o S) := by cases o <;> exact True.intro
theorem opt_ok {o : Option D} (rl : Rel G H W S) (q : Aft G (fun W' v d => RD G W' v d) Wx H W Q (opt o S)) : ∃ d, o = some d ∧ ∀ v, RD G W v d → Q v H := by
  cases o with
  | none => exact q.elim
  | some d => exact ⟨d, rfl, fun v r => q v H W rl Ext.refl r⟩
theorem atI_map {α β : Type} (f : α → β) (xs : List α) (i : Int) : L2.atI (xs.map f) i = (L2.atI xs i).map f := by
  rw [← ixAt_atI, ← ixAt_atI]
  unfold ixAt
  simp only [List.length_map]
  split
  · simp
  · split
    · simp
    · rfl
theorem opr_ix (hK : X.K = G.K) (hu : X.A.units + 65 < cLine) : IxR X (rP2 G pIdx) := by
  have base := ((ix_d (X := X) (by omega)).or (ix_seq (X := X)))
  intro value slice pins s σ H x y v u Q I rx ry ⟨W, S, dx, dy, rl, r1, r2, q⟩ hs
  refine base value slice pins s σ H x y v u Q I rx ry ?_ hs
  unfold pIdx at q
  split at q
  · rename_i kvs e1
    split at q
    · rename_i k e2
      obtain ⟨d, e, q⟩ := opt_ok rl q
      obtain ⟨a, ks, rfl, h1, h2, h3⟩ := dctOf_ok rl r1 e1
      have hk := kyOf_ok r2 e2
      subst hk
      rcases getK_ok k h2 h3 with ⟨a1, a2⟩ | ⟨d', w, a1, a2, a3⟩
      · rw [a1] at e; cases e
      · rw [a1] at e; cases e
        refine .inl ⟨a, w, rfl, ?_, q w a3⟩
        rw [← a2]; exact DGet.k h1
    · exact q.elim
  · split at q
    · rename_i i
      cases r2.int_of
      split at q
      · rename_i z _
        cases r1.str_of
        split at q
        · rename_i hl
          obtain ⟨d, e, q⟩ := opt_ok rl q
          rw [Option.map_eq_some_iff] at e
          obtain ⟨c, e, rfl⟩ := e
          rw [ixAt_atI] at e
          exact .inr (.inr (.inr ⟨z, i, c, rfl, rfl, Nat.le_trans hl lim_le, e, q _ (.t (.str _))⟩))
        · exact q.elim
      · rename_i ns _
        obtain ⟨d, e, q⟩ := opt_ok rl q
        rw [Option.map_eq_some_iff] at e
        obtain ⟨n, e, rfl⟩ := e
        rw [ixAt_atI] at e
        cases r1 with
        | t r1 =>
          cases r1 with
          | scr h =>
            refine .inr (.inl ⟨_, _, i, .int n, rfl, rfl, by rw [hK]; exact rl.sub.seq h, ?_, q _ (.t (.int n))⟩)
            rw [atI_map, e]; rfl
      · split at q
        · rename_i xs e1
          obtain ⟨d, e, q⟩ := opt_ok rl q
          obtain ⟨a, vs, rfl, h1, h2⟩ := seqOf_ok rl r1 e1
          obtain ⟨w, e3, r3⟩ := h2.atI e
          rcases h1 with h1 | h1
          · exact .inr (.inl ⟨a, vs, i, w, rfl, rfl, SqL.of h1, e3, q w r3⟩)
          · exact .inr (.inr (.inl ⟨a, vs, i, w, rfl, rfl, SqT.of h1, e3, q w r3⟩))
        · exact q.elim
    · exact q.elim
theorem pIdx_noEx (x y : D) (S : Sto) : noEx (pIdx x y S) := by
  unfold pIdx
  repeat' (first | exact True.intro | exact opt_noEx _ _ | split)
theorem sIx_eq (n d : Nat) (o : Option Int) : sIx n d o = HT.sIx n d o := by
  cases o with
  | none => rfl
  | some v => first | rfl | (unfold sIx HT.sIx; split <;> omega)
theorem cut_cutV (xs : List V) (lo hi : Option Int) : cut xs lo hi = cutV xs lo hi := by unfold cut cutV; rw [sIx_eq, sIx_eq]
theorem RDs.drop : ∀ {ds : List D} {vs : List V} (n : Nat), RDs G W vs ds → RDs G W (vs.drop n) (ds.drop n)
  | _, _, 0, h => h
  | [], _, n + 1, h => by cases h; exact .nil
  | d :: ds, _, n + 1, h => by cases h with | cons h1 h2 => exact RDs.drop n h2
theorem RDs.take : ∀ {ds : List D} {vs : List V} (n : Nat), RDs G W vs ds → RDs G W (vs.take n) (ds.take n)
  | _, _, 0, h => .nil
  | [], _, n + 1, h => by cases h; exact .nil
  | d :: ds, _, n + 1, h => by cases h with | cons h1 h2 => exact .cons h1 (RDs.take n h2)
theorem RDs.cut {ds : List D} {vs : List V} (h : RDs G W vs ds) (lo hi : Option Int) : RDs G W (Wc.cut vs lo hi) (Wc.cut ds lo hi) := by
  unfold Wc.cut
  rw [h.length]
  exact (h.drop _).take _
theorem RTs.ints : ∀ ns : List Int, RTs G H (ns.map V.int) (ns.map T.int)
  | [] => .nil
  | n :: ns => .cons (.int n) (RTs.ints ns)
def rSl (G : Gd) : V → Option Int → Option Int → Hp → VK → Prop := fun x lo hi H Q => ∃ W S dx, Rel G H W S ∧ RD G W x dx ∧ Aft G (fun W' v d => RD G W' v d) (fun _ _ _ => False) H W Q (pSl dx lo hi S)
theorem pSl_noEx (x : D) (lo hi : Option Int) (S : Sto) : noEx (pSl x lo hi S) := by
  unfold pSl
  repeat' (first | exact True.intro | exact mkL_noEx _ _ _ | split)
theorem slr_sl (hK : X.K = G.K) : SlR X (rSl G) := by
  have base := (sl_str (X := X)).or (sl_list (X := X))
  intro pins s σ H x v vl vu lo hi sl Q I rx hs pl pu ⟨W, S, dx, rl, r1, q⟩
  refine base pins s σ H x v vl vu lo hi sl Q I rx hs pl pu ?_
  unfold pSl at q
  split at q
  · rename_i z
    cases r1.str_of
    split at q
    · rename_i hl
      refine .inl ⟨z, rfl, Nat.le_trans hl lim_le, ?_⟩
      have e : cutS z lo hi = ⟨(Wc.cut z.cps.toList lo hi).toArray⟩ := by
        unfold cutS Wc.cut
        have hz : z.cps.toList.length = z.length := by simp [Str.length]
        rw [hz, sIx_eq, sIx_eq]
      rw [e]
      exact q _ _ _ rl Ext.refl (.t (.str _))
    · exact q.elim
  · rename_i ns
    cases r1 with
    | t r1 =>
      cases r1 with
      | scr h =>
        refine .inr ⟨_, _, rfl, by rw [hK]; exact rl.sub.seq h, fun p hp => ?_⟩
        rw [← cut_cutV]
        have e : Wc.cut (ns.map V.int) lo hi = (Wc.cut ns lo hi).map V.int := by
          unfold Wc.cut
          rw [List.length_map, List.map_take, List.map_drop]
        rw [e]
        obtain ⟨r2, x2⟩ := rl.new (o := .lst ((Wc.cut ns lo hi).map V.int)) hp
        exact q _ _ _ r2 x2 (.t (.lst upd_same (RTs.ints _)))
  · split at q
    · rename_i xs e1
      obtain ⟨a, vs, rfl, h1, h2⟩ := asList_ok rl r1 e1
      refine .inr ⟨a, vs, rfl, SqL.of h1, ?_⟩
      rw [← cut_cutV]
      exact mkL_ok rl (h2.cut lo hi) q
    · exact q.elim
end
end Wc

/-! Wc: the expressions. -/
namespace Wc
open PySem PySem.Spec PyProof.Rows L2
section
variable {G : Gd} {X : Cx} {B : Tb} {C : Cal} {Wx : WX} {a b c d : Expr} {ia ib ic id' : IE} {pos : Pos}
abbrev PEv (G : Gd) (X : Cx) (B : Tb) (C : Cal) (Wx : WX) (e : Expr) (ie : IE) : Prop := PE X e (tE G (evE B C ie) Wx)
abbrev PTv (G : Gd) (X : Cx) (B : Tb) (C : Cal) (Wx : WX) (e : Expr) (ie : IE) : Prop := PT X e (tTest (tE G (evE B C ie) Wx))
abbrev PWv (G : Gd) (X : Cx) (B : Tb) (C : Cal) (Wx : WX) (e : Expr) (ie : IE) : Prop := PW X e (tTest (tE G (evE B C ie) Wx))
abbrev PAv (G : Gd) (X : Cx) (B : Tb) (C : Cal) (Wx : WX) (es : List Expr) (ies : IEs) : Prop := PA X es (tA G (evEs B C ies) Wx)

/-- from a state: first one expression, then what follows -/
theorem tE_at {eva : Ev → Sto → R D} {f : D → Sto → R D} {σ : L2.St} {H : Hp} {W : Wd} {ρ : Ev} {S : Sto} {Q : VK} (rl : Rel G H W S) (en : REn G W σ ρ)
    (q : Aft G (fun W' v d => RD G W' v d) (fun cls dx H' => Wx cls dx σ H') H W Q ((eva ρ S).bind f)) :
    tE G eva Wx σ H (fun v H1 => ∃ d S1 W1, Rel G H1 W1 S1 ∧ Ext H W H1 W1 ∧ REn G W1 σ ρ ∧ RD G W1 v d ∧ Aft G (fun W' v d => RD G W' v d) (fun cls dx H' => Wx cls dx σ H') H1 W1 Q (f d S1)) :=
  ⟨W, ρ, S, rl, en, (Aft.bind (rel := fun W' v d => RD G W' v d) q).imp (fun v H1 ⟨d, S1, W1, r1, x1, q1, a1⟩ => ⟨d, S1, W1, r1, x1, en.mono x1, q1, a1⟩) fun _ _ _ z => z⟩
theorem tA_at {eva : Ev → Sto → R (List D)} {f : List D → Sto → R D} {σ : L2.St} {H : Hp} {W : Wd} {ρ : Ev} {S : Sto} {Q : VK} (rl : Rel G H W S) (en : REn G W σ ρ)
    (q : Aft G (fun W' v d => RD G W' v d) (fun cls dx H' => Wx cls dx σ H') H W Q ((eva ρ S).bind f)) :
    tA G eva Wx σ H (fun v H1 => ∃ d S1 W1, Rel G H1 W1 S1 ∧ Ext H W H1 W1 ∧ REn G W1 σ ρ ∧ RDs G W1 v d ∧ Aft G (fun W' v d => RD G W' v d) (fun cls dx H' => Wx cls dx σ H') H1 W1 Q (f d S1)) :=
  ⟨W, ρ, S, rl, en, (Aft.bind (rel := fun W' v d => RDs G W' v d) q).imp (fun v H1 ⟨d, S1, W1, r1, x1, q1, a1⟩ => ⟨d, S1, W1, r1, x1, en.mono x1, q1, a1⟩) fun _ _ _ z => z⟩
theorem tE_imp {ev : Ev → Sto → R D} {σ : L2.St} {H : Hp} {Q Q' : VK} (h : tE G ev Wx σ H Q) (k : ∀ v H', Q v H' → Q' v H') : tE G ev Wx σ H Q' := by
  obtain ⟨W, ρ, S, rl, en, q⟩ := h
  exact ⟨W, ρ, S, rl, en, q.imp k fun _ _ _ z => z⟩

theorem evE_bin {m op} : evE B C (.bin m op ia ib) = fun ρ S => (evE B C ia ρ S).bind fun x S1 => (evE B C ib ρ S1).bind fun y S2 => pBin m op x y S2 := rfl
theorem evE_neg : evE B C (.neg ia) = fun ρ S => (evE B C ia ρ S).bind fun x S1 => match x with
    | .t (.int i) => .ok (.t (.int (-i))) S1
    | _ => .no := rfl
theorem evE_cmp {op} : evE B C (.cmp op ia ib) = fun ρ S => (evE B C ia ρ S).bind fun x S1 => (evE B C ib ρ S1).bind fun y S2 => pCmp op x y S2 := rfl
theorem sE_bin {m : Bool} {op : Operator} (ha : PEv G X B C Wx a ia) (hb : PEv G X B C Wx b ib) : PEv G X B C Wx (.BinOp a op b pos) (.bin m op ia ib) :=
  pe_imp (pe_op (opr_bin (m := m) op) ha hb) fun σ H Q h => tE_op (fun _ _ _ => pBin_noEx _ _ _ _ _) (fun _ _ _ _ z => z) (by rw [evE_bin] at h; exact h)
theorem sE_neg (ha : PEv G X B C Wx a ia) : PEv G X B C Wx (.UnaryOp .USub a pos) (.neg ia) :=
  pe_imp (pe_un un_neg ha) fun σ H Q ⟨W, ρ, S, rl, en, q⟩ => by
    refine tE_imp (tE_at rl en q) fun v H1 ⟨d, S1, W1, r1, x1, e1, k1, a1⟩ => ?_
    split at a1
    · cases k1.int_of
      exact ⟨_, rfl, a1 _ _ _ r1 Ext.refl (.t (.int _))⟩
    · exact a1.elim
theorem sE_cmp {op : CmpOp} (hK : X.K = G.K) (hu : X.A.units + 65 < cLine) (ha : PEv G X B C Wx a ia) (hb : PEv G X B C Wx b ib) (hm : behindInMarks op b = false) : PEv G X B C Wx (.Compare a [op] [b] pos) (.cmp op ia ib) :=
  pe_imp (pe_cmpR (opr_cmp hK hu op) ha hb hm) fun σ H Q h => tE_op (fun _ _ _ => pCmp_noEx _ _ _ _) (fun _ _ _ _ z => z) (by rw [evE_cmp] at h; exact h)
theorem sT_cmp {op : CmpOp} (hK : X.K = G.K) (hu : X.A.units + 65 < cLine) (ha : PEv G X B C Wx a ia) (hb : PEv G X B C Wx b ib) (hm : behindInMarks op b = false) : PTv G X B C Wx (.Compare a [op] [b] pos) (.cmp op ia ib) :=
  pt_imp (pt_cmpR (opr_cmp hK hu op) ha hb hm) fun σ H Q h => tE_op (fun _ _ _ => pCmp_noEx _ _ _ _) (fun _ _ _ _ z => z) (by unfold tTest at h; rw [evE_cmp] at h; exact h)
theorem Aft.move {α β : Type} {rel : Wd → β → α → Prop} {Wz : Value → Option Addr → Hp → Prop} {H H1 : Hp} {W W1 : Wd} {Q : β → Hp → Prop} {r : R α} (h : Aft G rel Wz H W Q r) (x : Ext H W H1 W1) : Aft G rel Wz H1 W1 Q r := by
  cases r with
  | ok d S1 => exact fun v H2 W2 r2 x2 q2 => h v H2 W2 r2 (x.trans x2) q2
  | ex c fs S1 => exact fun cls dx H2 W2 r2 x2 q2 => h cls dx H2 W2 r2 (x.trans x2) q2
  | no => exact h
theorem rP2_at {p : D → D → Sto → R D} {x y : D} {S : Sto} {vx vy : V} {H : Hp} {W : Wd} {Q : VK} {f : D → Sto → R D} {Wz : Value → Option Addr → Hp → Prop} (rl : Rel G H W S) (kx : RD G W vx x) (ky : RD G W vy y) (hp : noEx (p x y S))
    (q : Aft G (fun W' v d => RD G W' v d) Wz H W Q ((p x y S).bind f)) : rP2 G p vx vy H (fun z H3 => ∃ d S3 W3, Rel G H3 W3 S3 ∧ Ext H W H3 W3 ∧ RD G W3 z d ∧ p x y S = .ok d S3 ∧ Aft G (fun W' v d => RD G W' v d) Wz H3 W3 Q (f d S3)) := by
  refine ⟨W, S, x, y, rl, kx, ky, ?_⟩
  cases e : p x y S with
  | ok d S3 =>
    rw [e] at q
    exact fun z H3 W3 r3 x3 k3 => ⟨d, S3, W3, r3, x3, k3, rfl, Aft.move q x3⟩
  | ex c fs S3 => rw [e] at hp; exact hp.elim
  | no => rw [e] at q; exact q
theorem tE_chain {o1 o2 : CmpOp} {σ : L2.St} {H : Hp} {Q : VK} (h : tE G (evE B C (.ch2 o1 o2 ia ib ic)) Wx σ H Q) :
    tChain (rP2 G (pCmp o1)) (rP2 G (pCmp o2)) (tE G (evE B C ia) Wx) (tE G (evE B C ib) Wx) (tE G (evE B C ic) Wx) σ H Q := by
  obtain ⟨W, ρ, S, rl, en, q⟩ := h
  refine tE_imp (tE_at rl en q) fun x H1 ⟨dx, S1, W1, r1, x1, e1, k1, a1⟩ => ?_
  refine tE_imp (tE_at r1 e1 a1) fun y H2 ⟨dy, S2, W2, r2, x2, e2, k2, a2⟩ => ?_
  obtain ⟨W', S', dx', dy', rl', kx, ky, q'⟩ := rP2_at r2 (k1.mono x2) k2 (pCmp_noEx _ _ _ _) a2
  refine ⟨W', S', dx', dy', rl', kx, ky, q'.imp (fun z H3 ⟨dk, S3, W3, r3, x3, k3, e3, a3⟩ => ?_) fun _ _ _ z => z⟩
  rcases pCmp_bl o1 dx dy S2 with ⟨b, e⟩ | e
  · rw [e] at e3; cases e3
    cases k3.bl_of
    refine ⟨b, rfl, ?_⟩
    cases b with
    | true =>
      rw [if_pos rfl]
      refine tE_imp (tE_at r3 (e2.mono x3) a3) fun w H4 ⟨dw, S4, W4, r4, x4, e4, k4, a4⟩ => ?_
      exact ⟨W4, S4, _, _, r4, (k2.mono x3).mono x4, k4, a4.noEx (pCmp_noEx _ _ _ _)⟩
    | false =>
      rw [if_neg (by simp)]
      exact a3 _ _ _ r3 Ext.refl (.t (.bl _))
  · rw [e] at e3; cases e3
theorem sE_ch2 {o1 o2 : CmpOp} (hK : X.K = G.K) (hu : X.A.units + 65 < cLine) (ha : PEv G X B C Wx a ia) (hb : PEv G X B C Wx b ib) (hc : PEv G X B C Wx c ic) (hm : lastMarks [o1, o2] [b, c] = false) : PEv G X B C Wx (.Compare a [o1, o2] [b, c] pos) (.ch2 o1 o2 ia ib ic) :=
  pe_imp (pe_chain (opr_cmp hK hu o1) (opr_cmp hK hu o2) ha hb hc hm) fun σ H Q h => tE_chain h
theorem sT_ch2 {o1 o2 : CmpOp} (hK : X.K = G.K) (hu : X.A.units + 65 < cLine) (ha : PEv G X B C Wx a ia) (hb : PEv G X B C Wx b ib) (hc : PEv G X B C Wx c ic) (hm : lastMarks [o1, o2] [b, c] = false) : PTv G X B C Wx (.Compare a [o1, o2] [b, c] pos) (.ch2 o1 o2 ia ib ic) :=
  pt_imp (pt_chain (opr_cmp hK hu o1) (opr_cmp hK hu o2) ha hb hc hm) fun σ H Q h => tE_chain h
/-- three comparisons in a row -/
def tChain3 (r r' r3 : R2) (ta tb tc td : TE) : TE := fun σ H Q => ta σ H fun x H1 => tb σ H1 fun y H2 => r x y H2 fun z H3 => ∃ k, z = .bl k ∧
  (if k = true then tc σ H3 fun w' H4 => r' y w' H4 fun z' H5 => ∃ k', z' = .bl k' ∧ (if k' = true then td σ H5 fun u H6 => r3 w' u H6 Q else Q (.bl false) H5) else Q (.bl false) H3)
theorem pe_chain3 {op op' op3 : CmpOp} {r r' r3 : R2} {ta tb tc td : TE} (ho : OpR X (compareOp op) r) (ho' : OpR X (compareOp op') r') (ho3 : OpR X (compareOp op3) r3) (ha : PE X a ta) (hb : PE X b tb) (hc : PE X c tc) (hd : PE X d td)
    (hm : lastMarks [op, op', op3] [b, c, d] = false) : PE X (.Compare a [op, op', op3] [b, c, d] pos) (tChain3 r r' r3 ta tb tc td) := by
  refine ⟨fun pins s σ H Q I h => ?_⟩
  refine Compare_chain (thn (ha.run pins s σ H _ I h) fun v s1 ⟨x, H1, I1, r1, q1⟩ => chain_link (thn (hb.run pins s1 σ H1 _ I1 q1) fun u s2 ⟨y, H2, I2, r2, q2⟩ =>
    thn (ho pins s2 σ H2 x y v u _ I2 r1 r2 q2) fun d s3 ⟨z, H3, I3, r3, k, e, q3⟩ => ?_)) hm
  subst e
  cases r3
  refine wpAny_truthy_bool ?_
  cases k with
  | false => exact ite_ff ⟨.bl false, H3, I3, rfl, q3⟩
  | true =>
    refine ite_tt (chain_link (thn (hc.run pins s3 σ H3 _ I3 q3) fun w' s4 ⟨z', H4, I4, r4, q4⟩ => thn (ho' pins s4 σ H4 y z' u w' _ I4 r2 r4 q4) fun d s5 ⟨z5, H5, I5, r5, k, e, q5⟩ => ?_))
    subst e
    cases r5
    refine wpAny_truthy_bool ?_
    cases k with
    | false => exact ite_ff ⟨.bl false, H5, I5, rfl, q5⟩
    | true => exact ite_tt (chain_last (thn (hd.run pins s5 σ H5 _ I5 q5) fun u6 s6 ⟨z6, H6, I6, r6, q6⟩ => ho3 pins s6 σ H6 z' z6 w' u6 Q I6 r4 r6 q6))
theorem pt_chain3 {op op' op3 : CmpOp} {r r' r3 : R2} {ta tb tc td : TE} (ho : OpR X (compareOp op) r) (ho' : OpR X (compareOp op') r') (ho3 : OpR X (compareOp op3) r3) (ha : PE X a ta) (hb : PE X b tb) (hc : PE X c tc) (hd : PE X d td)
    (hm : lastMarks [op, op', op3] [b, c, d] = false) : PT X (.Compare a [op, op', op3] [b, c, d] pos) (tTest (tChain3 r r' r3 ta tb tc td)) := by
  refine ⟨fun pins s σ H Q I h => ?_⟩
  refine isTrue_chain (thn (ha.run pins s σ H _ I h) fun v s1 ⟨x, H1, I1, r1, q1⟩ => test_link (thn (hb.run pins s1 σ H1 _ I1 q1) fun u s2 ⟨y, H2, I2, r2, q2⟩ =>
    thn (ho pins s2 σ H2 x y v u _ I2 r1 r2 q2) fun d s3 ⟨z, H3, I3, r3, k, e, q3⟩ => ?_)) hm
  subst e
  cases r3
  refine wpAny_truthy_bool ?_
  cases k with
  | false =>
    obtain ⟨k', e', q'⟩ := q3
    cases e'
    exact ite_ff ⟨H3, I3, q'⟩
  | true =>
    refine ite_tt (test_link (thn (hc.run pins s3 σ H3 _ I3 q3) fun w' s4 ⟨z', H4, I4, r4, q4⟩ => thn (ho' pins s4 σ H4 y z' u w' _ I4 r2 r4 q4) fun d s5 ⟨z5, H5, I5, r5, k, e, q5⟩ => ?_))
    subst e
    cases r5
    refine wpAny_truthy_bool ?_
    cases k with
    | false =>
      obtain ⟨k', e', q'⟩ := q5
      cases e'
      exact ite_ff ⟨H5, I5, q'⟩
    | true =>
      refine ite_tt (test_last (thn (hd.run pins s5 σ H5 _ I5 q5) fun u6 s6 ⟨z6, H6, I6, r6, q6⟩ => thn (ho3 pins s6 σ H6 z' z6 w' u6 _ I6 r4 r6 q6) fun d7 s7 ⟨z7, H7, I7, r7, k7, e7, q7⟩ => ?_))
      subst e7
      cases r7
      exact wpAny_truthy_bool ⟨H7, I7, q7⟩
theorem tE_chain3 {o1 o2 o3 : CmpOp} {σ : L2.St} {H : Hp} {Q : VK} (h : tE G (evE B C (.ch3 o1 o2 o3 ia ib ic id')) Wx σ H Q) :
    tChain3 (rP2 G (pCmp o1)) (rP2 G (pCmp o2)) (rP2 G (pCmp o3)) (tE G (evE B C ia) Wx) (tE G (evE B C ib) Wx) (tE G (evE B C ic) Wx) (tE G (evE B C id') Wx) σ H Q := by
  obtain ⟨W, ρ, S, rl, en, q⟩ := h
  refine tE_imp (tE_at rl en q) fun x H1 ⟨dx, S1, W1, r1, x1, e1, k1, a1⟩ => ?_
  refine tE_imp (tE_at r1 e1 a1) fun y H2 ⟨dy, S2, W2, r2, x2, e2, k2, a2⟩ => ?_
  obtain ⟨W', S', dx', dy', rl', kx, ky, q'⟩ := rP2_at r2 (k1.mono x2) k2 (pCmp_noEx _ _ _ _) a2
  refine ⟨W', S', dx', dy', rl', kx, ky, q'.imp (fun z H3 ⟨dk, S3, W3, r3, x3, k3, e3, a3⟩ => ?_) fun _ _ _ z => z⟩
  rcases pCmp_bl o1 dx dy S2 with ⟨b, e⟩ | e
  · rw [e] at e3; cases e3
    cases k3.bl_of
    refine ⟨b, rfl, ?_⟩
    cases b with
    | true =>
      rw [if_pos rfl]
      refine tE_imp (tE_at r3 (e2.mono x3) a3) fun w H4 ⟨dw, S4, W4, r4, x4, e4, k4, a4⟩ => ?_
      obtain ⟨W'', S'', dx'', dy'', rl'', kx, ky, q''⟩ := rP2_at r4 ((k2.mono x3).mono x4) k4 (pCmp_noEx _ _ _ _) a4
      refine ⟨W'', S'', dx'', dy'', rl'', kx, ky, q''.imp (fun z H5 ⟨dk, S5, W5, r5, x5, k5, e5, a5⟩ => ?_) fun _ _ _ z => z⟩
      rcases pCmp_bl o2 dy dw S4 with ⟨b, e⟩ | e
      · rw [e] at e5; cases e5
        cases k5.bl_of
        refine ⟨b, rfl, ?_⟩
        cases b with
        | true =>
          rw [if_pos rfl]
          refine tE_imp (tE_at r5 (e4.mono x5) a5) fun w H6 ⟨dw, S6, W6, r6, x6, e6, k6, a6⟩ => ?_
          exact ⟨W6, S6, _, _, r6, (k4.mono x5).mono x6, k6, a6.noEx (pCmp_noEx _ _ _ _)⟩
        | false =>
          rw [if_neg (by simp)]
          exact a5 _ _ _ r5 Ext.refl (.t (.bl _))
      · rw [e] at e5; cases e5
    | false =>
      rw [if_neg (by simp)]
      exact a3 _ _ _ r3 Ext.refl (.t (.bl _))
  · rw [e] at e3; cases e3
theorem sE_ch3 {o1 o2 o3 : CmpOp} (hK : X.K = G.K) (hu : X.A.units + 65 < cLine) (ha : PEv G X B C Wx a ia) (hb : PEv G X B C Wx b ib) (hc : PEv G X B C Wx c ic) (hd : PEv G X B C Wx d id') (hm : lastMarks [o1, o2, o3] [b, c, d] = false) :
    PEv G X B C Wx (.Compare a [o1, o2, o3] [b, c, d] pos) (.ch3 o1 o2 o3 ia ib ic id') :=
  pe_imp (pe_chain3 (opr_cmp hK hu o1) (opr_cmp hK hu o2) (opr_cmp hK hu o3) ha hb hc hd hm) fun σ H Q h => tE_chain3 h
theorem sT_ch3 {o1 o2 o3 : CmpOp} (hK : X.K = G.K) (hu : X.A.units + 65 < cLine) (ha : PEv G X B C Wx a ia) (hb : PEv G X B C Wx b ib) (hc : PEv G X B C Wx c ic) (hd : PEv G X B C Wx d id') (hm : lastMarks [o1, o2, o3] [b, c, d] = false) :
    PTv G X B C Wx (.Compare a [o1, o2, o3] [b, c, d] pos) (.ch3 o1 o2 o3 ia ib ic id') :=
  pt_imp (pt_chain3 (opr_cmp hK hu o1) (opr_cmp hK hu o2) (opr_cmp hK hu o3) ha hb hc hd hm) fun σ H Q h => tE_chain3 h
/-! and, or, not, if -/
theorem RD.bl_case {W : Wd} {v : V} {d : D} {H : Hp} {Q : VK} {f : D → Sto → R D} (k : RD G W v d) : (∃ b, d = .t (.bl b) ∧ v = .bl b) ∨ ∀ b, d ≠ .t (.bl b) := by
  cases d with
  | t x =>
    cases x with
    | bl b => exact .inl ⟨b, rfl, k.bl_of⟩
    | _ => exact .inr fun b e => by cases e
  | _ => exact .inr fun b e => by cases e
theorem tE_and {σ : L2.St} {H : Hp} {Q : VK} (h : tE G (evE B C (.and ia ib)) Wx σ H Q) : tE G (evE B C ia) Wx σ H fun x H1 => ∃ c, x = .bl c ∧ if c = true then tE G (evE B C ib) Wx σ H1 Q else Q (.bl false) H1 := by
  obtain ⟨W, ρ, S, rl, en, q⟩ := h
  refine tE_imp (tE_at rl en q) fun x H1 ⟨dx, S1, W1, r1, x1, e1, k1, a1⟩ => ?_
  split at a1
  · cases k1.bl_of
    exact ⟨true, rfl, by rw [if_pos rfl]; exact ⟨W1, ρ, S1, r1, e1, a1⟩⟩
  · cases k1.bl_of
    exact ⟨false, rfl, by rw [if_neg (by simp)]; exact a1 _ _ _ r1 Ext.refl (.t (.bl _))⟩
  · exact a1.elim
theorem tE_or {σ : L2.St} {H : Hp} {Q : VK} (h : tE G (evE B C (.or ia ib)) Wx σ H Q) : tE G (evE B C ia) Wx σ H fun x H1 => ∃ c, x = .bl c ∧ if c = true then Q (.bl true) H1 else tE G (evE B C ib) Wx σ H1 Q := by
  obtain ⟨W, ρ, S, rl, en, q⟩ := h
  refine tE_imp (tE_at rl en q) fun x H1 ⟨dx, S1, W1, r1, x1, e1, k1, a1⟩ => ?_
  split at a1
  · cases k1.bl_of
    exact ⟨true, rfl, by rw [if_pos rfl]; exact a1 _ _ _ r1 Ext.refl (.t (.bl _))⟩
  · cases k1.bl_of
    exact ⟨false, rfl, by rw [if_neg (by simp)]; exact ⟨W1, ρ, S1, r1, e1, a1⟩⟩
  · exact a1.elim
theorem tE_not {σ : L2.St} {H : Hp} {Q : VK} (h : tE G (evE B C (.not ia)) Wx σ H Q) : tE G (evE B C ia) Wx σ H fun x H1 => ∃ c, x = .bl c ∧ Q (.bl (!c)) H1 := by
  obtain ⟨W, ρ, S, rl, en, q⟩ := h
  refine tE_imp (tE_at rl en q) fun x H1 ⟨dx, S1, W1, r1, x1, e1, k1, a1⟩ => ?_
  split at a1
  · cases k1.bl_of
    exact ⟨_, rfl, a1 _ _ _ r1 Ext.refl (.t (.bl _))⟩
  · exact a1.elim
theorem tE_ite {σ : L2.St} {H : Hp} {Q : VK} (h : tE G (evE B C (.ite ic ia ib)) Wx σ H Q) : tE G (evE B C ic) Wx σ H fun x H1 => ∃ c, x = .bl c ∧ if c = true then tE G (evE B C ia) Wx σ H1 Q else tE G (evE B C ib) Wx σ H1 Q := by
  obtain ⟨W, ρ, S, rl, en, q⟩ := h
  refine tE_imp (tE_at rl en q) fun x H1 ⟨dx, S1, W1, r1, x1, e1, k1, a1⟩ => ?_
  split at a1
  · cases k1.bl_of
    exact ⟨true, rfl, by rw [if_pos rfl]; exact ⟨W1, ρ, S1, r1, e1, a1⟩⟩
  · cases k1.bl_of
    exact ⟨false, rfl, by rw [if_neg (by simp)]; exact ⟨W1, ρ, S1, r1, e1, a1⟩⟩
  · exact a1.elim
theorem sE_and {rest : List Expr} (ha : PEv G X B C Wx a ia) (hb : PEv G X B C Wx (.BoolOp .And (b :: rest) pos) ib) : PEv G X B C Wx (.BoolOp .And (a :: b :: rest) pos) (.and ia ib) := pe_imp (pe_and ha hb) fun σ H Q h => tE_and h
theorem sE_or {rest : List Expr} (ha : PEv G X B C Wx a ia) (hb : PEv G X B C Wx (.BoolOp .Or (b :: rest) pos) ib) : PEv G X B C Wx (.BoolOp .Or (a :: b :: rest) pos) (.or ia ib) := pe_imp (pe_or ha hb) fun σ H Q h => tE_or h
theorem sE_not (ha : PEv G X B C Wx a ia) : PEv G X B C Wx (.UnaryOp .Not a pos) (.not ia) := pe_imp (pe_not ha) fun σ H Q h => tE_not h
theorem sT_not (ha : PTv G X B C Wx a ia) : PTv G X B C Wx (.UnaryOp .Not a pos) (.not ia) := pt_imp (pt_not ha) fun σ H Q h => by
  refine tE_imp (tE_not h) fun x H1 ⟨c, e, k, e2, q⟩ => ⟨c, e, ?_⟩
  cases e2; exact q
theorem sW_and {rest : List Expr} (ha : PTv G X B C Wx a ia) (hb : PWv G X B C Wx (.BoolOp .And (b :: rest) pos) ib) : PWv G X B C Wx (.BoolOp .And (a :: b :: rest) pos) (.and ia ib) := pw_imp (pw_and ha hb) fun σ H Q h => by
  refine tE_imp (tE_and h) fun x H1 ⟨c, e, q⟩ => ⟨c, e, ?_⟩
  cases c with
  | true => rw [if_pos rfl] at q ⊢; exact q
  | false => rw [if_neg (by simp)] at q ⊢; obtain ⟨k, e, q⟩ := q; cases e; exact q
theorem sW_or {rest : List Expr} (ha : PTv G X B C Wx a ia) (hb : PWv G X B C Wx (.BoolOp .Or (b :: rest) pos) ib) : PWv G X B C Wx (.BoolOp .Or (a :: b :: rest) pos) (.or ia ib) := pw_imp (pw_or ha hb) fun σ H Q h => by
  refine tE_imp (tE_or h) fun x H1 ⟨c, e, q⟩ => ⟨c, e, ?_⟩
  cases c with
  | true => rw [if_pos rfl] at q ⊢; obtain ⟨k, e, q⟩ := q; cases e; exact q
  | false => rw [if_neg (by simp)] at q ⊢; exact q
theorem sE_ite (hc : PTv G X B C Wx c ic) (ha : PEv G X B C Wx a ia) (hb : PEv G X B C Wx b ib) : PEv G X B C Wx (.IfExp c a b pos) (.ite ic ia ib) := pe_imp (pe_ifExp hc ha hb) fun σ H Q h => by
  refine tE_imp (tE_ite h) fun x H1 ⟨c, e, q⟩ => ⟨c, e, q⟩
theorem sT_ite (hc : PTv G X B C Wx c ic) (ha : PTv G X B C Wx a ia) (hb : PTv G X B C Wx b ib) : PTv G X B C Wx (.IfExp c a b pos) (.ite ic ia ib) := by
  refine ⟨fun pins s σ H Q I h => ?_⟩
  refine isTrue_IfExp (thn (hc.run pins s σ H (fun k H1 => if k = true then tE G (evE B C ia) Wx σ H1 (fun x H' => ∃ k, x = .bl k ∧ Q k H') else tE G (evE B C ib) Wx σ H1 (fun x H' => ∃ k, x = .bl k ∧ Q k H')) I (tE_imp (tE_ite h) fun x H1 ⟨k, e, q⟩ => ⟨k, e, q⟩)) fun k s1 ⟨H1, I1, q1⟩ => ?_)
  cases k with
  | true => exact ha.run pins s1 σ H1 Q I1 (by rw [if_pos rfl] at q1; exact q1)
  | false => exact hb.run pins s1 σ H1 Q I1 (by rw [if_neg (by simp)] at q1; exact q1)
/-! displays, subscripts, slices -/
variable {es : List Expr} {ies : IEs}
theorem sA_nil : PAv G X B C Wx [] .nil := pa_imp pa_nil fun σ H Q ⟨W, ρ, S, rl, en, q⟩ => q _ _ _ rl Ext.refl .nil
theorem sA_cons {e : Expr} {ie : IE} (he : PEv G X B C Wx e ie) (hr : PAv G X B C Wx es ies) (hs : starEach (e :: es) X.env = (false, eval e X.env) :: starEach es X.env) : PAv G X B C Wx (e :: es) (.cons ie ies) := by
  refine pa_imp (pa_cons he hr hs) fun σ H Q ⟨W, ρ, S, rl, en, q⟩ => ?_
  have q : Aft G (fun W' v d => RDs G W' v d) (fun cls dx H' => Wx cls dx σ H') H W Q ((evE B C ie ρ S).bind fun x S1 => (evEs B C ies ρ S1).bind fun xs S2 => .ok (x :: xs) S2) := q
  refine ⟨W, ρ, S, rl, en, (Aft.bind (rel := fun W' v d => RD G W' v d) q).imp (fun v H1 ⟨d, S1, W1, r1, x1, k1, a1⟩ => ?_) fun _ _ _ z => z⟩
  refine ⟨W1, ρ, S1, r1, en.mono x1, (Aft.bind (rel := fun W' v d => RDs G W' v d) a1).imp (fun vs H2 ⟨ds, S2, W2, r2, x2, k2, a2⟩ => ?_) fun _ _ _ z => z⟩
  exact a2 _ _ _ r2 Ext.refl (.cons (k1.mono x2) k2)
def lenIEs : IEs → Nat
  | .nil => 0
  | .cons _ r => lenIEs r + 1
theorem evEs_len : ∀ {ies : IEs} {ρ : Ev} {S S' : Sto} {ds : List D}, evEs B C ies ρ S = .ok ds S' → ds.length = lenIEs ies
  | .nil, ρ, S, S', ds, e => by cases e; rfl
  | .cons ie r, ρ, S, S', ds, e => by
    have e : ((evE B C ie ρ S).bind fun x S1 => (evEs B C r ρ S1).bind fun xs S2 => R.ok (x :: xs) S2) = .ok ds S' := e
    cases e1 : evE B C ie ρ S with
    | ok d S1 =>
      rw [e1] at e
      simp only [R.bind_ok] at e
      cases e2 : evEs B C r ρ S1 with
      | ok ds2 S2 =>
        rw [e2] at e
        cases e
        simp [evEs_len e2, lenIEs]
      | ex c fs S2 => rw [e2] at e; cases e
      | no => rw [e2] at e; cases e
    | ex c fs S1 => rw [e1] at e; cases e
    | no => rw [e1] at e; cases e
theorem sE_tup {k : Nat} (ha : PAv G X B C Wx es ies) (hl : lenIEs ies ≤ 1000) : PEv G X B C Wx (.Tuple es k pos) (.tup ies) := pe_imp (pe_tup ha) fun σ H Q ⟨W, ρ, S, rl, en, q⟩ => by
  have q : Aft G (fun W' v d => RD G W' v d) (fun cls dx H' => Wx cls dx σ H') H W Q ((evEs B C ies ρ S).bind fun ds S1 => mkT ds S1) := q
  cases e : evEs B C ies ρ S with
  | ok ds S1 =>
    rw [e] at q
    refine ⟨W, ρ, S, rl, en, ?_⟩
    rw [e]
    intro vs H1 W1 r1 x1 k1
    refine ⟨?_, mkT_ok r1 k1 (Aft.move q x1)⟩
    rw [k1.length, evEs_len e, sizeLine_eq]; omega
  | ex c fs S1 => exact ⟨W, ρ, S, rl, en, by rw [e] at q ⊢; exact q⟩
  | no => rw [e] at q; exact q.elim
theorem sE_lst {m : Bool} (ha : PAv G X B C Wx es ies) (hl : lenIEs ies ≤ 1000) : PEv G X B C Wx (.List es pos) (.lst m ies) := pe_imp (pe_lst ha) fun σ H Q ⟨W, ρ, S, rl, en, q⟩ => by
  have q : Aft G (fun W' v d => RD G W' v d) (fun cls dx H' => Wx cls dx σ H') H W Q ((evEs B C ies ρ S).bind fun ds S1 => mkL m ds S1) := q
  cases e : evEs B C ies ρ S with
  | ok ds S1 =>
    rw [e] at q
    refine ⟨W, ρ, S, rl, en, ?_⟩
    rw [e]
    intro vs H1 W1 r1 x1 k1
    refine ⟨?_, mkL_ok r1 k1 (Aft.move q x1)⟩
    rw [k1.length, evEs_len e, sizeLine_eq]; omega
  | ex c fs S1 => exact ⟨W, ρ, S, rl, en, by rw [e] at q ⊢; exact q⟩
  | no => rw [e] at q; exact q.elim
theorem sE_idx (hK : X.K = G.K) (hu : X.A.units + 65 < cLine) (ha : PEv G X B C Wx a ia) (hb : PEv G X B C Wx b ib) (hs : PlainIx b) : PEv G X B C Wx (.Subscript a b pos) (.idx ia ib) :=
  pe_imp (pe_ix (opr_ix hK hu) ha hb hs) fun σ H Q h => tE_op (fun _ _ _ => pIdx_noEx _ _ _) (fun _ _ _ _ z => z) h
/-- a slice's part: nothing where it is left out -/
def tP (G : Gd) (B : Tb) (C : Cal) (Wx : WX) : IE → TO
  | .nop => tNoPart
  | ie => tPart (tE G (evE B C ie) Wx)
theorem tP_at {lo : IE} {f : Option Int → Sto → R D} {σ : L2.St} {H : Hp} {W : Wd} {ρ : Ev} {S : Sto} {Q : VK} (rl : Rel G H W S) (en : REn G W σ ρ)
    (q : Aft G (fun W' v d => RD G W' v d) (fun cls dx H' => Wx cls dx σ H') H W Q ((evE B C lo ρ S).bind fun l S2 => match prt lo l with
      | none => .no
      | some l => f l S2)) :
    tP G B C Wx lo σ H (fun o H1 => ∃ S1 W1, Rel G H1 W1 S1 ∧ Ext H W H1 W1 ∧ REn G W1 σ ρ ∧ Aft G (fun W' v d => RD G W' v d) (fun cls dx H' => Wx cls dx σ H') H1 W1 Q (f o S1)) := by
  have gen : (∀ l, prt lo l = (intOf l).map some) → tPart (tE G (evE B C lo) Wx) σ H (fun o H1 => ∃ S1 W1, Rel G H1 W1 S1 ∧ Ext H W H1 W1 ∧ REn G W1 σ ρ ∧ Aft G (fun W' v d => RD G W' v d) (fun cls dx H' => Wx cls dx σ H') H1 W1 Q (f o S1)) := fun hp => by
    refine tE_imp (tE_at rl en q) fun v H1 ⟨d, S1, W1, r1, x1, e1, k1, a1⟩ => ?_
    rw [hp] at a1
    split at a1
    · exact a1.elim
    · rename_i l e
      rw [Option.map_eq_some_iff] at e
      obtain ⟨i, e, rfl⟩ := e
      unfold intOf at e
      split at e
      · cases e
        cases k1.int_of
        exact ⟨_, rfl, S1, W1, r1, x1, e1, a1⟩
      · cases e
  cases lo with
  | nop => exact ⟨S, W, rl, Ext.refl, en, q⟩
  | _ => exact gen fun l => rfl
theorem sP_none : PO X none (tP G B C Wx .nop) := po_none
theorem sP_some {lo : IE} (h : PEv G X B C Wx a lo) (hn : lo ≠ .nop) : PO X (some a) (tP G B C Wx lo) := by
  cases lo with
  | nop => exact absurd rfl hn
  | _ => exact po_some h
theorem sE_sl {lo hi : Option Expr} {il ih : IE} {p2 : Pos} (hK : X.K = G.K) (ha : PEv G X B C Wx a ia) (hl : PO X lo (tP G B C Wx il)) (hh : PO X hi (tP G B C Wx ih)) : PEv G X B C Wx (.Subscript a (.Slice lo hi none p2) pos) (.sl ia il ih) :=
  pe_imp (pe_slice (slr_sl hK) ha hl hh) fun σ H Q ⟨W, ρ, S, rl, en, q⟩ => by
    have q : Aft G (fun W' v d => RD G W' v d) (fun cls dx H' => Wx cls dx σ H') H W Q ((evE B C ia ρ S).bind fun x S1 => (evE B C il ρ S1).bind fun l S2 => match prt il l with
      | none => .no
      | some l => (evE B C ih ρ S2).bind fun h S3 => match prt ih h with
        | none => .no
        | some h => pSl x l h S3) := q
    refine tE_imp (tE_at rl en q) fun v H1 ⟨d, S1, W1, r1, x1, e1, k1, a1⟩ => ?_
    have b1 := tP_at r1 e1 a1
    have imp : ∀ {lo : IE} {σ : L2.St} {H : Hp} {Q Q' : Option Int → Hp → Prop}, tP G B C Wx lo σ H Q → (∀ o H', Q o H' → Q' o H') → tP G B C Wx lo σ H Q' := by
      intro lo σ H Q Q' h k
      have gen : tPart (tE G (evE B C lo) Wx) σ H Q → tPart (tE G (evE B C lo) Wx) σ H Q' := fun h => tE_imp h fun v H1 ⟨i, e, q⟩ => ⟨i, e, k _ _ q⟩
      cases lo with
      | nop => exact k _ _ h
      | _ => exact gen h
    refine imp b1 fun o H2 ⟨S2, W2, r2, x2, e2, a2⟩ => ?_
    refine imp (tP_at r2 e2 a2) fun o2 H3 ⟨S3, W3, r3, x3, e3, a3⟩ => ?_
    exact ⟨W3, S3, d, r3, (k1.mono x2).mono x3, a3.noEx (pSl_noEx _ _ _ _)⟩
end
end Wc

/-! Wc: calls. -/
namespace Wc
open PySem PySem.Spec PyProof.Rows L2
section
variable {G : Gd} {X : Cx} {H : Hp} {W : Wd} {S : Sto} {Q : VK} {Wz : Value → Option Addr → Hp → Prop}
theorem callr_imp {f : Value} {r r' : List V → Hp → VK → Prop} (h : CallR X f r) (k : ∀ xs H Q, r' xs H Q → r xs H Q) : CallR X f r' := fun pins s σ H xs us Q I rx q => h pins s σ H xs us Q I rx (k _ _ _ q)
theorem RDs.one {xs : List V} {d : D} (h : RDs G W xs [d]) : ∃ v, xs = [v] ∧ RD G W v d := by
  cases h with | cons h1 h2 => cases h2; exact ⟨_, rfl, h1⟩
theorem RDs.two {xs : List V} {d e : D} (h : RDs G W xs [d, e]) : ∃ v u, xs = [v, u] ∧ RD G W v d ∧ RD G W u e := by
  cases h with | cons h1 h2 => cases h2 with | cons h2 h3 => cases h3; exact ⟨_, _, rfl, h1, h2⟩
theorem blsD_ok : ∀ {ds : List D} {bs : List Bool} {xs : List V}, blsD ds = some bs → RDs G W xs ds → xs = bs.map V.bl
  | [], bs, xs, e, h => by cases e; cases h; rfl
  | d :: ds, bs, xs, e, h => by
    cases h with
    | cons h1 h2 =>
      cases d with
      | t x =>
        cases x with
        | bl b =>
          simp only [blsD, Option.map_eq_some_iff] at e
          obtain ⟨cs, e, rfl⟩ := e
          cases h1.bl_of
          rw [blsD_ok e h2]; rfl
        | _ => simp [blsD] at e
      | _ => simp [blsD] at e
theorem intsD_ok : ∀ {ds : List D} {bs : List Int} {xs : List V}, intsD ds = some bs → RDs G W xs ds → xs = bs.map V.int
  | [], bs, xs, e, h => by cases e; cases h; rfl
  | d :: ds, bs, xs, e, h => by
    cases h with
    | cons h1 h2 =>
      cases d with
      | t x =>
        cases x with
        | int b =>
          simp only [intsD, Option.map_eq_some_iff] at e
          obtain ⟨cs, e, rfl⟩ := e
          cases h1.int_of
          rw [intsD_ok e h2]; rfl
        | _ => simp [intsD] at e
      | _ => simp [intsD] at e
/-- where a built-in of a name stands -/
def biId : Bi → Str × Value
  | .len => ("len", .builtin "len") | .all => ("all", .builtin "all") | .any => ("any", .builtin "any") | .sum => ("sum", .builtin "sum")
  | .list => ("list", .type "list") | .tuple => ("tuple", .type "tuple") | .int => ("int", .type "int") | .str => ("str", .type "str")
  | .min => ("min", .builtin "min") | .max => ("max", .builtin "max") | .abs => ("abs", .builtin "abs") | .sorted => ("sorted", .builtin "sorted") | .set => ("set", .type "set")
theorem ds1 {m : Bool} {b : Bi} {ds : List D} {r : R D} (hb : ∀ d e l, pBi m b (d :: e :: l) S = .no) (h0 : pBi m b [] S = .no) (q : Aft G (fun W' v d => RD G W' v d) Wz H W Q (pBi m b ds S)) : ∃ d, ds = [d] := by
  rcases ds with _ | ⟨d, _ | ⟨e, l⟩⟩
  · rw [h0] at q; exact q.elim
  · exact ⟨d, rfl⟩
  · rw [hb] at q; exact q.elim
theorem ds2 {m : Bool} {b : Bi} {ds : List D} (h1 : ∀ d, pBi m b [d] S = .no) (hb : ∀ d e f l, pBi m b (d :: e :: f :: l) S = .no) (h0 : pBi m b [] S = .no) (q : Aft G (fun W' v d => RD G W' v d) Wz H W Q (pBi m b ds S)) : ∃ d e, ds = [d, e] := by
  rcases ds with _ | ⟨d, _ | ⟨e, _ | ⟨f, l⟩⟩⟩
  · rw [h0] at q; exact q.elim
  · rw [h1] at q; exact q.elim
  · exact ⟨d, e, rfl⟩
  · rw [hb] at q; exact q.elim
theorem cr_len' {m : Bool} (hK : X.K = G.K) : CallR X (.builtin "len") (rPs G (pBi m .len)) := by
  refine callr_imp (call_len_str.or call_len_seq) fun xs H Q ⟨W, S, ds, rl, k, q⟩ => ?_
  obtain ⟨d, rfl⟩ := ds1 (r := .no) (fun _ _ _ => rfl) rfl q
  obtain ⟨v, rfl, k1⟩ := k.one
  clear k
  have k := k1
  clear k1
  have q : Aft G (fun W' v d => RD G W' v d) _ H W Q (pLen d S) := q
  unfold pLen at q
  split at q
  · cases k.str_of
    split at q
    · rename_i hl
      exact .inl ⟨_, rfl, Nat.le_trans hl lim_le, q _ _ _ rl Ext.refl (.t (.int _))⟩
    · exact q.elim
  · cases k with
    | t k =>
      cases k with
      | scr h =>
        refine .inr ⟨_, _, rfl, .inl (by rw [hK]; exact rl.sub.seq h), ?_⟩
        rw [List.length_map]
        exact q _ _ _ rl Ext.refl (.t (.int _))
  · split at q
    · rename_i ys e1
      obtain ⟨a, vs, rfl, h1, h2⟩ := seqOf_ok rl k e1
      refine .inr ⟨a, vs, rfl, h1.imp SqL.of SqT.of, ?_⟩
      rw [h2.length]
      exact q _ _ _ rl Ext.refl (.t (.int _))
    · exact q.elim
theorem asBls_ok {v : V} {d : D} {bs : List Bool} (rl : Rel G H W S) (k : RD G W v d) (e : (asList S d).bind blsD = some bs) : ∃ a, v = .ref a ∧ H a = some (.lst (bs.map V.bl)) := by
  rw [Option.bind_eq_some_iff] at e
  obtain ⟨ds, e1, e2⟩ := e
  obtain ⟨a, vs, rfl, h1, h2⟩ := asList_ok rl k e1
  rw [blsD_ok e2 h2] at h1
  exact ⟨a, rfl, h1⟩
theorem asInts_ok {v : V} {d : D} {bs : List Int} (rl : Rel G H W S) (k : RD G W v d) (e : (asList S d).bind intsD = some bs) : ∃ a, v = .ref a ∧ H a = some (.lst (bs.map V.int)) := by
  rw [Option.bind_eq_some_iff] at e
  obtain ⟨ds, e1, e2⟩ := e
  obtain ⟨a, vs, rfl, h1, h2⟩ := asList_ok rl k e1
  rw [intsD_ok e2 h2] at h1
  exact ⟨a, rfl, h1⟩
theorem cr_all' {m : Bool} (hc : X.calm = true) : CallR X (.builtin "all") (rPs G (pBi m .all)) := by
  refine callr_imp (cr_all hc) fun xs H Q ⟨W, S, ds, rl, k, q⟩ => ?_
  obtain ⟨d, rfl⟩ := ds1 (r := .no) (fun _ _ _ => rfl) rfl q
  obtain ⟨v, rfl, k1⟩ := k.one
  clear k
  have k := k1
  clear k1
  simp only [pBi] at q
  split at q
  · rename_i bs e
    obtain ⟨a, rfl, h1⟩ := asBls_ok rl k e
    exact ⟨a, bs, rfl, SqL.of h1, q _ _ _ rl Ext.refl (.t (.bl _))⟩
  · exact q.elim
theorem cr_any' {m : Bool} (hc : X.calm = true) : CallR X (.builtin "any") (rPs G (pBi m .any)) := by
  refine callr_imp (cr_any hc) fun xs H Q ⟨W, S, ds, rl, k, q⟩ => ?_
  obtain ⟨d, rfl⟩ := ds1 (r := .no) (fun _ _ _ => rfl) rfl q
  obtain ⟨v, rfl, k1⟩ := k.one
  clear k
  have k := k1
  clear k1
  simp only [pBi] at q
  split at q
  · rename_i bs e
    obtain ⟨a, rfl, h1⟩ := asBls_ok rl k e
    exact ⟨a, bs, rfl, SqL.of h1, q _ _ _ rl Ext.refl (.t (.bl _))⟩
  · exact q.elim
theorem cr_sum' {m : Bool} (hc : X.calm = true) : CallR X (.builtin "sum") (rPs G (pBi m .sum)) := by
  refine callr_imp (cr_sum hc) fun xs H Q ⟨W, S, ds, rl, k, q⟩ => ?_
  obtain ⟨d, rfl⟩ := ds1 (r := .no) (fun _ _ _ => rfl) rfl q
  obtain ⟨v, rfl, k1⟩ := k.one
  clear k
  have k := k1
  clear k1
  simp only [pBi] at q
  split at q
  · rename_i bs e
    obtain ⟨a, rfl, h1⟩ := asInts_ok rl k e
    exact ⟨a, bs, rfl, SqL.of h1, q _ _ _ rl Ext.refl (.t (.int _))⟩
  · exact q.elim
theorem RDs.intsT : ∀ ns : List Int, RDs G W (ns.map V.int) (ns.map fun n => .t (.int n))
  | [] => .nil
  | n :: ns => .cons (.t (.int n)) (RDs.intsT ns)
theorem cr_list' {m : Bool} (hK : X.K = G.K) : CallR X (.type "list") (rPs G (pBi m .list)) := by
  refine callr_imp call_list_of fun xs H Q ⟨W, S, ds, rl, k, q⟩ => ?_
  obtain ⟨d, rfl⟩ := ds1 (r := .no) (fun _ _ _ => rfl) rfl q
  obtain ⟨v, rfl, k1⟩ := k.one
  clear k
  have k := k1
  clear k1
  simp only [pBi] at q
  split at q
  · rename_i ns
    cases k with
    | t k =>
      cases k with
      | scr h => exact ⟨_, _, rfl, .inl (by rw [hK]; exact rl.sub.seq h), mkL_ok rl (RDs.intsT ns) q⟩
  · split at q
    · rename_i ys e1
      obtain ⟨a, vs, rfl, h1, h2⟩ := seqOf_ok rl k e1
      exact ⟨a, vs, rfl, h1.imp SqL.of SqT.of, mkL_ok rl h2 q⟩
    · exact q.elim
theorem cr_tuple' {m : Bool} : CallR X (.type "tuple") (rPs G (pBi m .tuple)) := by
  refine callr_imp call_tuple_of fun xs H Q ⟨W, S, ds, rl, k, q⟩ => ?_
  obtain ⟨d, rfl⟩ := ds1 (r := .no) (fun _ _ _ => rfl) rfl q
  obtain ⟨v, rfl, k1⟩ := k.one
  clear k
  have k := k1
  clear k1
  simp only [pBi] at q
  split at q
  · have k' := k
    cases k with
    | t k =>
      cases k with
      | tup h1 h2 => exact ⟨_, _, rfl, .inr ⟨SqT.of (rl.sub _ _ h1), q _ _ _ rl Ext.refl k'⟩⟩
  · have k' := k
    cases k with
    | tup h1 h2 => exact ⟨_, _, rfl, .inr ⟨SqT.of (rl.sub _ _ h1), q _ _ _ rl Ext.refl k'⟩⟩
  · split at q
    · rename_i ys e1
      obtain ⟨a, vs, rfl, h1, h2⟩ := asList_ok rl k e1
      exact ⟨a, vs, rfl, .inl ⟨SqL.of h1, mkT_ok rl h2 q⟩⟩
    · exact q.elim
theorem cr_int' {m : Bool} : CallR X (.type "int") (rPs G (pBi m .int)) := by
  refine callr_imp (call_int1.or call_int_str) fun xs H Q ⟨W, S, ds, rl, k, q⟩ => ?_
  obtain ⟨d, rfl⟩ := ds1 (r := .no) (fun _ _ _ => rfl) rfl q
  obtain ⟨v, rfl, k1⟩ := k.one
  clear k
  have k := k1
  clear k1
  simp only [pBi] at q
  split at q
  · cases k.int_of
    exact .inl (.inl ⟨_, rfl, q _ _ _ rl Ext.refl (.t (.int _))⟩)
  · cases k.bl_of
    exact .inl (.inr ⟨_, rfl, q _ _ _ rl Ext.refl (.t (.int _))⟩)
  · cases k.str_of
    split at q
    · rename_i n e
      split at q
      · rename_i hl
        exact .inr ⟨_, n, rfl, e, hl, q _ _ _ rl Ext.refl (.t (.int _))⟩
      · exact q.elim
    · exact q.elim
  · exact q.elim
theorem cr_str' {m : Bool} : CallR X (.type "str") (rPs G (pBi m .str)) := by
  refine callr_imp call_str_int fun xs H Q ⟨W, S, ds, rl, k, q⟩ => ?_
  obtain ⟨d, rfl⟩ := ds1 (r := .no) (fun _ _ _ => rfl) rfl q
  obtain ⟨v, rfl, k1⟩ := k.one
  clear k
  have k := k1
  clear k1
  simp only [pBi] at q
  split at q
  · cases k.int_of
    split at q
    · rename_i hl
      exact ⟨_, rfl, hl, q _ _ _ rl Ext.refl (.t (.str _))⟩
    · exact q.elim
  · exact q.elim
theorem insI_perm (x : Int) : ∀ l : List Int, (insI x l).Perm (x :: l)
  | [] => .refl _
  | y :: l => by
    unfold insI
    split
    · exact .refl _
    · exact ((insI_perm x l).cons y).trans (.swap x y l)
theorem srtI_perm : ∀ l : List Int, (srtI l).Perm l
  | [] => .refl _
  | x :: l => (insI_perm x _).trans ((srtI_perm l).cons x)
theorem insI_srt (x : Int) : ∀ l : List Int, l.Pairwise (· ≤ ·) → (insI x l).Pairwise (· ≤ ·)
  | [], _ => by simp [insI]
  | y :: l, h => by
    unfold insI
    rw [List.pairwise_cons] at h
    split
    · rename_i c
      rw [List.pairwise_cons, List.pairwise_cons]
      exact ⟨fun z hz => by
        rcases List.mem_cons.mp hz with rfl | hz
        · exact c
        · exact Int.le_trans c (h.1 z hz), h⟩
    · rename_i c
      rw [List.pairwise_cons]
      exact ⟨fun z hz => by
        rcases List.mem_cons.mp ((insI_perm x l).mem_iff.mp hz) with rfl | hz
        · omega
        · exact h.1 z hz, insI_srt x l h.2⟩
theorem srtI_srt : ∀ l : List Int, (srtI l).Pairwise (· ≤ ·)
  | [] => .nil
  | x :: l => insI_srt x _ (srtI_srt l)
theorem srt_uniq : ∀ {l m : List Int}, l.Perm m → l.Pairwise (· ≤ ·) → m.Pairwise (· ≤ ·) → l = m
  | [], m, p, _, _ => by rw [p.nil_eq]
  | x :: l, [], p, _, _ => by have := p.length_eq; simp at this
  | x :: l, y :: m, p, h1, h2 => by
    rw [List.pairwise_cons] at h1 h2
    have e : x = y := by
      rcases List.mem_cons.mp (p.mem_iff.mp (List.mem_cons_self (a := x) (l := l))) with e | hx
      · exact e
      · rcases List.mem_cons.mp (p.mem_iff.mpr (List.mem_cons_self (a := y) (l := m))) with e | hy
        · exact e.symm
        · have := h1.1 y hy; have := h2.1 x hx; omega
    subst e
    rw [srt_uniq (p.cons_inv) h1.2 h2.2]
theorem foldl_max : ∀ (ns : List Int) (n : Int), ns.foldl max n ∈ n :: ns ∧ ∀ y ∈ n :: ns, y ≤ ns.foldl max n
  | [], n => by simp
  | a :: ns, n => by
    obtain ⟨h1, h2⟩ := foldl_max ns (max n a)
    simp only [List.foldl_cons]
    refine ⟨?_, fun y hy => ?_⟩
    · rcases List.mem_cons.mp h1 with e | h
      · rw [e]
        have : max n a = n ∨ max n a = a := by omega
        rcases this with e | e <;> rw [e] <;> simp
      · exact List.mem_cons_of_mem _ (List.mem_cons_of_mem _ h)
    · have h3 := h2 (max n a) List.mem_cons_self
      rcases List.mem_cons.mp hy with rfl | hy
      · omega
      · rcases List.mem_cons.mp hy with rfl | hy
        · omega
        · exact h2 y (List.mem_cons_of_mem _ hy)
theorem foldl_min : ∀ (ns : List Int) (n : Int), ns.foldl min n ∈ n :: ns ∧ ∀ y ∈ n :: ns, ns.foldl min n ≤ y
  | [], n => by simp
  | a :: ns, n => by
    obtain ⟨h1, h2⟩ := foldl_min ns (min n a)
    simp only [List.foldl_cons]
    refine ⟨?_, fun y hy => ?_⟩
    · rcases List.mem_cons.mp h1 with e | h
      · rw [e]
        have : min n a = n ∨ min n a = a := by omega
        rcases this with e | e <;> rw [e] <;> simp
      · exact List.mem_cons_of_mem _ (List.mem_cons_of_mem _ h)
    · have h3 := h2 (min n a) List.mem_cons_self
      rcases List.mem_cons.mp hy with rfl | hy
      · omega
      · rcases List.mem_cons.mp hy with rfl | hy
        · omega
        · exact h2 y (List.mem_cons_of_mem _ hy)
theorem cr_max' {m : Bool} (hc : X.calm = true) : CallR X (.builtin "max") (rPs G (pBi m .max)) := by
  refine callr_imp ((call_max2 hc).or (cr_max hc)) fun xs H Q ⟨W, S, ds, rl, k, q⟩ => ?_
  replace q : Aft G (fun W' v d => RD G W' v d) _ H W Q (pMM max ds S) := q
  unfold pMM at q
  split at q
  · rename_i x
    obtain ⟨v, rfl, k1⟩ := k.one
    unfold pMx at q
    split at q
    · rename_i n ns e
      obtain ⟨a, rfl, h1⟩ := asInts_ok rl k1 e
      refine .inr ⟨a, n :: ns, rfl, SqL.of h1, by simp, fun z hz hz2 => ?_⟩
      obtain ⟨h2, h3⟩ := foldl_max ns n
      have : z = ns.foldl max n := Int.le_antisymm (h3 z hz) (hz2 _ h2)
      rw [this]
      exact q _ _ _ rl Ext.refl (.t (.int _))
    · exact q.elim
  · rename_i i j
    obtain ⟨v, u, rfl, k1, k2⟩ := k.two
    cases k1.int_of; cases k2.int_of
    refine .inl ⟨_, _, rfl, ?_⟩
    have : (if j > i then j else i) = max i j := by
      have h1 : i ≤ j → max i j = j := fun h => by omega
      split <;> omega
    rw [this]
    exact q _ _ _ rl Ext.refl (.t (.int _))
  · exact q.elim
theorem cr_min' {m : Bool} (hc : X.calm = true) : CallR X (.builtin "min") (rPs G (pBi m .min)) := by
  refine callr_imp ((call_min2 hc).or (cr_min hc)) fun xs H Q ⟨W, S, ds, rl, k, q⟩ => ?_
  replace q : Aft G (fun W' v d => RD G W' v d) _ H W Q (pMM min ds S) := q
  unfold pMM at q
  split at q
  · rename_i x
    obtain ⟨v, rfl, k1⟩ := k.one
    unfold pMx at q
    split at q
    · rename_i n ns e
      obtain ⟨a, rfl, h1⟩ := asInts_ok rl k1 e
      refine .inr ⟨a, n :: ns, rfl, SqL.of h1, by simp, fun z hz hz2 => ?_⟩
      obtain ⟨h2, h3⟩ := foldl_min ns n
      have : z = ns.foldl min n := Int.le_antisymm (hz2 _ h2) (h3 z hz)
      rw [this]
      exact q _ _ _ rl Ext.refl (.t (.int _))
    · exact q.elim
  · rename_i i j
    obtain ⟨v, u, rfl, k1, k2⟩ := k.two
    cases k1.int_of; cases k2.int_of
    refine .inl ⟨_, _, rfl, ?_⟩
    have : (if j < i then j else i) = min i j := by
      have h1 : i ≤ j → max i j = j := fun h => by omega
      split <;> omega
    rw [this]
    exact q _ _ _ rl Ext.refl (.t (.int _))
  · exact q.elim
theorem cr_sorted' {m : Bool} : CallR X (.builtin "sorted") (rPs G (pBi m .sorted)) := by
  refine callr_imp cr_sortedI fun xs H Q ⟨W, S, ds, rl, k, q⟩ => ?_
  obtain ⟨d, rfl⟩ := ds1 (r := .no) (fun _ _ _ => rfl) rfl q
  obtain ⟨v, rfl, k1⟩ := k.one
  simp only [pBi] at q
  split at q
  · rename_i ns e
    obtain ⟨a, rfl, h1⟩ := asInts_ok rl k1 e
    refine ⟨a, ns, rfl, SqL.of h1, fun ns' p hp hs => ?_⟩
    rw [srt_uniq (hp.trans (srtI_perm ns).symm) hs (srtI_srt ns)]
    exact mkL_ok rl (RDs.intsT _) q p
  · exact q.elim
theorem cr_abs' {m : Bool} : CallR X (.builtin "abs") (rPs G (pBi m .abs)) := by
  refine callr_imp call_abs fun xs H Q ⟨W, S, ds, rl, k, q⟩ => ?_
  unfold pBi at q
  split at q <;> first | exact q.elim | (rename_i h; cases h; done) | skip
  all_goals try (rename_i h _; cases h; done)
  obtain ⟨v, rfl, k1⟩ := k.one
  cases k1.int_of
  exact ⟨_, rfl, q _ _ _ rl Ext.refl (.t (.int _))⟩
theorem cr_never {m : Bool} {b : Bi} {f : Value} (h : ∀ ds S, pBi m b ds S = .no) : CallR X f (rPs G (pBi m b)) := fun pins s σ H xs us Q I rx ⟨W, S, ds, rl, k, q⟩ => by
  rw [h] at q; exact q.elim
theorem cr_bi {m : Bool} (hK : X.K = G.K) (hc : X.calm = true) : ∀ b : Bi, CallR X (biId b).2 (rPs G (pBi m b))
  | .len => cr_len' hK
  | .all => cr_all' hc
  | .any => cr_any' hc
  | .sum => cr_sum' hc
  | .list => cr_list' hK
  | .tuple => cr_tuple'
  | .int => cr_int'
  | .str => cr_str'
  | .max => cr_max' hc
  | .min => cr_min' hc
  | .abs => cr_abs'
  | .sorted => cr_sorted'
  | .set => cr_never fun ds S => by unfold pBi; split <;> first | rfl | (rename_i h; cases h)
theorem pBi_noEx (m : Bool) (b : Bi) (ds : List D) (S : Sto) : noEx (pBi m b ds S) := by
  unfold pBi pLen pMM pMx
  repeat' (first | exact True.intro | exact mkL_noEx _ _ _ | exact mkT_noEx _ _ | split)
end
end Wc

/-! Wc: calls as expressions: built-ins, isinstance, the text's defs. -/
namespace Wc
open PySem PySem.Spec PyProof.Rows L2
section
variable {G : Gd} {X : Cx} {B : Tb} {C : Cal} {Wx : WX} {e : Expr} {es : List Expr} {ies : IEs} {pos p : Pos} {x : Str}
theorem rPs_at {p : List D → Sto → R D} (hp : ∀ ds S, noEx (p ds S)) {σ : L2.St} {H : Hp} {Q : VK} (h : tE G (fun ρ S => (evEs B C ies ρ S).bind fun ds S1 => p ds S1) Wx σ H Q) : tCB (rPs G p) (tA G (evEs B C ies) Wx) σ H Q := by
  obtain ⟨W, ρ, S, rl, en, q⟩ := h
  refine ⟨W, ρ, S, rl, en, (Aft.bind (rel := fun W' v d => RDs G W' v d) q).imp (fun v H1 ⟨d, S1, W1, r1, x1, k1, a1⟩ => ?_) fun _ _ _ z => z⟩
  exact ⟨W1, S1, d, r1, k1, a1.noEx (hp _ _)⟩
theorem sE_biB {m : Bool} {b : Bi} {id : String} (hK : X.K = G.K) (hc : X.calm = true) (hid : (biId b).2 = .builtin id) (hg : Gl X x) (hm : X.mg x = none) (hv : bootBuiltins x = some (.builtin id)) (hn : x ≠ "__name__") (hdb : (x == ("__debug__" : Str)) = false)
    (ha : PAv G X B C Wx (e :: es) ies) (he : starEach (e :: es) X.env = (false, eval e X.env) :: starEach es X.env) (hpl : (backTo pos (starEach es X.env)).any (·.1) = false) : PEv G X B C Wx (.Call (.Name x p) (e :: es) [] pos) (.bi m b ies) := by
  have cr := cr_bi (G := G) (m := m) hK hc b
  rw [hid] at cr
  exact pe_imp (pe_callB cr hg hm hv ha hn hdb he hpl) fun σ H Q h => rPs_at (fun ds S => pBi_noEx m b ds S) h
theorem sE_biT {m : Bool} {b : Bi} {id : String} (hK : X.K = G.K) (hc : X.calm = true) (hid : (biId b).2 = .type id) (hg : Gl X x) (hm : X.mg x = none) (hv : bootBuiltins x = some (.type id)) (hn : x ≠ "__name__") (hdb : (x == ("__debug__" : Str)) = false)
    (ha : PAv G X B C Wx (e :: es) ies) (he : starEach (e :: es) X.env = (false, eval e X.env) :: starEach es X.env) (hpl : (backTo pos (starEach es X.env)).any (·.1) = false) : PEv G X B C Wx (.Call (.Name x p) (e :: es) [] pos) (.bi m b ies) := by
  have cr := cr_bi (G := G) (m := m) hK hc b
  rw [hid] at cr
  exact pe_imp (pe_callTy cr hg hm hv ha hn hdb he hpl) fun σ H Q h => rPs_at (fun ds S => pBi_noEx m b ds S) h
/-! isinstance of a built-in class -/
def clT : Cl → String
  | .int => "int" | .bool => "bool" | .str => "str" | .list => "list" | .tuple => "tuple" | .dict => "dict" | .own _ => "?"
theorem kit_tab (c : Cl) (hc : ∀ k, c ≠ .own k) : kitB "NoneType" (clT c) = some false ∧ kitB "bool" (clT c) = some (ci c == 0 || ci c == 1) ∧ kitB "int" (clT c) = some (ci c == 0) ∧
    kitB "str" (clT c) = some (ci c == 2) ∧ kitB "list" (clT c) = some (ci c == 3) ∧ kitB "tuple" (clT c) = some (ci c == 4) ∧ kitB "dict" (clT c) = some (ci c == 5) := by
  cases c with
  | own k => exact absurd rfl (hc k)
  | _ => exact ⟨by decide +kernel, by decide +kernel, by decide +kernel, by decide +kernel, by decide +kernel, by decide +kernel, by decide +kernel⟩
theorem isiB_ok {K : PySem.W.Frag} {sub : Nat → Nat → Bool} {H : Hp} {W : Wd} {S : Sto} {v : V} {d : D} {c : Cl} {b : Bool} (hK : K = G.K) (hc : ∀ k, c ≠ .own k) (rl : Rel G H W S) (k : RD G W v d) (e : isiB sub S d c = some b) :
    ∃ t : String, TyX K H v (.type t) ∧ kitB t (clT c) = some b := by
  subst hK
  obtain ⟨t1, t2, t3, t4, t5, t6, t7⟩ := kit_tab c hc
  unfold isiB at e
  split at e
  · cases k.non_of; cases e; exact ⟨_, .base .non, t1⟩
  · cases k.bl_of; cases e; exact ⟨_, .base (.bl _), t2⟩
  · cases k.int_of; cases e; exact ⟨_, .base (.int _), t3⟩
  · cases k.str_of; cases e; exact ⟨_, .base (.str _), t4⟩
  · cases k with
    | t k => cases k with | lst h1 h2 => cases e; exact ⟨_, .base (.lst (rl.sub _ _ h1)), t5⟩
  · cases k with
    | t k =>
      cases k with
      | scr h =>
        cases e
        rcases rl.sub.seq h with (h | ⟨o, h⟩) | ⟨o, its, n, h1, h2, _⟩
        · exact ⟨_, .base (.lst h), t5⟩
        · exact ⟨_, .base (.frz h), t5⟩
        · exact ⟨_, .kList h1 h2, t5⟩
  · cases k with
    | t k => cases k with | tup h1 h2 => cases e; exact ⟨_, .base (.tup (rl.sub _ _ h1)), t6⟩
  · cases k with
    | tup h1 h2 => cases e; exact ⟨_, .base (.tup (rl.sub _ _ h1)), t6⟩
  · cases k with
    | t k => cases k with | dct h1 h3 h2 => cases e; exact ⟨_, .base (.dK (rl.sub _ _ h1)), t7⟩
  · cases k with
    | ref h1 =>
      split at e
      · rename_i e1
        cases e
        have ro := rl.obj _ _ _ e1 h1
        cases ro with
        | lst h3 h4 => exact ⟨_, .base (.lst h3), t5⟩
      · rename_i e1
        cases e
        have ro := rl.obj _ _ _ e1 h1
        cases ro with
        | dct h3 h5 h4 => exact ⟨_, .base (.dK h3), t7⟩
      · cases e
  · cases e
def rIsiC (G : Gd) (sub : Nat → Nat → Bool) (c : Cl) : List V → Hp → VK → Prop := fun xs H Q => ∃ W S x d, xs = [x, .ty (clT c)] ∧ Rel G H W S ∧ RD G W x d ∧ Aft G (fun W' v d => RD G W' v d) (fun _ _ _ => False) H W Q (bl (isiB sub S d c) S)
theorem cr_isi {sub : Nat → Nat → Bool} {c : Cl} (hK : X.K = G.K) (hc : ∀ k, c ≠ .own k) : CallR X (.builtin "isinstance") (rIsiC G sub c) := by
  refine callr_imp call_isi fun xs H Q ⟨W, S, x, d, e, rl, k, q⟩ => ?_
  subst e
  obtain ⟨b, e, q⟩ := bl_ok rl q
  obtain ⟨t, h1, h2⟩ := isiB_ok (K := X.K) hK hc rl k e
  exact ⟨x, .ty (clT c), .type t, .type (clT c), b, rfl, .ty _, h1, kit_ty h2, q⟩
theorem sE_isi {a cn : Expr} {ia : IE} {c : Cl} (hK : X.K = G.K) (hc : ∀ k, c ≠ .own k) (hg : Gl X x) (hx : x = "isinstance") (hm : X.mg x = none) (ha : PEv G X B C Wx a ia) (hcn : PE X cn (tC (.ty (clT c))))
    (he : starEach (a :: [cn]) X.env = (false, eval a X.env) :: starEach [cn] X.env) (he2 : starEach [cn] X.env = (false, eval cn X.env) :: starEach [] X.env) (hpl : (backTo pos (starEach [cn] X.env)).any (·.1) = false) :
    PEv G X B C Wx (.Call (.Name x p) [a, cn] [] pos) (.isi ia c) := by
  subst hx
  refine pe_imp (pe_callB (cr_isi (sub := B.sub) (c := c) hK hc) hg hm boot_isinstance (pa_cons ha (pa_cons hcn pa_nil he2) he) (by decide) (by decide) he hpl) fun σ H Q ⟨W, ρ, S, rl, en, q⟩ => ?_
  refine tE_imp (tE_at rl en q) fun v H1 ⟨d, S1, W1, r1, x1, e1, k1, a1⟩ => ?_
  exact ⟨W1, S1, v, d, rfl, r1, k1, a1.noEx (bl_noEx _ _)⟩
/-! the text's defs -/
def spC (G : Gd) (C : Cal) (f n : Nat) : Sp := fun vs H Q E => vs.length = n ∧ ∃ W S ds, Rel G H W S ∧ RDs G W vs ds ∧ Aft G (fun W' v d => RD G W' v d) E H W Q (C f ds S)
structure CalOk (X : Cx) (G : Gd) (C : Cal) (f n : Nat) : Prop where
  ex : ∃ k fd ps, FnOk X.prog X.w X.K X.mg X.base (L2.CX X.prog X.w) k (G.fa f) fd ps (spC G C f n) ∧ Room k X.A ∧ Binds X.K fd ps []
  kp : PySem.W.keepIn X.K (.ref (G.fa f)) = true
theorem ExR.mono {H H' : Hp} {W W' : Wd} {c : Nat} {fs : List (Str × T)} {cls : Value} {dx : Option Addr} (h : ExR G H W c fs cls dx) (e : Same W.Hf W'.Hf) : ExR G H W' c fs cls dx := by
  refine ⟨h.1, ?_⟩
  have h2 := h.2
  split at h2
  · exact h2
  · obtain ⟨dd, vs, a, b, c, d⟩ := h2
    exact ⟨dd, vs, a, b, c, RTf.mono e d⟩
theorem callD_ok {m : Bool} {f : Nat} {H : Hp} {W : Wd} {S : Sto} {vs : List V} {ds : List D} {Q : VK} {E : XK} (rl : Rel G H W S) (k : RDs G W vs ds) (q : Aft G (fun W' v d => RD G W' v d) E H W Q (callD C m f ds S)) :
    spC G C f vs.length vs H Q E := by
  refine ⟨rfl, ?_⟩
  unfold callD at q
  cases m with
  | false => exact ⟨W, S, ds, rl, k, q⟩
  | true =>
    rw [if_pos rfl] at q
    cases e : pls ds with
    | none => rw [e] at q; exact q.elim
    | some ts =>
      rw [e] at q
      have e2 := pls_eq e
      subst e2
      refine ⟨⟨W.Hf, []⟩, [], ts.map .t, rl.apartW, RDs.ofT (W := ⟨W.Hf, []⟩) k.toT, ?_⟩
      cases e3 : C f (ts.map .t) [] with
      | no => rw [e3] at q; exact q
      | ex c fs S1 =>
        rw [e3] at q
        intro cls dx H1 W1 r1 x1 k1
        obtain ⟨r2, x2⟩ := rl.back r1 x1
        exact q cls dx H1 _ r2 x2 (k1.mono (H' := H1) (Same.refl _))
      | ok d S1 =>
        rw [e3] at q
        intro v H1 W1 r1 x1 k1
        simp only at q
        split at q
        · rename_i t S2 e4
          obtain ⟨W2, r2, x2, k2, _⟩ := frz_ok 9 r1 k1 e4
          obtain ⟨r3, x3⟩ := rl.back r2 (x1.trans x2)
          exact q v H1 _ r3 x3 (.t k2)
        · exact q.elim
/-- each def that the evaluator knows keeps what it says -/
def Cals (X : Cx) (G : Gd) (B : Tb) (C : Cal) : Prop := ∀ f, B.isf f = true → ∃ n, CalOk X G C f n ∧ ∀ ds S, ds.length ≠ n → C f ds S = .no
theorem callD_no {m : Bool} {f : Nat} {ds : List D} {S : Sto} (h : ∀ S, C f ds S = .no) : callD C m f ds S = .no := by
  unfold callD
  cases m with
  | false => exact h S
  | true =>
    rw [if_pos rfl]
    split
    · rw [h]
    · rfl
theorem argsCall {f n : Nat} {m : Bool} {σ : L2.St} {H : Hp} {Q : VK} {W : Wd} {ρ : Ev} {S : Sto} (rl : Rel G H W S) (en : REn G W σ ρ) (hn : ∀ ds S, ds.length ≠ n → C f ds S = .no)
    (q : Aft G (fun W' v d => RD G W' v d) (fun cls dx H' => Wx cls dx σ H') H W Q ((evEs B C ies ρ S).bind fun ds S1 => callD C m f ds S1)) : tCallS (spC G C f n) (WE Wx) (tA G (evEs B C ies) Wx) σ H Q := by
  cases e : evEs B C ies ρ S with
  | ok ds S1 =>
    rw [e] at q
    refine ⟨W, ρ, S, rl, en, ?_⟩
    rw [e]
    intro vs H1 W1 r1 x1 k1
    by_cases hl : ds.length = n
    · have h2 := callD_ok r1 k1 (Aft.move q x1)
      rw [k1.length, hl] at h2
      exact h2
    · have q : Aft G (fun W' v d => RD G W' v d) (fun cls dx H' => Wx cls dx σ H') H W Q (callD C m f ds S1) := q
      rw [callD_no fun S => hn ds S hl] at q
      exact q.elim
  | ex c fs S1 => exact ⟨W, ρ, S, rl, en, by rw [e] at q ⊢; exact q⟩
  | no => rw [e] at q; exact q.elim
/-- a call of a def at a known place -/
theorem sE_call {m : Bool} {f n : Nat} (F : CalOk X G C f n) (hn : ∀ ds S, ds.length ≠ n → C f ds S = .no) (tk : Takes X Wx) (hg : Gl X x) (hm : X.mg x = some (.ref (G.fa f))) (ha : PAv G X B C Wx (e :: es) ies) (hdb : (x == ("__debug__" : Str)) = false)
    (he : starEach (e :: es) X.env = (false, eval e X.env) :: starEach es X.env) (hpl : (backTo pos (starEach es X.env)).any (·.1) = false) : PEv G X B C Wx (.Call (.Name x p) (e :: es) [] pos) (.call m f ies) := by
  obtain ⟨k, fd, ps, F1, hr, hb⟩ := F.ex
  exact pe_imp (pe_callS F1 hr hg hm F.kp hb (passAt tk) ha hdb he hpl) fun σ H Q ⟨W, ρ, S, rl, en, q⟩ => argsCall rl en hn q
theorem sE_call0 {m : Bool} {f : Nat} (F : CalOk X G C f 0) (tk : Takes X Wx) (hg : Gl X x) (hm : X.mg x = some (.ref (G.fa f))) (hdb : (x == ("__debug__" : Str)) = false) : PEv G X B C Wx (.Call (.Name x p) [] [] pos) (.call m f .nil) := by
  obtain ⟨k, fd, ps, F1, hr, hb⟩ := F.ex
  refine ⟨fun pins s σ H Q I h => ?_⟩
  obtain ⟨W, ρ, S, rl, en, q⟩ := h
  refine wpAny_Call_Name_kw (ld_glob I hg hm ?_ hdb)
  refine PySem.W.callWith_K0 I.kIn F.kp (run_fnS (us := []) (E := WE Wx) F1 hr hb (passAt tk σ) I .nil ?_)
  exact callD_ok (vs := []) rl .nil q
/-- a def held by a name, called -/
theorem sE_cv {m : Bool} {i : Nat} (F : Cals X G B C) (tk : Takes X Wx) (hN : X.N[i]? = some x) (hv : Vis X.env.scope x) (ha : PAv G X B C Wx (e :: es) ies) (hdb : (x == ("__debug__" : Str)) = false) (hcd : (x == ("__classdict__" : Str)) = false)
    (he : starEach (e :: es) X.env = (false, eval e X.env) :: starEach es X.env) (hpl : (backTo pos (starEach es X.env)).any (·.1) = false) : PEv G X B C Wx (.Call (.Name x p) (e :: es) [] pos) (.cv m i ies) := by
  refine ⟨fun pins s σ H Q I h => ?_⟩
  obtain ⟨W, ρ, S, rl, en, q⟩ := h
  unfold evE at q
  split at q
  · rename_i f hf
    split at q
    · rename_i hisf
      obtain ⟨n, F1, hn⟩ := F f hisf
      obtain ⟨k, fd, ps, F2, hr, hb⟩ := F1.ex
      obtain ⟨v, hv1, hv2⟩ := en.at_ i _ hf
      cases hv2 with
      | t hv2 =>
        cases hv2
        have h2 := argsCall (m := m) rl en hn q
        refine wpAny_Call_Name_kw (thn ((pe_var (pos := p) hN hv hdb hcd).run pins s σ H (fun v H1 => v = .ref (G.fa f) ∧ H1 = H) I ⟨_, hv1, rfl, rfl⟩) fun u s1 ⟨v, H1, I1, r1, q1⟩ => ?_)
        obtain ⟨rfl, rfl⟩ := q1
        cases r1
        refine PySem.W.callWith_K (h₀ := X.base) I.ok.mod.kin F1.kp (thn (ha.run pos pins s1 σ _ _ I1 h2) fun us s2 ⟨vs, H2, I2, r, q⟩ => ⟨I2.kIn, ?_⟩) he hpl
        exact run_fnS F2 hr hb (passAt tk σ) I2 r q
    · exact q.elim
  · exact q.elim
end
end Wc

/-! Wc: methods of built-in kinds. -/
namespace Wc
open PySem PySem.Spec PyProof.Rows L2
def bmOk : Bm → Bool
  | .append => true
  | .index => true
  | _ => false
def bmN : Bm → Str
  | .append => "append"
  | .index => "index"
  | _ => "?"
def knd : Nat → String
  | 3 => "list" | 5 => "dict" | 2 => "str" | 0 => "int" | _ => "?"
def bmId : Bm → String
  | .append => "list.append"
  | .index => "list.index"
  | _ => "?"
section
variable {G : Gd} {X : Cx} {B : Tb} {C : Cal} {Wx : WX}
theorem kindD_ok {K : PySem.W.Frag} {H : Hp} {W : Wd} {S : Sto} {v : V} {d : D} {n : Nat} (hK : K = G.K) (rl : Rel G H W S) (k : RD G W v d) (e : kindD S d = n) (hn : n ≠ 9) : tyV K (knd n) v H := by
  subst hK; subst e
  unfold kindD at hn ⊢
  split at hn
  · cases k.str_of; rfl
  · cases k.int_of; rfl
  · cases k with
    | t k => cases k with | lst h1 h2 => exact .inl ⟨rfl, _, .inl (.inl (rl.sub _ _ h1))⟩
  · cases k with
    | t k => cases k with | dct h1 h3 h2 => exact .inr (.inr (.inl ⟨rfl, .inl ⟨_, rl.sub _ _ h1⟩⟩))
  · cases k with
    | ref h1 =>
      split at hn
      · rename_i e1
        have ro := rl.obj _ _ _ e1 h1
        cases ro with
        | lst h3 h4 => exact .inl ⟨rfl, _, .inl (.inl h3)⟩
      · rename_i e1
        have ro := rl.obj _ _ _ e1 h1
        cases ro with
        | dct h3 h5 h4 => exact .inr (.inr (.inl ⟨rfl, .inl ⟨_, h3⟩⟩))
      · exact absurd rfl hn
  · exact absurd rfl hn
theorem pBm_noEx (m : Bool) (b : Bm) (x : D) (ds : List D) (S : Sto) : noEx (pBm m b x ds S) := by
  unfold pBm pApp pInd
  repeat' (first | exact True.intro | split)
def rBm (G : Gd) (m : Bool) (b : Bm) : V → List V → Hp → VK → Prop := fun x xs H Q => ∃ W S d ds, Rel G H W S ∧ RD G W x d ∧ RDs G W xs ds ∧ Aft G (fun W' v d => RD G W' v d) (fun _ _ _ => False) H W Q (pBm m b d ds S)
theorem mt_app {m : Bool} (hK : X.K = G.K) : MtR X "list.append" (rBm G m .append) := by
  intro pins s σ H x xs v us Q I rx rv h
  obtain ⟨W, S, d, ds, rl, k, ks, q⟩ := h
  have q : Aft G (fun W' v d => RD G W' v d) (fun _ _ _ => False) H W Q (pApp d ds S) := q
  unfold pApp at q
  split at q
  · split at q
    · rename_i ys e1
      split at q
      · rename_i hl
        cases k with
        | ref h1 =>
          have ro := rl.obj _ _ _ e1 h1
          cases ro with
          | lst h3 h4 =>
            obtain ⟨vy, rfl, ky⟩ := RDs.one ks
            have pt := rl.put (u := .lst (_ ++ [vy])) (o := .lst (ys ++ [_])) h1 e1 (fun z => nomatch z) fun H' e => .lst e (h4.append (.cons ky .nil))
            exact mt_append pins s σ H _ _ v us Q I rx rv ⟨_, _, vy, rfl, rfl, h3, by rw [h4.length]; have := lim_le; omega, q _ _ _ pt.1 pt.2 (.t .non)⟩
      · exact q.elim
    · exact q.elim
  · exact q.elim
theorem mt_ind {m : Bool} (hK : X.K = G.K) (hu : X.A.units + 65 < cLine) : MtR X "list.index" (rBm G m .index) := by
  intro pins s σ H x xs v us Q I rx rv h
  obtain ⟨W, S, d, ds, rl, k, ks, q⟩ := h
  have q : Aft G (fun W' v d => RD G W' v d) (fun _ _ _ => False) H W Q (pInd d ds S) := q
  unfold pInd at q
  split at q
  · obtain ⟨vy, rfl, ky⟩ := RDs.one ks
    split at q
    · rename_i zs z e1 e2
      split at q
      · rename_i hs
        rw [Bool.and_eq_true] at hs
        split at q
        · rename_i j ej
          obtain ⟨hj, h1, h2⟩ := List.findIdx?_eq_some_iff_getElem.mp ej
          have dl := look_ok rl k e1
          have dy := look_ok rl ky e2
          have hx : ∃ a, x = .ref a := by cases dl; exact ⟨_, rfl⟩
          obtain ⟨a, rfl⟩ := hx
          refine mt_indexD hu pins s σ H _ _ v us Q I rx rv ⟨a, vy, z, zs, j, zs[j], rfl, rfl, by rw [hK]; exact dl, by rw [hK]; exact dy, hs.2, hs.1, List.getElem?_eq_getElem hj, h1, fun i z' hi e => ?_, q _ _ W rl Ext.refl (.t (.int _))⟩
          have hi2 : i < zs.length := by omega
          rw [List.getElem?_eq_getElem hi2] at e
          cases e
          simpa using h2 i hi
        · exact q.elim
      · exact q.elim
    · exact q.elim
  · exact q.elim
theorem mt_all {m : Bool} (hK : X.K = G.K) (hu : X.A.units + 65 < cLine) : ∀ b, bmOk b = true → MtR X (bmId b) (rBm G m b)
  | .append, _ => mt_app hK
  | .index, _ => mt_ind hK hu
variable {o e : Expr} {es : List Expr} {io : IE} {ies : IEs} {name : Str} {apos cpos : Pos}
theorem sE_bm {m : Bool} {b : Bm} (hK : X.K = G.K) (hu : X.A.units + 65 < cLine) (hb : bmOk b = true) (pa : PlainAttrs (knd (bmT b))) (slot : Slot (knd (bmT b)) name (bmId b)) (hty : typeOf (.builtin (bmId b)) = pure (.type "method_descriptor"))
    (ho : PEv G X B C Wx o io) (ha : PAv G X B C Wx (e :: es) ies) (hbase : attributeBase o name X.env (eval o X.env) = eval o X.env)
    (hfew : ((backTo cpos (starEach (e :: es) X.env)).all (fun x => !x.1) && (backToKw cpos (keywordEach [] X.env)).all (fun x => x.1.isSome)
      && decide ((e :: es).length + ([] : List Keyword).length + (if ([] : List Keyword).isEmpty then 0 else 1) < 30)) = true)
    (hline : (apos.endLine == cpos.line) = true) (hs : starEach (e :: es) X.env = (false, eval e X.env) :: starEach es X.env) (hplain : (backTo cpos (starEach es X.env)).any (·.1) = false) :
    PEv G X B C Wx (.Call (.Attribute o name apos) (e :: es) [] cpos) (.bm m b io ies) := by
  refine pe_imp (pe_bm pa slot hty (mt_all (m := m) hK hu b hb) ho ha hbase hfew hline hs hplain) fun σ H Q h => ?_
  obtain ⟨W, ρ, S, rl, en, q⟩ := h
  rw [evE] at q
  refine ⟨W, ρ, S, rl, en, (Aft.bind (rel := fun W' v d => RD G W' v d) q).imp (fun v H1 ⟨d, S1, W1, r1, x1, k1, a1⟩ => ?_) fun _ _ _ z => z⟩
  by_cases hk : kindD S1 d = bmT b
  · rw [if_pos hk] at a1
    refine ⟨kindD_ok hK r1 k1 hk (by cases b <;> decide), W1, ρ, S1, r1, en.mono x1, (Aft.bind (rel := fun W' v d => RDs G W' v d) a1).imp (fun us H2 ⟨ds, S2, W2, r2, x2, k2, a2⟩ => ?_) fun _ _ _ z => z⟩
    exact ⟨W2, S2, d, ds, r2, k1.mono x2, k2, a2.noEx (pBm_noEx _ _ _ _ _)⟩
  · rw [if_neg hk] at a1
    exact a1.elim
end
end Wc

/-! Wc: targets, what is walked, comprehensions, statements. -/
namespace Wc
open PySem PySem.Spec PyProof.Rows L2
section
variable {G : Gd} {X : Cx} {B : Tb} {C : Cal} {Wx : WX}
/-! ### targets -/
def gL : List Nat → TGs
  | [] => gNil
  | i :: is => gCons (gName i) (gL is)
def gP (K : PySem.W.Frag) : Pt → TG
  | .v i => gName i
  | .tup is => gTup K is.length (gL is)
theorem gL_ok {W : Wd} {H : Hp} {Q : L2.St → Hp → Prop} : ∀ {is : List Nat} {ds : List D} {vs : List V} {σ : L2.St} {ρ : Ev}, RDs G W vs ds → is.length = ds.length → REn G W σ ρ →
    (∀ σ', REn G W σ' ((is.zip ds).foldl (fun ρ q => ρ.set q.1 (some q.2)) ρ) → Q σ' H) → gL is vs σ H Q
  | [], [], _, σ, ρ, k, hl, en, q => by cases k; exact ⟨rfl, q σ en⟩
  | i :: is, d :: ds, _, σ, ρ, k, hl, en, q => by
    cases k with
    | cons k1 k2 => exact ⟨_, _, rfl, gL_ok k2 (by simpa using hl) (en.set k1 i) q⟩
  | [], _ :: _, _, _, _, _, hl, _, _ => by simp at hl
  | _ :: _, [], _, _, _, _, hl, _, _ => by simp at hl
theorem gP_ok {K : PySem.W.Frag} {W : Wd} {H : Hp} {S : Sto} {Q : L2.St → Hp → Prop} {p : Pt} {d : D} {v : V} {σ : L2.St} {ρ ρ1 : Ev} (rl : Rel G H W S) (k : RD G W v d) (en : REn G W σ ρ) (e : setP p d ρ = some ρ1)
    (q : ∀ σ', REn G W σ' ρ1 → Q σ' H) : gP K p v σ H Q := by
  cases p with
  | v i => cases e; exact q _ (en.set k i)
  | tup is =>
    unfold setP at e
    simp only at e
    split at e
    · rename_i ds e1
      split at e
      · rename_i hl
        cases e
        obtain ⟨a, xs, rfl, h1, h2⟩ := asTup_ok rl k e1
        refine ⟨a, xs, rfl, SqT.of (rl.sub _ _ h1), ?_, gL_ok h2 hl.symm en q⟩
        rw [h2.length, hl]
      · cases e
    · cases e
/-! ### statements -/
def AftS (G : Gd) (Wx : WX) (D : Ends) (H : Hp) (W : Wd) : RS → Prop
  | .nx ρ S => ∀ σ H' W', Rel G H' W' S → Ext H W H' W' → REn G W' σ ρ → D.nx σ H'
  | .rt d S => ∀ v H' W', Rel G H' W' S → Ext H W H' W' → RD G W' v d → D.rt v H'
  | .bk ρ S => ∀ σ H' W', Rel G H' W' S → Ext H W H' W' → REn G W' σ ρ → D.bk σ H'
  | .ct ρ S => ∀ σ H' W', Rel G H' W' S → Ext H W H' W' → REn G W' σ ρ → D.ct σ H'
  | .ex c fs ρ S => ∀ cls dx σ H' W', Rel G H' W' S → Ext H W H' W' → REn G W' σ ρ → ExR G H' W' c fs cls dx → Wx cls dx σ H'
  | .no => False
def tS (G : Gd) (ev : Ev → Sto → RS) (Wx : WX) : TS := fun D σ H => ∃ W ρ S, Rel G H W S ∧ REn G W σ ρ ∧ AftS G Wx D H W (ev ρ S)
abbrev PSv (G : Gd) (X : Cx) (B : Tb) (C : Cal) (Wx : WX) (st : Stmt) (is : IS) : Prop := PS X st (tS G (evS B C is) Wx)
abbrev PSsv (G : Gd) (X : Cx) (B : Tb) (C : Cal) (Wx : WX) (st : List Stmt) (is : ISs) : Prop := PSs X st (tS G (evSs B C is) Wx)
theorem pss_imp {st : List Stmt} {t t' : TS} (h : PSs X st t) (k : ∀ D σ H, t' D σ H → t D σ H) : PSs X st t' := ⟨fun pins s σ H D I q => h.run pins s σ H D I (k _ _ _ q)⟩
theorem AftS.move {D : Ends} {H H1 : Hp} {W W1 : Wd} {r : RS} (h : AftS G Wx D H W r) (x : Ext H W H1 W1) : AftS G Wx D H1 W1 r := by
  cases r with
  | nx ρ S => exact fun σ H2 W2 r2 x2 e2 => h σ H2 W2 r2 (x.trans x2) e2
  | rt d S => exact fun v H2 W2 r2 x2 k2 => h v H2 W2 r2 (x.trans x2) k2
  | bk ρ S => exact fun σ H2 W2 r2 x2 e2 => h σ H2 W2 r2 (x.trans x2) e2
  | ct ρ S => exact fun σ H2 W2 r2 x2 e2 => h σ H2 W2 r2 (x.trans x2) e2
  | ex c fs ρ S => exact fun cls dx σ H2 W2 r2 x2 e2 k2 => h cls dx σ H2 W2 r2 (x.trans x2) e2 k2
  | no => exact h
/-- the statement's end by an expression's -/
def stE (r : R D) (ρ : Ev) (f : D → Sto → RS) : RS := match r with
  | .ok d S1 => f d S1
  | .ex c fs S1 => .ex c fs ρ S1
  | .no => .no
theorem stE_at {ev : Ev → Sto → R D} {f : D → Sto → RS} {σ : L2.St} {H : Hp} {W : Wd} {ρ : Ev} {S : Sto} {D : Ends} (rl : Rel G H W S) (en : REn G W σ ρ) (q : AftS G Wx D H W (stE (ev ρ S) ρ f)) :
    tE G ev Wx σ H (fun v H1 => ∃ d S1 W1, Rel G H1 W1 S1 ∧ Ext H W H1 W1 ∧ REn G W1 σ ρ ∧ RD G W1 v d ∧ AftS G Wx D H1 W1 (f d S1)) := by
  refine ⟨W, ρ, S, rl, en, ?_⟩
  cases e : ev ρ S with
  | ok d S1 =>
    rw [e] at q
    exact fun v H1 W1 r1 x1 k1 => ⟨d, S1, W1, r1, x1, en.mono x1, k1, AftS.move q x1⟩
  | ex c fs S1 =>
    rw [e] at q
    exact fun cls dx H1 W1 r1 x1 k1 => q cls dx σ H1 W1 r1 x1 (en.mono x1) k1
  | no => rw [e] at q; exact q
def stA (r : R (List D)) (ρ : Ev) (f : List D → Sto → RS) : RS := match r with
  | .ok d S1 => f d S1
  | .ex c fs S1 => .ex c fs ρ S1
  | .no => .no
theorem stA_at {ev : Ev → Sto → R (List D)} {f : List D → Sto → RS} {σ : L2.St} {H : Hp} {W : Wd} {ρ : Ev} {S : Sto} {D : Ends} (rl : Rel G H W S) (en : REn G W σ ρ) (q : AftS G Wx D H W (stA (ev ρ S) ρ f)) :
    tA G ev Wx σ H (fun v H1 => ∃ d S1 W1, Rel G H1 W1 S1 ∧ Ext H W H1 W1 ∧ REn G W1 σ ρ ∧ RDs G W1 v d ∧ AftS G Wx D H1 W1 (f d S1)) := by
  refine ⟨W, ρ, S, rl, en, ?_⟩
  cases e : ev ρ S with
  | ok d S1 =>
    rw [e] at q
    exact fun v H1 W1 r1 x1 k1 => ⟨d, S1, W1, r1, x1, en.mono x1, k1, AftS.move q x1⟩
  | ex c fs S1 =>
    rw [e] at q
    exact fun cls dx H1 W1 r1 x1 k1 => q cls dx σ H1 W1 r1 x1 (en.mono x1) k1
  | no => rw [e] at q; exact q
theorem sSs_nil : PSsv G X B C Wx [] .nil := pss_imp pss_nil fun D σ H ⟨W, ρ, S, rl, en, q⟩ => q σ H W rl Ext.refl en
theorem sSs_cons {st : Stmt} {rest : List Stmt} {is : IS} {iss : ISs} (h1 : PSv G X B C Wx st is) (h2 : PSsv G X B C Wx rest iss) : PSsv G X B C Wx (st :: rest) (.cons is iss) := pss_imp (pss_cons h1 h2) fun D σ H ⟨W, ρ, S, rl, en, q⟩ => by
  refine ⟨W, ρ, S, rl, en, ?_⟩
  have q : AftS G Wx D H W (match evS B C is ρ S with | .nx ρ1 S1 => evSs B C iss ρ1 S1 | x => x) := q
  cases e : evS B C is ρ S with
  | nx ρ1 S1 =>
    rw [e] at q
    exact fun σ' H1 W1 r1 x1 e1 => ⟨W1, ρ1, S1, r1, e1, AftS.move q x1⟩
  | rt d S1 => rw [e] at q; exact q
  | bk ρ1 S1 => rw [e] at q; exact q
  | ct ρ1 S1 => rw [e] at q; exact q
  | ex c fs ρ1 S1 => rw [e] at q; exact q
  | no => rw [e] at q; exact q
variable {e c : Expr} {ie ic : IE} {pos : Pos}
theorem evS_asg {p : Pt} : evS B C (.asg p ie) = fun ρ S => stE (evE B C ie ρ S) ρ fun d S1 => match setP p d ρ with
      | some ρ1 => .nx ρ1 S1
      | none => .no := by
  funext ρ S
  show (match evE B C ie ρ S with | .ok d S1 => _ | .ex c fs S1 => _ | .no => _) = _
  cases evE B C ie ρ S <;> rfl
theorem evS_ex : evS B C (.ex ie) = fun ρ S => stE (evE B C ie ρ S) ρ fun _ S1 => .nx ρ S1 := by
  funext ρ S
  show (match evE B C ie ρ S with | .ok d S1 => _ | .ex c fs S1 => _ | .no => _) = _
  cases evE B C ie ρ S <;> rfl
theorem evS_ret : evS B C (.ret ie) = fun ρ S => stE (evE B C ie ρ S) ρ fun d S1 => .rt d S1 := by
  funext ρ S
  show (match evE B C ie ρ S with | .ok d S1 => _ | .ex c fs S1 => _ | .no => _) = _
  cases evE B C ie ρ S <;> rfl
theorem evS_ite {a b : ISs} : evS B C (.ite ic a b) = fun ρ S => stE (evE B C ic ρ S) ρ fun d S1 => match d with
    | .t (.bl true) => evSs B C a ρ S1
    | .t (.bl false) => evSs B C b ρ S1
    | _ => .no := by
  funext ρ S
  show (match evE B C ic ρ S with | .ok (.t (.bl true)) S1 => _ | .ok (.t (.bl false)) S1 => _ | .ex k fs S1 => _ | _ => _) = _
  cases evE B C ic ρ S with
  | ok d S1 =>
    cases d with
    | t x =>
      cases x with
      | bl b => cases b <;> rfl
      | _ => rfl
    | _ => rfl
  | _ => rfl
theorem sS_asg {tg : Expr} {p : Pt} (he : PEv G X B C Wx e ie) (hg : PG X tg (gP X.K p)) (hs : swapsWithSole [tg] e pos.line X.env = pure false) (hw : swappedStores [tg] e X.env = pure none) (h1 : (assignEach [tg] X.env).map (·.2) = [assign tg X.env]) : PSv G X B C Wx (.Assign [tg] e pos) (.asg p ie) :=
  ps_imp (ps_asg he hg hs hw h1) fun D σ H ⟨W, ρ, S, rl, en, q⟩ => by
    rw [evS_asg] at q
    refine tE_imp (stE_at rl en q) fun v H1 ⟨d, S1, W1, r1, x1, e1, k1, a1⟩ => ?_
    split at a1
    · rename_i ρ1 e2
      exact gP_ok r1 k1 e1 e2 fun σ' e3 => a1 σ' H1 W1 r1 Ext.refl e3
    · exact a1.elim
theorem sS_ex (he : PEv G X B C Wx e ie) (hs : swapsWith e none pos.line X.env = pure false) : PSv G X B C Wx (.Expr e pos) (.ex ie) :=
  ps_imp (ps_expr he hs) fun D σ H ⟨W, ρ, S, rl, en, q⟩ => by
    rw [evS_ex] at q
    exact tE_imp (stE_at rl en q) fun v H1 ⟨d, S1, W1, r1, x1, e1, k1, a1⟩ => a1 σ H1 W1 r1 Ext.refl e1
theorem sS_ret (he : PEv G X B C Wx e ie) : PSv G X B C Wx (.Return (some e) pos) (.ret ie) :=
  ps_imp (ps_ret he) fun D σ H ⟨W, ρ, S, rl, en, q⟩ => by
    rw [evS_ret] at q
    exact tE_imp (stE_at rl en q) fun v H1 ⟨d, S1, W1, r1, x1, e1, k1, a1⟩ => a1 v H1 W1 r1 Ext.refl k1
theorem sS_retN : PSv G X B C Wx (.Return none pos) .retN :=
  ps_imp ps_retN fun D σ H ⟨W, ρ, S, rl, en, q⟩ => q .non H W rl Ext.refl (.t .non)
theorem sS_ite {a b : List Stmt} {ia ib : ISs} (hc : PTv G X B C Wx c ic) (ha : PSsv G X B C Wx a ia) (hb : PSsv G X B C Wx b ib) : PSv G X B C Wx (.If c a b pos) (.ite ic ia ib) :=
  ps_imp (ps_if hc ha hb) fun D σ H ⟨W, ρ, S, rl, en, q⟩ => by
    rw [evS_ite] at q
    refine tE_imp (stE_at rl en q) fun v H1 ⟨d, S1, W1, r1, x1, e1, k1, a1⟩ => ?_
    split at a1
    · cases k1.bl_of
      exact ⟨true, rfl, iteT ⟨W1, ρ, S1, r1, e1, a1⟩⟩
    · cases k1.bl_of
      exact ⟨false, rfl, iteF ⟨W1, ρ, S1, r1, e1, a1⟩⟩
    · exact a1.elim
theorem sS_brk : PSv G X B C Wx (.Break pos) .brk := ps_imp ps_break fun D σ H ⟨W, ρ, S, rl, en, q⟩ => q σ H W rl Ext.refl en
theorem sS_cnt : PSv G X B C Wx (.Continue pos) .cnt := ps_imp ps_continue fun D σ H ⟨W, ρ, S, rl, en, q⟩ => q σ H W rl Ext.refl en
theorem sS_pas : PSv G X B C Wx (.Pass pos) .pas := ps_imp ps_pass fun D σ H ⟨W, ρ, S, rl, en, q⟩ => q σ H W rl Ext.refl en
/-! ### what is walked -/
/-- from here on J tells the items xs -/
def Wk (G : Gd) (H1 : Hp) (W1 : Wd) (J : It) (xs : List D) : Prop := ∀ H W S, Rel G H W S → Ext H1 W1 H W → (∀ i, i < xs.length → J.go i H) ∧ J.stop xs.length H ∧
  ∀ i x H' d, xs[i]? = some d → J.yld i H x H' → ∃ W', Rel G H' W' S ∧ Ext H W H' W' ∧ RD G W' x d
def tI (G : Gd) (B : Tb) (C : Cal) (Wx : WX) (k : Ik) (ies : IEs) : TI := fun σ H Rr => ∃ W ρ S, Rel G H W S ∧ REn G W σ ρ ∧ match evEs B C ies ρ S with
  | .ok ds S1 => (match itemsOf k ds S1 with
    | none => False
    | some xs => ∀ J H1 W1, Rel G H1 W1 S1 → Ext H W H1 W1 → Wk G H1 W1 J xs → Rr J H1)
  | .ex c fs S1 => ∀ cls dx H1 W1, Rel G H1 W1 S1 → Ext H W H1 W1 → ExR G H1 W1 c fs cls dx → Wx cls dx σ H1
  | .no => False
theorem pi_imp {tg it : Expr} {t t' : TI} (h : PI X tg it t) (k : ∀ σ H R, t' σ H R → t σ H R) : PI X tg it t' := ⟨fun pins s σ H R I q => h.run pins s σ H R I (k _ _ _ q)⟩
theorem pi_or {tg it : Expr} {t t' : TI} (h : PI X tg it t) (h' : PI X tg it t') : PI X tg it (fun σ H R => t σ H R ∨ t' σ H R) := ⟨fun pins s σ H R I q => q.elim (h.run pins s σ H R I) (h'.run pins s σ H R I)⟩
theorem Wk.seq {H1 : Hp} {W1 : Wd} {J : It} {vs : List V} {ds : List D} (k : RDs G W1 vs ds) (hgo : ∀ i H, Same W1.Hf H → i < vs.length → J.go i H) (hst : ∀ H, Same W1.Hf H → J.stop vs.length H)
    (hy : ∀ i H x H', Same W1.Hf H → J.yld i H x H' → i < vs.length → H' = H ∧ vs[i]? = some x) : Wk G H1 W1 J ds := fun H W S rl x => by
  have sm : Same W1.Hf H := x.hf.trans rl.sub
  refine ⟨fun i hi => hgo i H sm (by rw [k.length]; exact hi), by rw [← k.length]; exact hst H sm, fun i v H' d hd y => ?_⟩
  have hi : i < vs.length := by rw [k.length]; exact (List.getElem?_eq_some_iff.mp hd).1
  obtain ⟨rfl, hv⟩ := hy i H v H' sm y hi
  obtain ⟨v', h1, h2⟩ := k.get hd
  rw [hv] at h1
  cases h1
  exact ⟨W, rl, Ext.refl, h2.mono x⟩
theorem Wk.list {H1 : Hp} {W1 : Wd} {a : Addr} {vs : List V} {ds : List D} (h : SqL G.K W1.Hf a vs) (k : RDs G W1 vs ds) : Wk G H1 W1 (Itl G.K a) ds := by
  have w := walk_list (K := G.K) (a := a) (xs := vs)
  exact Wk.seq k (fun i H sm hi => w.goes i H hi (sm.seq h)) (fun H sm => w.stops H (sm.seq h)) fun i H x H' sm y hi => w.yields i H x H' hi (sm.seq h) y
theorem Wk.tup {H1 : Hp} {W1 : Wd} {a : Addr} {vs : List V} {ds : List D} (h : W1.Hf a = some (.tup vs)) (k : RDs G W1 vs ds) : Wk G H1 W1 (Itt G.K a) ds := by
  have w := walk_tup (K := G.K) (a := a) (xs := vs)
  exact Wk.seq k (fun i H sm hi => w.goes i H hi (SqT.of (sm _ _ h))) (fun H sm => w.stops H (SqT.of (sm _ _ h))) fun i H x H' sm y hi => w.yields i H x H' hi (SqT.of (sm _ _ h)) y
theorem RDs.signs {W : Wd} : ∀ l : List Nat, RDs G W (l.map fun c => V.str ⟨#[c]⟩) (l.map fun c => .t (.str ⟨#[c]⟩))
  | [] => .nil
  | c :: l => .cons (.t (.str _)) (RDs.signs l)
theorem RDs.range {W : Wd} (lo : Int) (n : Nat) : RDs G W ((List.range n).map fun (i : Nat) => V.int (lo + i)) ((List.range n).map fun (i : Nat) => .t (.int (lo + i))) := by
  generalize List.range n = l
  induction l with
  | nil => exact .nil
  | cons i l ih => exact .cons (.t (.int _)) ih
theorem Wk.str {H1 : Hp} {W1 : Wd} (z : Str) : Wk G H1 W1 (Its z) (z.cps.toList.map fun c => .t (.str ⟨#[c]⟩)) := by
  have w := walk_str (z := z)
  have hl : (z.cps.toList.map fun c => V.str ⟨#[c]⟩).length = z.cps.size := by simp
  refine Wk.seq (RDs.signs _) (fun i H sm hi => w.goes i H (by rw [hl] at hi; exact hi) True.intro) (fun H sm => by rw [hl]; exact w.stops H True.intro) fun i H x H' sm y hi => ?_
  obtain ⟨h1, c, h2, h3⟩ := w.yields i H x H' (by rw [hl] at hi; exact hi) True.intro y
  refine ⟨h1, ?_⟩
  rw [List.getElem?_map, h3]
  simp [h2]
theorem Wk.range {H1 : Hp} {W1 : Wd} (lo : Int) (n : Nat) : Wk G H1 W1 (Itr lo n) ((List.range n).map fun (i : Nat) => .t (.int (lo + i))) := by
  have w := walk_range (lo := lo) (n := n)
  have hl : ((List.range n).map fun (i : Nat) => V.int (lo + i)).length = n := by simp
  refine Wk.seq (RDs.range lo n) (fun i H sm hi => w.goes i H (by rw [hl] at hi; exact hi) True.intro) (fun H sm => by rw [hl]; exact w.stops H True.intro) fun i H x H' sm y hi => ?_
  have hi' : i < n := by rw [hl] at hi; exact hi
  obtain ⟨h1, h2⟩ := w.yields i H x H' hi' True.intro y
  refine ⟨h1, ?_⟩
  rw [List.getElem?_map, h2]
  simp [hi']
theorem Wk.range0 {H1 : Hp} {W1 : Wd} (n : Nat) : Wk G H1 W1 (Itr 0 n) ((List.range n).map fun (i : Nat) => .t (.int (i : Int))) := by
  have h := Wk.range (G := G) (H1 := H1) (W1 := W1) 0 n
  have e : ((List.range n).map fun (i : Nat) => D.t (.int (0 + (i : Int)))) = (List.range n).map fun (i : Nat) => .t (.int (i : Int)) := by
    congr 1; funext i; rw [Int.zero_add]
  rw [e] at h; exact h
theorem evEs_one {ρ : Ev} {S : Sto} : evEs B C (.cons ie .nil) ρ S = (evE B C ie ρ S).bind fun x S1 => .ok [x] S1 := rfl
theorem sI_seq {tg : Expr} (hK : X.K = G.K) (he : PEv G X B C Wx e ie) : PI X tg e (tI G B C Wx .seq (.cons ie .nil)) := by
  refine pi_imp (pi_or (pi_list he) (pi_or (pi_tup he) (pi_str he))) fun σ H Rr ⟨W, ρ, S, rl, en, q⟩ => ?_
  rw [evEs_one] at q
  rw [hK]
  cases e : evE B C ie ρ S with
  | ok d S1 =>
    rw [e] at q
    simp only [Wc.R.bind_ok] at q
    split at q
    · exact q.elim
    · rename_i xs e2
      unfold itemsOf at e2
      split at e2
      · rename_i ns _ hd
        cases hd; cases e2
        refine .inl ⟨W, ρ, S, rl, en, ?_⟩
        rw [e]
        intro v H1 W1 r1 x1 k1
        cases k1 with
        | t k1 =>
          cases k1 with
          | scr h => exact ⟨_, rfl, ⟨_, r1.sub.seq h⟩, q _ H1 W1 r1 x1 (Wk.list h (RDs.intsT ns))⟩
      · rename_i ts hd
        cases hd; cases e2
        refine .inl ⟨W, ρ, S, rl, en, ?_⟩
        rw [e]
        intro v H1 W1 r1 x1 k1
        cases k1 with
        | t k1 =>
          cases k1 with
          | lst h h2 => exact ⟨_, rfl, ⟨_, SqL.of (r1.sub _ _ h)⟩, q _ H1 W1 r1 x1 (Wk.list (SqL.of h) (RDs.ofT h2))⟩
      · rename_i ts hd
        cases hd; cases e2
        refine .inr (.inl ⟨W, ρ, S, rl, en, ?_⟩)
        rw [e]
        intro v H1 W1 r1 x1 k1
        cases k1 with
        | t k1 =>
          cases k1 with
          | tup h h2 => exact ⟨_, rfl, ⟨_, SqT.of (r1.sub _ _ h)⟩, q _ H1 W1 r1 x1 (Wk.tup h (RDs.ofT h2))⟩
      · rename_i ts hd
        cases hd; cases e2
        refine .inr (.inl ⟨W, ρ, S, rl, en, ?_⟩)
        rw [e]
        intro v H1 W1 r1 x1 k1
        cases k1 with
        | tup h h2 => exact ⟨_, rfl, ⟨_, SqT.of (r1.sub _ _ h)⟩, q _ H1 W1 r1 x1 (Wk.tup h h2)⟩
      · rename_i z _ hd
        cases hd; cases e2
        refine .inr (.inr ⟨W, ρ, S, rl, en, ?_⟩)
        rw [e]
        intro v H1 W1 r1 x1 k1
        cases k1.str_of
        exact ⟨_, rfl, q _ H1 W1 r1 x1 (Wk.str z)⟩
      · rename_i hk _; cases hk
      · rename_i hk _; cases hk
      · cases e2
  | ex c fs S1 =>
    rw [e] at q
    exact .inl ⟨W, ρ, S, rl, en, by rw [e]; exact q⟩
  | no => rw [e] at q; exact q.elim
theorem sI_rng {tg a : Expr} {ia : IE} {p : Pos} (hg : Gl X "range") (hm : X.mg "range" = none) (ha : PEv G X B C Wx a ia) (hs : starEach [a] X.env = [(false, eval a X.env)]) : PI X tg (.Call (.Name "range" p) [a] [] pos) (tI G B C Wx .rng (.cons ia .nil)) := by
  refine pi_imp (pi_range1 hg hm (pa_cons ha pa_nil hs) hs) fun σ H Rr ⟨W, ρ, S, rl, en, q⟩ => ?_
  rw [evEs_one] at q
  refine ⟨W, ρ, S, rl, en, ?_⟩
  cases e : evE B C ia ρ S with
  | ok d S1 =>
    rw [e] at q
    simp only [Wc.R.bind_ok] at q
    split at q
    · exact q.elim
    · rename_i xs e2
      unfold itemsOf at e2
      split at e2
      · rename_i hk _; cases hk
      · rename_i hk _; cases hk
      · rename_i hk _; cases hk
      · rename_i hk _; cases hk
      · rename_i hk _; cases hk
      · rename_i n hd
        cases hd
        split at e2
        · rename_i hb
          cases e2
          intro v H1 W1 r1 x1 k1
          cases k1.int_of
          exact ⟨_, rfl, hb.1, hb.2, q _ H1 W1 r1 x1 (Wk.range0 _)⟩
        · cases e2
      · rename_i hd; cases hd
      · cases e2
  | ex c fs S1 => rw [e] at q; exact q
  | no => rw [e] at q; exact q
theorem sI_rng2 {tg a b : Expr} {ies : IEs} {p : Pos} (hg : Gl X "range") (hm : X.mg "range" = none) (ha : PAv G X B C Wx [a, b] ies) (hs : starEach [a, b] X.env = [(false, eval a X.env), (false, eval b X.env)]) (hs2 : starEach [b] X.env = [(false, eval b X.env)]) (h2 : lenIEs ies = 2) : PI X tg (.Call (.Name "range" p) [a, b] [] pos) (tI G B C Wx .rng ies) := by
  refine pi_imp (pi_range2 hg hm ha hs hs2) fun σ H Rr ⟨W, ρ, S, rl, en, q⟩ => ?_
  refine ⟨W, ρ, S, rl, en, ?_⟩
  cases e : evEs B C ies ρ S with
  | ok ds S1 =>
    rw [e] at q
    simp only at q
    intro vs H1 W1 r1 x1 k1
    have hl : ds.length = 2 := (evEs_len e).trans h2
    split at q
    · exact q.elim
    · rename_i xs e2
      unfold itemsOf at e2
      split at e2
      · contradiction
      · contradiction
      · contradiction
      · contradiction
      · contradiction
      · simp at hl
      · rename_i i j
        split at e2
        · rename_i hb
          cases e2
          obtain ⟨v, u, rfl, k2, k3⟩ := RDs.two k1
          cases k2.int_of
          cases k3.int_of
          exact ⟨_, _, rfl, ⟨hb.1, hb.2.1, hb.2.2.1, hb.2.2.2⟩, q _ H1 W1 r1 x1 (Wk.range _ _)⟩
        · cases e2
      · cases e2
  | ex c fs S1 => rw [e] at q; exact q
  | no => rw [e] at q; exact q
end
end Wc

/-! Wc: loops. -/
namespace Wc
open PySem PySem.Spec PyProof.Rows L2
section
variable {G : Gd} {X : Cx} {B : Tb} {C : Cal} {Wx : WX} {pos : Pos}
theorem drop_at {α : Type} {xs : List α} {i : Nat} (h : i < xs.length) : ∃ d, xs[i]? = some d ∧ xs.drop i = d :: xs.drop (i + 1) :=
  ⟨xs[i], by simp [h], List.drop_eq_getElem_cons h⟩
theorem evS_fo {p : Pt} {k : Ik} {ies : IEs} {b : ISs} : evS B C (.fo p k ies b) = fun ρ S => stA (evEs B C ies ρ S) ρ fun ds S1 => match itemsOf k ds S1 with
      | some xs => foL p (evSs B C b) xs ρ S1
      | none => .no := by
  funext ρ S
  show (match evEs B C ies ρ S with | .ok d S1 => _ | .ex c fs S1 => _ | .no => _) = _
  cases evEs B C ies ρ S <;> rfl
theorem sS_fo {tg iter : Expr} {body : List Stmt} {p : Pt} {k : Ik} {ies : IEs} {b : ISs} (hp : PassesOwn (model X.prog X.w) X.A X.env X.xe) (hc : X.calm = true) (hi : PI X tg iter (tI G B C Wx k ies)) (hg : PG X tg (gP X.K p)) (hb : PSsv G X B C Wx body b)
    (hs : ∀ x, foldedSetIterable iter X.env x = pure x) : PSv G X B C Wx (.For tg iter body [] pos) (.fo p k ies b) := by
  refine ps_imp (ps_for hp hc hi hg hb hs) fun D σ H ⟨W, ρ, S, rl, en, q⟩ => ?_
  have q : AftS G Wx D H W (stA (evEs B C ies ρ S) ρ fun ds S1 => match itemsOf k ds S1 with
      | some xs => foL p (evSs B C b) xs ρ S1
      | none => .no) := by rw [evS_fo] at q; exact q
  refine ⟨W, ρ, S, rl, en, ?_⟩
  cases e : evEs B C ies ρ S with
  | no => rw [e] at q; exact q.elim
  | ex c fs S1 => rw [e] at q; exact fun cls dx H1 W1 r1 x1 k1 => q cls dx σ H1 W1 r1 x1 (en.mono x1) k1
  | ok ds S1 =>
    rw [e] at q
    have q : AftS G Wx D H W (match itemsOf k ds S1 with | some xs => foL p (evSs B C b) xs ρ S1 | none => .no) := q
    cases e2 : itemsOf k ds S1 with
    | none => rw [e2] at q; exact q.elim
    | some xs =>
      rw [e2] at q
      simp only [e2]
      intro J H1 W1 r1 x1 wk
      refine ⟨fun i m σ' H' => m = xs.length - i ∧ i ≤ xs.length ∧ ∃ W' ρ' S', Rel G H' W' S' ∧ Ext H1 W1 H' W' ∧ REn G W' σ' ρ' ∧ AftS G Wx D H' W' (foL p (evSs B C b) (xs.drop i) ρ' S'),
        ⟨xs.length, by simp, Nat.zero_le _, W1, ρ, S1, r1, Ext.refl, en.mono x1, by rw [List.drop_zero]; exact AftS.move q x1⟩, ?_⟩
      rintro i m σ' H' ⟨rfl, hi, W', ρ', S', r', x', e', a'⟩
      obtain ⟨hgo, hst, hy⟩ := wk H' W' S' r' x'
      by_cases hl : i < xs.length
      · obtain ⟨d, hd, hdr⟩ := drop_at hl
        refine .inr ⟨hgo i hl, fun σ2 H2 => ∃ W2 ρ2 S2, Rel G H2 W2 S2 ∧ Ext H1 W1 H2 W2 ∧ REn G W2 σ2 ρ2 ∧ AftS G Wx D H2 W2 (foL p (evSs B C b) (xs.drop (i + 1)) ρ2 S2), fun σ2 H2 ⟨W2, ρ2, S2, h1, h2, h3, h4⟩ => ⟨xs.length - (i + 1), by omega, rfl, hl, W2, ρ2, S2, h1, h2, h3, h4⟩, fun x H2 y => ?_⟩
        obtain ⟨W2, r2, x2, k2⟩ := hy i x H2 d hd y
        rw [hdr] at a'
        unfold foL at a'
        cases e3 : setP p d ρ' with
        | none => rw [e3] at a'; exact a'.elim
        | some ρ1 =>
          rw [e3] at a'
          refine gP_ok r2 k2 (e'.mono x2) e3 fun σ3 e4 => ⟨W2, ρ1, S', r2, e4, ?_⟩
          have a' : AftS G Wx D H' W' (match evSs B C b ρ1 S' with | .nx ρ2 S2 => foL p (evSs B C b) (xs.drop (i + 1)) ρ2 S2 | .ct ρ2 S2 => foL p (evSs B C b) (xs.drop (i + 1)) ρ2 S2 | .bk ρ2 S2 => .nx ρ2 S2 | r => r) := a'
          have a' := AftS.move a' x2
          cases e5 : evSs B C b ρ1 S' with
          | nx ρ2 S2 => rw [e5] at a'; exact fun σ4 H4 W4 r4 x4 e4 => ⟨W4, ρ2, S2, r4, (x'.trans x2).trans x4, e4, AftS.move a' x4⟩
          | ct ρ2 S2 => rw [e5] at a'; exact fun σ4 H4 W4 r4 x4 e4 => ⟨W4, ρ2, S2, r4, (x'.trans x2).trans x4, e4, AftS.move a' x4⟩
          | bk ρ2 S2 => rw [e5] at a'; exact a'
          | rt d S2 => rw [e5] at a'; exact a'
          | ex c fs ρ2 S2 => rw [e5] at a'; exact a'
          | no => rw [e5] at a'; exact a'
      · have hi' : i = xs.length := by omega
        subst hi'
        rw [List.drop_length] at a'
        exact .inl ⟨hst, a' σ' H' W' r' Ext.refl e'⟩
theorem sS_wh {c : Expr} {ic : IE} {body : List Stmt} {b : ISs} (hp : PassesOwn (model X.prog X.w) X.A X.env X.xe) (hc : PTv G X B C Wx c ic) (hb : PSsv G X B C Wx body b) : PSv G X B C Wx (.While c body [] pos) (.wh ic b) := by
  refine ps_imp (ps_while hp hc hb) fun D σ H ⟨W, ρ, S, rl, en, q⟩ => ?_
  have q : AftS G Wx D H W (whL (evE B C ic) (evSs B C b) wf ρ S) := q
  refine ⟨fun m σ' H' => ∃ W' ρ' S', Rel G H' W' S' ∧ REn G W' σ' ρ' ∧ AftS G Wx D H' W' (whL (evE B C ic) (evSs B C b) m ρ' S'), ⟨wf, W, ρ, S, rl, en, q⟩, ?_⟩
  rintro m σ' H' ⟨W', ρ', S', r', e', a'⟩
  cases m with
  | zero => exact a'.elim
  | succ n =>
    unfold whL at a'
    refine ⟨W', ρ', S', r', e', ?_⟩
    cases e1 : evE B C ic ρ' S' with
    | no => rw [e1] at a'; exact a'.elim
    | ex c fs S1 => rw [e1] at a'; exact fun cls dx H1 W1 r1 x1 k1 => a' cls dx σ' H1 W1 r1 x1 (e'.mono x1) k1
    | ok d S1 =>
      rw [e1] at a'
      intro v H1 W1 r1 x1 k1
      have bad : (∀ b, d ≠ .t (.bl b)) → False := fun hn => by
        cases d with
        | t x =>
          cases x with
          | bl b => exact hn b rfl
          | _ => exact a'.elim
        | _ => exact a'.elim
      by_cases hd : ∃ b, d = .t (.bl b)
      · obtain ⟨b0, rfl⟩ := hd
        cases k1.bl_of
        refine ⟨b0, rfl, ?_⟩
        cases b0 with
        | false => exact iteF (a' σ' H1 W1 r1 x1 (e'.mono x1))
        | true =>
          refine iteT ⟨fun σ4 H4 => ∃ W4 ρ2 S2, Rel G H4 W4 S2 ∧ REn G W4 σ4 ρ2 ∧ AftS G Wx D H4 W4 (whL (evE B C ic) (evSs B C b) n ρ2 S2), fun σ4 H4 h4 => ⟨n, Nat.lt_succ_self n, h4⟩, W1, ρ', S1, r1, e'.mono x1, ?_⟩
          have a' : AftS G Wx D H' W' (match evSs B C b ρ' S1 with | .nx ρ2 S2 => whL (evE B C ic) (evSs B C b) n ρ2 S2 | .ct ρ2 S2 => whL (evE B C ic) (evSs B C b) n ρ2 S2 | .bk ρ2 S2 => .nx ρ2 S2 | r => r) := a'
          have a' := AftS.move a' x1
          cases e5 : evSs B C b ρ' S1 with
          | nx ρ2 S2 => rw [e5] at a'; exact fun σ4 H4 W4 r4 x4 e4 => ⟨W4, ρ2, S2, r4, e4, AftS.move a' x4⟩
          | ct ρ2 S2 => rw [e5] at a'; exact fun σ4 H4 W4 r4 x4 e4 => ⟨W4, ρ2, S2, r4, e4, AftS.move a' x4⟩
          | bk ρ2 S2 => rw [e5] at a'; exact a'
          | rt d S2 => rw [e5] at a'; exact a'
          | ex c fs ρ2 S2 => rw [e5] at a'; exact a'
          | no => rw [e5] at a'; exact a'
      · exact (bad fun b hb => hd ⟨b, hb⟩).elim
/-! ### comprehensions -/
theorem Rel.outside {H : Hp} {W : Wd} {S : Sto} {D : Addr} {u : HO} (r : Rel G H W S) (h0 : W.Hf D = none) (hF : D ∉ W.F) : Rel G (upd H D u) W S := by
  have e : ∀ a, a ≠ D → upd H D u a = H a := fun a h => upd_ne h
  refine ⟨fun a x h => ?_, r.len, r.nd, fun a h => ?_, r.apart, fun k o a h1 h2 => ?_⟩
  · have : a ≠ D := fun z => by rw [z, h0] at h; cases h
    rw [e a this]; exact r.sub a x h
  · have : a ≠ D := fun z => hF (z ▸ h)
    rw [e a this]; exact r.out a h
  · have : a ≠ D := fun z => hF (z ▸ r.inF h2)
    exact (r.obj k o a h1 h2).mono (fun x hx => by rw [e a this]; exact hx) (Same.refl _) (List.prefix_refl _)
theorem Ext.outside {H1 H : Hp} {W1 W : Wd} {D : Addr} {u : HO} (x : Ext H1 W1 H W) (h1 : H1 D = none) : Ext H1 W1 (upd H D u) W := by
  refine ⟨x.hf, x.f, fun a y h n => ?_, fun a y h => ?_, x.fresh, x.freshF⟩
  · have : a ≠ D := fun z => by rw [z, h1] at h; cases h
    rw [upd_ne this]; exact x.old a y h n
  · have : a ≠ D := fun z => by rw [z, h1] at h; cases h
    rw [upd_ne this]; exact x.live a y h
/-- what was made on the way is taken in: frozen -/
theorem adoptF {H1 H : Hp} {W1 W : Wd} {S : Sto} {D : Addr} {u : HO} (r : Rel G H W S) (x : Ext H1 W1 H W) (h1 : H1 D = none) (h0 : W.Hf D = none) (hF : D ∉ W.F) (hD : H D = some u) :
    Rel G H ⟨upd W.Hf D u, W.F⟩ S ∧ Ext H1 W1 H ⟨upd W.Hf D u, W.F⟩ ∧ Same W.Hf (upd W.Hf D u) := by
  have s1 : Same W.Hf (upd W.Hf D u) := fun b y e => by rw [upd_ne (ne_of_none e h0)]; exact e
  refine ⟨⟨fun a y h => ?_, r.len, r.nd, r.out, fun k o a h1 h2 hd => ?_, fun k o a h1 h2 => (r.obj k o a h1 h2).mono (fun _ h => h) s1 (List.prefix_refl _)⟩, ⟨x.hf.trans s1, x.f, x.old, x.live, fun a h => ?_, x.freshF⟩, s1⟩
  · have h : upd W.Hf D u a = some y := h
    by_cases z : a = D
    · subst z; rw [upd_same] at h; cases h; exact hD
    · rw [upd_ne z] at h; exact r.sub a y h
  · have z : a ≠ D := fun z => hF (z ▸ r.inF h2)
    show upd W.Hf D u a = none
    rw [upd_ne z]; exact r.apart k o a h1 h2 hd
  · by_cases z : a = D
    · subst z; exact .inr (.inl h1)
    · have h' : upd W.Hf D u a ≠ none := h
      rw [upd_ne z] at h'; exact x.fresh a h'
/-- .. as a thing -/
theorem adoptA {H1 H : Hp} {W1 W : Wd} {S : Sto} {D : Addr} {u : HO} {o : O} (r : Rel G H W S) (x : Ext H1 W1 H W) (h1 : H1 D = none) (h0 : W.Hf D = none) (hF : D ∉ W.F) (hD : H D = some u) (ho : RO G H ⟨W.Hf, W.F ++ [D]⟩ D o) :
    Rel G H ⟨W.Hf, W.F ++ [D]⟩ (S ++ [o]) ∧ Ext H1 W1 H ⟨W.Hf, W.F ++ [D]⟩ ∧ RD G ⟨W.Hf, W.F ++ [D]⟩ (.ref D) (.ref S.length) := by
  have pr : W.F <+: W.F ++ [D] := List.prefix_append _ _
  have spl : ∀ {k : Nat} {a : Addr}, (W.F ++ [D])[k]? = some a → (k < W.F.length ∧ W.F[k]? = some a) ∨ (k = W.F.length ∧ a = D) := fun {k a} h => by
    by_cases hk : k < W.F.length
    · rw [List.getElem?_append_left hk] at h; exact .inl ⟨hk, h⟩
    · have hk' := (List.getElem?_eq_some_iff.mp h).1
      have e : k = W.F.length := by simp at hk'; omega
      subst e
      exact .inr ⟨rfl, by simpa using h.symm⟩
  have splS : ∀ {k : Nat} {q : O}, (S ++ [o])[k]? = some q → (k < S.length ∧ S[k]? = some q) ∨ (k = S.length ∧ q = o) := fun {k q} h => by
    by_cases hk : k < S.length
    · rw [List.getElem?_append_left hk] at h; exact .inl ⟨hk, h⟩
    · have hk' := (List.getElem?_eq_some_iff.mp h).1
      have e : k = S.length := by simp at hk'; omega
      subst e
      exact .inr ⟨rfl, by simpa using h.symm⟩
  refine ⟨⟨r.sub, by simp [r.len], fun i j a e1 e2 => ?_, fun a h => ?_, fun k q a e1 e2 hd => ?_, fun k q a e1 e2 => ?_⟩, ⟨x.hf, x.f.trans pr, x.old, x.live, x.fresh, fun a h => ?_⟩, .ref (by show (W.F ++ [D])[S.length]? = some D; rw [← r.len]; simp)⟩
  · rcases spl e1 with ⟨l1, f1⟩ | ⟨l1, f1⟩ <;> rcases spl e2 with ⟨l2, f2⟩ | ⟨l2, f2⟩
    · exact r.nd i j a f1 f2
    · subst f2; exact (hF (List.mem_of_getElem? f1)).elim
    · subst f1; exact (hF (List.mem_of_getElem? f2)).elim
    · omega
  · rcases List.mem_append.mp h with h | h
    · exact r.out a h
    · simp at h; subst h; exact ⟨_, hD⟩
  · rcases spl e2 with ⟨l2, f2⟩ | ⟨l2, f2⟩
    · rcases splS e1 with ⟨l1, f1⟩ | ⟨l1, f1⟩
      · exact r.apart k q a f1 f2 hd
      · rw [r.len] at l2; omega
    · subst f2; exact h0
  · rcases spl e2 with ⟨l2, f2⟩ | ⟨l2, f2⟩
    · rcases splS e1 with ⟨l1, f1⟩ | ⟨l1, f1⟩
      · exact (r.obj k q a f1 f2).mono (fun _ h => h) (Same.refl _) pr
      · rw [r.len] at l2; omega
    · rcases splS e1 with ⟨l1, f1⟩ | ⟨l1, f1⟩
      · rw [r.len] at l2; omega
      · subst f2; subst f1; exact ho
  · rcases List.mem_append.mp h with h | h
    · exact x.freshF a h
    · simp at h; subst h; exact .inr h1
theorem adopt {H1 H : Hp} {W1 W : Wd} {S : Sto} {D : Addr} {acc : List V} {ys : List Wc.D} {m : Bool} {Q : VK} {Wz : Value → Option Addr → Hp → Prop} (r : Rel G H W S) (x : Ext H1 W1 H W) (h1 : H1 D = none) (h0 : W.Hf D = none) (hF : D ∉ W.F) (hD : H D = some (.lst acc)) (k : RDs G W acc ys)
    (q : Aft G (fun W' v d => RD G W' v d) Wz H1 W1 Q (mkL m ys S)) : Q (.ref D) H := by
  unfold mkL at q
  cases m with
  | false =>
    rw [if_neg (by simp)] at q
    cases e : pls ys with
    | none => rw [e] at q; exact q.elim
    | some ts =>
      rw [e] at q
      have e2 := pls_eq e
      subst e2
      obtain ⟨r2, x2, s1⟩ := adoptF r x h1 h0 hF hD
      exact q (.ref D) H _ r2 x2 (.t (.lst upd_same (RTs.mono s1 k.toT)))
  | true =>
    rw [if_pos rfl] at q
    have kk : RDs G ⟨W.Hf, W.F ++ [D]⟩ acc ys := RDs.mono' (W := W) (W' := ⟨W.Hf, W.F ++ [D]⟩) (Same.refl _) (List.prefix_append _ _) k
    obtain ⟨r2, x2, k2⟩ := adoptA r x h1 h0 hF hD (.lst hD kk)
    exact q _ H _ r2 x2 k2
/-! ### dict displays -/
theorem RDs_map {W : Wd} {vs : List V} {ds : List (Ky × Wc.D)} (h : RDs G W vs (ds.map (·.2))) : vs.length = ds.length := by rw [h.length, List.length_map]
theorem putKy_ok {W : Wd} {k : Ky} {v : V} {d : Wc.D} (kd : RD G W v d) : ∀ {kvs : List (Key × V)} {ds : List (Ky × Wc.D)}, kvs.map (·.1) = ds.map (·.1) → RDs G W (kvs.map (·.2)) (ds.map (·.2)) →
    (putK kvs k v).map (·.1) = (putKy ds k d).map (·.1) ∧ RDs G W ((putK kvs k v).map (·.2)) ((putKy ds k d).map (·.2)) := by
  intro kvs ds hk hd
  have hany : ∀ {kvs : List (Key × V)} {ds : List (Ky × Wc.D)}, kvs.map (·.1) = ds.map (·.1) → (kvs.any fun kv => decide (kv.1 = k)) = (ds.any fun kv => decide (kv.1 = k)) := by
    intro kvs
    induction kvs with
    | nil => intro ds h; cases ds with | nil => rfl | cons => simp at h
    | cons p kvs ih =>
      intro ds h
      cases ds with
      | nil => simp at h
      | cons q ds =>
        simp only [List.map_cons, List.cons.injEq] at h
        simp only [List.any_cons, h.1, ih h.2]
  have hmap : ∀ {kvs : List (Key × V)} {ds : List (Ky × Wc.D)}, kvs.map (·.1) = ds.map (·.1) → RDs G W (kvs.map (·.2)) (ds.map (·.2)) →
      (kvs.map (fun kv => if kv.1 = k then (kv.1, v) else kv)).map (·.1) = (ds.map (fun kv => if kv.1 = k then (kv.1, d) else kv)).map (·.1) ∧ RDs G W ((kvs.map (fun kv => if kv.1 = k then (kv.1, v) else kv)).map (·.2)) ((ds.map (fun kv => if kv.1 = k then (kv.1, d) else kv)).map (·.2)) := by
    intro kvs
    induction kvs with
    | nil => intro ds h r; cases ds with | nil => exact ⟨rfl, .nil⟩ | cons => simp at h
    | cons p kvs ih =>
      intro ds h r
      cases ds with
      | nil => simp at h
      | cons q ds =>
        obtain ⟨p1, p2⟩ := p
        obtain ⟨q1, q2⟩ := q
        simp only [List.map_cons, List.cons.injEq] at h
        obtain ⟨rfl, h⟩ := h
        cases r with
        | cons r1 r2 =>
          obtain ⟨i1, i2⟩ := ih h r2
          by_cases e : p1 = k
          · subst e
            simp only [List.map_cons, if_true]
            exact ⟨by rw [i1], .cons kd i2⟩
          · simp only [List.map_cons, if_neg e]
            exact ⟨by rw [i1], .cons r1 i2⟩
  unfold putK putKy
  rw [hany hk]
  by_cases h : (ds.any fun kv => decide (kv.1 = k)) = true
  · rw [if_pos h, if_pos h]; exact hmap hk hd
  · rw [if_neg h, if_neg h]
    rw [List.map_append, List.map_append, List.map_append, List.map_append, hk]
    exact ⟨rfl, hd.append (.cons kd .nil)⟩
theorem merge_ok {W : Wd} : ∀ {more : List (Key × V)} {mds : List (Ky × Wc.D)} {kvs : List (Key × V)} {ds : List (Ky × Wc.D)}, more.map (·.1) = mds.map (·.1) → RDs G W (more.map (·.2)) (mds.map (·.2)) → kvs.map (·.1) = ds.map (·.1) → RDs G W (kvs.map (·.2)) (ds.map (·.2)) →
    (mergeK kvs more).map (·.1) = (mds.foldl (fun acc p => putKy acc p.1 p.2) ds).map (·.1) ∧ RDs G W ((mergeK kvs more).map (·.2)) ((mds.foldl (fun acc p => putKy acc p.1 p.2) ds).map (·.2))
  | [], [], kvs, ds, _, _, h, r => ⟨h, r⟩
  | p :: more, q :: mds, kvs, ds, hm, rm, h, r => by
    obtain ⟨p1, p2⟩ := p
    obtain ⟨q1, q2⟩ := q
    simp only [List.map_cons, List.cons.injEq] at hm
    obtain ⟨e0, hm'⟩ := hm
    subst e0
    cases rm with
    | cons r1 r2 =>
      obtain ⟨i1, i2⟩ := putKy_ok (k := p1) r1 h r
      have := merge_ok hm' r2 i1 i2
      exact this
  | [], _ :: _, _, _, hm, _, _, _ => by simp at hm
  | _ :: _, [], _, _, hm, _, _, _ => by simp at hm
theorem plk_eq : ∀ {ds : List (Ky × Wc.D)} {ts : List (Ky × T)}, plk ds = some ts → ds = ts.map fun p => (p.1, .t p.2)
  | [], ts, h => by simp [plk] at h; subst h; rfl
  | (k, .t x) :: r, ts, h => by
    simp only [plk, Option.map_eq_some_iff] at h
    obtain ⟨us, h, rfl⟩ := h
    simp [plk_eq h]
  | (_, .ref _) :: r, ts, h => by simp [plk] at h
  | (_, .tup _) :: r, ts, h => by simp [plk] at h
theorem adoptD {H1 H : Hp} {W1 W : Wd} {S : Sto} {D : Addr} {kvs : List (Key × V)} {ds : List (Ky × Wc.D)} {m : Bool} {Q : VK} {Wz : Value → Option Addr → Hp → Prop} (r : Rel G H W S) (x : Ext H1 W1 H W) (h1 : H1 D = none) (h0 : W.Hf D = none) (hF : D ∉ W.F) (hD : H D = some (.dK kvs))
    (hk : kvs.map (·.1) = ds.map (·.1)) (k : RDs G W (kvs.map (·.2)) (ds.map (·.2))) (q : Aft G (fun W' v d => RD G W' v d) Wz H1 W1 Q (mkD m ds S)) : Q (.ref D) H := by
  unfold mkD at q
  cases m with
  | false =>
    rw [if_neg (by simp)] at q
    cases e : plk ds with
    | none => rw [e] at q; exact q.elim
    | some ts =>
      rw [e] at q
      have e2 := plk_eq e
      subst e2
      obtain ⟨r2, x2, s1⟩ := adoptF r x h1 h0 hF hD
      have k' : RDs G W (kvs.map (·.2)) ((ts.map (·.2)).map .t) := by simpa [Function.comp_def] using k
      exact q (.ref D) H _ r2 x2 (.t (.dct upd_same (by simpa [Function.comp_def] using hk) (RTs.mono s1 k'.toT)))
  | true =>
    rw [if_pos rfl] at q
    have kk : RDs G ⟨W.Hf, W.F ++ [D]⟩ (kvs.map (·.2)) (ds.map (·.2)) := RDs.mono' (W := W) (W' := ⟨W.Hf, W.F ++ [D]⟩) (Same.refl _) (List.prefix_append _ _) k
    obtain ⟨r2, x2, k2⟩ := adoptA r x h1 h0 hF hD (.dct hD hk kk)
    exact q _ H _ r2 x2 k2
/-- the pairs of a display -/
def trsOf (G : Gd) (B : Tb) (C : Cal) (Wx : WX) : IEs → List (TE × TE)
  | .cons k (.cons v r) => (tE G (evE B C k) Wx, tE G (evE B C v) Wx) :: trsOf G B C Wx r
  | _ => []
theorem tE_at0 {eva : Ev → Sto → R Wc.D} {f : Wc.D → Sto → R Wc.D} {σ : L2.St} {H0 H : Hp} {W0 W : Wd} {ρ : Ev} {S : Sto} {Q : VK} (rl : Rel G H W S) (en : REn G W σ ρ) (x0 : Ext H0 W0 H W)
    (q : Aft G (fun W' v d => RD G W' v d) (fun cls dx H' => Wx cls dx σ H') H0 W0 Q ((eva ρ S).bind f)) :
    tE G eva Wx σ H (fun v H1 => ∃ d S1 W1, Rel G H1 W1 S1 ∧ Ext H W H1 W1 ∧ REn G W1 σ ρ ∧ RD G W1 v d ∧ Aft G (fun W' v d => RD G W' v d) (fun cls dx H' => Wx cls dx σ H') H0 W0 Q (f d S1)) := by
  refine ⟨W, ρ, S, rl, en, ?_⟩
  cases e : eva ρ S with
  | ok d S1 => rw [e] at q; exact fun v H1 W1 r1 x1 k1 => ⟨d, S1, W1, r1, x1, en.mono x1, k1, q⟩
  | ex c fs S1 => rw [e] at q; exact fun cls dx H1 W1 r1 x1 k1 => q cls dx H1 W1 r1 (x0.trans x1) k1
  | no => rw [e] at q; exact q
theorem tPairs_ok {σ : L2.St} : ∀ {ies : IEs} {H0 H : Hp} {W0 W : Wd} {ρ : Ev} {S : Sto} {Q : List (V × V) → Hp → Prop} {f : List (Ky × Wc.D) → Sto → R Wc.D} {Wz : VK}, Rel G H W S → REn G W σ ρ → Ext H0 W0 H W →
    Aft G (fun W' v d => RD G W' v d) (fun cls dx H' => Wx cls dx σ H') H0 W0 Wz ((evPs B C ies ρ S).bind f) →
    (∀ (kvs : List (Key × V)) (ds : List (Ky × Wc.D)) H' W' S', Rel G H' W' S' → Ext H W H' W' → kvs.map (·.1) = ds.map (·.1) → RDs G W' (kvs.map (·.2)) (ds.map (·.2)) → Aft G (fun W' v d => RD G W' v d) (fun cls dx H' => Wx cls dx σ H') H0 W0 Wz (f ds S') → 2 * ds.length ≤ lenIEs ies → Q (kvs.map fun kv => (kV kv.1, kv.2)) H') →
    tPairs (trsOf G B C Wx ies) σ H Q
  | .nil, H0, H, W0, W, ρ, S, Q, f, Wz, rl, en, x0, q, hk => hk [] [] H W S rl Ext.refl rfl .nil q (Nat.le_refl _)
  | .cons a .nil, H0, H, W0, W, ρ, S, Q, f, Wz, rl, en, x0, q, hk => q.elim
  | .cons a (.cons b r), H0, H, W0, W, ρ, S, Q, f, Wz, rl, en, x0, q, hk => by
    have q : Aft G (fun W' v d => RD G W' v d) (fun cls dx H' => Wx cls dx σ H') H0 W0 Wz ((evE B C a ρ S).bind fun x S1 => (evE B C b ρ S1).bind fun y S2 => match kyOf x with
        | none => .no
        | some ky => (evPs B C r ρ S2).bind fun ps S3 => f ((ky, y) :: ps) S3) := by
      have e : ((evPs B C (.cons a (.cons b r)) ρ S).bind f) = ((evE B C a ρ S).bind fun x S1 => (evE B C b ρ S1).bind fun y S2 => match kyOf x with
        | none => .no
        | some ky => (evPs B C r ρ S2).bind fun ps S3 => f ((ky, y) :: ps) S3) := by
        show (((evE B C a ρ S).bind fun x S1 => (evE B C b ρ S1).bind fun y S2 => match kyOf x with
          | none => R.no
          | some ky => (evPs B C r ρ S2).bind fun ps S3 => .ok ((ky, y) :: ps) S3).bind f) = _
        cases evE B C a ρ S with
        | ok x S1 =>
          simp only [Wc.R.bind_ok]
          cases evE B C b ρ S1 with
          | ok y S2 =>
            simp only [Wc.R.bind_ok]
            cases kyOf x with
            | none => rfl
            | some ky =>
              simp only
              cases evPs B C r ρ S2 <;> rfl
          | _ => rfl
        | _ => rfl
      rw [← e]; exact q
    refine tE_imp (tE_at0 rl en x0 q) fun x H1 ⟨dx, S1, W1, r1, x1, e1, k1, a1⟩ => ?_
    refine tE_imp (tE_at0 r1 e1 (x0.trans x1) a1) fun y H2 ⟨dy, S2, W2, r2, x2, e2, k2, a2⟩ => ?_
    cases ek : kyOf dx with
    | none => rw [ek] at a2; exact a2.elim
    | some ky =>
      rw [ek] at a2
      refine tPairs_ok (f := fun ps S3 => f ((ky, dy) :: ps) S3) (Wz := Wz) r2 e2 ((x0.trans x1).trans x2) a2 fun kvs ds H' W' S' r' x' h1 h2 h3 h4 => ?_
      have hv := kyOf_ok ((k1.mono x2).mono x') ek
      have := hk ((ky, y) :: kvs) ((ky, dy) :: ds) H' W' S' r' ((x1.trans x2).trans x') (by simp [h1]) (.cons (k2.mono x') h2) h3 (by simp [lenIEs]; omega)
      rw [hv]; exact this
theorem putKy_len {k : Ky} {v : Wc.D} (ds : List (Ky × Wc.D)) : (putKy ds k v).length ≤ ds.length + 1 := by
  unfold putKy
  split <;> simp
theorem tDisp_ok {m : Bool} {ies : IEs} {σ : L2.St} {H : Hp} {Q : VK} (h30 : lenIEs ies ≤ 30) (h : tE G (evE B C (.dct m ies)) Wx σ H Q) : tDisp (trsOf G B C Wx ies) σ H Q := by
  obtain ⟨W, ρ, S, rl, en, q⟩ := h
  intro L hL
  have hfL : W.Hf L = none := rl.sub.free hL
  have hFL : L ∉ W.F := fun ha => by
    obtain ⟨u, hu⟩ := rl.out L ha
    rw [hL] at hu; cases hu
  have q : Aft G (fun W' v d => RD G W' v d) (fun cls dx H' => Wx cls dx σ H') H W Q ((evPs B C ies ρ S).bind fun ps S1 => mkD m (ps.foldl (fun acc p => putKy acc p.1 p.2) []) S1) := q
  have x0 : Ext H W (upd H L (.dK [])) W := Ext.refl.outside hL
  refine tPairs_ok (rl.outside hfL hFL) en x0 q fun kvs ds H' W' S' r' x' h1 h2 h3 h4 => ?_
  have hold : H' L = some (.dK []) := x'.old L _ upd_same hFL
  have hf' : W'.Hf L = none := by
    cases e : W'.Hf L with
    | none => rfl
    | some u =>
      rcases x'.fresh L (by rw [e]; simp) with z | z | z
      · exact absurd hfL z
      · rw [upd_same] at z; cases z
      · exact absurd z hFL
  have hF' : L ∉ W'.F := fun z => by
    rcases x'.freshF L z with z | z
    · exact hFL z
    · rw [upd_same] at z; cases z
  refine ⟨hold, kvs, rfl, ?_, ?_⟩
  · have e : kvs.length = ds.length := by simpa using congrArg List.length h1
    omega
  · obtain ⟨i1, i2⟩ := merge_ok (W := W') (kvs := []) (ds := []) h1 h2 rfl .nil
    exact adoptD (r'.outside hf' hF') ((x0.trans x').outside hL) hL hf' hF' upd_same i1 i2 h3
theorem wipe_set {σ : L2.St} {i : Nat} {x : Option V} : ∀ {vs : List Nat}, i ∈ vs → wipe (σ.set i x) vs = wipe σ vs
  | v :: vs, h => by
    show (wipe (σ.set i x) vs).set v none = (wipe σ vs).set v none
    by_cases hv : i ∈ vs
    · rw [wipe_set hv]
    · have e : i = v := by simp at h; rcases h with h | h; exact h; exact absurd h hv
      subst e
      have comm : ∀ (vs : List Nat), i ∉ vs → wipe (σ.set i x) vs = (wipe σ vs).set i x := by
        intro vs
        induction vs with
        | nil => intro _; rfl
        | cons w ws ih =>
          intro hw
          simp only [List.mem_cons, not_or] at hw
          show (wipe (σ.set i x) ws).set w none = ((wipe σ ws).set w none).set i x
          rw [ih hw.2, List.set_comm _ _ hw.1]
      rw [comm vs hv, List.set_set]
  | [], h => by simp at h
theorem wipe_wipe (σ : L2.St) : ∀ (vs ws : List Nat), (∀ v ∈ vs, v ∈ ws) → wipe (wipe σ vs) ws = wipe σ ws
  | [], ws, _ => rfl
  | v :: vs, ws, h => by
    show wipe ((wipe σ vs).set v none) ws = wipe σ ws
    rw [wipe_set (h v (by simp)), wipe_wipe σ vs ws fun u hu => h u (by simp [hu])]
theorem REn.wipe {W : Wd} {σ : L2.St} {ρ : Ev} (h : REn G W σ ρ) : ∀ vs : List Nat, REn G W (L2.wipe σ vs) (wipeL ρ vs)
  | [] => h
  | v :: vs => (REn.wipe h vs).clear v
theorem gL_okW {W : Wd} {H : Hp} {ws : List Nat} {σ0 : L2.St} {Q : L2.St → Hp → Prop} : ∀ {is : List Nat} {ds : List Wc.D} {vs : List V} {σ : L2.St} {ρ : Ev}, RDs G W vs ds → is.length = ds.length → REn G W σ ρ → (∀ i ∈ is, i ∈ ws) → wipe σ ws = σ0 →
    (∀ σ', REn G W σ' ((is.zip ds).foldl (fun ρ q => ρ.set q.1 (some q.2)) ρ) → wipe σ' ws = σ0 → Q σ' H) → gL is vs σ H Q
  | [], [], _, σ, ρ, k, hl, en, hi, hw, q => by cases k; exact ⟨rfl, q σ en hw⟩
  | i :: is, d :: ds, _, σ, ρ, k, hl, en, hi, hw, q => by
    cases k with
    | cons k1 k2 => exact ⟨_, _, rfl, gL_okW k2 (by simpa using hl) (en.set k1 i) (fun j hj => hi j (by simp [hj])) (by rw [wipe_set (hi i (by simp))]; exact hw) q⟩
  | [], _ :: _, _, _, _, _, hl, _, _, _, _ => by simp at hl
  | _ :: _, [], _, _, _, _, hl, _, _, _, _ => by simp at hl
theorem gP_okW {K : PySem.W.Frag} {W : Wd} {H : Hp} {S : Sto} {Q : L2.St → Hp → Prop} {p : Pt} {d : Wc.D} {v : V} {σ σ0 : L2.St} {ρ ρ1 : Ev} (rl : Rel G H W S) (k : RD G W v d) (en : REn G W σ ρ) (e : setP p d ρ = some ρ1) (hw : wipe σ p.own = σ0)
    (q : ∀ σ', REn G W σ' ρ1 → wipe σ' p.own = σ0 → Q σ' H) : gP K p v σ H Q := by
  cases p with
  | v i => cases e; exact q _ (en.set k i) (by rw [wipe_set (by simp [Pt.own])]; exact hw)
  | tup is =>
    unfold setP at e
    simp only at e
    split at e
    · rename_i ds e1
      split at e
      · rename_i hl
        cases e
        obtain ⟨a, xs, rfl, h1, h2⟩ := asTup_ok rl k e1
        refine ⟨a, xs, rfl, SqT.of (rl.sub _ _ h1), ?_, gL_okW h2 hl.symm en (fun i hi => hi) hw q⟩
        rw [h2.length, hl]
      · cases e
    · cases e
/-- how a comprehension reads -/
theorem tLc_ok {m : Bool} {el cond : IE} {p : Pt} {k : Ik} {ies : IEs} {tt : TT} {σ : L2.St} {H : Hp} {Q : VK} (htt : ∀ σ H Q, tTest (tE G (evE B C cond) (fun _ _ _ _ => False)) σ H Q → tt σ H Q)
    (h : tE G (evE B C (.lc m el p k ies cond)) Wx σ H Q) : tLc (tI G B C Wx k ies) (gP X.K p) tt (tE G (evE B C el) (fun _ _ _ _ => False)) p.own σ H Q := by
  obtain ⟨W, ρ, S, rl, en, q⟩ := h
  have q : Aft G (fun W' v d => RD G W' v d) (fun cls dx H' => Wx cls dx σ H') H W Q ((evEs B C ies ρ S).bind fun ds S1 => match itemsOf k ds S1 with
    | none => .no
    | some xs => (lcL p (wipeL ρ p.own) (evE B C cond) (evE B C el) xs S1 []).bind fun ys S2 => mkL m ys S2) := q
  refine ⟨W, ρ, S, rl, en, ?_⟩
  cases e : evEs B C ies ρ S with
  | no => rw [e] at q; exact q.elim
  | ex c fs S1 => rw [e] at q; exact q
  | ok ds S1 =>
    rw [e] at q
    simp only [Wc.R.bind_ok] at q
    cases e2 : itemsOf k ds S1 with
    | none => rw [e2] at q; exact q.elim
    | some xs =>
      rw [e2] at q
      simp only [e2]
      intro J H1 W1 r1 x1 wk L hL
      have q := Aft.move q x1
      have hfL : W1.Hf L = none := r1.sub.free hL
      have hFL : L ∉ W1.F := fun ha => by
        obtain ⟨u, hu⟩ := r1.out L ha
        rw [hL] at hu; cases hu
      refine ⟨fun i m' H' => m' = xs.length - i ∧ i ≤ xs.length ∧ ∃ W' S' acc ys, Rel G H' W' S' ∧ Ext H1 W1 H' W' ∧ W'.Hf L = none ∧ L ∉ W'.F ∧ H' L = some (.lst acc) ∧ RDs G W' acc ys ∧
          Aft G (fun W' v d => RD G W' v d) (fun cls dx H' => Wx cls dx σ H') H1 W1 Q ((lcL p (wipeL ρ p.own) (evE B C cond) (evE B C el) (xs.drop i) S' ys).bind fun ys S2 => mkL m ys S2),
        ⟨xs.length, by simp, Nat.zero_le _, W1, S1, [], [], r1.outside hfL hFL, Ext.refl.outside hL, hfL, hFL, upd_same, .nil, by rw [List.drop_zero]; exact q⟩, ?_⟩
      rintro i m' H' ⟨rfl, hi, W', S', acc, ys, r', x', h0, hF, hD, k', a'⟩
      obtain ⟨hgo, hst, hy⟩ := wk H' W' S' r' x'
      by_cases hl : i < xs.length
      · obtain ⟨d, hd, hdr⟩ := drop_at hl
        refine .inr ⟨hgo i hl, fun H2 => ∃ W2 S2 acc ys, Rel G H2 W2 S2 ∧ Ext H1 W1 H2 W2 ∧ W2.Hf L = none ∧ L ∉ W2.F ∧ H2 L = some (.lst acc) ∧ RDs G W2 acc ys ∧
          Aft G (fun W' v d => RD G W' v d) (fun cls dx H' => Wx cls dx σ H') H1 W1 Q ((lcL p (wipeL ρ p.own) (evE B C cond) (evE B C el) (xs.drop (i + 1)) S2 ys).bind fun ys S2 => mkL m ys S2),
          fun H2 hN => ⟨xs.length - (i + 1), by omega, rfl, hl, hN⟩, fun x H2 y => ?_⟩
        obtain ⟨W2, r2, x2, k2⟩ := hy i x H2 d hd y
        rw [hdr] at a'
        unfold lcL at a'
        -- what stays of the list in the making
        have stay : ∀ {H3 H4 : Hp} {W3 W4 : Wd}, Ext H3 W3 H4 W4 → W3.Hf L = none → L ∉ W3.F → H3 L = some (.lst acc) → W4.Hf L = none ∧ L ∉ W4.F ∧ H4 L = some (.lst acc) := fun {H3 H4 W3 W4} x a b c => by
          refine ⟨?_, fun z => ?_, x.old _ _ c b⟩
          · cases e : W4.Hf L with
            | none => rfl
            | some u =>
              rcases x.fresh L (by rw [e]; simp) with z | z | z
              · exact absurd a z
              · rw [c] at z; cases z
              · exact absurd z b
          · rcases x.freshF L z with z | z
            · exact b z
            · rw [c] at z; cases z
        obtain ⟨s1, s2, s3⟩ := stay x2 h0 hF hD
        have en2 : REn G W2 (wipe σ p.own) (wipeL ρ p.own) := (((en.mono x1).mono x').mono x2).wipe p.own
        cases e3 : setP p d (wipeL ρ p.own) with
        | none => rw [e3] at a'; exact a'.elim
        | some ρ1 =>
          rw [e3] at a'
          refine gP_okW r2 k2 en2 e3 (wipe_wipe σ p.own p.own fun _ h => h) fun σ2 e4 hw => ⟨hw, htt _ _ _ ⟨W2, ρ1, S', r2, e4, ?_⟩⟩
          cases e5 : evE B C cond ρ1 S' with
          | no => simp only [e5] at a'; exact a'.elim
          | ex c fs S3 => simp only [e5] at a'; exact a'.elim
          | ok dc S3 =>
            intro vc H3 W3 r3 x3 k3
            obtain ⟨t1, t2, t3⟩ := stay x3 s1 s2 s3
            by_cases hb : ∃ b, dc = .t (.bl b)
            · obtain ⟨b, rfl⟩ := hb
              cases k3.bl_of
              refine ⟨b, rfl, ?_⟩
              cases b with
              | false =>
                simp only [e5] at a'
                exact iteF ⟨W3, S3, acc, ys, r3, (x'.trans x2).trans x3, t1, t2, t3, (k'.mono x2).mono x3, a'⟩
              | true =>
                simp only [e5] at a'
                refine iteT ⟨W3, ρ1, S3, r3, e4.mono x3, ?_⟩
                cases e6 : evE B C el ρ1 S3 with
                | no => simp only [e6] at a'; exact a'.elim
                | ex c fs S4 => simp only [e6] at a'; exact a'.elim
                | ok dy S4 =>
                  simp only [e6] at a'
                  intro y4 H4 W4 r4 x4 k4
                  obtain ⟨u1, u2, u3⟩ := stay x4 t1 t2 t3
                  split at a'
                  · rename_i hlen
                    have kl := k'.length
                    refine ⟨acc, u3, ?_, W4, S4, acc ++ [y4], ys ++ [dy], r4.outside u1 u2, (((x'.trans x2).trans x3).trans x4).outside hL, u1, u2, upd_same, (((k'.mono x2).mono x3).mono x4).append (.cons k4 .nil), a'⟩
                    rw [kl]; exact Nat.lt_of_lt_of_le hlen lim_le
                  · exact a'.elim
            · have a2 : False := by
                cases dc with
                | t x =>
                  cases x with
                  | bl b => exact hb ⟨b, rfl⟩
                  | _ => simp only [e5] at a'; exact a'.elim
                | _ => simp only [e5] at a'; exact a'.elim
              exact a2.elim
      · have hi' : i = xs.length := by omega
        subst hi'
        rw [List.drop_length] at a'
        exact .inl ⟨hst, adopt r' x' hL h0 hF hD k' a'⟩
end
end Wc

/-! Wc: x[y] = v. -/
namespace Wc
open PySem PySem.Spec PyProof.Rows L2
section
variable {G : Gd} {X : Cx} {B : Tb} {C : Cal} {Wx : WX}
def rSt (G : Gd) : V → V → V → Hp → (Hp → Prop) → Prop := fun o i v H Q => ∃ W S x y d S', Rel G H W S ∧ RD G W o x ∧ RD G W i y ∧ RD G W v d ∧ pSt x y d S = some S' ∧ ∀ H', Rel G H' W S' → Ext H W H' W → Q H'
theorem RDs.setAt {W : Wd} : ∀ {ds : List Wc.D} {vs : List V} {v : V} {d : Wc.D} (j : Nat), RDs G W vs ds → RD G W v d → RDs G W (vs.set j v) (ds.set j d)
  | [], _, _, _, _, h, _ => by cases h; exact .nil
  | a :: ds, _, _, _, 0, h, k => by cases h with | cons h1 h2 => exact .cons k h2
  | a :: ds, _, _, _, j + 1, h, k => by cases h with | cons h1 h2 => exact .cons h1 (RDs.setAt j h2 k)
theorem set_ok (hK : X.K = G.K) (hu : X.A.units + 1 < cLine) : PSet X (rSt G) := by
  intro pins s σ H o i v ov iv u Q I ro ri rv h
  obtain ⟨W, S, x, y, d, S', rl, k1, k2, k3, e, q⟩ := h
  unfold pSt at e
  split at e
  · split at e
    · rename_i ys e1
      split at e
      · cases k1 with
        | ref h1 =>
          have ro' := rl.obj _ _ _ e1 h1
          cases ro' with
          | lst h3 h4 =>
            cases k2.int_of
            obtain ⟨j, ej, rfl⟩ := Option.map_eq_some_iff.mp e
            have pt := rl.put (u := .lst (_ : List V)) (o := .lst (ys.set j d)) h1 e1 (fun z => nomatch z) fun H' e => .lst e (RDs.setAt j h4 k3)
            exact set_list pins s σ H _ _ v ov iv u Q I ro ri rv ⟨_, _, _, j, rfl, rfl, h3, by rw [h4.length]; exact ej, q _ pt.1 pt.2⟩
      · cases e
    · rename_i kvs e1
      split at e
      · rename_i ky e2
        split at e
        · rename_i hl
          cases e
          cases k1 with
          | ref h1 =>
            have ro' := rl.obj _ _ _ e1 h1
            cases ro' with
            | dct h3 h5 h4 =>
              have hv := kyOf_ok k2 e2
              obtain ⟨p1, p2⟩ := putKy_ok (G := G) (k := ky) k3 h5 h4
              have pt := rl.put (u := .dK (putK _ ky v)) (o := .dct (putKy kvs ky d)) h1 e1 (fun z => nomatch z) fun H' e => .dct e p1 p2
              have hl2 := congrArg List.length h5
              simp only [List.length_map] at hl2
              subst hv
              have := lim_le
              exact set_dict hu pins s σ H _ _ v ov iv u Q I ro ri rv ⟨_, _, rfl, DPut.k h3 (by rw [hl2]; omega), q _ pt.1 pt.2⟩
        · cases e
      · cases e
    · cases e
  · cases e
variable {o i e : Expr} {io ii ie : IE} {pos pos' : Pos}
theorem sS_sti (hK : X.K = G.K) (hu : X.A.units + 1 < cLine) (he : PEv G X B C Wx e ie) (ho : PEv G X B C Wx o io) (hi : PEv G X B C Wx i ii) (hs : swapsWithSole [.Subscript o i pos'] e pos.line X.env = pure false) (hw : swappedStores [.Subscript o i pos'] e X.env = pure none)
    (hq : ∀ v, assign (.Subscript o i pos') X.env v = (do
      let ov ← holding [v] (eval o X.env)
      let iv ← holding [v, ov] (eval i X.env)
      standAt pos'
      holding [v, ov, iv] (setItem ov iv v)
      release [v, ov, iv] [])) :
    PSv G X B C Wx (.Assign [.Subscript o i pos'] e pos) (.sti io ii ie) :=
  ps_imp (ps_asg he (pg_sub ho hi (set_ok hK hu) hq) hs hw rfl) fun D σ H ⟨W, ρ, S, rl, en, q⟩ => by
    have q : AftS G Wx D H W (stE (evE B C ie ρ S) ρ fun v S1 => stE (evE B C io ρ S1) ρ fun x S2 => stE (evE B C ii ρ S2) ρ fun y S3 => nxO ρ (pSt x y v S3)) := by
      have : evS B C (.sti io ii ie) ρ S = stE (evE B C ie ρ S) ρ fun v S1 => stE (evE B C io ρ S1) ρ fun x S2 => stE (evE B C ii ρ S2) ρ fun y S3 => nxO ρ (pSt x y v S3) := by
        rw [evS]
        cases evE B C ie ρ S with
        | ok v S1 =>
          first
          | (simp only [stE]; done)
          | (simp only [stE]
             cases evE B C io ρ S1 with
             | ok x S2 =>
               simp only
               cases evE B C ii ρ S2 <;> rfl
             | _ => rfl)
        | _ => rfl
      rw [← this]; exact q
    refine tE_imp (stE_at (ev := evE B C ie) rl en q) fun v H1 ⟨d, S1, W1, r1, x1, e1, k1, a1⟩ => ?_
    refine tE_imp (stE_at (ev := evE B C io) r1 e1 a1) fun o' H2 ⟨dx, S2, W2, r2, x2, e2, k2, a2⟩ => ?_
    refine tE_imp (stE_at (ev := evE B C ii) r2 e2 a2) fun i' H3 ⟨dy, S3, W3, r3, x3, e3, k3, a3⟩ => ?_
    cases e4 : pSt dx dy d S3 with
    | none => rw [e4] at a3; exact a3.elim
    | some S4 =>
      rw [e4] at a3
      exact ⟨W3, S3, dx, dy, d, S4, r3, k2.mono x3, k3, (k1.mono x2).mono x3, e4, fun H' r4 x4 => a3 σ H' W3 r4 x4 e3⟩
end
end Wc

/-! Wc: the small language is the text's: a check, and what it is worth. -/
namespace Wc
open PySem PySem.Spec PyProof.Rows L2

/-- what of the text's top is known by name -/
structure Tx where
  gn : Str → Option T
  bn : Str → Bool
  fnm : Nat → Option Str
def visB (sc : Scope) (x : Str) : Bool := match sc.names.lookup x with
  | some .local => true
  | some .cell => true
  | some .free => true
  | _ => false
def gloB (sc : Scope) (x : Str) : Bool := match sc.names.lookup x with
  | some .globalImplicit => true
  | _ => false
def stoB (sc : Scope) (x : Str) : Bool := match sc.names.lookup x with
  | some .local => true
  | some .cell => true
  | _ => false
def okNm (x : Str) : Bool := (x == ("__debug__" : Str)) == false && (x == ("__classdict__" : Str)) == false && (x == ("__name__" : Str)) == false
def sameT : T → T → Bool
  | .non, .non => true
  | .bl a, .bl b => a == b
  | .int a, .int b => a == b
  | .str a, .str b => a == b
  | .fn a, .fn b => a == b
  | _, _ => false
theorem sameT_eq {a b : T} (h : sameT a b = true) : a = b := by
  cases a <;> cases b <;> simp_all [sameT]
def opEq : Operator → Operator → Bool
  | .Add, .Add => true | .Sub, .Sub => true | .Mult, .Mult => true | .FloorDiv, .FloorDiv => true | .Mod, .Mod => true | .Pow, .Pow => true
  | .LShift, .LShift => true | .RShift, .RShift => true | .BitAnd, .BitAnd => true | .BitOr, .BitOr => true | .BitXor, .BitXor => true | _, _ => false
theorem opEq_eq {a b : Operator} (h : opEq a b = true) : a = b := by
  cases a <;> cases b <;> first | rfl | cases h
def cmEq : CmpOp → CmpOp → Bool
  | .Eq, .Eq => true | .NotEq, .NotEq => true | .Lt, .Lt => true | .LtE, .LtE => true | .Gt, .Gt => true | .GtE, .GtE => true | .Is, .Is => true | .IsNot, .IsNot => true | .In, .In => true | .NotIn, .NotIn => true | _, _ => false
theorem cmEq_eq {a b : CmpOp} (h : cmEq a b = true) : a = b := by
  cases a <;> cases b <;> first | rfl | cases h
def notStar : Expr → Bool
  | .Starred _ _ => false
  | _ => true
def notSet : Expr → Bool
  | .Set _ _ _ => false
  | _ => true
def notSl : Expr → Bool
  | .Slice _ _ _ _ => false
  | _ => true
def notLc : Expr → Bool
  | .ListComp _ _ _ _ => false
  | .SetComp _ _ _ _ => false
  | .DictComp _ _ _ _ _ => false
  | _ => true
def notTup : Expr → Bool
  | .Tuple _ _ _ => false
  | .List _ _ => false
  | _ => true
def notCall : Expr → Bool
  | .Call _ _ _ _ => false
  | _ => true
theorem base_of {e : Expr} (h : notCall e = true) (a : Str) (env : Env) (w : Sem Value) : attributeBase e a env w = w := by
  cases e <;> first | rfl | cases h
theorem star_of {e : Expr} (h : notStar e = true) (es : List Expr) (env : Env) : starEach (e :: es) env = (false, eval e env) :: starEach es env := by
  cases e <;> first | rfl | cases h
def stars : List Expr → Bool
  | [] => true
  | e :: es => notStar e && stars es
theorem stars_of : ∀ {es : List Expr} (h : stars es = true) (env : Env) (pos : Pos), (backTo pos (starEach es env)).any (·.1) = false
  | [], _, _, _ => rfl
  | e :: es, h, env, pos => by
    unfold stars at h
    rw [Bool.and_eq_true] at h
    have ih := stars_of h.2 env pos
    rw [star_of h.1]
    have bt : ∀ (l : List (Bool × Sem Value)), (backTo pos l).any (·.1) = l.any (·.1) := fun l => by
      unfold backTo
      induction l with
      | nil => rfl
      | cons a l ih => simp_all
    rw [bt] at ih ⊢
    simp [ih]
theorem few_of {es : List Expr} (h : stars es = true) (hl : es.length < 20) (env : Env) (pos : Pos) :
    ((backTo pos (starEach es env)).all (fun x => !x.1) && (backToKw pos (keywordEach [] env)).all (fun x => x.1.isSome) && decide (es.length + ([] : List Keyword).length + (if ([] : List Keyword).isEmpty then 0 else 1) < 30)) = true := by
  have h1 := stars_of h env pos
  have h2 : (backTo pos (starEach es env)).all (fun x => !x.1) = true := by
    rw [List.any_eq_false] at h1
    rw [List.all_eq_true]
    intro x hx; simpa using h1 x hx
  rw [h2]
  simp [backToKw, keywordEach]
  omega
theorem set_of {e : Expr} (h : notSet e = true) (env : Env) (x : Value) : foldedSetIterable e env x = pure x := by
  cases e <;> first | rfl | cases h
theorem plainIx_of {e : Expr} (h : notSl e = true) : PlainIx e := by
  intro o i
  cases e <;> first | rfl | cases h
theorem swS_of {e : Expr} (h : notLc e = true) (t : Expr) (l : Nat) (env : Env) : swapsWithSole [t] e l env = pure false := by
  cases e <;> first | rfl | cases h
theorem swN_of {e : Expr} (h : notLc e = true) (l : Nat) (env : Env) : swapsWith e none l env = pure false := by
  cases e <;> first | rfl | cases h
theorem swp_name {x : Str} {p : Pos} {e : Expr} (env : Env) : swappedStores [.Name x p] e env = pure none := by
  cases e <;> rfl
theorem swp_tup {t e : Expr} (h : notTup e = true) (env : Env) : swappedStores [t] e env = pure none := by
  cases e <;> first | (cases t <;> rfl) | cases h
theorem asgSub_of {o i : Expr} {p : Pos} (h : notSl i = true) (env : Env) (v : Value) : assign (.Subscript o i p) env v = (do
      let ov ← holding [v] (eval o env)
      let iv ← holding [v, ov] (eval i env)
      standAt p
      holding [v, ov, iv] (setItem ov iv v)
      release [v, ov, iv] []) := by
  cases i <;> first | rfl | cases h
theorem swp_sub {o i e : Expr} {p : Pos} (env : Env) : swappedStores [.Subscript o i p] e env = pure none := by
  cases e <;> rfl
section
variable (t : Tx) (N : List Str)
/-- the names of a target -/
def erP (sc : Scope) : Pt → Expr → Bool
  | .v i, .Name x _ => decide (N[i]? = some x) && stoB sc x
  | .tup is, .Tuple xs _ _ => go is xs
  | _, _ => false
where go : List Nat → List Expr → Bool
  | [], [] => true
  | i :: is, .Name x _ :: xs => decide (N[i]? = some x) && stoB sc x && go is xs
  | _, _ => false
def ownOf : Pt → Expr → List (Str × Nat)
  | .v i, .Name x _ => [(x, i)]
  | .tup is, .Tuple xs _ _ => go is xs
  | _, _ => []
where go : List Nat → List Expr → List (Str × Nat)
  | i :: is, .Name x _ :: xs => (x, i) :: go is xs
  | _, _ => []
def erC (sc : Scope) : Cl → Expr → Bool
  | c, .Name z _ => (match c with | .own _ => false | _ => true) && decide (z = (Str.ofString (clT c))) && t.bn z && gloB sc z && okNm z
  | _, _ => false
def isNop : IE → Bool
  | .nop => true
  | _ => false
mutual
def er : IE → Scope → Expr → Bool
  | .v i, sc, e => (match e with
    | .Name x _ => decide (N[i]? = some x) && visB sc x && okNm x
    | _ => false)
  | .c d, sc, e => (match e with
    | .Constant (.int j) _ _ => sameT d (.int j)
    | .Constant (.bool j) _ _ => sameT d (.bl j)
    | .Constant (.str j) _ _ => sameT d (.str j)
    | .Constant .none _ _ => sameT d .non
    | _ => false)
  | .g x d, sc, e => (match e with
    | .Name y _ => x == y && gloB sc y && okNm y && (match t.gn y with | some d' => sameT d d' | none => false)
    | _ => false)
  | .bin _ op a b, sc, e => (match e with
    | .BinOp x o y _ => opEq op o && er a sc x && er b sc y
    | _ => false)
  | .neg a, sc, e => (match e with
    | .UnaryOp .USub x _ => er a sc x
    | _ => false)
  | .cmp op a b, sc, e => (match e with
    | .Compare x [o] [y] _ => cmEq op o && er a sc x && er b sc y && behindInMarks o y == false
    | _ => false)
  | .ch2 o1 o2 a b c, sc, e => (match e with
    | .Compare x [p1, p2] [y, z] _ => cmEq o1 p1 && cmEq o2 p2 && er a sc x && er b sc y && er c sc z && lastMarks [p1, p2] [y, z] == false
    | _ => false)
  | .ch3 o1 o2 o3 a b c d, sc, e => (match e with
    | .Compare x [p1, p2, p3] [y, z, w] _ => cmEq o1 p1 && cmEq o2 p2 && cmEq o3 p3 && er a sc x && er b sc y && er c sc z && er d sc w && lastMarks [p1, p2, p3] [y, z, w] == false
    | _ => false)
  | .one a, sc, e => (match e with
    | .BoolOp _ [x] _ => er a sc x
    | _ => false)
  | .and a b, sc, e => (match e with
    | .BoolOp .And (x :: y :: r) p => er a sc x && er b sc (.BoolOp .And (y :: r) p)
    | _ => false)
  | .or a b, sc, e => (match e with
    | .BoolOp .Or (x :: y :: r) p => er a sc x && er b sc (.BoolOp .Or (y :: r) p)
    | _ => false)
  | .not a, sc, e => (match e with
    | .UnaryOp .Not x _ => er a sc x
    | _ => false)
  | .ite c a b, sc, e => (match e with
    | .IfExp x y z _ => er c sc x && er a sc y && er b sc z
    | _ => false)
  | .tup es, sc, e => (match e with
    | .Tuple xs _ _ => ers es sc xs && decide (lenIEs es ≤ 1000)
    | _ => false)
  | .lst _ es, sc, e => (match e with
    | .List xs _ => ers es sc xs && decide (lenIEs es ≤ 1000)
    | _ => false)
  | .dct _ kvs, sc, e => (match e with
    | .Dict ks vs _ => (match ks with
      | [] => false
      | _ => erD kvs sc ks vs && decide (lenIEs kvs ≤ 30))
    | _ => false)
  | .idx a b, sc, e => (match e with
    | .Subscript x y _ => er a sc x && er b sc y && notSl y
    | _ => false)
  | .sl a lo hi, sc, e => (match e with
    | .Subscript x (.Slice l h none _) _ => er a sc x && (match l with | none => isNop lo | some y => !isNop lo && er lo sc y) && (match h with | none => isNop hi | some y => !isNop hi && er hi sc y)
    | _ => false)
  | .nop, _, _ => false
  | .att _ _, _, _ => false
  | .call _ f es, sc, e => (match e with
    | .Call (.Name x _) xs [] _ => decide (t.fnm f = some x) && gloB sc x && okNm x && ers es sc xs
    | _ => false)
  | .cv _ i es, sc, e => (match e with
    | .Call (.Name x _) (y :: ys) [] _ => decide (N[i]? = some x) && visB sc x && okNm x && ers es sc (y :: ys)
    | _ => false)
  | .new _ _ _, _, _ => false
  | .mth _ _ _ _, _, _ => false
  | .bi _ b es, sc, e => (match e with
    | .Call (.Name x _) (y :: ys) [] _ => x == (biId b).1 && t.bn x && gloB sc x && ers es sc (y :: ys)
    | _ => false)
  | .bm _ b o es, sc, e => (match e with
    | .Call (.Attribute x nm p1) (y :: ys) [] p2 => bmOk b && nm == (bmN b) && (p1.endLine == p2.line) && er o sc x && ers es sc (y :: ys) && notCall x && decide ((y :: ys).length < 20)
    | _ => false)
  | .isi a c, sc, e => (match e with
    | .Call (.Name x _) [y, z] [] _ => x == ("isinstance" : Str) && t.bn x && gloB sc x && er a sc y && erC t sc c z && notStar y && notStar z
    | _ => false)
  | .lc _ el p k es cond, sc, e => (match e with
    | .ListComp e [⟨tg, it, ifs, 0⟩] scope _ => erP N scope p tg && blkC N sc scope (ownOf p tg) && erI es k sc it && er el scope e && notSet it && (match ifs with
      | [] => (match cond with | .c (.bl true) => true | _ => false)
      | [c] => er cond scope c
      | _ => false)
    | _ => false)
  | .frz a, sc, x => er a sc x
def ers : IEs → Scope → List Expr → Bool
  | .nil, sc, xs => (match xs with
    | [] => true
    | _ => false)
  | .cons a r, sc, xs => (match xs with
    | x :: xs => er a sc x && notStar x && ers r sc xs
    | _ => false)
def erD : IEs → Scope → List (Option Expr) → List Expr → Bool
  | .nil, sc, ks, vs => (match ks, vs with
    | [], [] => true
    | _, _ => false)
  | .cons _ .nil, _, _, _ => false
  | .cons a (.cons b r), sc, ks, vs => (match ks, vs with
    | some k :: ks, v :: vs => er a sc k && er b sc v && erD r sc ks vs
    | _, _ => false)
def erI : IEs → Ik → Scope → Expr → Bool
  | .nil, _, _, _ => false
  | .cons a r, k, sc, x => (match k, r with
    | .seq, .nil => er a sc x
    | .rng, .nil => (match x with
      | .Call (.Name y _) [x] [] _ => y == ("range" : Str) && t.bn y && gloB sc y && er a sc x && notStar x
      | _ => false)
    | .rng, .cons b .nil => (match x with
      | .Call (.Name y _) [x, z] [] _ => y == ("range" : Str) && t.bn y && gloB sc y && er a sc x && notStar x && er b sc z && notStar z
      | _ => false)
    | _, _ => false)
end
end
end Wc

/-! Wc: what is checked holds: expressions. -/
namespace Wc
open PySem PySem.Spec PyProof.Rows L2
structure XOk (t : Tx) (G : Gd) (B : Tb) (C : Cal) (N : List Str) (sc : Scope) (X : Cx) : Prop where
  hK : X.K = G.K
  hN : X.N = N
  nd : N.Nodup
  vis : ∀ x, visB sc x = true → Vis X.env.scope x
  glo : ∀ x, gloB sc x = true → Gl X x
  sto : ∀ x, stoB sc x = true → Loc X.env.scope x ∧ (X.fn x = true ∨ X.env.scope.names.lookup x = some .local)
  loc : ∀ x, sc.names.lookup x = some .local → X.env.scope.names.lookup x = some .local
  cel : ∀ x, sc.names.lookup x = some .cell ∨ sc.names.lookup x = some .free → X.env.scope.names.lookup x = some .cell ∨ X.env.scope.names.lookup x = some .free
  kind : X.env.scope.kind = .function
  calm : X.calm = true
  gn : ∀ x d, t.gn x = some d → ∃ u v, X.mg x = some u ∧ RelV v u ∧ ∀ H, RT G H v d
  bn : ∀ x, t.bn x = true → X.mg x = none
  fnm : ∀ f x, t.fnm f = some x → B.isf f = true ∧ X.mg x = some (.ref (G.fa f))
  units : X.A.units + 65 < cLine
  cal : Cals X G B C
section
variable {t : Tx} {G : Gd} {B : Tb} {C : Cal} {N : List Str} {sc scope : Scope} {X : Cx} {Wx : WX}
theorem okNm_of {x : Str} (h : okNm x = true) : (x == ("__debug__" : Str)) = false ∧ (x == ("__classdict__" : Str)) = false ∧ x ≠ ("__name__" : Str) := by
  unfold okNm at h
  simp only [Bool.and_eq_true, beq_iff_eq] at h
  exact ⟨h.1.1, h.1.2, fun e => by rw [e] at h; simp at h⟩
theorem lookup_rel {sc : Scope} : ∀ {names : List (Str × NameKind)} {x : Str} {k : NameKind}, names.lookup x = some k →
    ∃ k', (names.map fun (n, k) => if (k == NameKind.free && sc.kind == .function && sc.names.lookup n == some .cell) then (n, NameKind.cell) else (n, k)).lookup x = some k' ∧ (k' = k ∨ (k = .free ∧ k' = .cell))
  | [], _, _, h => by simp at h
  | (n, k₀) :: r, x, k, h => by
    have ih := @lookup_rel sc r x k
    simp only [List.map_cons]
    cases hx : x == n with
    | true =>
      simp only [List.lookup_cons, hx] at h
      cases h
      by_cases hc : (k₀ == NameKind.free && sc.kind == .function && sc.names.lookup n == some .cell) = true
      · rw [if_pos hc]
        simp only [Bool.and_eq_true, beq_iff_eq] at hc
        exact ⟨.cell, by simp [List.lookup_cons, hx], .inr ⟨hc.1.1, rfl⟩⟩
      · rw [if_neg hc]
        exact ⟨k₀, by simp [List.lookup_cons, hx], .inl rfl⟩
    | false =>
      simp only [List.lookup_cons, hx] at h
      by_cases hc : (k₀ == NameKind.free && sc.kind == .function && sc.names.lookup n == some .cell) = true
      · rw [if_pos hc]; simp only [List.lookup_cons, hx]; exact ih h
      · rw [if_neg hc]; simp only [List.lookup_cons, hx]; exact ih h
theorem visB_of {x : Str} (h : visB sc x = true) : sc.names.lookup x = some .local ∨ sc.names.lookup x = some .cell ∨ sc.names.lookup x = some .free := by
  unfold visB at h
  split at h <;> simp_all
theorem gloB_of {x : Str} (h : gloB sc x = true) : sc.names.lookup x = some .globalImplicit := by
  unfold gloB at h
  split at h <;> simp_all
theorem stoB_of {x : Str} (h : stoB sc x = true) : sc.names.lookup x = some .local ∨ sc.names.lookup x = some .cell := by
  unfold stoB at h
  split at h <;> simp_all
theorem relabel_names (scope : Scope) (env : Env) : (relabel scope env).names = scope.names.map fun (n, k) => if (k == NameKind.free && env.scope.kind == .function && env.scope.names.lookup n == some .cell) then (n, NameKind.cell) else (n, k) := rfl
/-- a comprehension's block -/
theorem XOk.blk (x : XOk t G B C N sc X) (hk : scope.kind = .function) (s : Shared) (H : Hp) (Ca : Addr) (cl : List (Str × Addr)) (fp : List Addr) : XOk t G B C N scope (X.blk s H scope (compEnvC scope cl Ca X.env) fp) where
  hK := x.hK
  hN := x.hN
  nd := x.nd
  vis := fun y h => by
    show (relabel scope X.env).names.lookup y = _ ∨ (relabel scope X.env).names.lookup y = _ ∨ (relabel scope X.env).names.lookup y = _
    rw [relabel_names]
    rcases visB_of h with h | h | h
    · obtain ⟨k', e, e2 | ⟨e2, _⟩⟩ := lookup_rel (sc := X.env.scope) h
      · subst e2; exact .inl e
      · cases e2
    · obtain ⟨k', e, e2 | ⟨e2, _⟩⟩ := lookup_rel (sc := X.env.scope) h
      · subst e2; exact .inr (.inl e)
      · cases e2
    · obtain ⟨k', e, e2 | ⟨_, e2⟩⟩ := lookup_rel (sc := X.env.scope) h
      · subst e2; exact .inr (.inr e)
      · subst e2; exact .inr (.inl e)
  glo := fun y h => by
    show (relabel scope X.env).names.lookup y = _
    rw [relabel_names]
    obtain ⟨k', e, e2 | ⟨e2, _⟩⟩ := lookup_rel (sc := X.env.scope) (gloB_of h)
    · subst e2; exact e
    · cases e2
  sto := fun y h => by
    show ((relabel scope X.env).names.lookup y = _ ∨ (relabel scope X.env).names.lookup y = _) ∧ ((scope.names.lookup y == some .cell) = true ∨ (relabel scope X.env).names.lookup y = _)
    rw [relabel_names]
    rcases stoB_of h with h | h
    · obtain ⟨k', e, e2 | ⟨e2, _⟩⟩ := lookup_rel (sc := X.env.scope) h
      · subst e2; exact ⟨.inl e, .inr e⟩
      · cases e2
    · obtain ⟨k', e, e2 | ⟨e2, _⟩⟩ := lookup_rel (sc := X.env.scope) h
      · subst e2; exact ⟨.inr e, .inl (by rw [h]; rfl)⟩
      · cases e2
  loc := fun y h => by
    show (relabel scope X.env).names.lookup y = _
    rw [relabel_names]
    obtain ⟨k', e, e2 | ⟨e2, _⟩⟩ := lookup_rel (sc := X.env.scope) h
    · subst e2; exact e
    · cases e2
  cel := fun y h => by
    show (relabel scope X.env).names.lookup y = _ ∨ (relabel scope X.env).names.lookup y = _
    rw [relabel_names]
    rcases h with h | h
    · obtain ⟨k', e, e2 | ⟨e2, _⟩⟩ := lookup_rel (sc := X.env.scope) h
      · subst e2; exact .inl e
      · cases e2
    · obtain ⟨k', e, e2 | ⟨_, e2⟩⟩ := lookup_rel (sc := X.env.scope) h
      · subst e2; exact .inr e
      · subst e2; exact .inl e
  kind := hk
  calm := x.calm
  gn := x.gn
  bn := x.bn
  fnm := x.fnm
  units := x.units
  cal := fun f h => let ⟨n, F, hn⟩ := x.cal f h; ⟨n, ⟨F.ex, F.kp⟩, hn⟩
theorem XOk.blkOk (x : XOk t G B C N sc X) {own : List (Str × Nat)} (h : blkC N sc scope own = true) : BlkOk X.N X.env.scope scope own := by
  have b := blkOk_by h
  rw [x.hN]
  exact ⟨b.kind, b.uniq, b.ix, fun y hy e => x.cel _ (b.free y hy e), b.own⟩
theorem XOk.name (x : XOk t G B C N sc X) {i : Nat} {y : Str} (h : N[i]? = some y) : X.N[i]? = some y := by rw [x.hN]; exact h
theorem erP_ok (x : XOk t G B C N sc X) : ∀ {p : Pt} {tg : Expr}, erP N sc p tg = true → PG X tg (gP X.K p)
  | .v i, .Name y _, h => by
    simp only [erP, Bool.and_eq_true, decide_eq_true_eq] at h
    obtain ⟨a, b⟩ := x.sto y h.2
    exact pg_name (by rw [x.hN]; exact x.nd) (x.name h.1) a b
  | .tup is, .Tuple xs _ _, h => by
    have go : ∀ {is : List Nat} {xs : List Expr}, erP.go N sc is xs = true → PGs X xs (gL is) ∧ (assignEach xs X.env).length = is.length ∧ (assignEach xs X.env).findIdx? (·.1) = none := by
      intro is
      induction is with
      | nil =>
        intro xs h
        cases xs with
        | nil => exact ⟨pgs_nil, rfl, rfl⟩
        | cons y ys => simp [erP.go] at h
      | cons i is ih =>
        intro xs h
        cases xs with
        | nil => simp [erP.go] at h
        | cons y ys =>
          cases y with
          | Name z pz =>
            simp only [erP.go, Bool.and_eq_true, decide_eq_true_eq] at h
            obtain ⟨a, b⟩ := x.sto z h.1.2
            obtain ⟨h1, h2, h3⟩ := ih h.2
            refine ⟨pgs_cons (pg_name (by rw [x.hN]; exact x.nd) (x.name h.1.1) a b) h1 rfl, ?_, ?_⟩
            · show (assignEach ys X.env).length + 1 = is.length + 1
              rw [h2]
            · show List.findIdx? _ ((false, _) :: assignEach ys X.env) = none
              rw [List.findIdx?_cons, h3]; rfl
          | _ => simp [erP.go] at h
    obtain ⟨h1, h2, h3⟩ := go (show erP.go N sc is xs = true from h)
    exact pg_tup x.calm h1 h2 h3
theorem ownOf_own : ∀ {p : Pt} {tg : Expr}, erP N sc p tg = true → (ownOf p tg).map (·.2) = p.own
  | .v i, .Name y _, h => rfl
  | .tup is, .Tuple xs _ _, h => by
    have go : ∀ {is : List Nat} {xs : List Expr}, erP.go N sc is xs = true → (ownOf.go is xs).map (·.2) = is := by
      intro is
      induction is with
      | nil => intro xs h; cases xs <;> rfl
      | cons i is ih =>
        intro xs h
        cases xs with
        | nil => simp [erP.go] at h
        | cons y ys =>
          cases y with
          | Name z pz =>
            simp only [erP.go, Bool.and_eq_true, decide_eq_true_eq] at h
            simp [ownOf.go, ih h.2]
          | _ => simp [erP.go] at h
    exact go (show erP.go N sc is xs = true from h)
theorem ers_stars : ∀ {ies : IEs} {xs : List Expr}, ers t N ies sc xs = true → stars xs = true
  | .nil, [], _ => rfl
  | .cons a r, x :: xs, h => by
    simp only [ers, Bool.and_eq_true] at h
    simp only [stars, Bool.and_eq_true]
    exact ⟨h.1.2, ers_stars h.2⟩
  | .nil, _ :: _, h => by simp [ers] at h
  | .cons _ _, [], h => by simp [ers] at h
theorem ers_len : ∀ {ies : IEs} {xs : List Expr}, ers t N ies sc xs = true → xs.length = lenIEs ies
  | .nil, [], _ => rfl
  | .cons a r, x :: xs, h => by
    simp only [ers, Bool.and_eq_true] at h
    simp [lenIEs, ers_len h.2]
  | .nil, _ :: _, h => by simp [ers] at h
  | .cons _ _, [], h => by simp [ers] at h
theorem tE_frz {a : IE} {σ : L2.St} {H : Hp} {Q : VK} (h : tE G (evE B C (.frz a)) Wx σ H Q) : tE G (evE B C a) Wx σ H Q := by
  obtain ⟨W, ρ, S, rl, en, q⟩ := h
  refine tE_imp (tE_at rl en q) fun v H1 ⟨d, S1, W1, r1, x1, e1, k1, a1⟩ => ?_
  split at a1
  · rename_i u S2 e
    obtain ⟨W2, r2, x2, k2, _⟩ := frz_ok 9 r1 k1 e
    exact a1 v H1 W2 r2 x2 (.t k2)
  · exact a1.elim
/-- what an expression that was checked is worth -/
structure Snd (G : Gd) (X : Cx) (B : Tb) (C : Cal) (Wx : WX) (e : Expr) (ie : IE) : Prop where
  pe : PEv G X B C Wx e ie
  pt : PTv G X B C Wx e ie
  pw : ∀ op es p, e = .BoolOp op es p → PWv G X B C Wx e ie
theorem Snd.mk1 {e : Expr} {ie : IE} (h : PEv G X B C Wx e ie) (he : ∀ whole, isTrue e X.env whole = (do let v ← whole; standAt e.pos; holding [v] (truthy v))) (hb : ∀ op es p, e ≠ .BoolOp op es p) : Snd G X B C Wx e ie :=
  ⟨h, pt_of h he, fun op es p q => absurd q (hb op es p)⟩
theorem bm_slot : ∀ b, bmOk b = true → PlainAttrs (knd (bmT b)) ∧ Slot (knd (bmT b)) (bmN b) (bmId b) ∧ typeOf (.builtin (bmId b)) = pure (.type "method_descriptor")
  | .append, _ => ⟨PySem.F.plainAttrs_list, PySem.F.slot_list_append, PySem.F.type_list_append⟩
  | .index, _ => ⟨PySem.F.plainAttrs_list, PySem.F.slot_list_index, PySem.F.type_list_index⟩
theorem bi_boot (b : Bi) : bootBuiltins (biId b).1 = some (biId b).2 := by
  cases b <;> decide +kernel
theorem bi_ok (b : Bi) : (biId b).1 ≠ "__name__" ∧ ((biId b).1 == ("__debug__" : Str)) = false := by
  cases b <;> exact ⟨by decide +kernel, by decide +kernel⟩
theorem bi_kind (b : Bi) : (∃ id, (biId b).2 = .builtin id) ∨ ∃ id, (biId b).2 = .type id := by
  cases b <;> first | exact .inl ⟨_, rfl⟩ | exact .inr ⟨_, rfl⟩
theorem cl_boot (c : Cl) (hc : ∀ k, c ≠ .own k) : bootBuiltins (Str.ofString (clT c)) = some (.type (clT c)) := by
  cases c with
  | own k => exact absurd rfl (hc k)
  | _ => decide +kernel
theorem erC_ok (x : XOk t G B C N sc X) {c : Cl} {e : Expr} (h : erC t sc c e = true) : (∀ k, c ≠ .own k) ∧ PE X e (tC (.ty (clT c))) := by
  cases e with
  | Name z p =>
    simp only [erC, Bool.and_eq_true, decide_eq_true_eq] at h
    obtain ⟨⟨⟨⟨h1, h2⟩, h3⟩, h4⟩, h5⟩ := h
    have hc : ∀ k, c ≠ .own k := fun k e => by subst e; cases h1
    obtain ⟨n1, n2, n3⟩ := okNm_of h5
    subst h2
    exact ⟨hc, pe_bltn (x.glo _ h4) (x.bn _ h3) (cl_boot c hc) rfl n3 n1⟩
  | _ => simp [erC] at h
mutual
theorem snd : ∀ (ie : IE) {sc : Scope} {X : Cx} {Wx : WX} {e : Expr}, XOk t G B C N sc X → Takes X Wx → er t N ie sc e = true → Snd G X B C Wx e ie
  | .v i, sc, X, Wx, e, x, tk, h => by
    unfold er at h
    split at h
    · simp only [Bool.and_eq_true, decide_eq_true_eq] at h
      obtain ⟨n1, n2, n3⟩ := okNm_of h.2
      exact Snd.mk1 (sE_var (pe_var (x.name h.1.1) (x.vis _ h.1.2) n1 n2)) (fun _ => rfl) (fun _ _ _ q => nomatch q)
    · cases h
  | .c d, sc, X, Wx, e, x, tk, h => by
    unfold er at h
    split at h
    · cases sameT_eq h
      exact Snd.mk1 (sE_con (fun _ => .int _) pe_int) (fun _ => rfl) (fun _ _ _ q => nomatch q)
    · cases sameT_eq h
      exact Snd.mk1 (sE_con (fun _ => .bl _) pe_bl) (fun _ => rfl) (fun _ _ _ q => nomatch q)
    · cases sameT_eq h
      exact Snd.mk1 (sE_con (fun _ => .str _) pe_str) (fun _ => rfl) (fun _ _ _ q => nomatch q)
    · cases sameT_eq h
      exact Snd.mk1 (sE_con (fun _ => .non) pe_non) (fun _ => rfl) (fun _ _ _ q => nomatch q)
    · cases h
  | .g y d, sc, X, Wx, e, x, tk, h => by
    unfold er at h
    split at h
    · simp only [Bool.and_eq_true, beq_iff_eq] at h
      obtain ⟨⟨⟨h1, h2⟩, h3⟩, h4⟩ := h
      subst h1
      obtain ⟨n1, n2, n3⟩ := okNm_of h3
      split at h4
      · rename_i d' e
        have e2 := sameT_eq h4
        subst e2
        obtain ⟨u, v, m1, m2, m3⟩ := x.gn y d e
        exact Snd.mk1 (sE_glo m3 (pe_glob (x.glo _ h2) m1 m2 n1)) (fun _ => rfl) (fun _ _ _ q => nomatch q)
      · cases h4
    · cases h
  | .bin m op a b, sc, X, Wx, e, x, tk, h => by
    unfold er at h
    split at h
    · simp only [Bool.and_eq_true] at h
      obtain ⟨⟨h1, h2⟩, h3⟩ := h
      have e := opEq_eq h1
      subst e
      exact Snd.mk1 (sE_bin (snd a x tk h2).pe (snd b x tk h3).pe) (fun _ => rfl) (fun _ _ _ q => nomatch q)
    · cases h
  | .neg a, sc, X, Wx, e, x, tk, h => by
    unfold er at h
    split at h
    · exact Snd.mk1 (sE_neg (snd a x tk h).pe) (fun _ => rfl) (fun _ _ _ q => nomatch q)
    · cases h
  | .cmp op a b, sc, X, Wx, e, x, tk, h => by
    unfold er at h
    split at h
    · simp only [Bool.and_eq_true, beq_iff_eq] at h
      obtain ⟨⟨⟨h1, h2⟩, h3⟩, h4⟩ := h
      have e := cmEq_eq h1
      subst e
      exact ⟨sE_cmp x.hK x.units (snd a x tk h2).pe (snd b x tk h3).pe h4, sT_cmp x.hK x.units (snd a x tk h2).pe (snd b x tk h3).pe h4, fun _ _ _ q => nomatch q⟩
    · cases h
  | .ch2 o1 o2 a b c, sc, X, Wx, e, x, tk, h => by
    unfold er at h
    split at h
    · simp only [Bool.and_eq_true, beq_iff_eq] at h
      obtain ⟨⟨⟨⟨⟨h1, h2⟩, h3⟩, h4⟩, h5⟩, h6⟩ := h
      have e1 := cmEq_eq h1
      have e2 := cmEq_eq h2
      subst e1 e2
      exact ⟨sE_ch2 x.hK x.units (snd a x tk h3).pe (snd b x tk h4).pe (snd c x tk h5).pe h6, sT_ch2 x.hK x.units (snd a x tk h3).pe (snd b x tk h4).pe (snd c x tk h5).pe h6, fun _ _ _ q => nomatch q⟩
    · cases h
  | .ch3 o1 o2 o3 a b c d, sc, X, Wx, e, x, tk, h => by
    unfold er at h
    split at h
    · simp only [Bool.and_eq_true, beq_iff_eq] at h
      obtain ⟨⟨⟨⟨⟨⟨⟨h1, h2⟩, h3⟩, h4⟩, h5⟩, h6⟩, h7⟩, h8⟩ := h
      have e1 := cmEq_eq h1
      have e2 := cmEq_eq h2
      have e3 := cmEq_eq h3
      subst e1 e2 e3
      exact ⟨sE_ch3 x.hK x.units (snd a x tk h4).pe (snd b x tk h5).pe (snd c x tk h6).pe (snd d x tk h7).pe h8, sT_ch3 x.hK x.units (snd a x tk h4).pe (snd b x tk h5).pe (snd c x tk h6).pe (snd d x tk h7).pe h8, fun _ _ _ q => nomatch q⟩
    · cases h
  | .one a, sc, X, Wx, e, x, tk, h => by
    unfold er at h
    split at h
    · rename_i op ea p
      have s := snd a (Wx := Wx) x tk h
      have w : PWv G X B C Wx (.BoolOp op [ea] p) (.one a) := by
        cases op with
        | And => exact pw_and1 s.pt
        | Or => exact pw_or1 s.pt
      exact ⟨pe_one s.pe, w.pt, fun _ _ _ _ => w⟩
    · cases h
  | .and a b, sc, X, Wx, e, x, tk, h => by
    unfold er at h
    split at h
    · simp only [Bool.and_eq_true] at h
      have s1 := snd a (Wx := Wx) x tk h.1
      have s2 := snd b (Wx := Wx) x tk h.2
      have w := sW_and s1.pt (s2.pw _ _ _ rfl)
      exact ⟨sE_and s1.pe s2.pe, w.pt, fun _ _ _ _ => w⟩
    · cases h
  | .or a b, sc, X, Wx, e, x, tk, h => by
    unfold er at h
    split at h
    · simp only [Bool.and_eq_true] at h
      have s1 := snd a (Wx := Wx) x tk h.1
      have s2 := snd b (Wx := Wx) x tk h.2
      have w := sW_or s1.pt (s2.pw _ _ _ rfl)
      exact ⟨sE_or s1.pe s2.pe, w.pt, fun _ _ _ _ => w⟩
    · cases h
  | .not a, sc, X, Wx, e, x, tk, h => by
    unfold er at h
    split at h
    · have s := snd a (Wx := Wx) x tk h
      exact ⟨sE_not s.pe, sT_not s.pt, fun _ _ _ q => nomatch q⟩
    · cases h
  | .ite c a b, sc, X, Wx, e, x, tk, h => by
    unfold er at h
    split at h
    · simp only [Bool.and_eq_true] at h
      have sc' := snd c (Wx := Wx) x tk h.1.1
      have sa := snd a (Wx := Wx) x tk h.1.2
      have sb := snd b (Wx := Wx) x tk h.2
      exact ⟨sE_ite sc'.pt sa.pe sb.pe, sT_ite sc'.pt sa.pt sb.pt, fun _ _ _ q => nomatch q⟩
    · cases h
  | .tup es, sc, X, Wx, e, x, tk, h => by
    unfold er at h
    split at h
    · simp only [Bool.and_eq_true, decide_eq_true_eq] at h
      exact Snd.mk1 (sE_tup (snds es x tk h.1) h.2) (fun _ => rfl) (fun _ _ _ q => nomatch q)
    · cases h
  | .lst m es, sc, X, Wx, e, x, tk, h => by
    unfold er at h
    split at h
    · simp only [Bool.and_eq_true, decide_eq_true_eq] at h
      exact Snd.mk1 (sE_lst (snds es x tk h.1) h.2) (fun _ => rfl) (fun _ _ _ q => nomatch q)
    · cases h
  | .dct m kvs, sc, X, Wx, e, x, tk, h => by
    unfold er at h
    split at h
    · rename_i ks vs pos
      cases ks with
      | nil => cases h
      | cons k0 ks0 =>
        simp only [Bool.and_eq_true, decide_eq_true_eq] at h
        obtain ⟨h1, h2⟩ := h
        obtain ⟨p1, p2, p3, p4⟩ := sndD kvs (Wx := Wx) x tk h1 pos
        refine Snd.mk1 (pe_imp (pe_disp p1 p2 p3 (by simp) ?_) fun σ H Q q => tDisp_ok h2 q) (fun _ => rfl) (fun _ _ _ q => nomatch q)
        omega
    · cases h
  | .nop, sc, X, Wx, e, x, tk, h => by unfold er at h; cases h
  | .att _ _, sc, X, Wx, e, x, tk, h => by unfold er at h; cases h
  | .new _ _ _, sc, X, Wx, e, x, tk, h => by unfold er at h; cases h
  | .mth _ _ _ _, sc, X, Wx, e, x, tk, h => by unfold er at h; cases h
  | .bm m b o es, sc, X, Wx, e, x, tk, h => by
    unfold er at h
    split at h
    · simp only [Bool.and_eq_true, beq_iff_eq] at h
      obtain ⟨⟨⟨⟨⟨⟨h1, h2⟩, h3⟩, h4⟩, h5⟩, h6⟩, h7⟩ := h
      subst h2
      have st := ers_stars h5
      have st2 := st
      simp only [stars, Bool.and_eq_true] at st2
      obtain ⟨pa, sl, ty⟩ := bm_slot b h1
      exact Snd.mk1 (sE_bm x.hK x.units h1 pa sl ty (snd o x tk h4).pe (snds es (Wx := Wx) x tk h5) (base_of h6 _ _ _) (few_of st (of_decide_eq_true h7) _ _) (by simpa using h3) (star_of st2.1 _ _) (stars_of st2.2 _ _)) (fun _ => rfl) (fun _ _ _ q => nomatch q)
    · cases h
  | .idx a b, sc, X, Wx, e, x, tk, h => by
    unfold er at h
    split at h
    · simp only [Bool.and_eq_true] at h
      exact Snd.mk1 (sE_idx x.hK x.units (snd a x tk h.1.1).pe (snd b x tk h.1.2).pe (plainIx_of h.2)) (fun _ => rfl) (fun _ _ _ q => nomatch q)
    · cases h
  | .sl a lo hi, sc, X, Wx, e, x, tk, h => by
    unfold er at h
    split at h
    · simp only [Bool.and_eq_true] at h
      obtain ⟨⟨h1, h2⟩, h3⟩ := h
      have part : ∀ (lo : IE) (l : Option Expr), (∀ y, l = some y → er t N lo sc y = true → PEv G X B C Wx y lo) → (match l with | none => isNop lo | some y => !isNop lo && er t N lo sc y) = true → PO X l (tP G B C Wx lo) := by
        intro lo l ih h
        cases l with
        | none =>
          cases lo with
          | nop => exact sP_none
          | _ => cases h
        | some y =>
          simp only [Bool.and_eq_true] at h
          exact sP_some (ih y rfl h.2) (fun e => by rw [e] at h; cases h.1)
      exact Snd.mk1 (sE_sl x.hK (snd a x tk h1).pe (part lo _ (fun y _ h => (snd lo x tk h).pe) h2) (part hi _ (fun y _ h => (snd hi x tk h).pe) h3)) (fun _ => rfl) (fun _ _ _ q => nomatch q)
    · cases h
  | .call m f es, sc, X, Wx, e, x, tk, h => by
    unfold er at h
    split at h
    · rename_i y _ xs _
      simp only [Bool.and_eq_true, decide_eq_true_eq] at h
      obtain ⟨⟨⟨h1, h2⟩, h3⟩, h4⟩ := h
      obtain ⟨n1, n2, n3⟩ := okNm_of h3
      obtain ⟨f1, f2⟩ := x.fnm f y h1
      obtain ⟨n, F, hn⟩ := x.cal f f1
      cases xs with
      | nil =>
        cases es with
        | nil =>
          by_cases e : n = 0
          · subst e
            exact Snd.mk1 (sE_call0 F tk (x.glo _ h2) f2 n1) (fun _ => rfl) (fun _ _ _ q => nomatch q)
          · refine Snd.mk1 ⟨fun pins s σ H Q I q => ?_⟩ (fun _ => rfl) (fun _ _ _ q => nomatch q)
            obtain ⟨W, ρ, S, rl, en, q⟩ := q
            have q : Aft G (fun W' v d => RD G W' v d) (fun cls dx H' => Wx cls dx σ H') H W Q (callD C m f [] S) := q
            rw [callD_no fun S => hn [] S (fun z => e z.symm)] at q
            exact q.elim
        | cons a r => simp [ers] at h4
      | cons z zs =>
        have st := ers_stars h4
        simp only [stars, Bool.and_eq_true] at st
        exact Snd.mk1 (sE_call F hn tk (x.glo _ h2) f2 (snds es x tk h4) n1 (star_of st.1 _ _) (stars_of st.2 _ _)) (fun _ => rfl) (fun _ _ _ q => nomatch q)
    · cases h
  | .cv m i es, sc, X, Wx, e, x, tk, h => by
    unfold er at h
    split at h
    · simp only [Bool.and_eq_true, decide_eq_true_eq] at h
      obtain ⟨⟨⟨h1, h2⟩, h3⟩, h4⟩ := h
      obtain ⟨n1, n2, n3⟩ := okNm_of h3
      have st := ers_stars h4
      simp only [stars, Bool.and_eq_true] at st
      exact Snd.mk1 (sE_cv x.cal tk (x.name h1) (x.vis _ h2) (snds es x tk h4) n1 n2 (star_of st.1 _ _) (stars_of st.2 _ _)) (fun _ => rfl) (fun _ _ _ q => nomatch q)
    · cases h
  | .bi m b es, sc, X, Wx, e, x, tk, h => by
    unfold er at h
    split at h
    · simp only [Bool.and_eq_true, beq_iff_eq] at h
      obtain ⟨⟨⟨h1, h2⟩, h3⟩, h4⟩ := h
      subst h1
      have st := ers_stars h4
      simp only [stars, Bool.and_eq_true] at st
      have hb := bi_boot b
      obtain ⟨o1, o2⟩ := bi_ok b
      refine Snd.mk1 ?_ (fun _ => rfl) (fun _ _ _ q => nomatch q)
      have arg := snds es (Wx := Wx) x tk h4
      rcases bi_kind b with ⟨id, e⟩ | ⟨id, e⟩
      · exact sE_biB x.hK x.calm e (x.glo _ h3) (x.bn _ h2) (by rw [hb, e]) o1 o2 arg (star_of st.1 _ _) (stars_of st.2 _ _)
      · exact sE_biT x.hK x.calm e (x.glo _ h3) (x.bn _ h2) (by rw [hb, e]) o1 o2 arg (star_of st.1 _ _) (stars_of st.2 _ _)
    · cases h
  | .isi a c, sc, X, Wx, e, x, tk, h => by
    unfold er at h
    split at h
    · simp only [Bool.and_eq_true, beq_iff_eq] at h
      obtain ⟨⟨⟨⟨⟨⟨h1, h2⟩, h3⟩, h4⟩, h5⟩, h6⟩, h7⟩ := h
      obtain ⟨hc, pc⟩ := erC_ok x h5
      exact Snd.mk1 (sE_isi x.hK hc (x.glo _ h3) h1 (x.bn _ h2) (snd a x tk h4).pe pc (star_of h6 _ _) (star_of h7 _ _) (stars_of (by simp [stars, h7]) _ _)) (fun _ => rfl) (fun _ _ _ q => nomatch q)
    · cases h
  | .lc m el p k es cond, sc, X, Wx, e, x, tk, h => by
    unfold er at h
    split at h
    · rename_i eb tg it ifs scope pos
      simp only [Bool.and_eq_true] at h
      obtain ⟨⟨⟨⟨⟨h1, h2⟩, h3⟩, h4⟩, h5⟩, h6⟩ := h
      refine Snd.mk1 ?_ (fun _ => rfl) (fun _ _ _ q => nomatch q)
      have hk := (blkOk_by h2).kind
      have hi := sndI es (Wx := Wx) x tk h3
      obtain ⟨tt, ht, htt⟩ : ∃ tt : TT, (∀ (s : Shared) (H : Hp) (Ca : Addr) (cl : List (Str × Addr)) (fp : List Addr), PTs (X.blk s H scope (compEnvC scope cl Ca X.env) fp) ifs tt) ∧ ∀ σ H Q, tTest (tE G (evE B C cond) (fun _ _ _ _ => False)) σ H Q → tt σ H Q := by
        cases ifs with
        | nil =>
          refine ⟨tYes, fun _ _ _ _ _ => pts_nil, fun σ H Q q => ?_⟩
          simp only at h6
          split at h6
          · obtain ⟨W, ρ, S, rl, en, q⟩ := q
            have q : Aft G (fun W' v d => RD G W' v d) (fun cls dx H' => False) H W (fun x H' => ∃ k, x = V.bl k ∧ Q k H') (.ok (.t (.bl true)) S) := q
            obtain ⟨k, e, q⟩ := q (.bl true) H W rl Ext.refl (.t (.bl true))
            cases e; exact q
          · cases h6
        | cons c r =>
          cases r with
          | nil => exact ⟨_, fun s H Ca cl fp => pts_one (snd cond (x.blk hk s H Ca cl fp) takes0 h6).pt, fun _ _ _ q => q⟩
          | cons _ _ => cases h6
      have e := pe_lc (g := gP X.K p) (pos := pos) x.calm (by rw [x.hN]; exact x.nd) (hi tg) (x.blkOk h2) (fun s H Ca cl fp => erP_ok (x.blk hk s H Ca cl fp) h1) ht (fun s H Ca cl fp => (snd el (Wx := fun _ _ _ _ => False) (x.blk hk s H Ca cl fp) takes0 h4).pe) (set_of h5 _)
      rw [ownOf_own h1] at e
      exact pe_imp e fun σ H Q q => tLc_ok htt q
    · cases h
  | .frz a, sc, X, Wx, e, x, tk, h => by
    unfold er at h
    have s := snd a (Wx := Wx) x tk h
    exact ⟨pe_imp s.pe fun σ H Q h => tE_frz h, pt_imp s.pt fun σ H Q h => tE_frz h, fun op es p q => pw_imp (s.pw op es p q) fun σ H Q h => tE_frz h⟩
theorem snds : ∀ (ies : IEs) {sc : Scope} {X : Cx} {Wx : WX} {es : List Expr}, XOk t G B C N sc X → Takes X Wx → ers t N ies sc es = true → PAv G X B C Wx es ies
  | .nil, sc, X, Wx, es, x, tk, h => by
    unfold ers at h
    split at h
    · exact sA_nil
    · cases h
  | .cons a r, sc, X, Wx, es, x, tk, h => by
    unfold ers at h
    split at h
    · simp only [Bool.and_eq_true] at h
      exact sA_cons (snd a x tk h.1.1).pe (snds r x tk h.2) (star_of h.1.2 _ _)
    · cases h
theorem sndD : ∀ (ies : IEs) {sc : Scope} {X : Cx} {Wx : WX} {ks : List (Option Expr)} {vs : List Expr}, XOk t G B C N sc X → Takes X Wx → erD t N ies sc ks vs = true → ∀ pos : Pos,
    PPs X pos ks vs (trsOf G B C Wx ies) ∧ ks.all (·.isSome) = true ∧ ks.length = vs.length ∧ 2 * ks.length = lenIEs ies
  | .nil, sc, X, Wx, ks, vs, x, tk, h => by
    unfold erD at h
    split at h
    · exact fun pos => ⟨pps_nil, rfl, rfl, rfl⟩
    · cases h
  | .cons _ .nil, sc, X, Wx, ks, vs, x, tk, h => by unfold erD at h; cases h
  | .cons a (.cons b r), sc, X, Wx, ks, vs, x, tk, h => by
    unfold erD at h
    split at h
    · simp only [Bool.and_eq_true] at h
      intro pos
      obtain ⟨p1, p2, p3, p4⟩ := sndD r (Wx := Wx) x tk h.2 pos
      exact ⟨pps_cons (snd a x tk h.1.1).pe (snd b x tk h.1.2).pe p1, by simp [p2], by simp [p3], by simp [lenIEs]; omega⟩
    · cases h
theorem sndI : ∀ (ies : IEs) {k : Ik} {sc : Scope} {X : Cx} {Wx : WX} {it : Expr}, XOk t G B C N sc X → Takes X Wx → erI t N ies k sc it = true → ∀ tg, PI X tg it (tI G B C Wx k ies)
  | .nil, k, sc, X, Wx, it, x, tk, h => by unfold erI at h; cases h
  | .cons a r, k, sc, X, Wx, it, x, tk, h => by
    unfold erI at h
    split at h
    · exact fun tg => sI_seq x.hK (snd a x tk h).pe
    · split at h
      · simp only [Bool.and_eq_true, beq_iff_eq] at h
        obtain ⟨⟨⟨⟨h1, h2⟩, h3⟩, h4⟩, h5⟩ := h
        subst h1
        exact fun tg => sI_rng (x.glo _ h3) (x.bn _ h2) (snd a x tk h4).pe (star_of h5 _ _)
      · cases h
    · split at h
      · rename_i b _ _ _ _ _ _
        simp only [Bool.and_eq_true, beq_iff_eq] at h
        obtain ⟨⟨⟨⟨⟨⟨h1, h2⟩, h3⟩, h4⟩, h5⟩, h6⟩, h7⟩ := h
        subst h1
        exact fun tg => sI_rng2 (x.glo _ h3) (x.bn _ h2) (sA_cons (snd a x tk h4).pe (sA_cons (snd _ x tk h6).pe sA_nil (star_of h7 _ _)) (star_of h5 _ _)) (by rw [star_of h5, star_of h7]; rfl) (star_of h7 _ _) rfl
      · cases h
    · cases h
end
/-! ### statements -/
end
def isName : Expr → Bool
  | .Name _ _ => true
  | _ => false
/-- a comprehension given to a name on one line: stored within -/
def swB (sc : Scope) : Expr → Expr → Bool
  | .Name y py, .ListComp _ _ scope lp => (sc.names.lookup y == some .local) && (py.line == lp.line) && !(scope.names.any fun (n, k) => n == y && (k == .local || k == .cell))
  | _, _ => false
section
variable (t : Tx) (N : List Str)
mutual
def erS : IS → Scope → Stmt → Bool
  | .asg p e, sc, st => (match st with
    | .Assign [tg] v _ => erP N sc p tg && er t N e sc v && (notTup v || isName tg) && (notLc v || (isName tg && swB sc tg v && (match e with | .lc _ _ _ _ _ _ => true | _ => false)))
    | _ => false)
  | .ex e, sc, st => (match st with
    | .Expr v _ => er t N e sc v && notLc v
    | _ => false)
  | .ret e, sc, st => (match st with
    | .Return (some v) _ => er t N e sc v
    | _ => false)
  | .retN, sc, st => (match st with
    | .Return none _ => true
    | _ => false)
  | .ite c a b, sc, st => (match st with
    | .If x y z _ => er t N c sc x && erSs a sc y && erSs b sc z
    | _ => false)
  | .wh c b, sc, st => (match st with
    | .While x y [] _ => er t N c sc x && erSs b sc y
    | _ => false)
  | .fo p k es b, sc, st => (match st with
    | .For tg it y [] _ => erP N sc p tg && erI t N es k sc it && notSet it && erSs b sc y
    | _ => false)
  | .brk, _, st => (match st with
    | .Break _ => true
    | _ => false)
  | .cnt, _, st => (match st with
    | .Continue _ => true
    | _ => false)
  | .pas, _, st => (match st with
    | .Pass _ => true
    | _ => false)
  | .rse _ _, _, _ => false
  | .sti o i e, sc, st => (match st with
    | .Assign [.Subscript x y _] v _ => er t N o sc x && er t N i sc y && er t N e sc v && notSl y && notLc v
    | _ => false)
  | .sta _ _ _, _, _ => false
  | .tr _ _ _ _ _, _, _ => false
def erSs : ISs → Scope → List Stmt → Bool
  | .nil, _, ss => (match ss with
    | [] => true
    | _ => false)
  | .cons i r, sc, ss => (match ss with
    | s :: rest => erS i sc s && erSs r sc rest
    | _ => false)
end
end
section
variable {t : Tx} {G : Gd} {B : Tb} {C : Cal} {N : List Str} {sc : Scope} {X : Cx} {Wx : WX}
theorem lcParts {m : Bool} {el cond : IE} {p : Pt} {k : Ik} {es : IEs} {e : Expr} (x : XOk t G B C N sc X) (tk : Takes X Wx) (h : er t N (.lc m el p k es cond) sc e = true) :
    ∃ eb tg it ifs scope pos tt, e = .ListComp eb [⟨tg, it, ifs, 0⟩] scope pos ∧ PI X tg it (tI G B C Wx k es) ∧ BlkOk X.N X.env.scope scope (ownOf p tg) ∧
      (∀ (s : Shared) (H : Hp) (Ca : Addr) (cl : List (Str × Addr)) (fp : List Addr), PG (X.blk s H scope (compEnvC scope cl Ca X.env) fp) tg (gP X.K p)) ∧
      (∀ (s : Shared) (H : Hp) (Ca : Addr) (cl : List (Str × Addr)) (fp : List Addr), PTs (X.blk s H scope (compEnvC scope cl Ca X.env) fp) ifs tt) ∧
      (∀ (s : Shared) (H : Hp) (Ca : Addr) (cl : List (Str × Addr)) (fp : List Addr), PE (X.blk s H scope (compEnvC scope cl Ca X.env) fp) eb (tE G (evE B C el) (fun _ _ _ _ => False))) ∧
      (∀ y, foldedSetIterable it X.env y = pure y) ∧ (∀ σ H Q, tTest (tE G (evE B C cond) (fun _ _ _ _ => False)) σ H Q → tt σ H Q) ∧ (ownOf p tg).map (·.2) = p.own := by
  unfold er at h
  split at h
  · rename_i eb tg it ifs scope pos
    simp only [Bool.and_eq_true] at h
    obtain ⟨⟨⟨⟨⟨h1, h2⟩, h3⟩, h4⟩, h5⟩, h6⟩ := h
    have hk := (blkOk_by h2).kind
    have hi := sndI es (Wx := Wx) x tk h3
    obtain ⟨tt, ht, htt⟩ : ∃ tt : TT, (∀ (s : Shared) (H : Hp) (Ca : Addr) (cl : List (Str × Addr)) (fp : List Addr), PTs (X.blk s H scope (compEnvC scope cl Ca X.env) fp) ifs tt) ∧ ∀ σ H Q, tTest (tE G (evE B C cond) (fun _ _ _ _ => False)) σ H Q → tt σ H Q := by
      cases ifs with
      | nil =>
        refine ⟨tYes, fun _ _ _ _ _ => pts_nil, fun σ H Q q => ?_⟩
        simp only at h6
        split at h6
        · obtain ⟨W, ρ, S, rl, en, q⟩ := q
          have q : Aft G (fun W' v d => RD G W' v d) (fun cls dx H' => False) H W (fun x H' => ∃ k, x = V.bl k ∧ Q k H') (.ok (.t (.bl true)) S) := q
          obtain ⟨k, e, q⟩ := q (.bl true) H W rl Ext.refl (.t (.bl true))
          cases e; exact q
        · cases h6
      | cons c r =>
        cases r with
        | nil => exact ⟨_, fun s H Ca cl fp => pts_one (snd cond (x.blk hk s H Ca cl fp) takes0 h6).pt, fun _ _ _ q => q⟩
        | cons _ _ => cases h6
    exact ⟨eb, tg, it, ifs, scope, pos, tt, rfl, hi tg, x.blkOk h2, fun s H Ca cl fp => erP_ok (x.blk hk s H Ca cl fp) h1, ht, fun s H Ca cl fp => (snd el (Wx := fun _ _ _ _ => False) (x.blk hk s H Ca cl fp) takes0 h4).pe, set_of h5 _, htt, ownOf_own h1⟩
  · cases h
theorem swB_lc {tg e : Expr} (h : swB sc tg e = true) : ∃ y py eb gs scope lp, tg = .Name y py ∧ e = .ListComp eb gs scope lp ∧ sc.names.lookup y = some .local ∧ (py.line == lp.line) = true ∧ (scope.names.any fun (n, k) => n == y && (k == .local || k == .cell)) = false := by
  unfold swB at h
  split at h
  · simp only [Bool.and_eq_true, beq_iff_eq, Bool.not_eq_true'] at h
    exact ⟨_, _, _, _, _, _, rfl, rfl, h.1.1, by simp [h.1.2], h.2⟩
  · cases h
theorem erP_shape {p : Pt} {tg : Expr} (h : erP N sc p tg = true) (env : Env) : (assignEach [tg] env).map (·.2) = [assign tg env] := by
  cases p <;> cases tg <;> first | rfl | simp [erP] at h
mutual
theorem sndS : ∀ (i : IS) {st : Stmt}, XOk t G B C N sc X → X.env.scope = sc → PassesOwn (model X.prog X.w) X.A X.env X.xe → Takes X Wx → erS t N i sc st = true → PSv G X B C Wx st i
  | .asg p e, st, x, hsc, hp, tk, h => by
    unfold erS at h
    split at h
    · rename_i tg v pos
      simp only [Bool.and_eq_true, Bool.or_eq_true] at h
      obtain ⟨⟨⟨h1, h2⟩, h3⟩, h4⟩ := h
      have hg := erP_ok x h1
      have hw : swappedStores [tg] v X.env = pure none := by
        rcases h3 with h3 | h3
        · exact swp_tup h3 _
        · cases tg with
          | Name y py => exact swp_name _
          | _ => cases h3
      rcases h4 with h4 | ⟨⟨h4, h5⟩, h6⟩
      · exact sS_asg (snd e x tk h2).pe hg (swS_of h4 _ _ _) hw (erP_shape h1 _)
      · cases e with
        | lc m el q k es cond =>
          obtain ⟨y, py, eb0, gs, scope0, lp, rfl, rfl, l1, l2, l3⟩ := swB_lc h5
          obtain ⟨eb, tg2, it, ifs, scope, lpos, tt, e1, hi, ok, hgg, ht, he, hs, htt, ho⟩ := lcParts x tk h2
          cases e1
          cases p with
          | tup is => simp [erP] at h1
          | v i =>
            simp only [erP, Bool.and_eq_true, decide_eq_true_eq] at h1
            have hy : X.env.scope.names.lookup y = some .local := by rw [hsc]; exact l1
            refine ps_imp (ps_setLc (i := i) x.calm (by rw [x.hN]; exact x.nd) (x.name h1.1) hy (sw_true x.kind hy l2 l3) hi ok hgg ht he hs) fun D σ H ⟨W, ρ, S, rl, en, qq⟩ => ?_
            rw [evS_asg] at qq
            rw [ho]
            have r := stE_at rl en qq
            refine tLc_ok htt (tE_imp r fun v H1 ⟨d, S1, W1, r1, x1, e1, k1, a1⟩ => ?_)
            exact a1 _ H1 W1 r1 Ext.refl (e1.set k1 i)
        | _ => cases h6
    · cases h
  | .ex e, st, x, hsc, hp, tk, h => by
    unfold erS at h
    split at h
    · simp only [Bool.and_eq_true] at h
      exact sS_ex (snd e x tk h.1).pe (swN_of h.2 _ _)
    · cases h
  | .ret e, st, x, hsc, hp, tk, h => by
    unfold erS at h
    split at h
    · exact sS_ret (snd e x tk h).pe
    · cases h
  | .retN, st, x, hsc, hp, tk, h => by
    unfold erS at h
    split at h
    · exact sS_retN
    · cases h
  | .ite c a b, st, x, hsc, hp, tk, h => by
    unfold erS at h
    split at h
    · simp only [Bool.and_eq_true] at h
      exact sS_ite (snd c x tk h.1.1).pt (sndSs a x hsc hp tk h.1.2) (sndSs b x hsc hp tk h.2)
    · cases h
  | .wh c b, st, x, hsc, hp, tk, h => by
    unfold erS at h
    split at h
    · simp only [Bool.and_eq_true] at h
      exact sS_wh hp (snd c x tk h.1).pt (sndSs b x hsc hp tk h.2)
    · cases h
  | .fo p k es b, st, x, hsc, hp, tk, h => by
    unfold erS at h
    split at h
    · simp only [Bool.and_eq_true] at h
      obtain ⟨⟨⟨h1, h2⟩, h3⟩, h4⟩ := h
      exact sS_fo hp x.calm (sndI es x tk h2 _) (erP_ok x h1) (sndSs b x hsc hp tk h4) (set_of h3 _)
    · cases h
  | .brk, st, x, hsc, hp, tk, h => by
    unfold erS at h
    split at h
    · exact sS_brk
    · cases h
  | .cnt, st, x, hsc, hp, tk, h => by
    unfold erS at h
    split at h
    · exact sS_cnt
    · cases h
  | .pas, st, x, hsc, hp, tk, h => by
    unfold erS at h
    split at h
    · exact sS_pas
    · cases h
  | .rse _ _, st, x, hsc, hp, tk, h => by unfold erS at h; cases h
  | .sti o i e, st, x, hsc, hp, tk, h => by
    unfold erS at h
    split at h
    · simp only [Bool.and_eq_true] at h
      obtain ⟨⟨⟨⟨h1, h2⟩, h3⟩, h4⟩, h5⟩ := h
      exact sS_sti x.hK (by have := x.units; omega) (snd e x tk h3).pe (snd o x tk h1).pe (snd i x tk h2).pe (swS_of h5 _ _ _) (swp_sub _) (asgSub_of h4 _)
    · cases h
  | .sta _ _ _, st, x, hsc, hp, tk, h => by unfold erS at h; cases h
  | .tr _ _ _ _ _, st, x, hsc, hp, tk, h => by unfold erS at h; cases h
theorem sndSs : ∀ (i : ISs) {st : List Stmt}, XOk t G B C N sc X → X.env.scope = sc → PassesOwn (model X.prog X.w) X.A X.env X.xe → Takes X Wx → erSs t N i sc st = true → PSsv G X B C Wx st i
  | .nil, st, x, hsc, hp, tk, h => by
    unfold erSs at h
    split at h
    · exact sSs_nil
    · cases h
  | .cons i r, st, x, hsc, hp, tk, h => by
    unfold erSs at h
    split at h
    · simp only [Bool.and_eq_true] at h
      exact sSs_cons (sndS i x hsc hp tk h.1) (sndSs r x hsc hp tk h.2)
    · cases h
end
end
end Wc

/-! Wc: all defs at once, the end of a law. -/
namespace Wc
open PySem PySem.Spec PyProof.Rows L2
section
variable {t : Tx} {G : Gd} {B : Tb} {P : Program} {w : World} {mg : Str → Option Value} {base : Heap} {D : Nat → Option Df}
/-- a def of the text: where it stands, what was checked of it -/
structure DefAt (t : Tx) (G : Gd) (f : Nat) (d : Df) (fd : FuncData) (ps : List Str) : Prop where
  ex : ∃ (x qual : Str) (st : Stmt) (N : List Str), Fun G.K x qual st (G.fa f) fd ∧ Binds G.K fd ps [] ∧ FnScope N ps (defScope st) ∧ ps.length = d.ps ∧ N.length = d.names ∧ erSs t N d.body (defScope st) (defBody st) = true
def DefOk (t : Tx) (G : Gd) (f : Nat) (d : Df) : Prop := ∃ fd ps, DefAt t G f d fd ps
/-- what the module's names hold -/
structure MgOk (t : Tx) (G : Gd) (B : Tb) (mg : Str → Option Value) : Prop where
  gn : ∀ x d, t.gn x = some d → ∃ u v, mg x = some u ∧ RelV v u ∧ ∀ H, RT G H v d
  bn : ∀ x, t.bn x = true → mg x = none
  fnm : ∀ f x, t.fnm f = some x → B.isf f = true ∧ mg x = some (.ref (G.fa f))
theorem cxOf_ok {C : Cal} {N ps : List Str} {qual : Str} {sc : Scope} {f : Addr} {cd : Value} {A : Around} {outer : List Env} {s : Shared} {H : Hp} {E : XK} {k : Nat} (M : MgOk t G B mg) (S : FnScope N ps sc)
    (hr : Room k (A.deeper (envOfC qual sc s.heap.objs.size f cd))) (hc : Cals (cxOf (L2.CX P w) P w G.K mg base N qual sc f cd A outer s H E) G B C) : XOk t G B C N sc (cxOf (L2.CX P w) P w G.K mg base N qual sc f cd A outer s H E) where
  hK := rfl
  hN := rfl
  nd := S.nd
  vis := fun x h => visB_of h
  glo := fun x h => gloB_of h
  sto := fun x h => ⟨stoB_of h, .inl rfl⟩
  loc := fun x h => h
  cel := fun x h => h
  kind := S.kind
  calm := rfl
  gn := M.gn
  bn := M.bn
  fnm := M.fnm
  units := by have := hr.un; show (A.deeper _).units + 65 < _; omega
  cal := hc
theorem REn_start {W : Wd} {N : List Str} {vs : List V} {ds : List Wc.D} {n : Nat} (k : RDs G W vs ds) (hn : N.length = n) : REn G W (L2.start N vs) (ds.map some ++ List.replicate (n - ds.length) none) := by
  have hl := k.length
  refine ⟨by simp [L2.start, hl, hn], fun i d e => ?_⟩
  unfold L2.start
  by_cases h : i < ds.length
  · rw [List.getElem?_append_left (by simpa using h), List.getElem?_map] at e
    obtain ⟨d', e1, e2⟩ := Option.map_eq_some_iff.mp e
    cases e2
    obtain ⟨v, h1, h2⟩ := k.get e1
    exact ⟨v, by rw [List.getElem?_append_left (by simp [hl, h]), List.getElem?_map, h1]; rfl, h2⟩
  · rw [List.getElem?_append_right (by simp; omega)] at e
    rw [List.getElem?_replicate] at e
    split at e <;> cases e
/-- EACH DEF keeps what the evaluator says -/
theorem fn_all (M : MgOk t G B mg) (hD : ∀ f, B.isf f = true → ∃ d, D f = some d) (hO : ∀ f d, D f = some d → DefOk t G f d) : ∀ (n f : Nat) (d : Df) (fd : FuncData) (ps : List Str), D f = some d → DefAt t G f d fd ps → FnOk P w G.K mg base (L2.CX P w) n (G.fa f) fd ps (spC G (cal B D n) f d.ps) ∧ Binds G.K fd ps [] ∧ PySem.W.keepIn G.K (.ref (G.fa f)) = true ∧ ps.length = d.ps
  | 0, f, d, fd, ps, hf, hd => by
    obtain ⟨x, qual, st, N, F, hb, hs, hl, hn, he⟩ := hd.ex
    refine ⟨⟨fun vs H Q E h => by rw [h.1, hl], fun A outer s H args us vs Q E hr he hb hv hs => ?_⟩, hb, F.kp, hl⟩
    obtain ⟨_, W, S, ds, _, _, q⟩ := hs
    exact q.elim
  | n + 1, f, d, fd, ps, hf, hd => by
    obtain ⟨x, qual, st, N, F, hb, hs, hl, hn, he⟩ := hd.ex
    have ih := fn_all M hD hO n
    refine ⟨F.okX hs (fun vs H Q E h => by rw [h.1, hl]) (fun cdv A outer s H vs Q E hr h => ?_), hb, F.kp, hl⟩
    obtain ⟨hv, W, S, ds, rl, k, q⟩ := h
    have hc : Cals (cxOf (L2.CX P w) P w G.K mg base N qual (defScope st) (G.fa f) cdv A outer s H E) G B (cal B D n) := fun g hg => by
      obtain ⟨dg, hdg⟩ := hD g hg
      obtain ⟨fdg, psg, hdd⟩ := hO g dg hdg
      obtain ⟨Fg, hbg, kpg, hlg⟩ := ih g dg fdg psg hdg hdd
      refine ⟨dg.ps, ⟨⟨n, fdg, psg, Fg, hr, hbg⟩, kpg⟩, fun ds S hne => ?_⟩
      cases n with
      | zero => rfl
      | succ m =>
        show (match D g with | some d => runDf B (cal B D m) d ds S | none => .no) = .no
        rw [hdg]
        show runDf B (cal B D m) dg ds S = .no
        unfold runDf
        rw [if_neg hne]
    have x := cxOf_ok (P := P) (w := w) (base := base) (qual := qual) (f := G.fa f) (cd := cdv) (outer := outer) (H := H) (E := E) M hs hr hc
    refine ⟨tS G (evSs B (cal B D n) d.body) (fun cls dx _ H => E cls dx H), sndSs d.body x rfl (passes_of rfl) (takes_of rfl rfl rfl rfl) he, W, _, S, rl, REn_start k hn, ?_⟩
    have q : Aft G (fun W' v d => RD G W' v d) E H W Q (match D f with | some d => runDf B (cal B D n) d ds S | none => .no) := q
    rw [hf] at q
    have q : Aft G (fun W' v d => RD G W' v d) E H W Q (runDf B (cal B D n) d ds S) := q
    unfold runDf at q
    have hdl : ds.length = d.ps := by rw [← k.length, hv]
    rw [if_pos hdl] at q
    cases e : evSs B (cal B D n) d.body (ds.map some ++ List.replicate (d.names - ds.length) none) S with
    | nx ρ S1 => rw [e] at q; exact fun σ H' W' r x _ => q .non H' W' r x (.t .non)
    | rt d S1 => rw [e] at q; exact q
    | ex c fs ρ S1 => rw [e] at q; exact fun cls dx σ H' W' r x _ k => q cls dx H' W' r x k
    | bk ρ S1 => rw [e] at q; exact q.elim
    | ct ρ S1 => rw [e] at q; exact q.elim
    | no => rw [e] at q; exact q.elim
end
/-- the law's own promise: from the script True -/
def spScr (K : PySem.W.Frag) : Sp := fun vs H Q _ => ∃ (a : Addr) (ns : List Int), vs = [.ref a] ∧ SqL K H a (ns.map V.int) ∧ ns.length ≤ 63 ∧ (∀ z ∈ ns, Builtin.Int.intBits z ≤ 1048576) ∧ ∀ H', Q (.bl true) H'
theorem law_fn {P : Program} {w : World} {mg : Str → Option Value} {base : Heap} {G : Gd} {B : Tb} {D : Nat → Option Df} {n k f : Nat} {fa : Addr} {fd : FuncData} {ps : List Str}
    (hlaw : ∀ ns : List Int, ns.length ≤ 63 → (∀ z ∈ ns, Builtin.Int.intBits z ≤ 1048576) → ∃ S', cal B D n f [.t (.scr ns)] [] = .ok (.t (.bl true)) S')
    (F : FnOk P w G.K mg base (L2.CX P w) k fa fd ps (spC G (cal B D n) f 1)) : FnOk P w G.K mg base (L2.CX P w) k fa fd ps (spScr G.K) := by
  refine F.imp fun vs H Q E h => ?_
  obtain ⟨a, ns, rfl, hS, hl, hb, q⟩ := h
  refine ⟨rfl, ⟨H, []⟩, [], [.t (.scr ns)], ⟨Same.refl _, rfl, fun i j a h => by simp at h, fun a h => by simp at h, fun k o a h => by simp at h, fun k o a h => by simp at h⟩, .cons (.t (.scr hS)) .nil, ?_⟩
  obtain ⟨S', e⟩ := hlaw ns hl hb
  rw [e]
  intro v H' W' _ _ k
  cases k.bl_of
  exact q H'
/-- a list of facts, by places -/
inductive AlI {α : Type} (P : Nat → α → Prop) : Nat → List α → Prop
  | nil (n : Nat) : AlI P n []
  | cons {n : Nat} {a : α} {l : List α} : P n a → AlI P (n + 1) l → AlI P n (a :: l)
theorem AlI.at {α : Type} {P : Nat → α → Prop} : ∀ {n : Nat} {l : List α} {i : Nat} {a : α}, AlI P n l → l[i]? = some a → P (n + i) a
  | n, _ :: _, 0, a, .cons h _, e => by simp at e; subst e; exact h
  | n, _ :: l, i + 1, a, .cons _ t, e => by
    have := AlI.at (i := i) t (by simpa using e)
    rw [Nat.add_assoc, Nat.add_comm 1 i] at this
    exact this
  | _, [], _, _, _, e => by simp at e
inductive Al {α : Type} (P : α → Prop) : List α → Prop
  | nil : Al P []
  | cons {a : α} {l : List α} : P a → Al P l → Al P (a :: l)
theorem Al.mem {α : Type} {P : α → Prop} : ∀ {l : List α} {a : α}, Al P l → a ∈ l → P a
  | _ :: _, a, .cons h t, m => by
    rcases List.mem_cons.mp m with e | m
    · subst e; exact h
    · exact Al.mem t m
  | [], _, _, m => by cases m
theorem look_mem {α : Type} {x : Str} {d : α} : ∀ {l : List (Str × α)}, l.lookup x = some d → (x, d) ∈ l
  | [], h => by simp at h
  | (y, e) :: l, h => by
    simp only [List.lookup_cons] at h
    cases hx : x == y with
    | true => rw [hx] at h; cases h; have := eq_of_beq hx; subst this; exact List.mem_cons_self
    | false => rw [hx] at h; exact List.mem_cons_of_mem _ (look_mem h)
/-- the tables of a text: what its names hold, its defs -/
structure Txl where
  gl : List (Str × T)
  bl : List Str
  fl : List (Option Str)
def Txl.tx (l : Txl) : Tx := ⟨fun x => l.gl.lookup x, fun x => l.bl.contains x, fun f => (l.fl[f]?).join⟩
def tbOf (n : Nat) : Tb := ⟨fun _ _ => none, fun _ => none, fun _ _ => false, fun f => decide (f < n)⟩
theorem mgOk_of {l : Txl} {G : Gd} {mg : Str → Option Value} {n : Nat} (hg : Al (fun (p : Str × T) => ∃ u v, mg p.1 = some u ∧ RelV v u ∧ ∀ H, RT G H v p.2) l.gl) (hb : Al (fun x => mg x = none) l.bl)
    (hf : AlI (fun f (o : Option Str) => ∀ x, o = some x → mg x = some (.ref (G.fa f))) 0 l.fl) (hn : l.fl.length = n) : MgOk l.tx G (tbOf n) mg where
  gn := fun x d h => hg.mem (look_mem h)
  bn := fun x h => hb.mem (by have h : l.bl.contains x = true := h; simpa using h)
  fnm := fun f x h => by
    have h : (l.fl[f]?).join = some x := h
    cases e : l.fl[f]? with
    | none => rw [e] at h; cases h
    | some o =>
      rw [e] at h
      have e2 : o = some x := h
      have q := hf.at e x e2
      rw [Nat.zero_add] at q
      refine ⟨decide_eq_true ?_, q⟩
      rw [← hn]; exact (List.getElem?_eq_some_iff.mp e).1
theorem def_mk {t : Tx} {K : PySem.W.Frag} {x qual : Str} {st : Stmt} {f : Addr} {oc : Value} {od an : Option Addr} {osl : Array (Option Value)} {kV doc pm cdv ct : Value} {N ps : List Str} {d : Df} {G : Gd} {i : Nat} (hK : G.K = K) (hf : G.fa i = f)
    (l : K.lookup f = some ⟨oc, od, .func (PySem.W.fnOf x qual (defArgs st) (defBody st) (defScope st) .none kV doc pm an cdv ct), osl⟩) (c : PySem.W.codeIn K cdv qual = true) (k : PySem.W.keepIn K (.ref f) = true)
    (hb : ∀ (kV doc pm : Value) (an : Option Addr) (cdv ct : Value) (us : List Value), us.length = ps.length → bindArgs (PySem.W.fnOf x qual (defArgs st) (defBody st) (defScope st) .none kV doc pm an cdv ct) ⟨us, []⟩ = pure (ps.zip us))
    (S : FnScope N ps (defScope st)) (hl : ps.length = d.ps) (hn : N.length = d.names) (he : erSs t N d.body (defScope st) (defBody st) = true) : DefAt t G i d (PySem.W.fnOf x qual (defArgs st) (defBody st) (defScope st) .none kV doc pm an cdv ct) ps := by
  subst hK; subst hf
  have F := fun_mk (st := st) l c k
  exact ⟨x, qual, st, N, F, F.binds hb, S, hl, hn, he⟩
theorem gn_int {G : Gd} {mg : Str → Option Value} {x : Str} {i : Int} {tk : Tok} (h : mg x = some (.int i tk)) : ∃ u v, mg x = some u ∧ RelV v u ∧ ∀ H, RT G H v (.int i) := ⟨_, .int i, h, ⟨_, rfl⟩, fun _ => .int _⟩
theorem gn_str {G : Gd} {mg : Str → Option Value} {x i : Str} {tk : Tok} (h : mg x = some (.str i tk)) : ∃ u v, mg x = some u ∧ RelV v u ∧ ∀ H, RT G H v (.str i) := ⟨_, .str i, h, ⟨_, rfl⟩, fun _ => .str _⟩
theorem gn_fn {G : Gd} {mg : Str → Option Value} {x : Str} {f : Nat} {a : Addr} (h : mg x = some (.ref a)) (ha : G.fa f = a) : ∃ u v, mg x = some u ∧ RelV v u ∧ ∀ H, RT G H v (.fn f) := ⟨_, .ref a, h, rfl, fun _ => by subst ha; exact .fn f⟩
theorem walk {l : PySem.W.OpenLaw} {q : Program} {loose : List Str} {XP : (Str → Option Value) → Heap → Prop} {YP : World → Heap → Prop} {d : DefRec} {K : Params → PySem.W.Frag} {k : Nat} {x : Str} (hn : l.most = some 63) (hdf : d.params.defaults = []) (hr : Room k callerA)
    (hY : ∀ (w : World) (h : Heap), YP w h → (K w.params).In h)
    (F : ∀ (w : World) (mg : Str → Option Value) (fa : Addr) (h : Heap), (K w.params).In h → h.Ns mainGlobals mg → mg d.name = some (.ref fa) →
      ∃ fd : FuncData, (∀ (s : Shared) (u : Value), BindsTo s fd ⟨[u], []⟩ [(x, u)]) ∧ ∀ base : Heap, (K w.params).In base → base.Ns mainGlobals mg → FnOk l.prog w (K w.params) mg base (L2.CX l.prog w) k fa fd [x] (spScr (K w.params))) :
    PySem.W.WalkO q loose XP YP l.row.toRowW d [] (fun f vs => PySem.call f vs) :=
  L2.walk_ofB (n := 63) (k := k) (x := x) (CX := fun w => L2.CX l.prog w) (sp := fun w => spScr (K w.params)) hn (by decide) hdf hr hY F (fun _ _ a ns hl hb _ hS => ⟨a, ns, rfl, hS, hl, hb, fun _ => rfl⟩) fun w H s e s' z => by
    obtain ⟨_, _, _, _, _, _, _, _, _, _, _, _, q⟩ := z
    exact q
end Wc

/-! Wc: for the plain laws: how the evaluator is worked out. -/
namespace Wc
open PySem
theorem frz_t (n : Nat) (S : Sto) (x : T) : frz n S (.t x) = some (x, S) := by cases n <;> rfl
theorem look_t (S : Sto) (x : T) : look S (.t x) = x.pd := by unfold look; rw [frz_t]
theorem callD_t {C : Cal} {f : Nat} {ds : List D} {ts : List T} {S S1 : Sto} {t : T} (h : pls ds = some ts) (e : C f ds [] = .ok (.t t) S1) : callD C true f ds S = .ok (.t t) S := by
  simp [callD, h, e, frz_t]
theorem call1 {C : Cal} {f : Nat} {a : T} {S S1 : Sto} {t : T} (e : C f [.t a] [] = .ok (.t t) S1) : callD C true f [.t a] S = .ok (.t t) S := callD_t rfl e
theorem call2 {C : Cal} {f : Nat} {a b : T} {S S1 : Sto} {t : T} (e : C f [.t a, .t b] [] = .ok (.t t) S1) : callD C true f [.t a, .t b] S = .ok (.t t) S := callD_t rfl e
theorem call3 {C : Cal} {f : Nat} {a b c : T} {S S1 : Sto} {t : T} (e : C f [.t a, .t b, .t c] [] = .ok (.t t) S1) : callD C true f [.t a, .t b, .t c] S = .ok (.t t) S := callD_t rfl e
/-- a for loop that keeps a promise -/
theorem foL_inv {p : Pt} {b : Ev → Sto → RS} {S : Sto} (P : Nat → Ev → Prop) : ∀ (ds : List D) (k : Nat) (ρ : Ev), P k ρ →
    (∀ i d ρ, ds[i]? = some d → P (k + i) ρ → ∃ ρ1 ρ2, setP p d ρ = some ρ1 ∧ b ρ1 S = .nx ρ2 S ∧ P (k + i + 1) ρ2) → ∃ ρ2, foL p b ds ρ S = .nx ρ2 S ∧ P (k + ds.length) ρ2
  | [], k, ρ, h, _ => ⟨ρ, rfl, h⟩
  | d :: ds, k, ρ, h, s => by
    obtain ⟨ρ1, ρ2, e1, e2, h2⟩ := s 0 d ρ rfl h
    obtain ⟨ρ3, e3, h3⟩ := foL_inv P ds (k + 1) ρ2 h2 fun i d ρ e q => by
      have := s (i + 1) d ρ (by simpa using e) (by rw [show k + (i + 1) = k + 1 + i by omega]; exact q)
      rwa [show k + (i + 1) + 1 = k + 1 + i + 1 by omega] at this
    refine ⟨ρ3, by simp [foL, e1, e2, e3], ?_⟩
    rwa [show k + 1 + ds.length = k + (d :: ds).length by simp; omega] at h3
theorem pMulL {m : Bool} {i j : Int} {S : Sto} (h1 : -(2 ^ 64) < i) (h2 : i < 2 ^ 64) : pBin m .Mult (.t (.int i)) (.t (.int j)) S = .ok (.t (.int (i * j))) S := by
  simp only [pBin]; rw [if_pos (.inl ⟨h1, h2⟩)]
theorem pMulR {m : Bool} {i j : Int} {S : Sto} (h1 : -(2 ^ 64) < j) (h2 : j < 2 ^ 64) : pBin m .Mult (.t (.int i)) (.t (.int j)) S = .ok (.t (.int (i * j))) S := by
  simp only [pBin]; rw [if_pos (.inr (.inl ⟨h1, h2⟩))]
theorem pDiv {m : Bool} {i j : Int} {S : Sto} (h1 : 0 < j) (h2 : j < 1073741824) : pBin m .FloorDiv (.t (.int i)) (.t (.int j)) S = .ok (.t (.int (i / j))) S := by
  simp only [pBin]; rw [if_pos ⟨h1, .inl h2⟩]
theorem pMod {m : Bool} {i j : Int} {S : Sto} (h1 : 0 < j) : pBin m .Mod (.t (.int i)) (.t (.int j)) S = .ok (.t (.int (i % j))) S := by
  simp only [pBin]; rw [if_pos h1]
theorem pPow {m : Bool} {i j : Int} {S : Sto} (h : powOk i j) : pBin m .Pow (.t (.int i)) (.t (.int j)) S = .ok (.t (.int (i ^ j.toNat))) S := by
  simp only [pBin]; rw [if_pos h]
theorem pAddI {m : Bool} {i j : Int} {S : Sto} : pBin m .Add (.t (.int i)) (.t (.int j)) S = .ok (.t (.int (i + j))) S := rfl
theorem pSubI {m : Bool} {i j : Int} {S : Sto} : pBin m .Sub (.t (.int i)) (.t (.int j)) S = .ok (.t (.int (i - j))) S := rfl
theorem pAddS {m : Bool} {a b : Str} {S : Sto} (h : a.length + b.length ≤ lim) : pBin m .Add (.t (.str a)) (.t (.str b)) S = .ok (.t (.str (a ++ b))) S := by
  simp only [pBin, pAdd]; rw [if_pos h]
theorem pIdxS {z : Str} {i : Int} {S : Sto} {c : Nat} (h : z.length ≤ lim) (h1 : ixAt z.cps.toList i = some c) : pIdx (.t (.str z)) (.t (.int i)) S = .ok (.t (.str ⟨#[c]⟩)) S := by
  simp only [pIdx, dctOf]; rw [if_pos h, h1]; rfl
theorem pSlS {z : Str} {lo hi : Option Int} {S : Sto} (h : z.length ≤ lim) : pSl (.t (.str z)) lo hi S = .ok (.t (.str ⟨(cut z.cps.toList lo hi).toArray⟩)) S := by
  simp only [pSl]; rw [if_pos h]
theorem pLenS {z : Str} {S : Sto} (h : z.length ≤ lim) : pBi m .len [.t (.str z)] S = .ok (.t (.int z.length)) S := by
  simp only [pBi, pLen]; rw [if_pos h]
theorem lcL_filt {α : Type} {p : Pt} {ρ : Ev} {cond el : Ev → Sto → R D} {S : Sto} (f : α → D) (c : α → Bool) (g : α → D) : ∀ (l : List α) (acc : List D), acc.length + l.length ≤ lim →
    (∀ a ∈ l, ∃ ρ1, setP p (f a) ρ = some ρ1 ∧ cond ρ1 S = .ok (.t (.bl (c a))) S ∧ (c a = true → el ρ1 S = .ok (g a) S)) → lcL p ρ cond el (l.map f) S acc = .ok (acc ++ (l.filter c).map g) S
  | [], acc, _, _ => by simp [lcL]
  | a :: l, acc, hl, h => by
    obtain ⟨ρ1, e1, e2, e3⟩ := h a List.mem_cons_self
    simp only [List.length_cons] at hl
    have ih := fun acc hl => lcL_filt f c g l acc hl fun a m => h a (List.mem_cons_of_mem _ m)
    cases hc : c a with
    | true =>
      rw [hc] at e2
      have : acc.length < lim := by omega
      simp only [List.map_cons, lcL, e1, e2, e3 hc, this, if_true]
      rw [ih _ (by simp; omega)]
      simp [List.filter_cons, hc]
    | false =>
      rw [hc] at e2
      simp only [List.map_cons, lcL, e1, e2]
      rw [ih _ (by omega)]
      simp [List.filter_cons, hc]
theorem lcL_map {α : Type} {p : Pt} {ρ : Ev} {cond el : Ev → Sto → R D} {S : Sto} (f : α → D) (g : α → D) (l : List α) (acc : List D) (hl : acc.length + l.length ≤ lim)
    (h : ∀ a ∈ l, ∃ ρ1, setP p (f a) ρ = some ρ1 ∧ cond ρ1 S = .ok (.t (.bl true)) S ∧ el ρ1 S = .ok (g a) S) : lcL p ρ cond el (l.map f) S acc = .ok (acc ++ l.map g) S := by
  have := lcL_filt (p := p) (ρ := ρ) (cond := cond) (el := el) (S := S) f (fun _ => true) g l acc hl fun a m => by
    obtain ⟨ρ1, e1, e2, e3⟩ := h a m
    exact ⟨ρ1, e1, e2, fun _ => e3⟩
  rwa [List.filter_eq_self.mpr (by simp)] at this
/-- a for loop that may return early -/
theorem foL_ret {α : Type} {p : Pt} {b : Ev → Sto → RS} {S : Sto} (f : α → D) (P : Ev → Prop) (bad : α → Bool) (r : D) : ∀ (l : List α) (ρ : Ev), P ρ →
    (∀ a ∈ l, ∀ ρ, P ρ → ∃ ρ1, setP p (f a) ρ = some ρ1 ∧ (bad a = true → b ρ1 S = .rt r S) ∧ (bad a = false → ∃ ρ2, b ρ1 S = .nx ρ2 S ∧ P ρ2)) →
    (l.any bad = true → foL p b (l.map f) ρ S = .rt r S) ∧ (l.any bad = false → ∃ ρ2, foL p b (l.map f) ρ S = .nx ρ2 S ∧ P ρ2)
  | [], ρ, h, _ => ⟨fun h => (nomatch h), fun _ => ⟨ρ, rfl, h⟩⟩
  | a :: l, ρ, h, s => by
    obtain ⟨ρ1, e1, t1, t2⟩ := s a List.mem_cons_self ρ h
    cases hb : bad a with
    | true => exact ⟨fun _ => by simp [foL, e1, t1 hb], fun h => by simp [hb] at h⟩
    | false =>
      obtain ⟨ρ2, e2, h2⟩ := t2 hb
      have ih := foL_ret f P bad r l ρ2 h2 fun a m => s a (List.mem_cons_of_mem _ m)
      simp only [List.any_cons, hb, Bool.false_or, List.map_cons, foL, e1, e2]
      exact ih
theorem pls_of {α : Type} (f : α → T) (l : List α) : pls (l.map fun a => D.t (f a)) = some (l.map f) := by
  induction l with
  | nil => rfl
  | cons a l ih => simp [pls, ih]
theorem blsD_of {α : Type} (f : α → Bool) (l : List α) : blsD (l.map fun a => D.t (.bl (f a))) = some (l.map f) := by
  induction l with
  | nil => rfl
  | cons a l ih => simp [blsD, ih]
theorem intsD_of {α : Type} (f : α → Int) (l : List α) : intsD (l.map fun a => D.t (.int (f a))) = some (l.map f) := by
  induction l with
  | nil => rfl
  | cons a l ih => simp [intsD, ih]
/-! ### rows that work from the left: no row has a lambda -/
section
variable (B : Tb) (C : Cal)
def asgI (p : Pt) (ρ : Ev) (r : R D) : RS := match r with
  | .ok d S1 => (match setP p d ρ with
    | some ρ1 => .nx ρ1 S1
    | none => .no)
  | .ex c fs S1 => .ex c fs ρ S1
  | .no => .no
def exI (ρ : Ev) (r : R D) : RS := match r with
  | .ok _ S1 => .nx ρ S1
  | .ex c fs S1 => .ex c fs ρ S1
  | .no => .no
def retI (ρ : Ev) (r : R D) : RS := match r with
  | .ok d S1 => .rt d S1
  | .ex c fs S1 => .ex c fs ρ S1
  | .no => .no
def iteI (a b : ISs) (ρ : Ev) (r : R D) : RS := match r with
  | .ok (.t (.bl true)) S1 => evSs B C a ρ S1
  | .ok (.t (.bl false)) S1 => evSs B C b ρ S1
  | .ex k fs S1 => .ex k fs ρ S1
  | _ => .no
def foI (p : Pt) (k : Ik) (b : ISs) (ρ : Ev) (r : R (List D)) : RS := match r with
  | .ok ds S1 => (match itemsOf k ds S1 with
    | some xs => foL p (evSs B C b) xs ρ S1
    | none => .no)
  | .ex c fs S1 => .ex c fs ρ S1
  | .no => .no
def sqI (r : ISs) (x : RS) : RS := match x with
  | .nx ρ1 S1 => evSs B C r ρ1 S1
  | x => x
def tel (r : RS) : R D := match r with
  | .nx _ S1 => .ok (.t .non) S1
  | .rt d S1 => .ok d S1
  | .ex c fs _ S1 => .ex c fs S1
  | _ => .no
def oj (o : Option (Option D)) (S : Sto) : R D := match o with
  | some (some d) => .ok d S
  | _ => .no
def two (b : IE) (ρ : Ev) (f : D → D → Sto → R D) (r : R D) : R D := r.bind fun x S1 => (evE B C b ρ S1).bind fun y S2 => f x y S2
def twoJ (f : D → D → Sto → R D) (x : D) (r : R D) : R D := r.bind fun y S2 => f x y S2
def andI (b : IE) (ρ : Ev) (r : R D) : R D := r.bind fun x S1 => match x with
    | .t (.bl true) => evE B C b ρ S1
    | .t (.bl false) => .ok (.t (.bl false)) S1
    | _ => .no
def orI (b : IE) (ρ : Ev) (r : R D) : R D := r.bind fun x S1 => match x with
    | .t (.bl true) => .ok (.t (.bl true)) S1
    | .t (.bl false) => evE B C b ρ S1
    | _ => .no
def iteE (a b : IE) (ρ : Ev) (r : R D) : R D := r.bind fun x S1 => match x with
    | .t (.bl true) => evE B C a ρ S1
    | .t (.bl false) => evE B C b ρ S1
    | _ => .no
def notI (r : R D) : R D := r.bind fun x S1 => match x with
    | .t (.bl k) => .ok (.t (.bl (!k))) S1
    | _ => .no
def ch2I (o1 o2 : CmpOp) (b c : IE) (ρ : Ev) (r : R D) : R D := r.bind fun x S1 => (evE B C b ρ S1).bind fun y S2 => (pCmp o1 x y S2).bind fun k S3 => match k with
    | .t (.bl true) => (evE B C c ρ S3).bind fun z S4 => pCmp o2 y z S4
    | .t (.bl false) => .ok (.t (.bl false)) S3
    | _ => .no
def ch2J (o1 o2 : CmpOp) (c : IE) (ρ : Ev) (x : D) (r : R D) : R D := r.bind fun y S2 => (pCmp o1 x y S2).bind fun k S3 => match k with
    | .t (.bl true) => (evE B C c ρ S3).bind fun z S4 => pCmp o2 y z S4
    | .t (.bl false) => .ok (.t (.bl false)) S3
    | _ => .no
def ch2K (o2 : CmpOp) (c : IE) (ρ : Ev) (y : D) (r : R D) : R D := r.bind fun k S3 => match k with
    | .t (.bl true) => (evE B C c ρ S3).bind fun z S4 => pCmp o2 y z S4
    | .t (.bl false) => .ok (.t (.bl false)) S3
    | _ => .no
def ch3I (o1 o2 o3 : CmpOp) (b c d : IE) (ρ : Ev) (r : R D) : R D := r.bind fun x S1 => (evE B C b ρ S1).bind fun y S2 => (pCmp o1 x y S2).bind fun k S3 => match k with
    | .t (.bl true) => (evE B C c ρ S3).bind fun z S4 => (pCmp o2 y z S4).bind fun k S5 => match k with
      | .t (.bl true) => (evE B C d ρ S5).bind fun w S6 => pCmp o3 z w S6
      | .t (.bl false) => .ok (.t (.bl false)) S5
      | _ => .no
    | .t (.bl false) => .ok (.t (.bl false)) S3
    | _ => .no
def ch3J (o1 o2 o3 : CmpOp) (c d : IE) (ρ : Ev) (x : D) (r : R D) : R D := r.bind fun y S2 => (pCmp o1 x y S2).bind fun k S3 => match k with
    | .t (.bl true) => (evE B C c ρ S3).bind fun z S4 => (pCmp o2 y z S4).bind fun k S5 => match k with
      | .t (.bl true) => (evE B C d ρ S5).bind fun w S6 => pCmp o3 z w S6
      | .t (.bl false) => .ok (.t (.bl false)) S5
      | _ => .no
    | .t (.bl false) => .ok (.t (.bl false)) S3
    | _ => .no
def ch3K (o2 o3 : CmpOp) (c d : IE) (ρ : Ev) (y : D) (r : R D) : R D := r.bind fun k S3 => match k with
    | .t (.bl true) => (evE B C c ρ S3).bind fun z S4 => (pCmp o2 y z S4).bind fun k S5 => match k with
      | .t (.bl true) => (evE B C d ρ S5).bind fun w S6 => pCmp o3 z w S6
      | .t (.bl false) => .ok (.t (.bl false)) S5
      | _ => .no
    | .t (.bl false) => .ok (.t (.bl false)) S3
    | _ => .no
def lsI (f : List D → Sto → R D) (r : R (List D)) : R D := r.bind f
def isiI (c : Cl) (r : R D) : R D := r.bind fun x S1 => bl (isiB B.sub S1 x c) S1
def dctI (m : Bool) (r : R (List (Ky × D))) : R D := r.bind fun ps S1 => mkD m (ps.foldl (fun acc p => putKy acc p.1 p.2) []) S1
def slI (lo hi : IE) (ρ : Ev) (r : R D) : R D := r.bind fun x S1 => (evE B C lo ρ S1).bind fun l S2 => match prt lo l with
    | none => .no
    | some l => (evE B C hi ρ S2).bind fun h S3 => match prt hi h with
      | none => .no
      | some h => pSl x l h S3
def slJ (lo hi : IE) (ρ : Ev) (x : D) (r : R D) : R D := r.bind fun l S2 => match prt lo l with
    | none => .no
    | some l => (evE B C hi ρ S2).bind fun h S3 => match prt hi h with
      | none => .no
      | some h => pSl x l h S3
def slK (hi : IE) (x : D) (l : Option Int) (r : R D) : R D := r.bind fun h S3 => match prt hi h with
      | none => .no
      | some h => pSl x l h S3
def lcI (m : Bool) (el : IE) (p : Pt) (k : Ik) (cond : IE) (ρ : Ev) (r : R (List D)) : R D := r.bind fun ds S1 => match itemsOf k ds S1 with
    | none => .no
    | some xs => (lcL p (wipeL ρ p.own) (evE B C cond) (evE B C el) xs S1 []).bind fun ys S2 => mkL m ys S2
def lcJ (m : Bool) (r : R (List D)) : R D := r.bind fun ys S2 => mkL m ys S2
def esI (es : IEs) (ρ : Ev) (r : R D) : R (List D) := r.bind fun x S1 => (evEs B C es ρ S1).bind fun xs S2 => .ok (x :: xs) S2
def esJ (x : D) (r : R (List D)) : R (List D) := r.bind fun xs S2 => .ok (x :: xs) S2
def psI (v : IE) (t : IEs) (ρ : Ev) (r : R D) : R (List (Ky × D)) := r.bind fun x S1 => (evE B C v ρ S1).bind fun y S2 => match kyOf x with
    | none => .no
    | some ky => (evPs B C t ρ S2).bind fun ps S3 => .ok ((ky, y) :: ps) S3
def psJ (x : D) (t : IEs) (ρ : Ev) (r : R D) : R (List (Ky × D)) := r.bind fun y S2 => match kyOf x with
    | none => .no
    | some ky => (evPs B C t ρ S2).bind fun ps S3 => .ok ((ky, y) :: ps) S3
def bmI (m : Bool) (b : Bm) (es : IEs) (ρ : Ev) (r : R D) : R D := r.bind fun x S1 => if kindD S1 x = bmT b then (evEs B C es ρ S1).bind fun ds S2 => pBm m b x ds S2 else .no
def bmJ (m : Bool) (b : Bm) (x : D) (r : R (List D)) : R D := r.bind fun ds S2 => pBm m b x ds S2
def stiI (o i : IE) (ρ : Ev) (r : R D) : RS := match r with
  | .ok v S1 => (match evE B C o ρ S1 with
      | .ok x S2 => (match evE B C i ρ S2 with
        | .ok y S3 => nxO ρ (pSt x y v S3)
        | .ex c fs S3 => .ex c fs ρ S3
        | .no => .no)
      | .ex c fs S2 => .ex c fs ρ S2
      | .no => .no)
  | .ex c fs S1 => .ex c fs ρ S1
  | .no => .no
def stiJ (i : IE) (ρ : Ev) (v : D) (r : R D) : RS := match r with
  | .ok x S2 => (match evE B C i ρ S2 with
        | .ok y S3 => nxO ρ (pSt x y v S3)
        | .ex c fs S3 => .ex c fs ρ S3
        | .no => .no)
  | .ex c fs S1 => .ex c fs ρ S1
  | .no => .no
def stiK (ρ : Ev) (v x : D) (r : R D) : RS := match r with
  | .ok y S3 => nxO ρ (pSt x y v S3)
  | .ex c fs S1 => .ex c fs ρ S1
  | .no => .no
def psK (ky : Ky) (y : D) (r : R (List (Ky × D))) : R (List (Ky × D)) := r.bind fun ps S3 => .ok ((ky, y) :: ps) S3
end
section
variable {B : Tb} {C : Cal} {ρ ρ1 : Ev} {S S1 : Sto}
theorem s_asg {p : Pt} {e : IE} : evS B C (.asg p e) ρ S = asgI p ρ (evE B C e ρ S) := by rw [evS]; rfl
theorem asg_ok {i : Nat} {d : D} : asgI (.v i) ρ (.ok d S) = .nx (ρ.set i (some d)) S := rfl
theorem asg_tp {is : List Nat} {d : D} {ρ1 : Ev} (h : setP (.tup is) d ρ = some ρ1) : asgI (.tup is) ρ (.ok d S) = .nx ρ1 S := by unfold asgI; simp only [h]
theorem s_ex {e : IE} : evS B C (.ex e) ρ S = exI ρ (evE B C e ρ S) := by rw [evS]; rfl
theorem ex_ok {d : D} : exI ρ (.ok d S) = .nx ρ S := rfl
theorem s_ret {e : IE} : evS B C (.ret e) ρ S = retI ρ (evE B C e ρ S) := by rw [evS]; rfl
theorem ret_ok {d : D} : retI ρ (.ok d S) = .rt d S := rfl
theorem s_retN : evS B C .retN ρ S = .rt (.t .non) S := by rw [evS]
theorem s_brk : evS B C .brk ρ S = .bk ρ S := by rw [evS]
theorem s_cnt : evS B C .cnt ρ S = .ct ρ S := by rw [evS]
theorem s_pas : evS B C .pas ρ S = .nx ρ S := by rw [evS]
theorem s_ite {c : IE} {a b : ISs} : evS B C (.ite c a b) ρ S = iteI B C a b ρ (evE B C c ρ S) := by rw [evS]; rfl
theorem ite_t {a b : ISs} : iteI B C a b ρ (.ok (.t (.bl true)) S) = evSs B C a ρ S := rfl
theorem ite_f {a b : ISs} : iteI B C a b ρ (.ok (.t (.bl false)) S) = evSs B C b ρ S := rfl
theorem s_fo {p : Pt} {k : Ik} {es : IEs} {b : ISs} : evS B C (.fo p k es b) ρ S = foI B C p k b ρ (evEs B C es ρ S) := by rw [evS]; rfl
theorem fo_ok {p : Pt} {k : Ik} {b : ISs} {ds xs : List D} (h : itemsOf k ds S = some xs) : foI B C p k b ρ (.ok ds S) = foL p (evSs B C b) xs ρ S := by unfold foI; simp only [h]
theorem s_nil : evSs B C .nil ρ S = .nx ρ S := by rw [evSs]
theorem s_cons {s : IS} {r : ISs} : evSs B C (.cons s r) ρ S = sqI B C r (evS B C s ρ S) := by rw [evSs]; rfl
theorem sq_nx {r : ISs} : sqI B C r (.nx ρ S) = evSs B C r ρ S := rfl
theorem sq_rt {r : ISs} {d : D} : sqI B C r (.rt d S) = .rt d S := rfl
theorem sq_bk {r : ISs} : sqI B C r (.bk ρ S) = .bk ρ S := rfl
theorem sq_ct {r : ISs} : sqI B C r (.ct ρ S) = .ct ρ S := rfl
theorem sq_ex {r : ISs} {c : Nat} {fs} : sqI B C r (.ex c fs ρ S) = .ex c fs ρ S := rfl
theorem tel_nx : tel (.nx ρ S) = .ok (.t .non) S := rfl
theorem tel_rt {d : D} : tel (.rt d S) = .ok d S := rfl
theorem tel_ex {c : Nat} {fs} : tel (.ex c fs ρ S) = .ex c fs S := rfl
theorem r_def {P : Nat → Option Df} {n f : Nat} {d : Df} {ds : List D} (h : P f = some d) (hl : ds.length = d.ps) : cal B P (n + 1) f ds S = tel (evSs B (cal B P n) d.body (ds.map some ++ List.replicate (d.names - ds.length) none) S) := by
  show (match P f with | some d => runDf B (cal B P n) d ds S | none => .no) = _
  rw [h]
  show runDf B (cal B P n) d ds S = _
  unfold runDf
  rw [if_pos hl]
  unfold tel
  cases evSs B (cal B P n) d.body (ds.map some ++ List.replicate (d.names - ds.length) none) S <;> rfl
theorem e_v {i : Nat} : evE B C (.v i) ρ S = oj ρ[i]? S := by rw [evE]; rfl
theorem oj_s {d : D} : oj (some (some d)) S = .ok d S := rfl
theorem e_c {t : T} : evE B C (.c t) ρ S = .ok (.t t) S := by rw [evE]
theorem e_g {x : Str} {t : T} : evE B C (.g x t) ρ S = .ok (.t t) S := by rw [evE]
theorem e_nop : evE B C .nop ρ S = .ok (.t .non) S := by rw [evE]
theorem e_one {e : IE} : evE B C (.one e) ρ S = evE B C e ρ S := by rw [evE]
theorem e_bin {m : Bool} {op : Operator} {a b : IE} : evE B C (.bin m op a b) ρ S = two B C b ρ (pBin m op) (evE B C a ρ S) := by rw [evE]; rfl
theorem e_cmp {op : CmpOp} {a b : IE} : evE B C (.cmp op a b) ρ S = two B C b ρ (pCmp op) (evE B C a ρ S) := by rw [evE]; rfl
theorem e_idx {a b : IE} : evE B C (.idx a b) ρ S = two B C b ρ pIdx (evE B C a ρ S) := by rw [evE]; rfl
theorem two_ok {b : IE} {f : D → D → Sto → R D} {x : D} : two B C b ρ f (.ok x S) = twoJ f x (evE B C b ρ S) := rfl
theorem twoJ_ok {f : D → D → Sto → R D} {x y : D} : twoJ f x (.ok y S) = f x y S := rfl
theorem e_and {a b : IE} : evE B C (.and a b) ρ S = andI B C b ρ (evE B C a ρ S) := by rw [evE]; rfl
theorem and_t {b : IE} : andI B C b ρ (.ok (.t (.bl true)) S) = evE B C b ρ S := rfl
theorem and_f {b : IE} : andI B C b ρ (.ok (.t (.bl false)) S) = .ok (.t (.bl false)) S := rfl
theorem e_or {a b : IE} : evE B C (.or a b) ρ S = orI B C b ρ (evE B C a ρ S) := by rw [evE]; rfl
theorem or_t {b : IE} : orI B C b ρ (.ok (.t (.bl true)) S) = .ok (.t (.bl true)) S := rfl
theorem or_f {b : IE} : orI B C b ρ (.ok (.t (.bl false)) S) = evE B C b ρ S := rfl
theorem e_ite {c a b : IE} : evE B C (.ite c a b) ρ S = iteE B C a b ρ (evE B C c ρ S) := by rw [evE]; rfl
theorem iteE_t {a b : IE} : iteE B C a b ρ (.ok (.t (.bl true)) S) = evE B C a ρ S := rfl
theorem iteE_f {a b : IE} : iteE B C a b ρ (.ok (.t (.bl false)) S) = evE B C b ρ S := rfl
theorem e_not {a : IE} : evE B C (.not a) ρ S = notI (evE B C a ρ S) := by rw [evE]; rfl
theorem not_b {k : Bool} : notI (.ok (.t (.bl k)) S) = .ok (.t (.bl (!k))) S := rfl
theorem e_ch2 {o1 o2 : CmpOp} {a b c : IE} : evE B C (.ch2 o1 o2 a b c) ρ S = ch2I B C o1 o2 b c ρ (evE B C a ρ S) := by rw [evE]; rfl
theorem ch2I_ok {o1 o2 : CmpOp} {b c : IE} {x : D} : ch2I B C o1 o2 b c ρ (.ok x S) = ch2J B C o1 o2 c ρ x (evE B C b ρ S) := rfl
theorem ch2J_ok {o1 o2 : CmpOp} {c : IE} {x y : D} : ch2J B C o1 o2 c ρ x (.ok y S) = ch2K B C o2 c ρ y (pCmp o1 x y S) := rfl
theorem ch2K_t {o2 : CmpOp} {c : IE} {y : D} : ch2K B C o2 c ρ y (.ok (.t (.bl true)) S) = twoJ (pCmp o2) y (evE B C c ρ S) := rfl
theorem ch2K_f {o2 : CmpOp} {c : IE} {y : D} : ch2K B C o2 c ρ y (.ok (.t (.bl false)) S) = .ok (.t (.bl false)) S := rfl
theorem e_ch3 {o1 o2 o3 : CmpOp} {a b c d : IE} : evE B C (.ch3 o1 o2 o3 a b c d) ρ S = ch3I B C o1 o2 o3 b c d ρ (evE B C a ρ S) := by rw [evE]; rfl
theorem ch3I_ok {o1 o2 o3 : CmpOp} {b c d : IE} {x : D} : ch3I B C o1 o2 o3 b c d ρ (.ok x S) = ch3J B C o1 o2 o3 c d ρ x (evE B C b ρ S) := rfl
theorem ch3J_ok {o1 o2 o3 : CmpOp} {c d : IE} {x y : D} : ch3J B C o1 o2 o3 c d ρ x (.ok y S) = ch3K B C o2 o3 c d ρ y (pCmp o1 x y S) := rfl
theorem ch3K_t {o2 o3 : CmpOp} {c d : IE} {y : D} : ch3K B C o2 o3 c d ρ y (.ok (.t (.bl true)) S) = ch2J B C o2 o3 d ρ y (evE B C c ρ S) := rfl
theorem ch3K_f {o2 o3 : CmpOp} {c d : IE} {y : D} : ch3K B C o2 o3 c d ρ y (.ok (.t (.bl false)) S) = .ok (.t (.bl false)) S := rfl
theorem e_tup {es : IEs} : evE B C (.tup es) ρ S = lsI mkT (evEs B C es ρ S) := by rw [evE]; rfl
theorem e_lst {m : Bool} {es : IEs} : evE B C (.lst m es) ρ S = lsI (mkL m) (evEs B C es ρ S) := by rw [evE]; rfl
theorem e_bi {m : Bool} {b : Bi} {es : IEs} : evE B C (.bi m b es) ρ S = lsI (pBi m b) (evEs B C es ρ S) := by rw [evE]; rfl
theorem e_call {m : Bool} {f : Nat} {es : IEs} : evE B C (.call m f es) ρ S = lsI (callD C m f) (evEs B C es ρ S) := by rw [evE]; rfl
theorem e_cv {m : Bool} {i : Nat} {es : IEs} {f : Nat} (h : ρ[i]? = some (some (.t (.fn f)))) (hb : B.isf f = true) : evE B C (.cv m i es) ρ S = lsI (callD C m f) (evEs B C es ρ S) := by
  rw [evE, h]; simp only [hb, if_true]; rfl
theorem lsI_ok {f : List D → Sto → R D} {ds : List D} : lsI f (.ok ds S) = f ds S := rfl
theorem e_dct {m : Bool} {es : IEs} : evE B C (.dct m es) ρ S = dctI m (evPs B C es ρ S) := by rw [evE]; rfl
theorem dct_ok {m : Bool} {ps : List (Ky × D)} : dctI m (.ok ps S) = mkD m (ps.foldl (fun acc p => putKy acc p.1 p.2) []) S := rfl
theorem ps_nil : evPs B C .nil ρ S = .ok [] S := by rw [evPs]
theorem ps_cons {k v : IE} {r : IEs} : evPs B C (.cons k (.cons v r)) ρ S = psI B C v r ρ (evE B C k ρ S) := by rw [evPs]; rfl
theorem psI_ok {v : IE} {r : IEs} {x : D} : psI B C v r ρ (.ok x S) = psJ B C x r ρ (evE B C v ρ S) := rfl
theorem psJ_ok {r : IEs} {x y : D} {k : Ky} (h : kyOf x = some k) : psJ B C x r ρ (.ok y S) = psK k y (evPs B C r ρ S) := by unfold psJ psK; simp only [R.bind_ok, h]
theorem psK_ok {y : D} {k : Ky} {ps} : psK k y (.ok ps S) = .ok ((k, y) :: ps) S := rfl
theorem e_sl {a lo hi : IE} : evE B C (.sl a lo hi) ρ S = slI B C lo hi ρ (evE B C a ρ S) := by rw [evE]; rfl
theorem slI_ok {lo hi : IE} {x : D} : slI B C lo hi ρ (.ok x S) = slJ B C lo hi ρ x (evE B C lo ρ S) := rfl
theorem slJ_ok {lo hi : IE} {x y : D} {l : Option Int} (h : prt lo y = some l) : slJ B C lo hi ρ x (.ok y S) = slK hi x l (evE B C hi ρ S) := by unfold slJ slK; simp only [R.bind_ok, h]
theorem slK_ok {hi : IE} {x y : D} {l h : Option Int} (e : prt hi y = some h) : slK hi x l (.ok y S) = pSl x l h S := by unfold slK; simp only [R.bind_ok, e]
theorem e_isi {a : IE} {c : Cl} : evE B C (.isi a c) ρ S = isiI B c (evE B C a ρ S) := by rw [evE]; rfl
theorem isi_ok {c : Cl} {x : D} {k : Bool} (h : isiB B.sub S x c = some k) : isiI B c (.ok x S) = .ok (.t (.bl k)) S := by unfold isiI; simp only [R.bind_ok, h]; rfl
theorem e_lc {m : Bool} {el : IE} {p : Pt} {k : Ik} {es : IEs} {cond : IE} : evE B C (.lc m el p k es cond) ρ S = lcI B C m el p k cond ρ (evEs B C es ρ S) := by rw [evE]; rfl
theorem lcI_ok {m : Bool} {el : IE} {p : Pt} {k : Ik} {cond : IE} {ds xs : List D} (h : itemsOf k ds S = some xs) : lcI B C m el p k cond ρ (.ok ds S) = lcJ m (lcL p (wipeL ρ p.own) (evE B C cond) (evE B C el) xs S []) := by
  unfold lcI lcJ; simp only [R.bind_ok, h]
theorem lcJ_ok {m : Bool} {ys : List D} : lcJ m (.ok ys S) = mkL m ys S := rfl
theorem e_bm {m : Bool} {b : Bm} {o : IE} {es : IEs} : evE B C (.bm m b o es) ρ S = bmI B C m b es ρ (evE B C o ρ S) := by rw [evE]; rfl
theorem bmI_ok {m : Bool} {b : Bm} {es : IEs} {x : D} (h : kindD S x = bmT b) : bmI B C m b es ρ (.ok x S) = bmJ m b x (evEs B C es ρ S) := by unfold bmI bmJ; simp only [R.bind_ok, h, if_true]
theorem bmJ_ok {m : Bool} {b : Bm} {x : D} {ds : List D} : bmJ m b x (.ok ds S) = pBm m b x ds S := rfl
theorem s_sti {o i e : IE} : evS B C (.sti o i e) ρ S = stiI B C o i ρ (evE B C e ρ S) := by rw [evS]; rfl
theorem stiI_ok {o i : IE} {v : D} : stiI B C o i ρ (.ok v S) = stiJ B C i ρ v (evE B C o ρ S) := rfl
theorem stiJ_ok {i : IE} {v x : D} : stiJ B C i ρ v (.ok x S) = stiK ρ v x (evE B C i ρ S) := rfl
theorem stiK_ok {v x y : D} : stiK ρ v x (.ok y S) = nxO ρ (pSt x y v S) := rfl
theorem nxO_s : nxO ρ (some S) = .nx ρ S := rfl
theorem s_wh {c : IE} {b : ISs} : evS B C (.wh c b) ρ S = whL (evE B C c) (evSs B C b) wf ρ S := by rw [evS]
theorem es_nil : evEs B C .nil ρ S = .ok [] S := by rw [evEs]
theorem es_cons {e : IE} {es : IEs} : evEs B C (.cons e es) ρ S = esI B C es ρ (evE B C e ρ S) := by rw [evEs]; rfl
theorem esI_ok {es : IEs} {x : D} : esI B C es ρ (.ok x S) = esJ x (evEs B C es ρ S) := rfl
theorem esJ_ok {x : D} {xs : List D} : esJ x (.ok xs S) = .ok (x :: xs) S := rfl
end
theorem pAddL {xs ys : List T} {S : Sto} (h : xs.length + ys.length ≤ lim) : pBin false .Add (.t (.lst xs)) (.t (.lst ys)) S = .ok (.t (.lst (xs ++ ys))) S := by
  have h' : (xs.map D.t).length + (ys.map D.t).length ≤ lim := by simpa using h
  simp only [pBin, pAdd, asList, if_pos h', mkL, ← List.map_append, pls_map, Bool.false_eq_true, if_false]
theorem pIdxL {xs : List T} {i : Int} {x : T} {S : Sto} (h : ixAt xs i = some x) : pIdx (.t (.lst xs)) (.t (.int i)) S = .ok (.t x) S := by
  have : ixAt (xs.map D.t) i = some (.t x) := by
    unfold ixAt at h ⊢
    split at h
    · rename_i c; rw [if_pos c, List.getElem?_map, h]; rfl
    · rename_i c
      split at h
      · rename_i c2; rw [if_neg c, if_pos (by simpa using c2), List.getElem?_map]; simp only [List.length_map]; rw [h]; rfl
      · cases h
  simp only [pIdx, dctOf, seqOf, this, opt]
theorem ixAt_in {α : Type} {xs : List α} {i : Int} (h : 0 ≤ i) (h2 : i < xs.length) : ∃ x, ixAt xs i = some x ∧ x ∈ xs := by
  have : i.toNat < xs.length := by omega
  exact ⟨xs[i.toNat], by unfold ixAt; rw [if_pos h]; exact List.getElem?_eq_getElem this, List.getElem_mem this⟩
theorem mkL_t {ts : List T} {ds : List D} {S : Sto} (h : pls ds = some ts) : mkL false ds S = .ok (.t (.lst ts)) S := by simp only [mkL, h, Bool.false_eq_true, if_false]
theorem mkT_t {ts : List T} {ds : List D} {S : Sto} (h : pls ds = some ts) : mkT ds S = .ok (.t (.tup ts)) S := by simp only [mkT, h]
theorem pEqI {a b : Int} {S : Sto} : pCmp .Eq (.t (.int a)) (.t (.int b)) S = .ok (.t (.bl (decide (a = b)))) S := by
  simp [pCmp, eqD, look_t, T.pd, SeqAt.shaped, PyData.canLay0, PyData.depth, PyData.eqv, bl, BEq.beq]
theorem pNeI {a b : Int} {S : Sto} : pCmp .NotEq (.t (.int a)) (.t (.int b)) S = .ok (.t (.bl (!decide (a = b)))) S := by
  simp [pCmp, eqD, look_t, T.pd, SeqAt.shaped, PyData.canLay0, PyData.depth, PyData.eqv, bl, BEq.beq]
theorem pEqS {a b : Str} {S : Sto} (ha : PyData.strOk a = true) (hb : PyData.strOk b = true) : pCmp .Eq (.t (.str a)) (.t (.str b)) S = .ok (.t (.bl (decide (a = b)))) S := by
  simp [pCmp, eqD, look_t, T.pd, SeqAt.shaped, PyData.canLay0, PyData.depth, PyData.eqv, bl, BEq.beq, ha, hb]
theorem pNeS {a b : Str} {S : Sto} (ha : PyData.strOk a = true) (hb : PyData.strOk b = true) : pCmp .NotEq (.t (.str a)) (.t (.str b)) S = .ok (.t (.bl (!decide (a = b)))) S := by
  simp [pCmp, eqD, look_t, T.pd, SeqAt.shaped, PyData.canLay0, PyData.depth, PyData.eqv, bl, BEq.beq, ha, hb]
theorem cut_len {α : Type} (xs : List α) (lo hi : Option Int) : (cut xs lo hi).length ≤ xs.length := by
  unfold cut; simp only [List.length_take, List.length_drop]; omega
theorem Str.len_app (a b : Str) : (a ++ b).length = a.length + b.length := by
  show (a.cps ++ b.cps).size = _
  simp [Str.length]
theorem frzL_t (n : Nat) (S : Sto) : ∀ l : List T, frzL (frz n) S (l.map .t) = some (l, S)
  | [] => rfl
  | x :: l => by simp only [List.map_cons, frzL, frz_t, frzL_t n S l]
theorem frz_lst {S : Sto} {k : Nat} {l : List T} (h : S[k]? = some (.lst (l.map .t))) : frz 9 S (.ref k) = some (.lst l, S.set k .dead) := by
  have ha : alive S k = true := by unfold alive; rw [h]
  simp only [frz, h, frzL_t, ha, if_true]
theorem e_frz {B : Tb} {C : Cal} {e : IE} {ρ : Ev} {S S1 S2 : Sto} {x : D} {t : T} (h : evE B C e ρ S = .ok x S1) (h2 : frz 9 S1 x = some (t, S2)) : evE B C (.frz e) ρ S = .ok (.t t) S2 := by
  rw [evE, h]; simp only [R.bind_ok, h2]
theorem callD_f {C : Cal} {f : Nat} {ds : List D} {S : Sto} : callD C false f ds S = C f ds S := rfl
theorem Str.len_cps (z : Str) : z.length = z.cps.toList.length := by simp [Str.length]
end Wc

/-! Wc: plain kinds of things as data: when two are equal, in, index. -/
namespace Wc
open PySem
/-- things of a kind are told apart by == -/
structure Enc {α : Type} (n : Nat) (f : α → T) where
  pd : α → PyData
  ok : ∀ a, (f a).pd = some (pd a)
  lay : ∀ a, (pd a).canLay0 = true
  dep : ∀ a, (pd a).depth ≤ n
  eq : ∀ a b, PyData.eqv (pd a) (pd b) = true ↔ a = b
def opT : Option Int → T
  | none => .non
  | some i => .int i
def encInt : Enc 0 T.int := ⟨fun i => .int i, fun _ => rfl, fun _ => rfl, fun _ => Nat.le_refl _, fun a b => by simp [PyData.eqv]⟩
def encBl : Enc 0 T.bl := ⟨fun i => .bool i, fun _ => rfl, fun _ => rfl, fun _ => Nat.le_refl _, fun a b => by simp [PyData.eqv]⟩
def encOpt : Enc 0 opT := ⟨fun | none => .none | some i => .int i, fun a => by cases a <;> rfl, fun a => by cases a <;> rfl, fun a => by cases a <;> exact Nat.le_refl _,
  fun a b => by cases a <;> cases b <;> simp [PyData.eqv]⟩
theorem encs_ok {α : Type} {n : Nat} {f : α → T} (E : Enc n f) : ∀ l : List α, T.pds (l.map f) = some (l.map E.pd)
  | [] => rfl
  | a :: l => by simp only [List.map_cons, T.pds, E.ok, encs_ok E l]
theorem encs_lay {α : Type} {n : Nat} {f : α → T} (E : Enc n f) : ∀ l : List α, PyData.canLayAll0 (l.map E.pd) = true
  | [] => rfl
  | a :: l => by simp only [List.map_cons, PyData.canLayAll0, E.lay, encs_lay E l, Bool.and_self]
theorem encs_dep {α : Type} {n : Nat} {f : α → T} (E : Enc n f) : ∀ l : List α, PyData.depthAll (l.map E.pd) ≤ n
  | [] => Nat.zero_le _
  | a :: l => by simp only [List.map_cons, PyData.depthAll]; exact Nat.max_le.mpr ⟨E.dep a, encs_dep E l⟩
theorem encs_eq {α : Type} {n : Nat} {f : α → T} (E : Enc n f) : ∀ l m : List α, PyData.eqvAll (l.map E.pd) (m.map E.pd) = true ↔ l = m
  | [], [] => by simp [PyData.eqvAll]
  | [], b :: m => by simp [PyData.eqvAll]
  | a :: l, [] => by simp [PyData.eqvAll]
  | a :: l, b :: m => by simp only [List.map_cons, PyData.eqvAll, Bool.and_eq_true, E.eq, encs_eq E l m, List.cons.injEq]
def encLst {α : Type} {n : Nat} {f : α → T} (E : Enc n f) : Enc (n + 1) (fun l : List α => T.lst (l.map f)) :=
  ⟨fun l => .list (l.map E.pd), fun l => by simp only [T.pd, encs_ok E l, Option.map_some], fun l => by simp only [PyData.canLay0]; exact encs_lay E l,
   fun l => by simp only [PyData.depth]; exact Nat.succ_le_succ (encs_dep E l), fun l m => by simp only [PyData.eqv]; exact encs_eq E l m⟩
def encTupL {α : Type} {n : Nat} {f : α → T} (E : Enc n f) : Enc (n + 1) (fun l : List α => T.tup (l.map f)) :=
  ⟨fun l => .tuple (l.map E.pd), fun l => by simp only [T.pd, encs_ok E l, Option.map_some], fun l => by simp only [PyData.canLay0]; exact encs_lay E l,
   fun l => by simp only [PyData.depth]; exact Nat.succ_le_succ (encs_dep E l), fun l m => by simp only [PyData.eqv]; exact encs_eq E l m⟩
def encTup2 {α β : Type} {n m : Nat} {f : α → T} {g : β → T} (E : Enc n f) (F : Enc m g) : Enc (max n m + 1) (fun x : α × β => T.tup [f x.1, g x.2]) :=
  ⟨fun x => .tuple [E.pd x.1, F.pd x.2], fun x => by simp only [T.pd, T.pds, E.ok, F.ok, Option.map_some], fun x => by simp only [PyData.canLay0, PyData.canLayAll0, E.lay, F.lay, Bool.and_self],
   fun x => by
    have := E.dep x.1; have := F.dep x.2
    simp only [PyData.depth, PyData.depthAll]; omega,
   fun x y => by simp only [PyData.eqv, PyData.eqvAll, Bool.and_true, Bool.and_eq_true, E.eq, F.eq]; exact ⟨fun h => Prod.ext h.1 h.2, fun h => h ▸ ⟨rfl, rfl⟩⟩⟩
def encTup3 {α β γ : Type} {n m k : Nat} {f : α → T} {g : β → T} {h : γ → T} (E : Enc n f) (F : Enc m g) (G : Enc k h) : Enc (max n (max m k) + 1) (fun x : α × β × γ => T.tup [f x.1, g x.2.1, h x.2.2]) :=
  ⟨fun x => .tuple [E.pd x.1, F.pd x.2.1, G.pd x.2.2], fun x => by simp only [T.pd, T.pds, E.ok, F.ok, G.ok, Option.map_some], fun x => by simp only [PyData.canLay0, PyData.canLayAll0, E.lay, F.lay, G.lay, Bool.and_self],
   fun x => by
    have := E.dep x.1; have := F.dep x.2.1; have := G.dep x.2.2
    simp only [PyData.depth, PyData.depthAll]; omega,
   fun x y => by simp only [PyData.eqv, PyData.eqvAll, Bool.and_true, Bool.and_eq_true, E.eq, F.eq, G.eq]; exact ⟨fun h => Prod.ext h.1 (Prod.ext h.2.1 h.2.2), fun h => h ▸ ⟨rfl, rfl, rfl⟩⟩⟩
section
variable {α : Type} {n : Nat} {f : α → T} (E : Enc n f) {S : Sto}
include E
theorem Enc.shaped (hn : n ≤ 64) (a : α) : SeqAt.shaped (E.pd a) = true := by
  unfold SeqAt.shaped; rw [E.lay, decide_eq_true (Nat.le_trans (E.dep a) hn)]; rfl
theorem Enc.look (a : α) : look S (.t (f a)) = some (E.pd a) := by rw [look_t, E.ok]
theorem eqD_enc [DecidableEq α] (hn : n ≤ 64) (a b : α) : eqD (.t (f a)) (.t (f b)) S = some (decide (a = b)) := by
  unfold eqD
  simp only [E.look, E.shaped hn, Bool.and_self, if_true]
  congr 1
  by_cases h : a = b
  · rw [decide_eq_true h]; exact (E.eq a b).mpr h
  · rw [decide_eq_false h]; cases h2 : PyData.eqv (E.pd a) (E.pd b) with
    | false => rfl
    | true => exact absurd ((E.eq a b).mp h2) h
theorem pEq_enc [DecidableEq α] (hn : n ≤ 64) (a b : α) : pCmp .Eq (.t (f a)) (.t (f b)) S = .ok (.t (.bl (decide (a = b)))) S := by
  simp only [pCmp, eqD_enc E hn, bl]
theorem pNe_enc [DecidableEq α] (hn : n ≤ 64) (a b : α) : pCmp .NotEq (.t (f a)) (.t (f b)) S = .ok (.t (.bl (!decide (a = b)))) S := by
  simp only [pCmp, eqD_enc E hn, bl, Option.map_some]
theorem Enc.eqvd [DecidableEq α] (a b : α) : PyData.eqv (E.pd a) (E.pd b) = decide (a = b) := by
  by_cases h : a = b
  · rw [decide_eq_true h]; exact (E.eq a b).mpr h
  · rw [decide_eq_false h]; cases h2 : PyData.eqv (E.pd a) (E.pd b) with
    | false => rfl
    | true => exact absurd ((E.eq a b).mp h2) h
theorem pIn_enc [DecidableEq α] (hn : n ≤ 63) (a : α) (l : List α) : pCmp .In (.t (f a)) (.t (.lst (l.map f))) S = .ok (.t (.bl (decide (a ∈ l)))) S := by
  have e1 : Wc.look S (.t (.lst (l.map f))) = some (.list (l.map E.pd)) := (encLst E).look l
  have e2 : SeqAt.shaped (.list (l.map E.pd)) = true := (encLst E).shaped (by omega) l
  have e3 : ((l.map E.pd).any fun z => PyData.eqv z (E.pd a)) = decide (a ∈ l) := by
    rw [List.any_map]
    rw [Bool.eq_iff_iff]
    simp only [List.any_eq_true, Function.comp_apply, E.eq, decide_eq_true_eq]
    exact ⟨fun ⟨x, hx, e⟩ => e ▸ hx, fun h => ⟨a, h, rfl⟩⟩
  have e4 : inD (.t (f a)) (.t (.lst (l.map f))) S = some (decide (a ∈ l)) := by
    simp only [inD, dctOf, E.look, e1, e2, E.shaped (by omega : n ≤ 64), Bool.and_self, if_true, e3]
  simp only [pCmp, e4, bl]
theorem pNin_enc [DecidableEq α] (hn : n ≤ 63) (a : α) (l : List α) : pCmp .NotIn (.t (f a)) (.t (.lst (l.map f))) S = .ok (.t (.bl (!decide (a ∈ l)))) S := by
  have := pIn_enc E (S := S) hn a l
  simp only [pCmp] at this ⊢
  cases e : inD (.t (f a)) (.t (.lst (l.map f))) S with
  | none => rw [e] at this; cases this
  | some b => rw [e] at this; simp only [bl] at this ⊢; cases this; rfl
theorem pIn_t (hn : n ≤ 63) {a : α} {l : List α} (h : a ∈ l) : pCmp .In (.t (f a)) (.t (.lst (l.map f))) S = .ok (.t (.bl true)) S := by
  classical
  rw [pIn_enc E hn a l, decide_eq_true h]
theorem pIn_f (hn : n ≤ 63) {a : α} {l : List α} (h : a ∉ l) : pCmp .In (.t (f a)) (.t (.lst (l.map f))) S = .ok (.t (.bl false)) S := by
  classical
  rw [pIn_enc E hn a l, decide_eq_false h]
theorem pNin_t (hn : n ≤ 63) {a : α} {l : List α} (h : a ∉ l) : pCmp .NotIn (.t (f a)) (.t (.lst (l.map f))) S = .ok (.t (.bl true)) S := by
  classical
  rw [pNin_enc E hn a l, decide_eq_false h]; rfl
theorem pNin_f (hn : n ≤ 63) {a : α} {l : List α} (h : a ∈ l) : pCmp .NotIn (.t (f a)) (.t (.lst (l.map f))) S = .ok (.t (.bl false)) S := by
  classical
  rw [pNin_enc E hn a l, decide_eq_true h]; rfl
theorem pIndex_enc [DecidableEq α] (hn : n ≤ 63) (a : α) (l : List α) {j : Nat} (h : l.findIdx? (fun z => decide (z = a)) = some j) : pBm false .index (.t (.lst (l.map f))) [.t (f a)] S = .ok (.t (.int (j : Nat))) S := by
  have e1 : Wc.look S (.t (.lst (l.map f))) = some (.list (l.map E.pd)) := (encLst E).look l
  have e2 : SeqAt.shaped (.list (l.map E.pd)) = true := (encLst E).shaped (by omega) l
  have e3 : ((l.map E.pd).findIdx? fun z => PyData.eqv z (E.pd a)) = some j := by
    rw [List.findIdx?_map, ← h]
    congr 1
    funext z
    exact E.eqvd z a
  simp only [pBm, pInd, E.look, e1, e2, E.shaped (by omega : n ≤ 64), Bool.and_self, if_true, e3]
end
theorem pIs_opt (o : Option Int) (S : Sto) : pCmp .Is (.t (opT o)) (.t .non) S = .ok (.t (.bl o.isNone)) S := by cases o <;> rfl
theorem pIsN_opt (o : Option Int) (S : Sto) : pCmp .IsNot (.t (opT o)) (.t .non) S = .ok (.t (.bl o.isSome)) S := by cases o <;> rfl
theorem pLt (a b : Int) (S : Sto) : pCmp .Lt (.t (.int a)) (.t (.int b)) S = .ok (.t (.bl (decide (a < b)))) S := rfl
theorem pLe (a b : Int) (S : Sto) : pCmp .LtE (.t (.int a)) (.t (.int b)) S = .ok (.t (.bl (decide (a ≤ b)))) S := rfl
theorem pGt (a b : Int) (S : Sto) : pCmp .Gt (.t (.int a)) (.t (.int b)) S = .ok (.t (.bl (decide (b < a)))) S := rfl
theorem pGe (a b : Int) (S : Sto) : pCmp .GtE (.t (.int a)) (.t (.int b)) S = .ok (.t (.bl (decide (b ≤ a)))) S := rfl
theorem pLenL (m : Bool) (l : List T) (S : Sto) : pBi m .len [.t (.lst l)] S = .ok (.t (.int l.length)) S := by
  show R.ok (D.t (.int ((l.map D.t).length : Nat))) _ = _
  rw [List.length_map]
theorem pLenT (m : Bool) (l : List T) (S : Sto) : pBi m .len [.t (.tup l)] S = .ok (.t (.int l.length)) S := by
  show R.ok (D.t (.int ((l.map D.t).length : Nat))) _ = _
  rw [List.length_map]
theorem pListL (l : List T) (S : Sto) : pBi false .list [.t (.lst l)] S = .ok (.t (.lst l)) S := mkL_t (pls_map l)
theorem pSumL (m : Bool) (l : List Int) (S : Sto) : pBi m .sum [.t (.lst (l.map .int))] S = .ok (.t (.int l.sum)) S := by
  have : intsD ((l.map T.int).map D.t) = some l := by
    have := intsD_of (fun i : Int => i) l
    simpa [Function.comp_def] using this
  simp only [pBi, asList, Option.bind_some, this]
theorem pMin (m : Bool) (a b : Int) (S : Sto) : pBi m .min [.t (.int a), .t (.int b)] S = .ok (.t (.int (min a b))) S := rfl
theorem pMax (m : Bool) (a b : Int) (S : Sto) : pBi m .max [.t (.int a), .t (.int b)] S = .ok (.t (.int (max a b))) S := rfl
theorem itR (n : Int) (S : Sto) (h : -(2 ^ 62) ≤ n) (h2 : n < 2 ^ 62) : itemsOf .rng [.t (.int n)] S = some ((List.range n.toNat).map fun (i : Nat) => .t (.int (i : Int))) := by
  simp only [itemsOf, if_pos (⟨h, h2⟩ : -(2 ^ 62) ≤ n ∧ n < 2 ^ 62)]
theorem itRN (n : Nat) (S : Sto) (h2 : n < 2 ^ 62) : itemsOf .rng [.t (.int n)] S = some ((List.range n).map fun (i : Nat) => .t (.int (i : Int))) := by
  rw [itR _ _ (by omega) (by omega), Int.toNat_natCast]
theorem itL (l : List T) (S : Sto) : itemsOf .seq [.t (.lst l)] S = some (l.map .t) := rfl
theorem itT (l : List T) (S : Sto) : itemsOf .seq [.t (.tup l)] S = some (l.map .t) := rfl
theorem sIx_n (n d i : Nat) : sIx n d (some (i : Int)) = min i n := by
  show (if (i : Int) < 0 then ((i : Int) + n).toNat else min (i : Int).toNat n) = _
  rw [if_neg (by omega), Int.toNat_natCast]
theorem cut_from {α : Type} (xs : List α) (i : Nat) (h : i ≤ xs.length) : cut xs (some (i : Int)) none = xs.drop i := by
  have e1 : sIx xs.length 0 (some (i : Int)) = i := by rw [sIx_n]; exact Nat.min_eq_left h
  have e2 : sIx xs.length xs.length none = xs.length := rfl
  unfold cut
  have h1 : (xs.drop i).length ≤ xs.length - i := by simp
  rw [e1, e2, List.take_of_length_le h1]
theorem cut_to {α : Type} (xs : List α) (i : Nat) : cut xs none (some (i : Int)) = xs.take i := by
  have e1 : sIx xs.length xs.length (some (i : Int)) = min i xs.length := sIx_n _ _ _
  have e2 : sIx xs.length 0 none = 0 := rfl
  unfold cut
  rw [e1, e2]
  simp only [List.drop_zero, Nat.sub_zero]
  by_cases c : i ≤ xs.length
  · rw [Nat.min_eq_left c]
  · rw [Nat.min_eq_right (by omega), List.take_length, List.take_of_length_le (by omega)]
theorem cut_ft {α : Type} (xs : List α) (i j : Nat) (h : i ≤ xs.length) : cut xs (some (i : Int)) (some (j : Int)) = (xs.drop i).take (j - i) := by
  have e1 : sIx xs.length 0 (some (i : Int)) = i := by rw [sIx_n]; exact Nat.min_eq_left h
  have e2 : sIx xs.length xs.length (some (j : Int)) = min j xs.length := sIx_n _ _ _
  unfold cut
  rw [e1, e2]
  by_cases c : j ≤ xs.length
  · rw [Nat.min_eq_left c]
  · have h1 : (xs.drop i).length ≤ xs.length - i := by simp
    have h2 : (xs.drop i).length ≤ j - i := by simp; omega
    rw [Nat.min_eq_right (by omega), List.take_of_length_le h1, List.take_of_length_le h2]
theorem cut_map {α β : Type} (f : α → β) (l : List α) (lo hi : Option Int) : cut (l.map f) lo hi = (cut l lo hi).map f := by
  unfold cut; simp [List.map_take, List.map_drop]
theorem pSlL (l : List T) (lo hi : Option Int) (S : Sto) : pSl (.t (.lst l)) lo hi S = .ok (.t (.lst (cut l lo hi))) S := by
  show mkL false (cut (l.map D.t) lo hi) S = _
  rw [cut_map, mkL_t (pls_map _)]
/-! ### one list in the store -/
theorem ref_ixm1 (acc : List D) (c : D) : pIdx (.ref 0) (.t (.int (-1))) [.lst (acc ++ [c])] = .ok c [.lst (acc ++ [c])] := by
  show opt (ixAt (acc ++ [c]) (-1)) _ = _
  unfold ixAt
  rw [if_neg (by decide), if_pos (by simp; omega)]
  have : ((-1 : Int) + ((acc ++ [c]).length : Nat)).toNat = acc.length := by simp; omega
  rw [this]
  simp [opt]
theorem ref_app (acc : List D) (y : D) (h : acc.length < lim) : pBm false .append (.ref 0) [y] [.lst acc] = .ok (.t .non) [.lst (acc ++ [y])] := by
  show (if acc.length < lim then _ else _) = _
  rw [if_pos h]; rfl
theorem ref_kind (xs : List D) : kindD [.lst xs] (.ref 0) = bmT .append := rfl
theorem pIdxI {l : List Int} {i x : Int} {S : Sto} (h : ixAt l i = some x) : pIdx (.t (.lst (l.map .int))) (.t (.int i)) S = .ok (.t (.int x)) S := pIdxL (by
  unfold ixAt at h ⊢
  simp only [List.length_map, List.getElem?_map] at h ⊢
  split at h
  · rename_i c; rw [if_pos c, h]; rfl
  · rename_i c
    split at h
    · rename_i c2; rw [if_neg c, if_pos c2, h]; rfl
    · cases h)
theorem pSrtI (m : List Int) (S : Sto) : pBi false .sorted [.t (.lst (m.map .int))] S = .ok (.t (.lst ((srtI m).map .int))) S := by
  have : intsD ((m.map T.int).map D.t) = some m := by
    have := intsD_of (fun i : Int => i) m
    simpa [Function.comp_def] using this
  simp only [pBi, asList, Option.bind_some, this]
  have h2 : pls ((srtI m).map fun n => D.t (.int n)) = some ((srtI m).map .int) := pls_of (fun n => T.int n) _
  rw [mkL_t h2]
theorem pMaxL (n : Int) (ns : List Int) (m : Bool) (S : Sto) : pBi m .max [.t (.lst ((n :: ns).map .int))] S = .ok (.t (.int (ns.foldl max n))) S := by
  have : intsD (((n :: ns).map T.int).map D.t) = some (n :: ns) := by
    have := intsD_of (fun i : Int => i) (n :: ns)
    simpa [Function.comp_def] using this
  show pMx max _ S = _
  unfold pMx
  simp only [asList, Option.bind_some, this]
theorem pMinL (n : Int) (ns : List Int) (m : Bool) (S : Sto) : pBi m .min [.t (.lst ((n :: ns).map .int))] S = .ok (.t (.int (ns.foldl min n))) S := by
  have : intsD (((n :: ns).map T.int).map D.t) = some (n :: ns) := by
    have := intsD_of (fun i : Int => i) (n :: ns)
    simpa [Function.comp_def] using this
  show pMx min _ S = _
  unfold pMx
  simp only [asList, Option.bind_some, this]
theorem pSlScr (ns : List Int) (lo hi : Option Int) (S : Sto) : pSl (.t (.scr ns)) lo hi S = .ok (.t (.lst ((cut ns lo hi).map .int))) S := rfl
theorem itLI (l : List Int) (S : Sto) : itemsOf .seq [.t (.lst (l.map .int))] S = some (l.map fun i => .t (.int i)) := by
  show some ((l.map T.int).map D.t) = _
  simp [Function.comp_def]
theorem itLF {α : Type} (f : α → T) (l : List α) (S : Sto) : itemsOf .seq [.t (.lst (l.map f))] S = some (l.map fun i => .t (f i)) := by
  show some ((l.map f).map D.t) = _
  simp [Function.comp_def]
theorem mkL_ints (l : List Int) (S : Sto) : mkL false (l.map fun i => .t (.int i)) S = .ok (.t (.lst (l.map .int))) S := mkL_t (pls_of (fun i => T.int i) l)
end Wc

namespace Lw
open PySem L2 Wc
def top (i : Nat) : Stmt := PySem.Challenge.pw_windchest_k71_whole_any_tick.main.body.getD i (.Pass ⟨0, 0, 0, 0⟩)
abbrev f_lack_in : Nat := 0
abbrev f_first_lack : Nat := 1
abbrev f_wind_left : Nat := 2
abbrev f_least_cap : Nat := 3
abbrev f__law_cell_at : Nat := 4
abbrev f__law_whole : Nat := 5
abbrev f__law_drawn : Nat := 6
abbrev f__law_draw : Nat := 7
abbrev f__law_draught : Nat := 8
abbrev f__law_pump : Nat := 9
abbrev f__law_cap : Nat := 10
abbrev f__law_step : Nat := 11
abbrev f_law : Nat := 12
/-- 0: lack_in; 0 there, 1 more, 2 ticks -/
def b_lack_in : ISs := (.cons (.ite (.or (.cmp .GtE (.v 1) (.c (.int 0))) (.one (.cmp .GtE (.bin false .FloorDiv (.v 0) (.bin false .Sub (.c (.int 0)) (.v 1))) (.v 2)))) (.cons (.ret (.c .non))
      .nil) .nil)
      (.cons (.ret (.bin false .FloorDiv (.v 0) (.bin false .Sub (.c (.int 0)) (.v 1))))
      .nil))
abbrev b_first_lack_1 : ISs := (.cons (.asg (.v 7) (.call true f_lack_in (.cons (.v 3) (.cons (.bin false .Sub (.v 1) (.v 6)) (.cons (.bin false .Sub (.v 5) (.v 4)) .nil)))))
      (.cons (.ite (.cmp .IsNot (.v 7) (.c .non)) (.cons (.ret (.bin false .Add (.v 4) (.v 7)))
      .nil) .nil)
      (.cons (.asg (.v 3) (.bi false .min (.cons (.v 2) (.cons (.bin false .Add (.v 3) (.bin false .Mult (.bin false .Sub (.v 1) (.v 6)) (.bin false .Sub (.v 5) (.v 4)))) .nil))))
      .nil)))
/-- 1: first_lack; 0 draught, 1 pump, 2 cap, 3 there, 4 first, 5 behind, 6 wind, 7 well -/
def b_first_lack : ISs := (.cons (.asg (.v 3) (.v 2))
      (.cons (.fo (.tup [4, 5, 6]) .seq (.cons (.v 0) .nil) b_first_lack_1)
      (.cons (.ret (.c .non))
      .nil)))
abbrev b_wind_left_1 : ISs := (.cons (.asg (.v 8) (.bi false .min (.cons (.v 6) (.cons (.bin false .Add (.v 3) (.c (.int 1))) .nil))))
      (.cons (.ite (.cmp .LtE (.v 8) (.v 5)) (.cons .brk
      .nil) .nil)
      (.cons (.ite (.cmp .IsNot (.call true f_lack_in (.cons (.v 4) (.cons (.bin false .Sub (.v 1) (.v 7)) (.cons (.bin false .Sub (.v 8) (.v 5)) .nil)))) (.c .non)) (.cons (.ret (.c .non))
      .nil) .nil)
      (.cons (.asg (.v 4) (.bi false .min (.cons (.v 2) (.cons (.bin false .Add (.v 4) (.bin false .Mult (.bin false .Sub (.v 1) (.v 7)) (.bin false .Sub (.v 8) (.v 5)))) .nil))))
      .nil))))
/-- 2: wind_left; 0 draught, 1 pump, 2 cap, 3 tick, 4 there, 5 first, 6 behind, 7 wind, 8 last -/
def b_wind_left : ISs := (.cons (.asg (.v 4) (.v 2))
      (.cons (.fo (.tup [5, 6, 7]) .seq (.cons (.v 0) .nil) b_wind_left_1)
      (.cons (.ret (.v 4))
      .nil)))
abbrev b_least_cap_1 : ISs := (.cons (.ite (.cmp .Eq (.v 3) (.c (.int 0))) (.cons (.asg (.v 4) (.v 5))
      .nil) .nil)
      (.cons (.asg (.v 3) (.bi false .max (.cons (.c (.int 0)) (.cons (.bin false .Add (.v 3) (.bin false .Mult (.bin false .Sub (.v 7) (.v 1)) (.bin false .Sub (.v 6) (.v 5)))) .nil))))
      (.cons (.ite (.cmp .Gt (.v 3) (.idx (.v 2) (.c (.int 0)))) (.cons (.asg (.v 2) (.tup (.cons (.v 3) (.cons (.v 4) (.cons (.v 6) .nil)))))
      .nil) .nil)
      .nil)))
/-- 3: least_cap; 0 draught, 1 pump, 2 best, 3 need, 4 start, 5 first, 6 behind, 7 wind -/
def b_least_cap : ISs := (.cons (.asg (.v 2) (.tup (.cons (.c (.int 0)) (.cons (.c (.int 0)) (.cons (.c (.int 0)) .nil)))))
      (.cons (.asg (.v 3) (.c (.int 0)))
      (.cons (.asg (.v 4) (.c (.int 0)))
      (.cons (.fo (.tup [5, 6, 7]) .seq (.cons (.v 0) .nil) b_least_cap_1)
      (.cons (.ret (.v 2))
      .nil)))))
/-- 4: _law_cell_at; 0 _law_script, 1 _law_k -/
def b__law_cell_at : ISs := (.cons (.ite (.cmp .Lt (.v 1) (.bi false .len (.cons (.v 0) .nil))) (.cons (.ret (.idx (.v 0) (.v 1)))
      .nil) .nil)
      (.cons (.ret (.c (.int 0)))
      .nil))
/-- 5: _law_whole; 0 _law_found -/
def b__law_whole : ISs := (.cons (.ret (.and (.isi (.v 0) .int) (.one (.not (.isi (.v 0) .bool)))))
      .nil)
abbrev b__law_drawn_1 : ISs := (.cons (.asg (.v 4) (.bin false .Mod (.bin false .Add (.bin false .Add (.bin false .Mult (.v 4) (.c (.int 69621))) (.bin false .Mult (.bin false .Mod (.idx (.v 2) (.v 5)) (.c (.int 2147483647))) (.bin false .Add (.bin false .Mult (.v 5) (.v 5)) (.c (.int 3))))) (.c (.int 1))) (.c (.int 2147483629))))
      .nil)
/-- 6: _law_drawn; 0 _law_script, 1 _law_start, 2 _law_cells, 3 _law_cell, 4 _law_number, 5 _law_k, 6 _law_mixed -/
def b__law_drawn : ISs := (.cons (.asg (.v 2) (.bin true .Add (.lc false (.bi false .abs (.cons (.v 3) .nil)) (.v 3) .seq (.cons (.sl (.v 0) .nop (.c (.int 63))) .nil) (.c (.bl true))) (.lst false (.cons (.c (.int 0)) .nil))))
      (.cons (.asg (.v 4) (.v 1))
      (.cons (.fo (.v 5) .rng (.cons (.bi false .len (.cons (.v 2) .nil)) .nil) b__law_drawn_1)
      (.cons (.asg (.v 6) (.bin false .Mult (.bin false .Mod (.idx (.v 2) (.c (.int 0))) (.c (.int 2))) (.bi false .len (.cons (.v 2) .nil))))
      (.cons (.sti (.v 2) (.c (.int 0)) (.bin false .FloorDiv (.idx (.v 2) (.c (.int 0))) (.c (.int 2))))
      (.cons (.ret (.lst true (.cons (.v 2) (.cons (.v 6) (.cons (.v 4) (.cons (.c (.int 0)) .nil))))))
      .nil))))))
abbrev b__law_draw_1 : ISs := (.cons (.sti (.v 0) (.c (.int 1)) (.bin false .Add (.idx (.v 0) (.c (.int 1))) (.c (.int 1))))
      .nil)
abbrev c__law_draw_1 : IE := (.and (.cmp .Lt (.idx (.v 0) (.c (.int 1))) (.bi false .len (.cons (.v 2) .nil))) (.one (.cmp .Eq (.idx (.v 2) (.idx (.v 0) (.c (.int 1)))) (.c (.int 0)))))
/-- 7: _law_draw; 0 _law_drawn_here, 1 _law_many, 2 _law_cells, 3 _law_turn, 4 _law_digit -/
def b__law_draw : ISs := (.cons (.asg (.v 2) (.idx (.v 0) (.c (.int 0))))
      (.cons (.sti (.v 0) (.c (.int 3)) (.bin false .Add (.idx (.v 0) (.c (.int 3))) (.c (.int 1))))
      (.cons (.wh c__law_draw_1 b__law_draw_1)
      (.cons (.ite (.cmp .Eq (.idx (.v 0) (.c (.int 1))) (.bi false .len (.cons (.v 2) .nil))) (.cons (.asg (.v 3) (.idx (.v 0) (.c (.int 3))))
      (.cons (.sti (.v 0) (.c (.int 2)) (.bin false .Mod (.bin false .Add (.bin false .Add (.bin false .Mult (.idx (.v 0) (.c (.int 2))) (.c (.int 48271))) (.bin false .Mult (.bin false .Mult (.v 3) (.v 3)) (.v 3))) (.c (.int 1))) (.c (.int 2147483647))))
      (.cons (.ret (.bin false .Mod (.bin false .FloorDiv (.bin false .Mod (.bin false .Mult (.idx (.v 0) (.c (.int 2))) (.idx (.v 0) (.c (.int 2)))) (.c (.int 2147483629))) (.c (.int 64))) (.v 1)))
      .nil))) .nil)
      (.cons (.asg (.v 4) (.bin false .Mod (.idx (.v 2) (.idx (.v 0) (.c (.int 1)))) (.v 1)))
      (.cons (.sti (.v 2) (.idx (.v 0) (.c (.int 1))) (.bin false .FloorDiv (.idx (.v 2) (.idx (.v 0) (.c (.int 1)))) (.v 1)))
      (.cons (.ret (.v 4))
      .nil)))))))
abbrev b__law_draught_1 : ISs := (.cons (.asg (.v 8) (.call false f__law_draw (.cons (.v 3) (.cons (.c (.int 10)) .nil))))
      (.cons (.asg (.v 9) (.bin false .Add (.c (.int 1)) (.call false f__law_draw (.cons (.v 3) (.cons (.c (.int 4)) .nil)))))
      (.cons (.ite (.and (.v 2) (.one (.cmp .Gt (.call false f__law_draw (.cons (.v 3) (.cons (.c (.int 3)) .nil))) (.c (.int 0))))) (.cons (.asg (.v 8) (.bin false .Mult (.call false f__law_draw (.cons (.v 3) (.cons (.c (.int 33554432)) .nil))) (.c (.int 29989))))
      (.cons (.asg (.v 9) (.bin false .Add (.c (.int 1)) (.bin false .Mult (.call false f__law_draw (.cons (.v 3) (.cons (.c (.int 33554432)) .nil))) (.c (.int 300)))))
      .nil)) .nil)
      (.cons (.ite (.cmp .Eq (.v 8) (.v 6)) (.cons (.asg (.v 8) (.bin false .Add (.v 8) (.c (.int 1))))
      .nil) .nil)
      (.cons (.asg (.v 6) (.v 8))
      (.cons (.ex (.bm false .append (.v 4) (.cons (.tup (.cons (.v 5) (.cons (.bin false .Add (.v 5) (.v 9)) (.cons (.v 6) .nil)))) .nil)))
      (.cons (.asg (.v 5) (.bin false .Add (.v 5) (.v 9)))
      .nil)))))))
/-- 8: _law_draught; 0 _law_script, 1 _law_start, 2 _law_far, 3 _law_drawn_here, 4 _law_found, 5 _law_tick, 6 _law_wind, 7 _law_k, 8 _law_more, 9 _law_long -/
def b__law_draught : ISs := (.cons (.asg (.v 3) (.call false f__law_drawn (.cons (.sl (.v 0) (.v 1) .nop) (.cons (.c (.int 53)) .nil))))
      (.cons (.asg (.v 4) (.lst true .nil))
      (.cons (.asg (.v 5) (.c (.int 0)))
      (.cons (.asg (.v 6) (.neg (.c (.int 1))))
      (.cons (.fo (.v 7) .rng (.cons (.bin false .Add (.c (.int 1)) (.call false f__law_draw (.cons (.v 3) (.cons (.c (.int 20)) .nil)))) .nil) b__law_draught_1)
      (.cons (.ret (.frz (.v 4)))
      .nil))))))
/-- 9: _law_pump; 0 _law_script, 1 _law_draught_here, 2 _law_number, 3 _law_winds, 4 _law_stretch, 5 _law_way -/
def b__law_pump : ISs := (.cons (.asg (.v 2) (.bin false .FloorDiv (.bin false .Mod (.bin false .Mult (.call true f__law_cell_at (.cons (.v 0) (.cons (.c (.int 0)) .nil))) (.c (.int 950706376))) (.c (.int 2147483647))) (.c (.int 8))))
      (.cons (.asg (.v 3) (.bi false .sorted (.cons (.lc false (.idx (.v 4) (.c (.int 2))) (.v 4) .seq (.cons (.v 1) .nil) (.c (.bl true))) .nil)))
      (.cons (.asg (.v 5) (.bin false .Mod (.v 2) (.c (.int 5))))
      (.cons (.ite (.cmp .Eq (.v 5) (.c (.int 0))) (.cons (.ret (.bin false .Mod (.bin false .FloorDiv (.v 2) (.c (.int 5))) (.c (.int 9))))
      .nil) .nil)
      (.cons (.ite (.cmp .Eq (.v 5) (.c (.int 1))) (.cons (.ret (.idx (.v 3) (.bin false .Mod (.bin false .FloorDiv (.v 2) (.c (.int 5))) (.bi false .len (.cons (.v 3) .nil)))))
      .nil) .nil)
      (.cons (.ite (.cmp .Eq (.v 5) (.c (.int 2))) (.cons (.ret (.bin false .Add (.bin false .FloorDiv (.bi false .sum (.cons (.v 3) .nil)) (.bi false .len (.cons (.v 3) .nil))) (.bin false .Mod (.bin false .FloorDiv (.v 2) (.c (.int 5))) (.c (.int 3)))))
      .nil) .nil)
      (.cons (.ite (.cmp .Eq (.v 5) (.c (.int 3))) (.cons (.ret (.bin false .Add (.idx (.v 3) (.neg (.c (.int 1)))) (.bin false .Mod (.bin false .FloorDiv (.v 2) (.c (.int 5))) (.c (.int 2)))))
      .nil) .nil)
      (.cons (.ret (.bin false .FloorDiv (.bin false .Add (.idx (.v 3) (.c (.int 0))) (.idx (.v 3) (.neg (.c (.int 1))))) (.c (.int 2))))
      .nil))))))))
/-- 10: _law_cap; 0 _law_script, 1 _law_draught_here, 2 _law_pump_here, 3 _law_number, 4 _law_least, 5 _law_some -/
def b__law_cap : ISs := (.cons (.asg (.v 3) (.bin false .FloorDiv (.bin false .Mod (.bin false .Mult (.call true f__law_cell_at (.cons (.v 0) (.cons (.c (.int 1)) .nil))) (.c (.int 397204094))) (.c (.int 2147483647))) (.c (.int 8))))
      (.cons (.asg (.v 4) (.idx (.call true f_least_cap (.cons (.v 1) (.cons (.v 2) .nil))) (.c (.int 0))))
      (.cons (.asg (.v 5) (.lst false (.cons (.c (.int 0)) (.cons (.bin false .Mod (.bin false .FloorDiv (.v 3) (.c (.int 6))) (.c (.int 100))) (.cons (.bin false .FloorDiv (.v 4) (.c (.int 2))) (.cons (.v 4) (.cons (.bi false .max (.cons (.c (.int 0)) (.cons (.bin false .Sub (.v 4) (.c (.int 1))) .nil))) (.cons (.bin false .Add (.v 4) (.bin false .FloorDiv (.v 3) (.c (.int 6)))) (.cons (.bin false .Pow (.c (.int 10)) (.c (.int 30))) .nil)))))))))
      (.cons (.ret (.idx (.v 5) (.bin false .Mod (.v 3) (.c (.int 7)))))
      .nil))))
/-- 11: _law_step; 0 _law_draught_here, 1 _law_pump_here, 2 _law_cap_here, 3 _law_tick, 4 _law_ahead, 5 _law_behind, 6 _law_wind, 7 _law_stretch, 8 _law_there -/
def b__law_step : ISs := (.cons (.asg (.v 4) (.v 2))
      (.cons (.ite (.cmp .Gt (.v 3) (.c (.int 0))) (.cons (.asg (.v 4) (.call true f_wind_left (.cons (.v 0) (.cons (.v 1) (.cons (.v 2) (.cons (.bin false .Sub (.v 3) (.c (.int 1))) .nil))))))
      .nil) .nil)
      (.cons (.asg (.v 5) (.call true f_wind_left (.cons (.v 0) (.cons (.v 1) (.cons (.v 2) (.cons (.v 3) .nil))))))
      (.cons (.ite (.cmp .Is (.v 4) (.c .non)) (.cons (.ret (.cmp .Is (.v 5) (.c .non)))
      .nil) .nil)
      (.cons (.asg (.v 6) (.idx (.lc false (.idx (.v 7) (.c (.int 2))) (.v 7) .seq (.cons (.v 0) .nil) (.ch2 .LtE .Lt (.idx (.v 7) (.c (.int 0))) (.v 3) (.idx (.v 7) (.c (.int 1))))) (.c (.int 0))))
      (.cons (.asg (.v 8) (.bin false .Sub (.bin false .Add (.v 4) (.v 1)) (.v 6)))
      (.cons (.ite (.cmp .Lt (.v 8) (.c (.int 0))) (.cons (.ret (.and (.cmp .Is (.v 5) (.c .non)) (.one (.cmp .Eq (.call true f_first_lack (.cons (.v 0) (.cons (.v 1) (.cons (.v 2) .nil)))) (.v 3)))))
      .nil) .nil)
      (.cons (.ret (.and (.call true f__law_whole (.cons (.v 5) .nil)) (.one (.cmp .Eq (.v 5) (.bi false .min (.cons (.v 2) (.cons (.v 8) .nil)))))))
      .nil))))))))
abbrev b_law_1 : ISs := (.cons (.ite (.not (.call true f__law_step (.cons (.v 1) (.cons (.v 2) (.cons (.v 3) (.cons (.v 11) .nil)))))) (.cons (.ret (.c (.bl false)))
      .nil) .nil)
      .nil)
abbrev b_law_2 : ISs := (.cons (.asg (.v 8) (.bin false .FloorDiv (.bin false .Mod (.bin false .Mult (.v 7) (.c (.int 764261123))) (.c (.int 2147483647))) (.c (.int 8))))
      (.cons (.asg (.v 9) (.idx (.v 1) (.bin false .Mod (.bin false .FloorDiv (.v 8) (.c (.int 4))) (.bi false .len (.cons (.v 1) .nil)))))
      (.cons (.asg (.v 10) (.lst false (.cons (.idx (.v 9) (.c (.int 0))) (.cons (.bin false .Sub (.idx (.v 9) (.c (.int 1))) (.c (.int 1))) (.cons (.bin false .Add (.idx (.v 9) (.c (.int 0))) (.bin false .Mod (.bin false .Mult (.v 8) (.c (.int 4))) (.bin false .Sub (.idx (.v 9) (.c (.int 1))) (.idx (.v 9) (.c (.int 0)))))) (.cons (.bin false .FloorDiv (.bin false .Add (.idx (.v 9) (.c (.int 0))) (.idx (.v 9) (.c (.int 1)))) (.c (.int 2))) .nil))))))
      (.cons (.ex (.bm false .append (.v 6) (.cons (.idx (.v 10) (.bin false .Mod (.v 8) (.c (.int 4)))) .nil)))
      .nil))))
/-- 12: law; 0 _law_script, 1 _law_draught_here, 2 _law_pump_here, 3 _law_cap_here, 4 _law_length, 5 _law_lack, 6 _law_ticks, 7 _law_cell, 8 _law_number, 9 _law_one, 10 _law_some, 11 _law_tick -/
def b_law : ISs := (.cons (.asg (.v 1) (.call true f__law_draught (.cons (.v 0) (.cons (.c (.int 2)) (.cons (.c (.bl true)) .nil)))))
      (.cons (.asg (.v 2) (.call true f__law_pump (.cons (.v 0) (.cons (.v 1) .nil))))
      (.cons (.asg (.v 3) (.call true f__law_cap (.cons (.v 0) (.cons (.v 1) (.cons (.v 2) .nil)))))
      (.cons (.asg (.v 4) (.idx (.idx (.v 1) (.neg (.c (.int 1)))) (.c (.int 1))))
      (.cons (.asg (.v 5) (.call true f_first_lack (.cons (.v 1) (.cons (.v 2) (.cons (.v 3) .nil)))))
      (.cons (.asg (.v 6) (.lst true (.cons (.c (.int 0)) (.cons (.bin false .Sub (.v 4) (.c (.int 1))) .nil))))
      (.cons (.ite (.cmp .IsNot (.v 5) (.c .non)) (.cons (.ite (.or (.not (.call true f__law_whole (.cons (.v 5) .nil))) (.or (.not (.ch2 .LtE .Lt (.c (.int 0)) (.v 5) (.v 4))) (.one (.cmp .IsNot (.call true f_wind_left (.cons (.v 1) (.cons (.v 2) (.cons (.v 3) (.cons (.v 5) .nil))))) (.c .non))))) (.cons (.ret (.c (.bl false)))
      .nil) .nil)
      (.cons (.asg (.v 6) (.bin true .Add (.v 6) (.lst false (.cons (.v 5) (.cons (.bi false .max (.cons (.c (.int 0)) (.cons (.bin false .Sub (.v 5) (.c (.int 1))) .nil))) .nil)))))
      .nil)) (.cons (.ite (.cmp .Is (.call true f_wind_left (.cons (.v 1) (.cons (.v 2) (.cons (.v 3) (.cons (.bin false .Sub (.v 4) (.c (.int 1))) .nil))))) (.c .non)) (.cons (.ret (.c (.bl false)))
      .nil) .nil)
      .nil))
      (.cons (.fo (.v 7) .seq (.cons (.sl (.v 0) (.c (.int 3)) (.c (.int 33))) .nil) b_law_2)
      (.cons (.fo (.v 11) .seq (.cons (.frz (.v 6)) .nil) b_law_1)
      (.cons (.ret (.c (.bl true)))
      .nil))))))))))
def defs : List Df := [⟨3, 3, b_lack_in⟩, ⟨3, 8, b_first_lack⟩, ⟨4, 9, b_wind_left⟩, ⟨2, 8, b_least_cap⟩, ⟨2, 2, b__law_cell_at⟩, ⟨1, 1, b__law_whole⟩, ⟨2, 7, b__law_drawn⟩, ⟨2, 5, b__law_draw⟩, ⟨3, 10, b__law_draught⟩, ⟨2, 6, b__law_pump⟩, ⟨3, 6, b__law_cap⟩, ⟨4, 9, b__law_step⟩, ⟨1, 12, b_law⟩]
def tabs : Txl := ⟨[("_law_cap", (.fn 10)), ("_law_cell_at", (.fn 4)), ("_law_draught", (.fn 8)), ("_law_draw", (.fn 7)), ("_law_drawn", (.fn 6)), ("_law_pump", (.fn 9)), ("_law_step", (.fn 11)), ("_law_whole", (.fn 5)), ("first_lack", (.fn 1)), ("lack_in", (.fn 0)), ("least_cap", (.fn 3)), ("wind_left", (.fn 2))], ["abs", "bool", "int", "isinstance", "len", "max", "min", "range", "sorted", "sum"], [some "lack_in", some "first_lack", some "wind_left", some "least_cap", some "_law_cell_at", some "_law_whole", some "_law_drawn", some "_law_draw", some "_law_draught", some "_law_pump", some "_law_cap", some "_law_step", some "law"]⟩
abbrev BT : Tb := tbOf 13
def PD (f : Nat) : Option Df := defs[f]?
abbrev run (n f : Nat) (ds : List D) (S : Sto) : Wc.R D := cal BT PD n f ds S
end Lw
namespace Lw
open PySem L2 Wc
def GD (K : PySem.W.Frag) (fs : List Addr) : Gd := ⟨K, fun i => fs.getD i 0, fun _ => 0⟩
theorem sc0 : FnScope ["there", "more", "ticks"] ["there", "more", "ticks"] (defScope (top 1)) := ⟨rfl, rfl, rfl, by decide +kernel, rfl, by decide +kernel, by decide +kernel⟩
theorem ck0 : erSs tabs.tx ["there", "more", "ticks"] b_lack_in (defScope (top 1)) (defBody (top 1)) = true := by decide +kernel
theorem sc1 : FnScope ["draught", "pump", "cap", "there", "first", "behind", "wind", "well"] ["draught", "pump", "cap"] (defScope (top 2)) := ⟨rfl, rfl, rfl, by decide +kernel, rfl, by decide +kernel, by decide +kernel⟩
theorem ck1 : erSs tabs.tx ["draught", "pump", "cap", "there", "first", "behind", "wind", "well"] b_first_lack (defScope (top 2)) (defBody (top 2)) = true := by decide +kernel
theorem sc2 : FnScope ["draught", "pump", "cap", "tick", "there", "first", "behind", "wind", "last"] ["draught", "pump", "cap", "tick"] (defScope (top 3)) := ⟨rfl, rfl, rfl, by decide +kernel, rfl, by decide +kernel, by decide +kernel⟩
theorem ck2 : erSs tabs.tx ["draught", "pump", "cap", "tick", "there", "first", "behind", "wind", "last"] b_wind_left (defScope (top 3)) (defBody (top 3)) = true := by decide +kernel
theorem sc3 : FnScope ["draught", "pump", "best", "need", "start", "first", "behind", "wind"] ["draught", "pump"] (defScope (top 4)) := ⟨rfl, rfl, rfl, by decide +kernel, rfl, by decide +kernel, by decide +kernel⟩
theorem ck3 : erSs tabs.tx ["draught", "pump", "best", "need", "start", "first", "behind", "wind"] b_least_cap (defScope (top 4)) (defBody (top 4)) = true := by decide +kernel
theorem sc4 : FnScope ["_law_script", "_law_k"] ["_law_script", "_law_k"] (defScope (top 6)) := ⟨rfl, rfl, rfl, by decide +kernel, rfl, by decide +kernel, by decide +kernel⟩
theorem ck4 : erSs tabs.tx ["_law_script", "_law_k"] b__law_cell_at (defScope (top 6)) (defBody (top 6)) = true := by decide +kernel
theorem sc5 : FnScope ["_law_found"] ["_law_found"] (defScope (top 7)) := ⟨rfl, rfl, rfl, by decide +kernel, rfl, by decide +kernel, by decide +kernel⟩
theorem ck5 : erSs tabs.tx ["_law_found"] b__law_whole (defScope (top 7)) (defBody (top 7)) = true := by decide +kernel
theorem sc6 : FnScope ["_law_script", "_law_start", "_law_cells", "_law_cell", "_law_number", "_law_k", "_law_mixed"] ["_law_script", "_law_start"] (defScope (top 8)) := ⟨rfl, rfl, rfl, by decide +kernel, rfl, by decide +kernel, by decide +kernel⟩
theorem ck6 : erSs tabs.tx ["_law_script", "_law_start", "_law_cells", "_law_cell", "_law_number", "_law_k", "_law_mixed"] b__law_drawn (defScope (top 8)) (defBody (top 8)) = true := by decide +kernel
theorem sc7 : FnScope ["_law_drawn_here", "_law_many", "_law_cells", "_law_turn", "_law_digit"] ["_law_drawn_here", "_law_many"] (defScope (top 9)) := ⟨rfl, rfl, rfl, by decide +kernel, rfl, by decide +kernel, by decide +kernel⟩
theorem ck7 : erSs tabs.tx ["_law_drawn_here", "_law_many", "_law_cells", "_law_turn", "_law_digit"] b__law_draw (defScope (top 9)) (defBody (top 9)) = true := by decide +kernel
theorem sc8 : FnScope ["_law_script", "_law_start", "_law_far", "_law_drawn_here", "_law_found", "_law_tick", "_law_wind", "_law_k", "_law_more", "_law_long"] ["_law_script", "_law_start", "_law_far"] (defScope (top 10)) := ⟨rfl, rfl, rfl, by decide +kernel, rfl, by decide +kernel, by decide +kernel⟩
theorem ck8 : erSs tabs.tx ["_law_script", "_law_start", "_law_far", "_law_drawn_here", "_law_found", "_law_tick", "_law_wind", "_law_k", "_law_more", "_law_long"] b__law_draught (defScope (top 10)) (defBody (top 10)) = true := by decide +kernel
theorem sc9 : FnScope ["_law_script", "_law_draught_here", "_law_number", "_law_winds", "_law_stretch", "_law_way"] ["_law_script", "_law_draught_here"] (defScope (top 11)) := ⟨rfl, rfl, rfl, by decide +kernel, rfl, by decide +kernel, by decide +kernel⟩
theorem ck9 : erSs tabs.tx ["_law_script", "_law_draught_here", "_law_number", "_law_winds", "_law_stretch", "_law_way"] b__law_pump (defScope (top 11)) (defBody (top 11)) = true := by decide +kernel
theorem sc10 : FnScope ["_law_script", "_law_draught_here", "_law_pump_here", "_law_number", "_law_least", "_law_some"] ["_law_script", "_law_draught_here", "_law_pump_here"] (defScope (top 12)) := ⟨rfl, rfl, rfl, by decide +kernel, rfl, by decide +kernel, by decide +kernel⟩
theorem ck10 : erSs tabs.tx ["_law_script", "_law_draught_here", "_law_pump_here", "_law_number", "_law_least", "_law_some"] b__law_cap (defScope (top 12)) (defBody (top 12)) = true := by decide +kernel
theorem sc11 : FnScope ["_law_draught_here", "_law_pump_here", "_law_cap_here", "_law_tick", "_law_ahead", "_law_behind", "_law_wind", "_law_stretch", "_law_there"] ["_law_draught_here", "_law_pump_here", "_law_cap_here", "_law_tick"] (defScope (top 13)) := ⟨rfl, rfl, rfl, by decide +kernel, rfl, by decide +kernel, by decide +kernel⟩
theorem ck11 : erSs tabs.tx ["_law_draught_here", "_law_pump_here", "_law_cap_here", "_law_tick", "_law_ahead", "_law_behind", "_law_wind", "_law_stretch", "_law_there"] b__law_step (defScope (top 13)) (defBody (top 13)) = true := by decide +kernel
theorem sc12 : FnScope ["_law_script", "_law_draught_here", "_law_pump_here", "_law_cap_here", "_law_length", "_law_lack", "_law_ticks", "_law_cell", "_law_number", "_law_one", "_law_some", "_law_tick"] ["_law_script"] (defScope (top 14)) := ⟨rfl, rfl, rfl, by decide +kernel, rfl, by decide +kernel, by decide +kernel⟩
theorem ck12 : erSs tabs.tx ["_law_script", "_law_draught_here", "_law_pump_here", "_law_cap_here", "_law_length", "_law_lack", "_law_ticks", "_law_cell", "_law_number", "_law_one", "_law_some", "_law_tick"] b_law (defScope (top 14)) (defBody (top 14)) = true := by decide +kernel
theorem all_mk {l : PySem.W.OpenLaw} {w : World} {K : PySem.W.Frag} {h : Heap} {mg : Str → Option Value} {fa f0 f1 f2 f3 f4 f5 f6 f7 f8 f9 f10 f11 f12 : Addr} (X : K.In h) (G : h.Ns mainGlobals mg) (hfa : mg "law" = some (.ref fa))
    {od0 an0 : Option Addr} {sl0 : Array (Option Value)} {oc0 kV0 dc0 pm0 cd0 ct0 : Value}
    (a0 : PySem.W.nsIn K mainGlobals "lack_in" = some (some (.ref f0)))
    (l0 : K.lookup f0 = some ⟨oc0, od0, .func (PySem.W.fnOf "lack_in" "lack_in" (defArgs (top 1)) (defBody (top 1)) (defScope (top 1)) .none kV0 dc0 pm0 an0 cd0 ct0), sl0⟩) (c0 : PySem.W.codeIn K cd0 "lack_in" = true) (k0 : PySem.W.keepIn K (.ref f0) = true)
    {od1 an1 : Option Addr} {sl1 : Array (Option Value)} {oc1 kV1 dc1 pm1 cd1 ct1 : Value}
    (a1 : PySem.W.nsIn K mainGlobals "first_lack" = some (some (.ref f1)))
    (l1 : K.lookup f1 = some ⟨oc1, od1, .func (PySem.W.fnOf "first_lack" "first_lack" (defArgs (top 2)) (defBody (top 2)) (defScope (top 2)) .none kV1 dc1 pm1 an1 cd1 ct1), sl1⟩) (c1 : PySem.W.codeIn K cd1 "first_lack" = true) (k1 : PySem.W.keepIn K (.ref f1) = true)
    {od2 an2 : Option Addr} {sl2 : Array (Option Value)} {oc2 kV2 dc2 pm2 cd2 ct2 : Value}
    (a2 : PySem.W.nsIn K mainGlobals "wind_left" = some (some (.ref f2)))
    (l2 : K.lookup f2 = some ⟨oc2, od2, .func (PySem.W.fnOf "wind_left" "wind_left" (defArgs (top 3)) (defBody (top 3)) (defScope (top 3)) .none kV2 dc2 pm2 an2 cd2 ct2), sl2⟩) (c2 : PySem.W.codeIn K cd2 "wind_left" = true) (k2 : PySem.W.keepIn K (.ref f2) = true)
    {od3 an3 : Option Addr} {sl3 : Array (Option Value)} {oc3 kV3 dc3 pm3 cd3 ct3 : Value}
    (a3 : PySem.W.nsIn K mainGlobals "least_cap" = some (some (.ref f3)))
    (l3 : K.lookup f3 = some ⟨oc3, od3, .func (PySem.W.fnOf "least_cap" "least_cap" (defArgs (top 4)) (defBody (top 4)) (defScope (top 4)) .none kV3 dc3 pm3 an3 cd3 ct3), sl3⟩) (c3 : PySem.W.codeIn K cd3 "least_cap" = true) (k3 : PySem.W.keepIn K (.ref f3) = true)
    {od4 an4 : Option Addr} {sl4 : Array (Option Value)} {oc4 kV4 dc4 pm4 cd4 ct4 : Value}
    (a4 : PySem.W.nsIn K mainGlobals "_law_cell_at" = some (some (.ref f4)))
    (l4 : K.lookup f4 = some ⟨oc4, od4, .func (PySem.W.fnOf "_law_cell_at" "_law_cell_at" (defArgs (top 6)) (defBody (top 6)) (defScope (top 6)) .none kV4 dc4 pm4 an4 cd4 ct4), sl4⟩) (c4 : PySem.W.codeIn K cd4 "_law_cell_at" = true) (k4 : PySem.W.keepIn K (.ref f4) = true)
    {od5 an5 : Option Addr} {sl5 : Array (Option Value)} {oc5 kV5 dc5 pm5 cd5 ct5 : Value}
    (a5 : PySem.W.nsIn K mainGlobals "_law_whole" = some (some (.ref f5)))
    (l5 : K.lookup f5 = some ⟨oc5, od5, .func (PySem.W.fnOf "_law_whole" "_law_whole" (defArgs (top 7)) (defBody (top 7)) (defScope (top 7)) .none kV5 dc5 pm5 an5 cd5 ct5), sl5⟩) (c5 : PySem.W.codeIn K cd5 "_law_whole" = true) (k5 : PySem.W.keepIn K (.ref f5) = true)
    {od6 an6 : Option Addr} {sl6 : Array (Option Value)} {oc6 kV6 dc6 pm6 cd6 ct6 : Value}
    (a6 : PySem.W.nsIn K mainGlobals "_law_drawn" = some (some (.ref f6)))
    (l6 : K.lookup f6 = some ⟨oc6, od6, .func (PySem.W.fnOf "_law_drawn" "_law_drawn" (defArgs (top 8)) (defBody (top 8)) (defScope (top 8)) .none kV6 dc6 pm6 an6 cd6 ct6), sl6⟩) (c6 : PySem.W.codeIn K cd6 "_law_drawn" = true) (k6 : PySem.W.keepIn K (.ref f6) = true)
    {od7 an7 : Option Addr} {sl7 : Array (Option Value)} {oc7 kV7 dc7 pm7 cd7 ct7 : Value}
    (a7 : PySem.W.nsIn K mainGlobals "_law_draw" = some (some (.ref f7)))
    (l7 : K.lookup f7 = some ⟨oc7, od7, .func (PySem.W.fnOf "_law_draw" "_law_draw" (defArgs (top 9)) (defBody (top 9)) (defScope (top 9)) .none kV7 dc7 pm7 an7 cd7 ct7), sl7⟩) (c7 : PySem.W.codeIn K cd7 "_law_draw" = true) (k7 : PySem.W.keepIn K (.ref f7) = true)
    {od8 an8 : Option Addr} {sl8 : Array (Option Value)} {oc8 kV8 dc8 pm8 cd8 ct8 : Value}
    (a8 : PySem.W.nsIn K mainGlobals "_law_draught" = some (some (.ref f8)))
    (l8 : K.lookup f8 = some ⟨oc8, od8, .func (PySem.W.fnOf "_law_draught" "_law_draught" (defArgs (top 10)) (defBody (top 10)) (defScope (top 10)) .none kV8 dc8 pm8 an8 cd8 ct8), sl8⟩) (c8 : PySem.W.codeIn K cd8 "_law_draught" = true) (k8 : PySem.W.keepIn K (.ref f8) = true)
    {od9 an9 : Option Addr} {sl9 : Array (Option Value)} {oc9 kV9 dc9 pm9 cd9 ct9 : Value}
    (a9 : PySem.W.nsIn K mainGlobals "_law_pump" = some (some (.ref f9)))
    (l9 : K.lookup f9 = some ⟨oc9, od9, .func (PySem.W.fnOf "_law_pump" "_law_pump" (defArgs (top 11)) (defBody (top 11)) (defScope (top 11)) .none kV9 dc9 pm9 an9 cd9 ct9), sl9⟩) (c9 : PySem.W.codeIn K cd9 "_law_pump" = true) (k9 : PySem.W.keepIn K (.ref f9) = true)
    {od10 an10 : Option Addr} {sl10 : Array (Option Value)} {oc10 kV10 dc10 pm10 cd10 ct10 : Value}
    (a10 : PySem.W.nsIn K mainGlobals "_law_cap" = some (some (.ref f10)))
    (l10 : K.lookup f10 = some ⟨oc10, od10, .func (PySem.W.fnOf "_law_cap" "_law_cap" (defArgs (top 12)) (defBody (top 12)) (defScope (top 12)) .none kV10 dc10 pm10 an10 cd10 ct10), sl10⟩) (c10 : PySem.W.codeIn K cd10 "_law_cap" = true) (k10 : PySem.W.keepIn K (.ref f10) = true)
    {od11 an11 : Option Addr} {sl11 : Array (Option Value)} {oc11 kV11 dc11 pm11 cd11 ct11 : Value}
    (a11 : PySem.W.nsIn K mainGlobals "_law_step" = some (some (.ref f11)))
    (l11 : K.lookup f11 = some ⟨oc11, od11, .func (PySem.W.fnOf "_law_step" "_law_step" (defArgs (top 13)) (defBody (top 13)) (defScope (top 13)) .none kV11 dc11 pm11 an11 cd11 ct11), sl11⟩) (c11 : PySem.W.codeIn K cd11 "_law_step" = true) (k11 : PySem.W.keepIn K (.ref f11) = true)
    {od12 an12 : Option Addr} {sl12 : Array (Option Value)} {oc12 kV12 dc12 pm12 cd12 ct12 : Value}
    (a12 : PySem.W.nsIn K mainGlobals "law" = some (some (.ref f12)))
    (l12 : K.lookup f12 = some ⟨oc12, od12, .func (PySem.W.fnOf "law" "law" (defArgs (top 14)) (defBody (top 14)) (defScope (top 14)) .none kV12 dc12 pm12 an12 cd12 ct12), sl12⟩) (c12 : PySem.W.codeIn K cd12 "law" = true) (k12 : PySem.W.keepIn K (.ref f12) = true)
    (z0 : PySem.W.nsIn K mainGlobals "abs" = some none)
    (z1 : PySem.W.nsIn K mainGlobals "bool" = some none)
    (z2 : PySem.W.nsIn K mainGlobals "int" = some none)
    (z3 : PySem.W.nsIn K mainGlobals "isinstance" = some none)
    (z4 : PySem.W.nsIn K mainGlobals "len" = some none)
    (z5 : PySem.W.nsIn K mainGlobals "max" = some none)
    (z6 : PySem.W.nsIn K mainGlobals "min" = some none)
    (z7 : PySem.W.nsIn K mainGlobals "range" = some none)
    (z8 : PySem.W.nsIn K mainGlobals "sorted" = some none)
    (z9 : PySem.W.nsIn K mainGlobals "sum" = some none)
    (hlaw : ∀ ns : List Int, ns.length ≤ 63 → (∀ z ∈ ns, Builtin.Int.intBits z ≤ 1048576) → ∃ S', run 20 f_law [.t (.scr ns)] [] = .ok (.t (.bl true)) S') :
    ∃ fd : FuncData, (∀ (s : Shared) (v : Value), BindsTo s fd ⟨[v], []⟩ [("_law_script", v)]) ∧ ∀ base : Heap, K.In base → base.Ns mainGlobals mg → FnOk l.prog w K mg base (L2.CX l.prog w) 20 fa fd ["_law_script"] (spScr K) := by
  have e := (PySem.W.mg_of X G a12).symm.trans hfa
  have e2 : f12 = fa := by cases e; rfl
  subst e2
  have M : MgOk tabs.tx (GD K [f0, f1, f2, f3, f4, f5, f6, f7, f8, f9, f10, f11, f12]) BT mg := mgOk_of (l := tabs) (G := GD K [f0, f1, f2, f3, f4, f5, f6, f7, f8, f9, f10, f11, f12]) (.cons (gn_fn (PySem.W.mg_of X G a10) rfl) (.cons (gn_fn (PySem.W.mg_of X G a4) rfl) (.cons (gn_fn (PySem.W.mg_of X G a8) rfl) (.cons (gn_fn (PySem.W.mg_of X G a7) rfl) (.cons (gn_fn (PySem.W.mg_of X G a6) rfl) (.cons (gn_fn (PySem.W.mg_of X G a9) rfl) (.cons (gn_fn (PySem.W.mg_of X G a11) rfl) (.cons (gn_fn (PySem.W.mg_of X G a5) rfl) (.cons (gn_fn (PySem.W.mg_of X G a1) rfl) (.cons (gn_fn (PySem.W.mg_of X G a0) rfl) (.cons (gn_fn (PySem.W.mg_of X G a3) rfl) (.cons (gn_fn (PySem.W.mg_of X G a2) rfl) .nil)))))))))))) (.cons (PySem.W.mg_none_of X G z0) (.cons (PySem.W.mg_none_of X G z1) (.cons (PySem.W.mg_none_of X G z2) (.cons (PySem.W.mg_none_of X G z3) (.cons (PySem.W.mg_none_of X G z4) (.cons (PySem.W.mg_none_of X G z5) (.cons (PySem.W.mg_none_of X G z6) (.cons (PySem.W.mg_none_of X G z7) (.cons (PySem.W.mg_none_of X G z8) (.cons (PySem.W.mg_none_of X G z9) .nil)))))))))) (.cons (fun _ e => by cases e; exact PySem.W.mg_of X G a0) (.cons (fun _ e => by cases e; exact PySem.W.mg_of X G a1) (.cons (fun _ e => by cases e; exact PySem.W.mg_of X G a2) (.cons (fun _ e => by cases e; exact PySem.W.mg_of X G a3) (.cons (fun _ e => by cases e; exact PySem.W.mg_of X G a4) (.cons (fun _ e => by cases e; exact PySem.W.mg_of X G a5) (.cons (fun _ e => by cases e; exact PySem.W.mg_of X G a6) (.cons (fun _ e => by cases e; exact PySem.W.mg_of X G a7) (.cons (fun _ e => by cases e; exact PySem.W.mg_of X G a8) (.cons (fun _ e => by cases e; exact PySem.W.mg_of X G a9) (.cons (fun _ e => by cases e; exact PySem.W.mg_of X G a10) (.cons (fun _ e => by cases e; exact PySem.W.mg_of X G a11) (.cons (fun _ e => by cases e; exact PySem.W.mg_of X G a12) (.nil _)))))))))))))) rfl
  have d0 := def_mk (G := (GD K [f0, f1, f2, f3, f4, f5, f6, f7, f8, f9, f10, f11, f12])) (st := top 1) (ps := ["there", "more", "ticks"]) (d := ⟨3, 3, b_lack_in⟩) (i := 0) rfl rfl l0 c0 k0 (fun _ _ _ _ _ _ us hl => match us, hl with | [_, _, _], _ => rfl) sc0 rfl rfl ck0
  have d1 := def_mk (G := (GD K [f0, f1, f2, f3, f4, f5, f6, f7, f8, f9, f10, f11, f12])) (st := top 2) (ps := ["draught", "pump", "cap"]) (d := ⟨3, 8, b_first_lack⟩) (i := 1) rfl rfl l1 c1 k1 (fun _ _ _ _ _ _ us hl => match us, hl with | [_, _, _], _ => rfl) sc1 rfl rfl ck1
  have d2 := def_mk (G := (GD K [f0, f1, f2, f3, f4, f5, f6, f7, f8, f9, f10, f11, f12])) (st := top 3) (ps := ["draught", "pump", "cap", "tick"]) (d := ⟨4, 9, b_wind_left⟩) (i := 2) rfl rfl l2 c2 k2 (fun _ _ _ _ _ _ us hl => match us, hl with | [_, _, _, _], _ => rfl) sc2 rfl rfl ck2
  have d3 := def_mk (G := (GD K [f0, f1, f2, f3, f4, f5, f6, f7, f8, f9, f10, f11, f12])) (st := top 4) (ps := ["draught", "pump"]) (d := ⟨2, 8, b_least_cap⟩) (i := 3) rfl rfl l3 c3 k3 (fun _ _ _ _ _ _ us hl => match us, hl with | [_, _], _ => rfl) sc3 rfl rfl ck3
  have d4 := def_mk (G := (GD K [f0, f1, f2, f3, f4, f5, f6, f7, f8, f9, f10, f11, f12])) (st := top 6) (ps := ["_law_script", "_law_k"]) (d := ⟨2, 2, b__law_cell_at⟩) (i := 4) rfl rfl l4 c4 k4 (fun _ _ _ _ _ _ us hl => match us, hl with | [_, _], _ => rfl) sc4 rfl rfl ck4
  have d5 := def_mk (G := (GD K [f0, f1, f2, f3, f4, f5, f6, f7, f8, f9, f10, f11, f12])) (st := top 7) (ps := ["_law_found"]) (d := ⟨1, 1, b__law_whole⟩) (i := 5) rfl rfl l5 c5 k5 (fun _ _ _ _ _ _ us hl => match us, hl with | [_], _ => rfl) sc5 rfl rfl ck5
  have d6 := def_mk (G := (GD K [f0, f1, f2, f3, f4, f5, f6, f7, f8, f9, f10, f11, f12])) (st := top 8) (ps := ["_law_script", "_law_start"]) (d := ⟨2, 7, b__law_drawn⟩) (i := 6) rfl rfl l6 c6 k6 (fun _ _ _ _ _ _ us hl => match us, hl with | [_, _], _ => rfl) sc6 rfl rfl ck6
  have d7 := def_mk (G := (GD K [f0, f1, f2, f3, f4, f5, f6, f7, f8, f9, f10, f11, f12])) (st := top 9) (ps := ["_law_drawn_here", "_law_many"]) (d := ⟨2, 5, b__law_draw⟩) (i := 7) rfl rfl l7 c7 k7 (fun _ _ _ _ _ _ us hl => match us, hl with | [_, _], _ => rfl) sc7 rfl rfl ck7
  have d8 := def_mk (G := (GD K [f0, f1, f2, f3, f4, f5, f6, f7, f8, f9, f10, f11, f12])) (st := top 10) (ps := ["_law_script", "_law_start", "_law_far"]) (d := ⟨3, 10, b__law_draught⟩) (i := 8) rfl rfl l8 c8 k8 (fun _ _ _ _ _ _ us hl => match us, hl with | [_, _, _], _ => rfl) sc8 rfl rfl ck8
  have d9 := def_mk (G := (GD K [f0, f1, f2, f3, f4, f5, f6, f7, f8, f9, f10, f11, f12])) (st := top 11) (ps := ["_law_script", "_law_draught_here"]) (d := ⟨2, 6, b__law_pump⟩) (i := 9) rfl rfl l9 c9 k9 (fun _ _ _ _ _ _ us hl => match us, hl with | [_, _], _ => rfl) sc9 rfl rfl ck9
  have d10 := def_mk (G := (GD K [f0, f1, f2, f3, f4, f5, f6, f7, f8, f9, f10, f11, f12])) (st := top 12) (ps := ["_law_script", "_law_draught_here", "_law_pump_here"]) (d := ⟨3, 6, b__law_cap⟩) (i := 10) rfl rfl l10 c10 k10 (fun _ _ _ _ _ _ us hl => match us, hl with | [_, _, _], _ => rfl) sc10 rfl rfl ck10
  have d11 := def_mk (G := (GD K [f0, f1, f2, f3, f4, f5, f6, f7, f8, f9, f10, f11, f12])) (st := top 13) (ps := ["_law_draught_here", "_law_pump_here", "_law_cap_here", "_law_tick"]) (d := ⟨4, 9, b__law_step⟩) (i := 11) rfl rfl l11 c11 k11 (fun _ _ _ _ _ _ us hl => match us, hl with | [_, _, _, _], _ => rfl) sc11 rfl rfl ck11
  have d12 := def_mk (G := (GD K [f0, f1, f2, f3, f4, f5, f6, f7, f8, f9, f10, f11, f12])) (st := top 14) (ps := ["_law_script"]) (d := ⟨1, 12, b_law⟩) (i := 12) rfl rfl l12 c12 k12 (fun _ _ _ _ _ _ us hl => match us, hl with | [_], _ => rfl) sc12 rfl rfl ck12
  have O : AlI (fun i d => DefOk tabs.tx (GD K [f0, f1, f2, f3, f4, f5, f6, f7, f8, f9, f10, f11, f12]) i d) 0 defs := (.cons ⟨_, _, d0⟩ (.cons ⟨_, _, d1⟩ (.cons ⟨_, _, d2⟩ (.cons ⟨_, _, d3⟩ (.cons ⟨_, _, d4⟩ (.cons ⟨_, _, d5⟩ (.cons ⟨_, _, d6⟩ (.cons ⟨_, _, d7⟩ (.cons ⟨_, _, d8⟩ (.cons ⟨_, _, d9⟩ (.cons ⟨_, _, d10⟩ (.cons ⟨_, _, d11⟩ (.cons ⟨_, _, d12⟩ (.nil _))))))))))))))
  exact ⟨_, fun s v => .of_eq rfl, fun base _ _ => law_fn hlaw (fn_all (P := l.prog) (w := w) (base := base) M (D := PD) (fun f hf => have h0 : decide (f < 13) = true := hf; have h1 : f < defs.length := of_decide_eq_true h0; ⟨defs[f], List.getElem?_eq_getElem h1⟩) (fun f d hd => by have q := O.at hd; rw [Nat.zero_add] at q; exact q) 20 f_law _ _ _ rfl d12).1⟩
end Lw
namespace Lw
open PySem L2 Wc
abbrev I (i : Int) : D := .t (.int i)
abbrev st (cs : List Int) (p q r : Int) (rest : Sto) : Sto := .lst (cs.map fun i => I i) :: .lst [.ref 0, I p, I q, I r] :: rest
theorem ix0 {cs : List Int} {p q r : Int} {rest : Sto} : pIdx (.ref 1) (I 0) (st cs p q r rest) = .ok (.ref 0) (st cs p q r rest) := rfl
theorem ix1 {cs : List Int} {p q r : Int} {rest : Sto} : pIdx (.ref 1) (I 1) (st cs p q r rest) = .ok (I p) (st cs p q r rest) := rfl
theorem ix2 {cs : List Int} {p q r : Int} {rest : Sto} : pIdx (.ref 1) (I 2) (st cs p q r rest) = .ok (I q) (st cs p q r rest) := rfl
theorem ix3 {cs : List Int} {p q r : Int} {rest : Sto} : pIdx (.ref 1) (I 3) (st cs p q r rest) = .ok (I r) (st cs p q r rest) := rfl
theorem pt1 {cs : List Int} {p q r v : Int} {rest : Sto} : pSt (.ref 1) (I 1) (I v) (st cs p q r rest) = some (st cs v q r rest) := rfl
theorem pt2 {cs : List Int} {p q r v : Int} {rest : Sto} : pSt (.ref 1) (I 2) (I v) (st cs p q r rest) = some (st cs p v r rest) := rfl
theorem pt3 {cs : List Int} {p q r v : Int} {rest : Sto} : pSt (.ref 1) (I 3) (I v) (st cs p q r rest) = some (st cs p q v rest) := rfl
theorem len0 {m : Bool} {cs : List Int} {p q r : Int} {rest : Sto} : pBi m .len [.ref 0] (st cs p q r rest) = .ok (I cs.length) (st cs p q r rest) := by
  show R.ok (I ((cs.map fun i => I i).length : Nat)) _ = _
  rw [List.length_map]
theorem ixc {cs : List Int} {k : Nat} {p q r : Int} {rest : Sto} (h : k < cs.length) : pIdx (.ref 0) (I k) (st cs p q r rest) = .ok (I cs[k]) (st cs p q r rest) := by
  show opt (ixAt (cs.map fun i => I i) k) _ = _
  unfold ixAt
  rw [if_pos (by omega)]
  simp [h, opt]
theorem ptc {cs : List Int} {k : Nat} {p q r v : Int} {rest : Sto} (h : k < cs.length) : pSt (.ref 0) (I k) (I v) (st cs p q r rest) = some (st (cs.set k v) p q r rest) := by
  show (ixP (cs.map fun i => I i).length k).map _ = _
  unfold ixP
  rw [if_pos (by omega), if_pos (by simpa using h)]
  simp [List.map_set]
theorem lt_i (a b : Int) (S : Sto) : pCmp .Lt (I a) (I b) S = .ok (.t (.bl (decide (a < b)))) S := rfl
theorem wh_draw (C : Cal) (many : D) (a b : Option D) (cs : List Int) (q r : Int) (rest : Sto) : ∀ (k p : Nat), p + k = cs.length → ∀ fuel, k < fuel →
    ∃ p' : Nat, p' ≤ cs.length ∧ whL (evE BT C c__law_draw_1) (evSs BT C b__law_draw_1) fuel [some (.ref 1), some many, some (.ref 0), a, b] (st cs p q r rest) = .nx [some (.ref 1), some many, some (.ref 0), a, b] (st cs p' q r rest)
  | k, p, hk, 0, hf => by omega
  | 0, p, hk, fuel + 1, _ => by
    have h : ¬ ((p : Int) < cs.length) := by omega
    refine ⟨p, by omega, ?_⟩
    have e : evE BT C c__law_draw_1 [some (.ref 1), some many, some (.ref 0), a, b] (st cs p q r rest) = .ok (.t (.bl false)) (st cs p q r rest) := by
      simp -implicitDefEqProofs only [s_asg, asg_ok, s_ex, ex_ok, s_ret, ret_ok, s_retN, s_brk, s_cnt, s_pas, s_ite, ite_t, ite_f, s_fo, s_nil, s_cons, sq_nx, sq_rt, sq_bk, sq_ct, sq_ex, tel_nx, tel_rt, tel_ex, e_v, oj_s, e_c, e_g, e_nop, e_one, e_bin, e_cmp, e_idx, two_ok, twoJ_ok, e_and, and_t, and_f, e_or, or_t, or_f, e_ite, iteE_t, iteE_f, e_not, not_b, e_ch2, ch2I_ok, ch2J_ok, ch2K_t, ch2K_f, e_ch3, ch3I_ok, ch3J_ok, ch3K_t, ch3K_f, e_tup, e_lst, e_bi, e_call, lsI_ok, e_dct, dct_ok, ps_nil, ps_cons, psI_ok, psK_ok, e_sl, slI_ok, e_isi, e_lc, lcJ_ok, e_bm, bmJ_ok, s_sti, stiI_ok, stiJ_ok, stiK_ok, nxO_s, s_wh, callD_f, es_nil, es_cons, esI_ok, esJ_ok, pAddI, pSubI, List.getElem?_cons_zero, List.getElem?_cons_succ, List.set_cons_zero, List.set_cons_succ, Bool.not_true, Bool.not_false, ix1, len0, lt_i, h, decide_false]
    simp only [whL, e]
  | k + 1, p, hk, fuel + 1, hf => by
    have h : (p : Int) < cs.length := by omega
    have h2 : p < cs.length := by omega
    by_cases hz : cs[p] = 0
    · obtain ⟨p', h', e'⟩ := wh_draw C many a b cs q r rest k (p + 1) (by omega) fuel (by omega)
      refine ⟨p', h', ?_⟩
      have e : evE BT C c__law_draw_1 [some (.ref 1), some many, some (.ref 0), a, b] (st cs p q r rest) = .ok (.t (.bl true)) (st cs p q r rest) := by
        simp -implicitDefEqProofs only [s_asg, asg_ok, s_ex, ex_ok, s_ret, ret_ok, s_retN, s_brk, s_cnt, s_pas, s_ite, ite_t, ite_f, s_fo, s_nil, s_cons, sq_nx, sq_rt, sq_bk, sq_ct, sq_ex, tel_nx, tel_rt, tel_ex, e_v, oj_s, e_c, e_g, e_nop, e_one, e_bin, e_cmp, e_idx, two_ok, twoJ_ok, e_and, and_t, and_f, e_or, or_t, or_f, e_ite, iteE_t, iteE_f, e_not, not_b, e_ch2, ch2I_ok, ch2J_ok, ch2K_t, ch2K_f, e_ch3, ch3I_ok, ch3J_ok, ch3K_t, ch3K_f, e_tup, e_lst, e_bi, e_call, lsI_ok, e_dct, dct_ok, ps_nil, ps_cons, psI_ok, psK_ok, e_sl, slI_ok, e_isi, e_lc, lcJ_ok, e_bm, bmJ_ok, s_sti, stiI_ok, stiJ_ok, stiK_ok, nxO_s, s_wh, callD_f, es_nil, es_cons, esI_ok, esJ_ok, pAddI, pSubI, List.getElem?_cons_zero, List.getElem?_cons_succ, List.set_cons_zero, List.set_cons_succ, Bool.not_true, Bool.not_false, ix1, len0, lt_i, h, decide_true, ixc h2, pEqI, hz]
      have e2 : evSs BT C b__law_draw_1 [some (.ref 1), some many, some (.ref 0), a, b] (st cs p q r rest) = .nx [some (.ref 1), some many, some (.ref 0), a, b] (st cs ((p : Int) + 1) q r rest) := by
        simp -implicitDefEqProofs only [s_asg, asg_ok, s_ex, ex_ok, s_ret, ret_ok, s_retN, s_brk, s_cnt, s_pas, s_ite, ite_t, ite_f, s_fo, s_nil, s_cons, sq_nx, sq_rt, sq_bk, sq_ct, sq_ex, tel_nx, tel_rt, tel_ex, e_v, oj_s, e_c, e_g, e_nop, e_one, e_bin, e_cmp, e_idx, two_ok, twoJ_ok, e_and, and_t, and_f, e_or, or_t, or_f, e_ite, iteE_t, iteE_f, e_not, not_b, e_ch2, ch2I_ok, ch2J_ok, ch2K_t, ch2K_f, e_ch3, ch3I_ok, ch3J_ok, ch3K_t, ch3K_f, e_tup, e_lst, e_bi, e_call, lsI_ok, e_dct, dct_ok, ps_nil, ps_cons, psI_ok, psK_ok, e_sl, slI_ok, e_isi, e_lc, lcJ_ok, e_bm, bmJ_ok, s_sti, stiI_ok, stiJ_ok, stiK_ok, nxO_s, s_wh, callD_f, es_nil, es_cons, esI_ok, esJ_ok, pAddI, pSubI, List.getElem?_cons_zero, List.getElem?_cons_succ, List.set_cons_zero, List.set_cons_succ, Bool.not_true, Bool.not_false, ix1, pt1]
      simp only [whL, e, e2]
      exact e'
    · refine ⟨p, by omega, ?_⟩
      have e : evE BT C c__law_draw_1 [some (.ref 1), some many, some (.ref 0), a, b] (st cs p q r rest) = .ok (.t (.bl false)) (st cs p q r rest) := by
        simp -implicitDefEqProofs only [s_asg, asg_ok, s_ex, ex_ok, s_ret, ret_ok, s_retN, s_brk, s_cnt, s_pas, s_ite, ite_t, ite_f, s_fo, s_nil, s_cons, sq_nx, sq_rt, sq_bk, sq_ct, sq_ex, tel_nx, tel_rt, tel_ex, e_v, oj_s, e_c, e_g, e_nop, e_one, e_bin, e_cmp, e_idx, two_ok, twoJ_ok, e_and, and_t, and_f, e_or, or_t, or_f, e_ite, iteE_t, iteE_f, e_not, not_b, e_ch2, ch2I_ok, ch2J_ok, ch2K_t, ch2K_f, e_ch3, ch3I_ok, ch3J_ok, ch3K_t, ch3K_f, e_tup, e_lst, e_bi, e_call, lsI_ok, e_dct, dct_ok, ps_nil, ps_cons, psI_ok, psK_ok, e_sl, slI_ok, e_isi, e_lc, lcJ_ok, e_bm, bmJ_ok, s_sti, stiI_ok, stiJ_ok, stiK_ok, nxO_s, s_wh, callD_f, es_nil, es_cons, esI_ok, esJ_ok, pAddI, pSubI, List.getElem?_cons_zero, List.getElem?_cons_succ, List.set_cons_zero, List.set_cons_succ, Bool.not_true, Bool.not_false, ix1, len0, lt_i, h, decide_true, ixc h2, pEqI, hz, decide_false]
      simp only [whL, e]
theorem r_draw (n : Nat) (many : Int) (h1 : 0 < many) (h2 : many < 1073741824) (cs : List Int) (p : Nat) (q r : Int) (rest : Sto) (hp : p ≤ cs.length) (hz : cs.length ≤ 1000) (hq : 0 ≤ q) (hq2 : q < 2147483648) (hr : 0 ≤ r) (hr2 : r < 100000) :
    ∃ (d : Int) (cs' : List Int) (p' : Nat) (q' : Int), cal BT PD (n + 1) f__law_draw [.ref 1, I many] (st cs p q r rest) = .ok (I d) (st cs' p' q' (r + 1) rest) ∧ 0 ≤ d ∧ d < many ∧ cs'.length = cs.length ∧ p' ≤ cs'.length ∧ 0 ≤ q' ∧ q' < 2147483648 := by
  rw [r_def (d := ⟨2, 5, b__law_draw⟩) rfl rfl]
  obtain ⟨p', hp', e⟩ := wh_draw (cal BT PD n) (I many) none none cs q (r + 1) rest (cs.length - p) p (by omega) wf (by
    have : 1000 < wf := by decide +kernel
    omega)
  have m1 : ∀ S, pBin false .Mult (I q) (I 48271) S = .ok (I (q * 48271)) S := fun S => pMulR (by decide) (by decide)
  have m2 : ∀ S, pBin false .Mult (I (r + 1)) (I (r + 1)) S = .ok (I ((r + 1) * (r + 1))) S := fun S => pMulR (by omega) (by omega)
  have m3 : ∀ S, pBin false .Mult (I ((r + 1) * (r + 1))) (I (r + 1)) S = .ok (I ((r + 1) * (r + 1) * (r + 1))) S := fun S => pMulR (by omega) (by omega)
  have hm : ∀ (i j : Int) S, 0 < j → pBin false .Mod (I i) (I j) S = .ok (I (i % j)) S := fun i j S h => pMod h
  have d64 : ∀ (i : Int) S, pBin false .FloorDiv (I i) (I 64) S = .ok (I (i / 64)) S := fun i S => pDiv (by decide) (by decide)
  have dm : ∀ (i : Int) S, pBin false .FloorDiv (I i) (I many) S = .ok (I (i / many)) S := fun i S => pDiv h1 h2
  by_cases he : p' = cs.length
  · generalize hqq : (q * 48271 + (r + 1) * (r + 1) * (r + 1) + 1) % 2147483647 = qq
    have b1 : 0 ≤ qq := by rw [← hqq]; exact Int.emod_nonneg _ (by decide)
    have b2 : qq < 2147483647 := by rw [← hqq]; exact Int.emod_lt_of_pos _ (by decide)
    have m4 : ∀ S, pBin false .Mult (I qq) (I qq) S = .ok (I (qq * qq)) S := fun S => pMulR (by omega) (by omega)
    have he2 : (p' : Int) = cs.length := by omega
    refine ⟨qq * qq % 2147483629 / 64 % many, cs, p', qq, ?_, Int.emod_nonneg _ (by omega), Int.emod_lt_of_pos _ h1, rfl, by omega, b1, by omega⟩
    simp -implicitDefEqProofs only [b__law_draw, List.map_cons, List.map_nil, List.length_cons, List.length_nil, List.replicate, List.cons_append, List.nil_append, s_asg, asg_ok, s_ex, ex_ok, s_ret, ret_ok, s_retN, s_brk, s_cnt, s_pas, s_ite, ite_t, ite_f, s_fo, s_nil, s_cons, sq_nx, sq_rt, sq_bk, sq_ct, sq_ex, tel_nx, tel_rt, tel_ex, e_v, oj_s, e_c, e_g, e_nop, e_one, e_bin, e_cmp, e_idx, two_ok, twoJ_ok, e_and, and_t, and_f, e_or, or_t, or_f, e_ite, iteE_t, iteE_f, e_not, not_b, e_ch2, ch2I_ok, ch2J_ok, ch2K_t, ch2K_f, e_ch3, ch3I_ok, ch3J_ok, ch3K_t, ch3K_f, e_tup, e_lst, e_bi, e_call, lsI_ok, e_dct, dct_ok, ps_nil, ps_cons, psI_ok, psK_ok, e_sl, slI_ok, e_isi, e_lc, lcJ_ok, e_bm, bmJ_ok, s_sti, stiI_ok, stiJ_ok, stiK_ok, nxO_s, s_wh, callD_f, es_nil, es_cons, esI_ok, esJ_ok, pAddI, pSubI, List.getElem?_cons_zero, List.getElem?_cons_succ, List.set_cons_zero, List.set_cons_succ, Bool.not_true, Bool.not_false, ix0, ix3, pt3]
    rw [e]
    simp -implicitDefEqProofs only [s_asg, asg_ok, s_ex, ex_ok, s_ret, ret_ok, s_retN, s_brk, s_cnt, s_pas, s_ite, ite_t, ite_f, s_fo, s_nil, s_cons, sq_nx, sq_rt, sq_bk, sq_ct, sq_ex, tel_nx, tel_rt, tel_ex, e_v, oj_s, e_c, e_g, e_nop, e_one, e_bin, e_cmp, e_idx, two_ok, twoJ_ok, e_and, and_t, and_f, e_or, or_t, or_f, e_ite, iteE_t, iteE_f, e_not, not_b, e_ch2, ch2I_ok, ch2J_ok, ch2K_t, ch2K_f, e_ch3, ch3I_ok, ch3J_ok, ch3K_t, ch3K_f, e_tup, e_lst, e_bi, e_call, lsI_ok, e_dct, dct_ok, ps_nil, ps_cons, psI_ok, psK_ok, e_sl, slI_ok, e_isi, e_lc, lcJ_ok, e_bm, bmJ_ok, s_sti, stiI_ok, stiJ_ok, stiK_ok, nxO_s, s_wh, callD_f, es_nil, es_cons, esI_ok, esJ_ok, pAddI, pSubI, List.getElem?_cons_zero, List.getElem?_cons_succ, List.set_cons_zero, List.set_cons_succ, Bool.not_true, Bool.not_false, ix1, ix2, ix3, len0, pEqI, he2, decide_true, m1, m2, m3, hm _ 2147483647 _ (by decide), hm _ 2147483629 _ (by decide), hm _ many _ h1, hqq, pt2, m4, d64]
  · have he2 : ¬ ((p' : Int) = cs.length) := by omega
    have h3 : p' < cs.length := by omega
    refine ⟨cs[p'] % many, cs.set p' (cs[p'] / many), p', q, ?_, Int.emod_nonneg _ (by omega), Int.emod_lt_of_pos _ h1, by simp, by simpa using hp', hq, hq2⟩
    simp -implicitDefEqProofs only [b__law_draw, List.map_cons, List.map_nil, List.length_cons, List.length_nil, List.replicate, List.cons_append, List.nil_append, s_asg, asg_ok, s_ex, ex_ok, s_ret, ret_ok, s_retN, s_brk, s_cnt, s_pas, s_ite, ite_t, ite_f, s_fo, s_nil, s_cons, sq_nx, sq_rt, sq_bk, sq_ct, sq_ex, tel_nx, tel_rt, tel_ex, e_v, oj_s, e_c, e_g, e_nop, e_one, e_bin, e_cmp, e_idx, two_ok, twoJ_ok, e_and, and_t, and_f, e_or, or_t, or_f, e_ite, iteE_t, iteE_f, e_not, not_b, e_ch2, ch2I_ok, ch2J_ok, ch2K_t, ch2K_f, e_ch3, ch3I_ok, ch3J_ok, ch3K_t, ch3K_f, e_tup, e_lst, e_bi, e_call, lsI_ok, e_dct, dct_ok, ps_nil, ps_cons, psI_ok, psK_ok, e_sl, slI_ok, e_isi, e_lc, lcJ_ok, e_bm, bmJ_ok, s_sti, stiI_ok, stiJ_ok, stiK_ok, nxO_s, s_wh, callD_f, es_nil, es_cons, esI_ok, esJ_ok, pAddI, pSubI, List.getElem?_cons_zero, List.getElem?_cons_succ, List.set_cons_zero, List.set_cons_succ, Bool.not_true, Bool.not_false, ix0, ix3, pt3]
    rw [e]
    simp -implicitDefEqProofs only [s_asg, asg_ok, s_ex, ex_ok, s_ret, ret_ok, s_retN, s_brk, s_cnt, s_pas, s_ite, ite_t, ite_f, s_fo, s_nil, s_cons, sq_nx, sq_rt, sq_bk, sq_ct, sq_ex, tel_nx, tel_rt, tel_ex, e_v, oj_s, e_c, e_g, e_nop, e_one, e_bin, e_cmp, e_idx, two_ok, twoJ_ok, e_and, and_t, and_f, e_or, or_t, or_f, e_ite, iteE_t, iteE_f, e_not, not_b, e_ch2, ch2I_ok, ch2J_ok, ch2K_t, ch2K_f, e_ch3, ch3I_ok, ch3J_ok, ch3K_t, ch3K_f, e_tup, e_lst, e_bi, e_call, lsI_ok, e_dct, dct_ok, ps_nil, ps_cons, psI_ok, psK_ok, e_sl, slI_ok, e_isi, e_lc, lcJ_ok, e_bm, bmJ_ok, s_sti, stiI_ok, stiJ_ok, stiK_ok, nxO_s, s_wh, callD_f, es_nil, es_cons, esI_ok, esJ_ok, pAddI, pSubI, List.getElem?_cons_zero, List.getElem?_cons_succ, List.set_cons_zero, List.set_cons_succ, Bool.not_true, Bool.not_false, ix1, ix2, ix3, len0, pEqI, he2, decide_false, hm _ many _ h1, ixc h3, ptc h3, dm]
abbrev A (i : Int) : Int := if i < 0 then -i else i
abbrev s1 (cs : List Int) : Sto := [.lst (cs.map fun i => I i)]
theorem lenS {m : Bool} {cs : List Int} : pBi m .len [.ref 0] (s1 cs) = .ok (I cs.length) (s1 cs) := by
  show R.ok (I ((cs.map fun i => I i).length : Nat)) _ = _
  rw [List.length_map]
theorem ixS {cs : List Int} {k : Nat} (h : k < cs.length) : pIdx (.ref 0) (I k) (s1 cs) = .ok (I cs[k]) (s1 cs) := by
  show opt (ixAt (cs.map fun i => I i) k) _ = _
  unfold ixAt
  rw [if_pos (by omega)]
  simp [h, opt]
theorem ptS {cs : List Int} {k : Nat} {v : Int} (h : k < cs.length) : pSt (.ref 0) (I k) (I v) (s1 cs) = some (s1 (cs.set k v)) := by
  show (ixP (cs.map fun i => I i).length k).map _ = _
  unfold ixP
  rw [if_pos (by omega), if_pos (by simpa using h)]
  simp [List.map_set]
theorem r_drawn (n : Nat) (ns : List Int) (hl : ns.length ≤ 63) (start : Int) (hs : 0 ≤ start) (hs2 : start < 2147483648) :
    ∃ (cs : List Int) (p : Nat) (q : Int), cal BT PD (n + 1) f__law_drawn [.t (.lst (ns.map .int)), I start] [] = .ok (.ref 1) (st cs p q 0 []) ∧ p ≤ cs.length ∧ cs.length ≤ 64 ∧ 0 ≤ q ∧ q < 2147483648 := by
  rw [r_def (d := ⟨2, 7, b__law_drawn⟩) rfl rfl]
  generalize hns : cut ns none (some 63) = ms
  have hms : ms.length ≤ 63 := by rw [← hns]; exact Nat.le_trans (cut_len _ _ _) hl
  have e1 : ∀ S, pSl (.t (.lst (ns.map .int))) none (some 63) S = .ok (.t (.lst (ms.map .int))) S := fun S => by
    show mkL false (cut ((ns.map T.int).map D.t) none (some 63)) S = _
    rw [cut_map, cut_map, hns]
    exact mkL_t (pls_map _)
  have i1 : ∀ S, itemsOf .seq [.t (.lst (ms.map .int))] S = some (ms.map fun i => I i) := fun S => by
    show some ((ms.map T.int).map D.t) = _
    simp [Function.comp_def]
  have l1 := fun S => lcL_map (p := .v 3) (ρ := [some (.t (.lst (ns.map .int))), some (I start), none, none, none, none, none]) (cond := evE BT (cal BT PD n) (.c (.bl true))) (el := evE BT (cal BT PD n) (.bi false .abs (.cons (.v 3) .nil))) (S := S)
    (fun i => I i) (fun i => I (A i)) ms [] (by simp; unfold lim; omega) fun a _ => ⟨_, rfl, rfl, rfl⟩
  simp only [List.nil_append] at l1
  generalize hcs : ms.map A ++ [0] = cs
  have hcl : cs.length = ms.length + 1 := by rw [← hcs]; simp
  have a1 : pBin true .Add (.t (.lst (ms.map fun a => .int (A a)))) (.t (.lst [.int 0])) [] = .ok (.ref 0) (s1 cs) := by
    have h' : ((ms.map fun a => T.int (A a)).map D.t).length + ([T.int 0].map D.t).length ≤ lim := by simp; unfold lim; omega
    simp only [pBin, pAdd, asList, if_pos h', mkL, if_true]
    rw [← hcs]; simp [Function.comp_def]
  have it : ∀ S, itemsOf .rng [I cs.length] S = some ((List.range cs.length).map fun (i : Nat) => .t (.int (i : Int))) := fun S => by
    have : -(2 ^ 62) ≤ (cs.length : Int) ∧ (cs.length : Int) < 2 ^ 62 := ⟨by omega, by omega⟩
    simp only [itemsOf, if_pos this, Int.toNat_natCast]
  have hm : ∀ (i j : Int) S, 0 < j → pBin false .Mod (I i) (I j) S = .ok (I (i % j)) S := fun i j S h => pMod h
  have step := foL_inv (p := .v 5) (b := evSs BT (cal BT PD n) (.cons (.asg (.v 4) (.bin false .Mod (.bin false .Add (.bin false .Add (.bin false .Mult (.v 4) (.c (.int 69621))) (.bin false .Mult (.bin false .Mod (.idx (.v 2) (.v 5)) (.c (.int 2147483647))) (.bin false .Add (.bin false .Mult (.v 5) (.v 5)) (.c (.int 3))))) (.c (.int 1))) (.c (.int 2147483629))))
      .nil)) (S := s1 cs) (fun _ ρ => ∃ q a, ρ = [some (.t (.lst (ns.map .int))), some (I start), some (.ref 0), none, some (I q), a, none] ∧ 0 ≤ q ∧ q < 2147483648)
    ((List.range cs.length).map fun (i : Nat) => .t (.int (i : Int))) 0 [some (.t (.lst (ns.map .int))), some (I start), some (.ref 0), none, some (I start), none, none] ⟨_, _, rfl, hs, hs2⟩ fun i d ρ hi hρ => by
      obtain ⟨q, a, rfl, b1, b2⟩ := hρ
      have hi2 : i < cs.length := by
        have := (List.getElem?_eq_some_iff.mp hi).1
        simpa using this
      have hd2 : d = .t (.int (i : Int)) := by
        rw [List.getElem?_map, List.getElem?_range hi2] at hi
        exact (Option.some.inj hi).symm
      subst hd2
      have m1 : ∀ S, pBin false .Mult (I q) (I 69621) S = .ok (I (q * 69621)) S := fun S => pMulR (by decide) (by decide)
      have m2 : ∀ S, pBin false .Mult (I (i : Int)) (I (i : Int)) S = .ok (I ((i : Int) * i)) S := fun S => pMulL (by omega) (by omega)
      have m3 : ∀ y S, pBin false .Mult (I (cs[i] % 2147483647)) (I y) S = .ok (I (cs[i] % 2147483647 * y)) S := fun y S => pMulL (by omega) (by omega)
      refine ⟨_, [some (.t (.lst (ns.map .int))), some (I start), some (.ref 0), none, some (I ((q * 69621 + cs[i] % 2147483647 * ((i : Int) * i + 3) + 1) % 2147483629)), some (I (i : Int)), none], rfl, ?_, ⟨_, some (I (i : Int)), rfl, Int.emod_nonneg _ (by decide), Int.lt_trans (Int.emod_lt_of_pos _ (by decide : (0:Int) < 2147483629)) (by decide)⟩⟩
      simp -implicitDefEqProofs only [s_asg, asg_ok, s_ex, ex_ok, s_ret, ret_ok, s_retN, s_brk, s_cnt, s_pas, s_ite, ite_t, ite_f, s_fo, s_nil, s_cons, sq_nx, sq_rt, sq_bk, sq_ct, sq_ex, tel_nx, tel_rt, tel_ex, e_v, oj_s, e_c, e_g, e_nop, e_one, e_bin, e_cmp, e_idx, two_ok, twoJ_ok, e_and, and_t, and_f, e_or, or_t, or_f, e_ite, iteE_t, iteE_f, e_not, not_b, e_ch2, ch2I_ok, ch2J_ok, ch2K_t, ch2K_f, e_ch3, ch3I_ok, ch3J_ok, ch3K_t, ch3K_f, e_tup, e_lst, e_bi, e_call, lsI_ok, e_dct, dct_ok, ps_nil, ps_cons, psI_ok, psK_ok, e_sl, slI_ok, e_isi, e_lc, lcJ_ok, e_bm, bmJ_ok, s_sti, stiI_ok, stiJ_ok, stiK_ok, nxO_s, s_wh, callD_f, es_nil, es_cons, esI_ok, esJ_ok, pAddI, pSubI, List.getElem?_cons_zero, List.getElem?_cons_succ, List.set_cons_zero, List.set_cons_succ, Bool.not_true, Bool.not_false, m1, m2, m3, ixS hi2, hm _ 2147483647 _ (by decide), hm _ 2147483629 _ (by decide)]
  obtain ⟨ρ2, e, q, a, rfl, b1, b2⟩ := step
  have h0 : 0 < cs.length := by omega
  have x0 : pIdx (.ref 0) (I 0) (s1 cs) = .ok (I cs[0]) (s1 cs) := ixS h0
  have p0 : ∀ v, pSt (.ref 0) (I 0) (I v) (s1 cs) = some (s1 (cs.set 0 v)) := fun v => ptS h0
  have d2 : ∀ (i : Int) S, pBin false .FloorDiv (I i) (I 2) S = .ok (I (i / 2)) S := fun i S => pDiv (by decide) (by decide)
  have mm : ∀ S, pBin false .Mult (I (cs[0] % 2)) (I cs.length) S = .ok (I (cs[0] % 2 * cs.length)) S := fun S => pMulL (by omega) (by omega)
  have pp : ∃ p : Nat, cs[0] % 2 * cs.length = (p : Int) ∧ p ≤ cs.length := by
    rcases (show cs[0] % 2 = 0 ∨ cs[0] % 2 = 1 by omega) with h | h
    · exact ⟨0, by rw [h]; simp, by omega⟩
    · exact ⟨cs.length, by rw [h]; simp, by omega⟩
  obtain ⟨p, hp, hp2⟩ := pp
  refine ⟨cs.set 0 (cs[0] / 2), p, q, ?_, by simpa using hp2, by simp; omega, b1, b2⟩
  simp -implicitDefEqProofs only [b__law_drawn, List.map_cons, List.map_nil, List.length_cons, List.length_nil, List.replicate, List.cons_append, List.nil_append, s_asg, asg_ok, s_ex, ex_ok, s_ret, ret_ok, s_retN, s_brk, s_cnt, s_pas, s_ite, ite_t, ite_f, s_fo, s_nil, s_cons, sq_nx, sq_rt, sq_bk, sq_ct, sq_ex, tel_nx, tel_rt, tel_ex, e_v, oj_s, e_c, e_g, e_nop, e_one, e_bin, e_cmp, e_idx, two_ok, twoJ_ok, e_and, and_t, and_f, e_or, or_t, or_f, e_ite, iteE_t, iteE_f, e_not, not_b, e_ch2, ch2I_ok, ch2J_ok, ch2K_t, ch2K_f, e_ch3, ch3I_ok, ch3J_ok, ch3K_t, ch3K_f, e_tup, e_lst, e_bi, e_call, lsI_ok, e_dct, dct_ok, ps_nil, ps_cons, psI_ok, psK_ok, e_sl, slI_ok, e_isi, e_lc, lcJ_ok, e_bm, bmJ_ok, s_sti, stiI_ok, stiJ_ok, stiK_ok, nxO_s, s_wh, callD_f, es_nil, es_cons, esI_ok, esJ_ok, pAddI, pSubI, List.getElem?_cons_zero, List.getElem?_cons_succ, List.set_cons_zero, List.set_cons_succ, Bool.not_true, Bool.not_false, slJ_ok (lo := .nop) (y := .t .non) (l := none) rfl, slK_ok (hi := .c (.int 63)) (y := I 63) (h := some 63) rfl, e1, lcI_ok (i1 _), wipeL, Pt.own]
  rw [l1]
  simp -implicitDefEqProofs only [s_asg, asg_ok, s_ex, ex_ok, s_ret, ret_ok, s_retN, s_brk, s_cnt, s_pas, s_ite, ite_t, ite_f, s_fo, s_nil, s_cons, sq_nx, sq_rt, sq_bk, sq_ct, sq_ex, tel_nx, tel_rt, tel_ex, e_v, oj_s, e_c, e_g, e_nop, e_one, e_bin, e_cmp, e_idx, two_ok, twoJ_ok, e_and, and_t, and_f, e_or, or_t, or_f, e_ite, iteE_t, iteE_f, e_not, not_b, e_ch2, ch2I_ok, ch2J_ok, ch2K_t, ch2K_f, e_ch3, ch3I_ok, ch3J_ok, ch3K_t, ch3K_f, e_tup, e_lst, e_bi, e_call, lsI_ok, e_dct, dct_ok, ps_nil, ps_cons, psI_ok, psK_ok, e_sl, slI_ok, e_isi, e_lc, lcJ_ok, e_bm, bmJ_ok, s_sti, stiI_ok, stiJ_ok, stiK_ok, nxO_s, s_wh, callD_f, es_nil, es_cons, esI_ok, esJ_ok, pAddI, pSubI, List.getElem?_cons_zero, List.getElem?_cons_succ, List.set_cons_zero, List.set_cons_succ, Bool.not_true, Bool.not_false, mkL_t (pls_of (fun a => T.int (A a)) ms), mkL_t (ds := [I 0]) (ts := [.int 0]) rfl, a1, lenS, fo_ok (it _)]
  rw [e]
  simp -implicitDefEqProofs only [s_asg, asg_ok, s_ex, ex_ok, s_ret, ret_ok, s_retN, s_brk, s_cnt, s_pas, s_ite, ite_t, ite_f, s_fo, s_nil, s_cons, sq_nx, sq_rt, sq_bk, sq_ct, sq_ex, tel_nx, tel_rt, tel_ex, e_v, oj_s, e_c, e_g, e_nop, e_one, e_bin, e_cmp, e_idx, two_ok, twoJ_ok, e_and, and_t, and_f, e_or, or_t, or_f, e_ite, iteE_t, iteE_f, e_not, not_b, e_ch2, ch2I_ok, ch2J_ok, ch2K_t, ch2K_f, e_ch3, ch3I_ok, ch3J_ok, ch3K_t, ch3K_f, e_tup, e_lst, e_bi, e_call, lsI_ok, e_dct, dct_ok, ps_nil, ps_cons, psI_ok, psK_ok, e_sl, slI_ok, e_isi, e_lc, lcJ_ok, e_bm, bmJ_ok, s_sti, stiI_ok, stiJ_ok, stiK_ok, nxO_s, s_wh, callD_f, es_nil, es_cons, esI_ok, esJ_ok, pAddI, pSubI, List.getElem?_cons_zero, List.getElem?_cons_succ, List.set_cons_zero, List.set_cons_succ, Bool.not_true, Bool.not_false, x0, hm _ 2 _ (by decide), lenS, mm, hp, d2, p0]
  rfl
theorem foL_invS {p : Pt} {b : Ev → Sto → RS} (P : Nat → Ev → Sto → Prop) : ∀ (ds : List D) (k : Nat) (ρ : Ev) (S : Sto), P k ρ S →
    (∀ i d ρ S, ds[i]? = some d → P (k + i) ρ S → ∃ ρ1 ρ2 S2, setP p d ρ = some ρ1 ∧ b ρ1 S = .nx ρ2 S2 ∧ P (k + i + 1) ρ2 S2) → ∃ ρ2 S2, foL p b ds ρ S = .nx ρ2 S2 ∧ P (k + ds.length) ρ2 S2
  | [], k, ρ, S, h, _ => ⟨ρ, S, rfl, h⟩
  | d :: ds, k, ρ, S, h, s => by
    obtain ⟨ρ1, ρ2, S2, e1, e2, h2⟩ := s 0 d ρ S rfl h
    obtain ⟨ρ3, S3, e3, h3⟩ := foL_invS P ds (k + 1) ρ2 S2 h2 fun i d ρ S e q => by
      have := s (i + 1) d ρ S (by simpa using e) (by rw [show k + (i + 1) = k + 1 + i by omega]; exact q)
      rwa [show k + (i + 1) + 1 = k + 1 + i + 1 by omega] at this
    refine ⟨ρ3, S3, by simp [foL, e1, e2, e3], ?_⟩
    rwa [show k + 1 + ds.length = k + (d :: ds).length by simp; omega] at h3
/-- the draws stand at 0 and 1; behind them the rest -/
def Ok (r : Int) (rest : Sto) (S : Sto) : Prop := ∃ (cs : List Int) (p : Nat) (q : Int), S = st cs p q r rest ∧ p ≤ cs.length ∧ cs.length ≤ 64 ∧ 0 ≤ q ∧ q < 2147483648
theorem ok_draw {n : Nat} {many r : Int} {rest S : Sto} (h : Ok r rest S) (h1 : 0 < many) (h2 : many < 1073741824) (hr : 0 ≤ r) (hr2 : r < 100000) :
    ∃ (d : Int) (S' : Sto), cal BT PD (n + 1) f__law_draw [.ref 1, I many] S = .ok (I d) S' ∧ Ok (r + 1) rest S' ∧ 0 ≤ d ∧ d < many := by
  obtain ⟨cs, p, q, rfl, a1, a2, a3, a4⟩ := h
  obtain ⟨d, cs', p', q', e, b1, b2, b3, b4, b5, b6⟩ := r_draw n many h1 h2 cs p q r rest a1 (by omega) a3 a4 hr hr2
  exact ⟨d, _, e, ⟨cs', p', q', rfl, b4, by omega, b5, b6⟩, b1, b2⟩
theorem ok_app {r : Int} {xs : List D} {S : Sto} {y : D} (h : Ok r [.lst xs] S) (hx : xs.length < 1000) : ∃ S', pBm false .append (.ref 2) [y] S = .ok (.t .non) S' ∧ Ok r [.lst (xs ++ [y])] S' := by
  obtain ⟨cs, p, q, rfl, a1, a2, a3, a4⟩ := h
  have hx : xs.length < lim := by unfold lim; omega
  refine ⟨st cs p q r [.lst (xs ++ [y])], ?_, ⟨cs, p, q, rfl, a1, a2, a3, a4⟩⟩
  show (if xs.length < lim then _ else _) = _
  rw [if_pos hx]; rfl
theorem ok_kind {r : Int} {xs : List D} {S : Sto} (h : Ok r [.lst xs] S) : kindD S (.ref 2) = bmT .append := by
  obtain ⟨cs, p, q, rfl, _⟩ := h
  rfl
abbrev Tri := Int × Int × Int
abbrev tr (x : Tri) : T := .tup [.int x.1, .int x.2.1, .int x.2.2]
/-- stretches put end to end -/
def Dg (B : Int) : Int → List Tri → Int → Prop
  | a, [], t => a = t
  | a, x :: l, t => x.1 = a ∧ x.1 < x.2.1 ∧ x.2.1 ≤ x.1 + B ∧ 0 ≤ x.2.2 ∧ x.2.2 ≤ 2199023255552 ∧ Dg B x.2.1 l t
theorem Dg.app {B : Int} : ∀ {a : Int} {l : List Tri} {t y w : Int}, Dg B a l t → t < y → y ≤ t + B → 0 ≤ w → w ≤ 2199023255552 → Dg B a (l ++ [(t, y, w)]) y
  | a, [], t, y, w, h, h1, h2, h3, h4 => by cases h; exact ⟨rfl, h1, h2, h3, h4, rfl⟩
  | a, x :: l, t, y, w, ⟨k1, k2, k3, k4, k5, k6⟩, h1, h2, h3, h4 => ⟨k1, k2, k3, k4, k5, k6.app h1 h2 h3 h4⟩
theorem gt_i (a b : Int) (S : Sto) : pCmp .Gt (I a) (I b) S = .ok (.t (.bl (decide (b < a)))) S := rfl
theorem draught_step (n : Nat) (ns : List Int) (start : Int) (far : Bool) (B : Int) (hB : 4 ≤ B) (hF : far = true → 17179869184 ≤ B) (l : List Tri) (t w r : Int) (a b c : Option D) (S : Sto) (hO : Ok r [.lst ((l.map tr).map .t)] S) (hr : 0 ≤ r) (hr2 : r < 90000) (hg : Dg B 0 l t) (hlen : l.length < 900) (d : D) :
    ∃ (S2 : Sto) (l2 : List Tri) (t2 w2 r2 : Int) (b2 c2 : Option D), evSs BT (cal BT PD (n + 1)) b__law_draught_1 [some (.t (.scr ns)), some (I start), some (.t (.bl far)), some (.ref 1), some (.ref 2), some (I t), some (I w), some d, b, c] S =
      .nx [some (.t (.scr ns)), some (I start), some (.t (.bl far)), some (.ref 1), some (.ref 2), some (I t2), some (I w2), some d, b2, c2] S2 ∧ Ok r2 [.lst ((l2.map tr).map .t)] S2 ∧ 0 ≤ r2 ∧ r2 ≤ r + 5 ∧ Dg B 0 l2 t2 ∧ l2.length = l.length + 1 := by
  obtain ⟨d1, S1, e1, o1, x1, y1⟩ := ok_draw (n := n) (many := 10) hO (by decide) (by decide) hr (by omega)
  obtain ⟨d2, S2, e2, o2, x2, y2⟩ := ok_draw (n := n) (many := 4) o1 (by decide) (by decide) (by omega) (by omega)
  -- what stands when more and long are known
  have fin : ∀ (more long r3 : Int) (S3 : Sto), Ok r3 [.lst ((l.map tr).map .t)] S3 → 0 ≤ r3 → r3 ≤ r + 5 → 0 ≤ more → more ≤ 2000000000000 → 0 < long → long ≤ B →
      ∃ (S2 : Sto) (l2 : List Tri) (t2 w2 r2 : Int) (b2 c2 : Option D), evSs BT (cal BT PD (n + 1)) (.cons (.ite (.cmp .Eq (.v 8) (.v 6)) (.cons (.asg (.v 8) (.bin false .Add (.v 8) (.c (.int 1))))
      .nil) .nil)
      (.cons (.asg (.v 6) (.v 8))
      (.cons (.ex (.bm false .append (.v 4) (.cons (.tup (.cons (.v 5) (.cons (.bin false .Add (.v 5) (.v 9)) (.cons (.v 6) .nil)))) .nil)))
      (.cons (.asg (.v 5) (.bin false .Add (.v 5) (.v 9)))
      .nil)))) [some (.t (.scr ns)), some (I start), some (.t (.bl far)), some (.ref 1), some (.ref 2), some (I t), some (I w), some d, some (I more), some (I long)] S3 =
      .nx [some (.t (.scr ns)), some (I start), some (.t (.bl far)), some (.ref 1), some (.ref 2), some (I t2), some (I w2), some d, b2, c2] S2 ∧ Ok r2 [.lst ((l2.map tr).map .t)] S2 ∧ 0 ≤ r2 ∧ r2 ≤ r + 5 ∧ Dg B 0 l2 t2 ∧ l2.length = l.length + 1 := fun more long r3 S3 o3 q1 q2 q3 q4 q5 q6 => by
    have key : ∀ m2 : Int, 0 ≤ m2 → m2 ≤ 2199023255552 → ∃ S4, pBm false .append (.ref 2) [.t (.tup [.int t, .int (t + long), .int m2])] S3 = .ok (.t .non) S4 ∧ Ok r3 [.lst (((l ++ [(t, t + long, m2)]).map tr).map .t)] S4 := fun m2 _ _ => by
      obtain ⟨S4, f1, f2⟩ := ok_app (y := .t (.tup [.int t, .int (t + long), .int m2])) o3 (by simpa using (by omega : l.length < 1000))
      exact ⟨S4, f1, by simpa using f2⟩
    have mt : ∀ m2 S, mkT [I t, I (t + long), I m2] S = .ok (.t (.tup [.int t, .int (t + long), .int m2])) S := fun _ _ => rfl
    by_cases hw : more = w
    · obtain ⟨S4, f1, f2⟩ := key (more + 1) (by omega) (by omega)
      subst hw
      refine ⟨S4, l ++ [(t, t + long, more + 1)], t + long, more + 1, r3, some (I (more + 1)), some (I long), ?_, f2, q1, q2, hg.app (by omega) (by omega) (by omega) (by omega), by simp⟩
      simp -implicitDefEqProofs only [s_asg, asg_ok, s_ex, ex_ok, s_ret, ret_ok, s_retN, s_brk, s_cnt, s_pas, s_ite, ite_t, ite_f, s_fo, s_nil, s_cons, sq_nx, sq_rt, sq_bk, sq_ct, sq_ex, tel_nx, tel_rt, tel_ex, e_v, oj_s, e_c, e_g, e_nop, e_one, e_bin, e_cmp, e_idx, two_ok, twoJ_ok, e_and, and_t, and_f, e_or, or_t, or_f, e_ite, iteE_t, iteE_f, e_not, not_b, e_ch2, ch2I_ok, ch2J_ok, ch2K_t, ch2K_f, e_ch3, ch3I_ok, ch3J_ok, ch3K_t, ch3K_f, e_tup, e_lst, e_bi, e_call, lsI_ok, e_dct, dct_ok, ps_nil, ps_cons, psI_ok, psK_ok, e_sl, slI_ok, e_isi, e_lc, lcJ_ok, e_bm, bmJ_ok, s_sti, stiI_ok, stiJ_ok, stiK_ok, nxO_s, s_wh, callD_f, es_nil, es_cons, esI_ok, esJ_ok, pAddI, pSubI, List.getElem?_cons_zero, List.getElem?_cons_succ, List.set_cons_zero, List.set_cons_succ, Bool.not_true, Bool.not_false, pEqI, decide_true, bmI_ok (ok_kind o3), mt, f1]
    · obtain ⟨S4, f1, f2⟩ := key more (by omega) (by omega)
      refine ⟨S4, l ++ [(t, t + long, more)], t + long, more, r3, some (I more), some (I long), ?_, f2, q1, q2, hg.app (by omega) (by omega) (by omega) (by omega), by simp⟩
      simp -implicitDefEqProofs only [s_asg, asg_ok, s_ex, ex_ok, s_ret, ret_ok, s_retN, s_brk, s_cnt, s_pas, s_ite, ite_t, ite_f, s_fo, s_nil, s_cons, sq_nx, sq_rt, sq_bk, sq_ct, sq_ex, tel_nx, tel_rt, tel_ex, e_v, oj_s, e_c, e_g, e_nop, e_one, e_bin, e_cmp, e_idx, two_ok, twoJ_ok, e_and, and_t, and_f, e_or, or_t, or_f, e_ite, iteE_t, iteE_f, e_not, not_b, e_ch2, ch2I_ok, ch2J_ok, ch2K_t, ch2K_f, e_ch3, ch3I_ok, ch3J_ok, ch3K_t, ch3K_f, e_tup, e_lst, e_bi, e_call, lsI_ok, e_dct, dct_ok, ps_nil, ps_cons, psI_ok, psK_ok, e_sl, slI_ok, e_isi, e_lc, lcJ_ok, e_bm, bmJ_ok, s_sti, stiI_ok, stiJ_ok, stiK_ok, nxO_s, s_wh, callD_f, es_nil, es_cons, esI_ok, esJ_ok, pAddI, pSubI, List.getElem?_cons_zero, List.getElem?_cons_succ, List.set_cons_zero, List.set_cons_succ, Bool.not_true, Bool.not_false, pEqI, hw, decide_false, bmI_ok (ok_kind o3), mt, f1]
  cases far with
  | false =>
    obtain ⟨S9, l2, t2, w2, r2, b2, c2, e9, rest⟩ := fin d1 (1 + d2) (r + 1 + 1) S2 o2 (by omega) (by omega) (by omega) (by omega) (by omega) (by omega)
    refine ⟨S9, l2, t2, w2, r2, b2, c2, ?_, rest⟩
    rw [← e9]
    simp -implicitDefEqProofs only [s_cons, s_asg, asg_ok, s_ite, sq_nx, ite_f, s_nil, e_and, and_f, e_v, oj_s, e_c, e_call, es_cons, es_nil, esI_ok, esJ_ok, lsI_ok, callD_f, e_bin, two_ok, twoJ_ok, pAddI, e1, e2, List.getElem?_cons_zero, List.getElem?_cons_succ, List.set_cons_zero, List.set_cons_succ]
  | true =>
    have hF := hF rfl
    obtain ⟨d3, S3, e3, o3, x3, y3⟩ := ok_draw (n := n) (many := 3) o2 (by decide) (by decide) (by omega) (by omega)
    by_cases h3 : 0 < d3
    · obtain ⟨d4, S4, e4, o4, x4, y4⟩ := ok_draw (n := n) (many := 33554432) o3 (by decide) (by decide) (by omega) (by omega)
      obtain ⟨d5, S5, e5, o5, x5, y5⟩ := ok_draw (n := n) (many := 33554432) o4 (by decide) (by decide) (by omega) (by omega)
      have m1 : ∀ S, pBin false .Mult (I d4) (I 29989) S = .ok (I (d4 * 29989)) S := fun S => pMulR (by decide) (by decide)
      have m2 : ∀ S, pBin false .Mult (I d5) (I 300) S = .ok (I (d5 * 300)) S := fun S => pMulR (by decide) (by decide)
      obtain ⟨S9, l2, t2, w2, r2, b2, c2, e9, rest⟩ := fin (d4 * 29989) (1 + d5 * 300) (r + 1 + 1 + 1 + 1 + 1) S5 o5 (by omega) (by omega) (by omega) (by omega) (by omega) (by omega)
      refine ⟨S9, l2, t2, w2, r2, b2, c2, ?_, rest⟩
      rw [← e9]
      simp -implicitDefEqProofs only [s_cons, s_asg, asg_ok, s_ite, sq_nx, ite_f, ite_t, s_nil, e_and, and_f, and_t, e_one, e_cmp, e_v, oj_s, e_c, e_call, es_cons, es_nil, esI_ok, esJ_ok, lsI_ok, callD_f, e_bin, two_ok, twoJ_ok, pAddI, List.getElem?_cons_zero, List.getElem?_cons_succ, List.set_cons_zero, List.set_cons_succ, e1, e2, e3, e4, e5, gt_i, h3, decide_true, m1, m2]
    · obtain ⟨S9, l2, t2, w2, r2, b2, c2, e9, rest⟩ := fin d1 (1 + d2) (r + 1 + 1 + 1) S3 o3 (by omega) (by omega) (by omega) (by omega) (by omega) (by omega)
      refine ⟨S9, l2, t2, w2, r2, b2, c2, ?_, rest⟩
      rw [← e9]
      simp -implicitDefEqProofs only [s_cons, s_asg, asg_ok, s_ite, sq_nx, ite_f, ite_t, s_nil, e_and, and_f, and_t, e_one, e_cmp, e_v, oj_s, e_c, e_call, es_cons, es_nil, esI_ok, esJ_ok, lsI_ok, callD_f, e_bin, two_ok, twoJ_ok, pAddI, List.getElem?_cons_zero, List.getElem?_cons_succ, List.set_cons_zero, List.set_cons_succ, e1, e2, e3, gt_i, h3, decide_false]
theorem r_draught (n : Nat) (start : Int) (ns : List Int) (hl : ns.length ≤ 63) (far : Bool) (B : Int) (hB : 4 ≤ B) (hF : far = true → 17179869184 ≤ B) :
    ∃ (l : List Tri) (t : Int) (S0 : Sto), cal BT PD (n + 3) f__law_draught [.t (.scr ns), I start, .t (.bl far)] [] = .ok (.t (.lst (l.map tr))) S0 ∧ Dg B 0 l t ∧ 1 ≤ l.length ∧ l.length ≤ 20 := by
  rw [r_def (d := ⟨3, 10, b__law_draught⟩) rfl rfl]
  have e1 : ∀ S, pSl (.t (.scr ns)) (some start) none S = .ok (.t (.lst ((cut ns (some start) none).map .int))) S := fun _ => rfl
  obtain ⟨cs, p, q, e2, a1, a2, a3, a4⟩ := r_drawn (n + 1) (cut ns (some start) none) (Nat.le_trans (cut_len _ _ _) hl) 53 (by decide) (by decide)
  have e3 : mkL true [] (st cs p q 0 []) = .ok (.ref 2) (st cs p q 0 [.lst []]) := rfl
  have o0 : Ok 0 [.lst []] (st cs p q 0 [.lst []]) := ⟨cs, p, q, rfl, a1, a2, a3, a4⟩
  obtain ⟨d, S1, e4, o1, x1, y1⟩ := ok_draw (n := n + 1) (many := 20) o0 (by decide) (by decide) (by decide) (by decide)
  have it : ∀ S, itemsOf .rng [I (1 + d)] S = some ((List.range (1 + d).toNat).map fun (i : Nat) => .t (.int (i : Int))) := fun S => by
    have : -(2 ^ 62) ≤ 1 + d ∧ 1 + d < 2 ^ 62 := ⟨by omega, by omega⟩
    simp only [itemsOf, if_pos this]
  obtain ⟨ρ2, S2, e5, l, t, w, r, a, b, c, rfl, o2, b1, b2, b3, b4⟩ := foL_invS (p := .v 7) (b := evSs BT (cal BT PD (n + 1 + 1)) b__law_draught_1) (fun k ρ S => ∃ (l : List Tri) (t w r : Int) (a b c : Option D), ρ = [some (.t (.scr ns)), some (I start), some (.t (.bl far)), some (.ref 1), some (.ref 2), some (I t), some (I w), a, b, c] ∧ Ok r [.lst ((l.map tr).map .t)] S ∧ 0 ≤ r ∧ r ≤ 1 + 5 * k ∧ Dg B 0 l t ∧ l.length = k)
    ((List.range (1 + d).toNat).map fun (i : Nat) => .t (.int (i : Int))) 0 [some (.t (.scr ns)), some (I start), some (.t (.bl far)), some (.ref 1), some (.ref 2), some (I 0), some (I (-1)), none, none, none] S1 ⟨[], 0, -1, 0 + 1, none, none, none, rfl, o1, by decide, by decide, rfl, rfl⟩
    fun i dd ρ S hi hρ => by
      obtain ⟨l, t, w, r, a, b, c, rfl, o, b1, b2, b3, b4⟩ := hρ
      have hi2 : i < (1 + d).toNat := by
        have := (List.getElem?_eq_some_iff.mp hi).1
        simpa using this
      obtain ⟨S2, l2, t2, w2, r2, bb, cc, e, o2, c1, c2, c3, c4⟩ := draught_step (n + 1) ns start far B hB hF l t w r a b c S o b1 (by omega) b3 (by omega) dd
      exact ⟨_, _, S2, rfl, e, l2, t2, w2, r2, _, _, _, rfl, o2, c1, by omega, c3, by omega⟩
  have hlen : l.length = (1 + d).toNat := by rw [b4]; simp
  obtain ⟨cs2, p2, q2, hS2, _⟩ := o2
  refine ⟨l, t, S2.set 2 .dead, ?_, b3, by omega, by omega⟩
  have fz : frz 9 S2 (.ref 2) = some (.lst (l.map tr), S2.set 2 .dead) := frz_lst (by rw [hS2]; rfl)
  have n1 : ∀ ρ S, evE BT (cal BT PD (n + 2)) (.neg (.c (.int 1))) ρ S = .ok (I (-1)) S := fun _ _ => rfl
  have v4 : ∀ S, evE BT (cal BT PD (n + 2)) (.v 4) [some (.t (.scr ns)), some (I start), some (.t (.bl far)), some (.ref 1), some (.ref 2), some (I t), some (I w), a, b, c] S = .ok (.ref 2) S := fun _ => rfl
  simp -implicitDefEqProofs only [b__law_draught, List.map_cons, List.map_nil, List.length_cons, List.length_nil, List.replicate, List.cons_append, List.nil_append, s_asg, asg_ok, s_ex, ex_ok, s_ret, ret_ok, s_retN, s_brk, s_cnt, s_pas, s_ite, ite_t, ite_f, s_fo, s_nil, s_cons, sq_nx, sq_rt, sq_bk, sq_ct, sq_ex, tel_nx, tel_rt, tel_ex, e_v, oj_s, e_c, e_g, e_nop, e_one, e_bin, e_cmp, e_idx, two_ok, twoJ_ok, e_and, and_t, and_f, e_or, or_t, or_f, e_ite, iteE_t, iteE_f, e_not, not_b, e_ch2, ch2I_ok, ch2J_ok, ch2K_t, ch2K_f, e_ch3, ch3I_ok, ch3J_ok, ch3K_t, ch3K_f, e_tup, e_lst, e_bi, e_call, lsI_ok, e_dct, dct_ok, ps_nil, ps_cons, psI_ok, psK_ok, e_sl, slI_ok, e_isi, e_lc, lcJ_ok, e_bm, bmJ_ok, s_sti, stiI_ok, stiJ_ok, stiK_ok, nxO_s, s_wh, callD_f, es_nil, es_cons, esI_ok, esJ_ok, pAddI, pSubI, List.getElem?_cons_zero, List.getElem?_cons_succ, List.set_cons_zero, List.set_cons_succ, Bool.not_true, Bool.not_false, slJ_ok (lo := .v 1) (y := I start) (l := some start) rfl, slK_ok (hi := .nop) (y := .t .non) (h := none) rfl, e1, e2, e3, e4, n1, fo_ok (it _)]
  rw [e5]
  simp -implicitDefEqProofs only [s_asg, asg_ok, s_ex, ex_ok, s_ret, ret_ok, s_retN, s_brk, s_cnt, s_pas, s_ite, ite_t, ite_f, s_fo, s_nil, s_cons, sq_nx, sq_rt, sq_bk, sq_ct, sq_ex, tel_nx, tel_rt, tel_ex, e_v, oj_s, e_c, e_g, e_nop, e_one, e_bin, e_cmp, e_idx, two_ok, twoJ_ok, e_and, and_t, and_f, e_or, or_t, or_f, e_ite, iteE_t, iteE_f, e_not, not_b, e_ch2, ch2I_ok, ch2J_ok, ch2K_t, ch2K_f, e_ch3, ch3I_ok, ch3J_ok, ch3K_t, ch3K_f, e_tup, e_lst, e_bi, e_call, lsI_ok, e_dct, dct_ok, ps_nil, ps_cons, psI_ok, psK_ok, e_sl, slI_ok, e_isi, e_lc, lcJ_ok, e_bm, bmJ_ok, s_sti, stiI_ok, stiJ_ok, stiK_ok, nxO_s, s_wh, callD_f, es_nil, es_cons, esI_ok, esJ_ok, pAddI, pSubI, List.getElem?_cons_zero, List.getElem?_cons_succ, List.set_cons_zero, List.set_cons_succ, Bool.not_true, Bool.not_false, e_frz (v4 _) fz]
def lackF (there more ticks : Int) : Option Int := if 0 ≤ more then none else if ticks ≤ there / (0 - more) then none else some (there / (0 - more))
theorem ge_i (a b : Int) (S : Sto) : pCmp .GtE (I a) (I b) S = .ok (.t (.bl (decide (b ≤ a)))) S := rfl
theorem log_lt {i : Int} (h : -(2 ^ 100) < i) (h2 : i < 2 ^ 100) : i.natAbs.log2 < 9000 := by
  by_cases h0 : i.natAbs = 0
  · rw [h0]; decide
  · rw [Nat.log2_lt h0]
    have : (2 : Nat) ^ 100 ≤ 2 ^ 9000 := Nat.pow_le_pow_right (by decide) (by decide)
    have h3 : i.natAbs < 2 ^ 100 := by omega
    exact Nat.lt_of_lt_of_le h3 this
theorem r_lack (n : Nat) (there more ticks : Int) (h1 : -(2 ^ 99) < more) (h2 : more < 2 ^ 99) (S : Sto) : cal BT PD (n + 1) f_lack_in [I there, I more, I ticks] S = .ok (.t (opT (lackF there more ticks))) S := by
  rw [r_def (d := ⟨3, 3, b_lack_in⟩) rfl rfl]
  unfold lackF
  by_cases c : 0 ≤ more
  · simp -implicitDefEqProofs only [b_lack_in, List.map_cons, List.map_nil, List.length_cons, List.length_nil, List.replicate, List.cons_append, List.nil_append, s_asg, asg_ok, s_ex, ex_ok, s_ret, ret_ok, s_retN, s_brk, s_cnt, s_pas, s_ite, ite_t, ite_f, s_fo, s_nil, s_cons, sq_nx, sq_rt, sq_bk, sq_ct, sq_ex, tel_nx, tel_rt, tel_ex, e_v, oj_s, e_c, e_g, e_nop, e_one, e_bin, e_cmp, e_idx, two_ok, twoJ_ok, e_and, and_t, and_f, e_or, or_t, or_f, e_ite, iteE_t, iteE_f, e_not, not_b, e_ch2, ch2I_ok, ch2J_ok, ch2K_t, ch2K_f, e_ch3, ch3I_ok, ch3J_ok, ch3K_t, ch3K_f, e_tup, e_lst, e_bi, e_call, lsI_ok, e_dct, dct_ok, ps_nil, ps_cons, psI_ok, psK_ok, e_sl, slI_ok, e_isi, e_lc, lcJ_ok, e_bm, bmJ_ok, s_sti, stiI_ok, stiJ_ok, stiK_ok, nxO_s, s_wh, callD_f, es_nil, es_cons, esI_ok, esJ_ok, pAddI, pSubI, List.getElem?_cons_zero, List.getElem?_cons_succ, List.set_cons_zero, List.set_cons_succ, Bool.not_true, Bool.not_false, ge_i, c, decide_true, if_true, opT]
  · have dv : ∀ S, pBin false .FloorDiv (I there) (I (0 - more)) S = .ok (I (there / (0 - more))) S := fun S => by
      have : divOk (0 - more) := ⟨by omega, .inr (log_lt (by omega) (by omega))⟩
      simp only [pBin, if_pos this]
    by_cases c2 : ticks ≤ there / (0 - more)
    · simp -implicitDefEqProofs only [b_lack_in, List.map_cons, List.map_nil, List.length_cons, List.length_nil, List.replicate, List.cons_append, List.nil_append, s_asg, asg_ok, s_ex, ex_ok, s_ret, ret_ok, s_retN, s_brk, s_cnt, s_pas, s_ite, ite_t, ite_f, s_fo, s_nil, s_cons, sq_nx, sq_rt, sq_bk, sq_ct, sq_ex, tel_nx, tel_rt, tel_ex, e_v, oj_s, e_c, e_g, e_nop, e_one, e_bin, e_cmp, e_idx, two_ok, twoJ_ok, e_and, and_t, and_f, e_or, or_t, or_f, e_ite, iteE_t, iteE_f, e_not, not_b, e_ch2, ch2I_ok, ch2J_ok, ch2K_t, ch2K_f, e_ch3, ch3I_ok, ch3J_ok, ch3K_t, ch3K_f, e_tup, e_lst, e_bi, e_call, lsI_ok, e_dct, dct_ok, ps_nil, ps_cons, psI_ok, psK_ok, e_sl, slI_ok, e_isi, e_lc, lcJ_ok, e_bm, bmJ_ok, s_sti, stiI_ok, stiJ_ok, stiK_ok, nxO_s, s_wh, callD_f, es_nil, es_cons, esI_ok, esJ_ok, pAddI, pSubI, List.getElem?_cons_zero, List.getElem?_cons_succ, List.set_cons_zero, List.set_cons_succ, Bool.not_true, Bool.not_false, ge_i, c, c2, dv, decide_true, decide_false, if_true, if_false, opT]
    · simp -implicitDefEqProofs only [b_lack_in, List.map_cons, List.map_nil, List.length_cons, List.length_nil, List.replicate, List.cons_append, List.nil_append, s_asg, asg_ok, s_ex, ex_ok, s_ret, ret_ok, s_retN, s_brk, s_cnt, s_pas, s_ite, ite_t, ite_f, s_fo, s_nil, s_cons, sq_nx, sq_rt, sq_bk, sq_ct, sq_ex, tel_nx, tel_rt, tel_ex, e_v, oj_s, e_c, e_g, e_nop, e_one, e_bin, e_cmp, e_idx, two_ok, twoJ_ok, e_and, and_t, and_f, e_or, or_t, or_f, e_ite, iteE_t, iteE_f, e_not, not_b, e_ch2, ch2I_ok, ch2J_ok, ch2K_t, ch2K_f, e_ch3, ch3I_ok, ch3J_ok, ch3K_t, ch3K_f, e_tup, e_lst, e_bi, e_call, lsI_ok, e_dct, dct_ok, ps_nil, ps_cons, psI_ok, psK_ok, e_sl, slI_ok, e_isi, e_lc, lcJ_ok, e_bm, bmJ_ok, s_sti, stiI_ok, stiJ_ok, stiK_ok, nxO_s, s_wh, callD_f, es_nil, es_cons, esI_ok, esJ_ok, pAddI, pSubI, List.getElem?_cons_zero, List.getElem?_cons_succ, List.set_cons_zero, List.set_cons_succ, Bool.not_true, Bool.not_false, ge_i, c, c2, dv, decide_true, decide_false, if_true, if_false, opT]
def firstF (pump cap : Int) : Int → List Tri → Option Int
  | _, [] => none
  | there, x :: l => match lackF there (pump - x.2.2) (x.2.1 - x.1) with
    | some k => some (x.1 + k)
    | none => firstF pump cap (min cap (there + (pump - x.2.2) * (x.2.1 - x.1))) l
theorem isnot_i (o : Option Int) (S : Sto) : pCmp .IsNot (.t (opT o)) (.t .non) S = .ok (.t (.bl o.isSome)) S := by cases o <;> rfl
theorem min_i (m : Bool) (a b : Int) (S : Sto) : pBi m .min [I a, I b] S = .ok (I (min a b)) S := rfl
theorem set3 (x : Tri) (a b c d e f g h : Option D) : setP (.tup [4, 5, 6]) (.t (tr x)) [a, b, c, d, e, f, g, h] = some [a, b, c, d, some (I x.1), some (I x.2.1), some (I x.2.2), h] := rfl
theorem first_loop (n : Nat) (dr : Option D) (pump cap : Int) {B : Int} (hB : B ≤ 17179869184) (hp : 0 ≤ pump) (hp2 : pump < 2 ^ 90) (S : Sto) : ∀ (l : List Tri) (a t there : Int) (x4 x5 x6 x7 : Option D), Dg B a l t →
    ∃ ρ2, foL (.tup [4, 5, 6]) (evSs BT (cal BT PD (n + 1)) b_first_lack_1) (l.map fun x => .t (tr x)) [dr, some (I pump), some (I cap), some (I there), x4, x5, x6, x7] S = (match firstF pump cap there l with
      | some k => .rt (I k) S
      | none => .nx ρ2 S)
  | [], a, t, there, x4, x5, x6, x7, h => ⟨_, rfl⟩
  | x :: l, a, t, there, x4, x5, x6, x7, ⟨k1, k2, k3, k4, k5, k6⟩ => by
    have hc : ∀ S, callD (cal BT PD (n + 1)) true f_lack_in [I there, I (pump - x.2.2), I (x.2.1 - x.1)] S = .ok (.t (opT (lackF there (pump - x.2.2) (x.2.1 - x.1)))) S := fun S => call3 (r_lack n there _ _ (by omega) (by omega) [])
    have hm : ∀ S, pBin false .Mult (I (pump - x.2.2)) (I (x.2.1 - x.1)) S = .ok (I ((pump - x.2.2) * (x.2.1 - x.1))) S := fun S => pMulR (by omega) (by omega)
    cases e : lackF there (pump - x.2.2) (x.2.1 - x.1) with
    | some k =>
      rw [e] at hc
      have is := isnot_i (some k)
      simp only [opT] at is hc
      refine ⟨[], ?_⟩
      simp only [List.map_cons, foL, set3, firstF, e]
      simp -implicitDefEqProofs only [s_asg, asg_ok, s_ex, ex_ok, s_ret, ret_ok, s_retN, s_brk, s_cnt, s_pas, s_ite, ite_t, ite_f, s_fo, s_nil, s_cons, sq_nx, sq_rt, sq_bk, sq_ct, sq_ex, tel_nx, tel_rt, tel_ex, e_v, oj_s, e_c, e_g, e_nop, e_one, e_bin, e_cmp, e_idx, two_ok, twoJ_ok, e_and, and_t, and_f, e_or, or_t, or_f, e_ite, iteE_t, iteE_f, e_not, not_b, e_ch2, ch2I_ok, ch2J_ok, ch2K_t, ch2K_f, e_ch3, ch3I_ok, ch3J_ok, ch3K_t, ch3K_f, e_tup, e_lst, e_bi, e_call, lsI_ok, e_dct, dct_ok, ps_nil, ps_cons, psI_ok, psK_ok, e_sl, slI_ok, e_isi, e_lc, lcJ_ok, e_bm, bmJ_ok, s_sti, stiI_ok, stiJ_ok, stiK_ok, nxO_s, s_wh, callD_f, es_nil, es_cons, esI_ok, esJ_ok, pAddI, pSubI, List.getElem?_cons_zero, List.getElem?_cons_succ, List.set_cons_zero, List.set_cons_succ, Bool.not_true, Bool.not_false, hc, is, Option.isSome_some]
    | none =>
      rw [e] at hc
      have is := isnot_i none
      simp only [opT] at is hc
      obtain ⟨ρ2, e2⟩ := first_loop n dr pump cap hB hp hp2 S l _ t (min cap (there + (pump - x.2.2) * (x.2.1 - x.1))) (some (I x.1)) (some (I x.2.1)) (some (I x.2.2)) (some (.t .non)) k6
      refine ⟨ρ2, ?_⟩
      simp only [List.map_cons, foL, set3, firstF, e]
      rw [← e2]
      simp -implicitDefEqProofs only [s_asg, asg_ok, s_ex, ex_ok, s_ret, ret_ok, s_retN, s_brk, s_cnt, s_pas, s_ite, ite_t, ite_f, s_fo, s_nil, s_cons, sq_nx, sq_rt, sq_bk, sq_ct, sq_ex, tel_nx, tel_rt, tel_ex, e_v, oj_s, e_c, e_g, e_nop, e_one, e_bin, e_cmp, e_idx, two_ok, twoJ_ok, e_and, and_t, and_f, e_or, or_t, or_f, e_ite, iteE_t, iteE_f, e_not, not_b, e_ch2, ch2I_ok, ch2J_ok, ch2K_t, ch2K_f, e_ch3, ch3I_ok, ch3J_ok, ch3K_t, ch3K_f, e_tup, e_lst, e_bi, e_call, lsI_ok, e_dct, dct_ok, ps_nil, ps_cons, psI_ok, psK_ok, e_sl, slI_ok, e_isi, e_lc, lcJ_ok, e_bm, bmJ_ok, s_sti, stiI_ok, stiJ_ok, stiK_ok, nxO_s, s_wh, callD_f, es_nil, es_cons, esI_ok, esJ_ok, pAddI, pSubI, List.getElem?_cons_zero, List.getElem?_cons_succ, List.set_cons_zero, List.set_cons_succ, Bool.not_true, Bool.not_false, hc, is, Option.isSome_none, hm, min_i]
theorem r_first (n : Nat) (l : List Tri) (pump cap t : Int) {B : Int} (hB : B ≤ 17179869184) (hp : 0 ≤ pump) (hp2 : pump < 2 ^ 90) (h : Dg B 0 l t) (S : Sto) : cal BT PD (n + 2) f_first_lack [.t (.lst (l.map tr)), I pump, I cap] S = .ok (.t (opT (firstF pump cap cap l))) S := by
  rw [r_def (d := ⟨3, 8, b_first_lack⟩) rfl rfl]
  have it : ∀ S, itemsOf .seq [.t (.lst (l.map tr))] S = some (l.map fun x => .t (tr x)) := fun S => by
    show some ((l.map tr).map D.t) = _
    simp [Function.comp_def]
  obtain ⟨ρ2, e⟩ := first_loop n (some (.t (.lst (l.map tr)))) pump cap hB hp hp2 S l 0 t cap none none none none h
  simp -implicitDefEqProofs only [b_first_lack, List.map_cons, List.map_nil, List.length_cons, List.length_nil, List.replicate, List.cons_append, List.nil_append, s_asg, asg_ok, s_ex, ex_ok, s_ret, ret_ok, s_retN, s_brk, s_cnt, s_pas, s_ite, ite_t, ite_f, s_fo, s_nil, s_cons, sq_nx, sq_rt, sq_bk, sq_ct, sq_ex, tel_nx, tel_rt, tel_ex, e_v, oj_s, e_c, e_g, e_nop, e_one, e_bin, e_cmp, e_idx, two_ok, twoJ_ok, e_and, and_t, and_f, e_or, or_t, or_f, e_ite, iteE_t, iteE_f, e_not, not_b, e_ch2, ch2I_ok, ch2J_ok, ch2K_t, ch2K_f, e_ch3, ch3I_ok, ch3J_ok, ch3K_t, ch3K_f, e_tup, e_lst, e_bi, e_call, lsI_ok, e_dct, dct_ok, ps_nil, ps_cons, psI_ok, psK_ok, e_sl, slI_ok, e_isi, e_lc, lcJ_ok, e_bm, bmJ_ok, s_sti, stiI_ok, stiJ_ok, stiK_ok, nxO_s, s_wh, callD_f, es_nil, es_cons, esI_ok, esJ_ok, pAddI, pSubI, List.getElem?_cons_zero, List.getElem?_cons_succ, List.set_cons_zero, List.set_cons_succ, Bool.not_true, Bool.not_false, fo_ok (it _)]
  rw [e]
  cases firstF pump cap cap l with
  | some k => simp -implicitDefEqProofs only [s_asg, asg_ok, s_ex, ex_ok, s_ret, ret_ok, s_retN, s_brk, s_cnt, s_pas, s_ite, ite_t, ite_f, s_fo, s_nil, s_cons, sq_nx, sq_rt, sq_bk, sq_ct, sq_ex, tel_nx, tel_rt, tel_ex, e_v, oj_s, e_c, e_g, e_nop, e_one, e_bin, e_cmp, e_idx, two_ok, twoJ_ok, e_and, and_t, and_f, e_or, or_t, or_f, e_ite, iteE_t, iteE_f, e_not, not_b, e_ch2, ch2I_ok, ch2J_ok, ch2K_t, ch2K_f, e_ch3, ch3I_ok, ch3J_ok, ch3K_t, ch3K_f, e_tup, e_lst, e_bi, e_call, lsI_ok, e_dct, dct_ok, ps_nil, ps_cons, psI_ok, psK_ok, e_sl, slI_ok, e_isi, e_lc, lcJ_ok, e_bm, bmJ_ok, s_sti, stiI_ok, stiJ_ok, stiK_ok, nxO_s, s_wh, callD_f, es_nil, es_cons, esI_ok, esJ_ok, pAddI, pSubI, List.getElem?_cons_zero, List.getElem?_cons_succ, List.set_cons_zero, List.set_cons_succ, Bool.not_true, Bool.not_false, opT]
  | none => simp -implicitDefEqProofs only [s_asg, asg_ok, s_ex, ex_ok, s_ret, ret_ok, s_retN, s_brk, s_cnt, s_pas, s_ite, ite_t, ite_f, s_fo, s_nil, s_cons, sq_nx, sq_rt, sq_bk, sq_ct, sq_ex, tel_nx, tel_rt, tel_ex, e_v, oj_s, e_c, e_g, e_nop, e_one, e_bin, e_cmp, e_idx, two_ok, twoJ_ok, e_and, and_t, and_f, e_or, or_t, or_f, e_ite, iteE_t, iteE_f, e_not, not_b, e_ch2, ch2I_ok, ch2J_ok, ch2K_t, ch2K_f, e_ch3, ch3I_ok, ch3J_ok, ch3K_t, ch3K_f, e_tup, e_lst, e_bi, e_call, lsI_ok, e_dct, dct_ok, ps_nil, ps_cons, psI_ok, psK_ok, e_sl, slI_ok, e_isi, e_lc, lcJ_ok, e_bm, bmJ_ok, s_sti, stiI_ok, stiJ_ok, stiK_ok, nxO_s, s_wh, callD_f, es_nil, es_cons, esI_ok, esJ_ok, pAddI, pSubI, List.getElem?_cons_zero, List.getElem?_cons_succ, List.set_cons_zero, List.set_cons_succ, Bool.not_true, Bool.not_false, opT]
def leftF (pump cap tick : Int) : Int → List Tri → Option Int
  | there, [] => some there
  | there, x :: l => if min x.2.1 (tick + 1) ≤ x.1 then some there else match lackF there (pump - x.2.2) (min x.2.1 (tick + 1) - x.1) with
    | some _ => none
    | none => leftF pump cap tick (min cap (there + (pump - x.2.2) * (min x.2.1 (tick + 1) - x.1))) l
theorem le_i (a b : Int) (S : Sto) : pCmp .LtE (I a) (I b) S = .ok (.t (.bl (decide (a ≤ b)))) S := rfl
theorem set3' (x : Tri) (a b c d e f g h i : Option D) : setP (.tup [5, 6, 7]) (.t (tr x)) [a, b, c, d, e, f, g, h, i] = some [a, b, c, d, e, some (I x.1), some (I x.2.1), some (I x.2.2), i] := rfl
theorem left_loop (n : Nat) (dr : Option D) (pump cap tick : Int) {B : Int} (hB : B ≤ 17179869184) (hp : 0 ≤ pump) (hp2 : pump < 2 ^ 90) (S : Sto) : ∀ (l : List Tri) (a t there : Int) (x5 x6 x7 x8 : Option D), Dg B a l t →
    match leftF pump cap tick there l with
      | some th => ∃ ρ2, foL (.tup [5, 6, 7]) (evSs BT (cal BT PD (n + 1)) b_wind_left_1) (l.map fun x => .t (tr x)) [dr, some (I pump), some (I cap), some (I tick), some (I there), x5, x6, x7, x8] S = .nx ρ2 S ∧ ρ2[4]? = some (some (I th))
      | none => foL (.tup [5, 6, 7]) (evSs BT (cal BT PD (n + 1)) b_wind_left_1) (l.map fun x => .t (tr x)) [dr, some (I pump), some (I cap), some (I tick), some (I there), x5, x6, x7, x8] S = .rt (.t .non) S
  | [], a, t, there, x5, x6, x7, x8, h => ⟨_, rfl, rfl⟩
  | x :: l, a, t, there, x5, x6, x7, x8, ⟨k1, k2, k3, k4, k5, k6⟩ => by
    generalize hlast : min x.2.1 (tick + 1) = last
    have hl1 : last ≤ x.2.1 := by rw [← hlast]; exact Int.min_le_left _ _
    have e0 : ∀ S m, pBi m .min [I x.2.1, I (tick + 1)] S = .ok (I last) S := fun S m => by rw [min_i, hlast]
    by_cases hc0 : last ≤ x.1
    · simp only [leftF, hlast, hc0, if_true]
      refine ⟨[dr, some (I pump), some (I cap), some (I tick), some (I there), some (I x.1), some (I x.2.1), some (I x.2.2), some (I last)], ?_, rfl⟩
      simp only [List.map_cons, foL, set3']
      simp -implicitDefEqProofs only [s_asg, asg_ok, s_ex, ex_ok, s_ret, ret_ok, s_retN, s_brk, s_cnt, s_pas, s_ite, ite_t, ite_f, s_fo, s_nil, s_cons, sq_nx, sq_rt, sq_bk, sq_ct, sq_ex, tel_nx, tel_rt, tel_ex, e_v, oj_s, e_c, e_g, e_nop, e_one, e_bin, e_cmp, e_idx, two_ok, twoJ_ok, e_and, and_t, and_f, e_or, or_t, or_f, e_ite, iteE_t, iteE_f, e_not, not_b, e_ch2, ch2I_ok, ch2J_ok, ch2K_t, ch2K_f, e_ch3, ch3I_ok, ch3J_ok, ch3K_t, ch3K_f, e_tup, e_lst, e_bi, e_call, lsI_ok, e_dct, dct_ok, ps_nil, ps_cons, psI_ok, psK_ok, e_sl, slI_ok, e_isi, e_lc, lcJ_ok, e_bm, bmJ_ok, s_sti, stiI_ok, stiJ_ok, stiK_ok, nxO_s, s_wh, callD_f, es_nil, es_cons, esI_ok, esJ_ok, pAddI, pSubI, List.getElem?_cons_zero, List.getElem?_cons_succ, List.set_cons_zero, List.set_cons_succ, Bool.not_true, Bool.not_false, e0, le_i, hc0, decide_true]
    · have hc : ∀ S, callD (cal BT PD (n + 1)) true f_lack_in [I there, I (pump - x.2.2), I (last - x.1)] S = .ok (.t (opT (lackF there (pump - x.2.2) (last - x.1)))) S := fun S => call3 (r_lack n there _ _ (by omega) (by omega) [])
      have hm : ∀ S, pBin false .Mult (I (pump - x.2.2)) (I (last - x.1)) S = .ok (I ((pump - x.2.2) * (last - x.1))) S := fun S => pMulR (by omega) (by omega)
      cases e : lackF there (pump - x.2.2) (last - x.1) with
      | some k =>
        rw [e] at hc
        have is := isnot_i (some k)
        simp only [opT] at is hc
        simp only [leftF, hlast, hc0, if_false, e]
        simp only [List.map_cons, foL, set3']
        simp -implicitDefEqProofs only [s_asg, asg_ok, s_ex, ex_ok, s_ret, ret_ok, s_retN, s_brk, s_cnt, s_pas, s_ite, ite_t, ite_f, s_fo, s_nil, s_cons, sq_nx, sq_rt, sq_bk, sq_ct, sq_ex, tel_nx, tel_rt, tel_ex, e_v, oj_s, e_c, e_g, e_nop, e_one, e_bin, e_cmp, e_idx, two_ok, twoJ_ok, e_and, and_t, and_f, e_or, or_t, or_f, e_ite, iteE_t, iteE_f, e_not, not_b, e_ch2, ch2I_ok, ch2J_ok, ch2K_t, ch2K_f, e_ch3, ch3I_ok, ch3J_ok, ch3K_t, ch3K_f, e_tup, e_lst, e_bi, e_call, lsI_ok, e_dct, dct_ok, ps_nil, ps_cons, psI_ok, psK_ok, e_sl, slI_ok, e_isi, e_lc, lcJ_ok, e_bm, bmJ_ok, s_sti, stiI_ok, stiJ_ok, stiK_ok, nxO_s, s_wh, callD_f, es_nil, es_cons, esI_ok, esJ_ok, pAddI, pSubI, List.getElem?_cons_zero, List.getElem?_cons_succ, List.set_cons_zero, List.set_cons_succ, Bool.not_true, Bool.not_false, e0, le_i, hc0, decide_false, hc, is, Option.isSome_some]
      | none =>
        rw [e] at hc
        have is := isnot_i none
        simp only [opT] at is hc
        have ih := left_loop n dr pump cap tick hB hp hp2 S l _ t (min cap (there + (pump - x.2.2) * (last - x.1))) (some (I x.1)) (some (I x.2.1)) (some (I x.2.2)) (some (I last)) k6
        have es : foL (.tup [5, 6, 7]) (evSs BT (cal BT PD (n + 1)) b_wind_left_1) ((x :: l).map fun x => .t (tr x)) [dr, some (I pump), some (I cap), some (I tick), some (I there), x5, x6, x7, x8] S =
            foL (.tup [5, 6, 7]) (evSs BT (cal BT PD (n + 1)) b_wind_left_1) (l.map fun x => .t (tr x)) [dr, some (I pump), some (I cap), some (I tick), some (I (min cap (there + (pump - x.2.2) * (last - x.1)))), some (I x.1), some (I x.2.1), some (I x.2.2), some (I last)] S := by
          simp only [List.map_cons, foL, set3']
          simp -implicitDefEqProofs only [s_asg, asg_ok, s_ex, ex_ok, s_ret, ret_ok, s_retN, s_brk, s_cnt, s_pas, s_ite, ite_t, ite_f, s_fo, s_nil, s_cons, sq_nx, sq_rt, sq_bk, sq_ct, sq_ex, tel_nx, tel_rt, tel_ex, e_v, oj_s, e_c, e_g, e_nop, e_one, e_bin, e_cmp, e_idx, two_ok, twoJ_ok, e_and, and_t, and_f, e_or, or_t, or_f, e_ite, iteE_t, iteE_f, e_not, not_b, e_ch2, ch2I_ok, ch2J_ok, ch2K_t, ch2K_f, e_ch3, ch3I_ok, ch3J_ok, ch3K_t, ch3K_f, e_tup, e_lst, e_bi, e_call, lsI_ok, e_dct, dct_ok, ps_nil, ps_cons, psI_ok, psK_ok, e_sl, slI_ok, e_isi, e_lc, lcJ_ok, e_bm, bmJ_ok, s_sti, stiI_ok, stiJ_ok, stiK_ok, nxO_s, s_wh, callD_f, es_nil, es_cons, esI_ok, esJ_ok, pAddI, pSubI, List.getElem?_cons_zero, List.getElem?_cons_succ, List.set_cons_zero, List.set_cons_succ, Bool.not_true, Bool.not_false, e0, le_i, hc0, decide_false, hc, is, Option.isSome_none, hm, min_i]
        simp only [leftF, hlast, hc0, if_false, e]
        rw [es]
        exact ih
theorem r_left (n : Nat) (l : List Tri) (pump cap tick t : Int) {B : Int} (hB : B ≤ 17179869184) (hp : 0 ≤ pump) (hp2 : pump < 2 ^ 90) (h : Dg B 0 l t) (S : Sto) : cal BT PD (n + 2) f_wind_left [.t (.lst (l.map tr)), I pump, I cap, I tick] S = .ok (.t (opT (leftF pump cap tick cap l))) S := by
  rw [r_def (d := ⟨4, 9, b_wind_left⟩) rfl rfl]
  have it : ∀ S, itemsOf .seq [.t (.lst (l.map tr))] S = some (l.map fun x => .t (tr x)) := fun S => by
    show some ((l.map tr).map D.t) = _
    simp [Function.comp_def]
  have q := left_loop n (some (.t (.lst (l.map tr)))) pump cap tick hB hp hp2 S l 0 t cap none none none none h
  simp -implicitDefEqProofs only [b_wind_left, List.map_cons, List.map_nil, List.length_cons, List.length_nil, List.replicate, List.cons_append, List.nil_append, s_asg, asg_ok, s_ex, ex_ok, s_ret, ret_ok, s_retN, s_brk, s_cnt, s_pas, s_ite, ite_t, ite_f, s_fo, s_nil, s_cons, sq_nx, sq_rt, sq_bk, sq_ct, sq_ex, tel_nx, tel_rt, tel_ex, e_v, oj_s, e_c, e_g, e_nop, e_one, e_bin, e_cmp, e_idx, two_ok, twoJ_ok, e_and, and_t, and_f, e_or, or_t, or_f, e_ite, iteE_t, iteE_f, e_not, not_b, e_ch2, ch2I_ok, ch2J_ok, ch2K_t, ch2K_f, e_ch3, ch3I_ok, ch3J_ok, ch3K_t, ch3K_f, e_tup, e_lst, e_bi, e_call, lsI_ok, e_dct, dct_ok, ps_nil, ps_cons, psI_ok, psK_ok, e_sl, slI_ok, e_isi, e_lc, lcJ_ok, e_bm, bmJ_ok, s_sti, stiI_ok, stiJ_ok, stiK_ok, nxO_s, s_wh, callD_f, es_nil, es_cons, esI_ok, esJ_ok, pAddI, pSubI, List.getElem?_cons_zero, List.getElem?_cons_succ, List.set_cons_zero, List.set_cons_succ, Bool.not_true, Bool.not_false, fo_ok (it _)]
  cases e : leftF pump cap tick cap l with
  | some k =>
    rw [e] at q
    obtain ⟨ρ2, e2, e3⟩ := q
    rw [e2]
    simp -implicitDefEqProofs only [s_asg, asg_ok, s_ex, ex_ok, s_ret, ret_ok, s_retN, s_brk, s_cnt, s_pas, s_ite, ite_t, ite_f, s_fo, s_nil, s_cons, sq_nx, sq_rt, sq_bk, sq_ct, sq_ex, tel_nx, tel_rt, tel_ex, e_v, oj_s, e_c, e_g, e_nop, e_one, e_bin, e_cmp, e_idx, two_ok, twoJ_ok, e_and, and_t, and_f, e_or, or_t, or_f, e_ite, iteE_t, iteE_f, e_not, not_b, e_ch2, ch2I_ok, ch2J_ok, ch2K_t, ch2K_f, e_ch3, ch3I_ok, ch3J_ok, ch3K_t, ch3K_f, e_tup, e_lst, e_bi, e_call, lsI_ok, e_dct, dct_ok, ps_nil, ps_cons, psI_ok, psK_ok, e_sl, slI_ok, e_isi, e_lc, lcJ_ok, e_bm, bmJ_ok, s_sti, stiI_ok, stiJ_ok, stiK_ok, nxO_s, s_wh, callD_f, es_nil, es_cons, esI_ok, esJ_ok, pAddI, pSubI, List.getElem?_cons_zero, List.getElem?_cons_succ, List.set_cons_zero, List.set_cons_succ, Bool.not_true, Bool.not_false, e3, opT]
  | none =>
    rw [e] at q
    simp only at q
    rw [q]
    simp -implicitDefEqProofs only [s_asg, asg_ok, s_ex, ex_ok, s_ret, ret_ok, s_retN, s_brk, s_cnt, s_pas, s_ite, ite_t, ite_f, s_fo, s_nil, s_cons, sq_nx, sq_rt, sq_bk, sq_ct, sq_ex, tel_nx, tel_rt, tel_ex, e_v, oj_s, e_c, e_g, e_nop, e_one, e_bin, e_cmp, e_idx, two_ok, twoJ_ok, e_and, and_t, and_f, e_or, or_t, or_f, e_ite, iteE_t, iteE_f, e_not, not_b, e_ch2, ch2I_ok, ch2J_ok, ch2K_t, ch2K_f, e_ch3, ch3I_ok, ch3J_ok, ch3K_t, ch3K_f, e_tup, e_lst, e_bi, e_call, lsI_ok, e_dct, dct_ok, ps_nil, ps_cons, psI_ok, psK_ok, e_sl, slI_ok, e_isi, e_lc, lcJ_ok, e_bm, bmJ_ok, s_sti, stiI_ok, stiJ_ok, stiK_ok, nxO_s, s_wh, callD_f, es_nil, es_cons, esI_ok, esJ_ok, pAddI, pSubI, List.getElem?_cons_zero, List.getElem?_cons_succ, List.set_cons_zero, List.set_cons_succ, Bool.not_true, Bool.not_false, opT]
def tickF (pump cap w : Int) : Option Int → Option Int
  | none => none
  | some th => if min cap (th + pump - w) < 0 then none else some (min cap (th + pump - w))
def stepN (pump cap w : Int) : Nat → Option Int → Option Int
  | 0, o => o
  | k + 1, o => stepN pump cap w k (tickF pump cap w o)
def outN (pump cap w : Int) : Nat → Option Int → List (Option Int)
  | 0, _ => []
  | k + 1, o => tickF pump cap w o :: outN pump cap w k (tickF pump cap w o)
def reckF (pump cap : Int) : Option Int → List Tri → List (Option Int)
  | _, [] => []
  | o, x :: l => outN pump cap x.2.2 (x.2.1 - x.1).toNat o ++ reckF pump cap (stepN pump cap x.2.2 (x.2.1 - x.1).toNat o) l
theorem outN_len (pump cap w : Int) : ∀ (k : Nat) (o : Option Int), (outN pump cap w k o).length = k
  | 0, _ => rfl
  | k + 1, o => by simp [outN, outN_len pump cap w k]
theorem r_whole (n : Nat) (x : T) (S : Sto) (b : Bool) (h : (x = .non ∧ b = false) ∨ ∃ i, x = .int i ∧ b = true) : cal BT PD (n + 1) f__law_whole [.t x] S = .ok (.t (.bl b)) S := by
  rcases h with ⟨rfl, rfl⟩ | ⟨i, rfl, rfl⟩ <;> rfl
theorem r_cell (n : Nat) (ns : List Int) (k : Nat) (S : Sto) : ∃ c : Int, cal BT PD (n + 1) f__law_cell_at [.t (.scr ns), I k] S = .ok (I c) S := by
  rw [r_def (d := ⟨2, 2, b__law_cell_at⟩) rfl rfl]
  have e2 : ∀ S, pBi false .len [.t (.scr ns)] S = .ok (.t (.int ns.length)) S := fun _ => rfl
  by_cases h : (k : Int) < ns.length
  · obtain ⟨c, hc, _⟩ := ixAt_in (xs := ns) (i := k) (by omega) h
    have e3 : ∀ S, pIdx (.t (.scr ns)) (I k) S = .ok (I c) S := fun S => by
      show opt ((ixAt ns k).map fun n => .t (.int n)) S = _
      rw [hc]; rfl
    exact ⟨c, by simp -implicitDefEqProofs only [b__law_cell_at, List.map_cons, List.map_nil, List.length_cons, List.length_nil, List.replicate, List.cons_append, List.nil_append, s_asg, asg_ok, s_ex, ex_ok, s_ret, ret_ok, s_retN, s_brk, s_cnt, s_pas, s_ite, ite_t, ite_f, s_fo, s_nil, s_cons, sq_nx, sq_rt, sq_bk, sq_ct, sq_ex, tel_nx, tel_rt, tel_ex, e_v, oj_s, e_c, e_g, e_nop, e_one, e_bin, e_cmp, e_idx, two_ok, twoJ_ok, e_and, and_t, and_f, e_or, or_t, or_f, e_ite, iteE_t, iteE_f, e_not, not_b, e_ch2, ch2I_ok, ch2J_ok, ch2K_t, ch2K_f, e_ch3, ch3I_ok, ch3J_ok, ch3K_t, ch3K_f, e_tup, e_lst, e_bi, e_call, lsI_ok, e_dct, dct_ok, ps_nil, ps_cons, psI_ok, psK_ok, e_sl, slI_ok, e_isi, e_lc, lcJ_ok, e_bm, bmJ_ok, s_sti, stiI_ok, stiJ_ok, stiK_ok, nxO_s, s_wh, callD_f, es_nil, es_cons, esI_ok, esJ_ok, pAddI, pSubI, List.getElem?_cons_zero, List.getElem?_cons_succ, List.set_cons_zero, List.set_cons_succ, Bool.not_true, Bool.not_false, e2, lt_i, h, decide_true, e3]⟩
  · exact ⟨0, by simp -implicitDefEqProofs only [b__law_cell_at, List.map_cons, List.map_nil, List.length_cons, List.length_nil, List.replicate, List.cons_append, List.nil_append, s_asg, asg_ok, s_ex, ex_ok, s_ret, ret_ok, s_retN, s_brk, s_cnt, s_pas, s_ite, ite_t, ite_f, s_fo, s_nil, s_cons, sq_nx, sq_rt, sq_bk, sq_ct, sq_ex, tel_nx, tel_rt, tel_ex, e_v, oj_s, e_c, e_g, e_nop, e_one, e_bin, e_cmp, e_idx, two_ok, twoJ_ok, e_and, and_t, and_f, e_or, or_t, or_f, e_ite, iteE_t, iteE_f, e_not, not_b, e_ch2, ch2I_ok, ch2J_ok, ch2K_t, ch2K_f, e_ch3, ch3I_ok, ch3J_ok, ch3K_t, ch3K_f, e_tup, e_lst, e_bi, e_call, lsI_ok, e_dct, dct_ok, ps_nil, ps_cons, psI_ok, psK_ok, e_sl, slI_ok, e_isi, e_lc, lcJ_ok, e_bm, bmJ_ok, s_sti, stiI_ok, stiJ_ok, stiK_ok, nxO_s, s_wh, callD_f, es_nil, es_cons, esI_ok, esJ_ok, pAddI, pSubI, List.getElem?_cons_zero, List.getElem?_cons_succ, List.set_cons_zero, List.set_cons_succ, Bool.not_true, Bool.not_false, e2, lt_i, h, decide_false]⟩
theorem stepN_none (pump cap w : Int) : ∀ k, stepN pump cap w k none = none
  | 0 => rfl
  | k + 1 => stepN_none pump cap w k
theorem lackF_iff {th m : Int} {k : Int} (hm : m < 0) : lackF th m k = none ↔ 0 ≤ th + m * k := by
  unfold lackF
  rw [if_neg (by omega)]
  have h1 : (k ≤ th / (0 - m)) ↔ k * (0 - m) ≤ th := Int.le_ediv_iff_mul_le (by omega)
  have h2 : k * (0 - m) = - (m * k) := by rw [Int.zero_sub, Int.mul_neg, Int.mul_comm]
  rw [h2] at h1
  by_cases c : k ≤ th / (0 - m)
  · rw [if_pos c]; simp; have := h1.mp c; omega
  · rw [if_neg c]; simp; have : ¬ (-(m * k) ≤ th) := fun h => c (h1.mpr h); omega
theorem stepN_up (pump cap w : Int) (hm : w ≤ pump) (hc : 0 ≤ cap) : ∀ (k : Nat) (th : Int), 0 ≤ th → th ≤ cap → stepN pump cap w k (some th) = some (min cap (th + (pump - w) * k))
  | 0, th, h0, h1 => by simp [stepN]; omega
  | k + 1, th, h0, h1 => by
    have e : tickF pump cap w (some th) = some (min cap (th + pump - w)) := by
      have : ¬ (min cap (th + pump - w) < 0) := by omega
      simp only [tickF, if_neg this]
    rw [stepN, e, stepN_up pump cap w hm hc k _ (by omega) (by omega)]
    have h2 : (pump - w) * ((k + 1 : Nat) : Int) = (pump - w) * k + (pump - w) := by rw [Int.natCast_add, Int.mul_add]; simp
    have h3 : 0 ≤ (pump - w) * (k : Int) := Int.mul_nonneg (by omega) (by omega)
    rw [h2]
    congr 1
    omega
theorem stepN_down (pump cap w : Int) (hm : pump < w) (hc : 0 ≤ cap) : ∀ (k : Nat) (th : Int), 0 ≤ th → th ≤ cap → stepN pump cap w k (some th) = if 0 ≤ th + (pump - w) * k then some (th + (pump - w) * k) else none
  | 0, th, h0, h1 => by simp [stepN]; omega
  | k + 1, th, h0, h1 => by
    have h2 : (pump - w) * ((k + 1 : Nat) : Int) = (pump - w) * k + (pump - w) := by rw [Int.natCast_add, Int.mul_add]; simp
    have h3 : (pump - w) * (k : Int) ≤ 0 := Int.mul_nonpos_of_nonpos_of_nonneg (by omega) (by omega)
    by_cases c : min cap (th + pump - w) < 0
    · have e : tickF pump cap w (some th) = none := by simp only [tickF, if_pos c]
      rw [stepN, e, stepN_none, if_neg (by rw [h2]; omega)]
    · have e : tickF pump cap w (some th) = some (th + pump - w) := by
        simp only [tickF, if_neg c]; congr 1; omega
      rw [stepN, e, stepN_down pump cap w hm hc k _ (by omega) (by omega), h2]
      have : th + pump - w + (pump - w) * (k : Int) = th + ((pump - w) * k + (pump - w)) := by omega
      rw [this]
theorem outN_get (pump cap w : Int) : ∀ (k : Nat) (o : Option Int) (j : Nat), j < k → (outN pump cap w k o)[j]? = some (stepN pump cap w (j + 1) o)
  | 0, _, _, h => by omega
  | k + 1, o, 0, _ => rfl
  | k + 1, o, j + 1, h => by
    show (outN pump cap w k (tickF pump cap w o))[j]? = _
    rw [outN_get pump cap w k _ j (by omega)]
    rfl
theorem left_stop (pump cap tick th : Int) {B : Int} : ∀ (l : List Tri) (a t : Int), Dg B a l t → tick + 1 ≤ a → leftF pump cap tick th l = some th
  | [], _, _, _, _ => rfl
  | x :: l, a, t, ⟨k1, k2, k3, k4, k5, k6⟩, h => by
    have : min x.2.1 (tick + 1) ≤ x.1 := by omega
    simp only [leftF, if_pos this]
theorem lackF_up {th m k : Int} (h : 0 ≤ m) : lackF th m k = none := by unfold lackF; rw [if_pos h]
/-- a whole stretch, tick by tick -/
theorem stepN_lack (pump cap w : Int) (hc : 0 ≤ cap) (k : Nat) (th : Int) (h0 : 0 ≤ th) (h1 : th ≤ cap) :
    stepN pump cap w k (some th) = match lackF th (pump - w) k with | some _ => none | none => some (min cap (th + (pump - w) * k)) := by
  by_cases hm : w ≤ pump
  · rw [lackF_up (by omega), stepN_up pump cap w hm hc k th h0 h1]
  · have hm : pump < w := by omega
    rw [stepN_down pump cap w hm hc k th h0 h1]
    have h3 : (pump - w) * (k : Int) ≤ 0 := Int.mul_nonpos_of_nonpos_of_nonneg (by omega) (by omega)
    have hi := lackF_iff (th := th) (m := pump - w) (k := k) (by omega)
    cases e : lackF th (pump - w) k with
    | none => rw [if_pos (hi.mp e)]; simp only; congr 1; omega
    | some q =>
      rw [if_neg]; intro h; rw [hi.mpr h] at e; cases e
theorem stepN_bd (pump cap w : Int) (hc : 0 ≤ cap) (k : Nat) (th : Int) (h0 : 0 ≤ th) (h1 : th ≤ cap) (th2 : Int) (e : stepN pump cap w k (some th) = some th2) : 0 ≤ th2 ∧ th2 ≤ cap := by
  by_cases hm : w ≤ pump
  · rw [stepN_up pump cap w hm hc k th h0 h1] at e
    have h3 : 0 ≤ (pump - w) * (k : Int) := Int.mul_nonneg (by omega) (by omega)
    cases e; omega
  · have hm : pump < w := by omega
    rw [stepN_down pump cap w hm hc k th h0 h1] at e
    have h3 : (pump - w) * (k : Int) ≤ 0 := Int.mul_nonpos_of_nonpos_of_nonneg (by omega) (by omega)
    split at e
    · cases e; omega
    · cases e
theorem reckF_none (pump cap : Int) : ∀ (l : List Tri) (j : Nat) (o : Option Int), (reckF pump cap none l)[j]? = some o → o = none
  | [], j, o, h => by simp [reckF] at h
  | x :: l, j, o, h => by
    rw [reckF, stepN_none] at h
    by_cases hj : j < (x.2.1 - x.1).toNat
    · rw [List.getElem?_append_left (by rw [outN_len]; exact hj), outN_get _ _ _ _ _ _ hj, stepN_none] at h
      cases h; rfl
    · rw [List.getElem?_append_right (by rw [outN_len]; omega)] at h
      exact reckF_none pump cap l _ _ h
theorem reck_left (pump cap : Int) (hc : 0 ≤ cap) {B : Int} : ∀ (l : List Tri) (a t th : Int) (j : Nat) (o : Option Int), Dg B a l t → 0 ≤ th → th ≤ cap →
    (reckF pump cap (some th) l)[j]? = some o → leftF pump cap (a + j) th l = o
  | [], a, t, th, j, o, _, _, _, h => by simp [reckF] at h
  | x :: l, a, t, th, j, o, ⟨k1, k2, k3, k4, k5, k6⟩, h0, h1, h => by
    rw [reckF] at h
    by_cases hj : j < (x.2.1 - x.1).toNat
    · rw [List.getElem?_append_left (by rw [outN_len]; exact hj), outN_get _ _ _ _ _ _ hj, stepN_lack _ _ _ hc _ _ h0 h1] at h
      have e1 : min x.2.1 (a + j + 1) = a + j + 1 := by omega
      have e2 : a + (j : Int) + 1 - x.1 = ((j + 1 : Nat) : Int) := by omega
      have e3 : ¬ (a + (j : Int) + 1 ≤ x.1) := by omega
      simp only [leftF, e1, if_neg e3, e2]
      have hs := left_stop pump cap (a + j) (min cap (th + (pump - x.2.2) * ((j + 1 : Nat) : Int))) l _ t k6 (by omega)
      rw [hs]
      cases e : lackF th (pump - x.2.2) ((j + 1 : Nat) : Int) with
      | some q => rw [e] at h; cases h; rfl
      | none => rw [e] at h; cases h; rfl
    · rw [List.getElem?_append_right (by rw [outN_len]; omega), outN_len] at h
      have e1 : min x.2.1 (a + j + 1) = x.2.1 := by omega
      have e2 : x.2.1 - x.1 = (((x.2.1 - x.1).toNat : Nat) : Int) := by omega
      have e3 : ¬ (x.2.1 ≤ x.1) := by omega
      have e4 := stepN_lack pump cap x.2.2 hc (x.2.1 - x.1).toNat th h0 h1
      rw [← e2] at e4
      simp only [leftF, e1, if_neg e3]
      cases e : lackF th (pump - x.2.2) (x.2.1 - x.1) with
      | some q =>
        rw [e] at e4
        rw [e4] at h
        simp only
        exact (reckF_none _ _ _ _ _ h).symm
      | none =>
        rw [e] at e4
        simp only at e4
        have hb := stepN_bd pump cap x.2.2 hc _ th h0 h1 _ e4
        rw [e4] at h
        have ih := reck_left pump cap hc l x.2.1 t _ (j - (x.2.1 - x.1).toNat) o k6 hb.1 hb.2 h
        have e5 : x.2.1 + ((j - (x.2.1 - x.1).toNat : Nat) : Int) = a + j := by omega
        rw [e5] at ih
        exact ih
theorem lackF_some {th m : Int} {k : Int} (hm : m < 0) (h0 : 0 ≤ th) {q : Int} (e : lackF th m k = some q) : 0 ≤ q ∧ q < k ∧ 0 ≤ th + m * q ∧ th + m * (q + 1) < 0 := by
  unfold lackF at e
  rw [if_neg (by omega)] at e
  split at e
  · cases e
  · rename_i c
    cases e
    have a1 : 0 ≤ th / (0 - m) := Int.ediv_nonneg h0 (by omega)
    have a2 := Int.emod_add_mul_ediv th (0 - m)
    have a3 := Int.emod_nonneg th (show (0 - m) ≠ 0 by omega)
    have a4 := Int.emod_lt_of_pos th (show 0 < 0 - m by omega)
    generalize th / (0 - m) = q at *
    have e1 : (0 - m) * q = - (m * q) := by rw [Int.zero_sub, Int.neg_mul]
    rw [e1] at a2
    have e2 : m * (q + 1) = m * q + m := by rw [Int.mul_add]; simp
    omega
/-- the first None -/
def firstN : List (Option Int) → Option Nat
  | [] => none
  | none :: _ => some 0
  | some _ :: l => (firstN l).map (· + 1)
theorem firstN_app : ∀ (l m : List (Option Int)), firstN (l ++ m) = match firstN l with | some j => some j | none => (firstN m).map (· + l.length)
  | [], m => by cases h : firstN m <;> simp [firstN, h]
  | none :: l, m => rfl
  | some i :: l, m => by
    simp only [List.cons_append, firstN, firstN_app l m]
    cases firstN l <;> cases firstN m <;> simp [Nat.add_assoc, Nat.add_comm]
theorem firstN_out (pump cap w : Int) (hc : 0 ≤ cap) : ∀ (k : Nat) (th : Int), 0 ≤ th → th ≤ cap →
    firstN (outN pump cap w k (some th)) = (lackF th (pump - w) k).map Int.toNat
  | 0, th, h0, h1 => by
    by_cases hm : 0 ≤ pump - w
    · simp [outN, firstN, lackF_up hm]
    · have : lackF th (pump - w) ((0 : Nat) : Int) = none := (lackF_iff (by omega)).mpr (by simp; omega)
      rw [this]; rfl
  | k + 1, th, h0, h1 => by
    rw [outN]
    have es := stepN_lack pump cap w hc 1 th h0 h1
    have e1 : stepN pump cap w 1 (some th) = tickF pump cap w (some th) := rfl
    rw [e1] at es
    by_cases hm : 0 ≤ pump - w
    · rw [lackF_up hm] at es ⊢
      simp only at es
      have hb := stepN_bd pump cap w hc 1 th h0 h1 _ es
      rw [es, firstN, firstN_out pump cap w hc k _ hb.1 hb.2, lackF_up hm]
      rfl
    · have hm : pump - w < 0 := by omega
      have h2 : (pump - w) * ((k + 1 : Nat) : Int) = (pump - w) * k + (pump - w) := by rw [Int.natCast_add, Int.mul_add]; simp
      cases e2 : lackF th (pump - w) ((1 : Nat) : Int) with
      | some q =>
        rw [e2] at es
        have hq := lackF_some hm h0 e2
        have hq0 : q = 0 := by omega
        subst hq0
        rw [es, firstN]
        have : lackF th (pump - w) ((k + 1 : Nat) : Int) = some 0 := by
          unfold lackF at e2 ⊢
          rw [if_neg (by omega)] at e2 ⊢
          split at e2
          · cases e2
          · rename_i c
            rw [if_neg (by omega)]
            exact e2
        rw [this]; rfl
      | none =>
        rw [e2] at es
        simp only at es
        have hb := stepN_bd pump cap w hc 1 th h0 h1 _ es
        have hi := (lackF_iff (th := th) hm).mp e2
        have e3 : min cap (th + (pump - w) * ((1 : Nat) : Int)) = th + (pump - w) := by simp at hi ⊢; omega
        rw [e3] at es hb
        rw [es, firstN, firstN_out pump cap w hc k _ hb.1 hb.2]
        have key : ∀ kk : Int, lackF th (pump - w) (kk + 1) = (lackF (th + (pump - w)) (pump - w) kk).map (· + 1) := fun kk => by
          have e4 : (th + (pump - w)) / (0 - (pump - w)) = th / (0 - (pump - w)) - 1 := by
            have : th + (pump - w) = th + (-1) * (0 - (pump - w)) := by omega
            rw [this, Int.add_mul_ediv_right _ _ (by omega)]
            omega
          unfold lackF
          rw [if_neg (by omega), e4]
          split
          · rw [if_pos (by omega)]; rfl
          · rw [if_neg (by omega)]; simp
        have := key k
        rw [show ((k : Int) + 1) = ((k + 1 : Nat) : Int) by omega] at this
        rw [this]
        cases e5 : lackF (th + (pump - w)) (pump - w) k with
        | none => rfl
        | some q =>
          have := (lackF_some hm hb.1 e5).1
          simp; omega
theorem reck_first (pump cap : Int) (hc : 0 ≤ cap) {B : Int} : ∀ (l : List Tri) (a t th : Int), Dg B a l t → 0 ≤ th → th ≤ cap →
    firstF pump cap th l = (firstN (reckF pump cap (some th) l)).map fun (j : Nat) => a + (j : Int)
  | [], a, t, th, _, _, _ => rfl
  | x :: l, a, t, th, ⟨k1, k2, k3, k4, k5, k6⟩, h0, h1 => by
    rw [reckF, firstN_app, firstN_out _ _ _ hc _ _ h0 h1, outN_len]
    have e2 : (((x.2.1 - x.1).toNat : Nat) : Int) = x.2.1 - x.1 := by omega
    have e4 := stepN_lack pump cap x.2.2 hc (x.2.1 - x.1).toNat th h0 h1
    rw [e2] at e4 ⊢
    rw [firstF]
    cases e : lackF th (pump - x.2.2) (x.2.1 - x.1) with
    | some q =>
      have hq : 0 ≤ q := by
        by_cases hm : 0 ≤ pump - x.2.2
        · rw [lackF_up hm] at e; cases e
        · exact (lackF_some (by omega) h0 e).1
      simp; omega
    | none =>
      rw [e] at e4
      simp only at e4
      have hb := stepN_bd pump cap x.2.2 hc _ th h0 h1 _ e4
      rw [e4]
      simp only [Option.map_none]
      rw [reck_first pump cap hc l x.2.1 t _ k6 hb.1 hb.2]
      cases firstN (reckF pump cap (some (min cap (th + (pump - x.2.2) * (x.2.1 - x.1)))) l) with
      | none => rfl
      | some j => simp; omega

def leastF (pump : Int) : Tri → Int → Int → List Tri → Tri
  | best, _, _, [] => best
  | best, need, stt, x :: l =>
    leastF pump (if best.1 < max 0 (need + (x.2.2 - pump) * (x.2.1 - x.1)) then (max 0 (need + (x.2.2 - pump) * (x.2.1 - x.1)), if need = 0 then x.1 else stt, x.2.1) else best)
      (max 0 (need + (x.2.2 - pump) * (x.2.1 - x.1))) (if need = 0 then x.1 else stt) l
theorem set3c (x : Tri) (a b c d e f g h : Option D) : setP (.tup [5, 6, 7]) (.t (tr x)) [a, b, c, d, e, f, g, h] = some [a, b, c, d, e, some (I x.1), some (I x.2.1), some (I x.2.2)] := rfl
theorem ix_tr0 (x : Tri) (S : Sto) : pIdx (.t (tr x)) (I 0) S = .ok (I x.1) S := rfl
theorem ix_tr1 (x : Tri) (S : Sto) : pIdx (.t (tr x)) (I 1) S = .ok (I x.2.1) S := rfl
theorem ix_tr2 (x : Tri) (S : Sto) : pIdx (.t (tr x)) (I 2) S = .ok (I x.2.2) S := rfl
theorem mkT_tr (a b c : Int) (S : Sto) : mkT [I a, I b, I c] S = .ok (.t (tr (a, b, c))) S := rfl
theorem least_loop (n : Nat) (dr : Option D) (pump : Int) {B : Int} (hB : B ≤ 17179869184) (S : Sto) : ∀ (l : List Tri) (a t : Int) (best : Tri) (need stt : Int) (x5 x6 x7 : Option D), Dg B a l t →
    ∃ ρ2, foL (.tup [5, 6, 7]) (evSs BT (cal BT PD n) b_least_cap_1) (l.map fun x => .t (tr x)) [dr, some (I pump), some (.t (tr best)), some (I need), some (I stt), x5, x6, x7] S = .nx ρ2 S ∧ ρ2[2]? = some (some (.t (tr (leastF pump best need stt l))))
  | [], a, t, best, need, stt, x5, x6, x7, h => ⟨_, rfl, rfl⟩
  | x :: l, a, t, best, need, stt, x5, x6, x7, ⟨k1, k2, k3, k4, k5, k6⟩ => by
    have hm : ∀ S, pBin false .Mult (I (x.2.2 - pump)) (I (x.2.1 - x.1)) S = .ok (I ((x.2.2 - pump) * (x.2.1 - x.1))) S := fun S => pMulR (by omega) (by omega)
    generalize hn : max 0 (need + (x.2.2 - pump) * (x.2.1 - x.1)) = need2
    have e0 : ∀ S m, pBi m .max [I 0, I (need + (x.2.2 - pump) * (x.2.1 - x.1))] S = .ok (I need2) S := fun S m => by rw [pMax, hn]
    generalize hs : (if need = 0 then x.1 else stt) = stt2
    generalize hb : (if best.1 < need2 then (need2, stt2, x.2.1) else best) = best2
    obtain ⟨ρ2, e, e2⟩ := least_loop n dr pump hB S l _ t best2 need2 stt2 (some (I x.1)) (some (I x.2.1)) (some (I x.2.2)) k6
    refine ⟨ρ2, ?_, by simp only [leastF, hn, hs, hb]; exact e2⟩
    simp only [List.map_cons, foL, set3c]
    rw [← e]
    by_cases c1 : need = 0
    · rw [if_pos c1] at hs
      subst hs
      by_cases c2 : best.1 < need2
      · rw [if_pos c2] at hb
        subst hb
        simp -implicitDefEqProofs only [s_asg, asg_ok, s_ex, ex_ok, s_ret, ret_ok, s_retN, s_brk, s_cnt, s_pas, s_ite, ite_t, ite_f, s_fo, s_nil, s_cons, sq_nx, sq_rt, sq_bk, sq_ct, sq_ex, tel_nx, tel_rt, tel_ex, e_v, oj_s, e_c, e_g, e_nop, e_one, e_bin, e_cmp, e_idx, two_ok, twoJ_ok, e_and, and_t, and_f, e_or, or_t, or_f, e_ite, iteE_t, iteE_f, e_not, not_b, e_ch2, ch2I_ok, ch2J_ok, ch2K_t, ch2K_f, e_ch3, ch3I_ok, ch3J_ok, ch3K_t, ch3K_f, e_tup, e_lst, e_bi, e_call, lsI_ok, e_dct, dct_ok, ps_nil, ps_cons, psI_ok, psK_ok, e_sl, slI_ok, e_isi, e_lc, lcJ_ok, e_bm, bmJ_ok, s_sti, stiI_ok, stiJ_ok, stiK_ok, nxO_s, s_wh, callD_f, es_nil, es_cons, esI_ok, esJ_ok, pAddI, pSubI, List.getElem?_cons_zero, List.getElem?_cons_succ, List.set_cons_zero, List.set_cons_succ, Bool.not_true, Bool.not_false, pEqI, decide_eq_true c1, decide_true, hm, e0, ix_tr0, pGt, c2, mkT_tr]
      · rw [if_neg c2] at hb
        subst hb
        simp -implicitDefEqProofs only [s_asg, asg_ok, s_ex, ex_ok, s_ret, ret_ok, s_retN, s_brk, s_cnt, s_pas, s_ite, ite_t, ite_f, s_fo, s_nil, s_cons, sq_nx, sq_rt, sq_bk, sq_ct, sq_ex, tel_nx, tel_rt, tel_ex, e_v, oj_s, e_c, e_g, e_nop, e_one, e_bin, e_cmp, e_idx, two_ok, twoJ_ok, e_and, and_t, and_f, e_or, or_t, or_f, e_ite, iteE_t, iteE_f, e_not, not_b, e_ch2, ch2I_ok, ch2J_ok, ch2K_t, ch2K_f, e_ch3, ch3I_ok, ch3J_ok, ch3K_t, ch3K_f, e_tup, e_lst, e_bi, e_call, lsI_ok, e_dct, dct_ok, ps_nil, ps_cons, psI_ok, psK_ok, e_sl, slI_ok, e_isi, e_lc, lcJ_ok, e_bm, bmJ_ok, s_sti, stiI_ok, stiJ_ok, stiK_ok, nxO_s, s_wh, callD_f, es_nil, es_cons, esI_ok, esJ_ok, pAddI, pSubI, List.getElem?_cons_zero, List.getElem?_cons_succ, List.set_cons_zero, List.set_cons_succ, Bool.not_true, Bool.not_false, pEqI, decide_eq_true c1, decide_true, hm, e0, ix_tr0, pGt, c2, decide_false, mkT_tr]
    · rw [if_neg c1] at hs
      subst hs
      by_cases c2 : best.1 < need2
      · rw [if_pos c2] at hb
        subst hb
        simp -implicitDefEqProofs only [s_asg, asg_ok, s_ex, ex_ok, s_ret, ret_ok, s_retN, s_brk, s_cnt, s_pas, s_ite, ite_t, ite_f, s_fo, s_nil, s_cons, sq_nx, sq_rt, sq_bk, sq_ct, sq_ex, tel_nx, tel_rt, tel_ex, e_v, oj_s, e_c, e_g, e_nop, e_one, e_bin, e_cmp, e_idx, two_ok, twoJ_ok, e_and, and_t, and_f, e_or, or_t, or_f, e_ite, iteE_t, iteE_f, e_not, not_b, e_ch2, ch2I_ok, ch2J_ok, ch2K_t, ch2K_f, e_ch3, ch3I_ok, ch3J_ok, ch3K_t, ch3K_f, e_tup, e_lst, e_bi, e_call, lsI_ok, e_dct, dct_ok, ps_nil, ps_cons, psI_ok, psK_ok, e_sl, slI_ok, e_isi, e_lc, lcJ_ok, e_bm, bmJ_ok, s_sti, stiI_ok, stiJ_ok, stiK_ok, nxO_s, s_wh, callD_f, es_nil, es_cons, esI_ok, esJ_ok, pAddI, pSubI, List.getElem?_cons_zero, List.getElem?_cons_succ, List.set_cons_zero, List.set_cons_succ, Bool.not_true, Bool.not_false, pEqI, c1, decide_true, decide_false, hm, e0, ix_tr0, pGt, c2, mkT_tr]
      · rw [if_neg c2] at hb
        subst hb
        simp -implicitDefEqProofs only [s_asg, asg_ok, s_ex, ex_ok, s_ret, ret_ok, s_retN, s_brk, s_cnt, s_pas, s_ite, ite_t, ite_f, s_fo, s_nil, s_cons, sq_nx, sq_rt, sq_bk, sq_ct, sq_ex, tel_nx, tel_rt, tel_ex, e_v, oj_s, e_c, e_g, e_nop, e_one, e_bin, e_cmp, e_idx, two_ok, twoJ_ok, e_and, and_t, and_f, e_or, or_t, or_f, e_ite, iteE_t, iteE_f, e_not, not_b, e_ch2, ch2I_ok, ch2J_ok, ch2K_t, ch2K_f, e_ch3, ch3I_ok, ch3J_ok, ch3K_t, ch3K_f, e_tup, e_lst, e_bi, e_call, lsI_ok, e_dct, dct_ok, ps_nil, ps_cons, psI_ok, psK_ok, e_sl, slI_ok, e_isi, e_lc, lcJ_ok, e_bm, bmJ_ok, s_sti, stiI_ok, stiJ_ok, stiK_ok, nxO_s, s_wh, callD_f, es_nil, es_cons, esI_ok, esJ_ok, pAddI, pSubI, List.getElem?_cons_zero, List.getElem?_cons_succ, List.set_cons_zero, List.set_cons_succ, Bool.not_true, Bool.not_false, pEqI, c1, decide_true, hm, e0, ix_tr0, pGt, c2, decide_false, mkT_tr]
theorem r_least (n : Nat) (l : List Tri) (pump t : Int) {B : Int} (hB : B ≤ 17179869184) (h : Dg B 0 l t) (S : Sto) : cal BT PD (n + 1) f_least_cap [.t (.lst (l.map tr)), I pump] S = .ok (.t (tr (leastF pump (0, 0, 0) 0 0 l))) S := by
  rw [r_def (d := ⟨2, 8, b_least_cap⟩) rfl rfl]
  have it : ∀ S, itemsOf .seq [.t (.lst (l.map tr))] S = some (l.map fun x => .t (tr x)) := fun S => by
    show some ((l.map tr).map D.t) = _
    simp [Function.comp_def]
  obtain ⟨ρ2, e, e2⟩ := least_loop n (some (.t (.lst (l.map tr)))) pump hB S l 0 t (0, 0, 0) 0 0 none none none h
  simp -implicitDefEqProofs only [b_least_cap, List.map_cons, List.map_nil, List.length_cons, List.length_nil, List.replicate, List.cons_append, List.nil_append, s_asg, asg_ok, s_ex, ex_ok, s_ret, ret_ok, s_retN, s_brk, s_cnt, s_pas, s_ite, ite_t, ite_f, s_fo, s_nil, s_cons, sq_nx, sq_rt, sq_bk, sq_ct, sq_ex, tel_nx, tel_rt, tel_ex, e_v, oj_s, e_c, e_g, e_nop, e_one, e_bin, e_cmp, e_idx, two_ok, twoJ_ok, e_and, and_t, and_f, e_or, or_t, or_f, e_ite, iteE_t, iteE_f, e_not, not_b, e_ch2, ch2I_ok, ch2J_ok, ch2K_t, ch2K_f, e_ch3, ch3I_ok, ch3J_ok, ch3K_t, ch3K_f, e_tup, e_lst, e_bi, e_call, lsI_ok, e_dct, dct_ok, ps_nil, ps_cons, psI_ok, psK_ok, e_sl, slI_ok, e_isi, e_lc, lcJ_ok, e_bm, bmJ_ok, s_sti, stiI_ok, stiJ_ok, stiK_ok, nxO_s, s_wh, callD_f, es_nil, es_cons, esI_ok, esJ_ok, pAddI, pSubI, List.getElem?_cons_zero, List.getElem?_cons_succ, List.set_cons_zero, List.set_cons_succ, Bool.not_true, Bool.not_false, mkT_tr, fo_ok (it _)]
  rw [e]
  simp -implicitDefEqProofs only [s_asg, asg_ok, s_ex, ex_ok, s_ret, ret_ok, s_retN, s_brk, s_cnt, s_pas, s_ite, ite_t, ite_f, s_fo, s_nil, s_cons, sq_nx, sq_rt, sq_bk, sq_ct, sq_ex, tel_nx, tel_rt, tel_ex, e_v, oj_s, e_c, e_g, e_nop, e_one, e_bin, e_cmp, e_idx, two_ok, twoJ_ok, e_and, and_t, and_f, e_or, or_t, or_f, e_ite, iteE_t, iteE_f, e_not, not_b, e_ch2, ch2I_ok, ch2J_ok, ch2K_t, ch2K_f, e_ch3, ch3I_ok, ch3J_ok, ch3K_t, ch3K_f, e_tup, e_lst, e_bi, e_call, lsI_ok, e_dct, dct_ok, ps_nil, ps_cons, psI_ok, psK_ok, e_sl, slI_ok, e_isi, e_lc, lcJ_ok, e_bm, bmJ_ok, s_sti, stiI_ok, stiJ_ok, stiK_ok, nxO_s, s_wh, callD_f, es_nil, es_cons, esI_ok, esJ_ok, pAddI, pSubI, List.getElem?_cons_zero, List.getElem?_cons_succ, List.set_cons_zero, List.set_cons_succ, Bool.not_true, Bool.not_false, e2]
theorem dg_last {B : Int} : ∀ (l : List Tri) (a t : Int), Dg B a l t → 0 < l.length → ∃ x, l[l.length - 1]? = some x ∧ x.2.1 = t
  | [], a, t, h, h1 => by simp at h1
  | [x], a, t, ⟨k1, k2, k3, k4, k5, k6⟩, h1 => ⟨x, rfl, k6⟩
  | x :: y :: l, a, t, ⟨k1, k2, k3, k4, k5, k6⟩, h1 => by
    obtain ⟨z, h2, h3⟩ := dg_last (y :: l) _ t k6 (by simp)
    exact ⟨z, by simpa using h2, h3⟩
theorem dg_ixl {B : Int} {l : List Tri} {a t : Int} (h : Dg B a l t) (h1 : 0 < l.length) : ∃ x : Tri, x.2.1 = t ∧ ∀ S, pIdx (.t (.lst (l.map tr))) (I (-1)) S = .ok (.t (tr x)) S := by
  obtain ⟨x, hx, hx2⟩ := dg_last l a t h h1
  refine ⟨x, hx2, fun S => pIdxL (by
      unfold ixAt
      rw [if_neg (by decide), if_pos (by simp; omega)]
      have : ((-1 : Int) + ((l.map tr).length : Nat)).toNat = l.length - 1 := by simp; omega
      rw [this, List.getElem?_map, hx]; rfl)⟩
theorem ixm (l : List Int) (h : 0 < l.length) : ∃ x, ixAt l (-1) = some x ∧ x ∈ l := by
  unfold ixAt
  rw [if_neg (by decide), if_pos (by omega)]
  have : ((-1 : Int) + l.length).toNat < l.length := by omega
  exact ⟨_, List.getElem?_eq_getElem this, List.getElem_mem this⟩
theorem sum_bd (c : Int) : ∀ l : List Int, (∀ x ∈ l, 0 ≤ x ∧ x ≤ c) → 0 ≤ l.sum ∧ l.sum ≤ c * l.length
  | [], _ => by simp
  | x :: l, h => by
    have := sum_bd c l fun y hy => h y (List.mem_cons_of_mem _ hy)
    have h1 := h x List.mem_cons_self
    simp only [List.sum_cons, List.length_cons, Int.natCast_add, Int.mul_add]
    omega
theorem dg_w {B : Int} : ∀ {a : Int} {l : List Tri} {t : Int}, Dg B a l t → ∀ x ∈ l, 0 ≤ x.2.2 ∧ x.2.2 ≤ 2199023255552
  | a, [], t, _, x, h => absurd h (by simp)
  | a, y :: l, t, ⟨k1, k2, k3, k4, k5, k6⟩, x, h => by
    rcases List.mem_cons.mp h with rfl | h
    · exact ⟨k4, k5⟩
    · exact dg_w k6 x h
theorem negOne (C : Cal) (ρ : Ev) (S : Sto) : evE BT C (.neg (.c (.int 1))) ρ S = .ok (I (-1)) S := rfl
theorem winds_lc (C : Cal) (l : List Tri) (v : Nat) (ρ : Ev) (S : Sto) (hv : v < ρ.length) (hl : l.length ≤ 1000) : lcL (.v v) ρ (evE BT C (.c (.bl true))) (evE BT C (.idx (.v v) (.c (.int 2)))) ((l.map tr).map .t) S [] = .ok (l.map fun x => I x.2.2) S := by
  have := lcL_map (p := .v v) (ρ := ρ) (cond := evE BT C (.c (.bl true))) (el := evE BT C (.idx (.v v) (.c (.int 2)))) (S := S) (fun x : Tri => .t (tr x)) (fun x => I x.2.2) l [] (by simp; unfold lim; omega) fun a _ => ⟨_, rfl, rfl, by
      have g : (ρ.set v (some (.t (tr a))))[v]? = some (some (.t (tr a))) := by rw [List.getElem?_set]; simp [hv]
      simp -implicitDefEqProofs only [s_asg, asg_ok, s_ex, ex_ok, s_ret, ret_ok, s_retN, s_brk, s_cnt, s_pas, s_ite, ite_t, ite_f, s_fo, s_nil, s_cons, sq_nx, sq_rt, sq_bk, sq_ct, sq_ex, tel_nx, tel_rt, tel_ex, e_v, oj_s, e_c, e_g, e_nop, e_one, e_bin, e_cmp, e_idx, two_ok, twoJ_ok, e_and, and_t, and_f, e_or, or_t, or_f, e_ite, iteE_t, iteE_f, e_not, not_b, e_ch2, ch2I_ok, ch2J_ok, ch2K_t, ch2K_f, e_ch3, ch3I_ok, ch3J_ok, ch3K_t, ch3K_f, e_tup, e_lst, e_bi, e_call, lsI_ok, e_dct, dct_ok, ps_nil, ps_cons, psI_ok, psK_ok, e_sl, slI_ok, e_isi, e_lc, lcJ_ok, e_bm, bmJ_ok, s_sti, stiI_ok, stiJ_ok, stiK_ok, nxO_s, s_wh, callD_f, es_nil, es_cons, esI_ok, esJ_ok, pAddI, pSubI, List.getElem?_cons_zero, List.getElem?_cons_succ, List.set_cons_zero, List.set_cons_succ, Bool.not_true, Bool.not_false, g]
      rfl⟩
  simpa [Function.comp_def] using this
theorem r_pump (n : Nat) (ns : List Int) (l : List Tri) (t : Int) {B : Int} (h : Dg B 0 l t) (h1 : 1 ≤ l.length) (h2 : l.length ≤ 200) (S : Sto) : ∃ p : Int, cal BT PD (n + 2) f__law_pump [.t (.scr ns), .t (.lst (l.map tr))] S = .ok (I p) S ∧ 0 ≤ p ∧ p < 2 ^ 90 := by
  rw [r_def (d := ⟨2, 6, b__law_pump⟩) rfl rfl]
  obtain ⟨c0, e2⟩ := r_cell n ns 0 []
  have e2 : ∀ S, callD (cal BT PD (n + 1)) true f__law_cell_at [.t (.scr ns), I 0] S = .ok (I c0) S := fun S => call2 e2
  generalize hp : c0 * 950706376 % 2147483647 / 8 = num
  have p1 : 0 ≤ num ∧ num < 2147483647 := by omega
  have lc := winds_lc (cal BT PD (n + 1)) l 4 [some (.t (.scr ns)), some (.t (.lst (l.map tr))), some (I num), none, none, none] S (by simp) (by omega)
  have mk : ∀ S, mkL false (l.map fun x => I x.2.2) S = .ok (.t (.lst ((l.map fun x => x.2.2).map .int))) S := fun S => by
    have := mkL_t (S := S) (pls_of (fun x : Tri => T.int x.2.2) l)
    rw [this]; simp [Function.comp_def]
  have hm : ∀ x ∈ srtI (l.map fun x => x.2.2), 0 ≤ x ∧ x ≤ 2199023255552 := fun x hx => by
    have := (srtI_perm _).mem_iff.mp hx
    rw [List.mem_map] at this
    obtain ⟨y, hy, rfl⟩ := this
    exact dg_w h y hy
  have hlen : (srtI (l.map fun x => x.2.2)).length = l.length := by rw [(srtI_perm _).length_eq]; simp
  have srt := pSrtI (l.map fun x => x.2.2)
  generalize srtI (l.map fun x => x.2.2) = ws at hm hlen srt
  have len : ∀ m S, pBi m .len [.t (.lst (ws.map .int))] S = .ok (I ws.length) S := fun m S => by rw [pLenL, List.length_map]
  obtain ⟨w0, i0, m0⟩ := ixAt_in (xs := ws) (i := 0) (by decide) (by omega)
  obtain ⟨w9, i9, m9⟩ := ixm ws (by omega)
  have q9 : 0 ≤ num / 5 % ws.length ∧ num / 5 % (ws.length : Int) < ws.length := ⟨Int.emod_nonneg _ (by omega), Int.emod_lt_of_pos _ (by omega)⟩
  obtain ⟨w5, i5, m5⟩ := ixAt_in (xs := ws) (i := num / 5 % ws.length) q9.1 q9.2
  have b0 := hm _ m0
  have b9 := hm _ m9
  have b5 := hm _ m5
  have sb := sum_bd 2199023255552 ws hm
  have hd : ∀ (i : Int) S, pBin false .FloorDiv (I i) (I ws.length) S = .ok (I (i / ws.length)) S := fun i S => pDiv (by omega) (by omega)
  have hmd : ∀ (i : Int) S, pBin false .Mod (I i) (I ws.length) S = .ok (I (i % ws.length)) S := fun i S => pMod (by omega)
  have sd : 0 ≤ ws.sum / ws.length ∧ ws.sum / (ws.length : Int) ≤ ws.sum := ⟨Int.ediv_nonneg sb.1 (by omega), Int.ediv_le_self _ sb.1⟩
  have start : ∀ (r : R D), tel (evSs BT (cal BT PD (n + 1)) ((.cons (.ite (.cmp .Eq (.v 5) (.c (.int 0))) (.cons (.ret (.bin false .Mod (.bin false .FloorDiv (.v 2) (.c (.int 5))) (.c (.int 9))))
      .nil) .nil)
      (.cons (.ite (.cmp .Eq (.v 5) (.c (.int 1))) (.cons (.ret (.idx (.v 3) (.bin false .Mod (.bin false .FloorDiv (.v 2) (.c (.int 5))) (.bi false .len (.cons (.v 3) .nil)))))
      .nil) .nil)
      (.cons (.ite (.cmp .Eq (.v 5) (.c (.int 2))) (.cons (.ret (.bin false .Add (.bin false .FloorDiv (.bi false .sum (.cons (.v 3) .nil)) (.bi false .len (.cons (.v 3) .nil))) (.bin false .Mod (.bin false .FloorDiv (.v 2) (.c (.int 5))) (.c (.int 3)))))
      .nil) .nil)
      (.cons (.ite (.cmp .Eq (.v 5) (.c (.int 3))) (.cons (.ret (.bin false .Add (.idx (.v 3) (.neg (.c (.int 1)))) (.bin false .Mod (.bin false .FloorDiv (.v 2) (.c (.int 5))) (.c (.int 2)))))
      .nil) .nil)
      (.cons (.ret (.bin false .FloorDiv (.bin false .Add (.idx (.v 3) (.c (.int 0))) (.idx (.v 3) (.neg (.c (.int 1))))) (.c (.int 2))))
      .nil)))))) [some (.t (.scr ns)), some (.t (.lst (l.map tr))), some (I num), some (.t (.lst (ws.map .int))), none, some (I (num % 5))] S) = r →
      tel (evSs BT (cal BT PD (n + 1)) b__law_pump [some (.t (.scr ns)), some (.t (.lst (l.map tr))), none, none, none, none] S) = r := fun r hr => by
    rw [← hr]
    simp -implicitDefEqProofs (disch := omega) only [b__law_pump, s_asg, asg_ok, s_ex, ex_ok, s_ret, ret_ok, s_retN, s_brk, s_cnt, s_pas, s_ite, ite_t, ite_f, s_fo, s_nil, s_cons, sq_nx, sq_rt, sq_bk, sq_ct, sq_ex, tel_nx, tel_rt, tel_ex, e_v, oj_s, e_c, e_g, e_nop, e_one, e_bin, e_cmp, e_idx, two_ok, twoJ_ok, e_and, and_t, and_f, e_or, or_t, or_f, e_ite, iteE_t, iteE_f, e_not, not_b, e_ch2, ch2I_ok, ch2J_ok, ch2K_t, ch2K_f, e_ch3, ch3I_ok, ch3J_ok, ch3K_t, ch3K_f, e_tup, e_lst, e_bi, e_call, lsI_ok, e_dct, dct_ok, ps_nil, ps_cons, psI_ok, psK_ok, e_sl, slI_ok, e_isi, e_lc, lcJ_ok, e_bm, bmJ_ok, s_sti, stiI_ok, stiJ_ok, stiK_ok, nxO_s, s_wh, callD_f, es_nil, es_cons, esI_ok, esJ_ok, pAddI, pSubI, List.getElem?_cons_zero, List.getElem?_cons_succ, List.set_cons_zero, List.set_cons_succ, Bool.not_true, Bool.not_false, e2, pMulR, pMod, pDiv, hp, lcI_ok (itL _ _), wipeL, Pt.own]
    rw [lc]
    simp -implicitDefEqProofs (disch := omega) only [s_asg, asg_ok, s_ex, ex_ok, s_ret, ret_ok, s_retN, s_brk, s_cnt, s_pas, s_ite, ite_t, ite_f, s_fo, s_nil, s_cons, sq_nx, sq_rt, sq_bk, sq_ct, sq_ex, tel_nx, tel_rt, tel_ex, e_v, oj_s, e_c, e_g, e_nop, e_one, e_bin, e_cmp, e_idx, two_ok, twoJ_ok, e_and, and_t, and_f, e_or, or_t, or_f, e_ite, iteE_t, iteE_f, e_not, not_b, e_ch2, ch2I_ok, ch2J_ok, ch2K_t, ch2K_f, e_ch3, ch3I_ok, ch3J_ok, ch3K_t, ch3K_f, e_tup, e_lst, e_bi, e_call, lsI_ok, e_dct, dct_ok, ps_nil, ps_cons, psI_ok, psK_ok, e_sl, slI_ok, e_isi, e_lc, lcJ_ok, e_bm, bmJ_ok, s_sti, stiI_ok, stiJ_ok, stiK_ok, nxO_s, s_wh, callD_f, es_nil, es_cons, esI_ok, esJ_ok, pAddI, pSubI, List.getElem?_cons_zero, List.getElem?_cons_succ, List.set_cons_zero, List.set_cons_succ, Bool.not_true, Bool.not_false, mk, srt, pMod]
  have c5 : num % 5 = 0 ∨ num % 5 = 1 ∨ num % 5 = 2 ∨ num % 5 = 3 ∨ num % 5 = 4 := by omega
  rcases c5 with c | c | c | c | c
  · refine ⟨num / 5 % 9, start _ ?_, by omega, by omega⟩
    rw [c]
    simp -implicitDefEqProofs (disch := omega) only [s_asg, asg_ok, s_ex, ex_ok, s_ret, ret_ok, s_retN, s_brk, s_cnt, s_pas, s_ite, ite_t, ite_f, s_fo, s_nil, s_cons, sq_nx, sq_rt, sq_bk, sq_ct, sq_ex, tel_nx, tel_rt, tel_ex, e_v, oj_s, e_c, e_g, e_nop, e_one, e_bin, e_cmp, e_idx, two_ok, twoJ_ok, e_and, and_t, and_f, e_or, or_t, or_f, e_ite, iteE_t, iteE_f, e_not, not_b, e_ch2, ch2I_ok, ch2J_ok, ch2K_t, ch2K_f, e_ch3, ch3I_ok, ch3J_ok, ch3K_t, ch3K_f, e_tup, e_lst, e_bi, e_call, lsI_ok, e_dct, dct_ok, ps_nil, ps_cons, psI_ok, psK_ok, e_sl, slI_ok, e_isi, e_lc, lcJ_ok, e_bm, bmJ_ok, s_sti, stiI_ok, stiJ_ok, stiK_ok, nxO_s, s_wh, callD_f, es_nil, es_cons, esI_ok, esJ_ok, pAddI, pSubI, List.getElem?_cons_zero, List.getElem?_cons_succ, List.set_cons_zero, List.set_cons_succ, Bool.not_true, Bool.not_false, pEqI, pMod, pDiv, decide_true]
  · refine ⟨w5, start _ ?_, by omega, by omega⟩
    rw [c]
    have d0 : decide ((1 : Int) = 0) = false := rfl
    simp -implicitDefEqProofs (disch := omega) only [s_asg, asg_ok, s_ex, ex_ok, s_ret, ret_ok, s_retN, s_brk, s_cnt, s_pas, s_ite, ite_t, ite_f, s_fo, s_nil, s_cons, sq_nx, sq_rt, sq_bk, sq_ct, sq_ex, tel_nx, tel_rt, tel_ex, e_v, oj_s, e_c, e_g, e_nop, e_one, e_bin, e_cmp, e_idx, two_ok, twoJ_ok, e_and, and_t, and_f, e_or, or_t, or_f, e_ite, iteE_t, iteE_f, e_not, not_b, e_ch2, ch2I_ok, ch2J_ok, ch2K_t, ch2K_f, e_ch3, ch3I_ok, ch3J_ok, ch3K_t, ch3K_f, e_tup, e_lst, e_bi, e_call, lsI_ok, e_dct, dct_ok, ps_nil, ps_cons, psI_ok, psK_ok, e_sl, slI_ok, e_isi, e_lc, lcJ_ok, e_bm, bmJ_ok, s_sti, stiI_ok, stiJ_ok, stiK_ok, nxO_s, s_wh, callD_f, es_nil, es_cons, esI_ok, esJ_ok, pAddI, pSubI, List.getElem?_cons_zero, List.getElem?_cons_succ, List.set_cons_zero, List.set_cons_succ, Bool.not_true, Bool.not_false, pEqI, d0, pMod, pDiv, decide_true, len, hmd, pIdxI i5]
  · refine ⟨ws.sum / ws.length + num / 5 % 3, start _ ?_, by omega, by omega⟩
    rw [c]
    have d0 : decide ((2 : Int) = 0) = false := rfl
    have d1 : decide ((2 : Int) = 1) = false := rfl
    simp -implicitDefEqProofs (disch := omega) only [s_asg, asg_ok, s_ex, ex_ok, s_ret, ret_ok, s_retN, s_brk, s_cnt, s_pas, s_ite, ite_t, ite_f, s_fo, s_nil, s_cons, sq_nx, sq_rt, sq_bk, sq_ct, sq_ex, tel_nx, tel_rt, tel_ex, e_v, oj_s, e_c, e_g, e_nop, e_one, e_bin, e_cmp, e_idx, two_ok, twoJ_ok, e_and, and_t, and_f, e_or, or_t, or_f, e_ite, iteE_t, iteE_f, e_not, not_b, e_ch2, ch2I_ok, ch2J_ok, ch2K_t, ch2K_f, e_ch3, ch3I_ok, ch3J_ok, ch3K_t, ch3K_f, e_tup, e_lst, e_bi, e_call, lsI_ok, e_dct, dct_ok, ps_nil, ps_cons, psI_ok, psK_ok, e_sl, slI_ok, e_isi, e_lc, lcJ_ok, e_bm, bmJ_ok, s_sti, stiI_ok, stiJ_ok, stiK_ok, nxO_s, s_wh, callD_f, es_nil, es_cons, esI_ok, esJ_ok, pAddI, pSubI, List.getElem?_cons_zero, List.getElem?_cons_succ, List.set_cons_zero, List.set_cons_succ, Bool.not_true, Bool.not_false, pEqI, d0, d1, pMod, pDiv, decide_true, len, hd, pSumL]
  · refine ⟨w9 + num / 5 % 2, start _ ?_, by omega, by omega⟩
    rw [c]
    have d0 : decide ((3 : Int) = 0) = false := rfl
    have d1 : decide ((3 : Int) = 1) = false := rfl
    have d2 : decide ((3 : Int) = 2) = false := rfl
    simp -implicitDefEqProofs (disch := omega) only [s_asg, asg_ok, s_ex, ex_ok, s_ret, ret_ok, s_retN, s_brk, s_cnt, s_pas, s_ite, ite_t, ite_f, s_fo, s_nil, s_cons, sq_nx, sq_rt, sq_bk, sq_ct, sq_ex, tel_nx, tel_rt, tel_ex, e_v, oj_s, e_c, e_g, e_nop, e_one, e_bin, e_cmp, e_idx, two_ok, twoJ_ok, e_and, and_t, and_f, e_or, or_t, or_f, e_ite, iteE_t, iteE_f, e_not, not_b, e_ch2, ch2I_ok, ch2J_ok, ch2K_t, ch2K_f, e_ch3, ch3I_ok, ch3J_ok, ch3K_t, ch3K_f, e_tup, e_lst, e_bi, e_call, lsI_ok, e_dct, dct_ok, ps_nil, ps_cons, psI_ok, psK_ok, e_sl, slI_ok, e_isi, e_lc, lcJ_ok, e_bm, bmJ_ok, s_sti, stiI_ok, stiJ_ok, stiK_ok, nxO_s, s_wh, callD_f, es_nil, es_cons, esI_ok, esJ_ok, pAddI, pSubI, List.getElem?_cons_zero, List.getElem?_cons_succ, List.set_cons_zero, List.set_cons_succ, Bool.not_true, Bool.not_false, pEqI, d0, d1, d2, pMod, pDiv, decide_true, negOne, pIdxI i9]
  · refine ⟨(w0 + w9) / 2, start _ ?_, by omega, by omega⟩
    rw [c]
    have d0 : decide ((4 : Int) = 0) = false := rfl
    have d1 : decide ((4 : Int) = 1) = false := rfl
    have d2 : decide ((4 : Int) = 2) = false := rfl
    have d3 : decide ((4 : Int) = 3) = false := rfl
    simp -implicitDefEqProofs (disch := omega) only [s_asg, asg_ok, s_ex, ex_ok, s_ret, ret_ok, s_retN, s_brk, s_cnt, s_pas, s_ite, ite_t, ite_f, s_fo, s_nil, s_cons, sq_nx, sq_rt, sq_bk, sq_ct, sq_ex, tel_nx, tel_rt, tel_ex, e_v, oj_s, e_c, e_g, e_nop, e_one, e_bin, e_cmp, e_idx, two_ok, twoJ_ok, e_and, and_t, and_f, e_or, or_t, or_f, e_ite, iteE_t, iteE_f, e_not, not_b, e_ch2, ch2I_ok, ch2J_ok, ch2K_t, ch2K_f, e_ch3, ch3I_ok, ch3J_ok, ch3K_t, ch3K_f, e_tup, e_lst, e_bi, e_call, lsI_ok, e_dct, dct_ok, ps_nil, ps_cons, psI_ok, psK_ok, e_sl, slI_ok, e_isi, e_lc, lcJ_ok, e_bm, bmJ_ok, s_sti, stiI_ok, stiJ_ok, stiK_ok, nxO_s, s_wh, callD_f, es_nil, es_cons, esI_ok, esJ_ok, pAddI, pSubI, List.getElem?_cons_zero, List.getElem?_cons_succ, List.set_cons_zero, List.set_cons_succ, Bool.not_true, Bool.not_false, pEqI, d0, d1, d2, d3, pMod, pDiv, decide_true, negOne, pIdxI i9, pIdxI i0]
theorem least_mono (pump : Int) : ∀ (l : List Tri) (best : Tri) (need stt : Int), best.1 ≤ (leastF pump best need stt l).1
  | [], best, need, stt => Int.le_refl _
  | x :: l, best, need, stt => by
    rw [leastF]
    refine Int.le_trans ?_ (least_mono pump l _ _ _)
    split <;> (try simp only) <;> omega
theorem least_more (pump more : Int) (hm : 0 ≤ more) {B : Int} : ∀ (l : List Tri) (a t : Int) (b1 b2 : Tri) (n1 n2 s1 s2 : Int), Dg B a l t → n2 ≤ n1 → n1 ≤ n2 + more * a → b2.1 ≤ b1.1 → b1.1 ≤ b2.1 + more * a → 0 ≤ a →
    (leastF (pump + more) b2 n2 s2 l).1 ≤ (leastF pump b1 n1 s1 l).1 ∧ (leastF pump b1 n1 s1 l).1 ≤ (leastF (pump + more) b2 n2 s2 l).1 + more * t
  | [], a, t, b1, b2, n1, n2, s1, s2, h, h1, h2, h3, h4, h0 => by cases h; exact ⟨h3, h4⟩
  | x :: l, a, t, b1, b2, n1, n2, s1, s2, ⟨k1, k2, k3, k4, k5, k6⟩, h1, h2, h3, h4, h0 => by
    rw [leastF, leastF]
    have e1 : (x.2.2 - (pump + more)) * (x.2.1 - x.1) = (x.2.2 - pump) * (x.2.1 - x.1) - more * (x.2.1 - x.1) := by
      rw [← Int.sub_mul]; congr 1; omega
    have e2 : more * x.2.1 = more * a + more * (x.2.1 - x.1) := by rw [← Int.mul_add, k1]; congr 1; omega
    have e3 : 0 ≤ more * (x.2.1 - x.1) := Int.mul_nonneg hm (by omega)
    rw [e1]
    generalize (x.2.2 - pump) * (x.2.1 - x.1) = q at *
    generalize more * (x.2.1 - x.1) = z at *
    exact least_more pump more hm l x.2.1 t _ _ _ _ _ _ k6 (by omega) (by omega) (by split <;> (try simp only) <;> split <;> (try simp only) <;> omega) (by split <;> (try simp only) <;> split <;> (try simp only) <;> omega) (by omega)
theorem least_max (pump : Int) {B : Int} : ∀ (l : List Tri) (a t stt : Int), Dg B a l t → (∀ x ∈ l, x.2.2 ≤ pump) → leastF pump (0, 0, 0) 0 stt l = (0, 0, 0)
  | [], _, _, _, _, _ => rfl
  | x :: l, a, t, stt, ⟨k1, k2, k3, k4, k5, k6⟩, h => by
    have h1 := h x List.mem_cons_self
    have e : (x.2.2 - pump) * (x.2.1 - x.1) ≤ 0 := Int.mul_nonpos_of_nonpos_of_nonneg (by omega) (by omega)
    have e2 : max 0 (0 + (x.2.2 - pump) * (x.2.1 - x.1)) = 0 := by omega
    rw [leastF, e2]
    simp only [Int.lt_irrefl, if_false, if_true]
    exact least_max pump l _ t _ k6 fun y hy => h y (List.mem_cons_of_mem _ hy)
theorem dg_le {B : Int} : ∀ (l : List Tri) (a t : Int), Dg B a l t → a ≤ t
  | [], a, t, h => by cases h; exact Int.le_refl _
  | x :: l, a, t, ⟨k1, k2, k3, k4, k5, k6⟩ => by have := dg_le l _ _ k6; omega
/-- what a stretch of ticks takes beyond the pump's -/
def bey (pump a b : Int) : List Tri → Int
  | [] => 0
  | x :: l => (x.2.2 - pump) * max 0 (min x.2.1 b - max x.1 a) + bey pump a b l
theorem bey_app (pump a b : Int) : ∀ l m : List Tri, bey pump a b (l ++ m) = bey pump a b l + bey pump a b m
  | [], m => by simp [bey]
  | x :: l, m => by simp only [List.cons_append, bey, bey_app pump a b l m]; omega
theorem bey_end (pump : Int) {B : Int} (c d : Int) : ∀ (l : List Tri) (a t s : Int), Dg B a l t → t ≤ c → t ≤ d → bey pump s c l = bey pump s d l
  | [], _, _, _, _, _, _ => rfl
  | x :: l, a, t, s, ⟨k1, k2, k3, k4, k5, k6⟩, h1, h2 => by
    have hx : x.2.1 ≤ t := dg_le l _ _ k6
    have e1 : min x.2.1 c = x.2.1 := by omega
    have e2 : min x.2.1 d = x.2.1 := by omega
    rw [bey, bey, e1, e2, bey_end pump c d l _ t s k6 h1 h2]
theorem bey_from (pump : Int) {B : Int} (c b : Int) : ∀ (l : List Tri) (a t : Int), Dg B a l t → t ≤ c → bey pump c b l = 0
  | [], _, _, _, _ => rfl
  | x :: l, a, t, ⟨k1, k2, k3, k4, k5, k6⟩, h1 => by
    have hx : x.2.1 ≤ t := dg_le l _ _ k6
    have e1 : max 0 (min x.2.1 b - max x.1 c) = 0 := by omega
    rw [bey, e1, bey_from pump c b l _ t k6 h1]; simp
theorem bey_ahead (pump : Int) {B : Int} (c b : Int) : ∀ (l : List Tri) (a t : Int), Dg B a l t → b ≤ a → bey pump c b l = 0
  | [], _, _, _, _ => rfl
  | x :: l, a, t, ⟨k1, k2, k3, k4, k5, k6⟩, h1 => by
    have e1 : max 0 (min x.2.1 b - max x.1 c) = 0 := by omega
    rw [bey, e1, bey_ahead pump c b l _ t k6 (by omega)]; simp
theorem dg_app {B : Int} : ∀ (l : List Tri) (a t : Int) (x : Tri), Dg B a l t → x.1 = t → x.1 < x.2.1 → x.2.1 ≤ x.1 + B → 0 ≤ x.2.2 → x.2.2 ≤ 2199023255552 → Dg B a (l ++ [x]) x.2.1
  | [], a, t, x, h, h1, h2, h3, h4, h5 => by cases h; exact ⟨h1, h2, h3, h4, h5, rfl⟩
  | y :: l, a, t, x, ⟨k1, k2, k3, k4, k5, k6⟩, h1, h2, h3, h4, h5 => ⟨k1, k2, k3, k4, k5, dg_app l _ t x k6 h1 h2 h3 h4 h5⟩
/-- the ticks told need the cap told -/
theorem least_wit (pump : Int) {B : Int} : ∀ (l P : List Tri) (a t : Int) (best : Tri) (need stt : Int), Dg B 0 P a → Dg B a l t → 0 ≤ need → 0 ≤ best.1 →
    (0 < need → 0 ≤ stt ∧ stt < a ∧ bey pump stt a P = need) → (0 < best.1 → 0 ≤ best.2.1 ∧ best.2.1 < best.2.2 ∧ best.2.2 ≤ a ∧ bey pump best.2.1 best.2.2 P = best.1) → (best.1 = 0 → best = (0, 0, 0)) →
    ∀ R, R = leastF pump best need stt l → 0 ≤ R.1 ∧ (R.1 = 0 → R = (0, 0, 0)) ∧ (0 < R.1 → 0 ≤ R.2.1 ∧ R.2.1 < R.2.2 ∧ R.2.2 ≤ t ∧ bey pump R.2.1 R.2.2 (P ++ l) = R.1)
  | [], P, a, t, best, need, stt, hP, hl, h0, hb, h5, h6, h7, R, hR => by
    cases hl
    simp only [leastF] at hR
    subst hR
    rw [List.append_nil]
    exact ⟨hb, h7, h6⟩
  | x :: l, P, a, t, best, need, stt, hP, ⟨k1, k2, k3, k4, k5, k6⟩, h0, hb, h5, h6, h7, R, hR => by
    have ha : 0 ≤ a := dg_le P 0 a hP
    have hP2 : Dg B 0 (P ++ [x]) x.2.1 := dg_app P 0 a x hP k1 k2 k3 k4 k5
    have one : ∀ s, s ≤ x.1 → bey pump s x.2.1 [x] = (x.2.2 - pump) * (x.2.1 - x.1) := fun s hs => by
      have e1 : max 0 (min x.2.1 x.2.1 - max x.1 s) = x.2.1 - x.1 := by omega
      simp only [bey, e1, Int.add_zero]
    have hnew : ∀ S2 N2, S2 = (if need = 0 then x.1 else stt) → N2 = need + (x.2.2 - pump) * (x.2.1 - x.1) → 0 ≤ S2 ∧ S2 < x.2.1 ∧ bey pump S2 x.2.1 (P ++ [x]) = N2 := fun S2 N2 hS hN => by
      rw [bey_app]
      by_cases c0 : need = 0
      · rw [if_pos c0] at hS
        subst hS
        rw [one _ (Int.le_refl _), bey_from pump x.1 x.2.1 P 0 a hP (by omega)]
        exact ⟨by omega, by omega, by omega⟩
      · rw [if_neg c0] at hS
        subst hS
        obtain ⟨b1, b2, b3⟩ := h5 (by omega)
        rw [one _ (by omega), bey_end pump x.2.1 a P 0 a _ hP (by omega) (Int.le_refl _), b3]
        exact ⟨b1, by omega, by omega⟩
    rw [leastF] at hR
    have := least_wit pump l (P ++ [x]) x.2.1 t _ _ _ hP2 k6 (by omega) ?_ ?_ ?_ ?_ R hR
    · rw [List.append_assoc] at this; exact this
    · split <;> (try simp only) <;> omega
    · intro h
      have := hnew _ _ rfl rfl
      rw [this.2.2]
      exact ⟨this.1, this.2.1, by omega⟩
    · intro h
      split
      · rename_i cb
        have := hnew _ _ rfl rfl
        refine ⟨this.1, this.2.1, Int.le_refl _, ?_⟩
        simp only
        rw [this.2.2]; omega
      · rename_i cb
        rw [if_neg cb] at h
        obtain ⟨b1, b2, b3, b4⟩ := h6 h
        refine ⟨b1, b2, by omega, ?_⟩
        rw [bey_app, b4, bey_ahead pump _ _ [x] a x.2.1 ⟨k1, k2, k3, k4, k5, rfl⟩ b3]; omega
    · intro h
      split at h
      · simp only at h; omega
      · rename_i cb; rw [if_neg cb]; exact h7 h
/-- from no begin to no end more is taken -/
def sums (pump : Int) : Int → List Tri → List Int
  | _, [] => []
  | c, x :: l => (c + (x.2.2 - pump) * (x.2.1 - x.1)) :: sums pump (c + (x.2.2 - pump) * (x.2.1 - x.1)) l
theorem least_sums (pump : Int) : ∀ (l : List Tri) (best : Tri) (need stt c : Int), c ≤ need → ∀ s ∈ sums pump c l, s ≤ (leastF pump best need stt l).1
  | [], _, _, _, _, _, s, h => by simp [sums] at h
  | x :: l, best, need, stt, c, hc, s, h => by
    rw [leastF]
    rcases List.mem_cons.mp h with rfl | h
    · refine Int.le_trans ?_ (least_mono pump l _ _ _)
      split <;> (try simp only) <;> omega
    · exact least_sums pump l _ _ _ _ (by omega) s h
theorem least_drop (pump : Int) : ∀ (k : Nat) (l : List Tri) (best : Tri) (need stt : Int), 0 ≤ need → ∃ b n s, 0 ≤ n ∧ leastF pump best need stt l = leastF pump b n s (l.drop k)
  | 0, l, best, need, stt, h => ⟨best, need, stt, h, rfl⟩
  | k + 1, [], best, need, stt, h => ⟨best, need, stt, h, rfl⟩
  | k + 1, x :: l, best, need, stt, h => by
    rw [leastF]
    exact least_drop pump k l _ _ _ (by omega)
theorem least_all (pump : Int) (l : List Tri) (k : Nat) : ∀ s ∈ sums pump 0 (l.drop k), s ≤ (leastF pump (0, 0, 0) 0 0 l).1 := fun s h => by
  obtain ⟨b, n, st, h0, e⟩ := least_drop pump k l (0, 0, 0) 0 0 (Int.le_refl _)
  rw [e]
  exact least_sums pump _ _ _ _ _ h0 s h
theorem lackN {th m k : Int} (hm : 0 ≤ m ∨ 0 ≤ th + m * k) (h0 : 0 ≤ th) : lackF th m k = none := by
  unfold lackF
  by_cases c : 0 ≤ m
  · rw [if_pos c]
  · rw [if_neg c]
    rw [if_pos]
    rcases hm with h | h
    · exact absurd h c
    · rw [Int.le_ediv_iff_mul_le (by omega)]
      have : k * (0 - m) = - (m * k) := by rw [Int.zero_sub, Int.mul_neg, Int.mul_comm]
      omega
theorem lackS {th m k : Int} (hk : 0 ≤ k) (h0 : 0 ≤ th) (h : th + m * k < 0) : ∃ q, lackF th m k = some q ∧ 0 ≤ q ∧ q < k := by
  have hm : m < 0 := by
    by_cases c : 0 ≤ m
    · have := Int.mul_nonneg c hk; omega
    · omega
  unfold lackF
  rw [if_neg (by omega)]
  have : ¬ (k ≤ th / (0 - m)) := by
    rw [Int.le_ediv_iff_mul_le (by omega)]
    have : k * (0 - m) = - (m * k) := by rw [Int.zero_sub, Int.mul_neg, Int.mul_comm]
    omega
  rw [if_neg this]
  exact ⟨_, rfl, Int.ediv_nonneg h0 (by omega), by omega⟩
/-- no tick lacks just where the cap is the least one or more -/
theorem first_least (pump cap : Int) {B : Int} : ∀ (l : List Tri) (a t : Int) (best : Tri) (need stt : Int), Dg B a l t → 0 ≤ need → need ≤ best.1 → best.1 ≤ cap → 0 ≤ a →
    ((leastF pump best need stt l).1 ≤ cap → firstF pump cap (cap - need) l = none) ∧ (cap < (leastF pump best need stt l).1 → ∃ k, firstF pump cap (cap - need) l = some k ∧ 0 ≤ k ∧ k < (leastF pump best need stt l).2.2)
  | [], a, t, best, need, stt, h, h0, h1, h2, h3 => ⟨fun _ => rfl, fun h => by simp only [leastF] at h; omega⟩
  | x :: l, a, t, best, need, stt, ⟨k1, k2, k3, k4, k5, k6⟩, h0, h1, h2, h3 => by
    have e1 : (pump - x.2.2) * (x.2.1 - x.1) = - ((x.2.2 - pump) * (x.2.1 - x.1)) := by rw [← Int.neg_mul]; congr 1; omega
    by_cases c : need + (x.2.2 - pump) * (x.2.1 - x.1) ≤ cap
    · have hl : lackF (cap - need) (pump - x.2.2) (x.2.1 - x.1) = none := lackN (.inr (by omega)) (by omega)
      have e2 : min cap (cap - need + (pump - x.2.2) * (x.2.1 - x.1)) = cap - max 0 (need + (x.2.2 - pump) * (x.2.1 - x.1)) := by omega
      simp only [leastF, firstF, hl, e2]
      exact first_least pump cap l x.2.1 t _ _ _ k6 (by omega) (by split <;> (try simp only) <;> omega) (by split <;> (try simp only) <;> omega) (by omega)
    · obtain ⟨q, hq, q0, q1⟩ := lackS (th := cap - need) (m := pump - x.2.2) (k := x.2.1 - x.1) (by omega) (by omega) (by omega)
      simp only [leastF, firstF, hq]
      have cb : best.1 < max 0 (need + (x.2.2 - pump) * (x.2.1 - x.1)) := by omega
      rw [if_pos cb]
      have mo := least_mono pump l (max 0 (need + (x.2.2 - pump) * (x.2.1 - x.1)), if need = 0 then x.1 else stt, x.2.1) (max 0 (need + (x.2.2 - pump) * (x.2.1 - x.1))) (if need = 0 then x.1 else stt)
      have en := least_end pump l x.2.1 t (max 0 (need + (x.2.2 - pump) * (x.2.1 - x.1)), if need = 0 then x.1 else stt, x.2.1) (max 0 (need + (x.2.2 - pump) * (x.2.1 - x.1))) (if need = 0 then x.1 else stt) k6 (Int.le_refl _)
      simp only at mo en
      exact ⟨fun h => by omega, fun h => ⟨_, rfl, by omega, by omega⟩⟩
where
  least_end (pump : Int) {B : Int} : ∀ (l : List Tri) (a t : Int) (best : Tri) (need stt : Int), Dg B a l t → best.2.2 ≤ a → best.2.2 ≤ (leastF pump best need stt l).2.2
    | [], _, _, _, _, _, _, _ => Int.le_refl _
    | x :: l, a, t, best, need, stt, ⟨k1, k2, k3, k4, k5, k6⟩, h => by
      rw [leastF]
      refine Int.le_trans ?_ (least_end pump l x.2.1 t _ _ _ k6 ?_)
      · split <;> (try simp only) <;> omega
      · split <;> (try simp only) <;> omega
theorem first_ge (pump cap : Int) (hc : 0 ≤ cap) {B : Int} : ∀ (l : List Tri) (a t th k : Int), Dg B a l t → 0 ≤ th → firstF pump cap th l = some k → a ≤ k
  | [], a, t, th, k, h, h0, e => by simp [firstF] at e
  | x :: l, a, t, th, k, ⟨k1, k2, k3, k4, k5, k6⟩, h0, e => by
    simp only [firstF] at e
    cases e1 : lackF th (pump - x.2.2) (x.2.1 - x.1) with
    | some q =>
      rw [e1] at e
      cases e
      unfold lackF at e1
      split at e1
      · cases e1
      · split at e1
        · cases e1
        · cases e1
          have := Int.ediv_nonneg h0 (show 0 ≤ 0 - (pump - x.2.2) by omega)
          omega
    | none =>
      rw [e1] at e
      have n1 : 0 ≤ th + (pump - x.2.2) * (x.2.1 - x.1) := by
        by_cases c2 : 0 ≤ th + (pump - x.2.2) * (x.2.1 - x.1)
        · exact c2
        · obtain ⟨q, hq, _⟩ := lackS (th := th) (m := pump - x.2.2) (k := x.2.1 - x.1) (by omega) h0 (by omega)
          rw [e1] at hq; cases hq
      have := first_ge pump cap hc l _ t _ k k6 (by omega) e
      omega
/-- the lesser cap lacks no later -/
def NoLater : Option Int → Option Int → Prop
  | none, o => o = none
  | some _, none => True
  | some i, some j => i ≤ j
theorem first_mono (pump c1 c2 : Int) (hc : c1 ≤ c2) {B : Int} : ∀ (l : List Tri) (a t th1 th2 : Int), Dg B a l t → 0 ≤ th1 → th1 ≤ th2 → 0 ≤ c1 → NoLater (firstF pump c1 th1 l) (firstF pump c2 th2 l)
  | [], a, t, th1, th2, h, h0, h1, h2 => rfl
  | x :: l, a, t, th1, th2, ⟨k1, k2, k3, k4, k5, k6⟩, h0, h1, h2 => by
    simp only [firstF]
    generalize hz : (pump - x.2.2) * (x.2.1 - x.1) = z
    cases e1 : lackF th1 (pump - x.2.2) (x.2.1 - x.1) with
    | none =>
      have n1 : 0 ≤ pump - x.2.2 ∨ 0 ≤ th1 + z := by
        by_cases c : 0 ≤ pump - x.2.2
        · exact .inl c
        · refine .inr ?_
          by_cases c2 : 0 ≤ th1 + z
          · exact c2
          · obtain ⟨q, hq, _⟩ := lackS (th := th1) (m := pump - x.2.2) (k := x.2.1 - x.1) (by omega) h0 (by omega)
            rw [e1] at hq; cases hq
      have e2 : lackF th2 (pump - x.2.2) (x.2.1 - x.1) = none := lackN (by rw [hz]; omega) (by omega)
      have z0 : 0 ≤ pump - x.2.2 → 0 ≤ z := fun h => by rw [← hz]; exact Int.mul_nonneg h (by omega)
      rw [e2]
      exact first_mono pump c1 c2 hc l _ t _ _ k6 (by omega) (by omega) h2
    | some q1 =>
      cases e2 : lackF th2 (pump - x.2.2) (x.2.1 - x.1) with
      | none =>
        simp only
        cases e3 : firstF pump c2 (min c2 (th2 + z)) l with
        | none => trivial
        | some k =>
          have n2 : 0 ≤ th2 + z := by
            by_cases c2 : 0 ≤ th2 + z
            · exact c2
            · obtain ⟨q, hq, _⟩ := lackS (th := th2) (m := pump - x.2.2) (k := x.2.1 - x.1) (by omega) (by omega) (by omega)
              rw [e2] at hq; cases hq
          have := first_ge pump c2 (by omega) l _ t _ k k6 (by omega) e3
          show x.1 + q1 ≤ k
          unfold lackF at e1
          split at e1
          · cases e1
          · split at e1
            · cases e1
            · cases e1; omega
      | some q2 =>
        show x.1 + q1 ≤ x.1 + q2
        unfold lackF at e1 e2
        split at e1
        · cases e1
        · rename_i c
          rw [if_neg c] at e2
          split at e1
          · cases e1
          · split at e2
            · cases e2
            · cases e1; cases e2
              have := Int.ediv_le_ediv (show 0 < 0 - (pump - x.2.2) by omega) h1
              omega
theorem dg_bd {B : Int} : ∀ (l : List Tri) (a t : Int), Dg B a l t → t ≤ a + B * l.length
  | [], a, t, h => by cases h; simp
  | x :: l, a, t, ⟨k1, k2, k3, k4, k5, k6⟩ => by
    have := dg_bd l _ _ k6
    simp only [List.length_cons, Int.natCast_add, Int.mul_add]
    omega
theorem least_bd (pump : Int) (hp : 0 ≤ pump) {B : Int} : ∀ (l : List Tri) (a t : Int) (best : Tri) (need stt : Int), Dg B a l t → need ≤ 2199023255552 * a → best.1 ≤ 2199023255552 * a → 0 ≤ a → (leastF pump best need stt l).1 ≤ 2199023255552 * t
  | [], a, t, best, need, stt, h, h1, h2, h3 => by cases h; exact h2
  | x :: l, a, t, best, need, stt, ⟨k1, k2, k3, k4, k5, k6⟩, h1, h2, h3 => by
    have e1 : (x.2.2 - pump) * (x.2.1 - x.1) ≤ 2199023255552 * (x.2.1 - x.1) := Int.mul_le_mul_of_nonneg_right (by omega) (by omega)
    rw [leastF]
    exact least_bd pump hp l _ t _ _ _ k6 (by omega) (by split <;> (try simp only) <;> omega) (by omega)

abbrev dgT (l : List Tri) : T := .lst (l.map tr)
theorem stepN_succ (pump cap w : Int) : ∀ (k : Nat) (o : Option Int), stepN pump cap w (k + 1) o = tickF pump cap w (stepN pump cap w k o)
  | 0, o => rfl
  | k + 1, o => stepN_succ pump cap w k (tickF pump cap w o)
theorem filt_none {B : Int} : ∀ (l : List Tri) (a t j : Int), Dg B a l t → j < a → l.filter (fun x => decide (x.1 ≤ j) && decide (j < x.2.1)) = []
  | [], _, _, _, _, _ => rfl
  | x :: l, a, t, j, ⟨k1, k2, k3, k4, k5, k6⟩, h => by
    rw [List.filter_cons, if_neg (by simp; omega), filt_none l _ t j k6 (by omega)]
theorem reck_step (pump cap : Int) {B : Int} : ∀ (l : List Tri) (a t : Int) (o : Option Int) (j : Nat), Dg B a l t → a + j < t →
    ∃ x p, l.filter (fun x => decide (x.1 ≤ a + j) && decide (a + j < x.2.1)) = [x] ∧ (j = 0 → p = o) ∧ (∀ i, j = i + 1 → (reckF pump cap o l)[i]? = some p) ∧ (reckF pump cap o l)[j]? = some (tickF pump cap x.2.2 p)
  | [], a, t, o, j, h, hj => by cases h; omega
  | x :: l, a, t, o, j, ⟨k1, k2, k3, k4, k5, k6⟩, hj => by
    rw [reckF]
    by_cases c : j < (x.2.1 - x.1).toNat
    · refine ⟨x, stepN pump cap x.2.2 j o, ?_, fun h => by subst h; rfl, fun i hi => ?_, ?_⟩
      · rw [List.filter_cons, if_pos (by simp; omega), filt_none l _ t _ k6 (by omega)]
      · subst hi
        rw [List.getElem?_append_left (by rw [outN_len]; omega), outN_get _ _ _ _ _ _ (by omega)]
      · rw [List.getElem?_append_left (by rw [outN_len]; exact c), outN_get _ _ _ _ _ _ c, stepN_succ]
    · obtain ⟨y, p, h1, h2, h3, h4⟩ := reck_step pump cap l x.2.1 t (stepN pump cap x.2.2 (x.2.1 - x.1).toNat o) (j - (x.2.1 - x.1).toNat) k6 (by omega)
      have e5 : x.2.1 + ((j - (x.2.1 - x.1).toNat : Nat) : Int) = a + j := by omega
      rw [e5] at h1
      refine ⟨y, p, ?_, fun h => by omega, fun i hi => ?_, ?_⟩
      · rw [List.filter_cons, if_neg (by simp; omega)]; exact h1
      · by_cases c2 : j = (x.2.1 - x.1).toNat
        · rw [List.getElem?_append_left (by rw [outN_len]; omega), outN_get _ _ _ _ _ _ (by omega)]
          rw [h2 (by omega), ← hi, c2]
        · rw [List.getElem?_append_right (by rw [outN_len]; omega), outN_len]
          exact h3 _ (by omega)
      · rw [List.getElem?_append_right (by rw [outN_len]; omega), outN_len]
        exact h4
theorem reck_full (pump cap : Int) {B : Int} : ∀ (l : List Tri) (a t : Int) (o : Option Int), Dg B a l t → ((reckF pump cap o l).length : Int) = t - a
  | [], a, t, o, h => by cases h; simp [reckF]
  | x :: l, a, t, o, ⟨k1, k2, k3, k4, k5, k6⟩ => by
    have := reck_full pump cap l _ t (stepN pump cap x.2.2 (x.2.1 - x.1).toNat o) k6
    simp only [reckF, List.length_append, outN_len]
    omega
theorem firstN_iff : ∀ (L : List (Option Int)) (j : Nat), L[j]? = some none → (∀ i < j, L[i]? ≠ some none) → firstN L = some j
  | [], j, h, _ => by simp at h
  | none :: L, j, h, h2 => by
    cases j with
    | zero => rfl
    | succ j => exact absurd rfl (h2 0 (by omega))
  | some v :: L, j, h, h2 => by
    cases j with
    | zero => simp at h
    | succ j =>
      have := firstN_iff L j (by simpa using h) fun i hi => by
        have := h2 (i + 1) (by omega)
        simpa using this
      simp [firstN, this]
theorem firstN_some : ∀ (L : List (Option Int)) (j : Nat), firstN L = some j → L[j]? = some none
  | [], j, h => by cases h
  | none :: L, j, h => by cases h; rfl
  | some v :: L, j, h => by
    simp only [firstN, Option.map_eq_some_iff] at h
    obtain ⟨i, h, rfl⟩ := h
    simpa using firstN_some L i h
theorem firstN_none : ∀ (L : List (Option Int)) (j : Nat), firstN L = none → L[j]? ≠ some none
  | [], j, h => by simp
  | none :: L, j, h => by cases h
  | some v :: L, j, h => by
    simp only [firstN, Option.map_eq_none_iff] at h
    cases j with
    | zero => simp
    | succ j => simpa using firstN_none L j h
/-- None stays None -/
theorem reck_absorb (pump cap : Int) {B : Int} (l : List Tri) (t : Int) (o : Option Int) (h : Dg B 0 l t) (i : Nat) (hi : (reckF pump cap o l)[i]? = some none) : ∀ (d : Nat) (q : Option Int), (reckF pump cap o l)[i + d]? = some q → q = none
  | 0, q, hq => by rw [Nat.add_zero, hi] at hq; cases hq; rfl
  | d + 1, q, hq => by
    have hlt : (0 : Int) + ((i + d + 1 : Nat) : Int) < t := by
      have := reck_full pump cap l 0 t o h
      have := (List.getElem?_eq_some_iff.mp hq).1
      omega
    obtain ⟨x, p, h1, h2, h3, h4⟩ := reck_step pump cap l 0 t o (i + d + 1) h hlt
    have := reck_absorb pump cap l t o h i hi d p (h3 (i + d) rfl)
    subst this
    rw [show i + (d + 1) = i + d + 1 by omega, h4] at hq
    cases hq; rfl
theorem r_step (n : Nat) (l : List Tri) (pump cap t : Int) {B : Int} (hB : B ≤ 17179869184) (hp : 0 ≤ pump) (hp2 : pump < 2 ^ 90) (hc : 0 ≤ cap) (h : Dg B 0 l t) (hl : l.length ≤ 1000) (j : Nat) (hj : (j : Int) < t) (S : Sto) :
    cal BT PD (n + 3) f__law_step [.t (dgT l), I pump, I cap, I j] S = .ok (.t (.bl true)) S := by
  rw [r_def (d := ⟨4, 9, b__law_step⟩) rfl rfl]
  obtain ⟨x, p, f1, f2, f3, f4⟩ := reck_step pump cap l 0 t (some cap) j h (by omega)
  have e6 : ∀ k S, callD (cal BT PD (n + 2)) true f_wind_left [.t (dgT l), I pump, I cap, I k] S = .ok (.t (opT (leftF pump cap k cap l))) S := fun k S => callD_t rfl (r_left n l pump cap k t hB hp hp2 h [])
  have e5 : ∀ S, callD (cal BT PD (n + 2)) true f_first_lack [.t (dgT l), I pump, I cap] S = .ok (.t (opT (firstF pump cap cap l))) S := fun S => call3 (r_first n l pump cap t hB hp hp2 h [])
  have e7 : ∀ (i : Int) S, callD (cal BT PD (n + 2)) true f__law_whole [I i] S = .ok (.t (.bl true)) S := fun i S => call1 (r_whole (n + 1) (.int i) [] true (.inr ⟨i, rfl, rfl⟩))
  have q2 := fun j o => reck_left pump cap hc l 0 t cap j o h hc (Int.le_refl _)
  have lj : leftF pump cap j cap l = tickF pump cap x.2.2 p := by have := q2 j _ f4; rwa [Int.zero_add] at this
  -- what was there
  have ahead : ∀ (C2 : ISs) (r : R D), tel (evSs BT (cal BT PD (n + 2)) C2 [some (.t (dgT l)), some (I pump), some (I cap), some (I j), some (.t (opT p)), none, none, none, none] S) = r →
      tel (evSs BT (cal BT PD (n + 2)) (.cons (.asg (.v 4) (.v 2))
      (.cons (.ite (.cmp .Gt (.v 3) (.c (.int 0))) (.cons (.asg (.v 4) (.call true f_wind_left (.cons (.v 0) (.cons (.v 1) (.cons (.v 2) (.cons (.bin false .Sub (.v 3) (.c (.int 1))) .nil))))))
      .nil) .nil) C2)) [some (.t (dgT l)), some (I pump), some (I cap), some (I j), none, none, none, none, none] S) = r := fun C2 r hr => by
    cases j with
    | zero =>
      have := f2 rfl
      subst this
      rw [← hr]
      have d0 : decide ((0 : Int) < ((0 : Nat) : Int)) = false := rfl
      have o1 : opT (some cap) = .int cap := rfl
      simp -implicitDefEqProofs only [s_asg, asg_ok, s_ex, ex_ok, s_ret, ret_ok, s_retN, s_brk, s_cnt, s_pas, s_ite, ite_t, ite_f, s_fo, s_nil, s_cons, sq_nx, sq_rt, sq_bk, sq_ct, sq_ex, tel_nx, tel_rt, tel_ex, e_v, oj_s, e_c, e_g, e_nop, e_one, e_bin, e_cmp, e_idx, two_ok, twoJ_ok, e_and, and_t, and_f, e_or, or_t, or_f, e_ite, iteE_t, iteE_f, e_not, not_b, e_ch2, ch2I_ok, ch2J_ok, ch2K_t, ch2K_f, e_ch3, ch3I_ok, ch3J_ok, ch3K_t, ch3K_f, e_tup, e_lst, e_bi, e_call, lsI_ok, e_dct, dct_ok, ps_nil, ps_cons, psI_ok, psK_ok, e_sl, slI_ok, e_isi, e_lc, lcJ_ok, e_bm, bmJ_ok, s_sti, stiI_ok, stiJ_ok, stiK_ok, nxO_s, s_wh, callD_f, es_nil, es_cons, esI_ok, esJ_ok, pAddI, pSubI, List.getElem?_cons_zero, List.getElem?_cons_succ, List.set_cons_zero, List.set_cons_succ, Bool.not_true, Bool.not_false, pGt, d0, o1]
    | succ i =>
      have l1 := q2 i _ (f3 i rfl)
      rw [Int.zero_add] at l1
      have d0 : decide ((0 : Int) < ((i + 1 : Nat) : Int)) = true := decide_eq_true (by omega)
      have e9 : ((i + 1 : Nat) : Int) - 1 = (i : Int) := by omega
      rw [← hr]
      simp -implicitDefEqProofs only [s_asg, asg_ok, s_ex, ex_ok, s_ret, ret_ok, s_retN, s_brk, s_cnt, s_pas, s_ite, ite_t, ite_f, s_fo, s_nil, s_cons, sq_nx, sq_rt, sq_bk, sq_ct, sq_ex, tel_nx, tel_rt, tel_ex, e_v, oj_s, e_c, e_g, e_nop, e_one, e_bin, e_cmp, e_idx, two_ok, twoJ_ok, e_and, and_t, and_f, e_or, or_t, or_f, e_ite, iteE_t, iteE_f, e_not, not_b, e_ch2, ch2I_ok, ch2J_ok, ch2K_t, ch2K_f, e_ch3, ch3I_ok, ch3J_ok, ch3K_t, ch3K_f, e_tup, e_lst, e_bi, e_call, lsI_ok, e_dct, dct_ok, ps_nil, ps_cons, psI_ok, psK_ok, e_sl, slI_ok, e_isi, e_lc, lcJ_ok, e_bm, bmJ_ok, s_sti, stiI_ok, stiJ_ok, stiK_ok, nxO_s, s_wh, callD_f, es_nil, es_cons, esI_ok, esJ_ok, pAddI, pSubI, List.getElem?_cons_zero, List.getElem?_cons_succ, List.set_cons_zero, List.set_cons_succ, Bool.not_true, Bool.not_false, pGt, d0, e9, e6, l1]
  simp only [b__law_step, List.map_cons, List.map_nil, List.length_cons, List.length_nil, List.replicate, List.cons_append, List.nil_append]
  refine ahead _ _ ?_
  cases p with
  | none =>
    rw [show tickF pump cap x.2.2 none = none from rfl] at lj
    have o1 : opT none = .non := rfl
    simp -implicitDefEqProofs only [s_asg, asg_ok, s_ex, ex_ok, s_ret, ret_ok, s_retN, s_brk, s_cnt, s_pas, s_ite, ite_t, ite_f, s_fo, s_nil, s_cons, sq_nx, sq_rt, sq_bk, sq_ct, sq_ex, tel_nx, tel_rt, tel_ex, e_v, oj_s, e_c, e_g, e_nop, e_one, e_bin, e_cmp, e_idx, two_ok, twoJ_ok, e_and, and_t, and_f, e_or, or_t, or_f, e_ite, iteE_t, iteE_f, e_not, not_b, e_ch2, ch2I_ok, ch2J_ok, ch2K_t, ch2K_f, e_ch3, ch3I_ok, ch3J_ok, ch3K_t, ch3K_f, e_tup, e_lst, e_bi, e_call, lsI_ok, e_dct, dct_ok, ps_nil, ps_cons, psI_ok, psK_ok, e_sl, slI_ok, e_isi, e_lc, lcJ_ok, e_bm, bmJ_ok, s_sti, stiI_ok, stiJ_ok, stiK_ok, nxO_s, s_wh, callD_f, es_nil, es_cons, esI_ok, esJ_ok, pAddI, pSubI, List.getElem?_cons_zero, List.getElem?_cons_succ, List.set_cons_zero, List.set_cons_succ, Bool.not_true, Bool.not_false, e6, lj, pIs_opt, Option.isNone_none]
  | some th =>
    have lc : ∀ S, lcL (.v 7) [some (.t (dgT l)), some (I pump), some (I cap), some (I j), some (.t (opT (some th))), some (.t (opT (tickF pump cap x.2.2 (some th)))), none, none, none] (evE BT (cal BT PD (n + 2)) (.ch2 .LtE .Lt (.idx (.v 7) (.c (.int 0))) (.v 3) (.idx (.v 7) (.c (.int 1))))) (evE BT (cal BT PD (n + 2)) (.idx (.v 7) (.c (.int 2)))) ((l.map tr).map .t) S [] = .ok [I x.2.2] S := fun S => by
      have := lcL_filt (p := .v 7) (ρ := [some (.t (dgT l)), some (I pump), some (I cap), some (I j), some (.t (opT (some th))), some (.t (opT (tickF pump cap x.2.2 (some th)))), none, none, none]) (cond := evE BT (cal BT PD (n + 2)) (.ch2 .LtE .Lt (.idx (.v 7) (.c (.int 0))) (.v 3) (.idx (.v 7) (.c (.int 1))))) (el := evE BT (cal BT PD (n + 2)) (.idx (.v 7) (.c (.int 2)))) (S := S)
        (fun x : Tri => .t (tr x)) (fun x => decide (x.1 ≤ j) && decide ((j : Int) < x.2.1)) (fun x => I x.2.2) l [] (by simp; unfold lim; omega) fun a _ => ⟨_, rfl, by
          by_cases c : a.1 ≤ j
          · simp -implicitDefEqProofs only [s_asg, asg_ok, s_ex, ex_ok, s_ret, ret_ok, s_retN, s_brk, s_cnt, s_pas, s_ite, ite_t, ite_f, s_fo, s_nil, s_cons, sq_nx, sq_rt, sq_bk, sq_ct, sq_ex, tel_nx, tel_rt, tel_ex, e_v, oj_s, e_c, e_g, e_nop, e_one, e_bin, e_cmp, e_idx, two_ok, twoJ_ok, e_and, and_t, and_f, e_or, or_t, or_f, e_ite, iteE_t, iteE_f, e_not, not_b, e_ch2, ch2I_ok, ch2J_ok, ch2K_t, ch2K_f, e_ch3, ch3I_ok, ch3J_ok, ch3K_t, ch3K_f, e_tup, e_lst, e_bi, e_call, lsI_ok, e_dct, dct_ok, ps_nil, ps_cons, psI_ok, psK_ok, e_sl, slI_ok, e_isi, e_lc, lcJ_ok, e_bm, bmJ_ok, s_sti, stiI_ok, stiJ_ok, stiK_ok, nxO_s, s_wh, callD_f, es_nil, es_cons, esI_ok, esJ_ok, pAddI, pSubI, List.getElem?_cons_zero, List.getElem?_cons_succ, List.set_cons_zero, List.set_cons_succ, Bool.not_true, Bool.not_false, ix_tr0, ix_tr1, pLe, decide_eq_true c, pLt, Bool.true_and]
          · simp -implicitDefEqProofs only [s_asg, asg_ok, s_ex, ex_ok, s_ret, ret_ok, s_retN, s_brk, s_cnt, s_pas, s_ite, ite_t, ite_f, s_fo, s_nil, s_cons, sq_nx, sq_rt, sq_bk, sq_ct, sq_ex, tel_nx, tel_rt, tel_ex, e_v, oj_s, e_c, e_g, e_nop, e_one, e_bin, e_cmp, e_idx, two_ok, twoJ_ok, e_and, and_t, and_f, e_or, or_t, or_f, e_ite, iteE_t, iteE_f, e_not, not_b, e_ch2, ch2I_ok, ch2J_ok, ch2K_t, ch2K_f, e_ch3, ch3I_ok, ch3J_ok, ch3K_t, ch3K_f, e_tup, e_lst, e_bi, e_call, lsI_ok, e_dct, dct_ok, ps_nil, ps_cons, psI_ok, psK_ok, e_sl, slI_ok, e_isi, e_lc, lcJ_ok, e_bm, bmJ_ok, s_sti, stiI_ok, stiJ_ok, stiK_ok, nxO_s, s_wh, callD_f, es_nil, es_cons, esI_ok, esJ_ok, pAddI, pSubI, List.getElem?_cons_zero, List.getElem?_cons_succ, List.set_cons_zero, List.set_cons_succ, Bool.not_true, Bool.not_false, ix_tr0, ix_tr1, pLe, decide_eq_false c, pLt, Bool.false_and], fun _ => by
          simp -implicitDefEqProofs only [s_asg, asg_ok, s_ex, ex_ok, s_ret, ret_ok, s_retN, s_brk, s_cnt, s_pas, s_ite, ite_t, ite_f, s_fo, s_nil, s_cons, sq_nx, sq_rt, sq_bk, sq_ct, sq_ex, tel_nx, tel_rt, tel_ex, e_v, oj_s, e_c, e_g, e_nop, e_one, e_bin, e_cmp, e_idx, two_ok, twoJ_ok, e_and, and_t, and_f, e_or, or_t, or_f, e_ite, iteE_t, iteE_f, e_not, not_b, e_ch2, ch2I_ok, ch2J_ok, ch2K_t, ch2K_f, e_ch3, ch3I_ok, ch3J_ok, ch3K_t, ch3K_f, e_tup, e_lst, e_bi, e_call, lsI_ok, e_dct, dct_ok, ps_nil, ps_cons, psI_ok, psK_ok, e_sl, slI_ok, e_isi, e_lc, lcJ_ok, e_bm, bmJ_ok, s_sti, stiI_ok, stiJ_ok, stiK_ok, nxO_s, s_wh, callD_f, es_nil, es_cons, esI_ok, esJ_ok, pAddI, pSubI, List.getElem?_cons_zero, List.getElem?_cons_succ, List.set_cons_zero, List.set_cons_succ, Bool.not_true, Bool.not_false, ix_tr2]⟩
      simp only [Int.zero_add] at f1
      rw [f1] at this
      simpa [Function.comp_def] using this
    have mk : ∀ S, mkL false [I x.2.2] S = .ok (.t (.lst [.int x.2.2])) S := fun S => rfl
    have i0 : ∀ S, pIdx (.t (.lst [.int x.2.2])) (I 0) S = .ok (I x.2.2) S := fun S => rfl
    have ad : ∀ S, pBin false .Add (.t (opT (some th))) (I pump) S = .ok (I (th + pump)) S := fun _ => rfl
    simp -implicitDefEqProofs only [s_asg, asg_ok, s_ex, ex_ok, s_ret, ret_ok, s_retN, s_brk, s_cnt, s_pas, s_ite, ite_t, ite_f, s_fo, s_nil, s_cons, sq_nx, sq_rt, sq_bk, sq_ct, sq_ex, tel_nx, tel_rt, tel_ex, e_v, oj_s, e_c, e_g, e_nop, e_one, e_bin, e_cmp, e_idx, two_ok, twoJ_ok, e_and, and_t, and_f, e_or, or_t, or_f, e_ite, iteE_t, iteE_f, e_not, not_b, e_ch2, ch2I_ok, ch2J_ok, ch2K_t, ch2K_f, e_ch3, ch3I_ok, ch3J_ok, ch3K_t, ch3K_f, e_tup, e_lst, e_bi, e_call, lsI_ok, e_dct, dct_ok, ps_nil, ps_cons, psI_ok, psK_ok, e_sl, slI_ok, e_isi, e_lc, lcJ_ok, e_bm, bmJ_ok, s_sti, stiI_ok, stiJ_ok, stiK_ok, nxO_s, s_wh, callD_f, es_nil, es_cons, esI_ok, esJ_ok, pAddI, pSubI, List.getElem?_cons_zero, List.getElem?_cons_succ, List.set_cons_zero, List.set_cons_succ, Bool.not_true, Bool.not_false, e6, lj, pIs_opt, Option.isNone_some, lcI_ok (itL _ _), wipeL, Pt.own]
    rw [lc]
    simp -implicitDefEqProofs only [s_asg, asg_ok, s_ex, ex_ok, s_ret, ret_ok, s_retN, s_brk, s_cnt, s_pas, s_ite, ite_t, ite_f, s_fo, s_nil, s_cons, sq_nx, sq_rt, sq_bk, sq_ct, sq_ex, tel_nx, tel_rt, tel_ex, e_v, oj_s, e_c, e_g, e_nop, e_one, e_bin, e_cmp, e_idx, two_ok, twoJ_ok, e_and, and_t, and_f, e_or, or_t, or_f, e_ite, iteE_t, iteE_f, e_not, not_b, e_ch2, ch2I_ok, ch2J_ok, ch2K_t, ch2K_f, e_ch3, ch3I_ok, ch3J_ok, ch3K_t, ch3K_f, e_tup, e_lst, e_bi, e_call, lsI_ok, e_dct, dct_ok, ps_nil, ps_cons, psI_ok, psK_ok, e_sl, slI_ok, e_isi, e_lc, lcJ_ok, e_bm, bmJ_ok, s_sti, stiI_ok, stiJ_ok, stiK_ok, nxO_s, s_wh, callD_f, es_nil, es_cons, esI_ok, esJ_ok, pAddI, pSubI, List.getElem?_cons_zero, List.getElem?_cons_succ, List.set_cons_zero, List.set_cons_succ, Bool.not_true, Bool.not_false, mk, i0, ad, pLt]
    by_cases c : th + pump - x.2.2 < 0
    · have tk : tickF pump cap x.2.2 (some th) = none := by
        have : min cap (th + pump - x.2.2) < 0 := by omega
        simp only [tickF, if_pos this]
      have fN : firstN (reckF pump cap (some cap) l) = some j := firstN_iff _ _ (by rw [f4, tk]) fun i hi hn => by
        obtain ⟨d, hd⟩ : ∃ d, j = i + d + 1 := ⟨j - i - 1, by omega⟩
        have := reck_absorb pump cap l t (some cap) h i hn d _ (f3 (i + d) hd)
        cases this
      have q1 := reck_first pump cap hc l 0 t cap h hc (Int.le_refl _)
      rw [fN] at q1
      simp only [Option.map_some, Int.zero_add] at q1
      have eq : ∀ S, pCmp .Eq (.t (opT (some (j : Int)))) (I j) S = .ok (.t (.bl true)) S := fun S => by
        show pCmp .Eq (I j) (I j) S = _
        rw [pEqI, decide_eq_true rfl]
      simp -implicitDefEqProofs only [s_asg, asg_ok, s_ex, ex_ok, s_ret, ret_ok, s_retN, s_brk, s_cnt, s_pas, s_ite, ite_t, ite_f, s_fo, s_nil, s_cons, sq_nx, sq_rt, sq_bk, sq_ct, sq_ex, tel_nx, tel_rt, tel_ex, e_v, oj_s, e_c, e_g, e_nop, e_one, e_bin, e_cmp, e_idx, two_ok, twoJ_ok, e_and, and_t, and_f, e_or, or_t, or_f, e_ite, iteE_t, iteE_f, e_not, not_b, e_ch2, ch2I_ok, ch2J_ok, ch2K_t, ch2K_f, e_ch3, ch3I_ok, ch3J_ok, ch3K_t, ch3K_f, e_tup, e_lst, e_bi, e_call, lsI_ok, e_dct, dct_ok, ps_nil, ps_cons, psI_ok, psK_ok, e_sl, slI_ok, e_isi, e_lc, lcJ_ok, e_bm, bmJ_ok, s_sti, stiI_ok, stiJ_ok, stiK_ok, nxO_s, s_wh, callD_f, es_nil, es_cons, esI_ok, esJ_ok, pAddI, pSubI, List.getElem?_cons_zero, List.getElem?_cons_succ, List.set_cons_zero, List.set_cons_succ, Bool.not_true, Bool.not_false, decide_eq_true c, tk, pIs_opt, Option.isNone_none, e5, q1, eq]
    · have tk : tickF pump cap x.2.2 (some th) = some (min cap (th + pump - x.2.2)) := by
        have : ¬ (min cap (th + pump - x.2.2) < 0) := by omega
        simp only [tickF, if_neg this]
      have wh : ∀ i S, callD (cal BT PD (n + 2)) true f__law_whole [.t (opT (some i))] S = .ok (.t (.bl true)) S := fun i S => e7 i S
      have eq : ∀ i S, pCmp .Eq (.t (opT (some i))) (I i) S = .ok (.t (.bl true)) S := fun i S => by
        show pCmp .Eq (I i) (I i) S = _
        rw [pEqI, decide_eq_true rfl]
      simp -implicitDefEqProofs only [s_asg, asg_ok, s_ex, ex_ok, s_ret, ret_ok, s_retN, s_brk, s_cnt, s_pas, s_ite, ite_t, ite_f, s_fo, s_nil, s_cons, sq_nx, sq_rt, sq_bk, sq_ct, sq_ex, tel_nx, tel_rt, tel_ex, e_v, oj_s, e_c, e_g, e_nop, e_one, e_bin, e_cmp, e_idx, two_ok, twoJ_ok, e_and, and_t, and_f, e_or, or_t, or_f, e_ite, iteE_t, iteE_f, e_not, not_b, e_ch2, ch2I_ok, ch2J_ok, ch2K_t, ch2K_f, e_ch3, ch3I_ok, ch3J_ok, ch3K_t, ch3K_f, e_tup, e_lst, e_bi, e_call, lsI_ok, e_dct, dct_ok, ps_nil, ps_cons, psI_ok, psK_ok, e_sl, slI_ok, e_isi, e_lc, lcJ_ok, e_bm, bmJ_ok, s_sti, stiI_ok, stiJ_ok, stiK_ok, nxO_s, s_wh, callD_f, es_nil, es_cons, esI_ok, esJ_ok, pAddI, pSubI, List.getElem?_cons_zero, List.getElem?_cons_succ, List.set_cons_zero, List.set_cons_succ, Bool.not_true, Bool.not_false, decide_eq_false c, tk, wh, pMin, eq]

theorem r_cap (n : Nat) (ns : List Int) (l : List Tri) (pump t : Int) (h : Dg 17179869184 0 l t) : ∃ c : Int, cal BT PD (n + 2) f__law_cap [.t (.scr ns), .t (dgT l), I pump] [] = .ok (I c) [] ∧ 0 ≤ c := by
  rw [r_def (d := ⟨3, 6, b__law_cap⟩) rfl rfl]
  obtain ⟨c1, e2⟩ := r_cell n ns 1 []
  have e2 : ∀ S, callD (cal BT PD (n + 1)) true f__law_cell_at [.t (.scr ns), I 1] S = .ok (I c1) S := fun S => call2 e2
  generalize hp : c1 * 397204094 % 2147483647 / 8 = num
  have p1 : 0 ≤ num := by omega
  have e5 : ∀ S, callD (cal BT PD (n + 1)) true f_least_cap [.t (dgT l), I pump] S = .ok (.t (tr (leastF pump (0, 0, 0) 0 0 l))) S := fun S => call2 (r_least n l pump t (Int.le_refl _) h [])
  have w0 : 0 ≤ (leastF pump (0, 0, 0) 0 0 l).1 := least_mono pump l (0, 0, 0) 0 0
  generalize leastF pump (0, 0, 0) 0 0 l = R at *
  obtain ⟨c, ic, mc⟩ := ixAt_in (xs := [0, num / 6 % 100, R.1 / 2, R.1, max 0 (R.1 - 1), R.1 + num / 6, 10 ^ 30]) (i := num % 7) (by omega) (by simp; omega)
  refine ⟨c, ?_, ?_⟩
  · have mk7 : ∀ a b c d e f g S, mkL false [I a, I b, I c, I d, I e, I f, I g] S = .ok (.t (.lst ([a, b, c, d, e, f, g].map .int))) S := fun _ _ _ _ _ _ _ _ => rfl
    have pw : ∀ S, pBin false .Pow (I 10) (I 30) S = .ok (I (10 ^ 30)) S := fun S => pPow ⟨by decide, by decide, by decide⟩
    simp -implicitDefEqProofs (disch := omega) only [b__law_cap, List.map_cons, List.map_nil, List.length_cons, List.length_nil, List.replicate, List.cons_append, List.nil_append, s_asg, asg_ok, s_ex, ex_ok, s_ret, ret_ok, s_retN, s_brk, s_cnt, s_pas, s_ite, ite_t, ite_f, s_fo, s_nil, s_cons, sq_nx, sq_rt, sq_bk, sq_ct, sq_ex, tel_nx, tel_rt, tel_ex, e_v, oj_s, e_c, e_g, e_nop, e_one, e_bin, e_cmp, e_idx, two_ok, twoJ_ok, e_and, and_t, and_f, e_or, or_t, or_f, e_ite, iteE_t, iteE_f, e_not, not_b, e_ch2, ch2I_ok, ch2J_ok, ch2K_t, ch2K_f, e_ch3, ch3I_ok, ch3J_ok, ch3K_t, ch3K_f, e_tup, e_lst, e_bi, e_call, lsI_ok, e_dct, dct_ok, ps_nil, ps_cons, psI_ok, psK_ok, e_sl, slI_ok, e_isi, e_lc, lcJ_ok, e_bm, bmJ_ok, s_sti, stiI_ok, stiJ_ok, stiK_ok, nxO_s, s_wh, callD_f, es_nil, es_cons, esI_ok, esJ_ok, pAddI, pSubI, List.getElem?_cons_zero, List.getElem?_cons_succ, List.set_cons_zero, List.set_cons_succ, Bool.not_true, Bool.not_false, e2, pMulR, pMod, pDiv, hp, e5, ix_tr0, pMax, pw]
    simp -implicitDefEqProofs (disch := omega) only [s_asg, asg_ok, s_ex, ex_ok, s_ret, ret_ok, s_retN, s_brk, s_cnt, s_pas, s_ite, ite_t, ite_f, s_fo, s_nil, s_cons, sq_nx, sq_rt, sq_bk, sq_ct, sq_ex, tel_nx, tel_rt, tel_ex, e_v, oj_s, e_c, e_g, e_nop, e_one, e_bin, e_cmp, e_idx, two_ok, twoJ_ok, e_and, and_t, and_f, e_or, or_t, or_f, e_ite, iteE_t, iteE_f, e_not, not_b, e_ch2, ch2I_ok, ch2J_ok, ch2K_t, ch2K_f, e_ch3, ch3I_ok, ch3J_ok, ch3K_t, ch3K_f, e_tup, e_lst, e_bi, e_call, lsI_ok, e_dct, dct_ok, ps_nil, ps_cons, psI_ok, psK_ok, e_sl, slI_ok, e_isi, e_lc, lcJ_ok, e_bm, bmJ_ok, s_sti, stiI_ok, stiJ_ok, stiK_ok, nxO_s, s_wh, callD_f, es_nil, es_cons, esI_ok, esJ_ok, pAddI, pSubI, List.getElem?_cons_zero, List.getElem?_cons_succ, List.set_cons_zero, List.set_cons_succ, Bool.not_true, Bool.not_false, mk7, pMod, pIdxI ic]
  · simp only [List.mem_cons, List.not_mem_nil, or_false] at mc
    rcases mc with rfl | rfl | rfl | rfl | rfl | rfl | rfl <;> omega
theorem dg_in {B : Int} : ∀ {a : Int} {l : List Tri} {t : Int}, Dg B a l t → ∀ x ∈ l, a ≤ x.1 ∧ x.1 < x.2.1 ∧ x.2.1 ≤ t
  | a, [], t, _, x, h => absurd h (by simp)
  | a, y :: l, t, ⟨k1, k2, k3, k4, k5, k6⟩, x, h => by
    have := dg_le l _ _ k6
    rcases List.mem_cons.mp h with rfl | h
    · exact ⟨by omega, k2, by omega⟩
    · have := dg_in k6 x h
      exact ⟨by omega, this.2.1, this.2.2⟩
/-- a list of ticks at a place of the store -/
def At (t : Int) (r : Nat) (m : Nat) (S : Sto) : Prop := ∃ ts : List Int, S[r]? = some (.lst (ts.map fun i => I i)) ∧ (∀ z ∈ ts, 0 ≤ z ∧ z < t) ∧ ts.length ≤ m
theorem at_app {t : Int} {r m : Nat} {S : Sto} (h : At t r m S) (v : Int) (h0 : 0 ≤ v) (h1 : v < t) (hm : m < 1000) : ∃ S', pBm false .append (.ref r) [I v] S = .ok (.t .non) S' ∧ At t r (m + 1) S' ∧ kindD S (.ref r) = bmT .append := by
  obtain ⟨ts, e, h2, h3⟩ := h
  have hl : (ts.map fun i => I i).length < lim := by simp; unfold lim; omega
  have hr : r < S.length := (List.getElem?_eq_some_iff.mp e).1
  refine ⟨S.set r (.lst ((ts.map fun i => I i) ++ [I v])), ?_, ⟨ts ++ [v], ?_, ?_, by simp; omega⟩, ?_⟩
  · show pApp (.ref r) [I v] S = _
    simp only [pApp, e, if_pos hl]
  · rw [List.getElem?_set]; simp [hr]
  · intro z hz
    rcases List.mem_append.mp hz with hz | hz
    · exact h2 z hz
    · rw [List.mem_singleton] at hz; subst hz; exact ⟨h0, h1⟩
  · show (match S[r]? with | some (.lst _) => 3 | some (.dct _) => 5 | _ => 9) = 3
    rw [e]
theorem tick_loop (C : Cal) (e0 e2 e3 e4 e5 e11 : Option D) (l : List Tri) (t : Int) (h : Dg 17179869184 0 l t) (hl : 1 ≤ l.length) (hl2 : l.length ≤ 100) (r : Nat) : ∀ (cells : List Int) (m : Nat) (x7 x8 x9 x10 : Option D) (S : Sto), At t r m S → m + cells.length < 500 →
    ∃ y7 y8 y9 y10 S2, foL (.v 7) (evSs BT C b_law_2) (cells.map fun i => .t (.int i)) [e0, some (.t (dgT l)), e2, e3, e4, e5, some (.ref r), x7, x8, x9, x10, e11] S = .nx [e0, some (.t (dgT l)), e2, e3, e4, e5, some (.ref r), y7, y8, y9, y10, e11] S2 ∧ At t r (m + cells.length) S2
  | [], m, x7, x8, x9, x10, S, hA, hm => ⟨_, _, _, _, S, rfl, hA⟩
  | i :: cells, m, x7, x8, x9, x10, S, hA, hm => by
    simp only [List.length_cons] at hm
    generalize hnum : i * 764261123 % 2147483647 / 8 = num
    have hn : 0 ≤ num ∧ num < 268435456 := by omega
    have q9 : 0 ≤ num / 4 % l.length ∧ num / 4 % (l.length : Int) < l.length := ⟨Int.emod_nonneg _ (by omega), Int.emod_lt_of_pos _ (by omega)⟩
    obtain ⟨x, ix, mx⟩ := ixAt_in (xs := l) (i := num / 4 % l.length) q9.1 q9.2
    obtain ⟨d1, d2, d3⟩ := dg_in h x mx
    have q8 : 0 ≤ num * 4 % (x.2.1 - x.1) ∧ num * 4 % (x.2.1 - x.1) < x.2.1 - x.1 := ⟨Int.emod_nonneg _ (by omega), Int.emod_lt_of_pos _ (by omega)⟩
    obtain ⟨v, iv, mv⟩ := ixAt_in (xs := [x.1, x.2.1 - 1, x.1 + num * 4 % (x.2.1 - x.1), (x.1 + x.2.1) / 2]) (i := num % 4) (by omega) (by simp; omega)
    have hv : 0 ≤ v ∧ v < t := by
      simp only [List.mem_cons, List.not_mem_nil, or_false] at mv
      rcases mv with rfl | rfl | rfl | rfl <;> omega
    obtain ⟨S1, a1, a2, a3⟩ := at_app hA v hv.1 hv.2 (by omega)
    have mk4 : ∀ a b c d S, mkL false [I a, I b, I c, I d] S = .ok (.t (.lst ([a, b, c, d].map .int))) S := fun _ _ _ _ _ => rfl
    have ixd : ∀ S, pIdx (.t (dgT l)) (I (num / 4 % l.length)) S = .ok (.t (tr x)) S := fun S => pIdxL (by
      unfold ixAt at ix ⊢
      rw [if_pos q9.1] at ix ⊢
      rw [List.getElem?_map, ix]; rfl)
    have len : ∀ m S, pBi m .len [.t (dgT l)] S = .ok (I l.length) S := fun m S => by rw [pLenL, List.length_map]
    obtain ⟨y7, y8, y9, y10, S2, e, hA2⟩ := tick_loop C e0 e2 e3 e4 e5 e11 l t h hl hl2 r cells (m + 1) (some (I i)) (some (I num)) (some (.t (tr x))) (some (.t (.lst ([x.1, x.2.1 - 1, x.1 + num * 4 % (x.2.1 - x.1), (x.1 + x.2.1) / 2].map .int)))) S1 a2 (by omega)
    refine ⟨y7, y8, y9, y10, S2, ?_, by rw [List.length_cons, show m + (cells.length + 1) = m + 1 + cells.length by omega]; exact hA2⟩
    simp only [List.map_cons, foL, setP, List.set_cons_zero, List.set_cons_succ]
    simp -implicitDefEqProofs (disch := omega) only [s_asg, asg_ok, s_ex, ex_ok, s_ret, ret_ok, s_retN, s_brk, s_cnt, s_pas, s_ite, ite_t, ite_f, s_fo, s_nil, s_cons, sq_nx, sq_rt, sq_bk, sq_ct, sq_ex, tel_nx, tel_rt, tel_ex, e_v, oj_s, e_c, e_g, e_nop, e_one, e_bin, e_cmp, e_idx, two_ok, twoJ_ok, e_and, and_t, and_f, e_or, or_t, or_f, e_ite, iteE_t, iteE_f, e_not, not_b, e_ch2, ch2I_ok, ch2J_ok, ch2K_t, ch2K_f, e_ch3, ch3I_ok, ch3J_ok, ch3K_t, ch3K_f, e_tup, e_lst, e_bi, e_call, lsI_ok, e_dct, dct_ok, ps_nil, ps_cons, psI_ok, psK_ok, e_sl, slI_ok, e_isi, e_lc, lcJ_ok, e_bm, bmJ_ok, s_sti, stiI_ok, stiJ_ok, stiK_ok, nxO_s, s_wh, callD_f, es_nil, es_cons, esI_ok, esJ_ok, pAddI, pSubI, List.getElem?_cons_zero, List.getElem?_cons_succ, List.set_cons_zero, List.set_cons_succ, Bool.not_true, Bool.not_false, pMulR, pMod, pDiv, hnum, len, ixd, ix_tr0, ix_tr1]
    simp -implicitDefEqProofs (disch := omega) only [s_asg, asg_ok, s_ex, ex_ok, s_ret, ret_ok, s_retN, s_brk, s_cnt, s_pas, s_ite, ite_t, ite_f, s_fo, s_nil, s_cons, sq_nx, sq_rt, sq_bk, sq_ct, sq_ex, tel_nx, tel_rt, tel_ex, e_v, oj_s, e_c, e_g, e_nop, e_one, e_bin, e_cmp, e_idx, two_ok, twoJ_ok, e_and, and_t, and_f, e_or, or_t, or_f, e_ite, iteE_t, iteE_f, e_not, not_b, e_ch2, ch2I_ok, ch2J_ok, ch2K_t, ch2K_f, e_ch3, ch3I_ok, ch3J_ok, ch3K_t, ch3K_f, e_tup, e_lst, e_bi, e_call, lsI_ok, e_dct, dct_ok, ps_nil, ps_cons, psI_ok, psK_ok, e_sl, slI_ok, e_isi, e_lc, lcJ_ok, e_bm, bmJ_ok, s_sti, stiI_ok, stiJ_ok, stiK_ok, nxO_s, s_wh, callD_f, es_nil, es_cons, esI_ok, esJ_ok, pAddI, pSubI, List.getElem?_cons_zero, List.getElem?_cons_succ, List.set_cons_zero, List.set_cons_succ, Bool.not_true, Bool.not_false, mk4, bmI_ok a3, pMod, pIdxI iv, a1]
    rw [← e]
theorem step_loop (C : Cal) (l : List Tri) (pump cap t : Int) (e0 e4 e5 e6 e7 e8 e9 e10 : Option D) (S : Sto) (hs : ∀ (j : Int) S, 0 ≤ j → j < t → callD C true f__law_step [.t (dgT l), I pump, I cap, I j] S = .ok (.t (.bl true)) S) : ∀ (ts : List Int) (x : Option D), (∀ z ∈ ts, 0 ≤ z ∧ z < t) →
    ∃ y, foL (.v 11) (evSs BT C b_law_1) (ts.map fun i => .t (.int i)) [e0, some (.t (dgT l)), some (I pump), some (I cap), e4, e5, e6, e7, e8, e9, e10, x] S = .nx [e0, some (.t (dgT l)), some (I pump), some (I cap), e4, e5, e6, e7, e8, e9, e10, y] S
  | [], x, _ => ⟨_, rfl⟩
  | j :: ts, x, h => by
    obtain ⟨y, e⟩ := step_loop C l pump cap t e0 e4 e5 e6 e7 e8 e9 e10 S hs ts (some (I j)) fun z hz => h z (List.mem_cons_of_mem _ hz)
    have hj := h j List.mem_cons_self
    refine ⟨y, ?_⟩
    simp only [List.map_cons, foL, setP, List.set_cons_zero, List.set_cons_succ]
    simp -implicitDefEqProofs only [s_asg, asg_ok, s_ex, ex_ok, s_ret, ret_ok, s_retN, s_brk, s_cnt, s_pas, s_ite, ite_t, ite_f, s_fo, s_nil, s_cons, sq_nx, sq_rt, sq_bk, sq_ct, sq_ex, tel_nx, tel_rt, tel_ex, e_v, oj_s, e_c, e_g, e_nop, e_one, e_bin, e_cmp, e_idx, two_ok, twoJ_ok, e_and, and_t, and_f, e_or, or_t, or_f, e_ite, iteE_t, iteE_f, e_not, not_b, e_ch2, ch2I_ok, ch2J_ok, ch2K_t, ch2K_f, e_ch3, ch3I_ok, ch3J_ok, ch3K_t, ch3K_f, e_tup, e_lst, e_bi, e_call, lsI_ok, e_dct, dct_ok, ps_nil, ps_cons, psI_ok, psK_ok, e_sl, slI_ok, e_isi, e_lc, lcJ_ok, e_bm, bmJ_ok, s_sti, stiI_ok, stiJ_ok, stiK_ok, nxO_s, s_wh, callD_f, es_nil, es_cons, esI_ok, esJ_ok, pAddI, pSubI, List.getElem?_cons_zero, List.getElem?_cons_succ, List.set_cons_zero, List.set_cons_succ, Bool.not_true, Bool.not_false, hs j _ hj.1 hj.2]
    rw [← e]
theorem hlaw (ns : List Int) (hl : ns.length ≤ 63) (hb : ∀ z ∈ ns, Builtin.Int.intBits z ≤ 1048576) : ∃ S', run 20 f_law [.t (.scr ns)] [] = .ok (.t (.bl true)) S' := by
  obtain ⟨l, t, S0, e1, h1, h2, h3⟩ := r_draught 16 2 ns hl true 17179869184 (by decide) (fun _ => Int.le_refl _)
  have e1 : ∀ S, callD (cal BT PD 19) true f__law_draught [.t (.scr ns), I 2, .t (.bl true)] S = .ok (.t (dgT l)) S := fun S => call3 e1
  obtain ⟨pump, e2, p1, p2⟩ := r_pump 17 ns l t h1 h2 (by omega) []
  have e2 : ∀ S, callD (cal BT PD 19) true f__law_pump [.t (.scr ns), .t (dgT l)] S = .ok (I pump) S := fun S => call2 e2
  obtain ⟨cap, e3, c0⟩ := r_cap 17 ns l pump t h1
  have e3 : ∀ S, callD (cal BT PD 19) true f__law_cap [.t (.scr ns), .t (dgT l), I pump] S = .ok (I cap) S := fun S => call3 e3
  have e5 : ∀ S, callD (cal BT PD 19) true f_first_lack [.t (dgT l), I pump, I cap] S = .ok (.t (opT (firstF pump cap cap l))) S := fun S => call3 (r_first 17 l pump cap t (B := 17179869184) (by decide) p1 (by omega) h1 [])
  have e6 : ∀ k S, callD (cal BT PD 19) true f_wind_left [.t (dgT l), I pump, I cap, I k] S = .ok (.t (opT (leftF pump cap k cap l))) S := fun k S => callD_t rfl (r_left 17 l pump cap k t (B := 17179869184) (by decide) p1 (by omega) h1 [])
  have e7 : ∀ (i : Int) S, callD (cal BT PD 19) true f__law_whole [I i] S = .ok (.t (.bl true)) S := fun i S => call1 (r_whole 18 (.int i) [] true (.inr ⟨i, rfl, rfl⟩))
  have e8 : ∀ (j : Int) S, 0 ≤ j → j < t → callD (cal BT PD 19) true f__law_step [.t (dgT l), I pump, I cap, I j] S = .ok (.t (.bl true)) S := fun j S h0 h => by
    obtain ⟨k, rfl⟩ : ∃ k : Nat, j = k := ⟨j.toNat, by omega⟩
    exact callD_t rfl (r_step 16 l pump cap t (Int.le_refl _) p1 (by omega) c0 h1 (by omega) k h [])
  have q1 := reck_first pump cap c0 l 0 t cap h1 c0 (Int.le_refl _)
  have q2 := fun j o => reck_left pump cap c0 l 0 t cap j o h1 c0 (Int.le_refl _)
  have hfull := reck_full pump cap l 0 t (some cap) h1
  have ht : 0 < t := by
    obtain ⟨x, hx, hx2⟩ := dg_last l 0 t h1 (by omega)
    have := dg_in h1 x (List.mem_of_getElem? hx)
    omega
  generalize hdue : reckF pump cap (some cap) l = due at *
  obtain ⟨x, hx2, ixl⟩ := dg_ixl h1 (by omega)
  have negOne : ∀ (ρ : Ev) (S : Sto), evE BT (cal BT PD 19) (.neg (.c (.int 1))) ρ S = .ok (I (-1)) S := fun _ _ => rfl
  have mkT0 : ∀ a b, mkL true [I a, I b] [] = .ok (.ref 0) [.lst [I a, I b]] := fun _ _ => rfl
  -- the loops at the end
  have fin : ∀ (lk : Option D) (r m : Nat) (S : Sto), At t r m S → m ≤ 10 → ∃ S', tel (evSs BT (cal BT PD 19) (.cons (.fo (.v 7) .seq (.cons (.sl (.v 0) (.c (.int 3)) (.c (.int 33))) .nil) b_law_2)
      (.cons (.fo (.v 11) .seq (.cons (.frz (.v 6)) .nil) b_law_1)
      (.cons (.ret (.c (.bl true)))
      .nil))) [some (.t (.scr ns)), some (.t (dgT l)), some (I pump), some (I cap), some (I t), lk, some (.ref r), none, none, none, none, none] S) = .ok (.t (.bl true)) S' := fun lk r m S hA hm => by
    have hcl := cut_len ns (some 3) (some 33)
    obtain ⟨y7, y8, y9, y10, S2, e, ts, a1, a2, a3⟩ := tick_loop (cal BT PD 19) (some (.t (.scr ns))) (some (I pump)) (some (I cap)) (some (I t)) lk none l t h1 h2 (by omega) r (cut ns (some 3) (some 33)) m none none none none S hA (by omega)
    have fz : frz 9 S2 (.ref r) = some (.lst (ts.map .int), S2.set r .dead) := frz_lst (by rw [a1]; simp [Function.comp_def])
    have v6 : ∀ S, evE BT (cal BT PD 19) (.v 6) [some (.t (.scr ns)), some (.t (dgT l)), some (I pump), some (I cap), some (I t), lk, some (.ref r), y7, y8, y9, y10, none] S = .ok (.ref r) S := fun _ => rfl
    obtain ⟨y, e'⟩ := step_loop (cal BT PD 19) l pump cap t (some (.t (.scr ns))) (some (I t)) lk (some (.ref r)) y7 y8 y9 y10 (S2.set r .dead) e8 ts none a2
    refine ⟨S2.set r .dead, ?_⟩
    simp -implicitDefEqProofs only [s_asg, asg_ok, s_ex, ex_ok, s_ret, ret_ok, s_retN, s_brk, s_cnt, s_pas, s_ite, ite_t, ite_f, s_fo, s_nil, s_cons, sq_nx, sq_rt, sq_bk, sq_ct, sq_ex, tel_nx, tel_rt, tel_ex, e_v, oj_s, e_c, e_g, e_nop, e_one, e_bin, e_cmp, e_idx, two_ok, twoJ_ok, e_and, and_t, and_f, e_or, or_t, or_f, e_ite, iteE_t, iteE_f, e_not, not_b, e_ch2, ch2I_ok, ch2J_ok, ch2K_t, ch2K_f, e_ch3, ch3I_ok, ch3J_ok, ch3K_t, ch3K_f, e_tup, e_lst, e_bi, e_call, lsI_ok, e_dct, dct_ok, ps_nil, ps_cons, psI_ok, psK_ok, e_sl, slI_ok, e_isi, e_lc, lcJ_ok, e_bm, bmJ_ok, s_sti, stiI_ok, stiJ_ok, stiK_ok, nxO_s, s_wh, callD_f, es_nil, es_cons, esI_ok, esJ_ok, pAddI, pSubI, List.getElem?_cons_zero, List.getElem?_cons_succ, List.set_cons_zero, List.set_cons_succ, Bool.not_true, Bool.not_false, slJ_ok (lo := .c (.int 3)) (y := I 3) (l := some 3) rfl, slK_ok (hi := .c (.int 33)) (y := I 33) (h := some 33) rfl, pSlScr, fo_ok (itLI _ _)]
    rw [e]
    simp -implicitDefEqProofs only [s_asg, asg_ok, s_ex, ex_ok, s_ret, ret_ok, s_retN, s_brk, s_cnt, s_pas, s_ite, ite_t, ite_f, s_fo, s_nil, s_cons, sq_nx, sq_rt, sq_bk, sq_ct, sq_ex, tel_nx, tel_rt, tel_ex, e_v, oj_s, e_c, e_g, e_nop, e_one, e_bin, e_cmp, e_idx, two_ok, twoJ_ok, e_and, and_t, and_f, e_or, or_t, or_f, e_ite, iteE_t, iteE_f, e_not, not_b, e_ch2, ch2I_ok, ch2J_ok, ch2K_t, ch2K_f, e_ch3, ch3I_ok, ch3J_ok, ch3K_t, ch3K_f, e_tup, e_lst, e_bi, e_call, lsI_ok, e_dct, dct_ok, ps_nil, ps_cons, psI_ok, psK_ok, e_sl, slI_ok, e_isi, e_lc, lcJ_ok, e_bm, bmJ_ok, s_sti, stiI_ok, stiJ_ok, stiK_ok, nxO_s, s_wh, callD_f, es_nil, es_cons, esI_ok, esJ_ok, pAddI, pSubI, List.getElem?_cons_zero, List.getElem?_cons_succ, List.set_cons_zero, List.set_cons_succ, Bool.not_true, Bool.not_false, e_frz (v6 _) fz, fo_ok (itLI _ _)]
    rw [e']
    simp -implicitDefEqProofs only [s_asg, asg_ok, s_ex, ex_ok, s_ret, ret_ok, s_retN, s_brk, s_cnt, s_pas, s_ite, ite_t, ite_f, s_fo, s_nil, s_cons, sq_nx, sq_rt, sq_bk, sq_ct, sq_ex, tel_nx, tel_rt, tel_ex, e_v, oj_s, e_c, e_g, e_nop, e_one, e_bin, e_cmp, e_idx, two_ok, twoJ_ok, e_and, and_t, and_f, e_or, or_t, or_f, e_ite, iteE_t, iteE_f, e_not, not_b, e_ch2, ch2I_ok, ch2J_ok, ch2K_t, ch2K_f, e_ch3, ch3I_ok, ch3J_ok, ch3K_t, ch3K_f, e_tup, e_lst, e_bi, e_call, lsI_ok, e_dct, dct_ok, ps_nil, ps_cons, psI_ok, psK_ok, e_sl, slI_ok, e_isi, e_lc, lcJ_ok, e_bm, bmJ_ok, s_sti, stiI_ok, stiJ_ok, stiK_ok, nxO_s, s_wh, callD_f, es_nil, es_cons, esI_ok, esJ_ok, pAddI, pSubI, List.getElem?_cons_zero, List.getElem?_cons_succ, List.set_cons_zero, List.set_cons_succ, Bool.not_true, Bool.not_false]
  cases hF : firstN due with
  | none =>
    rw [hF] at q1
    simp only [Option.map_none] at q1
    obtain ⟨w, hw⟩ : ∃ w, leftF pump cap (t - 1) cap l = some w := by
      have h9 : (t - 1).toNat < due.length := by omega
      have := q2 (t - 1).toNat _ (List.getElem?_eq_getElem h9)
      rw [show (0 : Int) + ((t - 1).toNat : Nat) = t - 1 by omega] at this
      rw [this]
      cases e : due[(t - 1).toNat] with
      | some w => exact ⟨w, rfl⟩
      | none =>
        have := firstN_none due (t - 1).toNat hF
        rw [List.getElem?_eq_getElem h9, e] at this
        exact absurd rfl this
    obtain ⟨S', hS⟩ := fin (some (.t (opT none))) 0 2 [.lst [I 0, I (t - 1)]] ⟨[0, t - 1], rfl, by intro z hz; simp at hz; omega, by simp⟩ (by omega)
    refine ⟨S', ?_⟩
    show cal BT PD (19 + 1) f_law [.t (.scr ns)] [] = _
    rw [r_def (n := 19) (d := ⟨1, 12, b_law⟩) rfl rfl, ← hS]
    simp -implicitDefEqProofs only [b_law, List.map_cons, List.map_nil, List.length_cons, List.length_nil, List.replicate, List.cons_append, List.nil_append, s_asg, asg_ok, s_ex, ex_ok, s_ret, ret_ok, s_retN, s_brk, s_cnt, s_pas, s_ite, ite_t, ite_f, s_fo, s_nil, s_cons, sq_nx, sq_rt, sq_bk, sq_ct, sq_ex, tel_nx, tel_rt, tel_ex, e_v, oj_s, e_c, e_g, e_nop, e_one, e_bin, e_cmp, e_idx, two_ok, twoJ_ok, e_and, and_t, and_f, e_or, or_t, or_f, e_ite, iteE_t, iteE_f, e_not, not_b, e_ch2, ch2I_ok, ch2J_ok, ch2K_t, ch2K_f, e_ch3, ch3I_ok, ch3J_ok, ch3K_t, ch3K_f, e_tup, e_lst, e_bi, e_call, lsI_ok, e_dct, dct_ok, ps_nil, ps_cons, psI_ok, psK_ok, e_sl, slI_ok, e_isi, e_lc, lcJ_ok, e_bm, bmJ_ok, s_sti, stiI_ok, stiJ_ok, stiK_ok, nxO_s, s_wh, callD_f, es_nil, es_cons, esI_ok, esJ_ok, pAddI, pSubI, List.getElem?_cons_zero, List.getElem?_cons_succ, List.set_cons_zero, List.set_cons_succ, Bool.not_true, Bool.not_false, e1, e2, e3, negOne, ixl, ix_tr1, hx2, e5, q1, mkT0, pIsN_opt, Option.isSome_none, e6, hw, pIs_opt, Option.isNone_some]
  | some k =>
    have hk := firstN_some due k hF
    have hk1 := (List.getElem?_eq_some_iff.mp hk).1
    have hk2 : (k : Int) < t := by omega
    have lk := q2 k _ hk
    rw [Int.zero_add] at lk
    rw [hF] at q1
    simp only [Option.map_some, Int.zero_add] at q1
    obtain ⟨S', hS⟩ := fin (some (.t (opT (some (k : Int))))) 1 4 [.lst [I 0, I (t - 1)], .lst [I 0, I (t - 1), I k, I (max 0 (k - 1))]] ⟨[0, t - 1, k, max 0 (k - 1)], rfl, by intro z hz; simp only [List.mem_cons, List.not_mem_nil, or_false] at hz; rcases hz with rfl | rfl | rfl | rfl <;> omega, by simp⟩ (by omega)
    refine ⟨S', ?_⟩
    show cal BT PD (19 + 1) f_law [.t (.scr ns)] [] = _
    have o1 : opT (some (k : Int)) = .int k := rfl
    have mk2 : ∀ a b S, mkL false [I a, I b] S = .ok (.t (.lst [.int a, .int b])) S := fun _ _ _ => rfl
    have add : pBin true .Add (.ref 0) (.t (.lst [.int k, .int (max 0 (k - 1))])) [.lst [I 0, I (t - 1)]] = .ok (.ref 1) [.lst [I 0, I (t - 1)], .lst [I 0, I (t - 1), I k, I (max 0 (k - 1))]] := rfl
    rw [r_def (n := 19) (d := ⟨1, 12, b_law⟩) rfl rfl, ← hS, o1]
    have is1 : ∀ S, pCmp .IsNot (I (k : Int)) (.t .non) S = .ok (.t (.bl true)) S := fun _ => rfl
    have is0 : ∀ S, pCmp .IsNot (.t (opT none)) (.t .non) S = .ok (.t (.bl false)) S := fun _ => rfl
    have d0 : decide ((0 : Int) ≤ (k : Int)) = true := decide_eq_true (by omega)
    simp -implicitDefEqProofs only [b_law, List.map_cons, List.map_nil, List.length_cons, List.length_nil, List.replicate, List.cons_append, List.nil_append, s_asg, asg_ok, s_ex, ex_ok, s_ret, ret_ok, s_retN, s_brk, s_cnt, s_pas, s_ite, ite_t, ite_f, s_fo, s_nil, s_cons, sq_nx, sq_rt, sq_bk, sq_ct, sq_ex, tel_nx, tel_rt, tel_ex, e_v, oj_s, e_c, e_g, e_nop, e_one, e_bin, e_cmp, e_idx, two_ok, twoJ_ok, e_and, and_t, and_f, e_or, or_t, or_f, e_ite, iteE_t, iteE_f, e_not, not_b, e_ch2, ch2I_ok, ch2J_ok, ch2K_t, ch2K_f, e_ch3, ch3I_ok, ch3J_ok, ch3K_t, ch3K_f, e_tup, e_lst, e_bi, e_call, lsI_ok, e_dct, dct_ok, ps_nil, ps_cons, psI_ok, psK_ok, e_sl, slI_ok, e_isi, e_lc, lcJ_ok, e_bm, bmJ_ok, s_sti, stiI_ok, stiJ_ok, stiK_ok, nxO_s, s_wh, callD_f, es_nil, es_cons, esI_ok, esJ_ok, pAddI, pSubI, List.getElem?_cons_zero, List.getElem?_cons_succ, List.set_cons_zero, List.set_cons_succ, Bool.not_true, Bool.not_false, e1, e2, e3, negOne, ixl, ix_tr1, hx2, e5, q1, o1, mkT0, is1, e7, pLe, d0, pLt, decide_eq_true hk2, e6, lk, is0, pMax, mk2, add]
end Lw

open PySem PySem.W PyProof.Rows in
set_option maxRecDepth 100000 in
set_option maxHeartbeats 0 in
theorem PySem.Challenge.cw_windchest_k71_whole_any_tick_holds : PySem.Challenge.rw_windchest_k71_whole_any_tick.Holds := by
  w_on; o_law; k_head; (case hw => w_witness2)
  k_fill
  refine Wc.walk (l := PySem.Challenge.rw_windchest_k71_whole_any_tick) (k := 20) (x := "_law_script") rfl rfl ⟨rfl, by decide, by decide⟩ (fun w h Y => PySem.W.kIn_of Y) ?F
  case F =>
    intro w mg fa h KX G hmg
    refine' Lw.all_mk KX G hmg ?a0 ?l0 ?c0 ?k0 ?a1 ?l1 ?c1 ?k1 ?a2 ?l2 ?c2 ?k2 ?a3 ?l3 ?c3 ?k3 ?a4 ?l4 ?c4 ?k4 ?a5 ?l5 ?c5 ?k5 ?a6 ?l6 ?c6 ?k6 ?a7 ?l7 ?c7 ?k7 ?a8 ?l8 ?c8 ?k8 ?a9 ?l9 ?c9 ?k9 ?a10 ?l10 ?c10 ?k10 ?a11 ?l11 ?c11 ?k11 ?a12 ?l12 ?c12 ?k12 ?z0 ?z1 ?z2 ?z3 ?z4 ?z5 ?z6 ?z7 ?z8 ?z9 Lw.hlaw
    (case a0 => k_is)
    (case l0 => k_is)
    (case c0 => k_is)
    (case k0 => k_is)
    (case a1 => k_is)
    (case l1 => k_is)
    (case c1 => k_is)
    (case k1 => k_is)
    (case a2 => k_is)
    (case l2 => k_is)
    (case c2 => k_is)
    (case k2 => k_is)
    (case a3 => k_is)
    (case l3 => k_is)
    (case c3 => k_is)
    (case k3 => k_is)
    (case a4 => k_is)
    (case l4 => k_is)
    (case c4 => k_is)
    (case k4 => k_is)
    (case a5 => k_is)
    (case l5 => k_is)
    (case c5 => k_is)
    (case k5 => k_is)
    (case a6 => k_is)
    (case l6 => k_is)
    (case c6 => k_is)
    (case k6 => k_is)
    (case a7 => k_is)
    (case l7 => k_is)
    (case c7 => k_is)
    (case k7 => k_is)
    (case a8 => k_is)
    (case l8 => k_is)
    (case c8 => k_is)
    (case k8 => k_is)
    (case a9 => k_is)
    (case l9 => k_is)
    (case c9 => k_is)
    (case k9 => k_is)
    (case a10 => k_is)
    (case l10 => k_is)
    (case c10 => k_is)
    (case k10 => k_is)
    (case a11 => k_is)
    (case l11 => k_is)
    (case c11 => k_is)
    (case k11 => k_is)
    (case a12 => k_is)
    (case l12 => k_is)
    (case c12 => k_is)
    (case k12 => k_is)
    (case z0 => k_is)
    (case z1 => k_is)
    (case z2 => k_is)
    (case z3 => k_is)
    (case z4 => k_is)
    (case z5 => k_is)
    (case z6 => k_is)
    (case z7 => k_is)
    (case z8 => k_is)
    (case z9 => k_is)
#print axioms PySem.Challenge.cw_windchest_k71_whole_any_tick_holds

