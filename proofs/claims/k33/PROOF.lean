import PyProof.Rows.All
import Wide.All
import OpenK.AllK
import Wide.FinOn
import HandS.ForMost
import HandS.ForExc
import HandS.Lambda
import HandS.WideBits
import HandS.ExcInit
import HandS.Wide
import HandS.SortInts
import HandS.SortKw
import HandS.IsInst
import HandS.Zip
import HandS.Style
import HandS.EndBits
import HandS.ExcField
import HandS.TryMany
import HandS.ClsMeth
import HandS.EndTab
import HandS.RaiseMore
import HandS.StrMore
import KE.GoesMore
import HandS.Codes
import HandS.Conv
import HandS.NoneIn
import HandS.More
import HandS.TupAny
import HandS.Strs
import HandS.SetFor
import HandS.TupMul
import KE.SortKeyHeap
import HandS.Deep
import PySem.Challenge.RW_keptqubits_k33_wrong_texts_of_sorts
set_option Elab.async false
set_option linter.all false
set_option maxRecDepth 100000
set_option maxHeartbeats 4000000
namespace Kq
open PySem PySem.Spec PyProof.Rows L2 LamX

/-! ### plain data -/
inductive D where
  | non | bl (b : Bool) | int (i : Int) | str (s : Str) | ty (n : String)
  | tup (ds : List D) | lst (ds : List D) | ins (c : Str) (fs : List (Str × D)) | pen | gl (x : Str) | dic | dct (kvs : List (Key × D))
  | tpf (ds : List D) | exn (c : Str) (fs : List (Str × D))

/-- what is fixed through a proof: the program, the world, the written part, the module's names, the code tables -/
structure Gx where
  P : Program
  w : World
  K : PySem.W.Frag
  mg : Str → Option Value
  T : List (Addr × Str)
abbrev gxOf (X : Cx) (T : List (Addr × Str)) : Gx := ⟨X.prog, X.w, X.K, X.mg, T⟩

/-- no table of code objects -/
def NT (o : HO) : Prop := ∀ ps, o ≠ .tbl ps
/-- all is kept, but the pen (at p) and the code tables, of which nothing is said -/
def Xt (p : Addr) (H H' : Hp) : Prop := ∀ a o, H a = some o → NT o → (∃ o', H' a = some o' ∧ NT o') ∧ (a ≠ p → H' a = some o)
/-- nothing stands at a, or a table -/
def Nw (H : Hp) (a : Addr) : Prop := ∀ o, H a = some o → ¬ NT o
theorem Nw.of {H : Hp} {a : Addr} (h : H a = none) : Nw H a := fun o e => by
  rw [h] at e
  cases e
theorem Xt.refl (p : Addr) (H : Hp) : Xt p H H := fun a o h n => ⟨⟨o, h, n⟩, fun _ => h⟩
theorem Xt.trans {p : Addr} {H H1 H2 : Hp} (a : Xt p H H1) (b : Xt p H1 H2) : Xt p H H2 := fun x o h n => by
  obtain ⟨⟨o1, h1, n1⟩, k1⟩ := a x o h n
  obtain ⟨h2, k2⟩ := b x o1 h1 n1
  refine ⟨h2, fun q => ?_⟩
  have e := k1 q
  rw [h1] at e
  cases e
  exact k2 q
theorem Xt.of {p : Addr} {H H' : Hp} (e : ∀ a o, H a = some o → H' a = some o) : Xt p H H' := fun a o h n => ⟨⟨o, e a o h, n⟩, fun _ => e a o h⟩
theorem Xt.ofN {p : Addr} {H H' : Hp} (e : ExtN H H') : Xt p H H' := fun a o h n => ⟨⟨o, e a o h n, n⟩, fun _ => e a o h n⟩
theorem Xt.new {p a : Addr} {H : Hp} {o : HO} (h : H a = none) : Xt p H (upd H a o) := Xt.of fun b u e => by
  rw [upd_ne (ne_of_none e h)]
  exact e
theorem Xt.freeN {p a : Addr} {H H' : Hp} (e : Xt p H H') (h : Nw H' a) : Nw H a := fun o q n => by
  obtain ⟨⟨o', h', n'⟩, _⟩ := e a o q n
  exact h _ h' n'
theorem Xt.free {p a : Addr} {H H' : Hp} (e : Xt p H H') (h : H' a = none) : Nw H a := e.freeN (.of h)
/-- an object that H does not know is changed -/
theorem Xt.mut {p a : Addr} {H H' : Hp} {o : HO} (e : Xt p H H') (h : Nw H a) : Xt p H (upd H' a o) := fun b u q n => by
  have hb : b ≠ a := fun z => h u (z ▸ q) n
  obtain ⟨⟨o1, h1, n1⟩, k⟩ := e b u q n
  exact ⟨⟨o1, by rw [upd_ne hb]; exact h1, n1⟩, fun n => by rw [upd_ne hb]; exact k n⟩

/-- a list, a tuple at a -/
def LstAt (p : Addr) (F : Hp) (a : Addr) (xs : List V) : Prop := a ≠ p ∧ F a = some (.lst xs)
def TupAt (K : PySem.W.Frag) (p : Addr) (F : Hp) (a : Addr) (xs : List V) : Prop :=
  (a ≠ p ∧ Rd F a (.tup xs)) ∨ ∃ (o : Obj) (its : Array Value) (n : Nat), K.lookup a = some o ∧ o.cls = .type "tuple" ∧ o.data = .seq its n ∧ its.size ≤ sizeLine ∧ Vals xs its.toList
theorem Xt.rd {p a : Addr} {H H' : Hp} {u : HO} (e : Xt p H H') (hn : a ≠ p) (ht : NT u) (h : Rd H a u) : Rd H' a u := by
  rcases h with h | ⟨o, h⟩
  · exact .inl ((e a _ h ht).2 hn)
  · exact .inr ⟨o, (e a _ h (fun _ z => nomatch z)).2 hn⟩
theorem LstAt.mono {p a : Addr} {F F' : Hp} {xs : List V} (e : Xt p F F') (h : LstAt p F a xs) : LstAt p F' a xs := ⟨h.1, (e _ _ h.2 (fun _ z => nomatch z)).2 h.1⟩
theorem TupAt.mono {K : PySem.W.Frag} {p a : Addr} {F F' : Hp} {xs : List V} (e : Xt p F F') (h : TupAt K p F a xs) : TupAt K p F' a xs := by
  rcases h with ⟨n, h⟩ | h
  · exact .inl ⟨n, e.rd n (fun _ z => nomatch z) h⟩
  · exact .inr h
theorem TupAt.sq {K : PySem.W.Frag} {p a : Addr} {F : Hp} {xs : List V} (h : TupAt K p F a xs) : SqT K F a xs := by
  rcases h with ⟨_, h⟩ | h
  · exact .inl h
  · exact .inr h

/-- an exception of the class C at a, with its fields -/
def XoAt (p : Addr) (F : Hp) (a C : Addr) (gs : List (Str × V)) : Prop := a ≠ p ∧ ((F a = some (exo a C none) ∧ gs = []) ∨ ∃ d, d ≠ p ∧ F a = some (exo a C (some d)) ∧ F d = some (exd d gs))
theorem nt_exo {a C : Addr} {d : Option Addr} : NT (exo a C d) := fun _ => exo_tbl
theorem nt_exd {d : Addr} {gs : List (Str × V)} : NT (exd d gs) := fun ps z => by
  have z2 : HO.ext _ = HO.tbl ps := z
  cases z2
theorem XoAt.mono {p a C : Addr} {F F' : Hp} {gs : List (Str × V)} (e : Xt p F F') (h : XoAt p F a C gs) : XoAt p F' a C gs := by
  obtain ⟨hn, h⟩ := h
  rcases h with ⟨h, z⟩ | ⟨d, hd, h, h2⟩
  · exact ⟨hn, .inl ⟨(e _ _ h nt_exo).2 hn, z⟩⟩
  · exact ⟨hn, .inr ⟨d, hd, (e _ _ h nt_exo).2 hn, (e _ _ h2 nt_exd).2 hd⟩⟩
mutual
/-- the value v, in the frozen heap F, is the data d; p: the pen -/
inductive Rp (g : Gx) (p : Addr) (F : Hp) : V → D → Prop
  | non : Rp g p F .non .non
  | bl (b : Bool) : Rp g p F (.bl b) (.bl b)
  | int (i : Int) : Rp g p F (.int i) (.int i)
  | str (s : Str) : Rp g p F (.str s) (.str s)
  | ty (n : String) : Rp g p F (.ty n) (.ty n)
  | tup {a : Addr} {xs : List V} {ds : List D} (h : TupAt g.K p F a xs) (r : Rps g p F xs ds) : Rp g p F (.ref a) (.tup ds)
  | lst {a : Addr} {xs : List V} {ds : List D} (h : LstAt p F a xs) (r : Rps g p F xs ds) : Rp g p F (.ref a) (.lst ds)
  | ins {a C dx : Addr} {c : Str} {gs : List (Str × V)} {fs : List (Str × D)} (hc : g.mg c = some (.ref C)) (hn : a ≠ p) (h : F a = some (.ins C dx gs)) (r : Rpf g p F gs fs) : Rp g p F (.ref a) (.ins c fs)
  | pen {o : HO} (h : F p = some o) (n : NT o) : Rp g p F (.ref p) .pen
  | gl {a : Addr} {x : Str} (h : g.mg x = some (.ref a)) : Rp g p F (.ref a) (.gl x)
  | dic {a : Addr} {kvs : List (Key × V)} (hn : a ≠ p) (h : F a = some (.dK kvs)) : Rp g p F (.ref a) .dic
  | dct {a : Addr} {gs : List (Key × V)} {kvs : List (Key × D)} (hn : a ≠ p) (h : F a = some (.dK gs)) (hk : gs.map (·.1) = kvs.map (·.1)) (r : Rps g p F (gs.map (·.2)) (kvs.map (·.2))) : Rp g p F (.ref a) (.dct kvs)
  | tpf {a : Addr} {ob : Obj} {xs : List V} {ds : List D} (hn : a ≠ p) (hc : ob.dict = none) (h : F a = some (.frz ob (.tup xs))) (r : Rps g p F xs ds) : Rp g p F (.ref a) (.tpf ds)
  | exn {a C : Addr} {c : Str} {gs : List (Str × V)} {fs : List (Str × D)} (hc : g.mg c = some (.ref C)) (h : XoAt p F a C gs) (r : Rpf g p F gs fs) : Rp g p F (.ref a) (.exn c fs)
inductive Rps (g : Gx) (p : Addr) (F : Hp) : List V → List D → Prop
  | nil : Rps g p F [] []
  | cons {v : V} {vs : List V} {d : D} {ds : List D} (h : Rp g p F v d) (r : Rps g p F vs ds) : Rps g p F (v :: vs) (d :: ds)
inductive Rpf (g : Gx) (p : Addr) (F : Hp) : List (Str × V) → List (Str × D) → Prop
  | nil : Rpf g p F [] []
  | cons {f : Str} {v : V} {vs : List (Str × V)} {d : D} {ds : List (Str × D)} (h : Rp g p F v d) (r : Rpf g p F vs ds) : Rpf g p F ((f, v) :: vs) ((f, d) :: ds)
end
section
variable {g : Gx} {p : Addr} {F F' : Hp}
mutual
theorem Rp.mono (e : Xt p F F') : ∀ {v : V} {d : D}, Rp g p F v d → Rp g p F' v d
  | _, _, .non => .non
  | _, _, .bl b => .bl b
  | _, _, .int i => .int i
  | _, _, .str s => .str s
  | _, _, .ty n => .ty n
  | _, _, .tup h r => .tup (h.mono e) (r.mono e)
  | _, _, .lst h r => .lst (h.mono e) (r.mono e)
  | _, _, .ins hc hn h r => .ins hc hn ((e _ _ h (fun _ z => nomatch z)).2 hn) (r.mono e)
  | _, _, .gl h => .gl h
  | _, _, .dic hn h => .dic hn ((e _ _ h (fun _ z => nomatch z)).2 hn)
  | _, _, .dct hn h hk r => .dct hn ((e _ _ h (fun _ z => nomatch z)).2 hn) hk (r.mono e)
  | _, _, .tpf hn hc h r => .tpf hn hc ((e _ _ h (fun _ z => nomatch z)).2 hn) (r.mono e)
  | _, _, .exn hc h r => .exn hc (h.mono e) (r.mono e)
  | _, _, .pen h n => .pen (e _ _ h n).1.choose_spec.1 (e _ _ h n).1.choose_spec.2
theorem Rps.mono (e : Xt p F F') : ∀ {v : List V} {d : List D}, Rps g p F v d → Rps g p F' v d
  | _, _, .nil => .nil
  | _, _, .cons h r => .cons (h.mono e) (r.mono e)
theorem Rpf.mono (e : Xt p F F') : ∀ {v : List (Str × V)} {d : List (Str × D)}, Rpf g p F v d → Rpf g p F' v d
  | _, _, .nil => .nil
  | _, _, .cons h r => .cons (h.mono e) (r.mono e)
end
theorem Rps.length : ∀ {xs : List V} {ds : List D}, Rps g p F xs ds → xs.length = ds.length
  | _, _, .nil => rfl
  | _, _, .cons _ r => congrArg (· + 1) r.length
theorem Rps.get : ∀ {xs : List V} {ds : List D} {i : Nat} {d : D}, Rps g p F xs ds → ds[i]? = some d → ∃ x, xs[i]? = some x ∧ Rp g p F x d
  | _, _, _, _, .nil, e => by simp at e
  | _, _, 0, _, .cons h _, e => by simp at e; subst e; exact ⟨_, rfl, h⟩
  | _, _, i + 1, _, .cons _ r, e => by
    obtain ⟨x, h1, h2⟩ := r.get (i := i) (by simpa using e)
    exact ⟨x, by simpa using h1, h2⟩
theorem Rps.get' : ∀ {xs : List V} {ds : List D} {i : Nat} {x : V}, Rps g p F xs ds → xs[i]? = some x → ∃ d, ds[i]? = some d ∧ Rp g p F x d
  | _, _, _, _, .nil, e => by simp at e
  | _, _, 0, _, .cons h _, e => by simp at e; subst e; exact ⟨_, rfl, h⟩
  | _, _, i + 1, _, .cons _ r, e => by
    obtain ⟨x, h1, h2⟩ := r.get' (i := i) (by simpa using e)
    exact ⟨x, by simpa using h1, h2⟩
theorem Rps.append : ∀ {xs ys : List V} {ds es : List D}, Rps g p F xs ds → Rps g p F ys es → Rps g p F (xs ++ ys) (ds ++ es)
  | _, _, _, _, .nil, r => r
  | _, _, _, _, .cons h t, r => .cons h (t.append r)
theorem Rps.set {x : V} {d : D} (h : Rp g p F x d) : ∀ {xs : List V} {ds : List D} (i : Nat), Rps g p F xs ds → Rps g p F (xs.set i x) (ds.set i d)
  | _, _, _, .nil => .nil
  | _, _, 0, .cons _ r => .cons h r
  | _, _, i + 1, .cons q r => .cons q (r.set h i)
theorem Rps.take : ∀ {xs : List V} {ds : List D} (n : Nat), Rps g p F xs ds → Rps g p F (xs.take n) (ds.take n)
  | _, _, 0, _ => .nil
  | _, _, _ + 1, .nil => .nil
  | _, _, n + 1, .cons h r => .cons h (r.take n)
theorem Rps.drop : ∀ {xs : List V} {ds : List D} (n : Nat), Rps g p F xs ds → Rps g p F (xs.drop n) (ds.drop n)
  | _, _, 0, r => r
  | _, _, _ + 1, .nil => .nil
  | _, _, n + 1, .cons _ r => r.drop n
theorem Rps.snoc {xs : List V} {ds : List D} {x : V} {d : D} (r : Rps g p F xs ds) (h : Rp g p F x d) : Rps g p F (xs ++ [x]) (ds ++ [d]) := r.append (.cons h .nil)
theorem Rps.dropLast : ∀ {xs : List V} {ds : List D}, Rps g p F xs ds → Rps g p F xs.dropLast ds.dropLast
  | _, _, .nil => .nil
  | _, _, .cons _ .nil => .nil
  | _, _, .cons h (.cons h2 r) => .cons h (Rps.dropLast (.cons h2 r))
theorem Rps.reverse {xs : List V} {ds : List D} (r : Rps g p F xs ds) : Rps g p F xs.reverse ds.reverse := by
  induction xs generalizing ds with
  | nil => cases r; exact .nil
  | cons x xs ih =>
    cases r with
    | cons h r =>
      rw [List.reverse_cons, List.reverse_cons]
      exact (ih r).snoc h
theorem Rps.rep {xs : List V} {ds : List D} (r : Rps g p F xs ds) : ∀ n : Nat, Rps g p F (List.replicate n xs).flatten (List.replicate n ds).flatten
  | 0 => .nil
  | n + 1 => by
    rw [List.replicate_succ, List.flatten_cons, List.replicate_succ, List.flatten_cons]
    exact r.append (r.rep n)
theorem Rps.ints : ∀ (ns : List Int), Rps g p F (ns.map V.int) (ns.map D.int)
  | [] => .nil
  | n :: ns => .cons (.int n) (Rps.ints ns)
theorem Rpf.lookup {f : Str} : ∀ {gs : List (Str × V)} {fs : List (Str × D)} {d : D}, Rpf g p F gs fs → fs.lookup f = some d → ∃ v, gs.lookup f = some v ∧ Rp g p F v d
  | _, _, _, .nil, e => by cases e
  | _, _, d, .cons (f := f') (v := v) h r, e => by
    by_cases q : (f == f') = true
    · simp only [List.lookup, q] at e ⊢
      cases e
      exact ⟨v, rfl, h⟩
    · have q' : (f == f') = false := by simpa using q
      simp only [List.lookup, q'] at e ⊢
      exact r.lookup e
theorem Rpf.none {f : Str} : ∀ {gs : List (Str × V)} {fs : List (Str × D)}, Rpf g p F gs fs → fs.lookup f = none → gs.lookup f = none
  | _, _, .nil, _ => rfl
  | _, _, .cons (f := f') h r, e => by
    by_cases q : (f == f') = true
    · simp only [List.lookup, q] at e
      cases e
    · have q' : (f == f') = false := by simpa using q
      simp only [List.lookup, q'] at e ⊢
      exact r.none e
end
end Kq
set_option Elab.async false
set_option linter.all false
set_option maxRecDepth 100000
set_option maxHeartbeats 4000000
namespace Kq
open PySem PySem.Spec PyProof.Rows L2 LamX

/-! ### the state: the frozen heap, the heap, the pen, how often it was drawn -/
structure Sx where
  F : Hp
  H : Hp
  p : Addr
  c : Nat
/-- the pen's pairs -/
def penK (l : Addr) (a d n f : Int) : List (Key × V) := [(.inr "cells", .ref l), (.inr "at", .int a), (.inr "digits", .int d), (.inr "count", .int n), (.inr "fold", .int f)]
/-- numbers of a script: at most 63, below 2 ^ 1048576 -/
def Cells (ns : List Int) : Prop := ns.length ≤ 63 ∧ ∀ n ∈ ns, n.natAbs < 2 ^ 1048576
def PenAt (s : Sx) : Prop := ∃ (l : Addr) (a d f : Int) (n : Nat) (ns : List Int), s.H s.p = some (.dK (penK l a d n f)) ∧ n ≤ s.c ∧ 0 ≤ a ∧ 0 ≤ d ∧ d.natAbs < 2 ^ 1048576 ∧ 0 ≤ f ∧ f < 2147483647 ∧
  s.F l = some (.lst (ns.map V.int)) ∧ l ≠ s.p ∧ Cells ns
/-- what may stand at the pen's address -/
def PK (o : HO) : Prop := NT o ∧ ∀ c q, o ≠ CodeO c q
theorem PK.dK {kvs : List (Key × V)} : PK (.dK kvs) := ⟨(fun _ z => nomatch z), fun c q z => by unfold CodeO at z; cases z⟩
theorem PK.lst {xs : List V} : PK (.lst xs) := ⟨(fun _ z => nomatch z), fun c q z => by unfold CodeO at z; cases z⟩
structure Ok (g : Gx) (s : Sx) : Prop where
  fh : Xt s.p s.F s.H
  ft : ∀ a o, s.F a = some o → NT o
  tb : Tabs g.T s.H
  pn : s.F s.p ≠ none → PenAt s
  pe : ∃ o, s.H s.p = some o ∧ PK o
/-- a step of an expression -/
structure Gr (g : Gx) (s t : Sx) : Prop where
  p : t.p = s.p
  ff : Xt s.p s.F t.F
  hh : Xt s.p s.H t.H
  ap : ∀ a o, s.H a = some o → NT o → s.F a = none → t.F a = none
  ok : Ok g t
section
variable {g : Gx} {s t u : Sx}
theorem Gr.refl (o : Ok g s) : Gr g s s := ⟨rfl, Xt.refl _ _, Xt.refl _ _, fun _ _ _ _ h => h, o⟩
theorem Gr.trans (a : Gr g s t) (b : Gr g t u) : Gr g s u := by
  obtain ⟨pa, fa, ha, aa, oa⟩ := a
  obtain ⟨pb, fb, hb, ab, ob⟩ := b
  refine ⟨pb.trans pa, fa.trans (pa ▸ fb), ha.trans (pa ▸ hb), fun x o h1 n h2 => ?_, ob⟩
  obtain ⟨⟨o', h', n'⟩, _⟩ := ha x o h1 n
  exact ab x o' h' n' (aa x o h1 n h2)
/-- a new object, on the heap alone -/
def Sx.lay (s : Sx) (a : Addr) (o : HO) : Sx := { s with H := upd s.H a o }
/-- a new object, frozen at once -/
def Sx.put (s : Sx) (a : Addr) (o : HO) : Sx := { s with H := upd s.H a o, F := upd s.F a o }
theorem tabs_upd {T : List (Addr × Str)} {H : Hp} {a : Addr} {o : HO} (t : Tabs T H) (h : H a = none) : Tabs T (upd H a o) := t.ext fun b u e => by
  rw [upd_ne (ne_of_none e h)]
  exact e
theorem PenAt.ne {s : Sx} {a : Addr} (h : PenAt s) (ha : s.H a = none) : a ≠ s.p := by
  obtain ⟨_, _, _, _, _, _, h, _⟩ := h
  exact (ne_of_none h ha).symm
theorem Ok.lay {a : Addr} {o : HO} (k : Ok g s) (h : s.H a = none) : Ok g (s.lay a o) := by
  have np : s.p ≠ a := ne_of_none k.pe.choose_spec.1 h
  refine ⟨k.fh.trans (Xt.new h), k.ft, tabs_upd k.tb h, fun hp => ?_, ⟨k.pe.choose, by show upd s.H a o s.p = _; rw [upd_ne np]; exact k.pe.choose_spec.1, k.pe.choose_spec.2⟩⟩
  obtain ⟨l, x, d, f, n, ns, h1, r⟩ := k.pn hp
  exact ⟨l, x, d, f, n, ns, by show upd s.H a o s.p = _; rw [upd_ne (ne_of_none h1 h)]; exact h1, r⟩
theorem Ok.fnew {a : Addr} (k : Ok g s) (h : Nw s.H a) : s.F a = none := by
  cases q : s.F a with
  | none => rfl
  | some o => exact absurd (k.ft a o q) (k.fh.freeN h o q)
theorem Ok.fnone {a : Addr} (k : Ok g s) (h : s.H a = none) : s.F a = none := k.fnew (.of h)
theorem Ok.ne {a : Addr} (k : Ok g s) (h : s.H a = none) : a ≠ s.p := (ne_of_none k.pe.choose_spec.1 h).symm
theorem Ok.put {a : Addr} {o : HO} (k : Ok g s) (h : s.H a = none) (nt : NT o) : Ok g (s.put a o) := by
  have hf := k.fnone h
  have hp := k.ne h
  refine ⟨fun b u e n => ?_, fun b u e => ?_, tabs_upd k.tb h, fun hq => ?_, ⟨k.pe.choose, by show upd s.H a o s.p = _; rw [upd_ne hp.symm]; exact k.pe.choose_spec.1, k.pe.choose_spec.2⟩⟩
  · show (∃ o', upd s.H a o b = some o' ∧ NT o') ∧ _
    have e' : upd s.F a o b = some u := e
    by_cases hb : b = a
    · subst hb
      rw [upd_same] at e'
      cases e'
      exact ⟨⟨_, upd_same, n⟩, fun _ => upd_same⟩
    · rw [upd_ne hb] at e'
      obtain ⟨⟨o1, h1, n1⟩, k1⟩ := k.fh b u e' n
      exact ⟨⟨o1, by rw [upd_ne hb]; exact h1, n1⟩, fun n => by show upd s.H a o b = _; rw [upd_ne hb]; exact k1 n⟩
  · have e' : upd s.F a o b = some u := e
    by_cases hb : b = a
    · subst hb
      rw [upd_same] at e'
      cases e'
      exact nt
    · rw [upd_ne hb] at e'
      exact k.ft b u e'
  · have hq' : upd s.F a o s.p ≠ none := hq
    rw [upd_ne hp.symm] at hq'
    obtain ⟨l, x, d, f, n, ns, h1, h2, h3, h4, h5, h6, h7, h8, h9⟩ := k.pn hq'
    refine ⟨l, x, d, f, n, ns, by show upd s.H a o s.p = _; rw [upd_ne hp.symm]; exact h1, h2, h3, h4, h5, h6, h7, ?_, h9⟩
    show upd s.F a o l = _
    rw [upd_ne (ne_of_none h8 hf)]
    exact h8
theorem Gr.lay {a : Addr} {o : HO} (k : Ok g s) (h : s.H a = none) : Gr g s (s.lay a o) := ⟨rfl, Xt.refl _ _, Xt.new h, fun _ _ _ _ h => h, k.lay h⟩
theorem Gr.put {a : Addr} {o : HO} (k : Ok g s) (h : s.H a = none) (nt : NT o) : Gr g s (s.put a o) := by
  refine ⟨rfl, Xt.new (k.fnone h), Xt.new h, fun b u e _ n => ?_, k.put h nt⟩
  show upd s.F a o b = none
  rw [upd_ne (ne_of_none e h)]
  exact n
end

/-! ### what a value is: frozen data, a list that may be read, a new list -/
inductive Kd where | val | rd | own
instance kdDec : DecidableEq Kd
  | .val, .val => isTrue rfl
  | .val, .rd => isFalse (fun h => nomatch h)
  | .val, .own => isFalse (fun h => nomatch h)
  | .rd, .val => isFalse (fun h => nomatch h)
  | .rd, .rd => isTrue rfl
  | .rd, .own => isFalse (fun h => nomatch h)
  | .own, .val => isFalse (fun h => nomatch h)
  | .own, .rd => isFalse (fun h => nomatch h)
  | .own, .own => isTrue rfl
/-- s: ahead of the expression, t: behind it -/
def RV (k : Kd) (g : Gx) (s t : Sx) (v : V) (d : D) : Prop :=
  match k with
  | .val => Rp g t.p t.F v d
  | .rd => Rp g t.p t.F v d ∨ ∃ l xs ds, d = .lst ds ∧ v = .ref l ∧ l ≠ t.p ∧ t.H l = some (.lst xs) ∧ Rps g t.p t.F xs ds
  | .own => ∃ l xs ds, d = .lst ds ∧ v = .ref l ∧ l ≠ t.p ∧ Nw s.H l ∧ t.F l = none ∧ t.H l = some (.lst xs) ∧ Rps g t.p t.F xs ds
section
variable {g : Gx} {s t u : Sx} {v : V} {d : D} {k : Kd}
theorem RV.gr (h : RV k g s t v d) (e : Gr g t u) : RV k g s u v d := by
  obtain ⟨hp, ff, hh, ap, _⟩ := e
  cases k with
  | val =>
    show Rp g u.p u.F v d
    rw [hp]
    exact Rp.mono ff h
  | rd =>
    show Rp g u.p u.F v d ∨ ∃ l xs ds, d = .lst ds ∧ v = .ref l ∧ l ≠ u.p ∧ u.H l = some (.lst xs) ∧ Rps g u.p u.F xs ds
    rw [hp]
    rcases (show Rp g t.p t.F v d ∨ ∃ l xs ds, d = .lst ds ∧ v = .ref l ∧ l ≠ t.p ∧ t.H l = some (.lst xs) ∧ Rps g t.p t.F xs ds from h) with h | ⟨l, xs, ds, h1, h2, h3, h4, h5⟩
    · exact .inl (Rp.mono ff h)
    · exact .inr ⟨l, xs, ds, h1, h2, h3, (hh _ _ h4 (fun _ z => nomatch z)).2 h3, Rps.mono ff h5⟩
  | own =>
    show ∃ l xs ds, d = .lst ds ∧ v = .ref l ∧ l ≠ u.p ∧ Nw s.H l ∧ u.F l = none ∧ u.H l = some (.lst xs) ∧ Rps g u.p u.F xs ds
    rw [hp]
    obtain ⟨l, xs, ds, h1, h2, h3, h4, h5, h6, h7⟩ := (show ∃ l xs ds, d = .lst ds ∧ v = .ref l ∧ l ≠ t.p ∧ Nw s.H l ∧ t.F l = none ∧ t.H l = some (.lst xs) ∧ Rps g t.p t.F xs ds from h)
    exact ⟨l, xs, ds, h1, h2, h3, h4, ap _ _ h6 (fun _ z => nomatch z) h5, (hh _ _ h6 (fun _ z => nomatch z)).2 h3, Rps.mono ff h7⟩
end

/-! ### the def's names -/
/-- an exception: its class, its fields -/
abbrev XC := Str × List (Str × D)
def XcR (g : Gx) (t : Sx) (cls : Value) (dd : Option Addr) (x : XC) : Prop :=
  ∃ C d gs, cls = .ref C ∧ g.mg x.1 = some (.ref C) ∧ dd = some d ∧ d ≠ t.p ∧ t.F d = some (.xd gs) ∧ Rpf g t.p t.F gs x.2
theorem XcR.ff {g : Gx} {s t : Sx} {cls : Value} {dd : Option Addr} {x : XC} (h : XcR g s cls dd x) (hp : t.p = s.p) (ff : Xt s.p s.F t.F) : XcR g t cls dd x := by
  obtain ⟨C, d, gs, h1, h2, h3, h4, h5, h6⟩ := h
  exact ⟨C, d, gs, h1, h2, h3, by rw [hp]; exact h4, (ff _ _ h5 (fun _ z => nomatch z)).2 h4, by rw [hp]; exact Rpf.mono ff h6⟩
/-- a name: nothing known; frozen data; a list of one's own; a list that is only read; an instance in the making; the exception that the suite holds -/
inductive Sl where
  | no | val (d : D) | own (ds : List D) | ownd (kvs : List (Key × D)) | bor (ds : List D) | obj (c : Str) (fs : List (Str × D)) | exc (x : XC) | lam
/-- the state at the entry; the suite's exception; the lambda that was handed in: its address, its code, its name -/
structure Hz where
  s : Sx
  ex : Option (Addr × Value × Option Addr)
  lam : Option (Addr × Addr × Str)
abbrev Hz.h (z : Hz) : Hp := z.s.H
abbrev Rho := List Sl
def slOwn : Option Sl → Bool
  | some (.own _) => true
  | some (.ownd _) => true
  | _ => false
/-- a dict's pairs -/
def Rpd (g : Gx) (p : Addr) (F : Hp) (gs : List (Key × V)) (kvs : List (Key × D)) : Prop := gs.map (·.1) = kvs.map (·.1) ∧ Rps g p F (gs.map (·.2)) (kvs.map (·.2))
theorem Rpd.mono {g : Gx} {p : Addr} {F F' : Hp} (e : Xt p F F') {gs : List (Key × V)} {kvs : List (Key × D)} (h : Rpd g p F gs kvs) : Rpd g p F' gs kvs := ⟨h.1, Rps.mono e h.2⟩
/-- a slot -/
def SlotR (g : Gx) (H0 : Hz) (s : Sx) (x : Option (Option V)) : Option Sl → Prop
  | some (.val d) => ∃ v, x = some (some v) ∧ Rp g s.p s.F v d
  | some (.own ds) => ∃ l xs, x = some (some (.ref l)) ∧ l ≠ s.p ∧ Nw H0.h l ∧ s.F l = none ∧ s.H l = some (.lst xs) ∧ Rps g s.p s.F xs ds
  | some (.ownd kvs) => ∃ l gs, x = some (some (.ref l)) ∧ l ≠ s.p ∧ Nw H0.h l ∧ s.F l = none ∧ s.H l = some (.dK gs) ∧ Rpd g s.p s.F gs kvs
  | some (.bor ds) => ∃ l xs, x = some (some (.ref l)) ∧ l ≠ s.p ∧ H0.h l = some (.lst xs) ∧ Rps g s.p s.F xs ds
  | some (.obj c fs) => ∃ a C dx gs, x = some (some (.ref a)) ∧ a ≠ s.p ∧ Nw H0.h a ∧ s.F a = none ∧ g.mg c = some (.ref C) ∧ s.H a = some (.ins C dx gs) ∧ Rpf g s.p s.F gs fs ∧ ∃ q, H0.lam = some (a, q)
  | some (.exc y) => ∃ a cls d, H0.ex = some (a, cls, d) ∧ x = some (some (.ref a)) ∧ XcR g s cls d y
  | some .lam => ∃ f c q, H0.lam = some (f, c, q) ∧ x = some (some (.ref f))
  | _ => True
structure EnvR (g : Gx) (H0 : Hz) (s : Sx) (σ : L2.St) (ρ : Rho) : Prop where
  gr : Gr g H0.s s
  len : σ.length = ρ.length
  sl : ∀ i : Nat, SlotR g H0 s σ[i]? ρ[i]?
  ap : ∀ (i j : Nat) (l : Addr), slOwn ρ[i]? = true → slOwn ρ[j]? = true → σ[i]? = some (some (.ref l)) → σ[j]? = some (some (.ref l)) → i = j
section
variable {g : Gx} {H0 : Hz} {s t : Sx} {σ : L2.St} {ρ : Rho}
theorem EnvR.ok (h : EnvR g H0 s σ ρ) : Ok g s := h.gr.ok
theorem EnvR.h0 (h : EnvR g H0 s σ ρ) : Xt s.p H0.h s.H := by
  rw [h.gr.p]
  exact h.gr.hh
theorem SlotR.gr {x : Option (Option V)} {o : Option Sl} (e : Gr g s t) (h : SlotR g H0 s x o) : SlotR g H0 t x o := by
  obtain ⟨hp, ff, hh, ap, _⟩ := e
  match o, h with
  | none, _ => exact True.intro
  | some .no, _ => exact True.intro
  | some (.val d), ⟨v, h1, h2⟩ => exact ⟨v, h1, by rw [hp]; exact Rp.mono ff h2⟩
  | some (.own ds), ⟨l, xs, h1, h2, h3, h4, h5, h6⟩ => exact ⟨l, xs, h1, by rw [hp]; exact h2, h3, ap _ _ h5 (fun _ z => nomatch z) h4, (hh _ _ h5 (fun _ z => nomatch z)).2 h2, by rw [hp]; exact Rps.mono ff h6⟩
  | some (.ownd ds), ⟨l, xs, h1, h2, h3, h4, h5, h6⟩ => exact ⟨l, xs, h1, by rw [hp]; exact h2, h3, ap _ _ h5 (fun _ z => nomatch z) h4, (hh _ _ h5 (fun _ z => nomatch z)).2 h2, by rw [hp]; exact Rpd.mono ff h6⟩
  | some (.bor ds), ⟨l, xs, h1, h2, h3, h4⟩ => exact ⟨l, xs, h1, by rw [hp]; exact h2, h3, by rw [hp]; exact Rps.mono ff h4⟩
  | some (.obj c fs), ⟨a, C, dx, gs, h1, h2, h3, h4, h5, h6, h7, h8⟩ => exact ⟨a, C, dx, gs, h1, by rw [hp]; exact h2, h3, ap _ _ h6 (fun _ z => nomatch z) h4, h5, (hh _ _ h6 (fun _ z => nomatch z)).2 h2, by rw [hp]; exact Rpf.mono ff h7, h8⟩
  | some (.exc y), ⟨a, cls, d, h1, h2, h3⟩ => exact ⟨a, cls, d, h1, h2, h3.ff hp ff⟩
  | some .lam, h => exact h
theorem EnvR.to (h : EnvR g H0 s σ ρ) (e : Gr g s t) : EnvR g H0 t σ ρ :=
  ⟨h.gr.trans e, h.len, fun i => (h.sl i).gr e, h.ap⟩
theorem EnvR.lt {i : Nat} {x : Sl} (h : EnvR g H0 s σ ρ) (e : ρ[i]? = some x) : i < σ.length := by
  rw [h.len]
  exact (List.getElem?_eq_some_iff.mp e).1
/-- a slot gets frozen data -/
theorem EnvR.set {i : Nat} {v : V} {d : D} (h : EnvR g H0 s σ ρ) (r : Rp g s.p s.F v d) : EnvR g H0 s (σ.set i (some v)) (ρ.set i (.val d)) := by
  refine ⟨h.gr, by rw [List.length_set, List.length_set]; exact h.len, fun j => ?_, fun a b l h1 h2 h3 h4 => ?_⟩
  · by_cases e : i = j
    · subst e
      by_cases hi : i < σ.length
      · rw [List.getElem?_set_self hi, List.getElem?_set_self (by rw [← h.len]; exact hi)]
        exact ⟨v, rfl, r⟩
      · rw [List.getElem?_eq_none (l := ρ.set i (.val d)) (by rw [List.length_set, ← h.len]; omega)]
        exact True.intro
    · rw [List.getElem?_set_ne e, List.getElem?_set_ne e]
      exact h.sl j
  · have key : ∀ {a}, slOwn (ρ.set i (.val d))[a]? = true → a ≠ i := fun {a} q z => by
      subst z
      by_cases hi : a < ρ.length
      · rw [List.getElem?_set_self hi] at q
        cases q
      · rw [List.getElem?_eq_none (by rw [List.length_set]; omega)] at q
        cases q
    have na := key h1
    have nb := key h2
    rw [List.getElem?_set_ne (Ne.symm na)] at h1 h3
    rw [List.getElem?_set_ne (Ne.symm nb)] at h2 h4
    exact h.ap a b l h1 h2 h3 h4
/-- a slot gets a new list -/
theorem EnvR.setOwn {i : Nat} {l : Addr} {xs : List V} {ds : List D} (h : EnvR g H0 s σ ρ) (h1 : l ≠ s.p) (h2 : Nw H0.h l) (h3 : s.F l = none) (h4 : s.H l = some (.lst xs)) (h5 : Rps g s.p s.F xs ds)
    (hn : ∀ j : Nat, j ≠ i → slOwn ρ[j]? = true → σ[j]? ≠ some (some (.ref l))) : EnvR g H0 s (σ.set i (some (.ref l))) (ρ.set i (.own ds)) := by
  refine ⟨h.gr, by rw [List.length_set, List.length_set]; exact h.len, fun j => ?_, fun a b m e1 e2 e3 e4 => ?_⟩
  · by_cases e : i = j
    · subst e
      by_cases hi : i < σ.length
      · rw [List.getElem?_set_self hi, List.getElem?_set_self (by rw [← h.len]; exact hi)]
        exact ⟨l, xs, rfl, h1, h2, h3, h4, h5⟩
      · rw [List.getElem?_eq_none (l := ρ.set i (.own ds)) (by rw [List.length_set, ← h.len]; omega)]
        exact True.intro
    · rw [List.getElem?_set_ne e, List.getElem?_set_ne e]
      exact h.sl j
  · by_cases ha : a = i
    · by_cases hb : b = i
      · rw [ha, hb]
      · subst ha
        rw [List.getElem?_set_ne (Ne.symm hb)] at e2 e4
        have hi : a < σ.length := by
          have q := (List.getElem?_eq_some_iff.mp e3).1
          rwa [List.length_set] at q
        rw [List.getElem?_set_self hi] at e3
        cases e3
        exact absurd e4 (hn b hb e2)
    · rw [List.getElem?_set_ne (Ne.symm ha)] at e1 e3
      by_cases hb : b = i
      · subst hb
        have hi : b < σ.length := by
          have q := (List.getElem?_eq_some_iff.mp e4).1
          rwa [List.length_set] at q
        rw [List.getElem?_set_self hi] at e4
        cases e4
        exact absurd e3 (hn a ha e1)
      · rw [List.getElem?_set_ne (Ne.symm hb)] at e2 e4
        exact h.ap a b m e1 e2 e3 e4
/-- an own list's address stands in no other own slot -/
theorem EnvR.own_ne {l : Addr} (h : EnvR g H0 s σ ρ) (hl : Nw s.H l) : ∀ j : Nat, slOwn ρ[j]? = true → σ[j]? ≠ some (some (.ref l)) := fun j hj e => by
  have q := h.sl j
  match hr : ρ[j]?, hj with
  | some (.own ds), _ =>
    rw [hr] at q
    obtain ⟨m, xs, e1, _, _, _, e2, _⟩ := q
    rw [e] at e1
    cases e1
    exact hl _ e2 (fun _ z => nomatch z)
  | some (.ownd ds), _ =>
    rw [hr] at q
    obtain ⟨m, xs, e1, _, _, _, e2, _⟩ := q
    rw [e] at e1
    cases e1
    exact hl _ e2 (fun _ z => nomatch z)
/-- an own list is changed -/
theorem Ok.chg {l : Addr} {o u : HO} (k : Ok g s) (h1 : l ≠ s.p) (h2 : s.F l = none) (h3 : s.H l = some o) (ht : NT o) (hx : ∀ c q, o ≠ CodeO c q) : Ok g (s.lay l u) := by
  refine ⟨fun b w e n => ?_, k.ft, fun q hq => ?_, fun hp => ?_, ⟨k.pe.choose, by show L2.upd s.H l u s.p = _; rw [upd_ne h1.symm]; exact k.pe.choose_spec.1, k.pe.choose_spec.2⟩⟩
  · have hb : b ≠ l := ne_of_none e h2
    obtain ⟨⟨o1, e1, n1⟩, k1⟩ := k.fh b w e n
    exact ⟨⟨o1, by show L2.upd s.H l u b = _; rw [upd_ne hb]; exact e1, n1⟩, fun np => by show L2.upd s.H l u b = _; rw [upd_ne hb]; exact k1 np⟩
  · obtain ⟨ps, a1, a2, a3⟩ := k.tb q hq
    have n1 : q.1 ≠ l := fun z => by
      rw [z, h3] at a1
      exact ht ps (Option.some.inj a1)
    refine ⟨ps, by show L2.upd s.H l u q.1 = _; rw [upd_ne n1]; exact a1, a2, fun pos cv hc => ?_⟩
    obtain ⟨c, e1, e2⟩ := a3 pos cv hc
    have n2 : c ≠ l := fun z => by
      rw [z, h3] at e2
      exact hx _ _ (Option.some.inj e2)
    exact ⟨c, e1, by show L2.upd s.H l u c = _; rw [upd_ne n2]; exact e2⟩
  · obtain ⟨m, x, d, f, n, ns, e1, r⟩ := k.pn hp
    exact ⟨m, x, d, f, n, ns, by show L2.upd s.H l u s.p = _; rw [upd_ne h1.symm]; exact e1, r⟩
theorem Gr.chg {s0 : Sx} {l : Addr} {o u : HO} (e : Gr g s0 s) (h0 : Nw s0.H l) (h1 : l ≠ s.p) (h2 : s.F l = none) (h3 : s.H l = some o) (ht : NT o) (hx : ∀ c q, o ≠ CodeO c q) : Gr g s0 (s.lay l u) :=
  ⟨e.p, e.ff, e.hh.mut h0, e.ap, e.ok.chg h1 h2 h3 ht hx⟩
theorem EnvR.mutG {i : Nat} {l : Addr} {o0 o : HO} {x0 x' : Sl} (h : EnvR g H0 s σ ρ) (hr : ρ[i]? = some x0) (hw : slOwn (some x0) = true) (hv : σ[i]? = some (some (.ref l))) (e2 : l ≠ s.p) (e3 : Nw H0.h l) (e4 : s.F l = none) (e5 : s.H l = some o0) (nt : NT o0) (nc : ∀ c q, o0 ≠ CodeO c q) (ni : ∀ C dx fs, o0 ≠ .ins C dx fs)
    (hw' : slOwn (some x') = true) (hs : SlotR g H0 (s.lay l o) (some (some (.ref l))) (some x')) : EnvR g H0 (s.lay l o) σ (ρ.set i x') := by
  have hi : i < ρ.length := (List.getElem?_eq_some_iff.mp hr).1
  have hk : ∀ j : Nat, slOwn (ρ.set i x')[j]? = slOwn ρ[j]? := fun j => by
    by_cases e : i = j
    · subst e
      rw [List.getElem?_set_self hi, hr, hw, hw']
    · rw [List.getElem?_set_ne e]
  refine ⟨h.gr.chg e3 e2 e4 e5 nt nc, by rw [List.length_set]; exact h.len, fun j => ?_, fun a b m h1 h2 h3 h4 => h.ap a b m (by rw [← hk]; exact h1) (by rw [← hk]; exact h2) h3 h4⟩
  by_cases e : i = j
  · subst e
    rw [List.getElem?_set_self hi, hv]
    exact hs
  · rw [List.getElem?_set_ne e]
    have q := h.sl j
    match hj : ρ[j]? with
    | none => exact True.intro
    | some .no => exact True.intro
    | some (.val d) => rw [hj] at q; exact q
    | some (.bor ds) => rw [hj] at q; exact q
    | some (.exc y) => rw [hj] at q; exact q
    | some .lam => rw [hj] at q; exact q
    | some (.obj c fs) =>
      rw [hj] at q
      obtain ⟨a, C, dx, gs, a1, a2, a3, a4, a5, a6, a7, a8⟩ := q
      refine ⟨a, C, dx, gs, a1, a2, a3, a4, a5, ?_, a7, a8⟩
      show L2.upd s.H l _ a = _
      rw [upd_ne]
      · exact a6
      · intro z
        subst z
        rw [e5] at a6
        cases a6
        exact ni _ _ _ rfl
    | some (.own fs) =>
      rw [hj] at q
      obtain ⟨m, zs, a1, a2, a3, a4, a5, a6⟩ := q
      refine ⟨m, zs, a1, a2, a3, a4, ?_, a6⟩
      show L2.upd s.H l _ m = _
      rw [upd_ne]
      · exact a5
      · intro z
        subst z
        exact e (h.ap i j m (by rw [hr]; exact hw) (by rw [hj]; rfl) hv a1)
    | some (.ownd fs) =>
      rw [hj] at q
      obtain ⟨m, zs, a1, a2, a3, a4, a5, a6⟩ := q
      refine ⟨m, zs, a1, a2, a3, a4, ?_, a6⟩
      show L2.upd s.H l _ m = _
      rw [upd_ne]
      · exact a5
      · intro z
        subst z
        exact e (h.ap i j m (by rw [hr]; exact hw) (by rw [hj]; rfl) hv a1)
theorem EnvR.mut {i : Nat} {l : Addr} {ds es : List D} {ys : List V} (h : EnvR g H0 s σ ρ) (hr : ρ[i]? = some (.own ds)) (hv : σ[i]? = some (some (.ref l))) (r : Rps g s.p s.F ys es) : EnvR g H0 (s.lay l (.lst ys)) σ (ρ.set i (.own es)) := by
  have q := h.sl i
  rw [hr] at q
  obtain ⟨m, xs, e1, e2, e3, e4, e5, e6⟩ := q
  rw [hv] at e1
  cases e1
  exact h.mutG hr rfl hv e2 e3 e4 e5 (fun _ z => nomatch z) (fun c q z => by unfold CodeO at z; cases z) (fun _ _ _ z => nomatch z) rfl ⟨l, ys, rfl, e2, e3, e4, upd_same, r⟩
theorem EnvR.mutD {i : Nat} {l : Addr} {ds es : List (Key × D)} {ys : List (Key × V)} (h : EnvR g H0 s σ ρ) (hr : ρ[i]? = some (.ownd ds)) (hv : σ[i]? = some (some (.ref l))) (r : Rpd g s.p s.F ys es) : EnvR g H0 (s.lay l (.dK ys)) σ (ρ.set i (.ownd es)) := by
  have q := h.sl i
  rw [hr] at q
  obtain ⟨m, xs, e1, e2, e3, e4, e5, e6⟩ := q
  rw [hv] at e1
  cases e1
  exact h.mutG hr rfl hv e2 e3 e4 e5 (fun _ z => nomatch z) (fun c q z => by unfold CodeO at z; cases z) (fun _ _ _ z => nomatch z) rfl ⟨l, ys, rfl, e2, e3, e4, upd_same, r⟩
/-- a slot gets a new object of one's own -/
theorem EnvR.setG {i : Nat} {l : Addr} {x' : Sl} (h : EnvR g H0 s σ ρ) (hs : SlotR g H0 s (some (some (.ref l))) (some x'))
    (hn : ∀ j : Nat, j ≠ i → slOwn ρ[j]? = true → σ[j]? ≠ some (some (.ref l))) : EnvR g H0 s (σ.set i (some (.ref l))) (ρ.set i x') := by
  refine ⟨h.gr, by rw [List.length_set, List.length_set]; exact h.len, fun j => ?_, fun a b m e1 e2 e3 e4 => ?_⟩
  · by_cases e : i = j
    · subst e
      by_cases hi : i < σ.length
      · rw [List.getElem?_set_self hi, List.getElem?_set_self (by rw [← h.len]; exact hi)]
        exact hs
      · rw [List.getElem?_eq_none (l := ρ.set i x') (by rw [List.length_set, ← h.len]; omega)]
        exact True.intro
    · rw [List.getElem?_set_ne e, List.getElem?_set_ne e]
      exact h.sl j
  · by_cases ha : a = i
    · by_cases hb : b = i
      · rw [ha, hb]
      · subst ha
        rw [List.getElem?_set_ne (Ne.symm hb)] at e2 e4
        have hi : a < σ.length := by
          have q := (List.getElem?_eq_some_iff.mp e3).1
          rwa [List.length_set] at q
        rw [List.getElem?_set_self hi] at e3
        cases e3
        exact absurd e4 (hn b hb e2)
    · rw [List.getElem?_set_ne (Ne.symm ha)] at e1 e3
      by_cases hb : b = i
      · subst hb
        have hi : b < σ.length := by
          have q := (List.getElem?_eq_some_iff.mp e4).1
          rwa [List.length_set] at q
        rw [List.getElem?_set_self hi] at e4
        cases e4
        exact absurd e3 (hn a ha e1)
      · rw [List.getElem?_set_ne (Ne.symm hb)] at e2 e4
        exact h.ap a b m e1 e2 e3 e4
/-- an own list is frozen -/
def Sx.frz (s : Sx) (l : Addr) (o : HO) : Sx := { s with F := upd s.F l o }
theorem Ok.frz {l : Addr} {o : HO} (k : Ok g s) (h1 : l ≠ s.p) (h2 : s.F l = none) (h3 : s.H l = some o) (nt : NT o) : Ok g (s.frz l o) := by
  refine ⟨fun b u e n => ?_, fun b u e => ?_, k.tb, fun hp => ?_, k.pe⟩
  · have e' : L2.upd s.F l o b = some u := e
    by_cases hb : b = l
    · subst hb
      rw [upd_same] at e'
      cases e'
      exact ⟨⟨_, h3, nt⟩, fun _ => h3⟩
    · rw [upd_ne hb] at e'
      exact k.fh b u e' n
  · have e' : L2.upd s.F l o b = some u := e
    by_cases hb : b = l
    · subst hb
      rw [upd_same] at e'
      cases e'
      exact nt
    · rw [upd_ne hb] at e'
      exact k.ft b u e'
  · have hp' : L2.upd s.F l o s.p ≠ none := hp
    rw [upd_ne h1.symm] at hp'
    obtain ⟨m, x, d, f, n, ns, e1, e2, e3, e4, e5, e6, e7, e8, e9⟩ := k.pn hp'
    refine ⟨m, x, d, f, n, ns, e1, e2, e3, e4, e5, e6, e7, ?_, e9⟩
    show upd s.F l o m = _
    rw [upd_ne (ne_of_none e8 h2)]
    exact e8
theorem Gr.frz {s0 : Sx} {l : Addr} {o : HO} (e : Gr g s0 s) (h0 : Nw s0.H l) (h1 : l ≠ s.p) (h2 : s.F l = none) (h3 : s.H l = some o) (nt : NT o) : Gr g s0 (s.frz l o) :=
  ⟨e.p, e.ff.trans (Xt.new h2), e.hh, fun a u a1 n a2 => by
    have na : a ≠ l := by
      intro z
      subst z
      exact h0 u a1 n
    show L2.upd s.F l o a = none
    rw [upd_ne na]
    exact e.ap a u a1 n a2, e.ok.frz h1 h2 h3 nt⟩
/-- the step of a freezing: not one of expressions (ap fails at l), but all else stays -/
theorem EnvR.frzG {i : Nat} {l : Addr} {o : HO} {x0 : Sl} {d : D} (h : EnvR g H0 s σ ρ) (hr : ρ[i]? = some x0) (hw : slOwn (some x0) = true) (hv : σ[i]? = some (some (.ref l))) (e2 : l ≠ s.p) (e3 : Nw H0.h l) (e4 : s.F l = none) (e5 : s.H l = some o) (nt : NT o) (ni : ∀ C dx fs, o ≠ .ins C dx fs)
    (hd : Rp g s.p (L2.upd s.F l o) (.ref l) d) : EnvR g H0 (s.frz l o) σ (ρ.set i (.val d)) := by
  have hx : Xt s.p s.F (upd s.F l o) := Xt.new e4
  have hi : i < ρ.length := (List.getElem?_eq_some_iff.mp hr).1
  refine ⟨h.gr.frz e3 e2 e4 e5 nt, by rw [List.length_set]; exact h.len, fun j => ?_, fun a b m h1 h2 h3 h4 => ?_⟩
  · by_cases e : i = j
    · subst e
      rw [List.getElem?_set_self hi]
      exact ⟨_, hv, hd⟩
    · rw [List.getElem?_set_ne e]
      have q := h.sl j
      match hj : ρ[j]? with
      | none => exact True.intro
      | some .no => exact True.intro
      | some (.val d) =>
        rw [hj] at q
        obtain ⟨v, a1, a2⟩ := q
        exact ⟨v, a1, Rp.mono hx a2⟩
      | some (.bor ds) =>
        rw [hj] at q
        obtain ⟨m, ys, a1, a2, a3, a4⟩ := q
        exact ⟨m, ys, a1, a2, a3, Rps.mono hx a4⟩
      | some (.exc y) =>
        rw [hj] at q
        obtain ⟨a, cls, d, a1, a2, a3⟩ := q
        exact ⟨a, cls, d, a1, a2, a3.ff rfl hx⟩
      | some .lam => rw [hj] at q; exact q
      | some (.obj c fs) =>
        rw [hj] at q
        obtain ⟨a, C, dx, gs, a1, a2, a3, a4, a5, a6, a7, a8⟩ := q
        refine ⟨a, C, dx, gs, a1, a2, a3, ?_, a5, a6, Rpf.mono hx a7, a8⟩
        show upd s.F l _ a = none
        rw [upd_ne]
        · exact a4
        · intro z
          subst z
          rw [e5] at a6
          cases a6
          exact ni _ _ _ rfl
      | some (.own fs) =>
        rw [hj] at q
        obtain ⟨m, zs, a1, a2, a3, a4, a5, a6⟩ := q
        refine ⟨m, zs, a1, a2, a3, ?_, a5, Rps.mono hx a6⟩
        show upd s.F l _ m = none
        rw [upd_ne]
        · exact a4
        · intro z
          subst z
          exact e (h.ap i j m (by rw [hr]; exact hw) (by rw [hj]; rfl) hv a1)
      | some (.ownd fs) =>
        rw [hj] at q
        obtain ⟨m, zs, a1, a2, a3, a4, a5, a6⟩ := q
        refine ⟨m, zs, a1, a2, a3, ?_, a5, Rpd.mono hx a6⟩
        show upd s.F l _ m = none
        rw [upd_ne]
        · exact a4
        · intro z
          subst z
          exact e (h.ap i j m (by rw [hr]; exact hw) (by rw [hj]; rfl) hv a1)
  · have key : ∀ {a}, slOwn (ρ.set i (.val d))[a]? = true → a ≠ i := fun {a} q z => by
      subst z
      rw [List.getElem?_set_self hi] at q
      cases q
    have na := key h1
    have nb := key h2
    rw [List.getElem?_set_ne (Ne.symm na)] at h1
    rw [List.getElem?_set_ne (Ne.symm nb)] at h2
    exact h.ap a b m h1 h2 h3 h4
theorem EnvR.frz {i : Nat} {ds : List D} (h : EnvR g H0 s σ ρ) (hr : ρ[i]? = some (.own ds)) : ∃ l xs, σ[i]? = some (some (.ref l)) ∧ s.F l = none ∧ Nw H0.h l ∧ l ≠ s.p ∧ s.H l = some (.lst xs) ∧ EnvR g H0 (s.frz l (.lst xs)) σ (ρ.set i (.val (.lst ds))) := by
  have q := h.sl i
  rw [hr] at q
  obtain ⟨l, xs, e1, e2, e3, e4, e5, e6⟩ := q
  exact ⟨l, xs, e1, e4, e3, e2, e5, h.frzG hr rfl e1 e2 e3 e4 e5 (fun _ z => nomatch z) (fun _ _ _ z => nomatch z) (.lst ⟨e2, upd_same⟩ (Rps.mono (Xt.new e4) e6))⟩
theorem EnvR.frzD {i : Nat} {ds : List (Key × D)} (h : EnvR g H0 s σ ρ) (hr : ρ[i]? = some (.ownd ds)) : ∃ l gs, σ[i]? = some (some (.ref l)) ∧ s.F l = none ∧ Nw H0.h l ∧ l ≠ s.p ∧ s.H l = some (.dK gs) ∧ EnvR g H0 (s.frz l (.dK gs)) σ (ρ.set i (.val (.dct ds))) := by
  have q := h.sl i
  rw [hr] at q
  obtain ⟨l, xs, e1, e2, e3, e4, e5, e6⟩ := q
  exact ⟨l, xs, e1, e4, e3, e2, e5, h.frzG hr rfl e1 e2 e3 e4 e5 (fun _ z => nomatch z) (fun _ _ _ z => nomatch z) (.dct e2 upd_same e6.1 (Rps.mono (Xt.new e4) e6.2))⟩
/-! ### an instance in the making -/
def putD (f : Str) (v : D) : List (Str × D) → List (Str × D)
  | [] => [(f, v)]
  | (g, x) :: r => if g = f then (g, v) :: r else (g, x) :: putD f v r
theorem Rpf.put {p : Addr} {F : Hp} {f : Str} {v : V} {d : D} (h : Rp g p F v d) : ∀ {gs : List (Str × V)} {fs : List (Str × D)}, Rpf g p F gs fs → Rpf g p F (putF f v gs) (putD f d fs)
  | _, _, .nil => .cons h .nil
  | _, _, .cons (f := f') q r => by
    unfold putF putD
    by_cases e : f' = f
    · rw [if_pos e, if_pos e]
      exact .cons h r
    · rw [if_neg e, if_neg e]
      exact .cons q (Rpf.put h r)
theorem Rpf.length {p : Addr} {F : Hp} : ∀ {gs : List (Str × V)} {fs : List (Str × D)}, Rpf g p F gs fs → gs.length = fs.length
  | _, _, .nil => rfl
  | _, _, .cons _ r => congrArg (· + 1) r.length
theorem EnvR.mutO {i : Nat} {a C dx : Addr} {c : Str} {gs gs' : List (Str × V)} {fs fs' : List (Str × D)} (h : EnvR g H0 s σ ρ) (hr : ρ[i]? = some (.obj c fs)) (hv : σ[i]? = some (some (.ref a))) (hu : ∀ j, j ≠ i → ∀ c fs, ρ[j]? ≠ some (.obj c fs)) (ha : s.H a = some (.ins C dx gs)) (hc : g.mg c = some (.ref C))
    (r : Rpf g s.p s.F gs' fs') : EnvR g H0 (s.lay a (.ins C dx gs')) σ (ρ.set i (.obj c fs')) := by
  have q := h.sl i
  rw [hr] at q
  obtain ⟨a', C', dx', gs0, e1, e2, e3, e4, e5, e6, e7, e8⟩ := q
  rw [hv] at e1
  cases e1
  rw [ha] at e6
  cases e6
  have hi : i < ρ.length := (List.getElem?_eq_some_iff.mp hr).1
  have hk : ∀ j : Nat, slOwn (ρ.set i (.obj c fs'))[j]? = slOwn ρ[j]? := fun j => by
    by_cases e : i = j
    · subst e
      rw [List.getElem?_set_self hi, hr]
      rfl
    · rw [List.getElem?_set_ne e]
  refine ⟨h.gr.chg e3 e2 e4 ha (fun _ z => nomatch z) (fun c q z => by unfold CodeO at z; cases z), by rw [List.length_set]; exact h.len, fun j => ?_, fun a b m h1 h2 h3 h4 => h.ap a b m (by rw [← hk]; exact h1) (by rw [← hk]; exact h2) h3 h4⟩
  by_cases e : i = j
  · subst e
    rw [List.getElem?_set_self hi]
    exact ⟨a, C, dx, gs', hv, e2, e3, e4, hc, upd_same, r, e8⟩
  · rw [List.getElem?_set_ne e]
    have q := h.sl j
    match hj : ρ[j]? with
    | none => exact True.intro
    | some .no => exact True.intro
    | some (.val d) => rw [hj] at q; exact q
    | some (.bor ds) => rw [hj] at q; exact q
    | some (.exc y) => rw [hj] at q; exact q
    | some .lam => rw [hj] at q; exact q
    | some (.obj c2 fs2) => exact absurd hj (hu j (Ne.symm e) c2 fs2)
    | some (.ownd fs) =>
      rw [hj] at q
      obtain ⟨m, zs, a1, a2, a3, a4, a5, a6⟩ := q
      refine ⟨m, zs, a1, a2, a3, a4, ?_, a6⟩
      show L2.upd s.H a _ m = _
      rw [upd_ne]
      · exact a5
      · intro z
        subst z
        rw [ha] at a5
        cases a5
    | some (.own fs) =>
      rw [hj] at q
      obtain ⟨m, zs, a1, a2, a3, a4, a5, a6⟩ := q
      refine ⟨m, zs, a1, a2, a3, a4, ?_, a6⟩
      show L2.upd s.H a _ m = _
      rw [upd_ne]
      · exact a5
      · intro z
        subst z
        rw [ha] at a5
        cases a5
end
end Kq
set_option Elab.async false
set_option linter.all false
set_option maxRecDepth 100000
set_option maxHeartbeats 4000000
namespace Kq
open PySem PySem.Spec PyProof.Rows L2 LamX

/-! ### what a piece of program does, by plain data: a predicate transformer with the pen's count -/
abbrev M (α : Type) := Nat → (α → Nat → Prop) → (XC → Nat → Prop) → Prop
abbrev ret {α : Type} (a : α) : M α := fun c Q _ => Q a c
abbrev stuck {α : Type} : M α := fun _ _ _ => False
abbrev bnd {α β : Type} (m : M α) (f : α → M β) : M β := fun c Q E => m c (fun a c' => f a c' Q E) E
abbrev grd {α : Type} (P : Prop) (m : M α) : M α := fun c Q E => P ∧ m c Q E
abbrev ME := Rho → M D
abbrev MB := Rho → M Bool
abbrev MA := Rho → M (List D)

/-- where one stands: the context, the code tables, the heap at the def's entry, what is wished of exceptions -/
structure J where
  X : Cx
  T : List (Addr × Str)
  H0 : Hz
  W : WX
abbrev J.g (j : J) : Gx := gxOf j.X j.T

def Fin (j : J) (s : Sx) (σ : L2.St) (E : XC → Nat → Prop) : Prop := ∀ x c, E x c → ∀ cls dd t, Gr j.g s t → t.c = c → XcR j.g t cls dd x → j.W cls dd σ t.H
theorem Fin.gr {j : J} {s t : Sx} {σ : L2.St} {E : XC → Nat → Prop} (h : Fin j s σ E) (e : Gr j.g s t) : Fin j t σ E := fun x c hx cls dd u eu ec r => h x c hx cls dd u (e.trans eu) ec r

/-- the reading of a mirror -/
def tOf {α β : Type} (j : J) (R : Sx → Sx → β → α → Prop) (m : Rho → M α) (σ : L2.St) (H : Hp) (Q : β → Hp → Prop) : Prop :=
  ∃ ρ s P E, s.H = H ∧ EnvR j.g j.H0 s σ ρ ∧ m ρ s.c P E ∧ (∀ d c, P d c → ∀ v t, Gr j.g s t → t.c = c → R s t v d → Q v t.H) ∧ Fin j s σ E

structure RE (j : J) (k : Kd) (e : Expr) (m : ME) : Prop where
  pe : PE j.X e (tOf j (RV k j.g) m)
structure RT (j : J) (e : Expr) (m : MB) : Prop where
  pt : PT j.X e (tOf j (fun _ _ b b' => b = b') m)
/-- the same, whatever the whole test is -/
structure RW (j : J) (e : Expr) (m : MB) : Prop where
  pw : PW j.X e (tOf j (fun _ _ b b' => b = b') m)
inductive RVs (g : Gx) (s t : Sx) : List Kd → List V → List D → Prop
  | nil : RVs g s t [] [] []
  | cons {k : Kd} {ks : List Kd} {v : V} {vs : List V} {d : D} {ds : List D} (h : RV k g s t v d) (r : RVs g s t ks vs ds) : RVs g s t (k :: ks) (v :: vs) (d :: ds)
structure RA (j : J) (ks : List Kd) (es : List Expr) (m : MA) : Prop where
  pa : PA j.X es (tOf j (RVs j.g · · ks) m)

theorem _root_.L2.PE.imp {X : Cx} {e : Expr} {t t' : TE} (h : PE X e t) (i : ∀ σ H Q, t' σ H Q → t σ H Q) : PE X e t' := ⟨fun pins s σ H Q I q => h.run pins s σ H Q I (i σ H Q q)⟩
theorem _root_.L2.PT.imp {X : Cx} {e : Expr} {t t' : TT} (h : PT X e t) (i : ∀ σ H Q, t' σ H Q → t σ H Q) : PT X e t' := ⟨fun pins s σ H Q I q => h.run pins s σ H Q I (i σ H Q q)⟩
theorem _root_.L2.PW.imp {X : Cx} {e : Expr} {t t' : TT} (h : PW X e t) (i : ∀ σ H Q, t' σ H Q → t σ H Q) : PW X e t' := ⟨fun wh pins s σ H Q I q => h.run wh pins s σ H Q I (i σ H Q q)⟩
theorem _root_.L2.PA.imp {X : Cx} {es : List Expr} {t t' : TA} (h : PA X es t) (i : ∀ σ H Q, t' σ H Q → t σ H Q) : PA X es t' := ⟨fun pos pins s σ H Q I q => h.run pos pins s σ H Q I (i σ H Q q)⟩

section
variable {g : Gx} {s t u : Sx} {v : V} {d : D} {k : Kd}
theorem RV.back (h : RV k g t u v d) (e : Gr g s t) : RV k g s u v d := by
  cases k with
  | val => exact h
  | rd => exact h
  | own =>
    obtain ⟨l, xs, ds, h1, h2, h3, h4, h5⟩ := h
    exact ⟨l, xs, ds, h1, h2, h3, e.hh.freeN h4, h5⟩
/-- what is read, at the heap itself -/
theorem RV.atH (h : RV k g s t v d) (o : Ok g t) : Rp g t.p t.H v d := by
  cases k with
  | val => exact Rp.mono o.fh h
  | rd =>
    rcases h with h | ⟨l, xs, ds, h1, h2, h3, h4, h5⟩
    · exact Rp.mono o.fh h
    · subst h1 h2
      exact .lst ⟨h3, h4⟩ (Rps.mono o.fh h5)
  | own =>
    obtain ⟨l, xs, ds, h1, h2, h3, h4, h5, h6, h7⟩ := h
    subst h1 h2
    exact .lst ⟨h3, h6⟩ (Rps.mono o.fh h7)
/-- a list that is read: its items are frozen -/
theorem RV.list {ds : List D} (h : RV k g s t v (.lst ds)) (o : Ok g t) : ∃ l xs, v = .ref l ∧ l ≠ t.p ∧ t.H l = some (.lst xs) ∧ Rps g t.p t.F xs ds := by
  cases k with
  | val =>
    cases (show Rp g t.p t.F v (.lst ds) from h) with
    | lst q r => exact ⟨_, _, rfl, q.1, (o.fh _ _ q.2 (fun _ z => nomatch z)).2 q.1, r⟩
  | rd =>
    rcases h with h | ⟨l, xs, es, h1, h2, h3, h4, h5⟩
    · cases h with
      | lst h r => exact ⟨_, _, rfl, h.1, (o.fh _ _ h.2 (fun _ z => nomatch z)).2 h.1, r⟩
    · cases h1
      exact ⟨l, xs, h2, h3, h4, h5⟩
  | own =>
    obtain ⟨l, xs, es, h1, h2, h3, h4, h5, h6, h7⟩ := h
    cases h1
    exact ⟨l, xs, h2, h3, h6, h7⟩
/-- what is no list is frozen -/
theorem RV.rp (h : RV k g s t v d) (n : ∀ ds, d ≠ .lst ds) : Rp g t.p t.F v d := by
  cases k with
  | val => exact h
  | rd =>
    rcases h with h | ⟨l, xs, ds, h1, _⟩
    · exact h
    · exact absurd h1 (n ds)
  | own =>
    obtain ⟨l, xs, ds, h1, _⟩ := h
    exact absurd h1 (n ds)
theorem RV.tup {ds : List D} (h : RV k g s t v (.tup ds)) (o : Ok g t) : ∃ l xs, v = .ref l ∧ SqT g.K t.H l xs ∧ Rps g t.p t.F xs ds := by
  cases (RV.rp h (fun _ z => nomatch z)) with
  | tup q r => exact ⟨_, _, rfl, (q.mono o.fh).sq, r⟩
/-- a new list is frozen -/
theorem RV.frz (h : RV .own g s t v d) (e : Gr g s t) : ∃ t', t'.H = t.H ∧ t'.c = t.c ∧ Gr g s t' ∧ RV .val g s t' v d := by
  obtain ⟨l, xs, ds, h1, h2, h3, h4, h5, h6, h7⟩ := h
  subst h1 h2
  have hx : Xt t.p t.F (upd t.F l (.lst xs)) := Xt.new h5
  refine ⟨t.frz l (.lst xs), rfl, rfl, e.frz h4 h3 h5 h6 (fun _ z => nomatch z), ?_⟩
  exact .lst ⟨h3, upd_same⟩ (Rps.mono hx h7)
end

section
variable {j : J} {k ka kb : Kd} {e a b : Expr} {m ma mb : ME}
theorem RE.frz (h : RE j .own e m) : RE j .val e m := ⟨h.pe.imp fun σ H Q ⟨ρ, s, P, E, eh, env, hm, hv, hx⟩ => ⟨ρ, s, P, E, eh, env, hm, fun d c hd v t e ec r => by
  obtain ⟨t', e1, e2, e3, e4⟩ := RV.frz r e
  rw [← e1]
  exact hv d c hd v t' e3 (e2.trans ec) e4, hx⟩⟩
theorem RE.rd (h : RE j .val e m) : RE j .rd e m := ⟨h.pe.imp fun σ H Q ⟨ρ, s, P, E, eh, env, hm, hv, hx⟩ => ⟨ρ, s, P, E, eh, env, hm, fun d c hd v t e ec r => hv d c hd v t e ec (.inl r), hx⟩⟩
theorem RE.ord (h : RE j .own e m) : RE j .rd e m := h.frz.rd

/-! ### names and constants -/
def mVar (i : Nat) : ME := fun ρ c Q _ => match ρ[i]? with
  | some (.val d) => Q d c
  | _ => False
def mVarR (i : Nat) : ME := fun ρ c Q _ => match ρ[i]? with
  | some (.val d) => Q d c
  | some (.own ds) => Q (.lst ds) c
  | some (.bor ds) => Q (.lst ds) c
  | _ => False
theorem re_var {i : Nat} {x : Str} {pos : Pos} (h : PE j.X (.Name x pos) (tVar i)) : RE j .val (.Name x pos) (mVar i) := ⟨h.imp fun σ H Q ⟨ρ, s, P, E, eh, env, hm, hv, hx⟩ => by
  subst eh
  have q := env.sl i
  unfold mVar at hm
  match hr : ρ[i]?, hm with
  | some (.val d), hm =>
    rw [hr] at q
    obtain ⟨v, e1, e2⟩ := q
    exact ⟨v, e1, hv d s.c hm v s (Gr.refl env.ok) rfl e2⟩⟩
theorem re_varR {i : Nat} {x : Str} {pos : Pos} (h : PE j.X (.Name x pos) (tVar i)) : RE j .rd (.Name x pos) (mVarR i) := ⟨h.imp fun σ H Q ⟨ρ, s, P, E, eh, env, hm, hv, hx⟩ => by
  subst eh
  have q := env.sl i
  unfold mVarR at hm
  match hr : ρ[i]?, hm with
  | some (.val d), hm =>
    rw [hr] at q
    obtain ⟨v, e1, e2⟩ := q
    exact ⟨v, e1, hv d s.c hm v s (Gr.refl env.ok) rfl (.inl e2)⟩
  | some (.own ds), hm =>
    rw [hr] at q
    obtain ⟨l, xs, e1, e2, e3, e4, e5, e6⟩ := q
    exact ⟨_, e1, hv _ s.c hm _ s (Gr.refl env.ok) rfl (.inr ⟨l, xs, ds, rfl, rfl, e2, e5, e6⟩)⟩
  | some (.bor ds), hm =>
    rw [hr] at q
    obtain ⟨l, xs, e1, e2, e3, e4⟩ := q
    exact ⟨_, e1, hv _ s.c hm _ s (Gr.refl env.ok) rfl (.inr ⟨l, xs, ds, rfl, rfl, e2, (env.h0 _ _ e3 (fun _ z => nomatch z)).2 e2, e4⟩)⟩⟩
def mC (d : D) : ME := fun _ c Q _ => Q d c
theorem re_c {v : V} {d : D} (h : PE j.X e (tC v)) (r : ∀ (p : Addr) (F : Hp), Rp j.g p F v d) : RE j .val e (mC d) := ⟨h.imp fun σ H Q ⟨ρ, s, P, E, eh, env, hm, hv, hx⟩ => by
  subst eh
  exact hv d s.c hm v s (Gr.refl env.ok) rfl (r _ _)⟩
theorem re_int {i : Int} {n : Nat} {pos : Pos} : RE j .val (.Constant (.int i) n pos) (mC (.int i)) := re_c pe_int fun _ _ => .int i
theorem re_bl {b : Bool} {n : Nat} {pos : Pos} : RE j .val (.Constant (.bool b) n pos) (mC (.bl b)) := re_c pe_bl fun _ _ => .bl b
theorem re_str {x : Str} {n : Nat} {pos : Pos} : RE j .val (.Constant (.str x) n pos) (mC (.str x)) := re_c pe_str fun _ _ => .str x
theorem re_non {n : Nat} {pos : Pos} : RE j .val (.Constant .none n pos) (mC .non) := re_c pe_non fun _ _ => .non

/-! ### two operands -/
def mBin (mo : D → D → M D) (ma mb : ME) : ME := fun ρ c Q E => ma ρ c (fun x c => mb ρ c (fun y c => mo x y c Q E) E) E
/-- a two-place rule by data -/
def OpM (g : Gx) (ka kb k : Kd) (r : R2) (mo : D → D → M D) : Prop :=
  ∀ {s1 s2 t : Sx} {x y : V} {dx dy : D} {P : D → Nat → Prop} {E : XC → Nat → Prop} {Q : VK}, RV ka g s1 t x dx → RV kb g s2 t y dy → Ok g t → mo dx dy t.c P E → (∀ d c, P d c → ∀ v u, Gr g t u → u.c = c → RV k g t u v d → Q v u.H) → r x y t.H Q
theorem re_bin {r : R2} {mo : D → D → M D} (pe : ∀ {ta tb : TE}, PE j.X a ta → PE j.X b tb → PE j.X e (tOp r ta tb)) (ho : OpM j.g ka kb k r mo) (ha : RE j ka a ma) (hb : RE j kb b mb) : RE j k e (mBin mo ma mb) :=
  ⟨(pe ha.pe hb.pe).imp fun σ H Q ⟨ρ, s, P, E, eh, env, hm, hv, hx⟩ => by
    subst eh
    refine ⟨ρ, s, _, E, rfl, env, hm, fun x c h1 v1 t1 g1 e1 r1 => ?_, hx⟩
    subst e1
    refine ⟨ρ, t1, _, E, rfl, env.to g1, h1, fun y c h2 v2 t2 g2 e2 r2 => ?_, hx.gr g1⟩
    subst e2
    exact ho (r1.gr g2) r2 g2.ok h2 fun d c hd v u g3 e3 r3 => hv d c hd v u ((g1.trans g2).trans g3) e3 (r3.back (g1.trans g2))⟩
/-- one operand -/
def mUn (mo : D → M D) (ma : ME) : ME := fun ρ c Q E => ma ρ c (fun x c => mo x c Q E) E
def UnM (g : Gx) (ka k : Kd) (r : V → Hp → VK → Prop) (mo : D → M D) : Prop :=
  ∀ {s1 t : Sx} {x : V} {dx : D} {P : D → Nat → Prop} {E : XC → Nat → Prop} {Q : VK}, RV ka g s1 t x dx → Ok g t → mo dx t.c P E → (∀ d c, P d c → ∀ v u, Gr g t u → u.c = c → RV k g t u v d → Q v u.H) → r x t.H Q
theorem re_un {r : V → Hp → VK → Prop} {mo : D → M D} (pe : ∀ {ta : TE}, PE j.X a ta → PE j.X e (tUn r ta)) (ho : UnM j.g ka k r mo) (ha : RE j ka a ma) : RE j k e (mUn mo ma) :=
  ⟨(pe ha.pe).imp fun σ H Q ⟨ρ, s, P, E, eh, env, hm, hv, hx⟩ => by
    subst eh
    refine ⟨ρ, s, _, E, rfl, env, hm, fun x c h1 v1 t1 g1 e1 r1 => ?_, hx⟩
    subst e1
    exact ho r1 g1.ok h1 fun d c hd v u g3 e3 r3 => hv d c hd v u (g1.trans g3) e3 (r3.back g1)⟩
end

/-! ### the operators on data -/
def CDivG (_ j : Int) : Prop := j ≠ 0 ∧ j.natAbs.log2 < 9000
theorem op_fdivG {X : Cx} : OpR X (binaryOp .FloorDiv) (rI CDivG fun i j => .int (i.fdiv j)) := opI fun i j _ _ _ _ _ hc q => floordiv_int hc.1 q (.inl (PyProof.noPylong_of_log2 hc.2))
def b2n : Bool → Int | true => 1 | false => 0
def dInt2 (C : Int → Int → Prop) (f : Int → Int → Int) : D → D → M D
  | .int a, .int b => grd (C a b) (ret (.int (f a b)))
  | _, _ => stuck
def dInt20 (f : Int → Int → Int) : D → D → M D
  | .int a, .int b => ret (.int (f a b))
  | _, _ => stuck
section
variable {g : Gx} {ka kb k : Kd} {t s1 : Sx}
theorem inv_int {i : Int} {v : V} (h : RV k g s1 t v (.int i)) : v = .int i := by
  cases h.rp (fun _ z => nomatch z) with
  | int => rfl
theorem inv_bl {i : Bool} {v : V} (h : RV k g s1 t v (.bl i)) : v = .bl i := by
  cases h.rp (fun _ z => nomatch z) with
  | bl => rfl
theorem inv_str {i : Str} {v : V} (h : RV k g s1 t v (.str i)) : v = .str i := by
  cases h.rp (fun _ z => nomatch z) with
  | str => rfl
theorem opm_int {C : Int → Int → Prop} {f : Int → Int → Int} : OpM g ka kb .val (rI C fun i j => .int (f i j)) (dInt2 C f) := by
  intro s1 s2 t x y dx dy P E Q hx hy o hm hq
  match dx, dy, hm with
  | .int a, .int b, hm => exact ⟨a, b, inv_int hx, inv_int hy, hm.1, hq _ _ hm.2 _ t (Gr.refl o) rfl (Rp.int _)⟩
theorem opm_int0 {f : Int → Int → Int} : OpM g ka kb .val (rI0 fun i j => .int (f i j)) (dInt20 f) := by
  intro s1 s2 t x y dx dy P E Q hx hy o hm hq
  match dx, dy, hm with
  | .int a, .int b, hm => exact ⟨a, b, inv_int hx, inv_int hy, hq _ _ hm _ t (Gr.refl o) rfl (Rp.int _)⟩
end
def CMulG (i j : Int) : Prop := CMul i j ∨ CMulX i j
theorem CMulG.ok {i j : Int} (h : CMulG i j) : IntMulOk i j := h.elim CMul.ok CMulX.ok
theorem op_mulG {X : Cx} : OpR X (binaryOp .Mult) (rI CMulG fun i j => .int (i * j)) := opI fun _ _ _ _ _ _ _ hc q => mul_int q hc.ok
def CShlG (i j : Int) : Prop := CPow i j ∨ CShl i j
theorem op_shlG {X : Cx} : OpR X (binaryOp .LShift) (rI CShlG fun i j => .int (i * 2 ^ j.toNat)) := opI fun _ _ _ _ _ _ _ hc q => hc.elim (fun c => lshift_int_small c.1 c.2.1 c.2.2 q) (fun c => lshift_int c.1 c.2 q)
abbrev dSub : D → D → M D := dInt20 fun a b => a - b
abbrev dFdv : D → D → M D := dInt2 CDivG fun a b => a.fdiv b
abbrev dMod : D → D → M D := dInt2 (fun _ b => b ≠ 0) fun a b => a.fmod b
abbrev dPow : D → D → M D := dInt2 CPow fun a b => a ^ b.toNat
abbrev dShl : D → D → M D := dInt2 CShlG fun a b => a * 2 ^ b.toNat
abbrev dShr : D → D → M D := dInt2 (fun _ b => 0 ≤ b) fun a b => a / 2 ^ b.toNat
abbrev dAnd : D → D → M D := dInt20 Builtin.bitAnd
abbrev dOr : D → D → M D := dInt20 Builtin.bitOr
abbrev dXor : D → D → M D := dInt20 Builtin.bitXor

def dAdd : D → D → M D
  | .int a, .int b => ret (.int (a + b))
  | .int a, .bl b => ret (.int (a + b2n b))
  | .str a, .str b => grd (a.length + b.length ≤ sizeLine) (ret (.str (a ++ b)))
  | .lst a, .lst b => grd (a.length + b.length ≤ sizeLine) (ret (.lst (a ++ b)))
  | .tup a, .tup b => grd (a.length + b.length ≤ sizeLine ∧ a ≠ []) (ret (.tup (a ++ b)))
  | _, _ => stuck
def rAddA (K : PySem.W.Frag) : R2 := fun x y H Q => (rI0 fun i j => .int (i + j)) x y H Q ∨ (∃ i j, x = .str i ∧ y = .str j ∧ i.length + j.length ≤ sizeLine ∧ Q (.str (i ++ j)) H) ∨ rCat x y H Q ∨ rCatT K x y H Q ∨ ∃ i k, x = .int i ∧ y = .bl k ∧ Q (.int (i + b2i k)) H
theorem op_addA {X : Cx} : OpR X (binaryOp .Add) (rAddA X.K) := op_add.or (op_add_str.or (op_cat.or (op_catT.or op_add_ib)))
theorem b2i_eq (b : Bool) : b2i b = b2n b := by cases b <;> rfl
end Kq
set_option Elab.async false
set_option linter.all false
set_option maxRecDepth 100000
set_option maxHeartbeats 4000000
namespace Kq
open PySem PySem.Spec PyProof.Rows L2 LamX

section
variable {g : Gx} {s t : Sx} {xs : List V} {ds : List D} {p : Addr}
theorem new_lst (o : Ok g t) (hp : t.H p = none) (r : Rps g t.p t.F xs ds) : Gr g t (t.put p (.lst xs)) ∧ RV .val g s (t.put p (.lst xs)) (.ref p) (.lst ds) :=
  ⟨Gr.put o hp (fun _ z => nomatch z), .lst ⟨o.ne hp, upd_same⟩ (Rps.mono (Xt.new (o.fnone hp)) r)⟩
theorem new_own (o : Ok g t) (hp : t.H p = none) (r : Rps g t.p t.F xs ds) : Gr g t (t.lay p (.lst xs)) ∧ RV .own g t (t.lay p (.lst xs)) (.ref p) (.lst ds) :=
  ⟨Gr.lay o hp, p, xs, ds, rfl, rfl, o.ne hp, .of hp, o.fnone hp, upd_same, r⟩
theorem new_tup (o : Ok g t) (hp : t.H p = none) (r : Rps g t.p t.F xs ds) : Gr g t (t.put p (.tup xs)) ∧ RV .val g s (t.put p (.tup xs)) (.ref p) (.tup ds) :=
  ⟨Gr.put o hp (fun _ z => nomatch z), Rp.tup (.inl ⟨o.ne hp, .inl upd_same⟩) (Rps.mono (Xt.new (o.fnone hp)) r)⟩
end

section
variable {g : Gx} {ka kb k : Kd}
theorem opm_add : OpM g ka kb .val (rAddA g.K) dAdd := by
  intro s1 s2 t x y dx dy P E Q hx hy o hm hq
  match dx, dy, hm with
  | .int a, .int b, hm => exact .inl ⟨a, b, inv_int hx, inv_int hy, hq _ _ hm _ t (Gr.refl o) rfl (Rp.int _)⟩
  | .int a, .bl b, hm => exact .inr (.inr (.inr (.inr ⟨a, b, inv_int hx, inv_bl hy, by rw [b2i_eq]; exact hq _ _ hm _ t (Gr.refl o) rfl (Rp.int _)⟩)))
  | .str a, .str b, hm => exact .inr (.inl ⟨a, b, inv_str hx, inv_str hy, hm.1, hq _ _ hm.2 _ t (Gr.refl o) rfl (Rp.str _)⟩)
  | .lst a, .lst b, hm =>
    obtain ⟨l, xs, rfl, n1, h1, r1⟩ := hx.list o
    obtain ⟨m, ys, rfl, n2, h2, r2⟩ := hy.list o
    refine .inr (.inr (.inl ⟨l, m, xs, ys, rfl, rfl, h1, h2, by rw [r1.length, r2.length]; exact hm.1, fun p hp => ?_⟩))
    obtain ⟨g1, v1⟩ := new_lst (s := t) o hp (r1.append r2)
    exact hq _ _ hm.2 _ _ g1 rfl v1
  | .tup a, .tup b, hm =>
    obtain ⟨l, xs, rfl, h1, r1⟩ := hx.tup o
    obtain ⟨m, ys, rfl, h2, r2⟩ := hy.tup o
    have hl := r1.length
    have hl2 := r2.length
    refine .inr (.inr (.inr (.inl ⟨l, m, xs, ys, rfl, rfl, h1, h2, fun z => hm.1.2 (List.length_eq_zero_iff.mp (by rw [← hl, z]; rfl)), by rw [hl, hl2]; exact hm.1.1, fun z => ?_, fun z p hp => ?_⟩)))
    · have eb : b = [] := List.length_eq_zero_iff.mp (by rw [← hl2, z]; rfl)
      have q := hm.2
      rw [eb, List.append_nil] at q
      exact hq _ _ q _ t (Gr.refl o) rfl (hx.rp fun _ z => nomatch z)
    · obtain ⟨g1, v1⟩ := new_tup (s := t) o hp (r1.append r2)
      exact hq _ _ hm.2 _ _ g1 rfl v1
/-- list + list, a new one -/
def dCat : D → D → M D
  | .lst a, .lst b => grd (a.length + b.length ≤ sizeLine) (ret (.lst (a ++ b)))
  | _, _ => stuck
theorem opm_cat : OpM g ka kb .own rCat dCat := by
  intro s1 s2 t x y dx dy P E Q hx hy o hm hq
  match dx, dy, hm with
  | .lst a, .lst b, hm =>
    obtain ⟨l, xs, rfl, n1, h1, r1⟩ := hx.list o
    obtain ⟨m, ys, rfl, n2, h2, r2⟩ := hy.list o
    refine ⟨l, m, xs, ys, rfl, rfl, h1, h2, by rw [r1.length, r2.length]; exact hm.1, fun p hp => ?_⟩
    obtain ⟨g1, v1⟩ := new_own o hp (r1.append r2)
    exact hq _ _ hm.2 _ _ g1 rfl v1
def dMul : D → D → M D := dInt2 CMulG fun a b => a * b
/-- list * n, a new one -/
def dRep : D → D → M D
  | .lst a, .int k => grd (-(2 ^ 63) ≤ k ∧ k < 2 ^ 63 ∧ a.length * k.toNat ≤ sizeLine) (ret (.lst (List.replicate k.toNat a).flatten))
  | _, _ => stuck
theorem opm_rep : OpM g ka kb .own rRep dRep := by
  intro s1 s2 t x y dx dy P E Q hx hy o hm hq
  match dx, dy, hm with
  | .lst a, .int b, hm =>
    obtain ⟨l, xs, rfl, n1, h1, r1⟩ := hx.list o
    refine ⟨l, b, xs, rfl, inv_int hy, h1, hm.1.1, hm.1.2.1, by rw [r1.length]; exact hm.1.2.2, fun p hp => ?_⟩
    obtain ⟨g1, v1⟩ := new_own o hp (r1.rep b.toNat)
    exact hq _ _ hm.2 _ _ g1 rfl v1

/-! ### comparisons -/
mutual
def toPy : D → Option PyData
  | .non => some .none
  | .bl b => some (.bool b)
  | .int i => some (.int i)
  | .str s => some (.str s)
  | .lst ds => (toPys ds).map .list
  | .tup ds => (toPys ds).map .tuple
  | _ => none
def toPys : List D → Option (List PyData)
  | [] => some []
  | d :: ds => match toPy d, toPys ds with
    | some a, some b => some (a :: b)
    | _, _ => none
end
mutual
theorem dp_of {p : Addr} {H : Hp} : ∀ {v : V} {d : D} {y : PyData}, Rp g p H v d → toPy d = some y → Dp g.K H v y
  | _, _, _, .non, e => by simp only [toPy] at e; cases e; exact .non
  | _, _, _, .bl b, e => by simp only [toPy] at e; cases e; exact .bl b
  | _, _, _, .int i, e => by simp only [toPy] at e; cases e; exact .int i
  | _, _, _, .str s, e => by simp only [toPy] at e; cases e; exact .str s
  | _, _, _, .ty n, e => by simp only [toPy] at e; cases e
  | _, _, y, .tup (ds := ds) h r, e => by
    simp only [toPy] at e
    match hq : toPys ds, e with
    | some ys, e =>
      simp only [Option.map_some, Option.some.injEq] at e
      subst e
      exact .tup h.sq (dps_of r hq)
  | _, _, y, .lst (ds := ds) h r, e => by
    simp only [toPy] at e
    match hq : toPys ds, e with
    | some ys, e =>
      simp only [Option.map_some, Option.some.injEq] at e
      subst e
      exact .lst (SqL.of h.2) (dps_of r hq)
  | _, _, _, .ins _ _ _ _, e => by simp only [toPy] at e; cases e
  | _, _, _, .pen _ _, e => by simp only [toPy] at e; cases e
  | _, _, _, .gl _, e => by simp only [toPy] at e; cases e
  | _, _, _, .dic _ _, e => by simp only [toPy] at e; cases e
  | _, _, _, .dct _ _ _ _, e => by simp only [toPy] at e; cases e
  | _, _, _, .tpf _ _ _ _, e => by simp only [toPy] at e; cases e
  | _, _, _, .exn _ _ _, e => by simp only [toPy] at e; cases e
theorem dps_of {p : Addr} {H : Hp} : ∀ {v : List V} {d : List D} {y : List PyData}, Rps g p H v d → toPys d = some y → DpAll g.K H v y
  | _, _, _, .nil, e => by simp only [toPys] at e; cases e; exact .nil
  | _, _, y, .cons (d := d) (ds := ds) h r, e => by
    simp only [toPys] at e
    match hq : toPy d, hqs : toPys ds, e with
    | some a, some b, e =>
      simp only [Option.some.injEq] at e
      subst e
      exact .cons (dp_of h hq) (dps_of r hqs)
end
def dEqB (f : Bool → Bool) (a b : D) : M D := fun c Q _ => ∃ x y, toPy a = some x ∧ toPy b = some y ∧ SeqAt.shaped x = true ∧ SeqAt.shaped y = true ∧ Q (.bl (f (PyData.eqv x y))) c
abbrev dEq : D → D → M D := dEqB id
abbrev dNe : D → D → M D := dEqB not
theorem opm_eq : OpM g ka kb .val (rEqD g.K) dEq := by
  intro s1 s2 t x y dx dy P E Q hx hy o hm hq
  obtain ⟨a, b, h1, h2, h3, h4, h5⟩ := hm
  exact ⟨a, b, dp_of (hx.atH o) h1, dp_of (hy.atH o) h2, h3, h4, hq _ _ h5 _ t (Gr.refl o) rfl (Rp.bl _)⟩
theorem opm_ne : OpM g ka kb .val (rNeD g.K) dNe := by
  intro s1 s2 t x y dx dy P E Q hx hy o hm hq
  obtain ⟨a, b, h1, h2, h3, h4, h5⟩ := hm
  exact ⟨a, b, dp_of (hx.atH o) h1, dp_of (hy.atH o) h2, h3, h4, hq _ _ h5 _ t (Gr.refl o) rfl (Rp.bl _)⟩
def dCmp (f : Int → Int → Bool) : D → D → M D
  | .int a, .int b => ret (.bl (f a b))
  | _, _ => stuck
theorem opm_cmp {f : Int → Int → Bool} : OpM g ka kb .val (rI0 fun i j => .bl (f i j)) (dCmp f) := by
  intro s1 s2 t x y dx dy P E Q hx hy o hm hq
  match dx, dy, hm with
  | .int a, .int b, hm => exact ⟨a, b, inv_int hx, inv_int hy, hq _ _ hm _ t (Gr.refl o) rfl (Rp.bl _)⟩
abbrev dLt : D → D → M D := dCmp fun i j => decide (i < j)
abbrev dLe : D → D → M D := dCmp fun i j => decide (i ≤ j)
abbrev dGt : D → D → M D := dCmp fun i j => decide (j < i)
abbrev dGe : D → D → M D := dCmp fun i j => decide (j ≤ i)
/-- flat data -/
def dFlat : D → Bool
  | .non => true | .bl _ => true | .int _ => true | .str _ => true
  | _ => false
def dEqF : D → D → Bool
  | .non, .non => true
  | .bl a, .bl b => a == b
  | .bl a, .int b => (if a then 1 else 0) == b
  | .int a, .bl b => a == (if b then 1 else 0)
  | .int a, .int b => a == b
  | .str a, .str b => a == b
  | _, _ => false
theorem flat_of {p : Addr} {F : Hp} {v : V} {d : D} (h : Rp g p F v d) (f : dFlat d = true) : flatV v = true := by
  cases h <;> first | rfl | exact absurd f Bool.false_ne_true
theorem eqF_of {p : Addr} {F F' : Hp} {v w : V} {d e : D} (h : Rp g p F v d) (h' : Rp g p F' w e) (f : dFlat d = true) (f' : dFlat e = true) : eqV v w = dEqF d e := by
  cases h <;> first | exact absurd f Bool.false_ne_true | skip
  all_goals (cases h' <;> first | exact absurd f' Bool.false_ne_true | rfl)
theorem flats_of {p : Addr} {F : Hp} : ∀ {xs : List V} {ds : List D}, Rps g p F xs ds → ds.all dFlat = true → xs.all flatV = true
  | _, _, .nil, _ => rfl
  | _, _, .cons h r, e => by
    rw [List.all_cons, Bool.and_eq_true] at e ⊢
    exact ⟨flat_of h e.1, flats_of r e.2⟩
theorem inF_of {p : Addr} {F F' : Hp} {v : V} {d : D} (h : Rp g p F' v d) (f : dFlat d = true) : ∀ {xs : List V} {ds : List D}, Rps g p F xs ds → ds.all dFlat = true → inV v xs = ds.any (fun e => dEqF e d)
  | _, _, .nil, _ => rfl
  | x :: xs, _, .cons h' r, e => by
    rw [List.all_cons, Bool.and_eq_true] at e
    have ih := inF_of h f r e.2
    show (eqV x v || inV v xs) = _
    rw [ih, eqF_of h' h e.1 f]
    rfl
def dIn (n : Bool) (d : D) : D → M D
  | .lst ds => grd (dFlat d = true ∧ ds.all dFlat = true) (ret (.bl (n ^^ ds.any fun e => dEqF e d)))
  | .tup ds => grd (dFlat d = true ∧ ds.all dFlat = true) (ret (.bl (n ^^ ds.any fun e => dEqF e d)))
  | .str b => match d with
    | .str a => ret (.bl (n ^^ !(Builtin.Str.occurrences b a 0 b.length 1).isEmpty))
    | _ => stuck
  | _ => stuck
theorem xor_t (b : Bool) : (true ^^ b) = !b := by cases b <;> rfl
theorem xor_f (b : Bool) : (false ^^ b) = b := by cases b <;> rfl
def rInA (K : PySem.W.Frag) (n : Bool) : R2 := fun x y H Q => rIn K n x y H Q ∨ ∃ i j, x = .str i ∧ y = .str j ∧ Q (.bl (n ^^ !(Builtin.Str.occurrences j i 0 j.length 1).isEmpty)) H
theorem op_inA {X : Cx} : OpR X (compareOp .In) (rInA X.K false) := op_in_seq.or fun pins s σ H x y v u Q I rx ry ⟨i, j, h1, h2, h⟩ => op_in_str pins s σ H x y v u Q I rx ry ⟨i, j, h1, h2, by rw [xor_f] at h; exact h⟩
theorem op_niA {X : Cx} : OpR X (compareOp .NotIn) (rInA X.K true) := op_notIn_seq.or fun pins s σ H x y v u Q I rx ry ⟨i, j, h1, h2, h⟩ => op_notin_str pins s σ H x y v u Q I rx ry ⟨i, j, h1, h2, by rw [xor_t] at h; exact h⟩
theorem opm_in {n : Bool} : OpM g ka kb .val (rInA g.K n) (dIn n) := by
  intro s1 s2 t x y dx dy P E Q hx hy o hm hq
  have fin : ∀ (l : Addr) (xs : List V) (ds : List D), y = .ref l → (SqL g.K t.H l xs ∨ SqT g.K t.H l xs) → Rps g t.p t.F xs ds → (dFlat dx = true ∧ ds.all dFlat = true) ∧ P (.bl (n ^^ ds.any fun e => dEqF e dx)) t.c → rInA g.K n x y t.H Q := fun l xs ds ey hs r hm => by
    have hxf := hx.atH o
    refine .inl ⟨l, xs, ey, hs, flat_of hxf hm.1.1, flats_of r hm.1.2, ?_⟩
    have e := inF_of hxf hm.1.1 r hm.1.2
    have q := hq _ _ hm.2 _ t (Gr.refl o) rfl (Rp.bl _)
    cases n with
    | true =>
      rw [xor_t] at q
      show Q (.bl (!inV x xs)) t.H
      rw [e]
      exact q
    | false =>
      rw [xor_f] at q
      show Q (.bl (inV x xs)) t.H
      rw [e]
      exact q
  match dy, hm with
  | .lst ds, hm =>
    obtain ⟨l, xs, e1, _, h1, r⟩ := hy.list o
    exact fin l xs ds e1 (.inl (SqL.of h1)) r hm
  | .tup ds, hm =>
    obtain ⟨l, xs, e1, h1, r⟩ := hy.tup o
    exact fin l xs ds e1 (.inr h1) r hm
  | .str b, hm =>
    match dx, hm with
    | .str a, hm => exact .inr ⟨a, b, inv_str hx, inv_str hy, hq _ _ hm _ t (Gr.refl o) rfl (Rp.bl _)⟩
/-- is None -/
def isNon : D → Bool
  | .non => true
  | _ => false
def dIsN (n : Bool) (d : D) : D → M D
  | .non => ret (.bl (n ^^ isNon d))
  | _ => stuck
def rIsA (n : Bool) : R2 := fun x y H Q => y = .non ∧ Q (.bl (n ^^ decide (x = .non))) H
theorem op_isA {X : Cx} : OpR X (compareOp .Is) (rIsA false) := fun pins s σ H x y v u Q I rx ry h => op_isN pins s σ H x y v u Q I rx ry ⟨h.1, by have q := h.2; rw [xor_f] at q; exact q⟩
theorem op_isnA {X : Cx} : OpR X (compareOp .IsNot) (rIsA true) := fun pins s σ H x y v u Q I rx ry h => op_notN pins s σ H x y v u Q I rx ry ⟨h.1, by have q := h.2; rw [xor_t] at q; exact q⟩
theorem opm_is {n : Bool} : OpM g ka kb .val (rIsA n) (dIsN n) := by
  intro s1 s2 t x y dx dy P E Q hx hy o hm hq
  match dy, hm with
  | .non, hm =>
    have hy' : y = .non := by
      cases hy.rp (fun _ z => nomatch z) with
      | non => rfl
    refine ⟨hy', ?_⟩
    have e : decide (x = .non) = isNon dx := by
      cases hx.atH o <;> rfl
    rw [e]
    exact hq _ _ hm _ t (Gr.refl o) rfl (Rp.bl _)
end

section
variable {j : J} {k ka kb kc : Kd} {e a b c : Expr} {m ma mb mc : ME}
/-! ### tests -/
def dBl : D → M Bool
  | .bl b => ret b
  | _ => stuck
def mTst (m : ME) : MB := fun ρ c Q E => m ρ c (fun d c => dBl d c Q E) E
theorem inv_dBl {d : D} {c : Nat} {Q : Bool → Nat → Prop} {E : XC → Nat → Prop} (h : dBl d c Q E) : ∃ b, d = .bl b ∧ Q b c := by
  match d, h with
  | .bl b, h => exact ⟨b, rfl, h⟩
/-- a comparison as a test -/
theorem rt_bin {r : R2} {mo : D → D → M D} (pt : ∀ {ta tb : TE}, PE j.X a ta → PE j.X b tb → PT j.X e (tTest (tOp r ta tb))) (ho : OpM j.g ka kb .val r mo) (ha : RE j ka a ma) (hb : RE j kb b mb) : RT j e (mTst (mBin mo ma mb)) :=
  ⟨(pt ha.pe hb.pe).imp fun σ H Q ⟨ρ, s, P, E, eh, env, hm, hv, hx⟩ => by
    subst eh
    refine ⟨ρ, s, _, E, rfl, env, hm, fun x c h1 v1 t1 g1 e1 r1 => ?_, hx⟩
    subst e1
    refine ⟨ρ, t1, _, E, rfl, env.to g1, h1, fun y c h2 v2 t2 g2 e2 r2 => ?_, hx.gr g1⟩
    subst e2
    refine ho (r1.gr g2) r2 g2.ok h2 fun d c hd v u g3 e3 r3 => ?_
    obtain ⟨b, rfl, q⟩ := inv_dBl hd
    exact ⟨b, inv_bl (k := .val) (s1 := u) r3, hv b c q b u ((g1.trans g2).trans g3) e3 rfl⟩⟩
/-- a value's truth -/
def dTru : D → M Bool
  | .non => ret false
  | .bl b => ret b
  | .int i => ret (i != 0)
  | .str s => grd (s.length ≤ sizeLine) (ret ((s.length : Int) != 0))
  | .lst ds => ret (!ds.isEmpty)
  | .tup ds => ret (!ds.isEmpty)
  | _ => stuck
def mTru (m : ME) : MB := fun ρ c Q E => m ρ c (fun d c => dTru d c Q E) E
theorem rps_empty {g : Gx} {p : Addr} {F : Hp} {xs : List V} {ds : List D} (r : Rps g p F xs ds) : (!xs.isEmpty) = !ds.isEmpty := by cases r <;> rfl
theorem tru_of {g : Gx} {s t : Sx} {v : V} {d : D} {c : Nat} {Q : Bool → Nat → Prop} {E : XC → Nat → Prop} (h : RV k g s t v d) (o : Ok g t) (hm : dTru d c Q E) : ∃ b, TruV g.K v t.H b ∧ Q b c := by
  match d, hm with
  | .non, hm =>
    cases h.rp (fun _ z => nomatch z) with
    | non => exact ⟨false, rfl, hm⟩
  | .bl b, hm => rw [inv_bl h]; exact ⟨b, rfl, hm⟩
  | .int i, hm => rw [inv_int h]; exact ⟨_, rfl, hm⟩
  | .str x, hm => rw [inv_str h]; exact ⟨_, ⟨hm.1, rfl⟩, hm.2⟩
  | .lst ds, hm =>
    obtain ⟨l, xs, rfl, _, h1, r⟩ := h.list o
    exact ⟨_, .inl ⟨xs, SqL.of h1, rfl⟩, by rw [rps_empty r]; exact hm⟩
  | .tup ds, hm =>
    obtain ⟨l, xs, rfl, h1, r⟩ := h.tup o
    exact ⟨_, .inr (.inl ⟨xs, h1, rfl⟩), by rw [rps_empty r]; exact hm⟩
theorem rt_tru (ha : RE j k a ma) (he : ∀ whole, isTrue a j.X.env whole = (do let v ← whole; standAt a.pos; holding [v] (truthy v)) := by intro _; rfl) : RT j a (mTru ma) :=
  ⟨(pt_truth ha.pe he).imp fun σ H Q ⟨ρ, s, P, E, eh, env, hm, hv, hx⟩ => by
    subst eh
    refine ⟨ρ, s, _, E, rfl, env, hm, fun x c h1 v1 t1 g1 e1 r1 => ?_, hx⟩
    subst e1
    obtain ⟨b, hb, q⟩ := tru_of r1 g1.ok h1
    exact ⟨b, hb, hv b _ q b t1 g1 rfl rfl⟩⟩
def mNotB (m : MB) : MB := fun ρ c Q E => m ρ c (fun b c => Q (!b) c) E
theorem rt_not {m : MB} {pos : Pos} (ha : RT j a m) : RT j (.UnaryOp .Not a pos) (mNotB m) :=
  ⟨(pt_not ha.pt).imp fun σ H Q ⟨ρ, s, P, E, eh, env, hm, hv, hx⟩ => by
    subst eh
    exact ⟨ρ, s, _, E, rfl, env, hm, fun b c h1 v1 t1 g1 e1 r1 => by rw [r1]; exact hv _ c h1 _ t1 g1 e1 rfl, hx⟩⟩
def mAndB (a b : MB) : MB := fun ρ c Q E => a ρ c (fun x c => if x = true then b ρ c Q E else Q false c) E
def mOrB (a b : MB) : MB := fun ρ c Q E => a ρ c (fun x c => if x = true then Q true c else b ρ c Q E) E
theorem rw_and1 {m : MB} {pos : Pos} (ha : RT j a m) : RW j (.BoolOp .And [a] pos) m := ⟨pw_and1 ha.pt⟩
theorem rw_or1 {m : MB} {pos : Pos} (ha : RT j a m) : RW j (.BoolOp .Or [a] pos) m := ⟨pw_or1 ha.pt⟩
theorem rw_and {m n : MB} {pos : Pos} {rest : List Expr} (ha : RT j a m) (hb : RW j (.BoolOp .And (b :: rest) pos) n) : RW j (.BoolOp .And (a :: b :: rest) pos) (mAndB m n) :=
  ⟨(pw_and ha.pt hb.pw).imp fun σ H Q ⟨ρ, s, P, E, eh, env, hm, hv, hx⟩ => by
    subst eh
    refine ⟨ρ, s, _, E, rfl, env, hm, fun x c h1 v1 t1 g1 e1 r1 => ?_, hx⟩
    subst e1 r1
    cases v1 with
    | true =>
      rw [if_pos rfl] at h1 ⊢
      exact ⟨ρ, t1, P, E, rfl, env.to g1, h1, fun y c h2 v2 t2 g2 e2 r2 => hv y c h2 v2 t2 (g1.trans g2) e2 r2, hx.gr g1⟩
    | false =>
      rw [if_neg Bool.false_ne_true] at h1 ⊢
      exact hv false _ h1 false t1 g1 rfl rfl⟩
theorem rw_or {m n : MB} {pos : Pos} {rest : List Expr} (ha : RT j a m) (hb : RW j (.BoolOp .Or (b :: rest) pos) n) : RW j (.BoolOp .Or (a :: b :: rest) pos) (mOrB m n) :=
  ⟨(pw_or ha.pt hb.pw).imp fun σ H Q ⟨ρ, s, P, E, eh, env, hm, hv, hx⟩ => by
    subst eh
    refine ⟨ρ, s, _, E, rfl, env, hm, fun x c h1 v1 t1 g1 e1 r1 => ?_, hx⟩
    subst e1 r1
    cases v1 with
    | true =>
      rw [if_pos rfl] at h1 ⊢
      exact hv true _ h1 true t1 g1 rfl rfl
    | false =>
      rw [if_neg Bool.false_ne_true] at h1 ⊢
      exact ⟨ρ, t1, P, E, rfl, env.to g1, h1, fun y c h2 v2 t2 g2 e2 r2 => hv y c h2 v2 t2 (g1.trans g2) e2 r2, hx.gr g1⟩⟩
theorem RW.rt {m : MB} (h : RW j a m) : RT j a m := ⟨h.pw.pt⟩
/-! ### the same as values -/
def mAndV (a b : ME) : ME := fun ρ c Q E => a ρ c (fun d c => dBl d c (fun x c => if x = true then b ρ c Q E else Q (.bl false) c) E) E
def mOrV (a b : ME) : ME := fun ρ c Q E => a ρ c (fun d c => dBl d c (fun x c => if x = true then Q (.bl true) c else b ρ c Q E) E) E
theorem re_one {op} {pos : Pos} (h : RE j k a ma) : RE j k (.BoolOp op [a] pos) ma := ⟨pe_one h.pe⟩
theorem re_and {pos : Pos} {rest : List Expr} (ha : RE j .val a ma) (hb : RE j .val (.BoolOp .And (b :: rest) pos) mb) : RE j .val (.BoolOp .And (a :: b :: rest) pos) (mAndV ma mb) :=
  ⟨(pe_and ha.pe hb.pe).imp fun σ H Q ⟨ρ, s, P, E, eh, env, hm, hv, hx⟩ => by
    subst eh
    refine ⟨ρ, s, _, E, rfl, env, hm, fun x c h1 v1 t1 g1 e1 r1 => ?_, hx⟩
    subst e1
    obtain ⟨b, rfl, q⟩ := inv_dBl h1
    refine ⟨b, inv_bl (k := .val) (s1 := s) r1, ?_⟩
    cases b with
    | true =>
      rw [if_pos rfl] at q ⊢
      exact ⟨ρ, t1, P, E, rfl, env.to g1, q, fun y c h2 v2 t2 g2 e2 r2 => hv y c h2 v2 t2 (g1.trans g2) e2 r2, hx.gr g1⟩
    | false =>
      rw [if_neg Bool.false_ne_true] at q ⊢
      exact hv _ _ q _ t1 g1 rfl (Rp.bl _)⟩
theorem re_or {pos : Pos} {rest : List Expr} (ha : RE j .val a ma) (hb : RE j .val (.BoolOp .Or (b :: rest) pos) mb) : RE j .val (.BoolOp .Or (a :: b :: rest) pos) (mOrV ma mb) :=
  ⟨(pe_or ha.pe hb.pe).imp fun σ H Q ⟨ρ, s, P, E, eh, env, hm, hv, hx⟩ => by
    subst eh
    refine ⟨ρ, s, _, E, rfl, env, hm, fun x c h1 v1 t1 g1 e1 r1 => ?_, hx⟩
    subst e1
    obtain ⟨b, rfl, q⟩ := inv_dBl h1
    refine ⟨b, inv_bl (k := .val) (s1 := s) r1, ?_⟩
    cases b with
    | true =>
      rw [if_pos rfl] at q ⊢
      exact hv _ _ q _ t1 g1 rfl (Rp.bl _)
    | false =>
      rw [if_neg Bool.false_ne_true] at q ⊢
      exact ⟨ρ, t1, P, E, rfl, env.to g1, q, fun y c h2 v2 t2 g2 e2 r2 => hv y c h2 v2 t2 (g1.trans g2) e2 r2, hx.gr g1⟩⟩
def mNotV (a : ME) : ME := fun ρ c Q E => a ρ c (fun d c => dBl d c (fun x c => Q (.bl (!x)) c) E) E
theorem re_not {pos : Pos} (ha : RE j .val a ma) : RE j .val (.UnaryOp .Not a pos) (mNotV ma) :=
  ⟨(pe_not ha.pe).imp fun σ H Q ⟨ρ, s, P, E, eh, env, hm, hv, hx⟩ => by
    subst eh
    refine ⟨ρ, s, _, E, rfl, env, hm, fun x c h1 v1 t1 g1 e1 r1 => ?_, hx⟩
    subst e1
    obtain ⟨b, rfl, q⟩ := inv_dBl h1
    exact ⟨b, inv_bl (k := .val) (s1 := s) r1, hv _ _ q _ t1 g1 rfl (Rp.bl _)⟩⟩
def mIfE (t : MB) (a b : ME) : ME := fun ρ c Q E => t ρ c (fun x c => if x = true then a ρ c Q E else b ρ c Q E) E
theorem re_if {t : MB} {pos : Pos} (hc : RT j c t) (ha : RE j k a ma) (hb : RE j k b mb) : RE j k (.IfExp c a b pos) (mIfE t ma mb) :=
  ⟨(pe_ifExp hc.pt ha.pe hb.pe).imp fun σ H Q ⟨ρ, s, P, E, eh, env, hm, hv, hx⟩ => by
    subst eh
    refine ⟨ρ, s, _, E, rfl, env, hm, fun x c h1 v1 t1 g1 e1 r1 => ?_, hx⟩
    subst e1 r1
    cases v1 with
    | true =>
      rw [if_pos rfl] at h1 ⊢
      exact ⟨ρ, t1, P, E, rfl, env.to g1, h1, fun y c h2 v2 t2 g2 e2 r2 => hv y c h2 v2 t2 (g1.trans g2) e2 (r2.back g1), hx.gr g1⟩
    | false =>
      rw [if_neg Bool.false_ne_true] at h1 ⊢
      exact ⟨ρ, t1, P, E, rfl, env.to g1, h1, fun y c h2 v2 t2 g2 e2 r2 => hv y c h2 v2 t2 (g1.trans g2) e2 (r2.back g1), hx.gr g1⟩⟩
end
end Kq
set_option Elab.async false
set_option linter.all false
set_option maxRecDepth 100000
set_option maxHeartbeats 4000000
namespace Kq
open PySem PySem.Spec PyProof.Rows L2 LamX

section
variable {g : Gx} {s t u : Sx}
theorem RVs.gr : ∀ {ks : List Kd} {vs : List V} {ds : List D}, RVs g s t ks vs ds → Gr g t u → RVs g s u ks vs ds
  | _, _, _, .nil, _ => .nil
  | _, _, _, .cons h r, e => .cons (h.gr e) (r.gr e)
theorem RVs.back : ∀ {ks : List Kd} {vs : List V} {ds : List D}, RVs g t u ks vs ds → Gr g s t → RVs g s u ks vs ds
  | _, _, _, .nil, _ => .nil
  | _, _, _, .cons h r, e => .cons (h.back e) (r.back e)
theorem RVs.rps : ∀ {ks : List Kd} {vs : List V} {ds : List D}, RVs g s t ks vs ds → (∀ k ∈ ks, k = .val) → Rps g t.p t.F vs ds
  | _, _, _, .nil, _ => .nil
  | _, _, _, .cons (k := k) h r, e => by
    have q := e k List.mem_cons_self
    subst q
    exact .cons h (r.rps fun k hk => e k (List.mem_cons_of_mem _ hk))
theorem RVs.length : ∀ {ks : List Kd} {vs : List V} {ds : List D}, RVs g s t ks vs ds → vs.length = ks.length ∧ ds.length = ks.length
  | _, _, _, .nil => ⟨rfl, rfl⟩
  | _, _, _, .cons h r => ⟨congrArg (· + 1) r.length.1, congrArg (· + 1) r.length.2⟩
end

section
variable {j : J} {k ka kb kc : Kd} {ks : List Kd} {e a b c : Expr} {es : List Expr} {m ma mb mc : ME} {mas : MA}
/-! ### arguments, displays -/
def mNil : MA := fun _ c Q _ => Q [] c
def mCons (ma : ME) (mr : MA) : MA := fun ρ c Q E => ma ρ c (fun d c => mr ρ c (fun ds c => Q (d :: ds) c) E) E
theorem ra_nil : RA j [] [] mNil := ⟨pa_nil.imp fun σ H Q ⟨ρ, s, P, E, eh, env, hm, hv, hx⟩ => by
  subst eh
  exact hv [] s.c hm [] s (Gr.refl env.ok) rfl .nil⟩
theorem ra_cons (ha : RE j k e ma) (hr : RA j ks es mas) (hs : starEach (e :: es) j.X.env = (false, eval e j.X.env) :: starEach es j.X.env := by rfl) : RA j (k :: ks) (e :: es) (mCons ma mas) :=
  ⟨(pa_cons ha.pe hr.pa hs).imp fun σ H Q ⟨ρ, s, P, E, eh, env, hm, hv, hx⟩ => by
    subst eh
    refine ⟨ρ, s, _, E, rfl, env, hm, fun x c h1 v1 t1 g1 e1 r1 => ?_, hx⟩
    subst e1
    refine ⟨ρ, t1, _, E, rfl, env.to g1, h1, fun y c h2 v2 t2 g2 e2 r2 => ?_, hx.gr g1⟩
    subst e2
    exact hv _ _ h2 _ t2 (g1.trans g2) rfl (.cons (r1.gr g2) (r2.back g1))⟩
def mTup (ma : MA) : ME := fun ρ c Q E => ma ρ c (fun ds c => ds.length ≤ sizeLine ∧ Q (.tup ds) c) E
def mLst (ma : MA) : ME := fun ρ c Q E => ma ρ c (fun ds c => ds.length ≤ sizeLine ∧ Q (.lst ds) c) E
theorem re_tup {x1 : Nat} {pos : Pos} (h : RA j ks es mas) (hk : ∀ k ∈ ks, k = .val := by decide) : RE j .val (.Tuple es x1 pos) (mTup mas) :=
  ⟨(pe_tup h.pa).imp fun σ H Q ⟨ρ, s, P, E, eh, env, hm, hv, hx⟩ => by
    subst eh
    refine ⟨ρ, s, _, E, rfl, env, hm, fun x c h1 v1 t1 g1 e1 r1 => ?_, hx⟩
    subst e1
    have r := r1.rps hk
    refine ⟨by rw [r.length]; exact h1.1, fun p hp => ?_⟩
    obtain ⟨g2, r2⟩ := new_tup (s := s) g1.ok hp r
    exact hv _ _ h1.2 _ _ (g1.trans g2) rfl r2⟩
theorem re_lst {pos : Pos} (h : RA j ks es mas) (hk : ∀ k ∈ ks, k = .val := by decide) : RE j .own (.List es pos) (mLst mas) :=
  ⟨(pe_lst h.pa).imp fun σ H Q ⟨ρ, s, P, E, eh, env, hm, hv, hx⟩ => by
    subst eh
    refine ⟨ρ, s, _, E, rfl, env, hm, fun x c h1 v1 t1 g1 e1 r1 => ?_, hx⟩
    subst e1
    have r := r1.rps hk
    refine ⟨by rw [r.length]; exact h1.1, fun p hp => ?_⟩
    obtain ⟨g2, r2⟩ := new_own g1.ok hp r
    exact hv _ _ h1.2 _ _ (g1.trans g2) rfl (r2.back g1)⟩

/-! ### items and slices -/
def dIx : D → D → M D
  | .lst ds, .int i => fun c Q _ => ∃ d, atI ds i = some d ∧ Q d c
  | .tup ds, .int i => fun c Q _ => ∃ d, atI ds i = some d ∧ Q d c
  | .str z, .int i => fun c Q _ => ∃ u, z.length ≤ sizeLine ∧ atI z.cps.toList i = some u ∧ Q (.str ⟨#[u]⟩) c
  | _, _ => stuck
theorem Rps.atI {g : Gx} {p : Addr} {F : Hp} {xs : List V} {ds : List D} {i : Int} {d : D} (r : Rps g p F xs ds) (h : atI ds i = some d) : ∃ x, L2.atI xs i = some x ∧ Rp g p F x d := by
  unfold L2.atI at h ⊢
  rw [r.length]
  cases q : ixN ds.length i with
  | none => rw [q] at h; cases h
  | some n =>
    rw [q] at h
    obtain ⟨x, h1, h2⟩ := r.get (i := n) h
    exact ⟨x, h1, h2⟩
theorem opm_ix : OpM j.g ka kb .val (rIx j.g.K) dIx := by
  intro s1 s2 t x y dx dy P E Q hx hy o hm hq
  match dx, dy, hm with
  | .lst ds, .int i, hm =>
    obtain ⟨d, h1, h2⟩ := hm
    obtain ⟨l, xs, rfl, _, e1, r⟩ := hx.list o
    obtain ⟨w, h3, h4⟩ := r.atI h1
    exact .inl ⟨l, xs, i, w, rfl, inv_int hy, SqL.of e1, h3, hq _ _ h2 _ t (Gr.refl o) rfl h4⟩
  | .tup ds, .int i, hm =>
    obtain ⟨d, h1, h2⟩ := hm
    obtain ⟨l, xs, rfl, e1, r⟩ := hx.tup o
    obtain ⟨w, h3, h4⟩ := r.atI h1
    exact .inr (.inl ⟨l, xs, i, w, rfl, inv_int hy, e1, h3, hq _ _ h2 _ t (Gr.refl o) rfl h4⟩)
  | .str z, .int i, hm =>
    obtain ⟨u, h0, h1, h2⟩ := hm
    exact .inr (.inr ⟨z, i, u, inv_str hx, inv_int hy, h0, h1, hq _ _ h2 _ t (Gr.refl o) rfl (Rp.str _)⟩)
theorem re_ix {pos : Pos} (ha : RE j ka a ma) (hb : RE j kb b mb) (hs : PlainIx b) : RE j .val (.Subscript a b pos) (mBin dIx ma mb) := re_bin (fun h1 h2 => pe_ix ix_seq h1 h2 hs) opm_ix ha hb

abbrev MO := Rho → M (Option Int)
structure RO (j : J) (e : Option Expr) (m : MO) : Prop where
  po : PO j.X e (tOf j (fun _ _ x y => x = y) m)
def mNoO : MO := fun _ c Q _ => Q none c
def mSoO (m : ME) : MO := fun ρ c Q E => m ρ c (fun d c => match d with
  | .int i => Q (some i) c
  | _ => False) E
theorem _root_.L2.PO.imp {X : Cx} {e : Option Expr} {t t' : TO} (h : PO X e t) (i : ∀ σ H Q, t' σ H Q → t σ H Q) : PO X e t' := ⟨fun pins s σ H R I q => h.run pins s σ H R I (i σ H R q)⟩
theorem ro_none : RO j none mNoO := ⟨po_none.imp fun σ H Q ⟨ρ, s, P, E, eh, env, hm, hv, hx⟩ => by
  subst eh
  exact hv none s.c hm none s (Gr.refl env.ok) rfl rfl⟩
theorem ro_some (ha : RE j k a ma) : RO j (some a) (mSoO ma) := ⟨(po_some ha.pe).imp fun σ H Q ⟨ρ, s, P, E, eh, env, hm, hv, hx⟩ => by
  subst eh
  refine ⟨ρ, s, _, E, rfl, env, hm, fun x c h1 v1 t1 g1 e1 r1 => ?_, hx⟩
  subst e1
  match x, h1, r1 with
  | .int i, h1, r1 => exact ⟨i, inv_int r1, hv _ _ h1 _ t1 g1 rfl rfl⟩⟩
def cutD (ds : List D) (lo hi : Option Int) : List D := (ds.drop (HT.sIx ds.length 0 lo)).take (HT.sIx ds.length ds.length hi - HT.sIx ds.length 0 lo)
theorem Rps.cut {g : Gx} {p : Addr} {F : Hp} {xs : List V} {ds : List D} (r : Rps g p F xs ds) (lo hi : Option Int) : Rps g p F (cutV xs lo hi) (cutD ds lo hi) := by
  unfold cutV cutD
  rw [r.length]
  exact (r.drop _).take _
/-- a slice of a list: new -/
def dSlL (x : D) (lo hi : Option Int) : M D := match x with
  | .lst ds => ret (.lst (cutD ds lo hi))
  | _ => stuck
/-- a slice of a text, of a tuple -/
def dSl (x : D) (lo hi : Option Int) : M D := match x with
  | .str z => grd (z.length ≤ sizeLine) (ret (.str (cutS z lo hi)))
  | .lst ds => ret (.lst (cutD ds lo hi))
  | .tup ds => grd (¬ (HT.sIx ds.length 0 lo = 0 ∧ HT.sIx ds.length ds.length hi = ds.length)) (ret (.tup (cutD ds lo hi)))
  | _ => stuck
def mSl (mo : D → Option Int → Option Int → M D) (ma : ME) (ml mh : MO) : ME := fun ρ c Q E => ma ρ c (fun x c => ml ρ c (fun l c => mh ρ c (fun h c => mo x l h c Q E) E) E) E
def SlM (g : Gx) (ka k : Kd) (r : V → Option Int → Option Int → Hp → VK → Prop) (mo : D → Option Int → Option Int → M D) : Prop :=
  ∀ {s1 t : Sx} {x : V} {dx : D} {lo hi : Option Int} {P : D → Nat → Prop} {E : XC → Nat → Prop} {Q : VK}, RV ka g s1 t x dx → Ok g t → mo dx lo hi t.c P E → (∀ d c, P d c → ∀ v u, Gr g t u → u.c = c → RV k g t u v d → Q v u.H) → r x lo hi t.H Q
theorem re_slG {r : V → Option Int → Option Int → Hp → VK → Prop} {mo : D → Option Int → Option Int → M D} {lo hi : Option Expr} {ml mh : MO} {p2 pos : Pos} (hr : SlR j.X r) (ho : SlM j.g ka k r mo) (ha : RE j ka a ma) (hl : RO j lo ml) (hh : RO j hi mh) :
    RE j k (.Subscript a (.Slice lo hi none p2) pos) (mSl mo ma ml mh) :=
  ⟨(pe_slice hr ha.pe hl.po hh.po).imp fun σ H Q ⟨ρ, s, P, E, eh, env, hm, hv, hx⟩ => by
    subst eh
    refine ⟨ρ, s, _, E, rfl, env, hm, fun x c h1 v1 t1 g1 e1 r1 => ?_, hx⟩
    subst e1
    refine ⟨ρ, t1, _, E, rfl, env.to g1, h1, fun y c h2 v2 t2 g2 e2 r2 => ?_, hx.gr g1⟩
    subst e2 r2
    refine ⟨ρ, t2, _, E, rfl, (env.to g1).to g2, h2, fun z c h3 v3 t3 g3 e3 r3 => ?_, (hx.gr g1).gr g2⟩
    subst e3 r3
    exact ho ((r1.gr g2).gr g3) g3.ok h3 fun d c hd v u g4 e4 r4 => hv d c hd v u (((g1.trans g2).trans g3).trans g4) e4 (r4.back ((g1.trans g2).trans g3))⟩
theorem slm_list : SlM j.g ka .own (rSlL j.g.K) dSlL := by
  intro s1 t x dx lo hi P E Q hx o hm hq
  match dx, hm with
  | .lst ds, hm =>
    obtain ⟨l, xs, rfl, _, e1, r⟩ := hx.list o
    refine ⟨l, xs, rfl, SqL.of e1, fun p hp => ?_⟩
    obtain ⟨g1, r1⟩ := new_own o hp (r.cut lo hi)
    exact hq _ _ hm _ _ g1 rfl r1
theorem re_slL {lo hi : Option Expr} {ml mh : MO} {p2 pos : Pos} (ha : RE j ka a ma) (hl : RO j lo ml) (hh : RO j hi mh) : RE j .own (.Subscript a (.Slice lo hi none p2) pos) (mSl dSlL ma ml mh) := re_slG sl_list slm_list ha hl hh
def rSlA (K : PySem.W.Frag) : V → Option Int → Option Int → Hp → VK → Prop := fun x lo hi H Q => rSlS x lo hi H Q ∨ rSlL K x lo hi H Q ∨ rSlT K x lo hi H Q
theorem sl_all {X : Cx} : SlR X (rSlA X.K) := sl_str.or (sl_list.or sl_tup)
theorem slm_all : SlM j.g ka .val (rSlA j.g.K) dSl := by
  intro s1 t x dx lo hi P E Q hx o hm hq
  match dx, hm with
  | .str z, hm => exact .inl ⟨z, inv_str hx, hm.1, hq _ _ hm.2 _ t (Gr.refl o) rfl (Rp.str _)⟩
  | .lst ds, hm =>
    obtain ⟨l, xs, rfl, _, e1, r⟩ := hx.list o
    refine .inr (.inl ⟨l, xs, rfl, SqL.of e1, fun p hp => ?_⟩)
    obtain ⟨g1, r1⟩ := new_lst (s := t) o hp (r.cut lo hi)
    exact hq _ _ hm _ _ g1 rfl r1
  | .tup ds, hm =>
    obtain ⟨l, xs, rfl, e1, r⟩ := hx.tup o
    have hl := r.length
    refine .inr (.inr ⟨l, xs, rfl, e1, by rw [hl]; exact hm.1, fun p hp => ?_⟩)
    obtain ⟨g1, r1⟩ := new_tup (s := t) o hp (r.cut lo hi)
    exact hq _ _ hm.2 _ _ g1 rfl r1
theorem re_sl {lo hi : Option Expr} {ml mh : MO} {p2 pos : Pos} (ha : RE j ka a ma) (hl : RO j lo ml) (hh : RO j hi mh) : RE j .val (.Subscript a (.Slice lo hi none p2) pos) (mSl dSl ma ml mh) := re_slG sl_all slm_all ha hl hh

/-! ### built-ins by name -/
def mCall (mo : List D → M D) (ma : MA) : ME := fun ρ c Q E => ma ρ c (fun ds c => mo ds c Q E) E
def CaM (g : Gx) (ks : List Kd) (k : Kd) (r : List V → Hp → VK → Prop) (mo : List D → M D) : Prop :=
  ∀ {s1 t : Sx} {xs : List V} {ds : List D} {P : D → Nat → Prop} {E : XC → Nat → Prop} {Q : VK}, RVs g s1 t ks xs ds → Ok g t → mo ds t.c P E → (∀ d c, P d c → ∀ v u, Gr g t u → u.c = c → RV k g t u v d → Q v u.H) → r xs t.H Q
theorem re_call {r : List V → Hp → VK → Prop} {mo : List D → M D} (pe : ∀ {t : TA}, PA j.X es t → PE j.X e (tCB r t)) (ho : CaM j.g ks k r mo) (ha : RA j ks es mas) : RE j k e (mCall mo mas) :=
  ⟨(pe ha.pa).imp fun σ H Q ⟨ρ, s, P, E, eh, env, hm, hv, hx⟩ => by
    subst eh
    refine ⟨ρ, s, _, E, rfl, env, hm, fun x c h1 v1 t1 g1 e1 r1 => ?_, hx⟩
    subst e1
    exact ho r1 g1.ok h1 fun d c hd v u g4 e4 r4 => hv d c hd v u (g1.trans g4) e4 (r4.back g1)⟩
theorem inv_rvs1 {g : Gx} {s t : Sx} {ks : List Kd} {xs : List V} {d : D} (h : RVs g s t ks xs [d]) : ∃ k x, xs = [x] ∧ RV k g s t x d := by
  cases h with
  | cons h r => cases r; exact ⟨_, _, rfl, h⟩
theorem inv_rvs2 {g : Gx} {s t : Sx} {ks : List Kd} {xs : List V} {d d' : D} (h : RVs g s t ks xs [d, d']) : ∃ k x k' x', xs = [x, x'] ∧ RV k g s t x d ∧ RV k' g s t x' d' := by
  cases h with
  | cons h r =>
    cases r with
    | cons h' r => cases r; exact ⟨_, _, _, _, rfl, h, h'⟩
def dLen : List D → M D
  | [.str z] => grd (z.length ≤ sizeLine) (ret (.int z.length))
  | [.lst ds] => ret (.int ds.length)
  | [.tup ds] => ret (.int ds.length)
  | _ => stuck
theorem cam_len : CaM j.g ks .val (fun xs H Q => ∃ x n, xs = [x] ∧ LenV j.g.K x H n ∧ Q (.int n) H) dLen := by
  intro s1 t xs ds P E Q hx o hm hq
  match ds, hm with
  | [.str z], hm =>
    obtain ⟨k, x, rfl, h⟩ := inv_rvs1 hx
    exact ⟨x, z.length, rfl, by rw [inv_str h]; exact ⟨hm.1, rfl⟩, hq _ _ hm.2 _ t (Gr.refl o) rfl (Rp.int _)⟩
  | [.lst ds], hm =>
    obtain ⟨k, x, rfl, h⟩ := inv_rvs1 hx
    obtain ⟨l, ys, rfl, _, e1, r⟩ := h.list o
    exact ⟨_, ds.length, rfl, .inl ⟨ys, SqL.of e1, r.length.symm⟩, hq _ _ hm _ t (Gr.refl o) rfl (Rp.int _)⟩
  | [.tup ds], hm =>
    obtain ⟨k, x, rfl, h⟩ := inv_rvs1 hx
    obtain ⟨l, ys, rfl, e1, r⟩ := h.tup o
    exact ⟨_, ds.length, rfl, .inr ⟨ys, e1, r.length.symm⟩, hq _ _ hm _ t (Gr.refl o) rfl (Rp.int _)⟩
def dToInt : List D → M D
  | [.int i] => ret (.int i)
  | [.bl b] => ret (.int (b2n b))
  | [.str z] => fun c Q _ => ∃ n, PySem.intText? z = some n ∧ z.length ≤ 640 ∧ Q (.int n) c
  | _ => stuck
def rToInt : List V → Hp → VK → Prop := fun xs H Q => ((∃ i, xs = [.int i] ∧ Q (.int i) H) ∨ ∃ k, xs = [.bl k] ∧ Q (.int (if k then 1 else 0)) H) ∨ ∃ a n, xs = [.str a] ∧ PySem.intText? a = some n ∧ a.length ≤ 640 ∧ Q (.int n) H
theorem call_toInt {X : Cx} : CallR X (.type "int") rToInt := call_int1.or fun pins s σ H xs us Q I r ⟨a, n, h1, h2, h3, h4⟩ => call_int_str pins s σ H xs us Q I r ⟨a, n, h1, h2, h3, h4⟩
theorem cam_toInt : CaM j.g ks .val rToInt dToInt := by
  intro s1 t xs ds P E Q hx o hm hq
  match ds, hm with
  | [.int i], hm =>
    obtain ⟨k, x, rfl, h⟩ := inv_rvs1 hx
    exact .inl (.inl ⟨i, by rw [inv_int h], hq _ _ hm _ t (Gr.refl o) rfl (Rp.int _)⟩)
  | [.bl b], hm =>
    obtain ⟨k, x, rfl, h⟩ := inv_rvs1 hx
    exact .inl (.inr ⟨b, by rw [inv_bl h], hq _ _ hm _ t (Gr.refl o) rfl (by cases b <;> exact Rp.int _)⟩)
  | [.str z], hm =>
    obtain ⟨k, x, rfl, h⟩ := inv_rvs1 hx
    obtain ⟨n, h1, h2, h3⟩ := hm
    exact .inr ⟨z, n, by rw [inv_str h], h1, h2, hq _ _ h3 _ t (Gr.refl o) rfl (Rp.int _)⟩
def dToBool : List D → M D
  | [.int i] => ret (.bl (i != 0))
  | [.bl b] => ret (.bl b)
  | _ => stuck
theorem cam_toBool : CaM j.g ks .val (fun xs H Q => (∃ i, xs = [.int i] ∧ Q (.bl (i != 0)) H) ∨ ∃ k, xs = [.bl k] ∧ Q (.bl k) H) dToBool := by
  intro s1 t xs ds P E Q hx o hm hq
  match ds, hm with
  | [.int i], hm =>
    obtain ⟨k, x, rfl, h⟩ := inv_rvs1 hx
    exact .inl ⟨i, by rw [inv_int h], hq _ _ hm _ t (Gr.refl o) rfl (Rp.bl _)⟩
  | [.bl b], hm =>
    obtain ⟨k, x, rfl, h⟩ := inv_rvs1 hx
    exact .inr ⟨b, by rw [inv_bl h], hq _ _ hm _ t (Gr.refl o) rfl (Rp.bl _)⟩
def dToStr : List D → M D
  | [.int i] => grd (i.natAbs.log2 < 1920) (ret (.str (toString i : String)))
  | _ => stuck
theorem cam_toStr : CaM j.g ks .val (fun xs H Q => ∃ i, xs = [.int i] ∧ i.natAbs.log2 < 1920 ∧ Q (.str (toString i)) H) dToStr := by
  intro s1 t xs ds P E Q hx o hm hq
  match ds, hm with
  | [.int i], hm =>
    obtain ⟨k, x, rfl, h⟩ := inv_rvs1 hx
    exact ⟨i, by rw [inv_int h], hm.1, hq _ _ hm.2 _ t (Gr.refl o) rfl (Rp.str _)⟩
def dAbs : List D → M D
  | [.int i] => ret (.int (if i < 0 then -i else i))
  | _ => stuck
theorem cam_abs : CaM j.g ks .val (fun xs H Q => ∃ i, xs = [.int i] ∧ Q (.int (if i < 0 then -i else i)) H) dAbs := by
  intro s1 t xs ds P E Q hx o hm hq
  match ds, hm with
  | [.int i], hm =>
    obtain ⟨k, x, rfl, h⟩ := inv_rvs1 hx
    exact ⟨i, by rw [inv_int h], hq _ _ hm _ t (Gr.refl o) rfl (Rp.int _)⟩
def dMax2 : List D → M D
  | [.int i, .int j] => ret (.int (if j > i then j else i))
  | _ => stuck
def dMin2 : List D → M D
  | [.int i, .int j] => ret (.int (if j < i then j else i))
  | _ => stuck
theorem cam_max2 : CaM j.g ks .val (fun xs H Q => ∃ i j, xs = [.int i, .int j] ∧ Q (.int (if j > i then j else i)) H) dMax2 := by
  intro s1 t xs ds P E Q hx o hm hq
  match ds, hm with
  | [.int i, .int l], hm =>
    obtain ⟨k, x, k', x', rfl, h, h'⟩ := inv_rvs2 hx
    exact ⟨i, l, by rw [inv_int h, inv_int h'], hq _ _ hm _ t (Gr.refl o) rfl (Rp.int _)⟩
theorem cam_min2 : CaM j.g ks .val (fun xs H Q => ∃ i j, xs = [.int i, .int j] ∧ Q (.int (if j < i then j else i)) H) dMin2 := by
  intro s1 t xs ds P E Q hx o hm hq
  match ds, hm with
  | [.int i, .int l], hm =>
    obtain ⟨k, x, k', x', rfl, h, h'⟩ := inv_rvs2 hx
    exact ⟨i, l, by rw [inv_int h, inv_int h'], hq _ _ hm _ t (Gr.refl o) rfl (Rp.int _)⟩
/-- a list of whole numbers -/
theorem ints_inv {g : Gx} {p : Addr} {F : Hp} : ∀ {ns : List Int} {xs : List V}, Rps g p F xs (ns.map D.int) → xs = ns.map V.int
  | [], _, h => by cases h; rfl
  | n :: ns, _, h => by
    cases h with
    | cons h r =>
      cases h
      rw [ints_inv r]
      rfl
theorem bls_inv {g : Gx} {p : Addr} {F : Hp} : ∀ {ns : List Bool} {xs : List V}, Rps g p F xs (ns.map D.bl) → xs = ns.map V.bl
  | [], _, h => by cases h; rfl
  | n :: ns, _, h => by
    cases h with
    | cons h r =>
      cases h
      rw [bls_inv r]
      rfl
theorem strs_inv {g : Gx} {p : Addr} {F : Hp} : ∀ {ns : List Str} {xs : List V}, Rps g p F xs (ns.map D.str) → xs = ns.map V.str
  | [], _, h => by cases h; rfl
  | n :: ns, _, h => by
    cases h with
    | cons h r =>
      cases h
      rw [strs_inv r]
      rfl
/-- one list of whole numbers -/
def dInts (f : List Int → M D) : List D → M D
  | [.lst ds] => fun c Q E => ∃ ns : List Int, ds = ns.map D.int ∧ f ns c Q E
  | _ => stuck
theorem ints_arg {g : Gx} {s t : Sx} {ks : List Kd} {xs : List V} {ds : List D} {f : List Int → M D} {c : Nat} {Q : D → Nat → Prop} {E : XC → Nat → Prop} (h : RVs g s t ks xs ds) (o : Ok g t) (hm : dInts f ds c Q E) :
    ∃ (l : Addr) (ns : List Int), xs = [.ref l] ∧ SqL g.K t.H l (ns.map V.int) ∧ f ns c Q E := by
  match ds, hm with
  | [.lst ds], hm =>
    obtain ⟨ns, e, q⟩ := hm
    obtain ⟨k, x, rfl, h1⟩ := inv_rvs1 h
    obtain ⟨l, ys, rfl, _, e1, r⟩ := h1.list o
    rw [e] at r
    exact ⟨l, ns, rfl, by rw [← ints_inv r]; exact SqL.of e1, q⟩
abbrev dSum : List D → M D := dInts fun ns => ret (.int ns.sum)
theorem cam_sum : CaM j.g ks .val (rSum j.g.K) dSum := by
  intro s1 t xs ds P E Q hx o hm hq
  obtain ⟨l, ns, rfl, h, q⟩ := ints_arg hx o hm
  exact ⟨l, ns, rfl, h, hq _ _ q _ t (Gr.refl o) rfl (Rp.int _)⟩
abbrev dMaxL : List D → M D := dInts fun ns c Q _ => 0 < ns.length ∧ ∀ m, m ∈ ns → (∀ y, y ∈ ns → y ≤ m) → Q (.int m) c
abbrev dMinL : List D → M D := dInts fun ns c Q _ => 0 < ns.length ∧ ∀ m, m ∈ ns → (∀ y, y ∈ ns → m ≤ y) → Q (.int m) c
theorem cam_maxL : CaM j.g ks .val (rMax j.g.K) dMaxL := by
  intro s1 t xs ds P E Q hx o hm hq
  obtain ⟨l, ns, rfl, h, q⟩ := ints_arg hx o hm
  exact ⟨l, ns, rfl, h, q.1, fun m h1 h2 => hq _ _ (q.2 m h1 h2) _ t (Gr.refl o) rfl (Rp.int _)⟩
theorem cam_minL : CaM j.g ks .val (rMin j.g.K) dMinL := by
  intro s1 t xs ds P E Q hx o hm hq
  obtain ⟨l, ns, rfl, h, q⟩ := ints_arg hx o hm
  exact ⟨l, ns, rfl, h, q.1, fun m h1 h2 => hq _ _ (q.2 m h1 h2) _ t (Gr.refl o) rfl (Rp.int _)⟩
abbrev dSorted : List D → M D := dInts fun ns c Q _ => ∀ ms : List Int, ms.Perm ns → ms.Pairwise (· ≤ ·) → Q (.lst (ms.map D.int)) c
def dBls (f : Bool → Bool → Bool) (b : Bool) : List D → M D
  | [.lst ds] => fun c Q _ => ∃ bs : List Bool, ds = bs.map D.bl ∧ Q (.bl (bs.foldr f b)) c
  | _ => stuck
abbrev dAll : List D → M D := dBls (· && ·) true
abbrev dAny : List D → M D := dBls (· || ·) false
theorem all_fold : ∀ bs : List Bool, bs.all id = bs.foldr (· && ·) true
  | [] => rfl
  | b :: bs => by rw [List.all_cons, List.foldr_cons, all_fold bs]; rfl
theorem any_fold : ∀ bs : List Bool, bs.any id = bs.foldr (· || ·) false
  | [] => rfl
  | b :: bs => by rw [List.any_cons, List.foldr_cons, any_fold bs]; rfl
theorem cam_all : CaM j.g ks .val (rAll j.g.K) dAll := by
  intro s1 t xs ds P E Q hx o hm hq
  match ds, hm with
  | [.lst ds], hm =>
    obtain ⟨bs, e, q⟩ := hm
    obtain ⟨k, x, rfl, h⟩ := inv_rvs1 hx
    obtain ⟨l, ys, rfl, _, e1, r⟩ := h.list o
    rw [e] at r
    exact ⟨l, bs, rfl, by rw [← bls_inv r]; exact SqL.of e1, by rw [all_fold]; exact hq _ _ q _ t (Gr.refl o) rfl (Rp.bl _)⟩
theorem cam_any : CaM j.g ks .val (rAny j.g.K) dAny := by
  intro s1 t xs ds P E Q hx o hm hq
  match ds, hm with
  | [.lst ds], hm =>
    obtain ⟨bs, e, q⟩ := hm
    obtain ⟨k, x, rfl, h⟩ := inv_rvs1 hx
    obtain ⟨l, ys, rfl, _, e1, r⟩ := h.list o
    rw [e] at r
    exact ⟨l, bs, rfl, by rw [← bls_inv r]; exact SqL.of e1, by rw [any_fold]; exact hq _ _ q _ t (Gr.refl o) rfl (Rp.bl _)⟩
/-- list(xs): a new list; tuple(xs) -/
def dToList : List D → M D
  | [.lst ds] => ret (.lst ds)
  | [.tup ds] => ret (.lst ds)
  | _ => stuck
theorem cam_toList : CaM j.g ks .own (fun xs H Q => ∃ p ys, xs = [.ref p] ∧ (SqL j.g.K H p ys ∨ SqT j.g.K H p ys) ∧ ∀ l, H l = none → Q (.ref l) (upd H l (.lst ys))) dToList := by
  intro s1 t xs ds P E Q hx o hm hq
  match ds, hm with
  | [.lst ds], hm =>
    obtain ⟨k, x, rfl, h⟩ := inv_rvs1 hx
    obtain ⟨l, ys, rfl, _, e1, r⟩ := h.list o
    refine ⟨l, ys, rfl, .inl (SqL.of e1), fun p hp => ?_⟩
    obtain ⟨g1, r1⟩ := new_own o hp r
    exact hq _ _ hm _ _ g1 rfl r1
  | [.tup ds], hm =>
    obtain ⟨k, x, rfl, h⟩ := inv_rvs1 hx
    obtain ⟨l, ys, rfl, e1, r⟩ := h.tup o
    refine ⟨l, ys, rfl, .inr e1, fun p hp => ?_⟩
    obtain ⟨g1, r1⟩ := new_own o hp r
    exact hq _ _ hm _ _ g1 rfl r1
def dToTup : List D → M D
  | [.lst ds] => ret (.tup ds)
  | [.tup ds] => ret (.tup ds)
  | _ => stuck
theorem cam_toTup : CaM j.g ks .val (fun xs H Q => ∃ p ys, xs = [.ref p] ∧ ((SqL j.g.K H p ys ∧ ∀ l, H l = none → Q (.ref l) (upd H l (.tup ys))) ∨ (SqT j.g.K H p ys ∧ Q (.ref p) H))) dToTup := by
  intro s1 t xs ds P E Q hx o hm hq
  match ds, hm with
  | [.lst ds], hm =>
    obtain ⟨k, x, rfl, h⟩ := inv_rvs1 hx
    obtain ⟨l, ys, rfl, _, e1, r⟩ := h.list o
    refine ⟨l, ys, rfl, .inl ⟨SqL.of e1, fun p hp => ?_⟩⟩
    obtain ⟨g1, r1⟩ := new_tup (s := t) o hp r
    exact hq _ _ hm _ _ g1 rfl r1
  | [.tup ds], hm =>
    obtain ⟨k, x, rfl, h⟩ := inv_rvs1 hx
    have h' := h.rp (fun _ z => nomatch z)
    obtain ⟨l, ys, rfl, e1, r⟩ := h.tup o
    exact ⟨l, ys, rfl, .inr ⟨e1, hq _ _ hm _ t (Gr.refl o) rfl h'⟩⟩
theorem cam_sorted : CaM j.g ks .own (rSortedI j.g.K) dSorted := by
  intro s1 t xs ds P E Q hx o hm hq
  obtain ⟨l, ns, rfl, h, q⟩ := ints_arg hx o hm
  refine ⟨l, ns, rfl, h, fun ms p h1 h2 hp => ?_⟩
  obtain ⟨g1, r1⟩ := new_own o hp (Rps.ints ms)
  exact hq _ _ (q ms h1 h2) _ _ g1 rfl r1
/-- x.bit_length() -/
def dBits : D → M D
  | .int i => ret (.int (Builtin.Int.intBits i : Nat))
  | _ => stuck
theorem re_bits {apos pos : Pos} (ha : RE j ka a ma) (hbase : attributeBase a "bit_length" j.X.env (eval a j.X.env) = eval a j.X.env := by rfl) (hline : (apos.endLine == pos.line) = true := by rfl) : RE j .val (.Call (.Attribute a "bit_length" apos) [] [] pos) (mUn dBits ma) :=
  re_un (r := fun x H Q => ∃ i, x = .int i ∧ Q (.int (Builtin.Int.intBits i : Nat)) H) (fun h => pe_bits h hbase hline) (by
    intro s1 t x dx P E Q hx o hm hq
    match dx, hm with
    | .int i, hm => exact ⟨i, inv_int hx, hq _ _ hm _ t (Gr.refl o) rfl (Rp.int _)⟩) ha
def dNeg : D → M D
  | .int i => ret (.int (-i))
  | _ => stuck
theorem re_neg {pos : Pos} (ha : RE j ka a ma) : RE j .val (.UnaryOp .USub a pos) (mUn dNeg ma) := re_un (fun h => pe_un un_neg h) (by
  intro s1 t x dx P E Q hx o hm hq
  match dx, hm with
  | .int i, hm => exact ⟨i, inv_int hx, hq _ _ hm _ t (Gr.refl o) rfl (Rp.int _)⟩) ha
end
end Kq
set_option Elab.async false
set_option linter.all false
set_option maxRecDepth 100000
set_option maxHeartbeats 4000000
namespace Kq
open PySem PySem.Spec PyProof.Rows L2 LamX

/-! ### statements -/
structure Po where
  nx : Rho → Nat → Prop
  rt : D → Nat → Prop
  bk : Rho → Nat → Prop
  ct : Rho → Nat → Prop
  ex : XC → Nat → Prop
abbrev MS := Rho → Nat → Po → Prop
/-- a step of statements -/
structure Sg (j : J) (s t : Sx) : Prop where
  p : t.p = s.p
  ff : Xt s.p s.F t.F
  ap : ∀ a o, j.H0.h a = some o → NT o → s.F a = none → t.F a = none
def RetR (j : J) (om : Bool) (t : Sx) (v : V) (d : D) : Prop :=
  if om = true then ∃ l xs ds, d = .lst ds ∧ v = .ref l ∧ l ≠ t.p ∧ Nw j.H0.h l ∧ t.F l = none ∧ t.H l = some (.lst xs) ∧ Rps j.g t.p t.F xs ds else Rp j.g t.p t.F v d
section
variable {j : J} {s t u : Sx} {om : Bool}
theorem Sg.refl : Sg j s s := ⟨rfl, Xt.refl _ _, fun _ _ _ _ h => h⟩
theorem Sg.trans (a : Sg j s t) (b : Sg j t u) : Sg j s u := ⟨b.p.trans a.p, a.ff.trans (a.p ▸ b.ff), fun x o h1 n h2 => b.ap x o h1 n (a.ap x o h1 n h2)⟩
theorem Sg.of (a : Gr j.g s t) (h : Xt s.p j.H0.h s.H) : Sg j s t := ⟨a.p, a.ff, fun x o h1 n h2 => by
  obtain ⟨⟨o', e, n'⟩, _⟩ := h x o h1 n
  exact a.ap x o' e n' h2⟩
structure EndsR (j : J) (om : Bool) (s : Sx) (po : Po) (Dn : Ends) : Prop where
  nx : ∀ ρ c, po.nx ρ c → ∀ σ t, Sg j s t → t.c = c → EnvR j.g j.H0 t σ ρ → Dn.nx σ t.H
  rt : ∀ d c, po.rt d c → ∀ v t, Sg j s t → t.c = c → Ok j.g t → Xt t.p j.H0.h t.H → RetR j om t v d → Dn.rt v t.H
  bk : ∀ ρ c, po.bk ρ c → ∀ σ t, Sg j s t → t.c = c → EnvR j.g j.H0 t σ ρ → Dn.bk σ t.H
  ct : ∀ ρ c, po.ct ρ c → ∀ σ t, Sg j s t → t.c = c → EnvR j.g j.H0 t σ ρ → Dn.ct σ t.H
  ex : ∀ x c, po.ex x c → ∀ cls dd σ t, Sg j s t → t.c = c → Ok j.g t → Xt t.p j.H0.h t.H → XcR j.g t cls dd x → j.W cls dd σ t.H
theorem EndsR.sg {po : Po} {Dn : Ends} (h : EndsR j om s po Dn) (e : Sg j s t) : EndsR j om t po Dn :=
  ⟨fun ρ c q σ u eu => h.nx ρ c q σ u (e.trans eu), fun d c q v u eu => h.rt d c q v u (e.trans eu), fun ρ c q σ u eu => h.bk ρ c q σ u (e.trans eu), fun ρ c q σ u eu => h.ct ρ c q σ u (e.trans eu),
    fun x c q cls dd σ u eu => h.ex x c q cls dd σ u (e.trans eu)⟩
theorem EndsR.fin {po : Po} {Dn : Ends} {σ : L2.St} (h : EndsR j om s po Dn) (e0 : Xt s.p j.H0.h s.H) : Fin j s σ po.ex := fun x c q cls dd t e ec r =>
  h.ex x c q cls dd σ t (Sg.of e e0) ec e.ok (by rw [e.p]; exact e0.trans e.hh) r
theorem RV.ret {v : V} {d : D} (h : RV .val j.g s t v d) : RetR j false t v d := by
  show (if false = true then _ else _)
  rw [if_neg Bool.false_ne_true]
  exact h
theorem RV.retO {v : V} {d : D} (h : RV .own j.g s t v d) (e : Xt s.p j.H0.h s.H) : RetR j true t v d := by
  show (if true = true then _ else _)
  rw [if_pos rfl]
  obtain ⟨l, xs, ds, h1, h2, h3, h4, h5⟩ := h
  exact ⟨l, xs, ds, h1, h2, h3, e.freeN h4, h5⟩
end
def sOf (j : J) (om : Bool) (ms : MS) : TS := fun Dn σ H => ∃ ρ s po, s.H = H ∧ EnvR j.g j.H0 s σ ρ ∧ ms ρ s.c po ∧ EndsR j om s po Dn
structure RS (j : J) (om : Bool) (st : Stmt) (ms : MS) : Prop where
  ps : PS j.X st (sOf j om ms)
structure RSs (j : J) (om : Bool) (sts : List Stmt) (ms : MS) : Prop where
  ps : PSs j.X sts (sOf j om ms)
theorem _root_.L2.PS.imp {X : Cx} {e : Stmt} {t t' : TS} (h : PS X e t) (i : ∀ D σ H, t' D σ H → t D σ H) : PS X e t' := ⟨fun pins s σ H D I q => h.run pins s σ H D I (i D σ H q)⟩
theorem _root_.L2.PSs.imp {X : Cx} {e : List Stmt} {t t' : TS} (h : PSs X e t) (i : ∀ D σ H, t' D σ H → t D σ H) : PSs X e t' := ⟨fun pins s σ H D I q => h.run pins s σ H D I (i D σ H q)⟩

section
variable {j : J} {om : Bool} {k ka : Kd} {e a c : Expr} {m ma : ME} {st : Stmt} {sts rest : List Stmt} {ms mt : MS} {i : Nat}
/-! ### blocks -/
def mNext : MS := fun ρ c po => po.nx ρ c
def mSeq (a b : MS) : MS := fun ρ c po => a ρ c { po with nx := fun ρ c => b ρ c po }
theorem rss_nil : RSs j om [] mNext := ⟨pss_nil.imp fun Dn σ H ⟨ρ, s, po, eh, env, hm, en⟩ => by
  subst eh
  exact en.nx ρ s.c hm σ s Sg.refl rfl env⟩
theorem EndsR.seq {s : Sx} {po : Po} {Dn : Ends} {b : MS} (en : EndsR j om s po Dn) : EndsR j om s { po with nx := fun ρ c => b ρ c po } { Dn with nx := sOf j om b Dn } :=
  ⟨fun ρ c q σ t e ec env => ⟨ρ, t, po, rfl, env, by rw [ec]; exact q, en.sg e⟩, en.rt, en.bk, en.ct, en.ex⟩
theorem rss_cons (h : RS j om st ms) (hr : RSs j om rest mt) : RSs j om (st :: rest) (mSeq ms mt) := ⟨(pss_cons h.ps hr.ps).imp fun Dn σ H ⟨ρ, s, po, eh, env, hm, en⟩ => by
  subst eh
  exact ⟨ρ, s, _, rfl, env, hm, en.seq⟩⟩
theorem rss_one (h : RS j om st ms) : RSs j om [st] ms := ⟨pss_one h.ps⟩
theorem rs_pass {pos : Pos} : RS j om (.Pass pos) mNext := ⟨ps_pass.imp fun Dn σ H ⟨ρ, s, po, eh, env, hm, en⟩ => by
  subst eh
  exact en.nx ρ s.c hm σ s Sg.refl rfl env⟩
def mBrk : MS := fun ρ c po => po.bk ρ c
def mCnt : MS := fun ρ c po => po.ct ρ c
theorem rs_break {pos : Pos} : RS j om (.Break pos) mBrk := ⟨ps_break.imp fun Dn σ H ⟨ρ, s, po, eh, env, hm, en⟩ => by
  subst eh
  exact en.bk ρ s.c hm σ s Sg.refl rfl env⟩
theorem rs_cont {pos : Pos} : RS j om (.Continue pos) mCnt := ⟨ps_continue.imp fun Dn σ H ⟨ρ, s, po, eh, env, hm, en⟩ => by
  subst eh
  exact en.ct ρ s.c hm σ s Sg.refl rfl env⟩
/-- an own list is frozen ahead -/
def mFrz (i : Nat) (ms : MS) : MS := fun ρ c po => match ρ[i]? with
  | some (.own ds) => ms (ρ.set i (.val (.lst ds))) c po
  | some (.ownd ds) => ms (ρ.set i (.val (.dct ds))) c po
  | _ => ms ρ c po
theorem sOf_frz {Dn : Ends} {σ : L2.St} {H : Hp} (h : sOf j om (mFrz i ms) Dn σ H) : sOf j om ms Dn σ H := by
  obtain ⟨ρ, s, po, eh, env, hm, en⟩ := h
  subst eh
  unfold mFrz at hm
  match hr : ρ[i]?, hm with
  | some (.own ds), hm =>
    obtain ⟨l, xs, e1, e2, e3, e4, e5, env'⟩ := env.frz hr
    refine ⟨_, s.frz l (.lst xs), po, rfl, env', hm, en.sg ⟨rfl, Xt.new e2, fun a o h1 n h2 => ?_⟩⟩
    show upd s.F l _ a = none
    rw [upd_ne]
    · exact h2
    · intro z
      subst z
      exact e3 o h1 n
  | some (.ownd ds), hm =>
    obtain ⟨l, xs, e1, e2, e3, e4, e5, env'⟩ := env.frzD hr
    refine ⟨_, s.frz l (.dK xs), po, rfl, env', hm, en.sg ⟨rfl, Xt.new e2, fun a o h1 n h2 => ?_⟩⟩
    show upd s.F l _ a = none
    rw [upd_ne]
    · exact h2
    · intro z
      subst z
      exact e3 o h1 n
  | none, hm => exact ⟨ρ, s, po, rfl, env, hm, en⟩
  | some .no, hm => exact ⟨ρ, s, po, rfl, env, hm, en⟩
  | some (.val d), hm => exact ⟨ρ, s, po, rfl, env, hm, en⟩
  | some (.bor d), hm => exact ⟨ρ, s, po, rfl, env, hm, en⟩
  | some (.obj _ _), hm => exact ⟨ρ, s, po, rfl, env, hm, en⟩
  | some (.exc _), hm => exact ⟨ρ, s, po, rfl, env, hm, en⟩
  | some .lam, hm => exact ⟨ρ, s, po, rfl, env, hm, en⟩
theorem rs_frz (i : Nat) (h : RS j om st ms) : RS j om st (mFrz i ms) := ⟨h.ps.imp fun _ _ _ h => sOf_frz h⟩

/-! ### stores to names -/
def mSet (i : Nat) (m : ME) : MS := fun ρ c po => m ρ c (fun d c => po.nx (ρ.set i (.val d)) c) po.ex
theorem rs_set (h : ∀ {te : TE}, PE j.X e te → PS j.X st (tAsg te (gName i))) (he : RE j .val e m) : RS j om st (mSet i m) := ⟨(h he.pe).imp fun Dn σ H ⟨ρ, s, po, eh, env, hm, en⟩ => by
  subst eh
  refine ⟨ρ, s, _, _, rfl, env, hm, fun d c hd v t e ec r => ?_, en.fin env.h0⟩
  exact en.nx _ _ hd _ t (Sg.of e env.h0) ec ((env.to e).set r)⟩
def mSetO (i : Nat) (m : ME) : MS := fun ρ c po => m ρ c (fun d c => match d with
  | .lst ds => po.nx (ρ.set i (.own ds)) c
  | _ => False) po.ex
theorem rs_setO (h : ∀ {te : TE}, PE j.X e te → PS j.X st (tAsg te (gName i))) (he : RE j .own e m) : RS j om st (mSetO i m) := ⟨(h he.pe).imp fun Dn σ H ⟨ρ, s, po, eh, env, hm, en⟩ => by
  subst eh
  refine ⟨ρ, s, _, _, rfl, env, hm, fun d c hd v t e ec r => ?_, en.fin env.h0⟩
  obtain ⟨l, xs, ds, h1, h2, h3, h4, h5, h6, h7⟩ := r
  subst h1 h2
  exact en.nx _ _ hd _ t (Sg.of e env.h0) ec ((env.to e).setOwn h3 (env.h0.freeN h4) h5 h6 h7 fun n _ hn => env.own_ne h4 n hn)⟩
/-- a, b = x, y (no tuple is made) -/
def mPar (i l : Nat) (ma : MA) : MS := fun ρ c po => ma ρ c (fun ds c => match ds with
  | [x, y] => po.nx ((ρ.set i (.val x)).set l (.val y)) c
  | _ => False) po.ex
theorem rs_par {es : List Expr} {ks : List Kd} {mas : MA} {l : Nat} (h : ∀ {ta : TA}, PA j.X es ta → PS j.X st (tPar i l ta)) (he : RA j ks es mas) (hk : ∀ k ∈ ks, k = .val := by decide) : RS j om st (mPar i l mas) := ⟨(h he.pa).imp fun Dn σ H ⟨ρ, s, po, eh, env, hm, en⟩ => by
  subst eh
  refine ⟨ρ, s, _, _, rfl, env, hm, fun d c hd v t e ec r => ?_, en.fin env.h0⟩
  have r := r.rps hk
  match d, hd, r with
  | [x, y], hd, .cons (v := v1) r1 (.cons (v := v2) r2 .nil) =>
    exact ⟨v1, v2, rfl, en.nx _ _ hd _ t (Sg.of e env.h0) ec (((env.to e).set r1).set r2)⟩⟩
def mPar3 (i l n : Nat) (ma : MA) : MS := fun ρ c po => ma ρ c (fun ds c => match ds with
  | [x, y, z] => po.nx (((ρ.set i (.val x)).set l (.val y)).set n (.val z)) c
  | _ => False) po.ex
theorem rs_par3 {es : List Expr} {ks : List Kd} {mas : MA} {l n : Nat} (h : ∀ {ta : TA}, PA j.X es ta → PS j.X st (tPar3 i l n ta)) (he : RA j ks es mas) (hk : ∀ k ∈ ks, k = .val := by decide) : RS j om st (mPar3 i l n mas) := ⟨(h he.pa).imp fun Dn σ H ⟨ρ, s, po, eh, env, hm, en⟩ => by
  subst eh
  refine ⟨ρ, s, _, _, rfl, env, hm, fun d c hd v t e ec r => ?_, en.fin env.h0⟩
  have r := r.rps hk
  match d, hd, r with
  | [x, y, z], hd, .cons (v := v1) r1 (.cons (v := v2) r2 (.cons (v := v3) r3 .nil)) =>
    exact ⟨v1, v2, v3, rfl, en.nx _ _ hd _ t (Sg.of e env.h0) ec ((((env.to e).set r1).set r2).set r3)⟩⟩
/-- x op= e, of whole numbers, of texts -/
def mAug (i : Nat) (mo : D → D → M D) (m : ME) : MS := fun ρ c po => match ρ[i]? with
  | some (.val x) => m ρ c (fun y c => mo x y c (fun z c => po.nx (ρ.set i (.val z)) c) po.ex) po.ex
  | _ => False
def dIadd : D → D → M D
  | .int a, .int b => ret (.int (a + b))
  | .str a, .str b => grd (a.length + b.length ≤ sizeLine) (ret (.str (a ++ b)))
  | _, _ => stuck
def rIadd : R2 := fun x y H Q => (rI0 fun i j => .int (i + j)) x y H Q ∨ ∃ i j, x = .str i ∧ y = .str j ∧ i.length + j.length ≤ sizeLine ∧ Q (.str (i ++ j)) H
theorem iop_addA {X : Cx} : OpR X (inplaceOp .Add) rIadd := iop_add.or iop_add_str
theorem opm_iadd {g : Gx} {kb : Kd} : OpM g ka kb .val rIadd dIadd := by
  intro s1 s2 t x y dx dy P E Q hx hy o hm hq
  match dx, dy, hm with
  | .int a, .int b, hm => exact .inl ⟨a, b, inv_int hx, inv_int hy, hq _ _ hm _ t (Gr.refl o) rfl (Rp.int _)⟩
  | .str a, .str b, hm => exact .inr ⟨a, b, inv_str hx, inv_str hy, hm.1, hq _ _ hm.2 _ t (Gr.refl o) rfl (Rp.str _)⟩
theorem rs_aug {r : R2} {mo : D → D → M D} (h : ∀ {te : TE}, PE j.X e te → PS j.X st (tAug i te r)) (ho : OpM j.g .val k .val r mo) (he : RE j k e m) : RS j om st (mAug i mo m) := ⟨(h he.pe).imp fun Dn σ H ⟨ρ, s, po, eh, env, hm, en⟩ => by
  subst eh
  have q := env.sl i
  unfold mAug at hm
  match hr : ρ[i]?, hm with
  | some (.val x), hm =>
    rw [hr] at q
    obtain ⟨v, e1, e2⟩ := q
    refine ⟨v, e1, ρ, s, _, _, rfl, env, hm, fun d c hd w t e ec r => ?_, en.fin env.h0⟩
    subst ec
    have e2' : RV .val j.g s s v x := e2
    exact ho (e2'.gr e) r e.ok hd fun d' c' hd' v' u e' ec' r' => en.nx _ _ hd' _ u (Sg.of (e.trans e') env.h0) ec' ((env.to (e.trans e')).set r')⟩

/-! ### what has its effect alone -/
def mDrop (m : ME) : MS := fun ρ c po => m ρ c (fun _ c => po.nx ρ c) po.ex
theorem rs_expr {pos : Pos} (he : RE j k e m) (hs : swapsWith e none pos.line j.X.env = pure false := by rfl) : RS j om (.Expr e pos) (mDrop m) := ⟨(ps_expr he.pe hs).imp fun Dn σ H ⟨ρ, s, po, eh, env, hm, en⟩ => by
  subst eh
  exact ⟨ρ, s, _, _, rfl, env, hm, fun d c hd v t e ec r => en.nx _ _ hd _ t (Sg.of e env.h0) ec (env.to e), en.fin env.h0⟩⟩
/-- a method of an own list that changes it -/
def OwnM (g : Gx) (ks : List Kd) (r : V → List V → Hp → VK → Prop) (mo : List D → List D → (List D → D → Prop) → Prop) : Prop :=
  ∀ {s1 t : Sx} {l : Addr} {xs vs : List V} {ds es : List D} {Q : VK} {P : List D → D → Prop}, l ≠ t.p → t.F l = none → t.H l = some (.lst xs) → Rps g t.p t.F xs ds → RVs g s1 t ks vs es → Ok g t → mo ds es P →
    (∀ fs d, P fs d → ∀ v ys, Rps g t.p t.F ys fs → Rp g t.p t.F v d → Q v (upd t.H l (.lst ys))) → r (.ref l) vs t.H Q
/-- xs.append(e), xs.extend(e) .. as a statement; xs the i-th name -/
def mOwn (i : Nat) (mo : List D → List D → (List D → D → Prop) → Prop) (ma : MA) : MS := fun ρ c po => match ρ[i]? with
  | some (.own ds) => ma ρ c (fun es c => mo ds es (fun fs _ => po.nx (ρ.set i (.own fs)) c)) po.ex
  | _ => False
theorem rs_own {r : V → List V → Hp → VK → Prop} {mo : List D → List D → (List D → D → Prop) → Prop} {es : List Expr} {ks : List Kd} {mas : MA} (h : ∀ {ta : TA}, PA j.X es ta → PS j.X st (tDrop (tBM j.X.K "list" r (tVar i) ta)))
    (ho : OwnM j.g ks r mo) (he : RA j ks es mas) : RS j om st (mOwn i mo mas) := ⟨(h he.pa).imp fun Dn σ H ⟨ρ, s, po, eh, env, hm, en⟩ => by
  subst eh
  have q := env.sl i
  unfold mOwn at hm
  match hr : ρ[i]?, hm with
  | some (.own ds), hm =>
    rw [hr] at q
    obtain ⟨l, xs, e1, e2, e3, e4, e5, e6⟩ := q
    refine ⟨_, e1, .inl ⟨rfl, _, SqL.of e5⟩, ρ, s, _, _, rfl, env, hm, fun d c hd w t e ec r => ?_, en.fin env.h0⟩
    subst ec
    have env' := env.to e
    have e5' := (e.hh _ _ e5 (fun _ z => nomatch z)).2 e2
    have e4' := e.ap _ _ e5 (fun _ z => nomatch z) e4
    have n' : l ≠ t.p := by rw [e.p]; exact e2
    refine ho n' e4' e5' (by rw [e.p]; exact Rps.mono e.ff e6) r e.ok hd fun fs d hf v ys rr _ => ?_
    exact en.nx _ _ hf _ (t.lay l (.lst ys)) ((Sg.of e env.h0).trans ⟨rfl, Xt.refl _ _, fun _ _ _ _ h => h⟩) rfl (env'.mut hr e1 rr)⟩
def oApp (ds es : List D) (P : List D → D → Prop) : Prop := match es with
  | [d] => ds.length < sizeLine ∧ P (ds ++ [d]) .non
  | _ => False
theorem own_app {g : Gx} : OwnM g [.val] rAppend oApp := by
  intro s1 t l xs vs ds es Q P n f h r rv o hm hq
  match es, hm, rv with
  | [d], hm, .cons rv .nil => exact ⟨l, xs, _, rfl, rfl, h, by rw [r.length]; exact hm.1, hq _ _ hm.2 _ _ (r.snoc rv) .non⟩
def oExt (ds es : List D) (P : List D → D → Prop) : Prop := match es with
  | [.lst fs] => ds.length + fs.length ≤ sizeLine ∧ P (ds ++ fs) .non
  | _ => False
theorem own_ext {g : Gx} : OwnM g [k] rExtend oExt := by
  intro s1 t l xs vs ds es Q P n f h r rv o hm hq
  match es, hm, rv with
  | [.lst fs], hm, .cons rv .nil =>
    obtain ⟨b, ys, rfl, _, e1, r1⟩ := rv.list o
    exact ⟨l, b, xs, ys, rfl, rfl, h, e1, by rw [r.length, r1.length]; exact hm.1, hq _ _ hm.2 _ _ (r.append r1) .non⟩
/-- xs[i] = e, xs an own list -/
def mSetIx (i : Nat) (me mi : ME) : MS := fun ρ c po => me ρ c (fun d c => match ρ[i]? with
  | some (.own ds) => mi ρ c (fun x c => match x with
    | .int k => ∃ n, ixN ds.length k = some n ∧ po.nx (ρ.set i (.own (ds.set n d))) c
    | _ => False) po.ex
  | _ => False) po.ex
theorem rs_setIx {b : Expr} {mb : ME} (h : ∀ {te ti : TE}, PE j.X e te → PE j.X b ti → PS j.X st (tAsg te (gSub (tVar i) ti rSetL))) (he : RE j .val e m) (hb : RE j k b mb) : RS j om st (mSetIx i m mb) := ⟨(h he.pe hb.pe).imp fun Dn σ H ⟨ρ, s, po, eh, env, hm, en⟩ => by
  subst eh
  refine ⟨ρ, s, _, _, rfl, env, hm, fun d c hd v t e1 ec r => ?_, en.fin env.h0⟩
  subst ec
  have env1 := env.to e1
  have q := env1.sl i
  match hr : ρ[i]?, hd with
  | some (.own ds), hd =>
    rw [hr] at q
    obtain ⟨l, xs, a1, a2, a3, a4, a5, a6⟩ := q
    refine ⟨_, a1, ρ, t, _, _, rfl, env1, hd, fun x c hx w u e2 ec r2 => ?_, (en.fin env.h0).gr e1⟩
    subst ec
    match x, hx, r2 with
    | .int kk, hx, r2 =>
      obtain ⟨n, h1, h2⟩ := hx
      have env2 := env1.to e2
      have b5 := (e2.hh _ _ a5 (fun _ z => nomatch z)).2 a2
      have b6 : Rps j.g u.p u.F xs ds := by rw [e2.p]; exact Rps.mono e2.ff a6
      have r' := r.gr e2
      refine ⟨l, xs, kk, n, rfl, inv_int r2, b5, by rw [b6.length]; exact h1, ?_⟩
      exact en.nx _ _ h2 _ (u.lay l _) ((Sg.of (e1.trans e2) env.h0).trans ⟨rfl, Xt.refl _ _, fun _ _ _ _ h => h⟩) rfl (env2.mut hr a1 (b6.set r' n))⟩

/-! ### if, while, return -/
def mIf (t : MB) (a b : MS) : MS := fun ρ c po => t ρ c (fun x c => if x = true then a ρ c po else b ρ c po) po.ex
theorem rs_if {t : MB} {p q : List Stmt} {pos : Pos} (hc : RT j c t) (ha : RSs j om p ms) (hb : RSs j om q mt) : RS j om (.If c p q pos) (mIf t ms mt) := ⟨(ps_if hc.pt ha.ps hb.ps).imp fun Dn σ H ⟨ρ, s, po, eh, env, hm, en⟩ => by
  subst eh
  refine ⟨ρ, s, _, _, rfl, env, hm, fun d c hd v t e ec r => ?_, en.fin env.h0⟩
  subst ec r
  cases v with
  | true =>
    rw [if_pos rfl] at hd ⊢
    exact ⟨ρ, t, po, rfl, env.to e, hd, en.sg (Sg.of e env.h0)⟩
  | false =>
    rw [if_neg Bool.false_ne_true] at hd ⊢
    exact ⟨ρ, t, po, rfl, env.to e, hd, en.sg (Sg.of e env.h0)⟩⟩
def mWhile (t : MB) (b : MS) : MS := fun ρ cc po => ∃ W : Nat → Rho → Nat → Prop, (∃ m, W m ρ cc) ∧ ∀ m ρ cc, W m ρ cc → t ρ cc (fun x cc => if x = true then
  b ρ cc { po with nx := fun ρ' c' => ∃ m', m' < m ∧ W m' ρ' c', ct := fun ρ' c' => ∃ m', m' < m ∧ W m' ρ' c', bk := po.nx } else po.nx ρ cc) po.ex
theorem rs_while {t : MB} {b : List Stmt} {pos : Pos} (hp : PassesOwn (model j.X.prog j.X.w) j.X.A j.X.env j.X.xe) (hc : RT j c t) (hb : RSs j om b ms) : RS j om (.While c b [] pos) (mWhile t ms) := ⟨(ps_while hp hc.pt hb.ps).imp fun Dn σ H ⟨ρ, s, po, eh, env, hm, en⟩ => by
  subst eh
  obtain ⟨W, ⟨m0, w0⟩, turn⟩ := hm
  refine ⟨fun m σ H => ∃ ρ t, t.H = H ∧ Sg j s t ∧ EnvR j.g j.H0 t σ ρ ∧ W m ρ t.c, ⟨m0, ρ, s, rfl, Sg.refl, env, w0⟩, ?_⟩
  rintro m σ1 H1 ⟨ρ1, t1, rfl, sg1, env1, w1⟩
  refine ⟨ρ1, t1, _, _, rfl, env1, turn m ρ1 t1.c w1, fun d c hd v u e ec r => ?_, (en.sg sg1).fin env1.h0⟩
  subst ec r
  have sg2 := sg1.trans (Sg.of e env1.h0)
  cases v with
  | true =>
    rw [if_pos rfl] at hd ⊢
    refine ⟨fun σ H => ∃ m', m' < m ∧ ∃ ρ t, t.H = H ∧ Sg j s t ∧ EnvR j.g j.H0 t σ ρ ∧ W m' ρ t.c, fun _ _ h => h, ρ1, u, _, rfl, env1.to e, hd, ?_⟩
    have en2 := en.sg sg2
    exact ⟨fun ρ c ⟨m', l, w⟩ σ t sg ec env => ⟨m', l, ρ, t, rfl, sg2.trans sg, env, by rw [ec]; exact w⟩, en2.rt, en2.nx, fun ρ c ⟨m', l, w⟩ σ t sg ec env => ⟨m', l, ρ, t, rfl, sg2.trans sg, env, by rw [ec]; exact w⟩, en2.ex⟩
  | false =>
    rw [if_neg Bool.false_ne_true] at hd ⊢
    exact en.nx _ _ hd _ u sg2 rfl (env1.to e)⟩
def mRet (m : ME) : MS := fun ρ c po => m ρ c po.rt po.ex
theorem rs_ret {pos : Pos} (he : RE j .val e m) : RS j false (.Return (some e) pos) (mRet m) := ⟨(ps_ret he.pe).imp fun Dn σ H ⟨ρ, s, po, eh, env, hm, en⟩ => by
  subst eh
  exact ⟨ρ, s, _, _, rfl, env, hm, fun d c hd v t e ec r => en.rt _ _ hd _ t (Sg.of e env.h0) ec e.ok (env.to e).h0 r.ret, en.fin env.h0⟩⟩
theorem rs_retO {pos : Pos} (he : RE j .own e m) : RS j true (.Return (some e) pos) (mRet m) := ⟨(ps_ret he.pe).imp fun Dn σ H ⟨ρ, s, po, eh, env, hm, en⟩ => by
  subst eh
  exact ⟨ρ, s, _, _, rfl, env, hm, fun d c hd v t e ec r => en.rt _ _ hd _ t (Sg.of e env.h0) ec e.ok (env.to e).h0 (r.retO env.h0), en.fin env.h0⟩⟩
/-- an own name is returned -/
def mRetN (i : Nat) : MS := fun ρ c po => match ρ[i]? with
  | some (.own ds) => po.rt (.lst ds) c
  | _ => False
theorem rs_retN {x : Str} {p pos : Pos} (h : PE j.X (.Name x p) (tVar i)) : RS j true (.Return (some (.Name x p)) pos) (mRetN i) := ⟨(ps_ret h).imp fun Dn σ H ⟨ρ, s, po, eh, env, hm, en⟩ => by
  subst eh
  have q := env.sl i
  unfold mRetN at hm
  match hr : ρ[i]?, hm with
  | some (.own ds), hm =>
    rw [hr] at q
    obtain ⟨l, xs, a1, a2, a3, a4, a5, a6⟩ := q
    refine ⟨_, a1, en.rt _ _ hm _ s Sg.refl rfl env.ok env.h0 ?_⟩
    show (if true = true then _ else _)
    rw [if_pos rfl]
    exact ⟨l, xs, ds, rfl, rfl, a2, a3, a4, a5, a6⟩⟩
def mRetU : MS := fun _ c po => po.rt .non c
theorem rs_retU {pos : Pos} : RS j false (.Return none pos) mRetU := ⟨ps_retN.imp fun Dn σ H ⟨ρ, s, po, eh, env, hm, en⟩ => by
  subst eh
  exact en.rt _ _ hm _ s Sg.refl rfl env.ok env.h0 (RV.ret (s := s) (t := s) Rp.non)⟩
end
end Kq
set_option Elab.async false
set_option linter.all false
set_option maxRecDepth 100000
set_option maxHeartbeats 4000000
namespace Kq
open PySem PySem.Spec PyProof.Rows L2 LamX RZ

/-! ### targets -/
theorem wipe_set {σ : L2.St} {i : Nat} {v : Option V} : ∀ {vs : List Nat}, i ∈ vs → wipe (σ.set i v) vs = wipe σ vs
  | [], h => absurd h (by simp)
  | n :: vs, h => by
    unfold wipe
    by_cases e : i ∈ vs
    · rw [wipe_set e]
    · have en : i = n := by
        rcases List.mem_cons.mp h with q | q
        · exact q
        · exact absurd q e
      subst en
      have key : ∀ {ws : List Nat} {τ : L2.St}, i ∉ ws → wipe (τ.set i v) ws = (wipe τ ws).set i v := fun {ws} => by
        induction ws with
        | nil => intro τ _; rfl
        | cons m ws ih =>
          intro τ hm
          have h1 : i ≠ m := fun z => hm (by rw [z]; exact List.mem_cons_self)
          have h2 : i ∉ ws := fun z => hm (List.mem_cons_of_mem _ z)
          unfold wipe
          rw [ih h2, List.set_comm _ _ h1]
      rw [key e, List.set_set]
theorem wipe_wipe {σ : L2.St} : ∀ {vs ws : List Nat}, (∀ i ∈ vs, i ∈ ws) → wipe (wipe σ vs) ws = wipe σ ws
  | [], _, _ => rfl
  | n :: vs, ws, h => by
    show wipe ((wipe σ vs).set n none) ws = _
    rw [wipe_set (h n List.mem_cons_self)]
    exact wipe_wipe fun i hi => h i (List.mem_cons_of_mem _ hi)
def mwipe (ρ : Rho) : List Nat → Rho
  | [] => ρ
  | v :: vs => (mwipe ρ vs).set v .no
theorem EnvR.unset {g : Gx} {H0 : Hz} {s : Sx} {σ : L2.St} {ρ : Rho} {i : Nat} (h : EnvR g H0 s σ ρ) : EnvR g H0 s (σ.set i none) (ρ.set i .no) := by
  refine ⟨h.gr, by rw [List.length_set, List.length_set]; exact h.len, fun n => ?_, fun a b l h1 h2 h3 h4 => ?_⟩
  · by_cases e : i = n
    · subst e
      by_cases hi : i < ρ.length
      · rw [List.getElem?_set_self hi]
        exact True.intro
      · rw [List.getElem?_eq_none (l := ρ.set i .no) (by rw [List.length_set]; omega)]
        exact True.intro
    · rw [List.getElem?_set_ne e, List.getElem?_set_ne e]
      exact h.sl n
  · have key : ∀ {a}, slOwn (ρ.set i .no)[a]? = true → a ≠ i := fun {a} q z => by
      subst z
      by_cases hi : a < ρ.length
      · rw [List.getElem?_set_self hi] at q
        cases q
      · rw [List.getElem?_eq_none (by rw [List.length_set]; omega)] at q
        cases q
    have na := key h1
    have nb := key h2
    rw [List.getElem?_set_ne (Ne.symm na)] at h1 h3
    rw [List.getElem?_set_ne (Ne.symm nb)] at h2 h4
    exact h.ap a b l h1 h2 h3 h4
theorem EnvR.wipe {g : Gx} {H0 : Hz} {s : Sx} {σ : L2.St} {ρ : Rho} (h : EnvR g H0 s σ ρ) : ∀ vs : List Nat, EnvR g H0 s (L2.wipe σ vs) (mwipe ρ vs)
  | [] => h
  | v :: vs => (h.wipe vs).unset
/-- a target's store: what it makes of the names; sl: the names that it touches -/
def GOk (g : Gx) (tg : TG) (sl : List Nat) (f : D → Rho → Option Rho) : Prop :=
  ∀ (H0 : Hz) (σ : L2.St) (s : Sx) (ρ ρ' : Rho) (v : V) (d : D), EnvR g H0 s σ ρ → Rp g s.p s.F v d → f d ρ = some ρ' → ∀ Q : L2.St → Hp → Prop,
    (∀ σ', EnvR g H0 s σ' ρ' → (∀ vs, (∀ i ∈ sl, i ∈ vs) → wipe σ' vs = wipe σ vs) → Q σ' s.H) → tg v σ s.H Q
def GsOk (g : Gx) (tg : TGs) (sl : List Nat) (f : List D → Rho → Option Rho) : Prop :=
  ∀ (H0 : Hz) (σ : L2.St) (s : Sx) (ρ ρ' : Rho) (v : List V) (d : List D), EnvR g H0 s σ ρ → Rps g s.p s.F v d → f d ρ = some ρ' → ∀ Q : L2.St → Hp → Prop,
    (∀ σ', EnvR g H0 s σ' ρ' → (∀ vs, (∀ i ∈ sl, i ∈ vs) → wipe σ' vs = wipe σ vs) → Q σ' s.H) → tg v σ s.H Q
def fName (i : Nat) : D → Rho → Option Rho := fun d ρ => some (ρ.set i (.val d))
theorem gok_name {g : Gx} {i : Nat} : GOk g (gName i) [i] (fName i) := by
  intro H0 σ s ρ ρ' v d env r e Q k
  cases e
  exact k _ (env.set r) fun vs h => wipe_set (h i (by simp))
def fNil : List D → Rho → Option Rho
  | [], ρ => some ρ
  | _, _ => none
def fCons (f : D → Rho → Option Rho) (fs : List D → Rho → Option Rho) : List D → Rho → Option Rho
  | d :: ds, ρ => (f d ρ).bind (fs ds)
  | _, _ => none
theorem gsok_nil {g : Gx} : GsOk g gNil [] fNil := by
  intro H0 σ s ρ ρ' v d env r e Q k
  match d, e, r with
  | [], e, .nil =>
    cases e
    exact ⟨rfl, k _ env fun _ _ => rfl⟩
theorem gsok_cons {g : Gx} {t : TG} {u : TGs} {sl sl' : List Nat} {f : D → Rho → Option Rho} {fs : List D → Rho → Option Rho} (h1 : GOk g t sl f) (h2 : GsOk g u sl' fs) : GsOk g (gCons t u) (sl ++ sl') (fCons f fs) := by
  intro H0 σ s ρ ρ' v d env r e Q k
  match d, e, r with
  | d :: ds, e, .cons (v := w) (vs := ws) q r =>
    have e' : (f d ρ).bind (fs ds) = some ρ' := e
    match h : f d ρ, e' with
    | some ρ1, e' =>
      refine ⟨w, ws, rfl, h1 H0 σ s ρ ρ1 w d env q h _ fun σ1 env1 w1 => ?_⟩
      refine h2 H0 σ1 s ρ1 ρ' ws ds env1 r e' _ fun σ2 env2 w2 => k σ2 env2 fun vs hv => ?_
      rw [w2 vs fun i hi => hv i (List.mem_append_right _ hi), w1 vs fun i hi => hv i (List.mem_append_left _ hi)]
def fTup (n : Nat) (fs : List D → Rho → Option Rho) : D → Rho → Option Rho := fun d ρ => match d with
  | .tup ds => if ds.length = n then fs ds ρ else none
  | _ => none
theorem gok_tup {g : Gx} {n : Nat} {u : TGs} {sl : List Nat} {fs : List D → Rho → Option Rho} (h : GsOk g u sl fs) : GOk g (gTup g.K n u) sl (fTup n fs) := by
  intro H0 σ s ρ ρ' v d env r e Q k
  match d, e, r with
  | .tup ds, e, .tup (a := a) (xs := xs) ha r =>
    have e' : (if ds.length = n then fs ds ρ else none) = some ρ' := e
    by_cases hn : ds.length = n
    · rw [if_pos hn] at e'
      exact ⟨a, xs, rfl, (ha.mono env.ok.fh).sq, by rw [r.length]; exact hn, h H0 σ s ρ ρ' xs ds env r e' Q k⟩
    · rw [if_neg hn] at e'
      cases e'
/-- target = value -/
def mAsgG (f : D → Rho → Option Rho) (m : ME) : MS := fun ρ c po => m ρ c (fun d c => ∃ ρ', f d ρ = some ρ' ∧ po.nx ρ' c) po.ex
section
variable {j : J} {om : Bool} {k ka : Kd} {e a c : Expr} {m ma : ME} {st : Stmt} {sts rest : List Stmt} {ms mt : MS} {i : Nat}
theorem rs_asgG {tg : TG} {sl : List Nat} {f : D → Rho → Option Rho} (h : ∀ {te : TE}, PE j.X e te → PS j.X st (tAsg te tg)) (hg : GOk j.g tg sl f) (he : RE j .val e m) : RS j om st (mAsgG f m) := ⟨(h he.pe).imp fun Dn σ H ⟨ρ, s, po, eh, env, hm, en⟩ => by
  subst eh
  refine ⟨ρ, s, _, _, rfl, env, hm, fun d c hd v t e ec r => ?_, en.fin env.h0⟩
  obtain ⟨ρ', h1, h2⟩ := hd
  exact hg j.H0 σ t ρ ρ' v d (env.to e) r h1 _ fun σ' env' _ => en.nx _ _ h2 _ t (Sg.of e env.h0) ec env'⟩
end

/-! ### what is walked -/
/-- a walk of the items ds, while St stands -/
structure ItOk (g : Gx) (St : Sx → Prop) (J' : It) (ds : List D) : Prop where
  go : ∀ i t, St t → i < ds.length → J'.go i t.H
  yld : ∀ i t d, St t → ds[i]? = some d → ∀ x H', J'.yld i t.H x H' → ∃ t', t'.H = H' ∧ t'.c = t.c ∧ Gr g t t' ∧ Rp g t'.p t'.F x d
  stop : ∀ t, St t → J'.stop ds.length t.H
/-- what stands through a loop (fs = true), through a comprehension -/
def Stb (j : J) (fs : Bool) (s t : Sx) : Prop := if fs = true then Sg j s t ∧ Ok j.g t ∧ Xt t.p j.H0.h t.H else Gr j.g s t
theorem Stb.ok {j : J} {fs : Bool} {s t : Sx} (h : Stb j fs s t) : Ok j.g t := by
  cases fs with
  | true => exact h.2.1
  | false => exact (show Gr j.g s t from h).ok
theorem Stb.ff {j : J} {fs : Bool} {s t : Sx} (h : Stb j fs s t) : Xt s.p s.F t.F ∧ t.p = s.p := by
  cases fs with
  | true => exact ⟨h.1.ff, h.1.p⟩
  | false => exact ⟨(show Gr j.g s t from h).ff, (show Gr j.g s t from h).p⟩
structure RI (j : J) (fs : Bool) (tg iter : Expr) (m : MA) : Prop where
  ex : ∃ wi : TI, PI j.X tg iter wi ∧ ∀ (σ : L2.St) (H : Hp) (R : It → Hp → Prop),
    (∃ ρ s P E, s.H = H ∧ EnvR j.g j.H0 s σ ρ ∧ m ρ s.c P E ∧ (∀ ds c, P ds c → ∀ t J', Gr j.g s t → t.c = c → ItOk j.g (Stb j fs t) J' ds → R J' t.H) ∧ Fin j s σ E) → wi σ H R
theorem _root_.L2.PI.or {X : Cx} {tg iter : Expr} {w1 w2 : TI} (h1 : PI X tg iter w1) (h2 : PI X tg iter w2) : PI X tg iter (fun σ H R => w1 σ H R ∨ w2 σ H R) := ⟨fun pins s σ H R I h => h.elim (h1.run pins s σ H R I) (h2.run pins s σ H R I)⟩
section
variable {g : Gx} {ds : List D} {xs : List V} {l : Addr} {St : Sx → Prop}
theorem itok_list (h : ∀ t, St t → Ok g t ∧ t.H l = some (.lst xs) ∧ Rps g t.p t.F xs ds) : ItOk g St (Itl g.K l) ds where
  go := fun i t st hi => by
    obtain ⟨_, h1, h2⟩ := h t st
    have hl := h2.length
    exact ⟨xs, xs[i]'(by omega), SqL.of h1, by simp [show i < xs.length by omega]⟩
  yld := fun i t d st hd x H' y => by
    obtain ⟨o, h1, h2⟩ := h t st
    obtain ⟨e, y⟩ := y
    obtain ⟨w, a1, a2⟩ := h2.get hd
    have q := y xs (SqL.of h1)
    rw [a1] at q
    cases q
    exact ⟨t, e.symm, rfl, Gr.refl o, a2⟩
  stop := fun t st => by
    obtain ⟨_, h1, h2⟩ := h t st
    exact ⟨xs, SqL.of h1, by rw [h2.length]; exact Nat.le_refl _⟩
theorem itok_tup (h : ∀ t, St t → Ok g t ∧ SqT g.K t.H l xs ∧ Rps g t.p t.F xs ds) : ItOk g St (Itt g.K l) ds where
  go := fun i t st hi => by
    obtain ⟨_, h1, h2⟩ := h t st
    have hl := h2.length
    exact ⟨xs, xs[i]'(by omega), h1, by simp [show i < xs.length by omega]⟩
  yld := fun i t d st hd x H' y => by
    obtain ⟨o, h1, h2⟩ := h t st
    obtain ⟨e, y⟩ := y
    obtain ⟨w, a1, a2⟩ := h2.get hd
    have q := y xs h1
    rw [a1] at q
    cases q
    exact ⟨t, e.symm, rfl, Gr.refl o, a2⟩
  stop := fun t st => by
    obtain ⟨_, h1, h2⟩ := h t st
    exact ⟨xs, h1, by rw [h2.length]; exact Nat.le_refl _⟩
theorem itok_str {z : Str} (h : ∀ t, St t → Ok g t) : ItOk g St (Its z) (z.cps.toList.map fun c => D.str ⟨#[c]⟩) where
  go := fun i t st hi => by
    rw [List.length_map, Array.length_toList] at hi
    exact hi
  yld := fun i t d st hd x H' y => by
    obtain ⟨e, c, h1, h2⟩ := y
    rw [List.getElem?_map, Array.getElem?_toList, h1] at hd
    cases hd
    subst h2
    exact ⟨t, e.symm, rfl, Gr.refl (h t st), Rp.str _⟩
  stop := fun t st => by
    show z.cps.size ≤ _
    rw [List.length_map, Array.length_toList]
    exact Nat.le_refl _
def rngD (lo : Int) (n : Nat) : List D := (List.range n).map fun (i : Nat) => D.int (lo + (i : Int))
theorem rngD_length (lo : Int) (n : Nat) : (rngD lo n).length = n := by
  unfold rngD
  rw [List.length_map, List.length_range]
theorem itok_range {lo : Int} {n : Nat} (h : ∀ t, St t → Ok g t) : ItOk g St (Itr lo n) (rngD lo n) where
  go := fun i t st hi => by
    rw [rngD_length] at hi
    exact hi
  yld := fun i t d st hd x H' y => by
    obtain ⟨e, q⟩ := y
    unfold rngD at hd
    rw [List.getElem?_map] at hd
    cases hr : (List.range n)[i]? with
    | none => rw [hr] at hd; cases hd
    | some w =>
      rw [hr] at hd
      have hw : w = i := by
        have q := (List.getElem?_eq_some_iff.mp hr).2
        rw [List.getElem_range] at q
        exact q.symm
      subst hw
      cases hd
      subst q
      exact ⟨t, e.symm, rfl, Gr.refl (h t st), Rp.int _⟩
  stop := fun t st => by
    show n ≤ _
    rw [rngD_length]
    exact Nat.le_refl _
end
/-- the items of data -/
def dItems : D → M (List D)
  | .lst ds => ret ds
  | .tup ds => ret ds
  | .str z => ret (z.cps.toList.map fun c => D.str ⟨#[c]⟩)
  | _ => stuck
def mItems (m : ME) : MA := fun ρ c Q E => m ρ c (fun d c => dItems d c Q E) E
section
variable {j : J} {fs : Bool} {k : Kd} {tg e a b c : Expr} {m ma mb mc : ME}
/-- what any value gives when it is walked -/
def rIt (K : PySem.W.Frag) (x : V) (H : Hp) (R : It → Hp → Prop) : Prop :=
  (∃ a xs, x = .ref a ∧ SqL K H a xs ∧ R (Itl K a) H) ∨ (∃ a xs, x = .ref a ∧ SqT K H a xs ∧ R (Itt K a) H) ∨ ∃ z, x = .str z ∧ R (Its z) H
theorem pi_any {X : Cx} {te : TE} (he : PE X e te) : PI X tg e (fun σ H R => te σ H fun x H1 => rIt X.K x H1 R) := by
  refine ⟨fun pins s σ H R I h => ?_⟩
  refine thn (he.run pins s σ H _ I h) fun v s1 ⟨x, H1, I1, r1, q1⟩ => ?_
  rcases q1 with ⟨a, xs, e, hq, q⟩ | ⟨a, xs, e, hq, q⟩ | ⟨z, e, q⟩
  · subst e
    cases r1
    obtain ⟨its, rv, p, hz⟩ := I1.list hq
    refine wpAny_pyIter_list p.isList ?_
    exact pi_one (tk := s1.toks) I1 _ (turn_list a _) ⟨_, Heap.get?_push_size _ rfl, rfl, rfl⟩ q
  · subst e
    cases r1
    obtain ⟨its, rv, p, hz⟩ := I1.tuple hq
    refine wpAny_pyIter_tuple (show s1.heap.IsTuple a its.toArray from p) ?_
    exact pi_one (tk := s1.toks) I1 _ (turn_tuple a _) ⟨_, Heap.get?_push_size _ rfl, rfl, rfl⟩ q
  · subst e
    obtain ⟨t, rfl⟩ := r1
    cases ha : z.cps.all (· < 128)
    · exact wpAny_pyIter_wide ha (pi_one (tk := s1.toks) I1 _ (turn_str _ z t "str_iterator" (.inr rfl)) ⟨_, Heap.get?_push_size _ rfl, rfl, rfl⟩ q)
    · exact wpAny_pyIter_ascii ha (pi_one (tk := s1.toks) I1 _ (turn_str _ z t "str_ascii_iterator" (.inl rfl)) ⟨_, Heap.get?_push_size _ rfl, rfl, rfl⟩ q)
theorem ri_val (he : RE j .val e m) : RI j fs tg e (mItems m) := ⟨_, pi_any he.pe, fun σ H R ⟨ρ, s, P, E, eh, env, hm, hv, hx⟩ => by
  subst eh
  refine ⟨ρ, s, _, E, rfl, env, hm, fun d c hd v t e ec r => ?_, hx⟩
  subst ec
  have stb : ∀ {u : Sx}, Stb j fs t u → Ok j.g u ∧ Xt t.p t.F u.F ∧ u.p = t.p := fun {u} st => ⟨st.ok, st.ff.1, st.ff.2⟩
  match d, hd, r with
  | .lst ds, hd, r =>
    cases (show Rp j.g t.p t.F v (.lst ds) from r) with
    | @lst a xs _ q r =>
      refine .inl ⟨_, _, rfl, SqL.of ((e.ok.fh _ _ q.2 (fun _ z => nomatch z)).2 q.1), hv ds _ hd t _ e rfl (itok_list (xs := xs) fun u st => ?_)⟩
      obtain ⟨o, f, p⟩ := stb st
      have q2 := (f _ _ q.2 (fun _ z => nomatch z)).2 q.1
      exact ⟨o, (o.fh _ _ q2 (fun _ z => nomatch z)).2 (by rw [p]; exact q.1), by rw [p]; exact Rps.mono f r⟩
  | .tup ds, hd, r =>
    cases (show Rp j.g t.p t.F v (.tup ds) from r) with
    | @tup a xs _ q r =>
      refine .inr (.inl ⟨_, _, rfl, (q.mono e.ok.fh).sq, hv ds _ hd t _ e rfl (itok_tup (xs := xs) fun u st => ?_)⟩)
      obtain ⟨o, f, p⟩ := stb st
      exact ⟨o, ((q.mono f).mono (p ▸ o.fh)).sq, by rw [p]; exact Rps.mono f r⟩
  | .str z, hd, r => exact .inr (.inr ⟨z, inv_str r, hv _ _ hd t _ e rfl (itok_str fun u st => (stb st).1)⟩)⟩
/-- through a comprehension a list that is only read may be walked, too -/
theorem ri_rd (he : RE j k e m) : RI j false tg e (mItems m) := ⟨_, pi_any he.pe, fun σ H R ⟨ρ, s, P, E, eh, env, hm, hv, hx⟩ => by
  subst eh
  refine ⟨ρ, s, _, E, rfl, env, hm, fun d c hd v t e ec r => ?_, hx⟩
  subst ec
  match d, hd, r with
  | .lst ds, hd, r =>
    obtain ⟨l, xs, rfl, n, h1, r1⟩ := r.list e.ok
    refine .inl ⟨_, _, rfl, SqL.of h1, hv ds _ hd t _ e rfl (itok_list (xs := xs) fun u st => ?_)⟩
    have st : Gr j.g t u := st
    exact ⟨st.ok, (st.hh _ _ h1 (fun _ z => nomatch z)).2 n, by rw [st.p]; exact Rps.mono st.ff r1⟩
  | .tup ds, hd, r =>
    cases (RV.rp r (fun _ z => nomatch z)) with
    | @tup a xs _ q r =>
      refine .inr (.inl ⟨_, _, rfl, (q.mono e.ok.fh).sq, hv ds _ hd t _ e rfl (itok_tup (xs := xs) fun u st => ?_)⟩)
      have st : Gr j.g t u := st
      exact ⟨st.ok, ((q.mono st.ff).mono (st.p ▸ st.ok.fh)).sq, by rw [st.p]; exact Rps.mono st.ff r⟩
  | .str z, hd, r => exact .inr (.inr ⟨z, inv_str r, hv _ _ hd t _ e rfl (itok_str fun u st => (show Gr j.g t u from st).ok)⟩)⟩
def mVarB (i : Nat) : MA := fun ρ c Q _ => match ρ[i]? with
  | some (.bor ds) => Q ds c
  | _ => False
/-- a borrowed list, through a loop -/
theorem ri_bor {i : Nat} {x : Str} {pos : Pos} (he : PE j.X (.Name x pos) (tVar i)) : RI j fs tg (.Name x pos) (mVarB i) := ⟨_, pi_any he, fun σ H R ⟨ρ, s, P, E, eh, env, hm, hv, hx⟩ => by
  subst eh
  have q := env.sl i
  unfold mVarB at hm
  match hr : ρ[i]?, hm with
  | some (.bor ds), hm =>
    rw [hr] at q
    obtain ⟨l, xs, e1, e2, e3, e4⟩ := q
    refine ⟨_, e1, .inl ⟨l, xs, rfl, SqL.of ((env.h0 _ _ e3 (fun _ z => nomatch z)).2 e2), hv _ s.c hm s _ (Gr.refl env.ok) rfl (itok_list (xs := xs) fun u st => ?_)⟩⟩
    have h0 : Xt u.p j.H0.h u.H := by
      cases fs with
      | true => exact st.2.2
      | false =>
        have st : Gr j.g s u := st
        rw [st.p]
        exact env.h0.trans st.hh
    have hp := st.ff.2
    exact ⟨st.ok, (h0 _ _ e3 (fun _ z => nomatch z)).2 (by rw [hp]; exact e2), by rw [hp]; exact Rps.mono st.ff.1 e4⟩⟩
def dRng1 : List D → M (List D)
  | [.int j] => grd (-(2 ^ 62) ≤ j ∧ j < 2 ^ 62) (ret (rngD 0 j.toNat))
  | _ => stuck
def dRng2 : List D → M (List D)
  | [.int i, .int j] => grd (-(2 ^ 62) ≤ i ∧ i < 2 ^ 62 ∧ -(2 ^ 62) ≤ j ∧ j < 2 ^ 62) (ret (rngD i (j - i).toNat))
  | _ => stuck
def mItA (mo : List D → M (List D)) (ma : MA) : MA := fun ρ c Q E => ma ρ c (fun ds c => mo ds c Q E) E
theorem ri_range1 {ks : List Kd} {mas : MA} (h : ∀ {ta : TA}, PA j.X [a] ta → PI j.X tg e (iRng1 ta)) (ha : RA j ks [a] mas) : RI j fs tg e (mItA dRng1 mas) := ⟨_, h ha.pa, fun σ H R ⟨ρ, s, P, E, eh, env, hm, hv, hx⟩ => by
  subst eh
  refine ⟨ρ, s, _, E, rfl, env, hm, fun d c hd v t e ec r => ?_, hx⟩
  subst ec
  match d, hd, r with
  | [.int n], hd, r =>
    obtain ⟨k, x, rfl, h⟩ := inv_rvs1 r
    exact ⟨n, by rw [inv_int h], hd.1.1, hd.1.2, hv _ _ hd.2 t _ e rfl (itok_range fun u st => st.ok)⟩⟩
theorem ri_range2 {ks : List Kd} {mas : MA} (h : ∀ {ta : TA}, PA j.X [a, b] ta → PI j.X tg e (iRng2 ta)) (ha : RA j ks [a, b] mas) : RI j fs tg e (mItA dRng2 mas) := ⟨_, h ha.pa, fun σ H R ⟨ρ, s, P, E, eh, env, hm, hv, hx⟩ => by
  subst eh
  refine ⟨ρ, s, _, E, rfl, env, hm, fun d c hd v t e ec r => ?_, hx⟩
  subst ec
  match d, hd, r with
  | [.int n, .int n'], hd, r =>
    obtain ⟨k, x, k', x', rfl, h, h'⟩ := inv_rvs2 r
    exact ⟨n, n', by rw [inv_int h, inv_int h'], hd.1, hv _ _ hd.2 t _ e rfl (itok_range fun u st => st.ok)⟩⟩
/-- range(a, b, -1) -/
def dRngN : List D → M (List D)
  | [.int i, .int j, .int c] => grd (-(2 ^ 62) ≤ i ∧ i < 2 ^ 62 ∧ -(2 ^ 62) ≤ j ∧ j < 2 ^ 62 ∧ c = -1) (ret ((List.range (i - j).toNat).map fun (n : Nat) => D.int (i + (n : Int) * -1)))
  | _ => stuck
theorem itok_rangeC {g : Gx} {St : Sx → Prop} {lo c : Int} {n : Nat} (h : ∀ t, St t → Ok g t) : ItOk g St (Itc lo c n) ((List.range n).map fun (i : Nat) => D.int (lo + (i : Int) * c)) where
  go := fun i t st hi => by
    rw [List.length_map, List.length_range] at hi
    exact hi
  yld := fun i t d st hd x H' y => by
    obtain ⟨e, q⟩ := y
    rw [List.getElem?_map] at hd
    cases hr : (List.range n)[i]? with
    | none => rw [hr] at hd; cases hd
    | some w =>
      rw [hr] at hd
      have hw : w = i := by
        have q := (List.getElem?_eq_some_iff.mp hr).2
        rw [List.getElem_range] at q
        exact q.symm
      subst hw
      cases hd
      subst q
      exact ⟨t, e.symm, rfl, Gr.refl (h t st), Rp.int _⟩
  stop := fun t st => by
    show n ≤ _
    rw [List.length_map, List.length_range]
    exact Nat.le_refl _
theorem ri_range3 {ks : List Kd} {mas : MA} (h : ∀ {ta : TA}, PA j.X [a, b, c] ta → PI j.X tg e (iRng3 ta)) (ha : RA j ks [a, b, c] mas) : RI j fs tg e (mItA dRngN mas) := ⟨_, h ha.pa, fun σ H R ⟨ρ, s, P, E, eh, env, hm, hv, hx⟩ => by
  subst eh
  refine ⟨ρ, s, _, E, rfl, env, hm, fun d c hd v t e ec r => ?_, hx⟩
  subst ec
  match d, hd, r with
  | [.int n, .int n', .int c], hd, r =>
    cases r with
    | cons h1 r => cases r with
      | cons h2 r => cases r with
        | cons h3 r =>
          cases r
          obtain ⟨⟨b1, b2, b3, b4, rfl⟩, q⟩ := hd
          exact ⟨n, n', -1, _, by rw [inv_int h1, inv_int h2, inv_int h3], RgC.neg b1 b2 b3 b4, hv _ _ q t _ e rfl (itok_rangeC fun u st => st.ok)⟩⟩

/-! ### enumerate, zip: the pairs are new tuples -/
def enumD (ds : List D) : List D := ds.zipIdx.map fun p => D.tup [.int (p.2 : Nat), p.1]
theorem enumD_length (ds : List D) : (enumD ds).length = ds.length := by
  unfold enumD
  rw [List.length_map, List.length_zipIdx]
theorem enumD_get {ds : List D} {i : Nat} {d : D} (h : (enumD ds)[i]? = some d) : ∃ e, ds[i]? = some e ∧ d = .tup [.int (i : Nat), e] := by
  unfold enumD at h
  rw [List.getElem?_map, List.getElem?_zipIdx] at h
  cases q : ds[i]? with
  | none => rw [q] at h; cases h
  | some e =>
    rw [q] at h
    simp only [Option.map_some, Nat.zero_add, Option.some.injEq] at h
    exact ⟨e, rfl, h.symm⟩
def dLstOf : List D → M (List D)
  | [.lst ds] => ret (enumD ds)
  | _ => stuck
/-- where a list is known through the loop -/
theorem itok_enum {g : Gx} {ds : List D} {xs : List V} {l : Addr} {St : Sx → Prop} (h : ∀ t, St t → Ok g t ∧ t.H l = some (.lst xs) ∧ Rps g t.p t.F xs ds) : ItOk g St (Ite g.K l) (enumD ds) where
  go := fun i t st hi => by
    rw [enumD_length] at hi
    obtain ⟨_, h1, h2⟩ := h t st
    have hl := h2.length
    exact ⟨xs, xs[i]'(by omega), SqL.of h1, by simp [show i < xs.length by omega]⟩
  yld := fun i t d st hd x H' y => by
    obtain ⟨o, h1, h2⟩ := h t st
    obtain ⟨T, w, e1, e2, e3, y⟩ := y
    obtain ⟨e, hd', rfl⟩ := enumD_get hd
    obtain ⟨w', a1, a2⟩ := h2.get hd'
    have q := y xs (SqL.of h1)
    rw [a1] at q
    cases q
    subst e1 e3
    obtain ⟨g1, r1⟩ := new_tup (s := t) o e2 (.cons (Rp.int (i : Nat)) (.cons a2 .nil))
    exact ⟨t.put T _, rfl, rfl, g1, r1⟩
  stop := fun t st => by
    obtain ⟨_, h1, h2⟩ := h t st
    exact ⟨xs, SqL.of h1, by rw [h2.length, enumD_length]; exact Nat.le_refl _⟩
/-- a list of val kind stands through any loop -/
theorem RV.stb {v : V} {ds : List D} {s t : Sx} (r : RV .val j.g s t v (.lst ds)) (o : Ok j.g t) : ∃ l xs, v = .ref l ∧ t.H l = some (.lst xs) ∧ Rps j.g t.p t.F xs ds ∧ ∀ fs u, Stb j fs t u → Ok j.g u ∧ u.H l = some (.lst xs) ∧ Rps j.g u.p u.F xs ds := by
  cases (show Rp j.g t.p t.F v (.lst ds) from r) with
  | @lst a xs _ q r =>
    refine ⟨a, xs, rfl, (o.fh _ _ q.2 (fun _ z => nomatch z)).2 q.1, r, fun fs u st => ?_⟩
    obtain ⟨f, p⟩ := st.ff
    have q2 := (f _ _ q.2 (fun _ z => nomatch z)).2 q.1
    exact ⟨st.ok, (st.ok.fh _ _ q2 (fun _ z => nomatch z)).2 (by rw [p]; exact q.1), by rw [p]; exact Rps.mono f r⟩
theorem RV.stbR {v : V} {ds : List D} {s t : Sx} (r : RV k j.g s t v (.lst ds)) (o : Ok j.g t) : ∃ l xs, v = .ref l ∧ t.H l = some (.lst xs) ∧ Rps j.g t.p t.F xs ds ∧ ∀ u, Stb j false t u → Ok j.g u ∧ u.H l = some (.lst xs) ∧ Rps j.g u.p u.F xs ds := by
  obtain ⟨l, xs, e, n, h1, r1⟩ := r.list o
  refine ⟨l, xs, e, h1, r1, fun u st => ?_⟩
  have st : Gr j.g t u := st
  exact ⟨st.ok, (st.hh _ _ h1 (fun _ z => nomatch z)).2 n, by rw [st.p]; exact Rps.mono st.ff r1⟩
theorem ri_enum {mas : MA} (h : ∀ {ta : TA}, PA j.X [a] ta → PI j.X tg e (iEnum j.X.K ta)) (ha : RA j [.val] [a] mas) : RI j fs tg e (mItA dLstOf mas) := ⟨_, h ha.pa, fun σ H R ⟨ρ, s, P, E, eh, env, hm, hv, hx⟩ => by
  subst eh
  refine ⟨ρ, s, _, E, rfl, env, hm, fun d c hd v t e ec r => ?_, hx⟩
  subst ec
  match d, hd, r with
  | [.lst ds], hd, .cons r .nil =>
    obtain ⟨l, xs, rfl, h1, _, st⟩ := RV.stb r e.ok
    exact ⟨l, xs, rfl, SqL.of h1, hv _ _ hd t _ e rfl (itok_enum (st fs))⟩⟩
theorem ri_enumR {mas : MA} (h : ∀ {ta : TA}, PA j.X [a] ta → PI j.X tg e (iEnum j.X.K ta)) (ha : RA j [k] [a] mas) : RI j false tg e (mItA dLstOf mas) := ⟨_, h ha.pa, fun σ H R ⟨ρ, s, P, E, eh, env, hm, hv, hx⟩ => by
  subst eh
  refine ⟨ρ, s, _, E, rfl, env, hm, fun d c hd v t e ec r => ?_, hx⟩
  subst ec
  match d, hd, r with
  | [.lst ds], hd, .cons r .nil =>
    obtain ⟨l, xs, rfl, h1, _, st⟩ := RV.stbR r e.ok
    exact ⟨l, xs, rfl, SqL.of h1, hv _ _ hd t _ e rfl (itok_enum st)⟩⟩
def zipD (ds es : List D) : List D := List.zipWith (fun a b => D.tup [a, b]) ds es
theorem zipD_get {ds es : List D} {i : Nat} {d : D} (h : (zipD ds es)[i]? = some d) : ∃ a b, ds[i]? = some a ∧ es[i]? = some b ∧ d = .tup [a, b] := by
  unfold zipD at h
  rw [List.getElem?_zipWith] at h
  cases q1 : ds[i]? with
  | none => rw [q1] at h; cases h
  | some a =>
    cases q2 : es[i]? with
    | none => rw [q1, q2] at h; cases h
    | some b =>
      rw [q1, q2] at h
      exact ⟨a, b, rfl, rfl, (Option.some.inj h).symm⟩
theorem zipD_length (ds es : List D) : (zipD ds es).length = min ds.length es.length := List.length_zipWith
def dZip : List D → M (List D)
  | [.lst ds, .lst es] => ret (zipD ds es)
  | [.tup ds, .tup es] => ret (zipD ds es)
  | _ => stuck
theorem itok_zip {g : Gx} {ds es : List D} {xs ys : List V} {l m : Addr} {St : Sx → Prop} (h : ∀ t, St t → Ok g t ∧ t.H l = some (.lst xs) ∧ Rps g t.p t.F xs ds) (h' : ∀ t, St t → Ok g t ∧ t.H m = some (.lst ys) ∧ Rps g t.p t.F ys es) : ItOk g St (Itz g.K l m) (zipD ds es) where
  go := fun i t st hi => by
    rw [zipD_length] at hi
    obtain ⟨_, h1, h2⟩ := h t st
    obtain ⟨_, h3, h4⟩ := h' t st
    have hl := h2.length
    have hl2 := h4.length
    exact ⟨xs, ys, xs[i]'(by omega), ys[i]'(by omega), SqL.of h1, SqL.of h3, by simp [show i < xs.length by omega], by simp [show i < ys.length by omega]⟩
  yld := fun i t d st hd x H' y => by
    obtain ⟨o, h1, h2⟩ := h t st
    obtain ⟨_, h3, h4⟩ := h' t st
    obtain ⟨T, w, w2, e1, e2, e3, y1, y2⟩ := y
    obtain ⟨a, b, q1, q2, rfl⟩ := zipD_get hd
    obtain ⟨u1, a1, a2⟩ := h2.get q1
    obtain ⟨u2, b1, b2⟩ := h4.get q2
    have z1 := y1 xs (SqL.of h1)
    have z2 := y2 ys (SqL.of h3)
    rw [a1] at z1
    rw [b1] at z2
    cases z1
    cases z2
    subst e1 e3
    obtain ⟨g1, r1⟩ := new_tup (s := t) o e2 (.cons a2 (.cons b2 .nil))
    exact ⟨t.put T _, rfl, rfl, g1, r1⟩
  stop := fun t st => by
    obtain ⟨_, h1, h2⟩ := h t st
    obtain ⟨_, h3, h4⟩ := h' t st
    refine ⟨xs, ys, SqL.of h1, SqL.of h3, ?_⟩
    rw [h2.length, h4.length, zipD_length]
    omega
theorem itok_zipT {g : Gx} {ds es : List D} {xs ys : List V} {l m : Addr} {St : Sx → Prop} (h : ∀ t, St t → Ok g t ∧ SqT g.K t.H l xs ∧ Rps g t.p t.F xs ds) (h' : ∀ t, St t → Ok g t ∧ SqT g.K t.H m ys ∧ Rps g t.p t.F ys es) : ItOk g St (ItzT g.K l m) (zipD ds es) where
  go := fun i t st hi => by
    rw [zipD_length] at hi
    obtain ⟨_, h1, h2⟩ := h t st
    obtain ⟨_, h3, h4⟩ := h' t st
    have hl := h2.length
    have hl2 := h4.length
    exact ⟨xs, ys, xs[i]'(by omega), ys[i]'(by omega), h1, h3, by simp [show i < xs.length by omega], by simp [show i < ys.length by omega]⟩
  yld := fun i t d st hd x H' y => by
    obtain ⟨o, h1, h2⟩ := h t st
    obtain ⟨_, h3, h4⟩ := h' t st
    obtain ⟨T, w, w2, e1, e2, e3, y1, y2⟩ := y
    obtain ⟨a, b, q1, q2, rfl⟩ := zipD_get hd
    obtain ⟨u1, a1, a2⟩ := h2.get q1
    obtain ⟨u2, b1, b2⟩ := h4.get q2
    have z1 := y1 xs h1
    have z2 := y2 ys h3
    rw [a1] at z1
    rw [b1] at z2
    cases z1
    cases z2
    subst e1 e3
    obtain ⟨g1, r1⟩ := new_tup (s := t) o e2 (.cons a2 (.cons b2 .nil))
    exact ⟨t.put T _, rfl, rfl, g1, r1⟩
  stop := fun t st => by
    obtain ⟨_, h1, h2⟩ := h t st
    obtain ⟨_, h3, h4⟩ := h' t st
    refine ⟨xs, ys, h1, h3, ?_⟩
    rw [h2.length, h4.length, zipD_length]
    omega
theorem RV.stbT {v : V} {ds : List D} {s t : Sx} (r : RV k j.g s t v (.tup ds)) (o : Ok j.g t) : ∃ l xs, v = .ref l ∧ SqT j.g.K t.H l xs ∧ Rps j.g t.p t.F xs ds ∧ ∀ fs u, Stb j fs t u → Ok j.g u ∧ SqT j.g.K u.H l xs ∧ Rps j.g u.p u.F xs ds := by
  cases (RV.rp r (fun _ z => nomatch z)) with
  | @tup a xs _ q r =>
    refine ⟨a, xs, rfl, (q.mono o.fh).sq, r, fun fs u st => ?_⟩
    obtain ⟨f, p⟩ := st.ff
    exact ⟨st.ok, ((q.mono f).mono (p ▸ st.ok.fh)).sq, by rw [p]; exact Rps.mono f r⟩
theorem ri_zip {mas : MA} (h : ∀ {ta : TA}, PA j.X [a, b] ta → PI j.X tg e (iZipA j.X.K ta)) (ha : RA j [.val, .val] [a, b] mas) : RI j fs tg e (mItA dZip mas) := ⟨_, h ha.pa, fun σ H R ⟨ρ, s, P, E, eh, env, hm, hv, hx⟩ => by
  subst eh
  refine ⟨ρ, s, _, E, rfl, env, hm, fun d c hd v t e ec r => ?_, hx⟩
  subst ec
  match d, hd, r with
  | [.lst ds, .lst es], hd, .cons r (.cons r' .nil) =>
    obtain ⟨l, xs, rfl, h1, _, st⟩ := RV.stb r e.ok
    obtain ⟨m, ys, rfl, h2, _, st'⟩ := RV.stb r' e.ok
    exact ⟨l, m, xs, ys, rfl, .inl ⟨SqL.of h1, SqL.of h2, hv _ _ hd t _ e rfl (itok_zip (st fs) (st' fs))⟩⟩
  | [.tup ds, .tup es], hd, .cons r (.cons r' .nil) =>
    obtain ⟨l, xs, rfl, h1, _, st⟩ := RV.stbT r e.ok
    obtain ⟨m, ys, rfl, h2, _, st'⟩ := RV.stbT r' e.ok
    exact ⟨l, m, xs, ys, rfl, .inr ⟨h1, h2, hv _ _ hd t _ e rfl (itok_zipT (st fs) (st' fs))⟩⟩⟩
end
end Kq
set_option Elab.async false
set_option linter.all false
set_option maxRecDepth 100000
set_option maxHeartbeats 4000000
namespace Kq
open PySem PySem.Spec PyProof.Rows L2 LamX RZ

/-! ### for -/
def forD (f : D → Rho → Option Rho) (b : MS) : List D → MS
  | [], ρ, c, po => po.nx ρ c
  | d :: r, ρ, c, po => ∃ ρ1, f d ρ = some ρ1 ∧ b ρ1 c { po with nx := fun ρ c => forD f b r ρ c po, ct := fun ρ c => forD f b r ρ c po, bk := po.nx }
def mFor (mi : MA) (f : D → Rho → Option Rho) (b : MS) : MS := fun ρ c po => mi ρ c (fun ds c => forD f b ds ρ c po) po.ex
theorem forD_drop {f : D → Rho → Option Rho} {b : MS} {ds : List D} {i : Nat} {d : D} (h : ds[i]? = some d) : forD f b (ds.drop i) = fun ρ c po => ∃ ρ1, f d ρ = some ρ1 ∧
    b ρ1 c { po with nx := fun ρ c => forD f b (ds.drop (i + 1)) ρ c po, ct := fun ρ c => forD f b (ds.drop (i + 1)) ρ c po, bk := po.nx } := by
  have e : ds.drop i = d :: ds.drop (i + 1) := by
    obtain ⟨hi, hd⟩ := List.getElem?_eq_some_iff.mp h
    rw [List.drop_eq_getElem_cons hi, hd]
  rw [e]
  rfl
section
variable {j : J} {om : Bool} {k : Kd} {tg iter e : Expr} {m ma : ME} {mi : MA} {ms : MS} {g : TG} {sl : List Nat} {f : D → Rho → Option Rho}
theorem rs_for {body : List Stmt} {pos : Pos} (hp : PassesOwn (model j.X.prog j.X.w) j.X.A j.X.env j.X.xe) (hc : j.X.calm = true) (hi : RI j true tg iter mi) (hg : PG j.X tg g) (go : GOk j.g g sl f) (hb : RSs j om body ms)
    (hs : ∀ x, foldedSetIterable iter j.X.env x = pure x := by intro _; rfl) : RS j om (.For tg iter body [] pos) (mFor mi f ms) := by
  obtain ⟨wi, h1, h2⟩ := hi.ex
  refine ⟨(ps_for hp hc h1 hg hb.ps hs).imp fun Dn σ H ⟨ρ, s, po, eh, env, hm, en⟩ => ?_⟩
  subst eh
  refine h2 σ s.H _ ⟨ρ, s, _, _, rfl, env, hm, fun ds c hd t J' e ec it => ?_, en.fin env.h0⟩
  subst ec
  have sg0 := Sg.of e env.h0
  refine ⟨fun i m σ H => m = ds.length - i ∧ i ≤ ds.length ∧ ∃ ρ u, u.H = H ∧ Sg j t u ∧ EnvR j.g j.H0 u σ ρ ∧ forD f ms (ds.drop i) ρ u.c po, ⟨_, rfl, Nat.zero_le _, ρ, t, rfl, Sg.refl, env.to e, hd⟩, ?_⟩
  rintro i n σ1 H1 ⟨rfl, hi, ρ1, u, rfl, sg, env1, h⟩
  have st : Stb j true t u := ⟨sg, env1.ok, env1.h0⟩
  by_cases hlt : i < ds.length
  · refine .inr ⟨it.go i u st hlt, fun σ H => ∃ m', m' < ds.length - i ∧ m' = ds.length - (i + 1) ∧ i + 1 ≤ ds.length ∧ ∃ ρ u, u.H = H ∧ Sg j t u ∧ EnvR j.g j.H0 u σ ρ ∧ forD f ms (ds.drop (i + 1)) ρ u.c po, fun _ _ h => h, fun x H' y => ?_⟩
    have hd1 : ds[i]? = some ds[i] := by simp [hlt]
    rw [forD_drop hd1] at h
    obtain ⟨ρ2, h3, h4⟩ := h
    obtain ⟨u', e1, e2, e3, e4⟩ := it.yld i u ds[i] st hd1 x H' y
    subst e1
    have sg' := sg.trans (Sg.of e3 env1.h0)
    refine go j.H0 σ1 u' ρ1 ρ2 x ds[i] (env1.to e3) e4 h3 _ fun σ2 env2 _ => ?_
    refine ⟨ρ2, u', _, rfl, env2, by rw [e2]; exact h4, ?_⟩
    have en2 := en.sg (sg0.trans sg')
    have again : ∀ ρ c, forD f ms (ds.drop (i + 1)) ρ c po → ∀ σ w, Sg j u' w → w.c = c → EnvR j.g j.H0 w σ ρ → ∃ m', m' < ds.length - i ∧ m' = ds.length - (i + 1) ∧ i + 1 ≤ ds.length ∧ ∃ ρ u, u.H = w.H ∧ Sg j t u ∧ EnvR j.g j.H0 u σ ρ ∧ forD f ms (ds.drop (i + 1)) ρ u.c po :=
      fun ρ c q σ w sgw ec env => ⟨_, by omega, rfl, hlt, ρ, w, rfl, sg'.trans sgw, env, by rw [ec]; exact q⟩
    exact ⟨again, en2.rt, en2.nx, again, en2.ex⟩
  · have e : i = ds.length := by omega
    subst e
    rw [List.drop_length] at h
    exact .inl ⟨it.stop u st, en.nx _ _ h _ u (sg0.trans sg) rfl env1⟩

/-! ### list comprehensions -/
def lcD (f : D → Rho → Option Rho) (tt : MB) (el : ME) (ρw : Rho) : List D → List D → Nat → (List D → Nat → Prop) → Prop
  | [], acc, c, Q => Q acc c
  | d :: r, acc, c, Q => ∃ ρ2, f d ρw = some ρ2 ∧ tt ρ2 c (fun b c => if b = true then el ρ2 c (fun y c => acc.length < sizeLine ∧ lcD f tt el ρw r (acc ++ [y]) c Q) (fun _ _ => False) else lcD f tt el ρw r acc c Q) (fun _ _ => False)
def mLc (mi : MA) (f : D → Rho → Option Rho) (tt : MB) (el : ME) (vs : List Nat) : ME := fun ρ c Q E => mi ρ c (fun ds c => lcD f tt el (mwipe ρ vs) ds [] c (fun ys c => Q (.lst ys) c)) E
theorem lcD_drop {tt : MB} {el : ME} {ρw : Rho} {ds acc : List D} {i : Nat} {d : D} {c : Nat} {Q : List D → Nat → Prop} (h : ds[i]? = some d) : lcD f tt el ρw (ds.drop i) acc c Q = ∃ ρ2, f d ρw = some ρ2 ∧
    tt ρ2 c (fun b c => if b = true then el ρ2 c (fun y c => acc.length < sizeLine ∧ lcD f tt el ρw (ds.drop (i + 1)) (acc ++ [y]) c Q) (fun _ _ => False) else lcD f tt el ρw (ds.drop (i + 1)) acc c Q) (fun _ _ => False) := by
  have e : ds.drop i = d :: ds.drop (i + 1) := by
    obtain ⟨hi, hd⟩ := List.getElem?_eq_some_iff.mp h
    rw [List.drop_eq_getElem_cons hi, hd]
  rw [e]
  rfl
def J.blk (j : J) (s : Shared) (H : Hp) (scope : Scope) (C : Addr) (cl : List (Str × Addr)) (fp : List Addr) : J := ⟨j.X.blk s H scope (compEnvC scope cl C j.X.env) fp, j.T, j.H0, fun _ _ _ _ => False⟩
def J.off (j : J) : J := ⟨j.X, j.T, j.H0, fun _ _ _ _ => False⟩
structure RTs (j : J) (ifs : List Expr) (m : MB) : Prop where
  pt : PTs j.X ifs (tOf j (fun _ _ b b' => b = b') m)
def mYes : MB := fun _ c Q _ => Q true c
theorem _root_.L2.PTs.imp {X : Cx} {e : List Expr} {t t' : TT} (h : PTs X e t) (i : ∀ σ H Q, t' σ H Q → t σ H Q) : PTs X e t' := ⟨fun pins s σ H Q I q => h.run pins s σ H Q I (i σ H Q q)⟩
theorem rts_nil : RTs j [] mYes := ⟨pts_nil.imp fun σ H Q ⟨ρ, s, P, E, eh, env, hm, hv, hx⟩ => by
  subst eh
  exact hv true s.c hm true s (Gr.refl env.ok) rfl rfl⟩
theorem rts_one {c : Expr} {m : MB} (h : RT j c m) : RTs j [c] m := ⟨pts_one h.pt⟩
/-- the reading of a comprehension -/
theorem lc_read {wi : TI} {tt : MB} {el : ME} {vs : List Nat} (h2 : ∀ (σ : L2.St) (H : Hp) (R : It → Hp → Prop),
      (∃ ρ s P E, s.H = H ∧ EnvR j.g j.H0 s σ ρ ∧ mi ρ s.c P E ∧ (∀ ds c, P ds c → ∀ t J', Gr j.g s t → t.c = c → ItOk j.g (Stb j false t) J' ds → R J' t.H) ∧ Fin j s σ E) → wi σ H R)
    (go : GOk j.g g sl f) (hsl : ∀ i ∈ sl, i ∈ vs) {σ : L2.St} {H : Hp} {Q : VK} (h : tOf j (RV .own j.g) (mLc mi f tt el vs) σ H Q) :
    tLc wi g (tOf j.off (fun _ _ b b' => b = b') tt) (tOf j.off (RV .val j.g) el) vs σ H Q := by
  obtain ⟨ρ, s, P, E, eh, env, hm, hv, hx⟩ := h
  subst eh
  refine h2 σ s.H _ ⟨ρ, s, _, E, rfl, env, hm, fun ds c hd t J' e ec it => ?_, hx⟩
  subst ec
  intro Dl hD
  have hfD := e.ok.fnone hD
  have hnp := e.ok.ne hD
  refine ⟨fun i m H => m = ds.length - i ∧ i ≤ ds.length ∧ ∃ u acc dacc, u.H = H ∧ Gr j.g t u ∧ u.H Dl = some (.lst acc) ∧ u.F Dl = none ∧ Rps j.g u.p u.F acc dacc ∧ lcD f tt el (mwipe ρ vs) (ds.drop i) dacc u.c (fun ys c => P (.lst ys) c),
    ⟨_, rfl, Nat.zero_le _, t.lay Dl (.lst []), [], [], rfl, Gr.lay e.ok hD, upd_same, hfD, .nil, hd⟩, ?_⟩
  rintro i n H1 ⟨rfl, hi, u, acc, dacc, rfl, eu, h3, h4, h5, h6⟩
  by_cases hlt : i < ds.length
  · refine .inr ⟨it.go i u eu hlt, fun H => ∃ m', m' < ds.length - i ∧ m' = ds.length - (i + 1) ∧ i + 1 ≤ ds.length ∧ ∃ u acc dacc, u.H = H ∧ Gr j.g t u ∧ u.H Dl = some (.lst acc) ∧ u.F Dl = none ∧ Rps j.g u.p u.F acc dacc ∧ lcD f tt el (mwipe ρ vs) (ds.drop (i + 1)) dacc u.c (fun ys c => P (.lst ys) c), fun _ h => h, fun x H' y => ?_⟩
    have hd1 : ds[i]? = some ds[i] := by simp [hlt]
    rw [lcD_drop hd1] at h6
    obtain ⟨ρ2, h7, h8⟩ := h6
    obtain ⟨u', e1, e2, e3, e4⟩ := it.yld i u ds[i] eu hd1 x H' y
    subst e1
    have eu' := eu.trans e3
    have envw := (env.to (e.trans eu')).wipe vs
    refine go j.H0 _ u' _ ρ2 x ds[i] envw e4 h7 _ fun σ2 env2 w2 => ⟨?_, ?_⟩
    · rw [w2 vs hsl]
      exact wipe_wipe fun _ h => h
    refine ⟨ρ2, u', _, _, rfl, env2, by rw [e2]; exact h8, fun b c hb bb v ev ec eb => ?_, fun _ _ z => False.elim z⟩
    subst ec eb
    have h3' : v.H Dl = some (.lst acc) := by
      have q := (e3.hh _ _ h3 (fun _ z => nomatch z)).2 (by rw [eu.p]; exact hnp)
      exact (ev.hh _ _ q (fun _ z => nomatch z)).2 (by rw [e3.p, eu.p]; exact hnp)
    have h4u : u'.F Dl = none := e3.ap _ _ h3 (fun _ z => nomatch z) h4
    have h4' : v.F Dl = none := by
      have q := (e3.hh _ _ h3 (fun _ z => nomatch z)).2 (by rw [eu.p]; exact hnp)
      exact ev.ap _ _ q (fun _ z => nomatch z) h4u
    have h5' : Rps j.g v.p v.F acc dacc := by
      have h5a : Rps j.g u'.p u'.F acc dacc := by
        rw [e3.p]
        exact Rps.mono e3.ff h5
      have ep : v.p = u'.p := ev.p
      rw [ep]
      exact Rps.mono ev.ff h5a
    cases bb with
    | true =>
      rw [if_pos rfl] at hb ⊢
      refine ⟨ρ2, v, _, _, rfl, env2.to ev, hb, fun d c hd yv z ez ec r => ?_, fun _ _ z => False.elim z⟩
      subst ec
      have b3 : z.H Dl = some (.lst acc) := (ez.hh _ _ h3' (fun _ z => nomatch z)).2 (by rw [ev.p, e3.p, eu.p]; exact hnp)
      have b4 : z.F Dl = none := ez.ap _ _ h3' (fun _ z => nomatch z) h4'
      have b5 : Rps j.g z.p z.F acc dacc := by
        rw [ez.p]
        exact Rps.mono ez.ff h5'
      refine ⟨acc, b3, by rw [b5.length]; exact hd.1, ?_⟩
      have np : Dl ≠ z.p := by rw [ez.p, ev.p, e3.p, eu.p]; exact hnp
      have ez' := (eu'.trans ev).trans ez
      exact ⟨_, by omega, rfl, hlt, z.lay Dl _, _, _, rfl, ⟨ez'.p, ez'.ff, ez'.hh.mut (.of hD), ez'.ap, ez'.ok.chg np b4 b3 (fun _ z => nomatch z) (fun c q z => by unfold CodeO at z; cases z)⟩, upd_same, b4, b5.snoc r, hd.2⟩
    | false =>
      rw [if_neg Bool.false_ne_true] at hb ⊢
      exact ⟨_, by omega, rfl, hlt, v, acc, dacc, rfl, eu'.trans ev, h3', h4', h5', hb⟩
  · have e' : i = ds.length := by omega
    subst e'
    rw [List.drop_length] at h6
    refine .inl ⟨it.stop u eu, hv _ _ h6 _ u (e.trans eu) rfl ⟨Dl, acc, dacc, rfl, rfl, by rw [eu.p]; exact hnp, e.hh.free hD, h4, h3, h5⟩⟩
theorem re_lc {elt : Expr} {ifs : List Expr} {scope : Scope} {own : List (Str × Nat)} {pos : Pos} {tt : MB} {el : ME} (hc : j.X.calm = true) (hN : j.X.N.Nodup) (hi : RI j false tg iter mi) (ok : BlkOk j.X.N j.X.env.scope scope own)
    (hg : ∀ (s : Shared) (H : Hp) (C : Addr) (cl : List (Str × Addr)) (fp : List Addr), PG (j.blk s H scope C cl fp).X tg g) (go : GOk j.g g sl f)
    (ht : ∀ (s : Shared) (H : Hp) (C : Addr) (cl : List (Str × Addr)) (fp : List Addr), RTs (j.blk s H scope C cl fp) ifs tt)
    (he : ∀ (s : Shared) (H : Hp) (C : Addr) (cl : List (Str × Addr)) (fp : List Addr), RE (j.blk s H scope C cl fp) .val elt el) (hsl : ∀ i ∈ sl, i ∈ own.map (·.2) := by decide) (hs : ∀ x, foldedSetIterable iter j.X.env x = pure x := by intro _; rfl) :
    RE j .own (.ListComp elt [⟨tg, iter, ifs, 0⟩] scope pos) (mLc mi f tt el (own.map (·.2))) := by
  obtain ⟨wi, h1, h2⟩ := hi.ex
  exact ⟨(pe_lc (tt := tOf j.off (fun _ _ b b' => b = b') tt) (te := tOf j.off (RV .val j.g) el) hc hN h1 ok hg (fun s H C cl fp => (ht s H C cl fp).pt) (fun s H C cl fp => (he s H C cl fp).pe) hs).imp fun σ H Q h => lc_read h2 go hsl h⟩
/-- y = [..]: the store is made within the comprehension -/
theorem rs_setLc {i : Nat} {y : Str} {py : Pos} {elt : Expr} {ifs : List Expr} {scope : Scope} {own : List (Str × Nat)} {pos spos : Pos} {tt : MB} {el : ME} (hc : j.X.calm = true) (hN : j.X.N.Nodup) (hy : j.X.N[i]? = some y) (hyl : j.X.env.scope.names.lookup y = some .local)
    (hsw : swapsWith (.ListComp elt [⟨tg, iter, ifs, 0⟩] scope pos) (some (.Name y py)) spos.line j.X.env = pure true) (hi : RI j false tg iter mi) (ok : BlkOk j.X.N j.X.env.scope scope own)
    (hg : ∀ (s : Shared) (H : Hp) (C : Addr) (cl : List (Str × Addr)) (fp : List Addr), PG (j.blk s H scope C cl fp).X tg g) (go : GOk j.g g sl f)
    (ht : ∀ (s : Shared) (H : Hp) (C : Addr) (cl : List (Str × Addr)) (fp : List Addr), RTs (j.blk s H scope C cl fp) ifs tt)
    (he : ∀ (s : Shared) (H : Hp) (C : Addr) (cl : List (Str × Addr)) (fp : List Addr), RE (j.blk s H scope C cl fp) .val elt el) (hsl : ∀ i ∈ sl, i ∈ own.map (·.2) := by decide) (hs : ∀ x, foldedSetIterable iter j.X.env x = pure x := by intro _; rfl) :
    RS j om (.Assign [.Name y py] (.ListComp elt [⟨tg, iter, ifs, 0⟩] scope pos) spos) (mSetO i (mLc mi f tt el (own.map (·.2)))) := by
  obtain ⟨wi, h1, h2⟩ := hi.ex
  refine ⟨(ps_setLc (tt := tOf j.off (fun _ _ b b' => b = b') tt) (te := tOf j.off (RV .val j.g) el) hc hN hy hyl hsw h1 ok hg (fun s H C cl fp => (ht s H C cl fp).pt) (fun s H C cl fp => (he s H C cl fp).pe) hs).imp fun Dn σ H ⟨ρ, s, po, eh, env, hm, en⟩ => ?_⟩
  subst eh
  refine lc_read h2 go hsl ⟨ρ, s, _, _, rfl, env, hm, fun d c hd v t e ec r => ?_, en.fin env.h0⟩
  obtain ⟨l, xs, ds, h1, h2, h3, h4, h5, h6, h7⟩ := r
  subst h1 h2
  exact en.nx _ _ hd _ t (Sg.of e env.h0) ec ((env.to e).setOwn h3 (env.h0.freeN h4) h5 h6 h7 fun n _ hn => env.own_ne h4 n hn)
end

/-! ### defs: what they promise, how they are called -/
abbrev FM := List D → M D
def rk (om : Bool) : Kd := if om = true then .own else .val
/-- the promise of a def: its arguments by kinds ks, its answer new (om) or frozen, what it does: mf -/
def spOf (g : Gx) (ks : List Kd) (om : Bool) (mf : FM) : Sp := fun vs H Q E => vs.length = ks.length ∧ ∃ s0 s ds P Ex, s.H = H ∧ Ok g s ∧ RVs g s0 s ks vs ds ∧ mf ds s.c P Ex ∧
  (∀ d c, P d c → ∀ v t, Gr g s t → t.c = c → RV (rk om) g s t v d → Q v t.H) ∧ (∀ x c, Ex x c → ∀ cls dd t, Gr g s t → t.c = c → XcR g t cls dd x → E cls dd t.H)
theorem spOf_len {g : Gx} {ks : List Kd} {om : Bool} {mf : FM} {ps : List Str} (h : ks.length = ps.length) : ∀ vs H Q E, spOf g ks om mf vs H Q E → vs.length = ps.length := fun _ _ _ _ q => q.1.trans h
/-- the slots at the entry -/
def slOf : Kd → D → Sl
  | .rd, .lst ds => .bor ds
  | _, d => .val d
def rho0 (n : Nat) (ks : List Kd) (ds : List D) : Rho := List.zipWith slOf ks ds ++ List.replicate (n - ks.length) .no
/-- what a def's body makes of its arguments -/
def fnM (n : Nat) (ks : List Kd) (ms : MS) : FM := fun ds c P E => ms (rho0 n ks ds) c ⟨fun _ c => P .non c, P, fun _ _ => False, fun _ _ => False, E⟩
theorem slots0 {g : Gx} {s0 s : Sx} : ∀ {ks : List Kd} {vs : List V} {ds : List D}, RVs g s0 s ks vs ds → (∀ k ∈ ks, k ≠ .own) → Ok g s → ∀ i : Nat, SlotR g ⟨s, none, none⟩ s (vs.map some)[i]? (List.zipWith slOf ks ds)[i]?
  | _, _, _, .nil, _, _, i => by simp [SlotR]
  | _, _, _, .cons (k := k) (v := v) (d := d) h r, hk, o, 0 => by
    have nk := hk k List.mem_cons_self
    show SlotR g ⟨s, none, none⟩ s (some (some v)) (some (slOf k d))
    cases k with
    | val => cases d <;> exact ⟨v, rfl, h⟩
    | own => exact absurd rfl nk
    | rd =>
      cases d with
      | lst ds =>
        obtain ⟨l, xs, rfl, n, h1, r1⟩ := RV.list h o
        exact ⟨l, xs, rfl, n, h1, r1⟩
      | _ => exact ⟨v, rfl, RV.rp h (fun _ z => nomatch z)⟩
  | _, _, _, .cons h r, hk, o, i + 1 => by
    have q := slots0 r (fun k hk' => hk k (List.mem_cons_of_mem _ hk')) o i
    simpa using q
theorem env0 {g : Gx} {s0 s : Sx} {ks : List Kd} {vs : List V} {ds : List D} {N : List Str} (h : RVs g s0 s ks vs ds) (hk : ∀ k ∈ ks, k ≠ .own) (o : Ok g s) (hn : ks.length ≤ N.length) : EnvR g ⟨s, none, none⟩ s (L2.start N vs) (rho0 N.length ks ds) := by
  have hl := h.length
  have hz : (List.zipWith slOf ks ds).length = ks.length := by rw [List.length_zipWith]; omega
  have hz2 : (vs.map some).length = ks.length := by rw [List.length_map]; exact hl.1
  have noown : ∀ i : Nat, slOwn (rho0 N.length ks ds)[i]? = false := fun i => by
    unfold rho0
    by_cases hi : i < ks.length
    · rw [List.getElem?_append_left (by omega), List.getElem?_zipWith]
      cases q1 : ks[i]? with
      | none => rfl
      | some k =>
        cases q2 : ds[i]? with
        | none => rfl
        | some d => cases k <;> cases d <;> rfl
    · rw [List.getElem?_append_right (by omega), List.getElem?_replicate]
      split <;> rfl
  refine ⟨Gr.refl o, ?_, fun i => ?_, fun i _ _ h1 => by rw [noown i] at h1; cases h1⟩
  · unfold L2.start rho0
    rw [List.length_append, List.length_append, List.length_replicate, List.length_replicate, hz2, hz, hl.1]
  · unfold L2.start rho0
    by_cases hi : i < ks.length
    · rw [List.getElem?_append_left (by omega), List.getElem?_append_left (by omega)]
      exact slots0 h hk o i
    · rw [List.getElem?_append_right (l₁ := List.zipWith slOf ks ds) (by omega), List.getElem?_replicate]
      split <;> exact True.intro
/-- where the body of a def stands -/
abbrev jOf (P : Program) (w : World) (K : PySem.W.Frag) (mg : Str → Option Value) (T : List (Addr × Str)) (base : Heap) (N : List Str) (qual : Str) (sc : Scope) (f : Addr) (cdv : Value) (A : Around) (outer : List PySem.Env) (s : Shared) (z : Hz) (E : XK) : J :=
  ⟨cxOf (L2.CX P w) P w K mg base N qual sc f cdv A outer s z.s.H E, T, z, fun cls d _ H' => E cls d H'⟩
section
variable {P : Program} {w : World} {K : PySem.W.Frag} {mg : Str → Option Value} {base : Heap} {T : List (Addr × Str)}
theorem fn_ok {x qual : Str} {st : Stmt} {f : Addr} {fd : FuncData} {N ps : List Str} {k : Nat} {ks : List Kd} {om : Bool} {ms : MS} (F : Fun K x qual st f fd) (S : FnScope N ps (defScope st)) (hps : ks.length = ps.length) (hk : ∀ k ∈ ks, k ≠ .own)
    (hb : ∀ (cdv : Value) (A : Around) (outer : List PySem.Env) (s : Shared) (z : Hz) (E : XK), Room k (A.deeper (envOfC qual (defScope st) s.heap.objs.size f cdv)) → RSs (jOf P w K mg T base N qual (defScope st) f cdv A outer s z E) om (defBody st) ms)
    (hom : om = true → ∀ ρ c po, ms ρ c po → ms ρ c { po with nx := fun _ _ => False }) : FnOk P w K mg base (L2.CX P w) (k + 1) f fd ps (spOf ⟨P, w, K, mg, T⟩ ks om (fnM N.length ks ms)) := by
  have hpl : ps.length ≤ N.length := by have := congrArg List.length S.pre; rw [List.length_take] at this; omega
  refine F.okX S (spOf_len hps) fun cdv A outer s H vs Q E hr ⟨hl, s0, sx, ds, Pd, Ex, eh, o, r, hm, hv, hx⟩ => ?_
  subst eh
  refine ⟨_, (hb cdv A outer s ⟨sx, none, none⟩ E hr).ps, ?_⟩
  have fin : ∀ d c, Pd d c → ∀ v t, Sg (jOf P w K mg T base N qual (defScope st) f cdv A outer s ⟨sx, none, none⟩ E) sx t → t.c = c → Ok ⟨P, w, K, mg, T⟩ t → Xt t.p sx.H t.H → RetR (jOf P w K mg T base N qual (defScope st) f cdv A outer s ⟨sx, none, none⟩ E) om t v d → Q v t.H := fun d c hd v t sg ec ok h0 rr => by
    refine hv d c hd v t ⟨sg.p, sg.ff, sg.p ▸ h0, sg.ap, ok⟩ ec ?_
    unfold RetR at rr
    unfold rk
    cases om with
    | true =>
      rw [if_pos rfl] at rr ⊢
      exact rr
    | false =>
      rw [if_neg Bool.false_ne_true] at rr ⊢
      exact rr
  have exx : ∀ x c, Ex x c → ∀ cls dd (σ : L2.St) t, Sg (jOf P w K mg T base N qual (defScope st) f cdv A outer s ⟨sx, none, none⟩ E) sx t → t.c = c → Ok ⟨P, w, K, mg, T⟩ t → Xt t.p sx.H t.H → XcR ⟨P, w, K, mg, T⟩ t cls dd x → E cls dd t.H := fun x c q cls dd σ t sg ec ok h0 rr => hx x c q cls dd t ⟨sg.p, sg.ff, sg.p ▸ h0, sg.ap, ok⟩ ec rr
  cases om with
  | true => exact ⟨_, sx, _, rfl, env0 r hk o (by omega), hom rfl _ _ _ hm, ⟨fun _ _ z => z.elim, fin, fun _ _ z => z.elim, fun _ _ z => z.elim, exx⟩⟩
  | false => exact ⟨_, sx, _, rfl, env0 r hk o (by omega), hm, ⟨fun ρ c q σ t sg ec env => fin .non c q .non t sg ec env.ok env.h0 (RV.ret (s := t) Rp.non), fin, fun _ _ z => z.elim, fun _ _ z => z.elim, exx⟩⟩
end
section
variable {j : J} {k : Nat} {ks : List Kd} {om : Bool} {mf : FM} {f : Addr} {fd : FuncData} {ps : List Str} {e : Expr} {es : List Expr} {mas : MA} {x : Str} {p pos : Pos}
/-- f(e, ..) -/
theorem re_fn (G : FnOk j.X.prog j.X.w j.X.K j.X.mg j.X.base (L2.CX j.X.prog j.X.w) k f fd ps (spOf j.g ks om mf)) (hr : Room k j.X.A) (hg : Gl j.X x) (hm : j.X.mg x = some (.ref f)) (hk : PySem.W.keepIn j.X.K (.ref f) = true) (hb : Binds j.X.K fd ps []) (tk : Takes j.X j.W)
    (ha : RA j ks (e :: es) mas) (hdb : (x == ("__debug__" : Str)) = false := by decide) (he : starEach (e :: es) j.X.env = (false, eval e j.X.env) :: starEach es j.X.env := by rfl) (hpl : (backTo pos (starEach es j.X.env)).any (·.1) = false := by rfl) :
    RE j (rk om) (.Call (.Name x p) (e :: es) [] pos) (mCall mf mas) :=
  ⟨(pe_callS G hr hg hm hk hb (fun σ => passAt tk σ) ha.pa hdb he hpl).imp fun σ H Q ⟨ρ, s, P, E, eh, env, hm, hv, hx⟩ => by
    subst eh
    refine ⟨ρ, s, _, E, rfl, env, hm, fun ds c hd vs t e ec r => ?_, hx⟩
    subst ec
    exact ⟨r.length.1, s, t, ds, P, E, rfl, e.ok, r, hd, fun d c hd v u eu ec rr => hv d c hd v u (e.trans eu) ec (rr.back e), fun x c q cls dd u eu ec rr => hx x c q cls dd u (e.trans eu) ec rr⟩⟩
end
end Kq
set_option Elab.async false
set_option linter.all false
set_option maxRecDepth 100000
set_option maxHeartbeats 4000000
namespace Kq
open PySem PySem.Spec PyProof.Rows L2 LamX

/-! ### the names of the built-ins are the built-ins -/
structure Nm (mg : Str → Option Value) : Prop where
  len : mg "len" = none
  int : mg "int" = none
  lst : mg "list" = none
  tup : mg "tuple" = none
  rng : mg "range" = none
  srt : mg "sorted" = none
  sum : mg "sum" = none
  max : mg "max" = none
  min : mg "min" = none
  abs : mg "abs" = none
  all : mg "all" = none
  any : mg "any" = none
  str : mg "str" = none
  bool : mg "bool" = none
  enum : mg "enumerate" = none
  zip : mg "zip" = none
  set : mg "set" = none
  isi : mg "isinstance" = none
  repr : mg "repr" = none
  dict : mg "dict" = none

/-! ### the pen: how it is made -/
def penKeys (l : Addr) (a d n f : Int) : List (Key × V) := penK l a d n f
theorem put_count {l : Addr} {a d n f m : Int} : putK (penK l a d n f) (.inr ("count" : Str)) (V.int m) = penK l a d m f := by
  simp [putK, penK, show ¬ (("cells" : Str) = "count") by decide +kernel, show ¬ (("at" : Str) = "count") by decide +kernel, show ¬ (("digits" : Str) = "count") by decide +kernel, show ¬ (("fold" : Str) = "count") by decide +kernel]
theorem put_at {l : Addr} {a d n f m : Int} : putK (penK l a d n f) (.inr ("at" : Str)) (V.int m) = penK l m d n f := by
  simp [putK, penK, show ¬ (("cells" : Str) = "at") by decide +kernel, show ¬ (("count" : Str) = "at") by decide +kernel, show ¬ (("digits" : Str) = "at") by decide +kernel, show ¬ (("fold" : Str) = "at") by decide +kernel]
theorem put_digits {l : Addr} {a d n f m : Int} : putK (penK l a d n f) (.inr ("digits" : Str)) (V.int m) = penK l a m n f := by
  simp [putK, penK, show ¬ (("cells" : Str) = "digits") by decide +kernel, show ¬ (("count" : Str) = "digits") by decide +kernel, show ¬ (("at" : Str) = "digits") by decide +kernel, show ¬ (("fold" : Str) = "digits") by decide +kernel]
theorem put_fold {l : Addr} {a d n f m : Int} : putK (penK l a d n f) (.inr ("fold" : Str)) (V.int m) = penK l a d n m := by
  simp [putK, penK, show ¬ (("cells" : Str) = "fold") by decide +kernel, show ¬ (("count" : Str) = "fold") by decide +kernel, show ¬ (("at" : Str) = "fold") by decide +kernel, show ¬ (("digits" : Str) = "fold") by decide +kernel]
section
variable {l : Addr} {a d n f : Int}
theorem val_cells : valV (penK l a d n f) (.inr ("cells" : Str)) = some (.ref l) := by
  simp [valV, penK]
theorem val_at : valV (penK l a d n f) (.inr ("at" : Str)) = some (.int a) := by
  simp [valV, penK, show ¬ (("cells" : Str) = "at") by decide +kernel]
theorem val_digits : valV (penK l a d n f) (.inr ("digits" : Str)) = some (.int d) := by
  simp [valV, penK, show ¬ (("cells" : Str) = "digits") by decide +kernel, show ¬ (("at" : Str) = "digits") by decide +kernel]
theorem val_count : valV (penK l a d n f) (.inr ("count" : Str)) = some (.int n) := by
  simp [valV, penK, show ¬ (("cells" : Str) = "count") by decide +kernel, show ¬ (("at" : Str) = "count") by decide +kernel, show ¬ (("digits" : Str) = "count") by decide +kernel]
theorem val_fold : valV (penK l a d n f) (.inr ("fold" : Str)) = some (.int f) := by
  simp [valV, penK, show ¬ (("cells" : Str) = "fold") by decide +kernel, show ¬ (("at" : Str) = "fold") by decide +kernel, show ¬ (("digits" : Str) = "fold") by decide +kernel, show ¬ (("count" : Str) = "fold") by decide +kernel]
end
section
variable {H : Hp} {p l : Addr} {a d n f : Int}
theorem get_of {k : Key} {v : V} (h : H p = some (.dK (penK l a d n f))) (e : valV (penK l a d n f) k = some v) : DGet H p (kV k) (some v) := by
  rw [← e]
  exact DGet.k h
theorem put_of {k : Key} {v : V} {l2 : Addr} {a2 d2 n2 f2 : Int} (h : H p = some (.dK (penK l a d n f))) (e : putK (penK l a d n f) k v = penK l2 a2 d2 n2 f2) : DPut H p (kV k) v (upd H p (.dK (penK l2 a2 d2 n2 f2))) := by
  rw [← e]
  exact DPut.k h (by show 5 < sizeLine; decide)
end
theorem merge_pen {l : Addr} {f : Int} : mergeK [] (penK l 0 0 0 f) = penK l 0 0 0 f := by
  simp [mergeK, putK, penK, show ¬ (("cells" : Str) = "at") by decide +kernel, show ¬ (("cells" : Str) = "digits") by decide +kernel, show ¬ (("cells" : Str) = "count") by decide +kernel, show ¬ (("cells" : Str) = "fold") by decide +kernel,
    show ¬ (("at" : Str) = "digits") by decide +kernel, show ¬ (("at" : Str) = "count") by decide +kernel, show ¬ (("at" : Str) = "fold") by decide +kernel, show ¬ (("digits" : Str) = "count") by decide +kernel, show ¬ (("digits" : Str) = "fold") by decide +kernel, show ¬ (("count" : Str) = "fold") by decide +kernel]
theorem same_new {H : Hp} {p : Addr} {o : HO} (h : H p = none) : Same H (upd H p o) := fun b u e => by
  rw [upd_ne (ne_of_none e h)]
  exact e
/-- the pen: what it promises -/
def spPen (K : PySem.W.Frag) : Sp := fun vs H Q _ => ∃ (a : Addr) (ns : List Int), vs = [.ref a] ∧ SqL K H a (ns.map V.int) ∧ ns.length ≤ sizeLine ∧ ∀ (H' : Hp) (p l : Addr) (f : Int), (∀ b o, H b = some o → H' b = some o) → H p = none → H l = none → l ≠ p → 0 ≤ f → f < 2147483647 →
  H' p = some (.dK (penK l 0 0 0 f)) → H' l = some (.lst (ns.map V.int)) → Q (.ref p) H'
/-- a draw, by data -/
def drawM : FM := fun ds c P _ => match ds with
  | [.pen, .int m] => (0 < m ∧ m.natAbs.log2 < 9000 ∧ c < 2 ^ 40) ∧ ∀ k : Int, 0 ≤ k → k < m → P (.int k) (c + 1)
  | _ => False
end Kq
set_option Elab.async false
set_option linter.all false
set_option maxRecDepth 100000
set_option maxHeartbeats 4000000
namespace Kq
open PySem PySem.Spec PyProof.Rows L2 LamX

/-! ### a larger heap -/
theorem Gr.ext {g : Gx} {t : Sx} {H' F' : Hp} (o : Ok g t) (hk : ∀ b u, t.H b = some u → H' b = some u) (fk : ∀ b u, t.F b = some u → F' b = some u) (fh : ∀ b u, F' b = some u → t.F b = some u ∨ (t.H b = none ∧ H' b = some u ∧ NT u)) : Gr g t { t with H := H', F := F' } := by
  refine ⟨rfl, Xt.of fk, Xt.of hk, fun a u h1 n h2 => ?_, ⟨fun b u e n => ?_, fun b u e => ?_, o.tb.ext hk, fun hp => ?_, ?_⟩⟩
  · cases q : F' a with
    | none => exact q
    | some w =>
      rcases fh a w q with z | ⟨z, _⟩
      · rw [h2] at z
        cases z
      · rw [h1] at z
        cases z
  · rcases fh b u e with z | ⟨_, z, _⟩
    · obtain ⟨⟨o', h1, n1⟩, h2⟩ := o.fh b u z n
      exact ⟨⟨o', hk _ _ h1, n1⟩, fun np => hk _ _ (h2 np)⟩
    · exact ⟨⟨u, z, n⟩, fun _ => z⟩
  · rcases fh b u e with z | ⟨_, _, z⟩
    · exact o.ft b u z
    · exact z
  · have hp' : t.F t.p ≠ none := by
      intro z
      cases q : F' t.p with
      | none => exact hp q
      | some w =>
        rcases fh _ w q with z' | ⟨z', _⟩
        · rw [z] at z'
          cases z'
        · exact o.ne z' rfl
    obtain ⟨l, x, d, f, n, ns, h1, h2, h3, h4, h5, h6, h7, h8, h9⟩ := o.pn hp'
    exact ⟨l, x, d, f, n, ns, hk _ _ h1, h2, h3, h4, h5, h6, h7, fk _ _ h8, h9⟩
  · obtain ⟨u, h, n⟩ := o.pe
    exact ⟨u, hk _ _ h, n⟩

/-! ### Base.__init__(self, ..): the name of an own exception class, whose __init__ is the built-in's -/
structure Ce (K : PySem.W.Frag) (C : Addr) (mc : Value) : Prop where
  ga : PySem.W.specialIn K (.ref C) "__getattribute__" = some (some (.builtin "type.__getattribute__"))
  rd : PySem.W.readsIn K C mc = true
  at_ : PySem.W.findCls K (.ref C) mc "__init__" = some (.val (.builtin "ValueError.__init__"))
section
variable {X : Cx} {e : Expr} {es : List Expr} {ta : TA} {p1 p2 pos : Pos} {x : Str}
theorem pe_ceinit {pl : Sem Bool} {C0 : Addr} {mc : Value} (hg : Gl X x) (hm : X.mg x = some (.ref C0)) (T : Ce X.K C0 mc) (ha : PA X (e :: es) ta) (hdb : (x == ("__debug__" : Str)) = false := by decide)
    (hc : eval (.Call (.Attribute (.Name x p1) "__init__" p2) (e :: es) [] pos) X.env = (do
      let ov ← eval (.Name x p1) X.env
      standAt p2.atName
      let (f, first) ← holding [ov] (getMethod ov "__init__" pl)
      callWith pos f first (backTo pos (starEach (e :: es) X.env)) (backToKw pos (keywordEach [] X.env))) := by rfl)
    (he : starEach (e :: es) X.env = (false, eval e X.env) :: starEach es X.env := by rfl) (hpl : (backTo pos (starEach es X.env)).any (·.1) = false := by rfl) :
    PE X (.Call (.Attribute (.Name x p1) "__init__" p2) (e :: es) [] pos) (tVeI X.K ta) := by
  refine ⟨fun pins s σ H Q I h => ?_⟩
  refine PySem.W.methodCall_KW (ld_glob I hg hm ?_ hdb) hc
  refine PySem.W.method_cls I.kIn T.ga (PySem.W.cls_value I.kIn T.rd T.at_ (by decide +kernel) ?_)
  show wpAny _ _ (callWith pos (Value.builtin "ValueError.__init__") [] (backTo pos (starEach (e :: es) X.env)) []) _ _ _
  refine PyProof.Rows.callWith_method1 (thn (ha.run pos pins _ σ H _ (I.tok _) h) fun us s1 ⟨vs, H1, I1, r1, a, C, ws, ev, hl, T, ea, q⟩ => ?_) he hpl
  subst ev
  cases r1 with
  | @cons _ u0 _ ur ra rw' =>
    obtain rfl : u0 = Value.ref a := ra
    have hlen : ur.length ≤ sizeLine := by
      rw [← Paired.length rw', sizeLine_eq]
      omega
    exact oinit_ok T I1 ea hlen fun s' J => ⟨.non, H1, J, rfl, q⟩
end
/-- an own exception's __init__: the fields fs are stored, the last one first in the list -/
def spEx (C : Addr) (fs : List Str) : Sp := fun vs H Q _ => ∃ (a : Addr) (ys : List V), vs = .ref a :: ys ∧ ys.length = fs.length ∧ H a = some (exo a C none) ∧
  ∀ (H' : Hp) (d : Addr), H d = none → d ≠ a → (∀ b o, b ≠ a → H b = some o → H' b = some o) → H' a = some (exo a C (some d)) → H' d = some (exd d (fs.zip ys).reverse) → Q .non H'
/-- what the text says of an own exception class with fields -/
structure XcOk (P : Program) (w : World) (K : PySem.W.Frag) (mg : Str → Option Value) (base : Heap) (x : Str) (fs : List Str) : Prop where
  ex : ∃ (C fI : Addr) (fd : FuncData) (ps : List Str), mg x = some (.ref C) ∧ OexC K C ∧ XfC K C ∧ (∀ f ∈ fs, PySem.W.findIn K (.ref C) f = some none) ∧ PySem.W.findIn K (.ref C) "__init__" = some (some (.ref fI)) ∧ PySem.W.typeIn K (.ref fI) = some (.type "function") ∧
    Binds K fd ps [] ∧ FnOk P w K mg base (L2.CX P w) 1 fI fd ps (spEx C fs)
/-- what a raise does -/
def mRaise (x : Str) (fs : List Str) (ma : MA) : MS := fun ρ c po => ma ρ c (fun ds c => (ds.length = fs.length ∧ fs.length ≤ 1000) ∧ po.ex (x, (fs.zip ds).reverse) c) po.ex
theorem Rpf.app {g : Gx} {p : Addr} {F : Hp} : ∀ {xs ys : List (Str × V)} {ds es : List (Str × D)}, Rpf g p F xs ds → Rpf g p F ys es → Rpf g p F (xs ++ ys) (ds ++ es)
  | _, _, _, _, .nil, r => r
  | _, _, _, _, .cons h t, r => .cons h (t.app r)
theorem Rpf.rev {g : Gx} {p : Addr} {F : Hp} : ∀ {xs : List (Str × V)} {ds : List (Str × D)}, Rpf g p F xs ds → Rpf g p F xs.reverse ds.reverse
  | _, _, .nil => .nil
  | _, _, .cons h r => by
    rw [List.reverse_cons, List.reverse_cons]
    exact r.rev.app (.cons h .nil)
theorem Rpf.zip {g : Gx} {p : Addr} {F : Hp} : ∀ {fs : List Str} {xs : List V} {ds : List D}, Rps g p F xs ds → Rpf g p F (fs.zip xs) (fs.zip ds)
  | [], _, _, _ => .nil
  | _ :: _, _, _, .nil => .nil
  | _ :: _, _, _, .cons h r => .cons h (Rpf.zip r)
section
variable {j : J} {om : Bool} {e : Expr} {es : List Expr} {ks : List Kd} {mas : MA} {x : Str} {fs : List Str} {p pos pos' : Pos}
theorem rs_raise (hc : j.X.calm = true) (tk : Takes j.X j.W) (T : XcOk j.X.prog j.X.w j.X.K j.X.mg j.X.base x fs) (hr : Room 2 j.X.A) (hg : Gl j.X x) (hx : Passes (L2.CX j.X.prog j.X.w) j.X (fun _ _ _ => False)) (ha : RA j ks (e :: es) mas) (hk : ∀ k ∈ ks, k = .val := by decide)
    (hdb : (x == ("__debug__" : Str)) = false := by decide) (he : starEach (e :: es) j.X.env = (false, eval e j.X.env) :: starEach es j.X.env := by rfl) (hpl : (backTo pos (starEach es j.X.env)).any (·.1) = false := by rfl) :
    RS j om (.Raise (some (.Call (.Name x p) (e :: es) [] pos)) none pos') (mRaise x fs mas) := by
  obtain ⟨C, fI, fd, ps, hm, oC, xC, _, iC, tI, hb, F1⟩ := T.ex
  refine ⟨(ps_raise hc tk (pmk_oex oC iC tI F1 hr hb .nil hx hg hm ha.pa hdb he hpl)).imp fun Dn σ H ⟨ρ, s, po, eh, env, hmm, en⟩ => ?_⟩
  subst eh
  refine ⟨ρ, s, _, _, rfl, env, hmm, fun ds c hd vs t e ec r => ?_, en.fin env.h0⟩
  subst ec
  have r := r.rps hk
  have hl := r.length
  refine ⟨by rw [hl, hd.1.1]; exact hd.1.2, fun a ha => ⟨a, vs ++ [], rfl, by rw [List.append_nil, hl, hd.1.1], upd_same, fun H' d hd0 hne hkp h1 h2 => ?_⟩⟩
  rw [List.append_nil] at h2
  have hd1 : t.H d = none := by
    rw [upd_ne hne] at hd0
    exact hd0
  refine ⟨rfl, d, _, h1, h2, hd1, ?_⟩
  have hk2 : ∀ b u, t.H b = some u → upd (del H' a) d (HO.xd (fs.zip vs).reverse) b = some u := fun b u q => by
    have nb := ne_of_none q ha
    rw [upd_ne (ne_of_none q hd1), del_ne nb]
    exact hkp b u nb (by rw [upd_ne nb]; exact q)
  have hfd := e.ok.fnone hd1
  have g2 : Gr j.g t { t with H := upd (del H' a) d (HO.xd (fs.zip vs).reverse), F := upd t.F d (HO.xd (fs.zip vs).reverse) } := by
    refine Gr.ext e.ok hk2 (fun b u q => by rw [upd_ne (ne_of_none q hfd)]; exact q) fun b u q => ?_
    by_cases hb : b = d
    · subst hb
      rw [upd_same] at q
      cases q
      exact .inr ⟨hd1, upd_same, fun _ z => nomatch z⟩
    · rw [upd_ne hb] at q
      exact .inl q
  refine (en.fin env.h0) _ _ hd.2 (.ref C) (some d) _ (e.trans g2) rfl ⟨C, d, _, rfl, hm, rfl, e.ok.ne hd1, upd_same, ?_⟩
  exact Rpf.rev (Rpf.zip (Rps.mono (Xt.new hfd) r))
end
end Kq
set_option Elab.async false
set_option linter.all false
set_option maxRecDepth 100000
set_option maxHeartbeats 4000000
namespace Kq
open PySem PySem.Spec PyProof.Rows L2 LamX

/-! ### try with several clauses, each with or without a name -/
abbrev Cl := Value × Option Nat × (Addr → Value → Option Addr → TS)
/-- what stands behind a suite whose name is slot i -/
def unE (i : Option Nat) (Dn : Ends) : Ends := match i with
  | none => Dn
  | some i => { nx := fun σ' H' => Dn.nx (σ'.set i none) H', rt := Dn.rt, bk := fun σ' H' => Dn.bk (σ'.set i none) H', ct := fun σ' H' => Dn.ct (σ'.set i none) H' }
def putE (i : Option Nat) (a : Addr) (σ : L2.St) : L2.St := match i with
  | none => σ
  | some i => σ.set i (some (.ref a))
def wMix (K : PySem.W.Frag) (Wout : WX) (Dn : Ends) : List Cl → WX
  | [] => Wout
  | (c, i, ts) :: r => fun cls d σ H => ∃ b, PySem.W.exmOne K cls c = some b ∧ (b = true → ∀ a, H a = none → ts a cls d (unE i Dn) (putE i a σ) H) ∧ (b = false → wMix K Wout Dn r cls d σ H)
inductive HdX (X : Cx) : List ExceptHandler → List Cl → Prop
  | nil : HdX X [] []
  | one {x : Str} {c : Value} {ts : Addr → Value → Option Addr → TS} {b₀ : Stmt} {suite : List Stmt} {np pos' : Pos} {hds : List ExceptHandler} {l : List Cl} (hc : Names X x c)
      (hsu : ∀ (a : Addr) (oe : Obj) (cls : Value) (d : Option Addr) (pn : List (Addr × Obj)), Zc cls d oe → (∃ vs, oe.data = .fields vs) → PSs (X.suite a ((a, oe) :: pn)) (b₀ :: suite) (ts a cls d)) (r : HdX X hds l) :
      HdX X (.ExceptHandler (some (.Name x np)) none (b₀ :: suite) pos' :: hds) ((c, none, ts) :: l)
  | as_ {x n : Str} {i : Nat} {c : Value} {ts : Addr → Value → Option Addr → TS} {b₀ : Stmt} {suite : List Stmt} {np pos' : Pos} {hds : List ExceptHandler} {l : List Cl} (hN : X.N.Nodup) (hi : X.N[i]? = some n) (hln : X.env.kindOf n = some .local) (hc : Names X x c)
      (hsu : ∀ (a : Addr) (oe : Obj) (cls : Value) (d : Option Addr) (pn : List (Addr × Obj)), Zc cls d oe → (∃ vs, oe.data = .fields vs) → PSs (X.suite a ((a, oe) :: pn)) (b₀ :: suite) (ts a cls d)) (r : HdX X hds l) :
      HdX X (.ExceptHandler (some (.Name x np)) (some n) (b₀ :: suite) pos' :: hds) ((c, some i, ts) :: l)
section
variable {X Y : Cx} {pins qins : List (Addr × Obj)} {En : Ends} {fl : Flow} {s u : Shared}
/-- how a block ended, told of another context -/
theorem sp_map (h : SP Y qins En fl s) (k : ∀ {τ : L2.St} {G : Hp}, Inv Y qins τ G s → Inv X pins τ G s) : SP X pins En fl s := by
  match fl, h with
  | .next, ⟨τ, G, i, q⟩ => exact ⟨τ, G, k i, q⟩
  | .brk, ⟨τ, G, i, q⟩ => exact ⟨τ, G, k i, q⟩
  | .cont, ⟨τ, G, i, q⟩ => exact ⟨τ, G, k i, q⟩
  | .ret _, ⟨v, τ, G, i, r, q⟩ => exact ⟨v, τ, G, k i, r, q⟩
/-- the same where a name is dropped meanwhile -/
theorem sp_drop {i : Nat} (h : SP Y qins (unE (some i) En) fl s) (k : ∀ {τ : L2.St} {G : Hp}, Inv Y qins τ G s → Inv X pins (τ.set i none) G u) : SP X pins En fl u := by
  match fl, h with
  | .next, ⟨τ, G, i, q⟩ => exact ⟨_, G, k i, q⟩
  | .brk, ⟨τ, G, i, q⟩ => exact ⟨_, G, k i, q⟩
  | .cont, ⟨τ, G, i, q⟩ => exact ⟨_, G, k i, q⟩
  | .ret _, ⟨v, τ, G, i, r, q⟩ => exact ⟨v, _, G, k i, r, q⟩
end
section
variable {X : Cx} {body : List Stmt} {h₀ : ExceptHandler} {hds : List ExceptHandler} {l : List Cl} {pos : Pos} {tb : WX → TS} {Wout : WX}
/-- a frame's own record is no exception's -/
theorem not_fr {B h : Heap} {o : Obj} {vs : Array Value} {a : Addr} {es : List PySem.Env} (ff : h.FunFrames B es) (e : h.get? a = some o) (dd : o.data = .fields vs) : a ∉ frs es := fun hm => by
  obtain ⟨_, o', e', nf⟩ := ff.mem hm
  exact nf _ (by rw [e] at e'; cases e'; exact dd)
/-- a caught exception, landed: at a, of the class cls, its dict d; B the ground beneath, sI the state where it was thrown, t the state now but for the heap h -/
structure Caught (X : Cx) (pins : List (Addr × Obj)) (a : Addr) (cls : Value) (d : Option Addr) (B : Heap) (sI t : Shared) (τ : L2.St) (G : Hp) (h : Heap) : Prop where
  ok : X.Ok
  stk : X.stack = X.env :: X.outer
  frm : X.env.frame = some X.env.locals
  thrown : Inv X pins τ G sI
  ground : ∀ b o, sI.heap.get? b = some o → b ∉ frs X.stack → B.get? b = some o
  free : G a = none
  sys : t.os = sI.os
  bare : AllBare t.gens
  up : sI.heap.UpToSlots h
  fly : HandSPX.FlyingZ B (X.env :: X.outer) a (Zc cls d) h
section
variable {a : Addr} {cls : Value} {d : Option Addr} {B h : Heap} {pins : List (Addr × Obj)} {sI t : Shared} {τ : L2.St} {G : Hp} {En : Ends}
theorem Caught.inv (c : Caught X pins a cls d B sI t τ G h) : Inv X pins τ G { t with heap := h } := c.thrown.landed c.ground c.fly.1 c.up c.sys c.bare
/-- the suite's own state: the exception is pinned -/
theorem Caught.suite (c : Caught X pins a cls d B sI t τ G h) : ∃ oe vs, h.get? a = some oe ∧ Zc cls d oe ∧ oe.data = .fields vs ∧ Inv (X.suite a ((a, oe) :: (X.pn ++ pins))) [] τ G { t with heap := h } := by
  obtain ⟨oe, vs, e, z, dd⟩ := c.fly.there
  have out : a ∉ frs (X.env :: X.outer) := not_fr c.fly.2.2.1 e dd
  refine ⟨oe, vs, e, z, dd, c.inv.suite e dd c.free (fun q => out ?_) fun q => out ?_⟩
  · exact List.mem_filterMap.mpr ⟨X.env, List.mem_cons_self, by rw [c.frm, q]⟩
  · obtain ⟨en, h1, h2⟩ := List.mem_filterMap.mp q
    exact List.mem_filterMap.mpr ⟨en, List.mem_cons_of_mem _ h1, h2⟩
/-- the clause's test -/
theorem Caught.test (c : Caught X pins a cls d B sI t τ G h) {x : Str} {np : Pos} {cv : Value} {Q : Value → Shared → Prop} {E : Value → Shared → Prop} (hc : Names X x cv) (q : Q cv { t with heap := h }) :
    wpAny (model X.prog X.w) (X.A.mark (some (.ref a))) (eval (.Name x np) X.env) Q E { t with heap := h } := by
  obtain ⟨oe, _, _, _, _, S⟩ := c.suite
  rcases hc with ⟨hg, hdb, hm | ⟨hm, hv, hn⟩⟩
  · exact ld_glob (X := X.suite a ((a, oe) :: (X.pn ++ pins))) S hg hm q hdb
  · exact ld_blt (X := X.suite a ((a, oe) :: (X.pn ++ pins))) S hg hm hv q hn hdb
theorem Caught.isa (c : Caught X pins a cls d B sI t τ G h) {cv : Value} {b : Bool} (e : PySem.W.exmOne X.K cls cv = some b) : PySem.W.Looks (model X.prog X.w) h (excMatches (.ref a) cv) b := by
  obtain ⟨oe, _, g, z, _, _⟩ := c.suite
  exact PySem.W.exm_one c.inv.kIn (fun A Q E s k q => wpAny_typeOf_ref (k _ _ g) (by rw [z.1]; exact q)) e
/-- the flight is put off once more ahead of a suite -/
theorem Caught.again (c : Caught X pins a cls d B sI t τ G h) {Q : Unit → Shared → Prop} {E : Value → Shared → Prop} {A : Around} (k : ∀ h', Caught X pins a cls d B sI t τ G h' → Q () { t with heap := h' }) : wpAny (model X.prog X.w) A (setFlight (.ref a) none) Q E { t with heap := h } :=
  HandSPX.lands_againZ c.fly fun h' f u => k h' { c with up := c.up.trans u, fly := f }
/-- no clause is left: it flies on -/
theorem Caught.on (c : Caught X pins a cls d B sI t τ G h) (tk : Takes X Wout) (w : Wout cls d τ G) : wpAny (model X.prog X.w) X.A (handleBy (.ref a) X.env []) (SP X pins En) X.xe { t with heap := h } := by
  obtain ⟨_, _, _, oe, vs, T, _, _, e, _, dd, h1, _⟩ := id c.fly
  have fly : wpAny (model X.prog X.w) X.A (setFlight (.ref a) X.env.frame) (fun _ s4 => wpAny (model X.prog X.w) X.A (throw (.ref a) : Sem Flow) (SP X pins En) X.xe s4) X.xe { t with heap := h } := by
    rw [c.frm]
    exact HandSPX.setFlight_upZ c.fly fun h4 g u4 => wpAny_throw (tk _ _ ⟨a, B, sI, pins, τ, G, cls, d, rfl, c.thrown, c.ground, c.up.trans u4, .inr (.inr (c.stk ▸ g)), c.free, c.sys, c.bare, w⟩)
  apply wpAny_handleBy_nil
  unfold PySem.passOn
  apply wpAny_bind
  apply wpAny_field e dd h1
  rw [if_neg (by simp)]
  first
    | exact wpAny_bind (wpAny_pure (wpAny_bind fly))
    | exact wpAny_bind fly
theorem Caught.walk {hs : List ExceptHandler} {cs : List Cl} (k : HdX X hs cs) : ∀ {h : Heap}, Caught X pins a cls d B sI t τ G h → Takes X Wout → wMix X.K Wout En cs cls d τ G → wpAny (model X.prog X.w) X.A (handleBy (.ref a) X.env hs) (SP X pins En) X.xe { t with heap := h } := by
  induction k with
  | nil => exact fun c tk w => c.on tk w
  | one hc hsu r ih =>
    rintro h c tk ⟨b, hb, y, n⟩
    apply wpAny_handleBy_cons (codeAny_handlers_test (c.test hc ((c.isa hb).here _))) (by intro q; cases q)
    match b with
    | false => exact ih c tk (n rfl)
    | true =>
      refine codeAny_handlers_suite (c.again fun h' c' => ?_)
      obtain ⟨oe, vs, _, z, dd, S⟩ := c'.suite
      exact wpAny_mono ((hsu a oe cls d _ z ⟨vs, dd⟩).run [] _ _ G _ S (y rfl a c.free)) (fun f s6 q => by
        cases f <;> exact sp_map (En := En) q fun i => i.unsuite c.ok) fun _ _ z => z.elim
  | as_ hN hi hln hc hsu r ih =>
    rintro h c tk ⟨b, hb, y, n⟩
    apply wpAny_handleBy_cons (codeAny_handlers_test (c.test hc ((c.isa hb).here _))) (by intro q; cases q)
    match b with
    | false => exact ih c tk (n rfl)
    | true =>
      refine codeAny_handlers_suite_as (c.again fun h' c' => ?_)
      obtain ⟨oe, vs, _, z, dd, S⟩ := c'.suite
      refine store_ok (X := X.suite a ((a, oe) :: (X.pn ++ pins))) (v := .ref a) S hN hi (.inl hln) rfl (fun s5 S5 => ?_) (.inr hln)
      refine wpAny_mono ((hsu a oe cls d _ z ⟨vs, dd⟩).run [] s5 _ G _ S5 (y rfl a c.free)) (fun f s6 q => ?_) fun _ _ z => z.elim
      cases f with
      | next =>
        obtain ⟨τ6, G6, S6, q6⟩ := q
        exact gone_ok (S6.unsuite c.ok) hN hi hln fun _ J => ⟨_, _, J, q6⟩
      | brk =>
        obtain ⟨τ6, G6, S6, q6⟩ := q
        exact gone_ok (S6.unsuite c.ok) hN hi hln fun _ J => ⟨_, _, J, q6⟩
      | cont =>
        obtain ⟨τ6, G6, S6, q6⟩ := q
        exact gone_ok (S6.unsuite c.ok) hN hi hln fun _ J => ⟨_, _, J, q6⟩
      | ret u =>
        obtain ⟨v6, τ6, G6, S6, r6, q6⟩ := q
        exact gone_ok (S6.unsuite c.ok) hN hi hln fun _ J => ⟨v6, _, _, J, r6, q6⟩
end
theorem ps_try_mix (hs : X.stack = X.env :: X.outer) (hf : X.env.frame = some X.env.locals) (tk : Takes X Wout)
    (hb : ∀ (W : WX) (pn : List (Addr × Obj)) (xe : Value → Shared → Prop), Takes (X.tr pn xe) W → PassesOwn (model X.prog X.w) X.A X.env xe → PSs (X.tr pn xe) body (tb W))
    (hh : HdX X (h₀ :: hds) l) : PS X (.Try body (h₀ :: hds) [] [] pos) (fun Dn σ H => tb (wMix X.K Wout Dn l) Dn σ H) := by
  refine ⟨fun pins s σ H En I h => wpAny_Try_except ?_⟩
  let xe' : Value → Shared → Prop := fun e t => wpAny (model X.prog X.w) X.A (noteFrame e X.env) (fun _ t2 => wpAny (model X.prog X.w) X.A (setFlight e none) (fun _ t3 => wpAny (model X.prog X.w) X.A (handleBy e X.env (h₀ :: hds)) (SP X pins En) X.xe t3) X.xe t2) X.xe t
  have tk' : Takes (X.tr (X.pn ++ pins) xe') (wMix X.K Wout En l) := by
    rintro u t ⟨a, B, sI, ps, τ, G, cls, d, rfl, J, gr, up, sky, na, os, ag, w⟩
    show wpAny _ _ (noteFrame (.ref a) X.env) _ _ _
    have sky' : Sky B (X.env :: X.outer) a (Zc cls d) X.env.locals t.heap := hs ▸ sky
    exact Sky.land Zc.steady (by rw [I.ok.frames, hs]) hf sky' fun h3 fl u3 => Caught.walk hh ⟨I.ok, hs, hf, J.ofTry I.ok, gr, na, os, ag, up.trans u3, fl⟩ tk w
  refine wpAny_mono ((hb _ _ xe' tk' PassesOwn.looking).run [] s σ H En (I.toTry _) h) (fun f s1 q => ?_) fun _ _ z => z
  have q' : SP X pins En f s1 := sp_map q fun i => i.ofTry I.ok
  cases f with
  | next =>
    obtain ⟨σ', H', J', q⟩ := q'
    exact wpAny_execs_nil ⟨σ', H', J', q⟩
  | brk => exact q'
  | cont => exact q'
  | ret u => exact q'
end
end Kq
set_option Elab.async false
set_option linter.all false
set_option maxRecDepth 100000
set_option maxHeartbeats 4000000
namespace Kq
open PySem PySem.Spec PyProof.Rows L2 LamX

/-! ### try: by data -/
def offX (ρ : Rho) : Rho := ρ.map fun | .exc _ => .no | x => x
theorem offX_get (ρ : Rho) (i : Nat) : (offX ρ)[i]? = (ρ[i]?).map fun | .exc _ => .no | x => x := by
  unfold offX
  rw [List.getElem?_map]
theorem EnvR.hz {g : Gx} {H0 : Hz} {s : Sx} {σ : L2.St} {ρ : Rho} {e : Option (Addr × Value × Option Addr)} (h : EnvR g H0 s σ ρ) : EnvR g ⟨H0.s, e, H0.lam⟩ s σ (offX ρ) := by
  have own : ∀ i : Nat, slOwn (offX ρ)[i]? = slOwn ρ[i]? := fun i => by
    rw [offX_get]
    match ρ[i]? with
    | none => rfl
    | some (.exc _) => rfl
    | some .no => rfl
    | some (.val _) => rfl
    | some (.own _) => rfl
    | some (.ownd _) => rfl
    | some (.bor _) => rfl
    | some (.obj _ _) => rfl
    | some .lam => rfl
  refine ⟨h.gr, by rw [offX, List.length_map]; exact h.len, fun i => ?_, fun i n l h1 h2 => h.ap i n l (by rw [← own]; exact h1) (by rw [← own]; exact h2)⟩
  have q := h.sl i
  rw [offX_get]
  match hr : ρ[i]? with
  | none => exact True.intro
  | some (.exc _) => exact True.intro
  | some .no => exact True.intro
  | some (.val d) => rw [hr] at q; exact q
  | some (.own d) => rw [hr] at q; exact q
  | some (.ownd d) => rw [hr] at q; exact q
  | some (.bor d) => rw [hr] at q; exact q
  | some (.obj c d) => rw [hr] at q; exact q
  | some .lam => rw [hr] at q; exact q
/-- the exception is stored under its name -/
theorem EnvR.setX {g : Gx} {H0 : Sx} {lm : Option (Addr × Addr × Str)} {s : Sx} {σ : L2.St} {ρ : Rho} {a : Addr} {cls : Value} {d : Option Addr} {x : XC} {i : Nat} (h : EnvR g ⟨H0, some (a, cls, d), lm⟩ s σ ρ) (r : XcR g s cls d x) : EnvR g ⟨H0, some (a, cls, d), lm⟩ s (σ.set i (some (.ref a))) (ρ.set i (.exc x)) := by
  refine ⟨h.gr, by rw [List.length_set, List.length_set]; exact h.len, fun n => ?_, fun p q l h1 h2 h3 h4 => ?_⟩
  · by_cases e : i = n
    · subst e
      by_cases hi : i < σ.length
      · rw [List.getElem?_set_self hi, List.getElem?_set_self (by rw [← h.len]; exact hi)]
        exact ⟨a, cls, d, rfl, rfl, r⟩
      · rw [List.getElem?_eq_none (l := ρ.set i (.exc x)) (by rw [List.length_set, ← h.len]; omega)]
        exact True.intro
    · rw [List.getElem?_set_ne e, List.getElem?_set_ne e]
      exact h.sl n
  · have key : ∀ {b}, slOwn (ρ.set i (.exc x))[b]? = true → b ≠ i := fun {b} q z => by
      subst z
      by_cases hi : b < ρ.length
      · rw [List.getElem?_set_self hi] at q
        cases q
      · rw [List.getElem?_eq_none (by rw [List.length_set]; omega)] at q
        cases q
    have np := key h1
    have nq := key h2
    rw [List.getElem?_set_ne (Ne.symm np)] at h1 h3
    rw [List.getElem?_set_ne (Ne.symm nq)] at h2 h4
    exact h.ap p q l h1 h2 h3 h4
abbrev Hd := Str × Option Nat × MS
def putS (i : Option Nat) (x : XC) (ρ : Rho) : Rho := match i with
  | none => offX ρ
  | some i => (offX ρ).set i (.exc x)
def unS (i : Option Nat) (ρ : Rho) : Rho := match i with
  | none => offX ρ
  | some i => (offX ρ).set i .no
def mHs (sub : Str → Str → Option Bool) : List Hd → XC → MS
  | [], x => fun _ c po => po.ex x c
  | (h, i, ms) :: r, x => fun ρ c po => ∃ b, sub x.1 h = some b ∧ (b = true → ms (putS i x ρ) c ⟨fun ρ c => po.nx (unS i ρ) c, po.rt, fun ρ c => po.bk (unS i ρ) c, fun ρ c => po.ct (unS i ρ) c, fun _ _ => False⟩) ∧ (b = false → mHs sub r x ρ c po)
def J.tr (j : J) (pn : List (Addr × Obj)) (xe : Value → Shared → Prop) (W : WX) : J := ⟨j.X.tr pn xe, j.T, j.H0, W⟩
def J.suite (j : J) (a : Addr) (oe : Obj) (cls : Value) (d : Option Addr) (pn : List (Addr × Obj)) : J := ⟨j.X.suite a ((a, oe) :: pn), j.T, ⟨j.H0.s, some (a, cls, d), j.H0.lam⟩, fun _ _ _ _ => False⟩
/-- which class is what -/
def SubOk (K : PySem.W.Frag) (mg : Str → Option Value) (sub : Str → Str → Option Bool) : Prop := ∀ x h C Dh b, sub x h = some b → mg x = some (.ref C) → mg h = some (.ref Dh) → PySem.W.exmOne K (.ref C) (.ref Dh) = some b
inductive RHs (j : J) (om : Bool) : List ExceptHandler → List Hd → Prop
  | nil : RHs j om [] []
  | one {x : Str} {C : Addr} {ms : MS} {b₀ : Stmt} {suite : List Stmt} {np pos' : Pos} {hds : List ExceptHandler} {l : List Hd} (hg : Gl j.X x) (hm : j.X.mg x = some (.ref C)) (hdb : (x == ("__debug__" : Str)) = false)
      (hsu : ∀ (a : Addr) (oe : Obj) (cls : Value) (d : Option Addr) (pn : List (Addr × Obj)), Zc cls d oe → (∃ vs, oe.data = .fields vs) → RSs (j.suite a oe cls d pn) om (b₀ :: suite) ms) (r : RHs j om hds l) :
      RHs j om (.ExceptHandler (some (.Name x np)) none (b₀ :: suite) pos' :: hds) ((x, none, ms) :: l)
  | as_ {x n : Str} {i : Nat} {C : Addr} {ms : MS} {b₀ : Stmt} {suite : List Stmt} {np pos' : Pos} {hds : List ExceptHandler} {l : List Hd} (hN : j.X.N.Nodup) (hi : j.X.N[i]? = some n) (hln : j.X.env.kindOf n = some .local) (hg : Gl j.X x) (hm : j.X.mg x = some (.ref C)) (hdb : (x == ("__debug__" : Str)) = false)
      (hsu : ∀ (a : Addr) (oe : Obj) (cls : Value) (d : Option Addr) (pn : List (Addr × Obj)), Zc cls d oe → (∃ vs, oe.data = .fields vs) → RSs (j.suite a oe cls d pn) om (b₀ :: suite) ms) (r : RHs j om hds l) :
      RHs j om (.ExceptHandler (some (.Name x np)) (some n) (b₀ :: suite) pos' :: hds) ((x, some i, ms) :: l)
section
variable {j : J} {om : Bool} {k : Kd} {e : Expr} {m : ME} {ms : MS}
theorem EndsR.toSuite {s t : Sx} {po : Po} {Dn : Ends} {a : Addr} {oe : Obj} {cls : Value} {d : Option Addr} {pn : List (Addr × Obj)} {i : Option Nat} (en : EndsR j om s po Dn) (sg : Sg j s t) :
    EndsR (j.suite a oe cls d pn) om t ⟨fun ρ c => po.nx (unS i ρ) c, po.rt, fun ρ c => po.bk (unS i ρ) c, fun ρ c => po.ct (unS i ρ) c, fun _ _ => False⟩ (unE i Dn) := by
  have en2 := en.sg sg
  have back : ∀ {ρ : Rho} {σ : L2.St} {u : Sx}, EnvR j.g ⟨j.H0.s, some (a, cls, d), j.H0.lam⟩ u σ ρ → EnvR j.g j.H0 u (match i with | none => σ | some i => σ.set i none) (unS i ρ) := fun {ρ σ u} env => by
    have q := env.hz (e := j.H0.ex)
    cases i with
    | none => exact q
    | some i => exact q.unset
  have sgk : ∀ {u : Sx}, Sg (j.suite a oe cls d pn) t u → Sg j t u := fun {u} h => ⟨h.p, h.ff, h.ap⟩
  cases i with
  | none => exact ⟨fun ρ c h σ u su ec env => en2.nx _ c h σ u (sgk su) ec (back env), fun v c h w u su ec ok x r => en2.rt v c h w u (sgk su) ec ok x r, fun ρ c h σ u su ec env => en2.bk _ c h σ u (sgk su) ec (back env), fun ρ c h σ u su ec env => en2.ct _ c h σ u (sgk su) ec (back env), fun _ _ z => z.elim⟩
  | some i => exact ⟨fun ρ c h σ u su ec env => en2.nx _ c h _ u (sgk su) ec (back env), fun v c h w u su ec ok x r => en2.rt v c h w u (sgk su) ec ok x r, fun ρ c h σ u su ec env => en2.bk _ c h _ u (sgk su) ec (back env), fun ρ c h σ u su ec env => en2.ct _ c h _ u (sgk su) ec (back env), fun _ _ z => z.elim⟩
theorem sOf_suite {a : Addr} {oe oe' : Obj} {cls : Value} {d : Option Addr} {pn pn' : List (Addr × Obj)} {Dn : Ends} {σ : L2.St} {H : Hp} (h : sOf (j.suite a oe cls d pn) om ms Dn σ H) : sOf (j.suite a oe' cls d pn') om ms Dn σ H := by
  obtain ⟨ρ, s, po, eh, env, hm, en⟩ := h
  have sg : ∀ {u : Sx}, Sg (j.suite a oe' cls d pn') s u → Sg (j.suite a oe cls d pn) s u := fun {u} h => ⟨h.p, h.ff, h.ap⟩
  exact ⟨ρ, s, po, eh, env, hm, ⟨fun ρ c h σ u su ec env => en.nx ρ c h σ u (sg su) ec env, fun v c h w u su ec ok x r => en.rt v c h w u (sg su) ec ok x r, fun ρ c h σ u su ec env => en.bk ρ c h σ u (sg su) ec env, fun ρ c h σ u su ec env => en.ct ρ c h σ u (sg su) ec env,
    fun x c h cls dd σ u su ec ok x r => en.ex _ c h cls dd σ u (sg su) ec ok x r⟩⟩
theorem RHs.read {sub : Str → Str → Option Bool} (S : SubOk j.X.K j.X.mg sub) {hds : List ExceptHandler} {l : List Hd} (h : RHs j om hds l) : ∃ L : List Cl, HdX j.X hds L ∧ ∀ (σ : L2.St) (ρ : Rho) (s t : Sx) (po : Po) (Dn : Ends) (cls : Value) (d : Option Addr) (x : XC),
    Sg j s t → EnvR j.g j.H0 t σ ρ → EndsR j om s po Dn → XcR j.g t cls d x → mHs sub l x ρ t.c po → wMix j.X.K j.W Dn L cls d σ t.H := by
  induction h with
  | nil =>
    refine ⟨[], .nil, fun σ ρ s t po Dn cls d x sg env en r hm => ?_⟩
    exact en.ex x _ hm cls d σ t sg rfl env.ok env.h0 r
  | @one x C ms b₀ suite np pos' hds l hg hm hdb hsu r ih =>
    obtain ⟨L, h1, h2⟩ := ih
    refine ⟨(.ref C, none, fun a cls d => sOf (j.suite a ⟨.none, none, .fields #[], #[]⟩ cls d []) om ms) :: L, .one ⟨hg, hdb, .inl hm⟩ (fun a oe cls d pn z f => (hsu a oe cls d pn z f).ps.imp fun _ _ _ h => sOf_suite h) h1, fun σ ρ s t po Dn cls d y sg env en r hmm => ?_⟩
    obtain ⟨b, e1, e2, e3⟩ := hmm
    obtain ⟨Cx, dd, gs, rfl, q1, q2, q3, q4, q5⟩ := id r
    refine ⟨b, S _ _ _ _ _ e1 q1 hm, fun hb a ha => ?_, fun hb => h2 σ ρ s t po Dn _ d y sg env en r (e3 hb)⟩
    exact ⟨_, t, _, rfl, env.hz, e2 hb, en.toSuite sg⟩
  | @as_ x n i C ms b₀ suite np pos' hds l hN hi hln hg hm hdb hsu r ih =>
    obtain ⟨L, h1, h2⟩ := ih
    refine ⟨(.ref C, some i, fun a cls d => sOf (j.suite a ⟨.none, none, .fields #[], #[]⟩ cls d []) om ms) :: L, .as_ hN hi hln ⟨hg, hdb, .inl hm⟩ (fun a oe cls d pn z f => (hsu a oe cls d pn z f).ps.imp fun _ _ _ h => sOf_suite h) h1, fun σ ρ s t po Dn cls d y sg env en r hmm => ?_⟩
    obtain ⟨b, e1, e2, e3⟩ := hmm
    obtain ⟨Cx, dd, gs, rfl, q1, q2, q3, q4, q5⟩ := id r
    refine ⟨b, S _ _ _ _ _ e1 q1 hm, fun hb a ha => ?_, fun hb => h2 σ ρ s t po Dn _ d y sg env en r (e3 hb)⟩
    exact ⟨_, t, _, rfl, EnvR.setX env.hz r, e2 hb, en.toSuite sg⟩
/-- try: e / except .. -/
def mTryE (sub : Str → Str → Option Bool) (l : List Hd) (m : ME) : MS := fun ρ c po => m ρ c (fun _ c => po.nx ρ c) (fun x c => mHs sub l x ρ c po)
theorem Fin.hs {sub : Str → Str → Option Bool} {hds : List ExceptHandler} {l : List Hd} {L : List Cl} {s : Sx} {σ : L2.St} {ρ : Rho} {po : Po} {Dn : Ends} (env : EnvR j.g j.H0 s σ ρ) (en : EndsR j om s po Dn)
    (h : ∀ (σ : L2.St) (ρ : Rho) (s t : Sx) (po : Po) (Dn : Ends) (cls : Value) (d : Option Addr) (x : XC), Sg j s t → EnvR j.g j.H0 t σ ρ → EndsR j om s po Dn → XcR j.g t cls d x → mHs sub l x ρ t.c po → wMix j.X.K j.W Dn L cls d σ t.H) :
    Fin ⟨j.X, j.T, j.H0, wMix j.X.K j.W Dn L⟩ s σ (fun x c => mHs sub l x ρ c po) := fun x c hx cls dd t e ec r => by
  subst ec
  have e' : Gr j.g s t := e
  exact h σ ρ s t po Dn cls dd x (Sg.of e' env.h0) (env.to e') en r hx
theorem rs_tryE {sub : Str → Str → Option Bool} {h₀ : ExceptHandler} {hds : List ExceptHandler} {l : List Hd} {p pos : Pos} (S : SubOk j.X.K j.X.mg sub) (hs : j.X.stack = j.X.env :: j.X.outer) (hf : j.X.env.frame = some j.X.env.locals) (tk : Takes j.X j.W)
    (hb : ∀ (W : WX) (pn : List (Addr × Obj)) (xe : Value → Shared → Prop), Takes (j.X.tr pn xe) W → PassesOwn (model j.X.prog j.X.w) j.X.A j.X.env xe → RE (j.tr pn xe W) k e m) (hh : RHs j om (h₀ :: hds) l) (hsw : swapsWith e none p.line j.X.env = pure false := by rfl) :
    RS j om (.Try [.Expr e p] (h₀ :: hds) [] [] pos) (mTryE sub l m) := by
  obtain ⟨L, h1, h2⟩ := hh.read S
  refine ⟨(ps_try_mix (tb := fun W => tDrop (tOf ⟨j.X, j.T, j.H0, W⟩ (RV k j.g) m)) hs hf tk (fun W pn xe t1 t2 => pss_one (ps_expr (hb W pn xe t1 t2).pe hsw)) h1).imp fun Dn σ H ⟨ρ, s, po, eh, env, hm, en⟩ => ?_⟩
  subst eh
  exact ⟨ρ, s, _, _, rfl, env, hm, fun d c hd v t e ec r => en.nx _ _ hd _ t (Sg.of e env.h0) ec (env.to e), Fin.hs (hds := h₀ :: hds) env en h2⟩
/-- try: return e / except .. -/
def mTryR (sub : Str → Str → Option Bool) (l : List Hd) (m : ME) : MS := fun ρ c po => m ρ c po.rt (fun x c => mHs sub l x ρ c po)
theorem rs_tryR {sub : Str → Str → Option Bool} {h₀ : ExceptHandler} {hds : List ExceptHandler} {l : List Hd} {p pos : Pos} (S : SubOk j.X.K j.X.mg sub) (hs : j.X.stack = j.X.env :: j.X.outer) (hf : j.X.env.frame = some j.X.env.locals) (tk : Takes j.X j.W)
    (hb : ∀ (W : WX) (pn : List (Addr × Obj)) (xe : Value → Shared → Prop), Takes (j.X.tr pn xe) W → PassesOwn (model j.X.prog j.X.w) j.X.A j.X.env xe → RE (j.tr pn xe W) .val e m) (hh : RHs j false (h₀ :: hds) l) :
    RS j false (.Try [.Return (some e) p] (h₀ :: hds) [] [] pos) (mTryR sub l m) := by
  obtain ⟨L, h1, h2⟩ := hh.read S
  refine ⟨(ps_try_mix (tb := fun W => tRet (tOf ⟨j.X, j.T, j.H0, W⟩ (RV .val j.g) m)) hs hf tk (fun W pn xe t1 t2 => pss_one (ps_ret (hb W pn xe t1 t2).pe)) h1).imp fun Dn σ H ⟨ρ, s, po, eh, env, hm, en⟩ => ?_⟩
  subst eh
  exact ⟨ρ, s, _, _, rfl, env, hm, fun d c hd v t e ec r => en.rt _ _ hd _ t (Sg.of e env.h0) ec e.ok (env.to e).h0 (RV.ret (j := j) (s := s) r), Fin.hs (hds := h₀ :: hds) env en h2⟩
/-- try: x = e / except .. -/
def mTryA (sub : Str → Str → Option Bool) (l : List Hd) (i : Nat) (m : ME) : MS := fun ρ c po => m ρ c (fun d c => po.nx (ρ.set i (.val d)) c) (fun x c => mHs sub l x ρ c po)
theorem rs_tryA {sub : Str → Str → Option Bool} {h₀ : ExceptHandler} {hds : List ExceptHandler} {l : List Hd} {i : Nat} {st : Stmt} {pos : Pos} (S : SubOk j.X.K j.X.mg sub) (hs : j.X.stack = j.X.env :: j.X.outer) (hf : j.X.env.frame = some j.X.env.locals) (tk : Takes j.X j.W)
    (hst : ∀ (pn : List (Addr × Obj)) (xe : Value → Shared → Prop) {te : TE}, PE (j.X.tr pn xe) e te → PS (j.X.tr pn xe) st (tAsg te (gName i)))
    (hb : ∀ (W : WX) (pn : List (Addr × Obj)) (xe : Value → Shared → Prop), Takes (j.X.tr pn xe) W → PassesOwn (model j.X.prog j.X.w) j.X.A j.X.env xe → RE (j.tr pn xe W) .val e m) (hh : RHs j om (h₀ :: hds) l) :
    RS j om (.Try [st] (h₀ :: hds) [] [] pos) (mTryA sub l i m) := by
  obtain ⟨L, h1, h2⟩ := hh.read S
  refine ⟨(ps_try_mix (tb := fun W => tAsg (tOf ⟨j.X, j.T, j.H0, W⟩ (RV .val j.g) m) (gName i)) hs hf tk (fun W pn xe t1 t2 => pss_one (hst pn xe (hb W pn xe t1 t2).pe)) h1).imp fun Dn σ H ⟨ρ, s, po, eh, env, hm, en⟩ => ?_⟩
  subst eh
  exact ⟨ρ, s, _, _, rfl, env, hm, fun d c hd v t e ec r => en.nx _ _ hd _ t (Sg.of e env.h0) ec ((env.to e).set r), Fin.hs (hds := h₀ :: hds) env en h2⟩
/-- e.f, e the exception that the suite holds, of the class x -/
def mXf (i : Nat) (x f : Str) : ME := fun ρ c Q _ => match ρ[i]? with
  | some (.exc y) => y.1 = x ∧ ∃ d, y.2.lookup f = some d ∧ Q d c
  | _ => False
theorem re_xf {a : Addr} {oe : Obj} {cls : Value} {d : Option Addr} {pn : List (Addr × Obj)} {i : Nat} {C : Addr} {x f : Str} {n : Str} {p pos : Pos} (hm : j.X.mg x = some (.ref C)) (T : XfC j.X.K C) (hno : PySem.W.findIn j.X.K (.ref C) f = some none) (hz : Zc cls d oe) (hf : ∃ vs, oe.data = .fields vs)
    (hv : PE (j.suite a oe cls d pn).X (.Name n p) (tVar i)) (hb : attributeBase (.Name n p) f j.X.env (eval (.Name n p) j.X.env) = eval (.Name n p) j.X.env := by rfl) :
    RE (j.suite a oe cls d pn) .val (.Attribute (.Name n p) f pos) (mXf i x f) := ⟨(pe_xf (X := j.X) T hno hz hf hv hb).imp fun σ H Q ⟨ρ, s, P, E, eh, env, hmm, hvv, hx⟩ => by
  subst eh
  have q := env.sl i
  unfold mXf at hmm
  match hr : ρ[i]?, hmm with
  | some (.exc y), hmm =>
    rw [hr] at q
    obtain ⟨a', cls', d', e1, e2, C', dd, gs, e3, e4, e5, e6, e7, e8⟩ := q
    cases e1
    obtain ⟨ey, v, h1, h2⟩ := hmm
    obtain ⟨w, h3, h4⟩ := e8.lookup h1
    subst ey
    have ec : C' = C := by
      have z : j.X.mg y.1 = some (.ref C') := e4
      rw [hm] at z
      cases z
      rfl
    subst ec
    exact ⟨_, e2, rfl, e3, dd, gs, w, e5, (env.ok.fh _ _ e7 (fun _ z => nomatch z)).2 e6, h3, hvv v s.c h2 w s (Gr.refl env.ok) rfl h4⟩⟩
end
end Kq
set_option Elab.async false
set_option linter.all false
set_option maxRecDepth 100000
set_option maxHeartbeats 4000000
namespace Kq
open PySem PySem.Spec PyProof.Rows L2 LamX

/-! ### a lambda without parameters, handed to a def of one parameter that calls it -/
section
variable {X : Cx} {pins : List (Addr × Obj)} {σ : L2.St} {H : Hp} {s : Shared}
/-- the call of what was handed in; the wish of its exceptions may hang on the names at the call -/
theorem pe_actS {CXg : CXT} {Eg : XK} {Ng : List Str} {qg : Str} {sg : Scope} {g f c' : Addr} {cdg pm ctv : Value} {params : Arguments} {body : Expr} {scope : Scope} {k i : Nat} {a : Str} {Y : Cx} {W : WX} {tb : XK → TE} {p1 p2 : Pos}
    (I : Inv X pins σ H s) (L : LamS X.env.scope scope) (hf : s.heap.get? f = some (PySem.W.kla_obj "<lambda>" (X.env.qual ++ "<lambda>") params body scope (cloFrom X.env.cells scope.names []) pm c' ctv)) (hfn : H f = none) (hfr : f ∉ frs X.stack)
    (hbind : bindArgs (PySem.W.kla_fn "<lambda>" (X.env.qual ++ "<lambda>") params body scope (cloFrom X.env.cells scope.names []) pm (.ref c') ctv) ⟨[], []⟩ = pure [])
    {pn : List (Addr × Obj)} {xe : Value → Shared → Prop} (hY : Y = (cxOf CXg X.prog X.w X.K X.mg X.base Ng qg sg g cdg X.A X.stack s H Eg).tr pn xe) (tk : Takes Y W) (hr : Room (k + 1) (X.A.deeper (envOfC qg sg s.heap.objs.size g cdg)))
    (hbody : ∀ (A : Around) (outer : List PySem.Env) (s : Shared) (H : Hp) (E : XK), Room k (A.deeper (lamEnv X scope s.heap.objs.size f c')) → PE (lamCx X A outer s H E scope f c') body (tb E))
    (hN : Ng[i]? = some a) (hv : Vis sg a) (hd : (a == ("__debug__" : Str)) = false := by decide) (hcd : (a == ("__classdict__" : Str)) = false := by decide) :
    PE Y (.Call (.Name a p1) [] [] p2) (fun τ G Q => τ[i]? = some (some (.ref f)) ∧ G c' = some (CodeO c' (X.env.qual ++ "<lambda>")) ∧ tb (fun cls d H' => W cls d τ H') σ G Q) := by
  subst hY
  refine ⟨fun pinsZ t τ G Q J ⟨h1, h2, h3⟩ => ?_⟩
  have name := (pe_var (X := (cxOf CXg X.prog X.w X.K X.mg X.base Ng qg sg g cdg X.A X.stack s H Eg).tr pn xe) (pos := p1) (i := i) hN hv hd hcd).run pinsZ t τ G (fun v H1 => v = .ref f ∧ H1 = G) J ⟨.ref f, h1, rfl, rfl⟩
  refine wpAny_Call_Name_kw (thn name fun u t1 ⟨v, G1, J1, r1, ev, eG⟩ => ?_)
  subst ev eG
  cases r1
  have there := J1.base.keep f _ hf hfn hfr (fun z => nomatch (show f ∈ ([] : List Addr) from z))
  refine PySem.W.callWith_F0 ⟨_, _, _, _, there⟩ (wpAny_call (codeAny_mono (R := CR (L2.CX X.prog X.w) (envOfC qg sg s.heap.objs.size g cdg :: X.stack) X.prog X.w G1 t1 Q (fun cls d H' => W cls d τ H')) ?_ fun r t2 hq => ?_))
  · show codeAny (model X.prog X.w) (X.A.deeper (envOfC qg sg s.heap.objs.size g cdg)) (.call (.ref f) ⟨[], []⟩) _ _
    obtain ⟨oc, vs, tk', e1, e2, e3⟩ := (J1.hok c' _ h2).1
    refine PySem.W.kla_callFunE hr.depth there rfl L.co L.gen rfl ⟨c', oc, vs, tk', rfl, e1, e2, e3⟩ ?_
    rw [hbind]
    refine wpAny_pure (wpAny_newFunctionEnv (fun y hy => (L.own y hy).2) (fun y hy => absurd hy (by simp)) (fun h₁ hns hsb => ⟨J1.nolimit.fresh _ hsb, ?_⟩) L.kind)
    have kp : ∀ b o, t1.heap.get? b = some o → h₁.get? b = some o := fun b o e => hsb.extBut b o (Nat.ne_of_lt (Heap.lt_size e)) (Heap.get?_push_of_some _ e)
    have In := lam_start2 (f := f) (c' := c') (E := fun cls d H' => W cls d τ H') (tk := t1.toks + ([] : List (Str × Value)).length) I L J1.env0 hr.hd J1.base hns kp
    exact PySem.W.kla_codeExpr (wpAny_mono ((hbody _ _ t1 G1 _ (hr.deeper _)).run [] _ _ G1 Q In h3) (fun v t' ⟨w', G', K', rv, q⟩ => ⟨w', G', K'.os, K'.bare, K'.base, K'.hok, rv, q⟩) fun _ _ hq => hq)
  · match r, hq with
    | .error e, hq => exact passAt tk τ pinsZ G1 t1 e t2 J1 hq
    | .ok (.ret u), hq => exact J1.after hq
/-- x(lambda: body) -/
theorem pe_lamS {T : List (Addr × Str)} {x a : Str} {g c P : Addr} {k : Nat} {pg : Arguments} {bg : List Stmt} {sg : Scope} {dV kV doc pm cdv ct oc : Value} {an od : Option Addr} {osl : Array (Option Value)} {Ng : List Str}
    {params : Arguments} {body : Expr} {scope : Scope} {p lpos pos : Pos} {tt : TE} (hg : Gl X x) (hm : X.mg x = some (.ref g)) (hk : PySem.W.keepIn X.K (.ref g) = true)
    (lk : X.K.lookup g = some ⟨oc, od, .func (PySem.W.fnOf x x pg bg sg dV kV doc pm an cdv ct), osl⟩) (hcg : PySem.W.codeIn X.K cdv x = true) (hb : L2.Binds X.K (PySem.W.fnOf x x pg bg sg dV kV doc pm an cdv ct) [a] []) (Sg : FnScope Ng [a] sg)
    (TB : TabB X.base X.mg c P) (hcode : X.env.code = .ref c) (hmT : (P, X.env.qual ++ "<lambda>") ∈ T) (hu : ∀ p ∈ T, p.1 = P → p.2 = X.env.qual ++ "<lambda>") (hr : Room (k + 2) X.A) (L : LamS X.env.scope scope) (hdef : defaultsOf params X.env = ([], []))
    (hT : ∀ σ H Q, tt σ H Q → Tabs T H)
    (hG : ∀ (σ : L2.St) (H : Hp) (Q : VK) (pins : List (Addr × Obj)) (s' : Shared) (f c' : Addr) (pm' ctv : Value) (H1 : Hp), tt σ H Q → Inv X pins σ H1 s' → ExtN H H1 → Tabs T H1 → s'.heap.get? f = some (PySem.W.kla_obj "<lambda>" (X.env.qual ++ "<lambda>") params body scope (cloFrom X.env.cells scope.names []) pm' c' ctv) →
      H1 f = none → f ∉ frs X.stack → H1 c' = some (CodeO c' (X.env.qual ++ "<lambda>")) → Room (k + 1) (X.A.deeper (envOfC x sg s'.heap.objs.size g cdv)) →
      ∃ tz, PSs (cxOf C8.CX0 X.prog X.w X.K X.mg X.base Ng x sg g cdv X.A X.stack s' H1 C8.E0).nox bg tz ∧ tz { nx := fun _ H' => Q .non H', rt := Q } (L2.start Ng [.ref f]) H1)
    (hdb : (x == ("__debug__" : Str)) = false := by decide) : PE X (.Call (.Name x p) [.Lambda params body scope lpos] [] pos) tt := by
  refine ⟨fun pins s σ H Q I h => wpAny_Call_Name_kw (ld_glob I hg hm ?_ hdb)⟩
  refine PySem.W.callWith_K (h₀ := X.base) I.ok.mod.kin hk ?_ (by rfl) (by rfl)
  show wpAny _ _ (spliced ((false, eval (.Lambda params body scope lpos) X.env) :: backTo pos (starEach [] X.env))) _ _ s
  refine Calls.spliced_cons (lam_make2 I TB hcode hmT hu (hT σ H Q h) hdef (L.has I.ok) fun f c' pm' ctv H1 s' I1 eN T1 hf hfn hfr hco => Calls.spliced_nil ⟨I1.kIn, ?_⟩)
  refine wpAny_call (codeAny_mono (R := CR C8.CX0 X.stack X.prog X.w H1 s' Q C8.E0) ?_ fun r s2 hq => ?_)
  · refine run_ofS (N := Ng) (ps := [a]) (us := [.ref f]) (vs := [.ref f]) lk hcg Sg hr I1.env0 (hb s' [.ref f] I1.kIn rfl) (.cons rfl .nil) rfl fun hr' => ?_
    obtain ⟨tz, h1, h2⟩ := hG σ H Q pins s' f c' pm' ctv H1 h I1 eN T1 hf hfn hfr hco hr'
    exact ⟨tz, h1.nox, h2⟩
  · match r, hq with
    | .error e, hq => exact (show False from hq).elim
    | .ok (.ret u), hq => exact I1.after hq
end

/-! ### by data -/
/-- the names behind the lambda are the outer def's; x() runs b -/
def mAct (i : Nat) (b : M D) : ME := fun ρ c Q E => match ρ[i]? with
  | some .lam => b c Q E
  | _ => False
def jLam (j : J) (A : Around) (outer : List PySem.Env) (s : Shared) (H : Hp) (E : XK) (scope : Scope) (f c' : Addr) : J := ⟨lamCx j.X A outer s H E scope f c', j.T, j.H0, fun cls d _ H' => E cls d H'⟩
def jGot (j : J) (Ng : List Str) (x : Str) (sg : Scope) (g : Addr) (cdg : Value) (s : Shared) (z : Hz) : J := ⟨(cxOf C8.CX0 j.X.prog j.X.w j.X.K j.X.mg j.X.base Ng x sg g cdg j.X.A j.X.stack s z.s.H C8.E0).nox, j.T, z, fun _ _ _ _ => False⟩
/-- what the def that gets the lambda makes of it -/
def mLam (n : Nat) (mz : M D → MS) (mb : ME) : ME := fun ρ c Q _ => mz (mb ρ) (.lam :: List.replicate n .no) c ⟨fun _ c => Q .non c, Q, fun _ _ => False, fun _ _ => False, fun _ _ => False⟩
/-- the def at g as a taker of lambdas -/
structure GotOk (P : Program) (w : World) (K : PySem.W.Frag) (mg : Str → Option Value) (base : Heap) (T : List (Addr × Str)) (x : Str) (n : Nat) (mz : M D → MS) : Prop where
  ex : ∃ (g : Addr) (pg : Arguments) (bg : List Stmt) (sg : Scope) (dV kV doc pm cdv ct oc : Value) (an od : Option Addr) (osl : Array (Option Value)) (Ng : List Str) (a : Str), mg x = some (.ref g) ∧ PySem.W.keepIn K (.ref g) = true ∧
    K.lookup g = some ⟨oc, od, .func (PySem.W.fnOf x x pg bg sg dV kV doc pm an cdv ct), osl⟩ ∧ PySem.W.codeIn K cdv x = true ∧ L2.Binds K (PySem.W.fnOf x x pg bg sg dV kV doc pm an cdv ct) [a] [] ∧ FnScope Ng [a] sg ∧ Ng = a :: Ng.tail ∧ Ng.length = n + 1 ∧ Vis sg a ∧
    (a == ("__debug__" : Str)) = false ∧ (a == ("__classdict__" : Str)) = false ∧
    ∀ (j : J) (s : Shared) (z : Hz) (b : M D), j.X.prog = P → j.X.w = w → j.X.K = K → j.X.mg = mg → j.X.base = base → j.T = T →
      (∀ (W : WX) (pn : List (Addr × Obj)) (xe : Value → Shared → Prop) (p1 p2 : Pos), Takes ((jGot j Ng x sg g cdv s z).X.tr pn xe) W → RE ((jGot j Ng x sg g cdv s z).tr pn xe W) .val (.Call (.Name a p1) [] [] p2) (mAct 0 b)) → RSs (jGot j Ng x sg g cdv s z) false bg (mz b)
section
variable {j : J} {n : Nat} {mz : M D → MS} {mb : ME} {x : Str} {c P : Addr} {k : Nat} {params : Arguments} {body : Expr} {scope : Scope} {p lpos pos : Pos}
theorem re_lam (G : GotOk j.X.prog j.X.w j.X.K j.X.mg j.X.base j.T x n mz) (hg : Gl j.X x) (TB : TabB j.X.base j.X.mg c P) (hcode : j.X.env.code = .ref c) (hmT : (P, j.X.env.qual ++ "<lambda>") ∈ j.T) (hu : ∀ p ∈ j.T, p.1 = P → p.2 = j.X.env.qual ++ "<lambda>") (hr : Room (k + 2) j.X.A)
    (L : LamS j.X.env.scope scope) (hdef : defaultsOf params j.X.env = ([], [])) (hbind : ∀ (q : Str) (cl : List (Str × Addr)) (pm cv ctv : Value), bindArgs (PySem.W.kla_fn "<lambda>" q params body scope cl pm cv ctv) ⟨[], []⟩ = pure [])
    (hbody : ∀ (A : Around) (outer : List PySem.Env) (s : Shared) (H : Hp) (E : XK) (f c' : Addr), Room k (A.deeper (lamEnv j.X scope s.heap.objs.size f c')) → RE (jLam j A outer s H E scope f c') .val body mb) (hdb : (x == ("__debug__" : Str)) = false := by decide) :
    RE j .val (.Call (.Name x p) [.Lambda params body scope lpos] [] pos) (mLam n mz mb) := by
  obtain ⟨g, pg, bg, sg, dV, kV, doc, pm, cdv, ct, oc, an, od, osl, Ng, a, hm, hk, lk, hcg, hb, Sg, hNg, hlN, hva, hd, hcd, hG⟩ := G.ex
  refine ⟨pe_lamS hg hm hk lk hcg hb Sg TB hcode hmT hu hr L hdef (fun σ H Q ⟨ρ, s, _, _, eh, env, _⟩ => eh ▸ env.ok.tb) (fun σ H Q pins s' f c' pm' ctv H1 h I1 eN T1 hf hfn hfr hco hr' => ?_) hdb⟩
  obtain ⟨ρ, s, Pd, Ex, eh, env, hm, hv, hx⟩ := h
  subst eh
  have nT : ∀ {a o}, s.H a = some o → NT o → H1 a = some o := fun e n => eN _ _ e n
  obtain ⟨u, hu1, hu2⟩ := env.ok.pe
  have ok1 : Ok j.g { s with H := H1 } := by
    refine ⟨env.ok.fh.trans (Xt.ofN eN), env.ok.ft, T1, fun hp => ?_, ⟨u, nT hu1 hu2.1, hu2⟩⟩
    obtain ⟨l, y, d, f, m, ns, h1, r⟩ := env.ok.pn hp
    exact ⟨l, y, d, f, m, ns, nT h1 (fun _ z => nomatch z), r⟩
  have g1 : Gr j.g s { s with H := H1 } := ⟨rfl, Xt.refl _ _, Xt.ofN eN, fun _ _ _ _ h => h, ok1⟩
  have act := hG j s' ⟨{ s with H := H1 }, none, some (f, c', j.X.env.qual ++ "<lambda>")⟩ (mb ρ) rfl rfl rfl rfl rfl rfl
  refine ⟨_, (act fun W pn xe p1 p2 tk => ⟨?_⟩).ps, ?_⟩
  · refine (pe_actS (CXg := C8.CX0) (Eg := C8.E0) (Ng := Ng) (i := 0) (tb := fun E => tOf ⟨j.X, j.T, j.H0, fun cls d _ H' => E cls d H'⟩ (RV .val j.g) mb) I1 L hf hfn hfr (hbind _ _ _ _ _) rfl tk hr' (fun A outer s H E hr2 => (hbody A outer s H E f c' hr2).pe) (by rw [hNg]; rfl) hva hd hcd).imp fun τ G' Q' ⟨ρz, sz, Pz, Ez, ez, envz, hmz, hvz, hxz⟩ => ?_
    subst ez
    have q := envz.sl 0
    unfold mAct at hmz
    match hr : ρz[0]?, hmz with
    | some .lam, hmz =>
      rw [hr] at q
      obtain ⟨f', c2, q2, e1, e2⟩ := q
      cases e1
      have gz : Gr j.g { s with H := H1 } sz := envz.gr
      have nc : c' ≠ s.p := fun z => by
        rw [z, nT hu1 hu2.1] at hco
        exact hu2.2 _ _ (Option.some.inj hco)
      refine ⟨e2, (gz.hh _ _ hco (fun ps z => codeO_ne ps z)).2 nc, ρ, sz, Pz, Ez, rfl, env.to (g1.trans gz), hmz, hvz, ?_⟩
      exact hxz
  · refine ⟨.lam :: List.replicate n .no, { s with H := H1 }, _, rfl, ⟨Gr.refl ok1, ?_, fun i => ?_, fun i l m h1 => ?_⟩, hm, ⟨fun ρ' c q σ' t sg ec env' => ?_, fun d c q v t sg ec ok h0 rr => ?_, fun _ _ z => z.elim, fun _ _ z => z.elim, fun _ _ z => z.elim⟩⟩
    · rw [hNg]
      unfold L2.start
      simp only [List.length_append, List.length_map, List.length_cons, List.length_nil, List.length_replicate]
      have := congrArg List.length hNg
      simp only [List.length_cons] at this
      omega
    · match i with
      | 0 => exact ⟨f, c', _, rfl, rfl⟩
      | i + 1 =>
        rw [List.getElem?_cons_succ, List.getElem?_replicate]
        split <;> exact True.intro
    · match i with
      | 0 => cases h1
      | i + 1 =>
        rw [List.getElem?_cons_succ, List.getElem?_replicate] at h1
        split at h1 <;> cases h1
    · have sg' : Gr j.g { s with H := H1 } t := env'.gr
      exact hv _ _ q .non t (g1.trans sg') ec Rp.non
    · have g2 : Gr j.g { s with H := H1 } t := ⟨sg.p, sg.ff, sg.p ▸ h0, sg.ap, ok⟩
      refine hv _ _ q v t (g1.trans g2) ec ?_
      unfold RetR at rr
      rw [if_neg Bool.false_ne_true] at rr
      exact rr
end
end Kq
set_option Elab.async false
set_option linter.all false
set_option maxRecDepth 100000
set_option maxHeartbeats 4000000
namespace Kq
open PySem PySem.Spec PyProof.Rows L2 LamX

section
variable {j : J} {k ka kb : Kd} {ks : List Kd} {e a b : Expr} {es : List Expr} {m ma mb : ME} {mas : MA}
/-! ### names of the module and of the built-ins, as values -/
theorem re_gl {x : Str} {f : Addr} {pos : Pos} (hg : Gl j.X x) (hm : j.X.mg x = some (.ref f)) (hdb : (x == ("__debug__" : Str)) = false := by decide) : RE j .val (.Name x pos) (mC (.gl x)) := re_c (pe_glob (v := .ref f) hg hm rfl hdb) fun _ _ => .gl hm
theorem re_ty {x : Str} {n : String} {pos : Pos} (hg : Gl j.X x) (hm : j.X.mg x = none) (hv : bootBuiltins x = some (.type n)) (hn : x ≠ "__name__" := by decide) (hdb : (x == ("__debug__" : Str)) = false := by decide) : RE j .val (.Name x pos) (mC (.ty n)) :=
  re_c (pe_bltn (v := .ty n) hg hm hv rfl hn hdb) fun _ _ => .ty n
/-! ### isinstance, built-in types -/
def tyN : D → Option String
  | .non => some "NoneType" | .bl _ => some "bool" | .int _ => some "int" | .str _ => some "str" | .tup _ => some "tuple" | .lst _ => some "list" | .dic => some "dict" | .dct _ => some "dict"
  | _ => none
theorem tyx_of {s t : Sx} {v : V} {d : D} {n : String} (h : RV k j.g s t v d) (o : Ok j.g t) (e : tyN d = some n) : TyX j.g.K t.H v (.type n) := by
  have h' := h.atH o
  clear h
  cases h' <;> first | (cases e; exact .base .non) | (cases e; exact .base (.bl _)) | (cases e; exact .base (.int _)) | (cases e; exact .base (.str _)) | skip
  case tup a xs ds h r =>
    cases e
    rcases h with ⟨_, h | ⟨o, h⟩⟩ | ⟨o, its, n, h1, h2, _⟩
    · exact .base (.tup h)
    · exact .fTuple h
    · exact .kTuple h1 h2
  case lst a xs ds h r =>
    cases e
    exact .base (.lst h.2)
  case dic a kvs hn h =>
    cases e
    exact .base (.dK h)
  case dct a gs kvs hn h hk r =>
    cases e
    exact .base (.dK h)
  all_goals cases e
def dIsi : List D → M D
  | [d, .ty n] => fun c Q _ => ∃ t r, tyN d = some t ∧ kitB t n = some r ∧ Q (.bl r) c
  | _ => stuck
theorem cam_isi : CaM j.g ks .val (rIsi j.g.K) dIsi := by
  intro s1 t xs ds P E Q hx o hm hq
  match ds, hm with
  | [d, .ty n], hm =>
    obtain ⟨tt, r, e1, e2, e3⟩ := hm
    obtain ⟨k1, x, k2, y, rfl, h1, h2⟩ := inv_rvs2 hx
    have ey : y = .ty n := by
      cases h2.rp (fun _ z => nomatch z) with
      | ty => rfl
    subst ey
    exact ⟨x, .ty n, .type tt, .type n, r, rfl, .ty n, tyx_of h1 o e1, kit_ty e2, hq _ _ e3 _ t (Gr.refl o) rfl (Rp.bl _)⟩
/-! ### repr -/
def dRepr : List D → M D
  | [.bl b] => ret (.str (if b then "True" else "False"))
  | [.int i] => grd (i.natAbs.log2 < 1920) (ret (.str (toString i : String)))
  | _ => stuck
def rReprA : List V → Hp → VK → Prop := fun xs H Q => (∃ i, xs = [.int i] ∧ i.natAbs.log2 < 1920 ∧ Q (.str (toString i)) H) ∨ ∃ b, xs = [.bl b] ∧ Q (.str (if b then "True" else "False")) H
theorem call_repr_bl {X : Cx} : CallR X (.builtin "repr") (fun xs H Q => ∃ b, xs = [.bl b] ∧ Q (.str (if b then "True" else "False")) H) := by
  intro pins s σ H xs us Q I r h
  obtain ⟨b, rfl, q⟩ := h
  obtain ⟨u, rfl, r1⟩ := vals1 r
  cases r1
  exact PySem.P.repr_of_bool ⟨.str _, H, I.tok _, ⟨_, rfl⟩, q⟩
theorem call_reprA {X : Cx} : CallR X (.builtin "repr") rReprA := CallR.or SkE.call_repr_int call_repr_bl
theorem cam_repr : CaM j.g ks .val rReprA dRepr := by
  intro s1 t xs ds P E Q hx o hm hq
  match ds, hm with
  | [.bl b], hm =>
    obtain ⟨k1, x, rfl, h⟩ := inv_rvs1 hx
    exact .inr ⟨b, by rw [inv_bl h], hq _ _ hm _ t (Gr.refl o) rfl (Rp.str _)⟩
  | [.int i], hm =>
    obtain ⟨k1, x, rfl, h⟩ := inv_rvs1 hx
    exact .inl ⟨i, by rw [inv_int h], hm.1, hq _ _ hm.2 _ t (Gr.refl o) rfl (Rp.str _)⟩
/-! ### is False, is not True -/
def dIsB (n : Bool) : D → D → M D
  | .bl a, .bl b => ret (.bl (n ^^ decide (a = b)))
  | _, _ => stuck
def rIsBA (n : Bool) : R2 := fun x y H Q => ∃ a b : Bool, x = .bl a ∧ y = .bl b ∧ Q (.bl (n ^^ decide (a = b))) H
theorem op_isBA {X : Cx} : OpR X (compareOp .Is) (rIsBA false) := fun pins s σ H x y v u Q I rx ry ⟨a, b, h1, h2, h⟩ => op_isBl pins s σ H x y v u Q I rx ry ⟨a, b, h1, h2, by rw [xor_f] at h; exact h⟩
theorem op_isnBA {X : Cx} : OpR X (compareOp .IsNot) (rIsBA true) := fun pins s σ H x y v u Q I rx ry ⟨a, b, h1, h2, h⟩ => op_notBl pins s σ H x y v u Q I rx ry ⟨a, b, h1, h2, by rw [xor_t] at h; exact h⟩
theorem opm_isB {g : Gx} {n : Bool} : OpM g ka kb .val (rIsBA n) (dIsB n) := by
  intro s1 s2 t x y dx dy P E Q hx hy o hm hq
  match dx, dy, hm with
  | .bl a, .bl b, hm => exact ⟨a, b, inv_bl hx, inv_bl hy, hq _ _ hm _ t (Gr.refl o) rfl (Rp.bl _)⟩
end

/-! ### a def of the module, bundled -/
structure Cal (P : Program) (w : World) (K : PySem.W.Frag) (mg : Str → Option Value) (base : Heap) (T : List (Addr × Str)) (x : Str) (k : Nat) (ks : List Kd) (om : Bool) (mf : FM) : Prop where
  ex : ∃ (f : Addr) (fd : FuncData) (ps : List Str), mg x = some (.ref f) ∧ PySem.W.keepIn K (.ref f) = true ∧ Binds K fd ps [] ∧ FnOk P w K mg base (L2.CX P w) k f fd ps (spOf ⟨P, w, K, mg, T⟩ ks om mf)
/-- what the text says of a def -/
structure Df (K : PySem.W.Frag) (mg : Str → Option Value) (x name : Str) (st : Stmt) (ps : List Str) : Prop where
  ex : ∃ (f : Addr) (fd : FuncData), mg x = some (.ref f) ∧ Fun K name name st f fd ∧ Binds K fd ps []
section
variable {j : J} {k n : Nat} {ks : List Kd} {om : Bool} {mf : FM} {e : Expr} {es : List Expr} {mas : MA} {x : Str} {p pos : Pos}
theorem re_cal (G : Cal j.X.prog j.X.w j.X.K j.X.mg j.X.base j.T x k ks om mf) (hr : Room n j.X.A) (hk : k ≤ n) (tk : Takes j.X j.W) (hg : Gl j.X x) (ha : RA j ks (e :: es) mas)
    (hdb : (x == ("__debug__" : Str)) = false := by decide) (he : starEach (e :: es) j.X.env = (false, eval e j.X.env) :: starEach es j.X.env := by rfl) (hpl : (backTo pos (starEach es j.X.env)).any (·.1) = false := by rfl) :
    RE j (rk om) (.Call (.Name x p) (e :: es) [] pos) (mCall mf mas) := by
  obtain ⟨f, fd, ps, hm, kp, hb, F⟩ := G.ex
  exact re_fn F (hr.mono hk) hg hm kp hb tk ha hdb he hpl
/-! ### a def that a name holds -/
/-- the defs that may be called so: their names and what they do -/
abbrev CalT := List (Str × FM)
def mCalV (i : Nat) (ct : CalT) (ma : MA) : ME := fun ρ c Q E => match ρ[i]? with
  | some (.val (.gl x)) => ∃ mf, ct.lookup x = some mf ∧ ma ρ c (fun ds c => mf ds c Q E) E
  | _ => False
theorem re_calV {ct : CalT} {i : Nat} (G : ∀ y mf, ct.lookup y = some mf → Cal j.X.prog j.X.w j.X.K j.X.mg j.X.base j.T y k ks false mf) (hr : Room n j.X.A) (hk : k ≤ n) (tk : Takes j.X j.W) (hv : PE j.X (.Name x p) (tVar i)) (ha : RA j ks (e :: es) mas)
    (he : starEach (e :: es) j.X.env = (false, eval e j.X.env) :: starEach es j.X.env := by rfl) (hpl : (backTo pos (starEach es j.X.env)).any (·.1) = false := by rfl) :
    RE j .val (.Call (.Name x p) (e :: es) [] pos) (mCalV i ct mas) := by
  refine ⟨⟨fun pins s0 σ H Q I h => ?_⟩⟩
  obtain ⟨ρ, s, P, E, eh, env, hm, hvv, hx⟩ := h
  subst eh
  have q := env.sl i
  unfold mCalV at hm
  match hrr : ρ[i]?, hm with
  | some (.val (.gl y)), hm =>
    rw [hrr] at q
    obtain ⟨v, e1, e2⟩ := q
    cases e2 with
    | @gl f _ hf =>
      obtain ⟨mf, l, hma⟩ := hm
      obtain ⟨f', fd, ps, hf', kp, hb, F⟩ := (G y mf l).ex
      have ef : f' = f := by
        have z := hf'.symm.trans hf
        cases z
        rfl
      subst ef
      refine wpAny_Call_Name_kw (thn (hv.run pins s0 σ s.H (fun v H1 => v = .ref f' ∧ H1 = s.H) I ⟨.ref f', e1, rfl, rfl⟩) fun u s1 ⟨v, H1, I1, r1, ev, eH⟩ => ?_)
      subst ev eH
      cases r1
      refine PySem.W.callWith_K (h₀ := j.X.base) I.ok.mod.kin kp (thn (ha.pa.run pos pins s1 σ s.H (fun vs' H' => spOf j.g ks false mf vs' H' Q (WE j.W σ)) I1 ⟨ρ, s, fun ds c => mf ds c P E, E, rfl, env, hma, fun ds c hd vs t ge ec r => ?_, hx⟩) fun us s2 ⟨vs, H2, I2, r, q⟩ => ⟨I2.kIn, ?_⟩) he hpl
      · show spOf j.g ks false mf vs t.H Q (WE j.W σ)
        subst ec
        exact ⟨r.length.1, s, t, ds, P, E, rfl, ge.ok, r, hd, fun d c hd v u eu ec rr => hvv d c hd v u (ge.trans eu) ec (rr.back ge), fun x c q cls dd u eu ec rr => hx x c q cls dd u (ge.trans eu) ec rr⟩
      · exact run_fnS (E := WE j.W) F (hr.mono hk) hb (passAt tk σ) I2 r q
end
end Kq
set_option Elab.async false
set_option linter.all false
set_option maxRecDepth 100000
set_option maxHeartbeats 4000000
namespace Kq
open PySem PySem.Spec PyProof.Rows L2 LamX

/-! ### a comprehension that is stored and not changed -/
section
variable {j : J} {om : Bool} {st : Stmt} {i : Nat} {mi : MA} {f : D → Rho → Option Rho} {tt : MB} {el : ME} {vs : List Nat}
theorem rs_lcF (h : RS j om st (mSetO i (mLc mi f tt el vs))) : RS j om st (mSet i (mLc mi f tt el vs)) := ⟨h.ps.imp fun Dn σ H ⟨ρ, s, po, eh, env, hm, en⟩ => by
  subst eh
  refine ⟨ρ, s, { po with nx := fun ρ c => mFrz i mNext ρ c po }, rfl, env, ?_, ⟨fun ρ' c q σ t sg ec env' => ?_, en.rt, en.bk, en.ct, en.ex⟩⟩
  · have e : (fun (ys : List D) (c : Nat) => mFrz i mNext (ρ.set i (.own ys)) c po) = fun ys c => po.nx (ρ.set i (.val (.lst ys))) c := by
      funext ys c
      unfold mFrz
      by_cases hi : i < ρ.length
      · rw [List.getElem?_set_self hi]
        show po.nx ((ρ.set i _).set i _) c = _
        rw [List.set_set]
      · rw [List.getElem?_eq_none (by rw [List.length_set]; omega)]
        show po.nx (ρ.set i _) c = _
        rw [List.set_eq_of_length_le (by omega), List.set_eq_of_length_le (by omega)]
    show mi ρ s.c (fun ds c => lcD f tt el (mwipe ρ vs) ds [] c (fun (ys : List D) (c : Nat) => mFrz i mNext (ρ.set i (.own ys)) c po)) po.ex
    rw [e]
    exact hm
  · subst ec
    obtain ⟨ρ2, s2, po2, e1, e2, e3, e4⟩ := sOf_frz (j := j) (om := om) (i := i) (ms := mNext) (Dn := Dn) (σ := σ) (H := t.H) ⟨ρ', t, po, rfl, env', q, en.sg sg⟩
    rw [← e1]
    exact e4.nx _ _ e3 σ s2 Sg.refl rfl e2⟩
end
/-! ### bundles -/
theorem Df.gl {K : PySem.W.Frag} {mg : Str → Option Value} {x name : Str} {st : Stmt} {ps : List Str} (d : Df K mg x name st ps) : ∃ f, mg x = some (.ref f) := let ⟨f, _, h, _⟩ := d.ex; ⟨f, h⟩
section
variable {P : Program} {w : World} {K : PySem.W.Frag} {mg : Str → Option Value} {base : Heap} {T : List (Addr × Str)}
theorem Cal.up {x : Str} {k k' : Nat} {ks : List Kd} {om : Bool} {mf : FM} (h : Cal P w K mg base T x k ks om mf) (hk : k ≤ k') : Cal P w K mg base T x k' ks om mf := by
  obtain ⟨f, fd, ps, hm, kp, hb, F⟩ := h.ex
  exact ⟨f, fd, ps, hm, kp, hb, F.len, fun A outer s H args us vs Q E hr => F.run A outer s H args us vs Q E (hr.mono hk)⟩
theorem lookCal {y : Str} {mf : FM} {ct : CalT} {R : Str → FM → Prop} (h : ct.lookup y = some mf) (a : ∀ q ∈ ct, R q.1 q.2) : R y mf := by
  induction ct with
  | nil => cases h
  | cons q ct ih =>
    obtain ⟨z, g⟩ := q
    by_cases e : (y == z) = true
    · simp only [List.lookup, e] at h
      cases h
      have := beq_iff_eq.mp e
      subst this
      exact a (y, mf) List.mem_cons_self
    · have e' : (y == z) = false := by simpa using e
      simp only [List.lookup, e'] at h
      exact ih h fun q hq => a q (List.mem_cons_of_mem _ hq)
/-- what the text says of an own exception class with its own __init__ -/
structure XcT (K : PySem.W.Frag) (mg : Str → Option Value) (x qual : Str) (st : Stmt) (ps fs : List Str) : Prop where
  ex : ∃ (C fI : Addr) (fd : FuncData), mg x = some (.ref C) ∧ OexC K C ∧ XfC K C ∧ (∀ f ∈ fs, PySem.W.findIn K (.ref C) f = some none) ∧ PySem.W.findIn K (.ref C) "__init__" = some (some (.ref fI)) ∧ PySem.W.typeIn K (.ref fI) = some (.type "function") ∧
    Binds K fd ps [] ∧ Fun K "__init__" qual st fI fd
noncomputable def XcT.C {x qual : Str} {st : Stmt} {ps fs : List Str} (h : XcT K mg x qual st ps fs) : Addr := h.ex.choose
theorem XcT.mgC {x qual : Str} {st : Stmt} {ps fs : List Str} (h : XcT K mg x qual st ps fs) : mg x = some (.ref h.C) := let ⟨_, _, a, _⟩ := h.ex.choose_spec; a
theorem XcT.xf {x qual : Str} {st : Stmt} {ps fs : List Str} (h : XcT K mg x qual st ps fs) : XfC K h.C := let ⟨_, _, _, _, a, _⟩ := h.ex.choose_spec; a
theorem XcT.no {x qual : Str} {st : Stmt} {ps fs : List Str} (h : XcT K mg x qual st ps fs) (f : Str) (hf : f ∈ fs) : PySem.W.findIn K (.ref h.C) f = some none := let ⟨_, _, _, _, _, a, _⟩ := h.ex.choose_spec; a f hf
/-- the base of the own exceptions -/
def CeT (K : PySem.W.Frag) (mg : Str → Option Value) (x : Str) : Prop := ∃ (C0 : Addr) (mc : Value), mg x = some (.ref C0) ∧ Ce K C0 mc

/-! ### the law: its first statement makes the pen -/
structure FnD (K : PySem.W.Frag) (x qual : Str) (st : Stmt) (f : Addr) (fd : FuncData) (cdv : Value) : Prop where
  ex : ∃ (oc : Value) (od : Option Addr) (kV doc pm : Value) (an : Option Addr) (ct : Value) (osl : Array (Option Value)),
    fd = PySem.W.fnOf x qual (defArgs st) (defBody st) (defScope st) .none kV doc pm an cdv ct ∧ K.lookup f = some ⟨oc, od, .func fd, osl⟩ ∧ PySem.W.codeIn K cdv qual = true
def spLaw (K : PySem.W.Frag) (T : List (Addr × Str)) : Sp := fun vs H Q _ => ∃ (a : Addr) (ns : List Int), vs = [.ref a] ∧ SqL K H a (ns.map V.int) ∧ Cells ns ∧ Tabs T H ∧ ∀ H', Q (.bl true) H'
def rhoL (n : Nat) : Rho := .no :: .val .pen :: List.replicate n .no
def poL : Po := ⟨fun _ _ => False, fun d _ => d = .bl true, fun _ _ => False, fun _ _ => False, fun _ _ => False⟩
theorem law_ok {f fp : Addr} {fd fdp : FuncData} {cdv : Value} {st : Stmt} {rest : List Stmt} {N : List Str} {ms : MS} {k n : Nat} {q1 q2 q3 q4 q5 : Pos} (F : FnD K "law" "law" st f fd cdv) (S : FnScope N ["_law_script"] (defScope st)) (hN : N.length = n + 2) (hN0 : N[0]? = some ("_law_script" : Str)) (hN1 : N[1]? = some ("_law_pen_here" : Str))
    (hv0 : Vis (defScope st) "_law_script") (hl1 : Loc (defScope st) "_law_pen_here") (hs : defBody st = .Assign [.Name "_law_pen_here" q1] (.Call (.Name "_law_pen" q2) [.Name "_law_script" q3] [] q4) q5 :: rest) (hgp : (defScope st).names.lookup ("_law_pen" : Str) = some .globalImplicit)
    (hp : mg "_law_pen" = some (.ref fp)) (kp : PySem.W.keepIn K (.ref fp) = true) (bp : Binds K fdp ["_law_script"] []) (Fp : FnOk P w K mg base (L2.CX P w) 1 fp fdp ["_law_script"] (spPen K))
    (hb : ∀ (A : Around) (outer : List PySem.Env) (s : Shared) (z : Hz) (E : XK), Room (k + 1) (A.deeper (envOfC "law" (defScope st) s.heap.objs.size f cdv)) → RSs (jOf P w K mg T base N "law" (defScope st) f cdv A outer s z E) false rest ms)
    (hm : ms (rhoL n) 0 poL) : FnOk P w K mg base (L2.CX P w) (k + 2) f fd ["_law_script"] (spLaw K T) := by
  obtain ⟨oc, od, kV, doc, pm, an, ct, osl, rfl, lk, hcd⟩ := F.ex
  refine fn_of lk hcd S (fun vs H Q E h => ?_) fun A outer s H vs Q E hr h => ?_
  · obtain ⟨a, ns, rfl, _⟩ := h
    rfl
  · obtain ⟨a, ns, rfl, hS, hc, hT, hq⟩ := h
    rw [hs]
    have pen : PE (cxOf (L2.CX P w) P w K mg base N "law" (defScope st) f cdv A outer s H E) (.Call (.Name "_law_pen" q2) [.Name "_law_script" q3] [] q4) _ :=
      pe_call (E := fun _ _ _ => False) Fp (hr.mono (Nat.le_add_left 1 k)) hgp hp kp bp .nil (passes_call (takes_of rfl rfl rfl rfl) fun _ _ _ _ z => z.elim) (pa_cons (pe_var (i := 0) hN0 hv0) pa_nil)
    refine ⟨_, pss_cons (ps_set (i := 1) S.nd hN1 hl1 pen (hf := .inl rfl)) (u := fun Dn σ G => ∃ p, sOf (jOf P w K mg T base N "law" (defScope st) f cdv A outer s ⟨⟨fun _ => none, H, p, 0⟩, none, none⟩ E) false ms Dn σ G)
      ⟨fun pins s' σ G Dn I ⟨p, h⟩ => (hb A outer s ⟨⟨fun _ => none, H, p, 0⟩, none, none⟩ E hr).ps.run pins s' σ G Dn I h⟩, ?_⟩
    refine ⟨.ref a, rfl, a, ns, rfl, hS, Nat.le_trans hc.1 (by decide), fun H' p l fo ext hp0 hl0 hlp f0 f1 e1 e2 => ?_⟩
    have t0 : Ok ⟨P, w, K, mg, T⟩ ⟨upd (upd (fun _ => none) l (.lst (ns.map V.int))) p (.dK (penK l 0 0 0 fo)), H', p, 0⟩ := by
      have fa : ∀ b o, upd (upd (fun _ => none) l (HO.lst (ns.map V.int))) p (.dK (penK l 0 0 0 fo)) b = some o → H' b = some o ∧ NT o := fun b o e => by
        by_cases hb : b = p
        · subst hb
          rw [upd_same] at e
          cases e
          exact ⟨e1, fun _ z => nomatch z⟩
        · rw [upd_ne hb] at e
          by_cases hbl : b = l
          · subst hbl
            rw [upd_same] at e
            cases e
            exact ⟨e2, fun _ z => nomatch z⟩
          · rw [upd_ne hbl] at e
            cases e
      refine ⟨fun b o e n => ⟨⟨o, (fa b o e).1, n⟩, fun _ => (fa b o e).1⟩, fun b o e => (fa b o e).2, hT.ext ext, fun _ => ?_, ⟨_, e1, PK.dK⟩⟩
      refine ⟨l, 0, 0, fo, 0, ns, e1, Nat.le_refl _, by decide, by decide, Nat.two_pow_pos _, f0, f1, ?_, hlp, hc⟩
      show upd (upd _ l _) p _ l = _
      rw [upd_ne hlp, upd_same]
    have g0 : Gr ⟨P, w, K, mg, T⟩ ⟨fun _ => none, H, p, 0⟩ ⟨upd (upd (fun _ => none) l (.lst (ns.map V.int))) p (.dK (penK l 0 0 0 fo)), H', p, 0⟩ := by
      refine ⟨rfl, (fun b o e => nomatch e), Xt.of ext, fun b o e n _ => ?_, t0⟩
      show upd (upd _ l _) p _ b = none
      rw [upd_ne (ne_of_none e hp0), upd_ne (ne_of_none e hl0)]
    refine ⟨p, rhoL n, ⟨upd (upd (fun _ => none) l (.lst (ns.map V.int))) p (.dK (penK l 0 0 0 fo)), H', p, 0⟩, poL, rfl, ⟨g0, ?_, fun i => ?_, fun i _ _ h1 => ?_⟩, hm, ⟨fun _ _ z => z.elim, fun d c z v t sg ec ok h0 rr => ?_, fun _ _ z => z.elim, fun _ _ z => z.elim, fun _ _ z => z.elim⟩⟩
    · unfold L2.start rhoL
      simp only [List.length_set, List.length_append, List.length_map, List.length_cons, List.length_nil, List.length_replicate]
      omega
    · unfold rhoL
      match i with
      | 0 => exact True.intro
      | 1 =>
        refine ⟨.ref p, ?_, .pen (o := .dK (penK l 0 0 0 fo)) upd_same (fun _ z => nomatch z)⟩
        rw [List.getElem?_set_self]
        unfold L2.start
        simp only [List.length_append, List.length_map, List.length_cons, List.length_nil, List.length_replicate]
        omega
      | i + 2 =>
        rw [List.getElem?_cons_succ, List.getElem?_cons_succ, List.getElem?_replicate]
        split <;> exact True.intro
    · unfold rhoL at h1
      match i with
      | 0 => cases h1
      | 1 => cases h1
      | i + 2 =>
        rw [List.getElem?_cons_succ, List.getElem?_cons_succ, List.getElem?_replicate] at h1
        split at h1 <;> cases h1
    · have z' : d = .bl true := z
      subst z'
      have rr' : Rp ⟨P, w, K, mg, T⟩ t.p t.F v (.bl true) := by
        unfold RetR at rr
        rw [if_neg Bool.false_ne_true] at rr
        exact rr
      cases rr'
      exact hq _
end
end Kq
set_option Elab.async false
set_option linter.all false
set_option maxRecDepth 100000
set_option maxHeartbeats 4000000
namespace Kq
open PySem PySem.Spec PyProof.Rows L2 LamX

/-! ### what the text says, from the written part -/
section
variable {K : PySem.W.Frag} {h : Heap} {mg : Str → Option Value}
theorem df_mk {x name : Str} {st : Stmt} {ps : List Str} {f : Addr} {oc : Value} {od an : Option Addr} {osl : Array (Option Value)} {kV doc pm cdv ct : Value} (X : K.In h) (G : h.Ns mainGlobals mg) (a : PySem.W.nsIn K mainGlobals x = some (some (.ref f)))
    (l : K.lookup f = some ⟨oc, od, .func (PySem.W.fnOf name name (defArgs st) (defBody st) (defScope st) .none kV doc pm an cdv ct), osl⟩) (c : PySem.W.codeIn K cdv name = true) (k : PySem.W.keepIn K (.ref f) = true)
    (b : ∀ (kV doc pm : Value) (an : Option Addr) (cdv ct : Value) (us : List Value), us.length = ps.length → bindArgs (PySem.W.fnOf name name (defArgs st) (defBody st) (defScope st) .none kV doc pm an cdv ct) ⟨us, []⟩ = pure (ps.zip us)) : Df K mg x name st ps :=
  ⟨f, _, PySem.W.mg_of X G a, fun_mk l c k, (fun_mk l c k).binds b⟩
theorem nm_mk (X : K.In h) (G : h.Ns mainGlobals mg) (a : ∀ x ∈ (["len", "int", "list", "tuple", "range", "sorted", "sum", "max", "min", "abs", "all", "any", "str", "bool", "enumerate", "zip", "set", "isinstance", "repr", "dict"] : List Str), PySem.W.nsIn K mainGlobals x = some none) : Nm mg := by
  have b : ∀ x ∈ (["len", "int", "list", "tuple", "range", "sorted", "sum", "max", "min", "abs", "all", "any", "str", "bool", "enumerate", "zip", "set", "isinstance", "repr", "dict"] : List Str), mg x = none := fun x hx => PySem.W.mg_none_of X G (a x hx)
  constructor <;> exact b _ (by decide)
theorem xct_mk {x qual : Str} {st : Stmt} {ps fs : List Str} {C fI N : Addr} {nm q : Str} {bs bm : List Value} {sn : List Str} {sub : List Value} {ab : Bool} {col : Option Bool} {dd : Option Addr} {k0 k1 k2 k3 k5 : Option Value}
    {oc : Value} {od an : Option Addr} {osl : Array (Option Value)} {kV doc pm cdv ct : Value} (X : K.In h) (G : h.Ns mainGlobals mg) (a : PySem.W.nsIn K mainGlobals x = some (some (.ref C)))
    (xL : K.lookup C = some (excClassObj nm q C N bs bm true sn sub ab col dd k0 k1 k2 k3 k5 "ValueError.__new__")) (rb : PySem.HandSPX.refsVE bm = true)
    (sa : PySem.W.findIn K (.ref C) "__setattr__" = some (some (.builtin "object.__setattr__"))) (exC : PySem.W.subIn K (.ref C) (.type "BaseException") = some true) (tyC : PySem.W.typeIn K (.ref C) = some (.type "type")) (kC : PySem.W.keepIn K (.ref C) = true)
    (ga : PySem.W.findIn K (.ref C) "__getattribute__" = some (some (.builtin "BaseException.__getattribute__"))) (gg : PySem.W.findIn K (.ref C) "__getattr__" = some none) (hdC : PySem.W.hasDictIn K C = true) (no : ∀ f ∈ fs, PySem.W.findIn K (.ref C) f = some none)
    (iC : PySem.W.findIn K (.ref C) "__init__" = some (some (.ref fI))) (tI : PySem.W.typeIn K (.ref fI) = some (.type "function"))
    (l : K.lookup fI = some ⟨oc, od, .func (PySem.W.fnOf "__init__" qual (defArgs st) (defBody st) (defScope st) .none kV doc pm an cdv ct), osl⟩) (c : PySem.W.codeIn K cdv qual = true) (k : PySem.W.keepIn K (.ref fI) = true)
    (b : ∀ (kV doc pm : Value) (an : Option Addr) (cdv ct : Value) (us : List Value), us.length = ps.length → bindArgs (PySem.W.fnOf "__init__" qual (defArgs st) (defBody st) (defScope st) .none kV doc pm an cdv ct) ⟨us, []⟩ = pure (ps.zip us)) : XcT K mg x qual st ps fs :=
  ⟨C, fI, _, PySem.W.mg_of X G a, ⟨⟨nm, q, N, bs, bm, sn, sub, ab, col, dd, k0, k1, k2, k3, k5, xL, rb⟩, sa, exC, tyC, kC⟩, ⟨ga, gg, exC, hdC⟩, no, iC, tI, (fun_mk l c k).binds b, fun_mk l c k⟩
theorem cet_mk {x : Str} {C0 : Addr} {mc : Value} (X : K.In h) (G : h.Ns mainGlobals mg) (a : PySem.W.nsIn K mainGlobals x = some (some (.ref C0))) (ga : PySem.W.specialIn K (.ref C0) "__getattribute__" = some (some (.builtin "type.__getattribute__")))
    (tm : PySem.W.typeIn K (.ref C0) = some mc) (rd : PySem.W.readsIn K C0 mc = true) (at_ : PySem.W.findCls K (.ref C0) mc "__init__" = some (.val (.builtin "ValueError.__init__"))) : CeT K mg x := ⟨C0, mc, PySem.W.mg_of X G a, ga, rd, at_⟩
theorem exm_mk {t : Value} {D : Addr} {b : Bool} (h1 : PySem.W.subIn K (.ref D) (.type "BaseException") = some true) (h2 : PySem.W.isClsIn K D = true) (h3 : PySem.W.typeIn K (.ref D) = some (.type "type")) (h4 : PySem.W.subIn K t (.ref D) = some b) : PySem.W.exmOne K t (.ref D) = some b := by
  have e1 : (PySem.W.subIn K (.ref D) (.type "BaseException") == some true) = true := by rw [h1] <;> rfl
  have e2 : ((PySem.W.clsIn K D).isSome && PySem.W.typeIn K (.ref D) == some (.type "type")) = true := by
    have h2' : (PySem.W.clsIn K D).isSome = true := h2
    rw [h2', h3] <;> rfl
  show (if (PySem.W.subIn K (.ref D) (.type "BaseException") == some true) = true then (if ((PySem.W.clsIn K D).isSome && PySem.W.typeIn K (.ref D) == some (.type "type")) = true then PySem.W.subIn K t (.ref D) else none) else none) = some b
  rw [if_pos e1, if_pos e2]
  exact h4
theorem pair_mk {x y : Str} {C D : Addr} {b : Bool} (X : K.In h) (G : h.Ns mainGlobals mg) (ax : PySem.W.nsIn K mainGlobals x = some (some (.ref C))) (ay : PySem.W.nsIn K mainGlobals y = some (some (.ref D)))
    (h1 : PySem.W.subIn K (.ref D) (.type "BaseException") = some true) (h2 : PySem.W.isClsIn K D = true) (h3 : PySem.W.typeIn K (.ref D) = some (.type "type")) (h4 : PySem.W.subIn K (.ref C) (.ref D) = some b) :
    ∀ C' D', mg x = some (.ref C') → mg y = some (.ref D') → PySem.W.exmOne K (.ref C') (.ref D') = some b := fun C' D' e1 e2 => by
  rw [PySem.W.mg_of X G ax] at e1
  rw [PySem.W.mg_of X G ay] at e2
  cases e1
  cases e2
  exact exm_mk h1 h2 h3 h4
/-- the law with a table: what walk_ofTs asks -/
theorem lawT {l : PySem.W.OpenLaw} {w : World} {fa : Addr} {st : Stmt} {oc : Value} {od an : Option Addr} {osl : Array (Option Value)} {kV doc pm cdv ct : Value} {c Pt : Addr} {k n : Nat} {tab : List (Addr × Addr) → List (Addr × Str)} (X : K.In h) (G : h.Ns mainGlobals mg) (hfa : mg "law" = some (.ref fa))
    (a : ∃ f, PySem.W.nsIn K mainGlobals "law" = some (some (.ref f)) ∧ K.lookup f = some ⟨oc, od, .func (PySem.W.fnOf "law" "law" (defArgs st) (defBody st) (defScope st) .none kV doc pm an cdv ct), osl⟩) (cl : PySem.W.codeIn K cdv "law" = true)
    (ht : PySem.W.tabIn K "law" = some (c, Pt)) (hc : cdv = .ref c) (hP : h.get? Pt = some { cls := .none, data := .fields #[] }) (nP : K.lookup Pt = none) (hd : PySem.W.codeHdIn K c Pt = true) (tb : ∀ cs p, p ∈ tab cs → p.1 ∈ cs.map (·.2)) (hn : n ≤ 63)
    (b : ∀ (kV doc pm : Value) (an : Option Addr) (cdv ct : Value) (us : List Value), us.length = 1 → bindArgs (PySem.W.fnOf "law" "law" (defArgs st) (defBody st) (defScope st) .none kV doc pm an cdv ct) ⟨us, []⟩ = pure ((["_law_script"] : List Str).zip us))
    (F : ∀ base : Heap, K.In base → base.Ns mainGlobals mg → TabB base mg c Pt → ∀ fd, FnD K "law" "law" st fa fd cdv → FnOk l.prog w K mg base (L2.CX l.prog w) k fa fd ["_law_script"] (spLaw K (tab [(c, Pt)]))) :
    LawAtS l w K (L2.CX l.prog w) k n "_law_script" mg fa h := by
  obtain ⟨f, a1, a2⟩ := a
  have e := hfa.symm.trans (PySem.W.mg_of X G a1)
  cases e
  refine ⟨_, [(c, Pt)], spLaw K (tab [(c, Pt)]), fun p hp => ?_, fun p hp => ?_, fun p hp => ?_, fun s u => ?_, fun H a ns hl hb hT hS => ?_, fun base KB NB TB => F base KB NB (TB (c, Pt) (List.mem_singleton.mpr rfl)) _ ⟨oc, od, kV, doc, pm, an, ct, osl, rfl, a2, cl⟩⟩
  · rw [List.mem_singleton.mp hp]
    exact hP
  · rw [List.mem_singleton.mp hp]
    exact nP
  · rw [List.mem_singleton.mp hp]
    exact PySem.W.codeHd_of_K X hd
  · exact .of_eq (b _ _ _ _ _ _ [u] rfl)
  · refine ⟨a, ns, rfl, hS, ⟨Nat.le_trans hl hn, fun z hz => ?_⟩, fun p hp => ?_, fun _ => rfl⟩
    · have q := hb z hz
      unfold Builtin.Int.intBits at q
      by_cases h0 : z = 0
      · subst h0
        exact Nat.two_pow_pos _
      · rw [if_neg (by simpa using h0)] at q
        exact (Nat.log2_lt (by omega)).mp (by omega)
    · obtain ⟨q, hq, e⟩ := List.mem_map.mp (tb _ p hp)
      have hq' := hT q hq
      rw [e] at hq'
      exact TabS.nil hq'
theorem lawT2 {l : PySem.W.OpenLaw} {f : Addr} {w : World} {fa : Addr} {st : Stmt} {oc : Value} {od an : Option Addr} {osl : Array (Option Value)} {kV doc pm cdv ct : Value} {c Pt : Addr} {k n : Nat} {tab : List (Addr × Addr) → List (Addr × Str)} (X : K.In h) (G : h.Ns mainGlobals mg) (hfa : mg "law" = some (.ref fa))
    (a1 : PySem.W.nsIn K mainGlobals "law" = some (some (.ref f))) (a2 : K.lookup f = some ⟨oc, od, .func (PySem.W.fnOf "law" "law" (defArgs st) (defBody st) (defScope st) .none kV doc pm an cdv ct), osl⟩) (cl : PySem.W.codeIn K cdv "law" = true)
    (ht : PySem.W.tabIn K "law" = some (c, Pt)) (hc : cdv = .ref c) (hP : h.get? Pt = some { cls := .none, data := .fields #[] }) (nP : K.lookup Pt = none) (hd : PySem.W.codeHdIn K c Pt = true) (tb : ∀ cs p, p ∈ tab cs → p.1 ∈ cs.map (·.2)) (hn : n ≤ 63)
    (b : ∀ (kV doc pm : Value) (an : Option Addr) (cdv ct : Value) (us : List Value), us.length = 1 → bindArgs (PySem.W.fnOf "law" "law" (defArgs st) (defBody st) (defScope st) .none kV doc pm an cdv ct) ⟨us, []⟩ = pure ((["_law_script"] : List Str).zip us))
    (F : ∀ base : Heap, K.In base → base.Ns mainGlobals mg → TabB base mg c Pt → ∀ fd, FnD K "law" "law" st fa fd cdv → FnOk l.prog w K mg base (L2.CX l.prog w) k fa fd ["_law_script"] (spLaw K (tab [(c, Pt)]))) :
    LawAtS l w K (L2.CX l.prog w) k n "_law_script" mg fa h :=
  lawT X G hfa ⟨f, a1, a2⟩ cl ht hc hP nP hd tb hn b F
end
theorem cx_none {P : Program} {w : World} {H : Hp} {s : Shared} {e : Value} {s' : Shared} (h : L2.CX P w [] H s (fun _ _ _ => False) e s') : False := by
  obtain ⟨_, _, _, _, _, _, _, _, _, _, _, _, z⟩ := h
  exact z
theorem walkT {l : PySem.W.OpenLaw} {n k : Nat} {q : Program} {loose : List Str} {XP : (Str → Option Value) → Heap → Prop} {YP : World → Heap → Prop} {d : DefRec} {K : Params → PySem.W.Frag} (hY : ∀ (w : World) (h : Heap), YP w h → (K w.params).In h) (hn : l.most = some n) (hn2 : n ≤ sizeLine) (hdf : d.params.defaults = []) (hr : Room k callerA)
    (F : ∀ (w : World) (mg : Str → Option Value) (fa : Addr) (h : Heap), YP w h → (K w.params).In h → h.Ns mainGlobals mg → mg d.name = some (.ref fa) → LawAtS l w (K w.params) (L2.CX l.prog w) k n "_law_script" mg fa h) :
    PySem.W.WalkO q loose XP YP l.row.toRowW d [] (fun f vs => PySem.call f vs) := walk_ofTs (CX := fun w => L2.CX l.prog w) hn hn2 hdf hr hY F fun _ _ _ _ _ z => cx_none z
end Kq
set_option Elab.async false
set_option linter.all false
set_option maxRecDepth 100000
set_option maxHeartbeats 400000
namespace Kq
open PySem PySem.Spec PyProof.Rows L2 LamX
/-! ### head steps: what a mirror asks, its first piece alone -/
section
variable {P : D → Nat → Prop} {PB : Bool → Nat → Prop} {PL : List D → Nat → Prop} {PO : Option Int → Nat → Prop} {E : XC → Nat → Prop} {c : Nat} {a b : Int} {ds es : List D} {z z2 : Str} {t s : Bool} {d x y : D}
variable {ρ : Rho} {nx bk ct : Rho → Nat → Prop} {rt : D → Nat → Prop} {ex : XC → Nat → Prop} {po : Po} {i l n k : Nat} {ma mb : ME} {mas : MA} {A B : MS} {T U : MB}
theorem w_seq (h : A ρ c ⟨fun ρ c => B ρ c ⟨nx, rt, bk, ct, ex⟩, rt, bk, ct, ex⟩) : mSeq A B ρ c ⟨nx, rt, bk, ct, ex⟩ := h
theorem w_next (h : nx ρ c) : mNext ρ c ⟨nx, rt, bk, ct, ex⟩ := h
theorem w_brk (h : bk ρ c) : mBrk ρ c ⟨nx, rt, bk, ct, ex⟩ := h
theorem w_cnt (h : ct ρ c) : mCnt ρ c ⟨nx, rt, bk, ct, ex⟩ := h
theorem w_set (h : ma ρ c (fun d c => nx (ρ.set i (.val d)) c) ex) : mSet i ma ρ c ⟨nx, rt, bk, ct, ex⟩ := h
def pOwn (k : List D → Nat → Prop) : D → Nat → Prop := fun d c => match d with
  | .lst ds => k ds c
  | _ => False
theorem w_pOwn {k : List D → Nat → Prop} (h : k ds c) : pOwn k (.lst ds) c := h
theorem w_setO (h : ma ρ c (pOwn fun ds c => nx (ρ.set i (.own ds)) c) ex) : mSetO i ma ρ c ⟨nx, rt, bk, ct, ex⟩ := h
def pTwo (k : D → D → Nat → Prop) : List D → Nat → Prop := fun ds c => match ds with
  | [x, y] => k x y c
  | _ => False
theorem w_pTwo {k : D → D → Nat → Prop} (h : k x y c) : pTwo k [x, y] c := h
def pThree (k : D → D → D → Nat → Prop) : List D → Nat → Prop := fun ds c => match ds with
  | [x, y, z] => k x y z c
  | _ => False
theorem w_pThree {k : D → D → D → Nat → Prop} (h : k x y d c) : pThree k [x, y, d] c := h
theorem w_par (h : mas ρ c (pTwo fun x y c => nx ((ρ.set i (.val x)).set l (.val y)) c) ex) : mPar i l mas ρ c ⟨nx, rt, bk, ct, ex⟩ := h
theorem w_par3 (h : mas ρ c (pThree fun x y z c => nx (((ρ.set i (.val x)).set l (.val y)).set n (.val z)) c) ex) : mPar3 i l n mas ρ c ⟨nx, rt, bk, ct, ex⟩ := h
theorem w_aug {mo : D → D → M D} (e : ρ[i]? = some (.val x)) (h : ma ρ c (fun y c => mo x y c (fun z c => nx (ρ.set i (.val z)) c) ex) ex) : mAug i mo ma ρ c ⟨nx, rt, bk, ct, ex⟩ := by
  unfold mAug
  rw [e]
  exact h
theorem w_drop (h : ma ρ c (fun _ c => nx ρ c) ex) : mDrop ma ρ c ⟨nx, rt, bk, ct, ex⟩ := h
def pOne (k : D → Nat → Prop) : List D → Nat → Prop := fun ds c => match ds with
  | [x] => k x c
  | _ => False
theorem w_pOne {k : D → Nat → Prop} (h : k x c) : pOne k [x] c := h
theorem w_app (e : ρ[i]? = some (.own ds)) (h : mas ρ c (pOne fun d c => ds.length < sizeLine ∧ nx (ρ.set i (.own (ds ++ [d]))) c) ex) : mOwn i oApp mas ρ c ⟨nx, rt, bk, ct, ex⟩ := by
  unfold mOwn
  rw [e]
  have q : (fun es c => oApp ds es (fun fs _ => nx (ρ.set i (.own fs)) c)) = (pOne fun d c => ds.length < sizeLine ∧ nx (ρ.set i (.own (ds ++ [d]))) c) := by
    funext es c
    match es with
    | [] => rfl
    | [d] => rfl
    | _ :: _ :: _ => rfl
  show mas ρ c (fun es c => oApp ds es (fun fs _ => nx (ρ.set i (.own fs)) c)) ex
  rw [q]
  exact h
theorem w_ext (e : ρ[i]? = some (.own ds)) (h : mas ρ c (pOne (pOwn fun fs c => ds.length + fs.length ≤ sizeLine ∧ nx (ρ.set i (.own (ds ++ fs))) c)) ex) : mOwn i oExt mas ρ c ⟨nx, rt, bk, ct, ex⟩ := by
  unfold mOwn
  rw [e]
  have q : (fun es c => oExt ds es (fun fs _ => nx (ρ.set i (.own fs)) c)) = (pOne (pOwn fun fs c => ds.length + fs.length ≤ sizeLine ∧ nx (ρ.set i (.own (ds ++ fs))) c)) := by
    funext es c
    match es with
    | [] => rfl
    | [d] => cases d <;> rfl
    | d :: _ :: _ => cases d <;> rfl
  show mas ρ c (fun es c => oExt ds es (fun fs _ => nx (ρ.set i (.own fs)) c)) ex
  rw [q]
  exact h

theorem w_setIx (h : ma ρ c (fun d c => mb ρ c (fun x c => ∃ (ds : List D) (k : Int) (n : Nat), ρ[i]? = some (.own ds) ∧ x = .int k ∧ ixN ds.length k = some n ∧ nx (ρ.set i (.own (ds.set n d))) c) ex) ex) (e : ρ[i]? = some (.own ds)) : mSetIx i ma mb ρ c ⟨nx, rt, bk, ct, ex⟩ := by
  have q : (fun (d : D) (c : Nat) => mb ρ c (fun x c => ∃ (ds : List D) (k : Int) (n : Nat), ρ[i]? = some (.own ds) ∧ x = .int k ∧ ixN ds.length k = some n ∧ nx (ρ.set i (.own (ds.set n d))) c) ex) = (fun d c => mb ρ c (fun x c => match x with
    | .int k => ∃ n, ixN ds.length k = some n ∧ nx (ρ.set i (.own (ds.set n d))) c
    | _ => False) ex) := by
    funext d c
    congr 1
    funext x c
    apply propext
    constructor
    · rintro ⟨ds', k, n, h1, rfl, h2, h3⟩
      rw [e] at h1
      cases h1
      exact ⟨n, h2, h3⟩
    · intro h
      match x, h with
      | .int k, ⟨n, h2, h3⟩ => exact ⟨ds, k, n, e, rfl, h2, h3⟩
  rw [q] at h
  unfold mSetIx
  rw [e]
  exact h
theorem w_if (h : T ρ c (fun x c => if x = true then A ρ c ⟨nx, rt, bk, ct, ex⟩ else B ρ c ⟨nx, rt, bk, ct, ex⟩) ex) : mIf T A B ρ c ⟨nx, rt, bk, ct, ex⟩ := h
theorem w_ret (h : ma ρ c rt ex) : mRet ma ρ c ⟨nx, rt, bk, ct, ex⟩ := h
theorem w_retN (e : ρ[i]? = some (.own ds)) (h : rt (.lst ds) c) : mRetN i ρ c ⟨nx, rt, bk, ct, ex⟩ := by
  unfold mRetN
  rw [e]
  exact h
theorem w_retU (h : rt .non c) : mRetU ρ c ⟨nx, rt, bk, ct, ex⟩ := h
theorem w_frz (e : ρ[i]? = some (.own ds)) (h : A (ρ.set i (.val (.lst ds))) c ⟨nx, rt, bk, ct, ex⟩) : mFrz i A ρ c ⟨nx, rt, bk, ct, ex⟩ := by
  unfold mFrz
  rw [e]
  exact h
theorem w_asg {f : D → Rho → Option Rho} (h : ma ρ c (fun d c => ∃ ρ', f d ρ = some ρ' ∧ nx ρ' c) ex) : mAsgG f ma ρ c ⟨nx, rt, bk, ct, ex⟩ := h
theorem w_for {f : D → Rho → Option Rho} (h : mas ρ c (fun ds c => forD f A ds ρ c ⟨nx, rt, bk, ct, ex⟩) ex) : mFor mas f A ρ c ⟨nx, rt, bk, ct, ex⟩ := h
theorem w_forN {f : D → Rho → Option Rho} (h : nx ρ c) : forD f A [] ρ c ⟨nx, rt, bk, ct, ex⟩ := h
theorem w_forC {f : D → Rho → Option Rho} {ρ1 : Rho} (e : f d ρ = some ρ1) (h : A ρ1 c ⟨fun ρ c => forD f A ds ρ c ⟨nx, rt, bk, ct, ex⟩, rt, nx, fun ρ c => forD f A ds ρ c ⟨nx, rt, bk, ct, ex⟩, ex⟩) : forD f A (d :: ds) ρ c ⟨nx, rt, bk, ct, ex⟩ := ⟨ρ1, e, h⟩
theorem w_while (W : Nat → Rho → Nat → Prop) (m : Nat) (h0 : W m ρ c) (h : ∀ m ρ c, W m ρ c → T ρ c (fun x c => if x = true then A ρ c ⟨fun ρ' c' => ∃ m', m' < m ∧ W m' ρ' c', rt, nx, fun ρ' c' => ∃ m', m' < m ∧ W m' ρ' c', ex⟩ else nx ρ c) ex) : mWhile T A ρ c ⟨nx, rt, bk, ct, ex⟩ := ⟨W, ⟨m, h0⟩, h⟩
theorem w_tryE {sub : Str → Str → Option Bool} {hd : List Hd} (h : ma ρ c (fun _ c => nx ρ c) (fun x c => mHs sub hd x ρ c ⟨nx, rt, bk, ct, ex⟩)) : mTryE sub hd ma ρ c ⟨nx, rt, bk, ct, ex⟩ := h
theorem w_tryR {sub : Str → Str → Option Bool} {hd : List Hd} (h : ma ρ c rt (fun x c => mHs sub hd x ρ c ⟨nx, rt, bk, ct, ex⟩)) : mTryR sub hd ma ρ c ⟨nx, rt, bk, ct, ex⟩ := h
theorem w_tryA {sub : Str → Str → Option Bool} {hd : List Hd} (h : ma ρ c (fun d c => nx (ρ.set i (.val d)) c) (fun x c => mHs sub hd x ρ c ⟨nx, rt, bk, ct, ex⟩)) : mTryA sub hd i ma ρ c ⟨nx, rt, bk, ct, ex⟩ := h
theorem w_hs1 {sub : Str → Str → Option Bool} {r : List Hd} {qn : Str} {qf : List (Str × D)} {hn : Str} {o : Option Nat} (e : sub qn hn = some true) (h : A (putS o (qn, qf) ρ) c ⟨fun ρ c => nx (unS o ρ) c, rt, fun ρ c => bk (unS o ρ) c, fun ρ c => ct (unS o ρ) c, fun _ _ => False⟩) : mHs sub ((hn, o, A) :: r) (qn, qf) ρ c ⟨nx, rt, bk, ct, ex⟩ := ⟨true, e, fun _ => h, fun z => nomatch z⟩
theorem w_hs0 {sub : Str → Str → Option Bool} {r : List Hd} {qn : Str} {qf : List (Str × D)} {hn : Str} {o : Option Nat} (e : sub qn hn = some false) (h : mHs sub r (qn, qf) ρ c ⟨nx, rt, bk, ct, ex⟩) : mHs sub ((hn, o, A) :: r) (qn, qf) ρ c ⟨nx, rt, bk, ct, ex⟩ := ⟨false, e, fun z => (nomatch z), fun _ => h⟩
theorem w_hsN {sub : Str → Str → Option Bool} {q : XC} (h : ex q c) : mHs sub [] q ρ c ⟨nx, rt, bk, ct, ex⟩ := h
theorem w_raise {q : Str} {fs : List Str} (h : mas ρ c (fun ds c => (ds.length = fs.length ∧ fs.length ≤ 1000) ∧ ex (q, (fs.zip ds).reverse) c) ex) : mRaise q fs mas ρ c ⟨nx, rt, bk, ct, ex⟩ := h
theorem w_fn0 {n : Nat} {ks : List Kd} (h : A (rho0 n ks ds) c ⟨fun _ c => P .non c, P, fun _ _ => False, fun _ _ => False, E⟩) : fnM n ks A ds c P E := h
theorem slOf_val : slOf .val d = .val d := rfl
theorem slOf_rdL : slOf .rd (.lst ds) = .bor ds := rfl
theorem w_fn {n : Nat} {ks : List Kd} {ρ0 : Rho} (e : rho0 n ks ds = ρ0) (h : A ρ0 c ⟨fun _ c => P .non c, P, fun _ _ => False, fun _ _ => False, E⟩) : fnM n ks A ds c P E := by
  unfold fnM
  rw [e]
  exact h

theorem w_not (h : T ρ c (fun b c => PB (!b) c) E) : mNotB T ρ c PB E := h
theorem w_tst (h : ma ρ c (fun d c => dBl d c PB E) E) : mTst ma ρ c PB E := h
theorem w_tru (h : ma ρ c (fun d c => dTru d c PB E) E) : mTru ma ρ c PB E := h
theorem w_andB (h : T ρ c (fun x c => if x = true then U ρ c PB E else PB false c) E) : mAndB T U ρ c PB E := h
theorem w_orB (h : T ρ c (fun x c => if x = true then PB true c else U ρ c PB E) E) : mOrB T U ρ c PB E := h
theorem w_yes (h : PB true c) : mYes ρ c PB E := h
theorem w_bl (h : PB t c) : dBl (.bl t) c PB E := h
theorem w_truB (h : PB t c) : dTru (.bl t) c PB E := h
theorem w_truN (h : PB false c) : dTru .non c PB E := h
theorem w_truI (h : PB (a != 0) c) : dTru (.int a) c PB E := h
theorem w_truS (h : PB ((z.length : Int) != 0) c) (h0 : z.length ≤ sizeLine) : dTru (.str z) c PB E := ⟨h0, h⟩
theorem w_truL (h : PB (!ds.isEmpty) c) : dTru (.lst ds) c PB E := h
theorem w_truT (h : PB (!ds.isEmpty) c) : dTru (.tup ds) c PB E := h
theorem w_sz {A : Prop} (e : Nat.ble ds.length sizeLine = true) (h : A) : ds.length ≤ sizeLine ∧ A := ⟨Nat.le_of_ble_eq_true e, h⟩
theorem w_len2 {fs : List Str} {A : Prop} (e : ds.length = fs.length) (e2 : Nat.ble fs.length 1000 = true) (h : A) : (ds.length = fs.length ∧ fs.length ≤ 1000) ∧ A := ⟨⟨e, Nat.le_of_ble_eq_true e2⟩, h⟩
theorem w_itT {A B : Prop} (h : A) : if true = true then A else B := h
theorem w_itF {A B : Prop} (h : B) : if false = true then A else B := h
theorem w_itNT {A B : Prop} (h : B) : if (!true) = true then A else B := h
theorem w_itNF {A B : Prop} (h : A) : if (!false) = true then A else B := h
theorem w_itXTT {A B : Prop} (h : B) : if (true ^^ true) = true then A else B := h
theorem w_itXTF {A B : Prop} (h : A) : if (true ^^ false) = true then A else B := h
theorem w_itXFT {A B : Prop} (h : A) : if (false ^^ true) = true then A else B := h
theorem w_itXFF {A B : Prop} (h : B) : if (false ^^ false) = true then A else B := h
theorem w_it {A B : Prop} (h1 : t = true → A) (h2 : t = false → B) : if t = true then A else B := by
  cases t
  · exact h2 rfl
  · exact h1 rfl
theorem w_itd {A B p : Prop} [Decidable p] (h1 : p → A) (h2 : ¬ p → B) : if decide p = true then A else B := by
  by_cases h : p
  · rw [if_pos (decide_eq_true h)]
    exact h1 h
  · rw [if_neg (by rw [decide_eq_true_iff]; exact h)]
    exact h2 h
theorem w_itn {A B p : Prop} [Decidable p] (h1 : ¬ p → A) (h2 : p → B) : if (!decide p) = true then A else B := by
  by_cases h : p
  · rw [if_neg (by simp [h])]
    exact h2 h
  · rw [if_pos (by simp [h])]
    exact h1 h
theorem w_itdT {A B p : Prop} [Decidable p] (hp : p) (h1 : A) : if decide p = true then A else B := by
  rw [if_pos (decide_eq_true hp)]
  exact h1
theorem w_itdF {A B p : Prop} [Decidable p] (hp : ¬ p) (h1 : B) : if decide p = true then A else B := by
  rw [if_neg (by rw [decide_eq_true_iff]; exact hp)]
  exact h1
theorem w_itnT {A B p : Prop} [Decidable p] (hp : ¬ p) (h1 : A) : if (!decide p) = true then A else B := by
  rw [if_pos (by simp [hp])]
  exact h1
theorem w_itnF {A B p : Prop} [Decidable p] (hp : p) (h1 : B) : if (!decide p) = true then A else B := by
  rw [if_neg (by simp [hp])]
  exact h1
theorem w_itnn {A B p : Prop} [Decidable p] (h1 : p → A) (h2 : ¬ p → B) : if (!!decide p) = true then A else B := by
  rw [Bool.not_not]
  exact w_itd h1 h2
theorem w_C (h : P d c) : mC d ρ c P E := h
theorem w_var (e : ρ[i]? = some (.val d)) (h : P d c) : mVar i ρ c P E := by
  unfold mVar
  rw [e]
  exact h
theorem w_varR (e : ρ[i]? = some (.val d)) (h : P d c) : mVarR i ρ c P E := by
  unfold mVarR
  rw [e]
  exact h
theorem w_varRo (e : ρ[i]? = some (.own ds)) (h : P (.lst ds) c) : mVarR i ρ c P E := by
  unfold mVarR
  rw [e]
  exact h
theorem w_varRb (e : ρ[i]? = some (.bor ds)) (h : P (.lst ds) c) : mVarR i ρ c P E := by
  unfold mVarR
  rw [e]
  exact h
theorem w_varB (e : ρ[i]? = some (.bor ds)) (h : PL ds c) : mVarB i ρ c PL E := by
  unfold mVarB
  rw [e]
  exact h
theorem w_bin {mo : D → D → M D} (h : ma ρ c (fun x c => mb ρ c (fun y c => mo x y c P E) E) E) : mBin mo ma mb ρ c P E := h
theorem w_un {mo : D → M D} (h : ma ρ c (fun x c => mo x c P E) E) : mUn mo ma ρ c P E := h
theorem w_call {mo : List D → M D} (h : mas ρ c (fun ds c => mo ds c P E) E) : mCall mo mas ρ c P E := h
theorem w_cons (h : ma ρ c (fun d c => mas ρ c (fun ds c => PL (d :: ds) c) E) E) : mCons ma mas ρ c PL E := h
theorem w_nil (h : PL [] c) : mNil ρ c PL E := h
theorem w_tup (h : mas ρ c (fun ds c => ds.length ≤ sizeLine ∧ P (.tup ds) c) E) : mTup mas ρ c P E := h
theorem w_lst (h : mas ρ c (fun ds c => ds.length ≤ sizeLine ∧ P (.lst ds) c) E) : mLst mas ρ c P E := h
theorem w_ifE (h : T ρ c (fun x c => if x = true then ma ρ c P E else mb ρ c P E) E) : mIfE T ma mb ρ c P E := h
theorem w_andV (h : ma ρ c (fun d c => dBl d c (fun x c => if x = true then mb ρ c P E else P (.bl false) c) E) E) : mAndV ma mb ρ c P E := h
theorem w_orV (h : ma ρ c (fun d c => dBl d c (fun x c => if x = true then P (.bl true) c else mb ρ c P E) E) E) : mOrV ma mb ρ c P E := h
theorem w_notV (h : ma ρ c (fun d c => dBl d c (fun x c => P (.bl (!x)) c) E) E) : mNotV ma ρ c P E := h
theorem w_items (h : ma ρ c (fun d c => dItems d c PL E) E) : mItems ma ρ c PL E := h
theorem w_itA {mo : List D → M (List D)} (h : mas ρ c (fun ds c => mo ds c PL E) E) : mItA mo mas ρ c PL E := h
theorem w_itL (h : PL ds c) : dItems (.lst ds) c PL E := h
theorem w_itTu (h : PL ds c) : dItems (.tup ds) c PL E := h
theorem w_itS (h : PL (z.cps.toList.map fun c => D.str ⟨#[c]⟩) c) : dItems (.str z) c PL E := h
theorem w_noO (h : PO none c) : mNoO ρ c PO E := h
def pInt (k : Int → Nat → Prop) : D → Nat → Prop := fun d c => match d with
  | .int i => k i c
  | _ => False
theorem w_pInt {k : Int → Nat → Prop} (h : k a c) : pInt k (.int a) c := h
theorem w_soO (h : ma ρ c (pInt fun i c => PO (some i) c) E) : mSoO ma ρ c PO E := h
theorem w_sl {mo : D → Option Int → Option Int → M D} {ml mh : MO} (h : ma ρ c (fun x c => ml ρ c (fun l c => mh ρ c (fun h c => mo x l h c P E) E) E) E) : mSl mo ma ml mh ρ c P E := h
theorem w_lc {f : D → Rho → Option Rho} {vs : List Nat} (h : mas ρ c (fun ds c => lcD f T ma (mwipe ρ vs) ds [] c (fun ys c => P (.lst ys) c)) E) : mLc mas f T ma vs ρ c P E := h
theorem w_rng1 (h : PL (rngD 0 a.toNat) c) (h0 : -(2 ^ 62) ≤ a ∧ a < 2 ^ 62) : dRng1 [.int a] c PL E := ⟨h0, h⟩
theorem w_rng2 (h : PL (rngD a (b - a).toNat) c) (h0 : -(2 ^ 62) ≤ a ∧ a < 2 ^ 62 ∧ -(2 ^ 62) ≤ b ∧ b < 2 ^ 62) : dRng2 [.int a, .int b] c PL E := ⟨h0, h⟩
theorem w_enum (h : PL (enumD ds) c) : dLstOf [.lst ds] c PL E := h
theorem w_zipL (h : PL (zipD ds es) c) : dZip [.lst ds, .lst es] c PL E := h
theorem w_zipT (h : PL (zipD ds es) c) : dZip [.tup ds, .tup es] c PL E := h
theorem w_draw {m : Int} (h : ∀ k : Int, 0 ≤ k → k < m → P (.int k) (c + 1)) (h0 : 0 < m) (h1 : m.natAbs.log2 < 9000) (h2 : c < 2 ^ 40) : drawM [.pen, .int m] c P E := ⟨⟨h0, h1, h2⟩, h⟩
def lk {β : Type} (q : Str) (tb : List (Str × β)) (K : β → Prop) : Prop := ∃ b, tb.lookup q = some b ∧ K b
theorem w_lk0 {β : Type} {q : Str} {b : β} {r : List (Str × β)} {K : β → Prop} (h : K b) : lk q ((q, b) :: r) K := ⟨b, by simp [List.lookup], h⟩
theorem w_lkS {β : Type} {q q' : Str} {b : β} {r : List (Str × β)} {K : β → Prop} (e : (q == q') = false) (h : lk q r K) : lk q ((q', b) :: r) K := by
  obtain ⟨x, h1, h2⟩ := h
  exact ⟨x, by simp only [List.lookup, e]; exact h1, h2⟩
theorem w_xf {fs : List (Str × D)} {xn f : Str} (e : ρ[i]? = some (.exc (xn, fs))) (h : lk f fs (fun d => P d c)) : mXf i xn f ρ c P E := by
  unfold mXf
  rw [e]
  obtain ⟨d, h1, h2⟩ := h
  exact ⟨rfl, d, h1, h2⟩
theorem w_act {bb : M D} (e : ρ[i]? = some .lam) (h : bb c P E) : mAct i bb ρ c P E := by
  unfold mAct
  rw [e]
  exact h
theorem w_lam {mz : M D → MS} (h : mz (ma ρ) (.lam :: List.replicate n .no) c ⟨fun _ c => P .non c, P, fun _ _ => False, fun _ _ => False, fun _ _ => False⟩) : mLam n mz ma ρ c P E := h
theorem w_calV {tb : CalT} {q : Str} (e : ρ[i]? = some (.val (.gl q))) (h : lk q tb (fun mf => mas ρ c (fun ds c => mf ds c P E) E)) : mCalV i tb mas ρ c P E := by
  unfold mCalV
  rw [e]
  exact h
theorem lc_rule {f : D → Rho → Option Rho} {ρw : Rho} {acc : List D} {Q : List D → Nat → Prop} (I : Nat → List D → Nat → Prop) (h0 : I 0 acc c)
    (hs : ∀ i d acc c (K : List D → Nat → Prop), ds[i]? = some d → I i acc c → (∀ acc' c', I (i + 1) acc' c' → K acc' c') → ∃ ρ2, f d ρw = some ρ2 ∧ T ρ2 c (fun b c => if b = true then ma ρ2 c (fun y c => acc.length < sizeLine ∧ K (acc ++ [y]) c) (fun _ _ => False) else K acc c) (fun _ _ => False))
    (he : ∀ acc c, I ds.length acc c → Q acc c) : lcD f T ma ρw ds acc c Q := by
  have key : ∀ (n i : Nat) (acc : List D) (c : Nat), i + n = ds.length → I i acc c → lcD f T ma ρw (ds.drop i) acc c Q := by
    intro n
    induction n with
    | zero =>
      intro i acc c hi hI
      rw [List.drop_eq_nil_of_le (by omega)]
      have : i = ds.length := by omega
      subst this
      exact he acc c hI
    | succ n ih =>
      intro i acc c hi hI
      have hd : ds[i]? = some ds[i] := by rw [List.getElem?_eq_getElem]
      rw [lcD_drop hd]
      exact hs i _ acc c _ hd hI (fun acc' c' h => ih (i + 1) acc' c' (by omega) h)
  exact key ds.length 0 acc c (by omega) h0
theorem for_rule {f : D → Rho → Option Rho} (I : Nat → Rho → Nat → Prop) (h0 : I 0 ρ c)
    (hs : ∀ i d ρ c (K : Rho → Nat → Prop), ds[i]? = some d → I i ρ c → (∀ ρ' c', I (i + 1) ρ' c' → K ρ' c') → ∃ ρ1, f d ρ = some ρ1 ∧ A ρ1 c ⟨K, rt, nx, K, ex⟩)
    (he : ∀ ρ c, I ds.length ρ c → nx ρ c) : forD f A ds ρ c ⟨nx, rt, bk, ct, ex⟩ := by
  have key : ∀ (n i : Nat) (ρ : Rho) (c : Nat), i + n = ds.length → I i ρ c → forD f A (ds.drop i) ρ c ⟨nx, rt, bk, ct, ex⟩ := by
    intro n
    induction n with
    | zero =>
      intro i ρ c hi hI
      rw [List.drop_eq_nil_of_le (by omega)]
      have : i = ds.length := by omega
      subst this
      exact he ρ c hI
    | succ n ih =>
      intro i ρ c hi hI
      have hd : ds[i]? = some ds[i] := by rw [List.getElem?_eq_getElem]
      rw [forD_drop hd]
      exact hs i _ ρ c _ hd hI (fun ρ' c' h => ih (i + 1) ρ' c' (by omega) h)
  exact key ds.length 0 ρ c (by omega) h0
theorem w_I2 {C : Int → Int → Prop} {f : Int → Int → Int} (h0 : C a b) (h : P (.int (f a b)) c) : dInt2 C f (.int a) (.int b) c P E := ⟨h0, h⟩
theorem w_I20 {f : Int → Int → Int} (h : P (.int (f a b)) c) : dInt20 f (.int a) (.int b) c P E := h
theorem w_mul (h : P (.int (a * b)) c) (h0 : CMulG a b) : dMul (.int a) (.int b) c P E := ⟨h0, h⟩
theorem w_fdv (h : P (.int (a.fdiv b)) c) (h0 : CDivG a b) : dFdv (.int a) (.int b) c P E := ⟨h0, h⟩
theorem w_mod (h : P (.int (a.fmod b)) c) (h0 : b ≠ 0) : dMod (.int a) (.int b) c P E := ⟨h0, h⟩
theorem w_pow (h : P (.int (a ^ b.toNat)) c) (h0 : CPow a b) : dPow (.int a) (.int b) c P E := ⟨h0, h⟩
theorem w_shl (h : P (.int (a * 2 ^ b.toNat)) c) (h0 : CShlG a b) : dShl (.int a) (.int b) c P E := ⟨h0, h⟩
theorem w_shr (h : P (.int (a / 2 ^ b.toNat)) c) (h0 : 0 ≤ b) : dShr (.int a) (.int b) c P E := ⟨h0, h⟩
theorem w_sub (h : P (.int (a - b)) c) : dSub (.int a) (.int b) c P E := h
theorem w_and (h : P (.int (Builtin.bitAnd a b)) c) : dAnd (.int a) (.int b) c P E := h
theorem w_or (h : P (.int (Builtin.bitOr a b)) c) : dOr (.int a) (.int b) c P E := h
theorem w_xor (h : P (.int (Builtin.bitXor a b)) c) : dXor (.int a) (.int b) c P E := h
theorem w_addI (h : P (.int (a + b)) c) : dAdd (.int a) (.int b) c P E := h
theorem w_addB (h : P (.int (a + b2n t)) c) : dAdd (.int a) (.bl t) c P E := h
theorem w_addS (h : P (.str (z ++ z2)) c) (h0 : z.length + z2.length ≤ sizeLine) : dAdd (.str z) (.str z2) c P E := ⟨h0, h⟩
theorem w_addL (h : P (.lst (ds ++ es)) c) (h0 : ds.length + es.length ≤ sizeLine) : dAdd (.lst ds) (.lst es) c P E := ⟨h0, h⟩
theorem w_addT (h : P (.tup (ds ++ es)) c) (h0 : ds.length + es.length ≤ sizeLine ∧ ds ≠ []) : dAdd (.tup ds) (.tup es) c P E := ⟨h0, h⟩
theorem w_iaddI (h : P (.int (a + b)) c) : dIadd (.int a) (.int b) c P E := h
theorem w_iaddS (h : P (.str (z ++ z2)) c) (h0 : z.length + z2.length ≤ sizeLine) : dIadd (.str z) (.str z2) c P E := ⟨h0, h⟩
theorem w_cat (h : P (.lst (ds ++ es)) c) (h0 : ds.length + es.length ≤ sizeLine) : dCat (.lst ds) (.lst es) c P E := ⟨h0, h⟩
theorem w_rep (h : P (.lst (List.replicate a.toNat ds).flatten) c) (h0 : -(2 ^ 63) ≤ a ∧ a < 2 ^ 63 ∧ ds.length * a.toNat ≤ sizeLine) : dRep (.lst ds) (.int a) c P E := ⟨h0, h⟩
theorem w_lt (h : P (.bl (decide (a < b))) c) : dLt (.int a) (.int b) c P E := h
theorem w_le (h : P (.bl (decide (a ≤ b))) c) : dLe (.int a) (.int b) c P E := h
theorem w_gt (h : P (.bl (decide (b < a))) c) : dGt (.int a) (.int b) c P E := h
theorem w_ge (h : P (.bl (decide (b ≤ a))) c) : dGe (.int a) (.int b) c P E := h
theorem w_neg (h : P (.int (-a)) c) : dNeg (.int a) c P E := h
theorem w_bits (h : P (.int (Builtin.Int.intBits a : Nat)) c) : dBits (.int a) c P E := h
theorem w_ixL (e : atI ds a = some d) (h : P d c) : dIx (.lst ds) (.int a) c P E := ⟨d, e, h⟩
theorem w_ixT (e : atI ds a = some d) (h : P d c) : dIx (.tup ds) (.int a) c P E := ⟨d, e, h⟩
theorem w_ixS {u : Nat} (h0 : z.length ≤ sizeLine) (e : atI z.cps.toList a = some u) (h : P (.str ⟨#[u]⟩) c) : dIx (.str z) (.int a) c P E := ⟨u, h0, e, h⟩
theorem w_lenL (h : P (.int ds.length) c) : dLen [.lst ds] c P E := h
theorem w_lenT (h : P (.int ds.length) c) : dLen [.tup ds] c P E := h
theorem w_lenS (h : P (.int z.length) c) (h0 : z.length ≤ sizeLine) : dLen [.str z] c P E := ⟨h0, h⟩
theorem w_toI (h : P (.int a) c) : dToInt [.int a] c P E := h
theorem w_toIb (h : P (.int (b2n t)) c) : dToInt [.bl t] c P E := h
theorem w_abs (h : P (.int (if a < 0 then -a else a)) c) : dAbs [.int a] c P E := h
theorem w_max2 (h : P (.int (if b > a then b else a)) c) : dMax2 [.int a, .int b] c P E := h
theorem w_min2 (h : P (.int (if b < a then b else a)) c) : dMin2 [.int a, .int b] c P E := h
theorem w_slL {lo hi : Option Int} (h : P (.lst (cutD ds lo hi)) c) : dSlL (.lst ds) lo hi c P E := h
theorem w_slDL {lo hi : Option Int} (h : P (.lst (cutD ds lo hi)) c) : dSl (.lst ds) lo hi c P E := h
theorem w_slS {lo hi : Option Int} (h : P (.str (cutS z lo hi)) c) (h0 : z.length ≤ sizeLine) : dSl (.str z) lo hi c P E := ⟨h0, h⟩
theorem w_lisL (h : P (.lst ds) c) : dToList [.lst ds] c P E := h
theorem w_lisT (h : P (.lst ds) c) : dToList [.tup ds] c P E := h
theorem w_tupL (h : P (.tup ds) c) : dToTup [.lst ds] c P E := h
theorem w_tupT (h : P (.tup ds) c) : dToTup [.tup ds] c P E := h
theorem w_isB {k : Bool} (h : P (.bl (k ^^ decide (t = s))) c) : dIsB k (.bl t) (.bl s) c P E := h
theorem w_isN {k : Bool} (h : P (.bl (k ^^ isNon d)) c) : dIsN k d .non c P E := h
theorem w_reprB (h : P (.str (if t then "True" else "False")) c) : dRepr [.bl t] c P E := h
theorem w_isi {tn : String} {n1 : String} {r : Bool} (e1 : tyN d = some n1) (e2 : kitB n1 tn = some r) (h : P (.bl r) c) : dIsi [d, .ty tn] c P E := ⟨_, _, e1, e2, h⟩
theorem w_isi1 {tn : String} {n1 : String} {r : Bool} (e1 : tyN d = some n1) (e2 : kitB n1 tn = some r) (h : P (.bl r) c) : dIsi [d, .ty tn] c P E := ⟨_, _, e1, e2, h⟩
theorem kit_NoneType_int : kitB "NoneType" "int" = some false := by decide +kernel
theorem kit_NoneType_bool : kitB "NoneType" "bool" = some false := by decide +kernel
theorem kit_NoneType_str : kitB "NoneType" "str" = some false := by decide +kernel
theorem kit_NoneType_tuple : kitB "NoneType" "tuple" = some false := by decide +kernel
theorem kit_NoneType_list : kitB "NoneType" "list" = some false := by decide +kernel
theorem kit_bool_int : kitB "bool" "int" = some true := by decide +kernel
theorem kit_bool_bool : kitB "bool" "bool" = some true := by decide +kernel
theorem kit_bool_str : kitB "bool" "str" = some false := by decide +kernel
theorem kit_bool_tuple : kitB "bool" "tuple" = some false := by decide +kernel
theorem kit_bool_list : kitB "bool" "list" = some false := by decide +kernel
theorem kit_int_int : kitB "int" "int" = some true := by decide +kernel
theorem kit_int_bool : kitB "int" "bool" = some false := by decide +kernel
theorem kit_int_str : kitB "int" "str" = some false := by decide +kernel
theorem kit_int_tuple : kitB "int" "tuple" = some false := by decide +kernel
theorem kit_int_list : kitB "int" "list" = some false := by decide +kernel
theorem kit_str_int : kitB "str" "int" = some false := by decide +kernel
theorem kit_str_bool : kitB "str" "bool" = some false := by decide +kernel
theorem kit_str_str : kitB "str" "str" = some true := by decide +kernel
theorem kit_str_tuple : kitB "str" "tuple" = some false := by decide +kernel
theorem kit_str_list : kitB "str" "list" = some false := by decide +kernel
theorem kit_tuple_int : kitB "tuple" "int" = some false := by decide +kernel
theorem kit_tuple_bool : kitB "tuple" "bool" = some false := by decide +kernel
theorem kit_tuple_str : kitB "tuple" "str" = some false := by decide +kernel
theorem kit_tuple_tuple : kitB "tuple" "tuple" = some true := by decide +kernel
theorem kit_tuple_list : kitB "tuple" "list" = some false := by decide +kernel
theorem kit_list_int : kitB "list" "int" = some false := by decide +kernel
theorem kit_list_bool : kitB "list" "bool" = some false := by decide +kernel
theorem kit_list_str : kitB "list" "str" = some false := by decide +kernel
theorem kit_list_tuple : kitB "list" "tuple" = some false := by decide +kernel
theorem kit_list_list : kitB "list" "list" = some true := by decide +kernel
theorem kit_dict_int : kitB "dict" "int" = some false := by decide +kernel
theorem kit_dict_bool : kitB "dict" "bool" = some false := by decide +kernel
theorem kit_dict_str : kitB "dict" "str" = some false := by decide +kernel
theorem kit_dict_tuple : kitB "dict" "tuple" = some false := by decide +kernel
theorem kit_dict_list : kitB "dict" "list" = some false := by decide +kernel
theorem w_all {bs : List Bool} (h : P (.bl (bs.foldr (· && ·) true)) c) : dAll [.lst (bs.map D.bl)] c P E := ⟨bs, rfl, h⟩
theorem w_any {bs : List Bool} (h : P (.bl (bs.foldr (· || ·) false)) c) : dAny [.lst (bs.map D.bl)] c P E := ⟨bs, rfl, h⟩
theorem w_toPI : toPy (.int a) = some (.int a) := rfl
theorem eqv_i (a b : Int) : PyData.eqv (.int a) (.int b) = decide (a = b) := by
  first
    | rfl
    | (simp [PyData.eqv])
theorem eqv_s (a b : Str) : PyData.eqv (.str a) (.str b) = decide (a = b) := by
  first
    | rfl
    | (simp only [PyData.eqv]; rfl)
theorem w_eqI (h : P (.bl (decide (a = b))) c) : dEq (.int a) (.int b) c P E := by
  refine ⟨_, _, rfl, rfl, rfl, rfl, ?_⟩
  rw [eqv_i]
  exact h
theorem w_neI (h : P (.bl (!decide (a = b))) c) : dNe (.int a) (.int b) c P E := by
  refine ⟨_, _, rfl, rfl, rfl, rfl, ?_⟩
  rw [eqv_i]
  exact h
end
/-! ### data that may be compared: no dict, no object; at most so deep -/
inductive Pd : Nat → D → Prop
  | non (n : Nat) : Pd n .non
  | bl (n : Nat) (b : Bool) : Pd n (.bl b)
  | int (n : Nat) (i : Int) : Pd n (.int i)
  | str (n : Nat) (s : Str) (h : PyData.strOk s = true) : Pd n (.str s)
  | tup (n : Nat) (ds : List D) (h : ∀ d ∈ ds, Pd n d) : Pd (n + 1) (.tup ds)
  | lst (n : Nat) (ds : List D) (h : ∀ d ∈ ds, Pd n d) : Pd (n + 1) (.lst ds)
theorem pds_py {n : Nat} (h : ∀ {d : D}, Pd n d → ∃ x, toPy d = some x ∧ x.canLay0 = true ∧ x.depth ≤ n) : ∀ {ds : List D}, (∀ d ∈ ds, Pd n d) → ∃ xs, toPys ds = some xs ∧ PyData.canLayAll0 xs = true ∧ PyData.depthAll xs ≤ n
  | [], _ => ⟨[], by simp [toPys], by simp [PyData.canLayAll0], by simp [PyData.depthAll]⟩
  | d :: ds, q => by
    obtain ⟨x, h1, h2, h3⟩ := h (q d (List.mem_cons_self ..))
    obtain ⟨xs, k1, k2, k3⟩ := pds_py h (fun e he => q e (List.mem_cons_of_mem _ he))
    refine ⟨x :: xs, by simp [toPys, h1, k1], by simp [PyData.canLayAll0, h2, k2], ?_⟩
    simp only [PyData.depthAll]
    omega
theorem pd_py : ∀ {n : Nat} {d : D}, Pd n d → ∃ x, toPy d = some x ∧ x.canLay0 = true ∧ x.depth ≤ n
  | _, _, .non n => ⟨_, rfl, by simp [PyData.canLay0], by simp [PyData.depth]⟩
  | _, _, .bl n b => ⟨_, rfl, by simp [PyData.canLay0], by simp [PyData.depth]⟩
  | _, _, .int n b => ⟨_, rfl, by simp [PyData.canLay0], by simp [PyData.depth]⟩
  | _, _, .str n b h => ⟨_, rfl, by simpa [PyData.canLay0] using h, by simp [PyData.depth]⟩
  | _, _, .tup n ds h => by
    obtain ⟨xs, h1, h2, h3⟩ := pds_py (fun q => pd_py q) h
    exact ⟨.tuple xs, by simp [toPy, h1], by simpa [PyData.canLay0] using h2, by simp only [PyData.depth]; omega⟩
  | _, _, .lst n ds h => by
    obtain ⟨xs, h1, h2, h3⟩ := pds_py (fun q => pd_py q) h
    exact ⟨.list xs, by simp [toPy, h1], by simpa [PyData.canLay0] using h2, by simp only [PyData.depth]; omega⟩
theorem pd_sh {n : Nat} {d : D} (h : Pd n d) (hn : n ≤ 64) : ∃ x, toPy d = some x ∧ SeqAt.shaped x = true := by
  obtain ⟨x, h1, h2, h3⟩ := pd_py h
  exact ⟨x, h1, by unfold SeqAt.shaped; rw [h2, Bool.true_and]; exact decide_eq_true (by omega)⟩
section
variable {P : D → Nat → Prop} {E : XC → Nat → Prop} {c : Nat} {d : D} {n : Nat}
theorem w_eqR (hd : Pd n d) (hn : n ≤ 64) (h : P (.bl true) c) : dEq d d c P E := by
  obtain ⟨x, h1, h2⟩ := pd_sh hd hn
  refine ⟨x, x, h1, h1, h2, h2, ?_⟩
  rw [SeqAt.eqv_refl _ (SeqAt.canLay_of_shaped h2)]
  exact h
theorem w_neR (hd : Pd n d) (hn : n ≤ 64) (h : P (.bl false) c) : dNe d d c P E := by
  obtain ⟨x, h1, h2⟩ := pd_sh hd hn
  refine ⟨x, x, h1, h1, h2, h2, ?_⟩
  rw [SeqAt.eqv_refl _ (SeqAt.canLay_of_shaped h2)]
  exact h
theorem w_eqS {z z2 : Str} (h1 : PyData.strOk z = true) (h2 : PyData.strOk z2 = true) (h : P (.bl (decide (z = z2))) c) : dEq (.str z) (.str z2) c P E := by
  obtain ⟨x, e1, e2⟩ := pd_sh (.str 0 z h1) (by omega)
  obtain ⟨y, e3, e4⟩ := pd_sh (.str 0 z2 h2) (by omega)
  cases e1
  cases e3
  refine ⟨_, _, rfl, rfl, e2, e4, ?_⟩
  rw [eqv_s]
  exact h
theorem w_neS {z z2 : Str} (h1 : PyData.strOk z = true) (h2 : PyData.strOk z2 = true) (h : P (.bl (!decide (z = z2))) c) : dNe (.str z) (.str z2) c P E := by
  obtain ⟨x, e1, e2⟩ := pd_sh (.str 0 z h1) (by omega)
  obtain ⟨y, e3, e4⟩ := pd_sh (.str 0 z2 h2) (by omega)
  cases e1
  cases e3
  refine ⟨_, _, rfl, rfl, e2, e4, ?_⟩
  rw [eqv_s]
  exact h
end
/-! ### all([found == told for found, told in tries]) -/
def PairOk (n : Nat) (d : D) : Prop := ∃ x, d = .tup [x, x] ∧ Pd n x
section
variable {P : D → Nat → Prop} {E : XC → Nat → Prop} {c i j n : Nat} {ρ ρw : Rho} {ds : List D}
theorem lc_eq (hij : i ≠ j) (hi : i < ρw.length) (hj : j < ρw.length) (hn : n ≤ 64) (hl : ds.length ≤ 1000) (hd : ∀ d ∈ ds, PairOk n d) {Q : List D → Nat → Prop} (h : Q ((List.replicate ds.length true).map D.bl) c) :
    lcD (fTup 2 (fCons (fName i) (fCons (fName j) fNil))) mYes (mBin dEq (mVar i) (mVar j)) ρw ds [] c Q := by
  refine lc_rule (fun k acc c' => k ≤ ds.length ∧ acc = (List.replicate k true).map D.bl ∧ c' = c) ⟨by omega, rfl, rfl⟩ ?_ ?_
  · rintro k d acc c' K hk ⟨hk1, rfl, rfl⟩ hK
    obtain ⟨x, rfl, hp⟩ := hd d (List.mem_of_getElem? hk)
    have hk2 := (List.getElem?_eq_some_iff.mp hk).1
    refine ⟨(ρw.set i (.val x)).set j (.val x), rfl, ?_⟩
    refine w_yes (w_itT (w_bin (w_var (d := x) ?_ (w_var (d := x) ?_ (w_eqR hp hn ⟨?_, ?_⟩)))))
    · rw [List.getElem?_set_ne (Ne.symm hij), List.getElem?_set_self hi]
    · rw [List.getElem?_set_self (by rw [List.length_set]; exact hj)]
    · rw [List.length_map, List.length_replicate]
      show k < 2 ^ 24
      omega
    · refine hK _ _ ⟨by omega, ?_, rfl⟩
      rw [List.replicate_succ', List.map_append]
      rfl
  · rintro acc c' ⟨_, rfl, rfl⟩
    exact h
theorem rep_all (n : Nat) : (List.replicate n true).foldr (· && ·) true = true := by
  induction n with
  | zero => rfl
  | succ n ih => rw [List.replicate_succ, List.foldr_cons, ih]; rfl
theorem all_eq (hij : i ≠ j) (hi : i < ρw.length) (hj : j < ρw.length) (hn : n ≤ 64) (hl : ds.length ≤ 1000) (hd : ∀ d ∈ ds, PairOk n d) (h : P (.bl true) c) :
    lcD (fTup 2 (fCons (fName i) (fCons (fName j) fNil))) mYes (mBin dEq (mVar i) (mVar j)) ρw ds [] c (fun ys c => dAll [.lst ys] c P E) := by
  refine lc_eq hij hi hj hn hl hd (w_all ?_)
  rw [rep_all]
  exact h
end
end Kq
set_option Elab.async false
set_option linter.all false
set_option maxRecDepth 100000
set_option maxHeartbeats 4000000
namespace Kq
open PySem PySem.Spec PyProof.Rows L2 LamX

/-! ### enumerate of a text -/
def IteS (x : Str) : It := ⟨fun i _ => i < x.cps.size, fun i H v H' => ∃ T c, v = .ref T ∧ H T = none ∧ H' = upd H T (.tup [.int (i : Nat), .str ⟨#[c]⟩]) ∧ x.cps[i]? = some c, fun i _ => x.cps.size ≤ i⟩
theorem turn_enumS {P : Program} {w : World} {K : PySem.W.Frag} {elts : List Expr} {kk : Nat} {tpos : Pos} (x : Str) (t : Tok) (e it : Addr) :
    Turn P w K (.Tuple elts kk tpos) (IteS x) [e, it] e (fun i h => (∃ old, IsEnum h e it ((i : Nat) : Int) old) ∧ h.IsStrIter it (strIterType x) x t i ∧ e ≠ it ∧ i ≤ x.cps.size) where
  mem := by simp
  obj := fun i h st b hb => by
    obtain ⟨⟨old, he⟩, ⟨o, ho, hc, hd⟩, _⟩ := st
    have e' : b = e ∨ b = it := by simpa using hb
    rcases e' with z | z
    · rw [z]; exact ⟨_, he, fun v q => nomatch q⟩
    · rw [z]; exact ⟨o, ho, fun v q => by rw [hd] at q; cases q⟩
  keep := fun i h h' st k => by
    obtain ⟨⟨old, he⟩, ⟨o, ho, r⟩, hne, hi⟩ := st
    exact ⟨⟨old, k e (by simp) _ he⟩, ⟨o, k it (by simp) o ho, r⟩, hne, hi⟩
  item := by
    intro X hP hw hK hc i pins s σ H E I hf st hg
    subst hP hw hK
    obtain ⟨⟨old, he⟩, hit, hne, hi⟩ := st
    have hel : e < s.heap.objs.size := Heap.lt_size he
    have hil : it < s.heap.objs.size := by obtain ⟨_, q, _⟩ := hit; exact Heap.lt_size q
    have hA : X.A.in1.handled = none := I.ok.hd hc
    refine wpAny_pyNext_enum_itemD (Draws.text hA it x t) he hit hg hne (by simpa using hne) fun y h' tk hy ho hit' hT hsz hk => ?_
    obtain ⟨c, u, hcx, rfl⟩ := hy
    refine ⟨_, rfl, wpAny_letOwnedTupleGo_enum (s := { s with heap := h', toks := tk + 1 }) ho fun h'' he' sb => ?_⟩
    have hT2 : h''.get? s.heap.objs.size = some { cls := .type "tuple", data := .seq #[.int i tk, .str ⟨#[c]⟩ u] } := (sb.2 _ (Nat.ne_of_gt hel)).trans hT
    have new : ObjOk X.prog X.w (upd H s.heap.objs.size (.tup [.int (i : Nat), .str ⟨#[c]⟩])) h'' s.heap.objs.size (.tup [.int (i : Nat), .str ⟨#[c]⟩]) :=
      ⟨by show 2 ≤ sizeLine; decide, [.int i tk, .str ⟨#[c]⟩ u], .cons ⟨_, rfl⟩ (.cons ⟨u, rfl⟩ .nil), ⟨_, hT2, rfl, _, rfl⟩⟩
    have I1 : Inv X pins σ (upd H s.heap.objs.size (.tup [.int (i : Nat), .str ⟨#[c]⟩])) { s with heap := h'', toks := tk + 1 } :=
      I.turnedNew (ch := [e, it]) (fun b ob hb q => (sb.2 b (fun z => hb (by simp [z]))).trans (hk b ob (fun z => hb (by simp [z])) (fun z => hb (by simp [z])) q)) hf (Nat.le_refl _) new
    refine ⟨.ref s.heap.objs.size, _, I1, rfl, ⟨_, c, rfl, I.hok.fresh (Nat.le_refl _), rfl, hcx⟩, ⟨⟨.str ⟨#[c]⟩ u, ?_⟩, ?_, hne, hg⟩, fun b hb => ?_⟩
    · have e1 : ((i + 1 : Nat) : Int) = (i : Int) + 1 := by omega
      rw [e1]; exact he'
    · obtain ⟨oi, a1, a2⟩ := hit'
      exact ⟨oi, (sb.2 it (Ne.symm hne)).trans a1, a2⟩
    · have hb' : b < s.heap.objs.size := by
        have e' : b = e ∨ b = it := by simpa using hb
        rcases e' with z | z
        · rw [z]; exact hel
        · rw [z]; exact hil
      rw [upd_ne (Nat.ne_of_lt hb')]
      exact (hf b hb).1
  done := by
    intro X hP hw hK hc i pins s σ H E I hf st hg
    subst hP hw hK
    obtain ⟨⟨old, he⟩, hit, hne, hi⟩ := st
    obtain ⟨f0, f1, f2, f3, f4, f5⟩ := hf it (by simp)
    have hA : X.A.in1.handled = none := I.ok.hd hc
    have hg' : x.cps.size ≤ i := hg
    have ei : i = x.cps.size := by omega
    subst ei
    exact wpAny_pyNext_enum_endD (Draws.text hA it x t) he hit fun h' eb => ⟨rfl, I.turned (t' := s.toks) (fun b o hb q => eb b o hb q) f0 f1 f3 f4 f5⟩
  self := fun A i s Q E st h => let ⟨⟨_, he⟩, _⟩ := st; wpAny_pyIter_enum he h
def iEnumA (K : PySem.W.Frag) (ta : TA) : TI := fun σ H R => ta σ H fun vs H1 => (∃ a xs, vs = [.ref a] ∧ SqL K H1 a xs ∧ R (Ite K a) H1) ∨ ∃ x, vs = [.str x] ∧ R (IteS x) H1
theorem pi_enumA {X : Cx} {e : Expr} {ta : TA} {p pos tpos : Pos} {elts : List Expr} {kk : Nat} (hg : Gl X "enumerate") (hm : X.mg "enumerate" = none) (ha : PA X [e] ta) (hs : starEach [e] X.env = [(false, eval e X.env)] := by rfl) :
    PI X (.Tuple elts kk tpos) (.Call (.Name "enumerate" p) [e] [] pos) (iEnumA X.K ta) := by
  refine ⟨fun pins s σ H R I h => ?_⟩
  refine Call_ (ld_blt I hg hm boot_enumerate (PyProof.Rows.callWith_type1 (thn (ha.run pos pins s σ H _ I h) fun us s1 ⟨vs, H1, I1, r1, q1⟩ => ?_) hs rfl))
  have fresh : ∀ b : Addr, b ∈ [s1.heap.objs.size + 1, s1.heap.objs.size] → s1.heap.objs.size ≤ b := fun b hb => by
    have e' : b = s1.heap.objs.size + 1 ∨ b = s1.heap.objs.size := by simpa using hb
    rcases e' with z | z
    · rw [z]; exact Nat.le_add_right _ _
    · rw [z]; exact Nat.le_refl _
  rcases q1 with ⟨a, xs, ex, hq, q⟩ | ⟨x, ex, q⟩
  · subst ex
    cases r1 with
    | cons r rr =>
      cases rr
      cases r
      obtain ⟨its, rv, p', hz⟩ := I1.list hq
      refine call_enumerate_list p'.isList fun h' he hit hsz hk => wpAny_pyIter_enum he ?_
      have I2 : Inv X pins σ H1 { s1 with heap := h' } := I1.kept (t' := s1.toks) hk
      exact ⟨s1.heap.objs.size + 1, [s1.heap.objs.size + 1, s1.heap.objs.size], _, _, H1, rfl, I2, turn_enum a (s1.heap.objs.size + 1) s1.heap.objs.size, ⟨⟨.none, he⟩, hit, Nat.succ_ne_self _⟩, fun b hb => I1.fpOk (fresh b hb) (I1.hok.fresh (fresh b hb)), q⟩
  · subst ex
    cases r1 with
    | cons r rr =>
      cases rr
      obtain ⟨t, rfl⟩ := r
      refine call_enumerate_str fun h' he hit hsz hk => wpAny_pyIter_enum he ?_
      have I2 : Inv X pins σ H1 { s1 with heap := h' } := I1.kept (t' := s1.toks) hk
      exact ⟨s1.heap.objs.size + 1, [s1.heap.objs.size + 1, s1.heap.objs.size], _, _, H1, rfl, I2, turn_enumS x t (s1.heap.objs.size + 1) s1.heap.objs.size, ⟨⟨.none, he⟩, hit, Nat.succ_ne_self _, Nat.zero_le _⟩, fun b hb => I1.fpOk (fresh b hb) (I1.hok.fresh (fresh b hb)), q⟩
/-- the items of a text, numbered -/
def chD (z : Str) : List D := z.cps.toList.map fun c => D.str ⟨#[c]⟩
def dEnum : List D → M (List D)
  | [.lst ds] => ret (enumD ds)
  | [.str z] => ret (enumD (chD z))
  | _ => stuck
section
variable {j : J} {k : Kd} {fs : Bool} {e : Expr} {mas : MA}
theorem itok_enumS {g : Gx} {z : Str} {St : Sx → Prop} (h : ∀ t, St t → Ok g t) : ItOk g St (IteS z) (enumD (chD z)) where
  go := fun i t hs hi => by
    rw [enumD_length, chD, List.length_map, Array.length_toList] at hi
    exact hi
  yld := fun i t d hs hd x H' hy => by
    obtain ⟨T, c, rfl, hT, rfl, hc⟩ := hy
    obtain ⟨e, he, rfl⟩ := enumD_get hd
    rw [chD, List.getElem?_map, Array.getElem?_toList, hc] at he
    cases he
    have o := h t hs
    have n := new_tup (s := t) o hT (.cons (.int (i : Nat)) (.cons (.str ⟨#[c]⟩) .nil))
    exact ⟨t.put T _, rfl, rfl, n.1, n.2⟩
  stop := fun t hs => by
    show z.cps.size ≤ _
    rw [enumD_length, chD, List.length_map, Array.length_toList]
    exact Nat.le_refl _
theorem ri_enumA {a : Expr} {tg e : Expr} (h : ∀ {ta : TA}, PA j.X [a] ta → PI j.X tg e (iEnumA j.X.K ta)) (ha : RA j [.val] [a] mas) : RI j fs tg e (mItA dEnum mas) := ⟨_, h ha.pa, fun σ H R ⟨ρ, s, P, E, eh, env, hm, hv, hx⟩ => by
  subst eh
  refine ⟨ρ, s, _, E, rfl, env, hm, fun d c hd v t e ec r => ?_, hx⟩
  subst ec
  match d, hd, r with
  | [.lst ds], hd, .cons r .nil =>
    obtain ⟨l, xs, rfl, h1, _, st⟩ := RV.stb r e.ok
    exact .inl ⟨l, xs, rfl, SqL.of h1, hv _ _ hd t _ e rfl (itok_enum (st fs))⟩
  | [.str z], hd, .cons r .nil =>
    obtain rfl := inv_str r
    exact .inr ⟨z, rfl, hv _ _ hd t _ e rfl (itok_enumS fun u hu => hu.ok)⟩⟩
theorem ri_enumRA {a : Expr} {tg e : Expr} (h : ∀ {ta : TA}, PA j.X [a] ta → PI j.X tg e (iEnumA j.X.K ta)) (ha : RA j [k] [a] mas) : RI j false tg e (mItA dEnum mas) := ⟨_, h ha.pa, fun σ H R ⟨ρ, s, P, E, eh, env, hm, hv, hx⟩ => by
  subst eh
  refine ⟨ρ, s, _, E, rfl, env, hm, fun d c hd v t e ec r => ?_, hx⟩
  subst ec
  match d, hd, r with
  | [.lst ds], hd, .cons r .nil =>
    obtain ⟨l, xs, rfl, h1, _, st⟩ := RV.stbR r e.ok
    exact .inl ⟨l, xs, rfl, SqL.of h1, hv _ _ hd t _ e rfl (itok_enum st)⟩
  | [.str z], hd, .cons r .nil =>
    obtain rfl := inv_str r
    exact .inr ⟨z, rfl, hv _ _ hd t _ e rfl (itok_enumS fun u hu => hu.ok)⟩⟩
end
theorem pip {X : Cx} {op : Operator} {r : R2} (h : OpR X (inplaceOp op) r) : PIp X op r := fun pins s σ H x y v u Q I r1 r2 q => h pins s σ H x y v u Q I r1 r2 q
/-! ### a text taken many times; methods of texts -/
theorem op_strmul {X : Cx} : OpR X (binaryOp .Mult) (fun x y H Q => ∃ a n, x = .str a ∧ y = .int n ∧ MulOk a n ∧ Q (.str (Txt.mul a n)) H) := by
  intro pins s σ H x y v u Q I rx ry h
  obtain ⟨i, j, rfl, rfl, hz, q⟩ := h
  obtain ⟨t, rfl⟩ := rx
  obtain ⟨t', rfl⟩ := ry
  exact SB.mul hz (fun t' tk => ⟨.str (Txt.mul i j), H, I.tok _, ⟨_, rfl⟩, q⟩)
def dStrMul : D → D → M D
  | .str a, .int n => grd (MulOk a n) (ret (.str (Txt.mul a n)))
  | _, _ => stuck
theorem opm_strmul {g : Gx} {ka kb : Kd} : OpM g ka kb .val (fun x y H Q => ∃ a n, x = .str a ∧ y = .int n ∧ MulOk a n ∧ Q (.str (Txt.mul a n)) H) dStrMul := by
  intro s1 s2 t x y dx dy P E Q hx hy o hm hq
  match dx, dy, hm with
  | .str a, .int b, hm => exact ⟨a, b, inv_str hx, inv_int hy, hm.1, hq _ _ hm.2 _ t (Gr.refl o) rfl (Rp.str _)⟩
def mM0 (mo : Str → M D) (mx : ME) : ME := fun ρ c Q E => mx ρ c (fun x c => match x with
  | .str a => mo a c Q E
  | _ => False) E
def mM1 (mo : Str → D → M D) (mx my : ME) : ME := fun ρ c Q E => mx ρ c (fun x c => match x with
  | .str a => my ρ c (fun y c => mo a y c Q E) E
  | _ => False) E
def Mt0 (g : Gx) (k : Kd) (r : V → List V → Hp → VK → Prop) (mo : Str → M D) : Prop :=
  ∀ {t : Sx} {a : Str} {P : D → Nat → Prop} {E : XC → Nat → Prop} {Q : VK}, Ok g t → mo a t.c P E → (∀ d c, P d c → ∀ v u, Gr g t u → u.c = c → RV k g t u v d → Q v u.H) → r (.str a) [] t.H Q
def Mt1 (g : Gx) (kb k : Kd) (r : V → List V → Hp → VK → Prop) (mo : Str → D → M D) : Prop :=
  ∀ {s1 t : Sx} {a : Str} {y : V} {dy : D} {P : D → Nat → Prop} {E : XC → Nat → Prop} {Q : VK}, RV kb g s1 t y dy → Ok g t → mo a dy t.c P E → (∀ d c, P d c → ∀ v u, Gr g t u → u.c = c → RV k g t u v d → Q v u.H) → r (.str a) [y] t.H Q
section
variable {j : J} {k ka kb : Kd} {e a b : Expr} {mx my : ME}
theorem re_m0 {r : V → List V → Hp → VK → Prop} {mo : Str → M D} (pe : ∀ {ta : TE}, PE j.X a ta → PE j.X e (tM0 r ta)) (ho : Mt0 j.g k r mo) (ha : RE j ka a mx) : RE j k e (mM0 mo mx) :=
  ⟨(pe ha.pe).imp fun σ H Q ⟨ρ, s, P, E, eh, env, hm, hv, hx⟩ => by
    subst eh
    refine ⟨ρ, s, _, E, rfl, env, hm, fun x c h1 v1 t1 g1 e1 r1 => ?_, hx⟩
    subst e1
    match x, h1, r1 with
    | .str z, h1, r1 =>
      obtain rfl := inv_str r1
      exact ⟨⟨z, rfl⟩, ho g1.ok h1 fun d c hd v u g3 e3 r3 => hv d c hd v u (g1.trans g3) e3 (r3.back g1)⟩⟩
theorem re_m1 {r : V → List V → Hp → VK → Prop} {mo : Str → D → M D} (pe : ∀ {ta tb : TE}, PE j.X a ta → PE j.X b tb → PE j.X e (tM1 r ta tb)) (ho : Mt1 j.g kb k r mo) (ha : RE j ka a mx) (hb : RE j kb b my) : RE j k e (mM1 mo mx my) :=
  ⟨(pe ha.pe hb.pe).imp fun σ H Q ⟨ρ, s, P, E, eh, env, hm, hv, hx⟩ => by
    subst eh
    refine ⟨ρ, s, _, E, rfl, env, hm, fun x c h1 v1 t1 g1 e1 r1 => ?_, hx⟩
    subst e1
    match x, h1, r1 with
    | .str z, h1, r1 =>
      obtain rfl := inv_str r1
      refine ⟨⟨z, rfl⟩, ρ, t1, _, E, rfl, env.to g1, h1, fun y c h2 v2 t2 g2 e2 r2 => ?_, hx.gr g1⟩
      subst e2
      exact ho r2 g2.ok h2 fun d c hd v u g3 e3 r3 => hv d c hd v u ((g1.trans g2).trans g3) e3 (r3.back (g1.trans g2))⟩
end
/-- sep.join(texts) -/
def dJoin (a : Str) : D → M D
  | .lst ds => fun c Q _ => ∃ ys : List Str, ds = ys.map D.str ∧ (ys.map (·.length)).sum + ys.length * a.length ≤ 16777216 ∧ Q (.str (Txt.join a ys)) c
  | .tup ds => fun c Q _ => ∃ ys : List Str, ds = ys.map D.str ∧ (ys.map (·.length)).sum + ys.length * a.length ≤ 16777216 ∧ Q (.str (Txt.join a ys)) c
  | _ => stuck
theorem mt1_join {g : Gx} {kb : Kd} : Mt1 g kb .val (fun x xs H Q => ∃ a p, ∃ ys : List Str, x = .str a ∧ xs = [.ref p] ∧ (SqL g.K H p (ys.map V.str) ∨ SqT g.K H p (ys.map V.str)) ∧
      (ys.map (·.length)).sum + ys.length * a.length ≤ 16777216 ∧ Q (.str (Txt.join a ys)) H) dJoin := by
  intro s1 t a y dy P E Q hy o hm hq
  match dy, hm with
  | .lst ds, ⟨ys, e, hz, hm⟩ =>
    subst e
    obtain ⟨l, xs, rfl, hn, hl, r⟩ := hy.list o
    rw [strs_inv r] at hl
    exact ⟨a, l, ys, rfl, rfl, .inl (SqL.of hl), hz, hq _ _ hm _ t (Gr.refl o) rfl (Rp.str _)⟩
  | .tup ds, ⟨ys, e, hz, hm⟩ =>
    subst e
    obtain ⟨l, xs, rfl, hl, r⟩ := hy.tup o
    rw [strs_inv r] at hl
    exact ⟨a, l, ys, rfl, rfl, .inr hl, hz, hq _ _ hm _ t (Gr.refl o) rfl (Rp.str _)⟩
def dRstrip (a : Str) : D → M D
  | .str b => grd (a.length ≤ sizeLine) (ret (.str (Txt.rstripChars a b)))
  | _ => stuck
def dLstrip (a : Str) : D → M D
  | .str b => grd (a.length ≤ sizeLine) (ret (.str (Txt.lstripChars a b)))
  | _ => stuck
theorem mt1_rstrip {g : Gx} {kb : Kd} : Mt1 g kb .val (fun x xs H Q => ∃ a b, x = .str a ∧ xs = [.str b] ∧ a.length ≤ sizeLine ∧ Q (.str (Txt.rstripChars a b)) H) dRstrip := by
  intro s1 t a y dy P E Q hy o hm hq
  match dy, hm with
  | .str b, hm =>
    obtain rfl := inv_str hy
    exact ⟨a, b, rfl, rfl, hm.1, hq _ _ hm.2 _ t (Gr.refl o) rfl (Rp.str _)⟩
theorem mt1_lstrip {g : Gx} {kb : Kd} : Mt1 g kb .val (fun x xs H Q => ∃ a b, x = .str a ∧ xs = [.str b] ∧ a.length ≤ sizeLine ∧ Q (.str (Txt.lstripChars a b)) H) dLstrip := by
  intro s1 t a y dy P E Q hy o hm hq
  match dy, hm with
  | .str b, hm =>
    obtain rfl := inv_str hy
    exact ⟨a, b, rfl, rfl, hm.1, hq _ _ hm.2 _ t (Gr.refl o) rfl (Rp.str _)⟩
def dIsdigit (a : Str) : M D := ret (.bl (Txt.isdigit a))
theorem mt0_isdigit {g : Gx} : Mt0 g .val (fun x xs H Q => ∃ a, x = .str a ∧ xs = [] ∧ True ∧ Q (.bl (Txt.isdigit a)) H) dIsdigit := by
  intro t a P E Q o hm hq
  exact ⟨a, rfl, rfl, trivial, hq _ _ hm _ t (Gr.refl o) rfl (Rp.bl _)⟩
section
variable {P : D → Nat → Prop} {E : XC → Nat → Prop} {PL : List D → Nat → Prop} {c : Nat} {ρ : Rho} {z b : Str} {ds : List D} {mx my : ME} {n : Int}
def pStr (k : Str → Nat → Prop) : D → Nat → Prop := fun x c => match x with
  | .str a => k a c
  | _ => False
theorem w_pStr {k : Str → Nat → Prop} (h : k z c) : pStr k (.str z) c := h
theorem w_m0 {mo : Str → M D} (h : mx ρ c (pStr fun a c => mo a c P E) E) : mM0 mo mx ρ c P E := h
theorem w_m1 {mo : Str → D → M D} (h : mx ρ c (pStr fun a c => my ρ c (fun y c => mo a y c P E) E) E) : mM1 mo mx my ρ c P E := h
theorem w_join {ys : List Str} (h : P (.str (Txt.join z ys)) c) (h0 : (ys.map (·.length)).sum + ys.length * z.length ≤ 16777216) : dJoin z (.lst (ys.map D.str)) c P E := ⟨ys, rfl, h0, h⟩
theorem w_rstrip (h : P (.str (Txt.rstripChars z b)) c) (h0 : z.length ≤ sizeLine) : dRstrip z (.str b) c P E := ⟨h0, h⟩
theorem w_lstrip (h : P (.str (Txt.lstripChars z b)) c) (h0 : z.length ≤ sizeLine) : dLstrip z (.str b) c P E := ⟨h0, h⟩
theorem w_isdigit (h : P (.bl (Txt.isdigit z)) c) : dIsdigit z c P E := h
theorem w_strmul (h : P (.str (Txt.mul z n)) c) (h0 : MulOk z n) : dStrMul (.str z) (.int n) c P E := ⟨h0, h⟩
theorem w_enumL (h : PL (enumD ds) c) : dEnum [.lst ds] c PL E := h
theorem w_enumS (h : PL (enumD (chD z)) c) : dEnum [.str z] c PL E := h
theorem w_toIS {m : Int} (e : PySem.intText? z = some m) (h : P (.int m) c) (h0 : z.length ≤ 640) : dToInt [.str z] c P E := ⟨m, e, h0, h⟩
theorem w_inS {k : Bool} (h : P (.bl (k ^^ !(Builtin.Str.occurrences b z 0 b.length 1).isEmpty)) c) : dIn k (.str z) (.str b) c P E := h
theorem w_inL {k : Bool} {d : D} (h : P (.bl (k ^^ ds.any fun e => dEqF e d)) c) (h0 : dFlat d = true ∧ ds.all dFlat = true) : dIn k d (.lst ds) c P E := ⟨h0, h⟩
theorem w_inT {k : Bool} {d : D} (h : P (.bl (k ^^ ds.any fun e => dEqF e d)) c) (h0 : dFlat d = true ∧ ds.all dFlat = true) : dIn k d (.tup ds) c P E := ⟨h0, h⟩
theorem w_sum {ns : List Int} (h : P (.int ns.sum) c) : dSum [.lst (ns.map D.int)] c P E := ⟨ns, rfl, h⟩
theorem w_toStr (h : P (.str (toString n : String)) c) (h0 : n.natAbs.log2 < 1920) : dToStr [.int n] c P E := ⟨h0, h⟩
end
end Kq
set_option Elab.async false
set_option linter.all false
set_option maxRecDepth 100000
set_option maxHeartbeats 400000
namespace Kq
open PySem PySem.Spec PyProof.Rows L2 LamX

/-! ### classes: fields that are read and stored -/
/-- which class has which fields (no class attribute of that name) -/
def FldOk (K : PySem.W.Frag) (mg : Str → Option Value) (T : Str → Str → Bool) : Prop := ∀ c f, T c f = true → ∀ C, mg c = some (.ref C) → Cls K C ∧ NoAttr K C f
def mFld (T : Str → Str → Bool) (f : Str) (m : ME) : ME := fun ρ c Q E => m ρ c (fun d c => match d with
  | .ins x fs => T x f = true ∧ ∃ v, fs.lookup f = some v ∧ Q v c
  | _ => False) E
section
variable {j : J} {k : Kd} {a : Expr} {m : ME} {T : Str → Str → Bool} {f : Str} {pos : Pos}
theorem re_fld (hT : FldOk j.g.K j.g.mg T) (ha : RE j k a m) (hb : attributeBase a f j.X.env (eval a j.X.env) = eval a j.X.env := by rfl) : RE j .val (.Attribute a f pos) (mFld T f m) :=
  ⟨(pe_fld ha.pe hb).imp fun σ H Q ⟨ρ, s, P, E, eh, env, hm, hv, hx⟩ => by
    subst eh
    refine ⟨ρ, s, _, E, rfl, env, hm, fun d c h1 v t e ec r => ?_, hx⟩
    subst ec
    match d, h1, r with
    | .ins x fs, ⟨hf, w, hl, hw⟩, r =>
      have rp := RV.rp r (fun _ z => nomatch z)
      cases rp with
      | ins hc hn hF rf =>
        obtain ⟨u, hu, ru⟩ := rf.lookup hl
        obtain ⟨c1, c2⟩ := hT x f hf _ hc
        exact ⟨_, _, _, _, u, rfl, (e.ok.fh _ _ hF (fun _ z => nomatch z)).2 hn, c1, c2, hu, hv w _ hw u t e rfl ru⟩⟩
end
/-- no instance in the making but the first name -/
def notObj : Sl → Bool
  | .obj _ _ => false
  | _ => true
def mPut (T : Str → Str → Bool) (f : Str) (m : ME) : MS := fun ρ c po => m ρ c (fun d c => match ρ with
  | .obj x fs :: r => T x f = true ∧ fs.length < 1000 ∧ r.all notObj = true ∧ po.nx (.obj x (putD f d fs) :: r) c
  | _ => False) po.ex
theorem all_notObj {r : List Sl} (h : r.all notObj = true) {x : Str} {fs : List (Str × D)} (ρ0 : Sl) : ∀ i, i ≠ 0 → ∀ c gs, (ρ0 :: r)[i]? ≠ some (.obj c gs) := by
  intro i hi c gs e
  obtain ⟨k, rfl⟩ : ∃ k, i = k + 1 := ⟨i - 1, by omega⟩
  rw [List.getElem?_cons_succ] at e
  have hm := List.mem_of_getElem? e
  have := List.all_eq_true.mp h _ hm
  cases this
section
variable {j : J} {om : Bool} {T : Str → Str → Bool} {f : Str} {m : ME} {e : Expr} {nm : Str} {p1 p2 pos : Pos}
theorem rs_put (hT : FldOk j.g.K j.g.mg T) (hv0 : PE j.X (.Name nm p1) (tVar 0)) (he : RE j .val e m) (hs : swapsWith e (some (.Attribute (.Name nm p1) f p2)) pos.line j.X.env = pure false := by rfl) :
    RS j om (.Assign [.Attribute (.Name nm p1) f p2] e pos) (mPut T f m) := ⟨(ps_fld hv0 he.pe hs).imp fun Dn σ H ⟨ρ, s, po, eh, env, hm, en⟩ => by
  subst eh
  refine ⟨ρ, s, _, _, rfl, env, hm, fun d c h1 v t e ec r => ?_, en.fin env.h0⟩
  subst ec
  match ρ, h1 with
  | .obj x fs :: rest, ⟨hf, hl, hr, hn⟩ =>
    have env' := env.to e
    have q := env'.sl 0
    obtain ⟨a, C, dx, gs, e1, e2, e3, e4, e5, e6, e7, e8⟩ := q
    obtain ⟨c1, c2⟩ := hT x f hf _ e5
    refine ⟨_, e1, a, C, dx, gs, rfl, e6, c1, c2, by rw [Rpf.length e7]; exact hl, ?_⟩
    have envm := env'.mutO (i := 0) (a := a) (C := C) (dx := dx) (c := x) (gs := gs) (gs' := putF f v gs) (fs := fs) (fs' := putD f d fs) rfl e1 (fun i hi => all_notObj (x := x) (fs := fs) hr _ i hi) e6 e5 (Rpf.put r e7)
    exact en.nx _ _ hn _ (t.lay a (.ins C dx (putF f v gs))) ((Sg.of e env.h0).trans ⟨rfl, Xt.refl _ _, fun _ _ _ _ h => h⟩) rfl envm⟩
end
/-! ### self.f, self.g = e -/
def gAttr (K : PySem.W.Frag) (to : TE) (f : Str) : TG := fun v σ H Q => to σ H fun x H1 => ∃ a C dx fs, x = .ref a ∧ H1 a = some (.ins C dx fs) ∧ Cls K C ∧ NoAttr K C f ∧ fs.length < 1000 ∧ Q σ (upd H1 a (.ins C dx (putF f v fs)))
theorem pg_attr {X : Cx} {o : Expr} {to : TE} {f : Str} {pos : Pos} (ho : PE X o to)
    (ha : ∀ v, assign (.Attribute o f pos) X.env v = (do
      let ov ← holding [v] (eval o X.env)
      standAt pos.atName
      holding [v, ov] (setAttr ov f v)
      release [v, ov] []) := by intro _; rfl) : PG X (.Attribute o f pos) (gAttr X.K to f) := by
  refine ⟨fun pins s σ H v u Q I r h => ?_⟩
  rw [ha]
  refine wpAny_bind (wpAny_holding (thn (ho.run pins s σ H _ I h) fun ov s1 ⟨x, H1, I1, r1, a, C, dx, fs, ex, ea, c, n, l, q1⟩ => ?_))
  subst ex
  obtain rfl : ov = Value.ref a := r1
  refine wpAny_bind (wpAny_standAt (wpAny_bind (wpAny_holding (setattr_ok I1 ea c n l r fun s3 I3 => ?_))))
  exact wpAny_release ⟨σ, _, I3, q1⟩
def mPut2 (T : Str → Str → Bool) (f1 f2 : Str) (m : ME) : MS := fun ρ c po => m ρ c (fun d c => match d, ρ with
  | .tup [d1, d2], .obj x fs :: r => T x f1 = true ∧ T x f2 = true ∧ fs.length < 900 ∧ r.all notObj = true ∧ po.nx (.obj x (putD f2 d2 (putD f1 d1 fs)) :: r) c
  | _, _ => False) po.ex
theorem length_putD (f : Str) (d : D) : ∀ fs : List (Str × D), (putD f d fs).length ≤ fs.length + 1
  | [] => Nat.le_refl _
  | (g, x) :: r => by
    unfold putD
    split
    · show r.length + 1 ≤ _
      simp
    · show (putD f d r).length + 1 ≤ _
      have := length_putD f d r
      simp
      omega
section
variable {j : J} {om : Bool} {T : Str → Str → Bool} {f1 f2 : Str} {m : ME} {e : Expr} {st : Stmt} {to : TE}
/-- two stores by values -/
theorem put2_go {ρr : List Sl} {x : Str} {fs : List (Str × D)} {s t : Sx} {σ : L2.St} {v1 v2 : V} {d1 d2 : D} (hT : FldOk j.g.K j.g.mg T) (hf1 : T x f1 = true) (hf2 : T x f2 = true) (hl : fs.length < 900) (hr : ρr.all notObj = true)
    (env : EnvR j.g j.H0 t σ (.obj x fs :: ρr)) (r1 : Rp j.g t.p t.F v1 d1) (r2 : Rp j.g t.p t.F v2 d2) {Q : L2.St → Hp → Prop}
    (h : ∀ u, u.p = t.p → u.F = t.F → u.c = t.c → EnvR j.g j.H0 u σ (.obj x (putD f2 d2 (putD f1 d1 fs)) :: ρr) → Q σ u.H) :
    gCons (gAttr j.X.K (tVar 0) f1) (gCons (gAttr j.X.K (tVar 0) f2) gNil) [v1, v2] σ t.H Q := by
  have q := env.sl 0
  obtain ⟨a, C, dx, gs, e1, e2, e3, e4, e5, e6, e7, e8⟩ := q
  obtain ⟨c1, n1⟩ := hT x f1 hf1 _ e5
  obtain ⟨_, n2⟩ := hT x f2 hf2 _ e5
  have hgl : gs.length < 900 := by rw [Rpf.length e7]; exact hl
  have hl2 := length_putF f1 v1 gs
  have envm := env.mutO (i := 0) (a := a) (C := C) (dx := dx) (c := x) (gs := gs) (gs' := putF f1 v1 gs) (fs := fs) (fs' := putD f1 d1 fs) rfl e1 (fun i hi => all_notObj (x := x) (fs := fs) hr _ i hi) e6 e5 (Rpf.put r1 e7)
  have envm2 := envm.mutO (i := 0) (a := a) (C := C) (dx := dx) (c := x) (gs := putF f1 v1 gs) (gs' := putF f2 v2 (putF f1 v1 gs)) (fs := putD f1 d1 fs) (fs' := putD f2 d2 (putD f1 d1 fs)) rfl e1 (fun i hi => all_notObj (x := x) (fs := fs) hr _ i hi) upd_same e5 (Rpf.put r2 (Rpf.put r1 e7))
  have fin := h ((t.lay a (.ins C dx (putF f1 v1 gs))).lay a (.ins C dx (putF f2 v2 (putF f1 v1 gs)))) rfl rfl rfl envm2
  have s2 : (gAttr j.X.K (tVar 0) f2) v2 σ (upd t.H a (.ins C dx (putF f1 v1 gs))) (fun σ' H' => gNil [] σ' H' Q) :=
    ⟨_, e1, a, C, dx, putF f1 v1 gs, rfl, upd_same, c1, n2, by omega, rfl, fin⟩
  exact ⟨v1, [v2], rfl, _, e1, a, C, dx, gs, rfl, e6, c1, n1, by omega, v2, [], rfl, s2⟩
theorem rs_put2 (hT : FldOk j.g.K j.g.mg T) (h : ∀ {te : TE}, PE j.X e te → PS j.X st (tAsg te (gTup j.X.K 2 (gCons (gAttr j.X.K (tVar 0) f1) (gCons (gAttr j.X.K (tVar 0) f2) gNil))))) (he : RE j .val e m) :
    RS j om st (mPut2 T f1 f2 m) := ⟨(h he.pe).imp fun Dn σ H ⟨ρ, s, po, eh, env, hm, en⟩ => by
  subst eh
  refine ⟨ρ, s, _, _, rfl, env, hm, fun d c h1 v t e ec r => ?_, en.fin env.h0⟩
  subst ec
  obtain ⟨d1, d2, x, fs, rest, rfl, rfl, hf1, hf2, hl, hr, hn⟩ : ∃ d1 d2 x fs rest, d = .tup [d1, d2] ∧ ρ = .obj x fs :: rest ∧ T x f1 = true ∧ T x f2 = true ∧ fs.length < 900 ∧ rest.all notObj = true ∧ po.nx (.obj x (putD f2 d2 (putD f1 d1 fs)) :: rest) t.c := by
    unfold mPut2 at hm
    clear hm
    split at h1
    · rename_i d1 d2 x fs rest
      exact ⟨d1, d2, x, fs, rest, rfl, rfl, h1⟩
    · exact h1.elim
  obtain ⟨a0, xs, rfl, hS, rxs⟩ := RV.tup r e.ok
  obtain ⟨v1, v2, rfl, r1, r2⟩ : ∃ v1 v2, xs = [v1, v2] ∧ Rp j.g t.p t.F v1 d1 ∧ Rp j.g t.p t.F v2 d2 := by
    cases rxs with
    | cons r1 rr =>
      cases rr with
      | cons r2 rr2 =>
        cases rr2
        exact ⟨_, _, rfl, r1, r2⟩
  have go := put2_go (s := t) hT hf1 hf2 hl hr (env.to e) r1 r2 (Q := Dn.nx) fun u hp hF hc env2 => en.nx _ _ hn _ u ((Sg.of e env.h0).trans ⟨hp, by rw [hF]; exact Xt.refl _ _, fun a o h1 n1 h2 => by rw [hF]; exact h2⟩) hc env2
  exact ⟨a0, [v1, v2], rfl, hS, rfl, go⟩⟩
end
/-! ### __init__ and the making of an instance -/
abbrev jI (P : Program) (w : World) (K : PySem.W.Frag) (mg : Str → Option Value) (T : List (Addr × Str)) (base : Heap) (N : List Str) (qual : Str) (sc : Scope) (f : Addr) (cdv : Value) (A : Around) (outer : List PySem.Env) (s : Shared) (H : Hp) (z : Hz) (E : XK) : J :=
  ⟨cxOf (L2.CX P w) P w K mg base N qual sc f cdv A outer s H E, T, z, fun cls d _ H' => E cls d H'⟩
abbrev IM := List D → M (List (Str × D))
def iniM (n : Nat) (ks : List Kd) (c : Str) (ms : MS) : IM := fun ds k P E => ms (.obj c [] :: rho0 n ks ds) k ⟨fun ρ k => match ρ with
  | .obj x fs :: _ => x = c ∧ P fs k
  | _ => False, fun _ _ => False, fun _ _ => False, fun _ _ => False, E⟩
def spIni (g : Gx) (c : Str) (ks : List Kd) (mf : IM) : Sp := fun vs H Q E => ∃ (x : Addr) (ys : List V), vs = .ref x :: ys ∧ ys.length = ks.length ∧ ∃ (s0 s : Sx) (ds : List D) (P : List (Str × D) → Nat → Prop) (Ex : XC → Nat → Prop) (dx C : Addr),
  H = L2.upd (L2.upd s.H dx (.own x)) x (.ins C dx []) ∧ s.H x = none ∧ s.H dx = none ∧ dx ≠ x ∧ g.mg c = some (.ref C) ∧ Ok g s ∧ RVs g s0 s ks ys ds ∧ mf ds s.c P Ex ∧
  (∀ fs k, P fs k → ∀ t, Gr g s t → t.c = k → Rp g t.p t.F (.ref x) (.ins c fs) → Q .non t.H) ∧ (∀ e k, Ex e k → ∀ cls dd t, Gr g s t → t.c = k → XcR g t cls dd e → E cls dd t.H)
theorem EnvR.cons {g : Gx} {H0 : Hz} {s : Sx} {σ : L2.St} {ρ : Rho} {v : Option V} {x : Sl} (h : EnvR g H0 s σ ρ) (hs : SlotR g H0 s (some v) (some x)) (hn : slOwn (some x) = false) : EnvR g H0 s (v :: σ) (x :: ρ) := by
  refine ⟨h.gr, by rw [List.length_cons, List.length_cons, h.len], fun i => ?_, fun i j l h1 h2 h3 h4 => ?_⟩
  · cases i with
    | zero => exact hs
    | succ i => rw [List.getElem?_cons_succ, List.getElem?_cons_succ]; exact h.sl i
  · cases i with
    | zero => rw [List.getElem?_cons_zero, hn] at h1; cases h1
    | succ i =>
      cases j with
      | zero => rw [List.getElem?_cons_zero, hn] at h2; cases h2
      | succ j =>
        rw [List.getElem?_cons_succ] at h1 h2 h3 h4
        rw [h.ap i j l h1 h2 h3 h4]
section
variable {P : Program} {w : World} {K : PySem.W.Frag} {mg : Str → Option Value} {base : Heap} {T : List (Addr × Str)}
theorem EnvR.hzL {g : Gx} {s0 s : Sx} {q : Option (Addr × Addr × Str)} {σ : L2.St} {ρ : Rho} (h : EnvR g ⟨s0, none, none⟩ s σ ρ) (hv : ∀ x ∈ ρ, ∀ c fs, x ≠ .obj c fs) (hl : ∀ x ∈ ρ, x ≠ .lam) : EnvR g ⟨s0, none, q⟩ s σ ρ := by
  refine ⟨h.gr, h.len, fun i => ?_, h.ap⟩
  have k := h.sl i
  match hr : ρ[i]? with
  | none => exact True.intro
  | some .no => exact True.intro
  | some (.val d) => rw [hr] at k; exact k
  | some (.own ds) => rw [hr] at k; exact k
  | some (.ownd ds) => rw [hr] at k; exact k
  | some (.bor ds) => rw [hr] at k; exact k
  | some (.exc y) => rw [hr] at k; exact k
  | some .lam => exact absurd rfl (hl _ (List.mem_of_getElem? hr))
  | some (.obj c fs) => exact absurd rfl (hv _ (List.mem_of_getElem? hr) c fs)
theorem rho0_plain {n : Nat} : ∀ {ks : List Kd} {ds : List D} {x : Sl}, x ∈ rho0 n ks ds → (∀ c fs, x ≠ .obj c fs) ∧ x ≠ .lam := by
  intro ks ds x hx
  unfold rho0 at hx
  rcases List.mem_append.mp hx with h | h
  · obtain ⟨i, hi, e⟩ := List.mem_iff_getElem.mp h
    rw [List.getElem_zipWith] at e
    rw [← e]
    unfold slOf
    split
    · exact ⟨(fun _ _ z => nomatch z), (fun z => nomatch z)⟩
    · exact ⟨(fun _ _ z => nomatch z), (fun z => nomatch z)⟩
  · rw [(List.mem_replicate.mp h).2]
    exact ⟨(fun _ _ z => nomatch z), (fun z => nomatch z)⟩
theorem ini_ok {x qual c : Str} {st : Stmt} {f : Addr} {fd : FuncData} {n0 : Str} {N ps : List Str} {k : Nat} {ks : List Kd} {ms : MS} (F : Fun K x qual st f fd) (S : FnScope (n0 :: N) ps (defScope st)) (hps : ks.length + 1 = ps.length) (hk : ∀ k ∈ ks, k ≠ .own)
    (hb : ∀ (cdv : Value) (A : Around) (outer : List PySem.Env) (s : Shared) (H : Hp) (z : Hz) (E : XK), Room k (A.deeper (envOfC qual (defScope st) s.heap.objs.size f cdv)) → RSs (jI P w K mg T base (n0 :: N) qual (defScope st) f cdv A outer s H z E) false (defBody st) ms) :
    FnOk P w K mg base (L2.CX P w) (k + 1) f fd ps (spIni ⟨P, w, K, mg, T⟩ c ks (iniM N.length ks c ms)) := by
  have hpl : ps.length ≤ (n0 :: N).length := by have := congrArg List.length S.pre; rw [List.length_take] at this; omega
  refine F.okX S (fun vs H Q E ⟨x, ys, e, hl, _⟩ => by rw [e, List.length_cons, hl]; exact hps) fun cdv A outer s H vs Q E hr ⟨x, ys, ev, hl, s0, sx, ds, Pd, Ex, dx, C, eH, hx0, hdx, hne, hC, o, r, hm, hv, hxx⟩ => ?_
  subst ev eH
  refine ⟨_, (hb cdv A outer s _ ⟨sx, none, some (x, x, "")⟩ E hr).ps, ?_⟩
  have o1 : Ok ⟨P, w, K, mg, T⟩ (sx.lay dx (.own x)) := o.lay hdx
  have hx1 : (sx.lay dx (.own x)).H x = none := by
    show L2.upd sx.H dx (.own x) x = none
    rw [upd_ne hne.symm]
    exact hx0
  have g1 : Gr ⟨P, w, K, mg, T⟩ sx ((sx.lay dx (.own x)).lay x (.ins C dx [])) := (Gr.lay o hdx).trans (Gr.lay o1 hx1)
  have env : EnvR ⟨P, w, K, mg, T⟩ ⟨sx, none, some (x, x, "")⟩ ((sx.lay dx (.own x)).lay x (.ins C dx [])) (L2.start (n0 :: N) (.ref x :: ys)) (.obj c [] :: rho0 N.length ks ds) := by
    have e0 := (env0 (N := N) r hk o (by simp at hpl; omega)).hzL (q := some (x, x, "")) (fun y hy => (rho0_plain hy).1) (fun y hy => (rho0_plain hy).2)
    have e1 := e0.to g1
    have es : L2.start (n0 :: N) (.ref x :: ys) = some (.ref x) :: L2.start N ys := by
      unfold L2.start
      simp
    rw [es]
    exact e1.cons ⟨x, C, dx, [], rfl, o.ne hx0, .of hx0, o.fnone hx0, hC, upd_same, .nil, _, rfl⟩ rfl
  refine ⟨_, _, _, rfl, env, hm, ⟨fun ρ c' q σ t sg ec env => ?_, fun _ _ z => z.elim, fun _ _ z => z.elim, fun _ _ z => z.elim, fun y c' q cls dd σ t sg ec ok h0 rr => hxx y c' q cls dd t ⟨sg.p, sg.ff, sg.p ▸ h0, sg.ap, ok⟩ ec rr⟩⟩
  obtain ⟨fs, rest, eρ, hq⟩ : ∃ fs rest, ρ = .obj c fs :: rest ∧ Pd fs c' := by
    dsimp only at q
    split at q
    · obtain ⟨rfl, q⟩ := q
      exact ⟨_, _, rfl, q⟩
    · exact q.elim
  subst eρ
  obtain ⟨a, C', dx', gs, e1, e2, e3, e4, e5, e6, e7, q0, e8⟩ := env.sl 0
  have ea : a = x := by
    have := (Prod.mk.inj (Option.some.inj e8)).1
    exact this.symm
  subst ea
  have gx : Gr ⟨P, w, K, mg, T⟩ sx t := env.gr
  have gz := gx.frz e3 e2 e4 e6 (fun _ z => nomatch z)
  have hxF : Xt t.p t.F (L2.upd t.F a (.ins C' dx' gs)) := Xt.new e4
  exact hv fs c' hq (t.frz a (.ins C' dx' gs)) gz ec (.ins e5 e2 upd_same (Rpf.mono hxF e7))
end
section
variable {X : Cx} {CXg : CXT} {k : Nat} {f C : Addr} {fd : FuncData} {ps : List Str} {sp : Sp} {E : L2.St → XK} {x m : Str} {p pos apos : Pos} {e o : Expr} {es : List Expr} {ta : TE} {t : TA}
theorem run_makeS {pins : List (Addr × Obj)} {σ : L2.St} {H : Hp} {s : Shared} {Q : VK} {us : List Value} {vs : List V} (Mm : Mk X.K C f) (F : FnOk X.prog X.w X.K X.mg X.base CXg k f fd ps sp) (hr : Room (k + 1) X.A) (hb : Binds X.K fd ps [])
    (hx : PassesAt CXg X σ (E σ)) (I : Inv X pins σ H s) (r : Vals vs us)
    (h : ∀ x dx, H x = none → H dx = none → dx ≠ x → sp (.ref x :: vs) (L2.upd (L2.upd H dx (.own x)) x (.ins C dx [])) (fun v H2 => v = .non ∧ Q (.ref x) H2) (E σ)) :
    wpAny (model X.prog X.w) X.A (call (.ref C) us) (EP X pins σ Q) X.xe s := by
  have hq := h (s.heap.objs.size + 1) s.heap.objs.size (I.hok.fresh (Nat.le_succ _)) (I.hok.fresh (Nat.le_refl _)) (Nat.ne_of_lt (Nat.lt_succ_self _))
  have I2 := Inv.made (C := C) I
  have r2 : Vals (V.ref (s.heap.objs.size + 1) :: vs) (Value.ref (s.heap.objs.size + 1) :: us) := .cons rfl r
  have hl : (Value.ref (s.heap.objs.size + 1) :: us).length = ps.length := by
    have e := r2.length
    rw [F.len _ _ _ _ hq] at e
    exact e.symm
  refine wpAny_call (make_map (f := f) I.kIn Mm.makes Mm.init (beq_iff_eq.mp Mm.fn) (codeAny_mono (F.run _ X.stack _ _ ⟨Value.ref (s.heap.objs.size + 1) :: us, []⟩ (Value.ref (s.heap.objs.size + 1) :: us) _ _ (E σ) (hr.make C us [])
    (I2.env0.make C us []) (by
      have := hb _ (Value.ref (s.heap.objs.size + 1) :: us) I2.kIn (by simpa using hl)
      simpa using this) r2 hq) fun r s' hq' => ?_))
  cases r with
  | error e => exact hx pins _ _ e s' I2 hq'
  | ok fl =>
    cases fl with
    | ret u =>
      obtain ⟨v, H', I3, rv, ev, q3⟩ := I2.after hq'
      subst ev
      exact ⟨rv, ⟨V.ref (s.heap.objs.size + 1), H', I3, rfl, q3⟩⟩
    | next => exact False.elim hq'
    | brk => exact False.elim hq'
    | cont => exact False.elim hq'
def tMakeS (C : Addr) (sp : Sp) (E : L2.St → XK) (t : TA) : TE := fun σ H Q => t σ H fun vs H1 => ∀ x dx, H1 x = none → H1 dx = none → dx ≠ x → sp (.ref x :: vs) (L2.upd (L2.upd H1 dx (.own x)) x (.ins C dx [])) (fun v H2 => v = .non ∧ Q (.ref x) H2) (E σ)
theorem pe_makeS (Mm : Mk X.K C f) (F : FnOk X.prog X.w X.K X.mg X.base CXg k f fd ps sp) (hr : Room (k + 1) X.A) (hg : Gl X x) (hm : X.mg x = some (.ref C)) (hb : Binds X.K fd ps []) (hx : ∀ σ, PassesAt CXg X σ (E σ))
    (ha : PA X (e :: es) t) (hdb : (x == ("__debug__" : Str)) = false := by decide) (he : starEach (e :: es) X.env = (false, eval e X.env) :: starEach es X.env := by rfl) (hpl : (backTo pos (starEach es X.env)).any (·.1) = false := by rfl) :
    PE X (.Call (.Name x p) (e :: es) [] pos) (tMakeS C sp E t) := by
  refine ⟨fun pins s σ H Q I h => ?_⟩
  refine wpAny_Call_Name_kw (ld_glob I hg hm ?_ hdb)
  refine PySem.W.callWith_K (h₀ := X.base) I.ok.mod.kin Mm.kp (thn (ha.run pos pins s σ H _ I h) fun us s1 ⟨vs, H1, I1, r, q⟩ => ⟨I1.kIn, ?_⟩) he hpl
  exact run_makeS Mm F hr hb (hx σ) I1 r q
def tMethS (C : Addr) (m : Str) (sp : Sp) (E : L2.St → XK) (ta : TE) (t : TA) : TE := fun σ H Q => ta σ H fun x H1 => ∃ a dx fs, x = .ref a ∧ H1 a = some (.ins C dx fs) ∧ fs.lookup m = none ∧ t σ H1 fun vs H2 => sp (x :: vs) H2 Q (E σ)
theorem pe_methE {pl : Sem Bool} (he : PE X o ta) (c : Cls X.K C) (hm : Meth X.K C m f) (F : FnOk X.prog X.w X.K X.mg X.base CXg k f fd ps sp) (hr : Room k X.A) (hb : Binds X.K fd ps []) (hx : ∀ σ, PassesAt CXg X σ (E σ)) (ha : PA X (e :: es) t)
    (hst : starEach (e :: es) X.env = (false, eval e X.env) :: starEach es X.env := by rfl) (hpl : (backTo pos (starEach es X.env)).any (·.1) = false := by rfl)
    (ht : eval (.Call (.Attribute o m apos) (e :: es) [] pos) X.env = (do
      let ov ← eval o X.env
      standAt apos.atName
      let (f, first) ← holding [ov] (getMethod ov m pl)
      callWith pos f first (backTo pos (starEach (e :: es) X.env)) (backToKw pos (keywordEach [] X.env))) := by rfl) :
    PE X (.Call (.Attribute o m apos) (e :: es) [] pos) (tMethS C m sp E ta t) := by
  refine ⟨fun pins s σ H Q I h => ?_⟩
  refine PySem.W.methodCall_KW (pl := pl) (thn (he.run pins s σ H _ I h) fun u s1 ⟨x, H1, I1, rx, a, dx, fs, ex, ea, l, q⟩ => ?_) ht
  subst ex
  obtain rfl : u = Value.ref a := rx
  refine getmeth_ok I1 ea c hm l ?_
  refine PySem.W.callWith_K (first := [.ref a]) (h₀ := X.base) I.ok.mod.kin hm.kp (thn (ha.run pos pins s1 σ H1 _ I1 q) fun us s2 ⟨vs, H2, I2, r, q2⟩ => ⟨I2.kIn, ?_⟩) hst hpl
  exact run_fnS (us := .ref a :: us) (vs := .ref a :: vs) F hr hb (hx σ) I2 (.cons rfl r) q2
end
/-- a class and its __init__ -/
structure CalC (P : Program) (w : World) (K : PySem.W.Frag) (mg : Str → Option Value) (base : Heap) (T : List (Addr × Str)) (x : Str) (k : Nat) (ks : List Kd) (mf : IM) : Prop where
  ex : ∃ (C f : Addr) (fd : FuncData) (ps : List Str), mg x = some (.ref C) ∧ Mk K C f ∧ Binds K fd ps [] ∧ FnOk P w K mg base (L2.CX P w) k f fd ps (spIni ⟨P, w, K, mg, T⟩ x ks mf)
/-- a method -/
structure CalM (P : Program) (w : World) (K : PySem.W.Frag) (mg : Str → Option Value) (base : Heap) (T : List (Addr × Str)) (x m : Str) (k : Nat) (ks : List Kd) (om : Bool) (mf : FM) : Prop where
  ex : ∃ (C f : Addr) (fd : FuncData) (ps : List Str), mg x = some (.ref C) ∧ Cls K C ∧ Meth K C m f ∧ Binds K fd ps [] ∧ FnOk P w K mg base (L2.CX P w) k f fd ps (spOf ⟨P, w, K, mg, T⟩ (.val :: ks) om mf)
def mMake (x : Str) (mf : IM) (ma : MA) : ME := fun ρ c Q E => ma ρ c (fun ds c => mf ds c (fun fs c => Q (.ins x fs) c) E) E
def mMeth (x m : Str) (mf : FM) (mo : ME) (ma : MA) : ME := fun ρ c Q E => mo ρ c (fun d c => match d with
  | .ins y fs => y = x ∧ fs.lookup m = none ∧ ma ρ c (fun ds c => mf (d :: ds) c Q E) E
  | _ => False) E
section
variable {j : J} {k n : Nat} {kd : Kd} {ks : List Kd} {om : Bool} {mi : IM} {mf : FM} {x m : Str} {p pos apos : Pos} {e o : Expr} {es : List Expr} {mas : MA} {mo : ME}
theorem re_make (G : CalC j.X.prog j.X.w j.X.K j.X.mg j.X.base j.T x k ks mi) (hr : Room n j.X.A) (hk : k + 1 ≤ n) (tk : Takes j.X j.W) (hg : Gl j.X x) (ha : RA j ks (e :: es) mas)
    (hdb : (x == ("__debug__" : Str)) = false := by decide) (he : starEach (e :: es) j.X.env = (false, eval e j.X.env) :: starEach es j.X.env := by rfl) (hpl : (backTo pos (starEach es j.X.env)).any (·.1) = false := by rfl) :
    RE j .val (.Call (.Name x p) (e :: es) [] pos) (mMake x mi mas) := by
  obtain ⟨C, f, fd, ps, hm, Mm, hb, F⟩ := G.ex
  exact ⟨(pe_makeS Mm F (hr.mono hk) hg hm hb (fun σ => passAt tk σ) ha.pa hdb he hpl).imp fun σ H Q ⟨ρ, s, P, E, eh, env, hm', hv, hx⟩ => by
    subst eh
    refine ⟨ρ, s, _, E, rfl, env, hm', fun ds c hd vs t e ec r => ?_, hx⟩
    subst ec
    intro a dx ha hdx hne
    exact ⟨a, vs, rfl, r.length.1, s, t, ds, _, E, dx, C, rfl, ha, hdx, hne, hm, e.ok, r, hd, fun fs k hP u gu eu rp => ⟨rfl, hv (.ins x fs) k hP (.ref a) u (e.trans gu) eu rp⟩, fun y k' hy cls dd u gu eu xr => hx y k' hy cls dd u (e.trans gu) eu xr⟩⟩
theorem re_meth {pl : Sem Bool} (G : CalM j.X.prog j.X.w j.X.K j.X.mg j.X.base j.T x m k ks om mf) (hr : Room n j.X.A) (hk : k ≤ n) (tk : Takes j.X j.W) (ho : RE j kd o mo) (ha : RA j ks (e :: es) mas)
    (hst : starEach (e :: es) j.X.env = (false, eval e j.X.env) :: starEach es j.X.env := by rfl) (hpl : (backTo pos (starEach es j.X.env)).any (·.1) = false := by rfl)
    (ht : eval (.Call (.Attribute o m apos) (e :: es) [] pos) j.X.env = (do
      let ov ← eval o j.X.env
      standAt apos.atName
      let (f, first) ← holding [ov] (getMethod ov m pl)
      callWith pos f first (backTo pos (starEach (e :: es) j.X.env)) (backToKw pos (keywordEach [] j.X.env))) := by rfl) :
    RE j (rk om) (.Call (.Attribute o m apos) (e :: es) [] pos) (mMeth x m mf mo mas) := by
  obtain ⟨C, f, fd, ps, hm, hc, hM, hb, F⟩ := G.ex
  exact ⟨(pe_methE ho.pe hc hM F (hr.mono hk) hb (fun σ => passAt tk σ) ha.pa hst hpl ht).imp fun σ H Q ⟨ρ, s, P, E, eh, env, hm', hv, hx⟩ => by
    subst eh
    refine ⟨ρ, s, _, E, rfl, env, hm', fun d c hd v t1 g1 ec r1 => ?_, hx⟩
    subst ec
    match d, hd, r1 with
    | .ins y fs, ⟨hy, hl, hd3⟩, r1 =>
      subst hy
      have rp := RV.rp r1 (fun _ z => nomatch z)
      cases rp with
      | @ins a C' dx c gs _ hc' hn hF rf =>
        have hm2 : j.g.mg y = some (.ref C) := hm
        rw [hm2] at hc'
        cases hc'
        refine ⟨a, dx, gs, rfl, (g1.ok.fh _ _ hF (fun _ z => nomatch z)).2 hn, rf.none hl, ρ, t1, _, E, rfl, env.to g1, hd3, fun ds c hd2 vs t2 g2 ec2 r2 => ?_, hx.gr g1⟩
        subst ec2
        have rself : RV .val j.g t1 t2 (.ref a) (.ins y fs) := by
          show Rp j.g t2.p t2.F (.ref a) (.ins y fs)
          have hp := g2.p
          rw [hp]
          exact Rp.mono g2.ff (.ins hm2 hn hF rf)
        have rall : RVs j.g t1 t2 (.val :: ks) (.ref a :: vs) (.ins y fs :: ds) := .cons rself r2
        exact ⟨by rw [List.length_cons, List.length_cons, r2.length.1], t1, t2, _, P, E, rfl, g2.ok, rall, hd2, fun d c hd v u eu ec rr => hv d c hd v u ((g1.trans g2).trans eu) ec (rr.back (g1.trans g2)), fun y c q cls dd u eu ec rr => hx y c q cls dd u ((g1.trans g2).trans eu) ec rr⟩⟩
end
end Kq
set_option Elab.async false
set_option linter.all false
set_option maxRecDepth 100000
set_option maxHeartbeats 400000
namespace Kq
open PySem PySem.Spec PyProof.Rows L2 LamX

/-! ### isinstance with own classes -/
structure ClsI (K : PySem.W.Frag) (C : Addr) : Prop where
  cl : Cls K C
  ha : PySem.W.findIn K (.ref C) "__class__" = some (some (.builtin "object.__class__"))
  hn : PySem.W.specialIn K (.builtin "object.__class__") "__get__" = some (some (.builtin "getset_descriptor.__get__"))
  htk : PySem.W.takesIn K (.builtin "object.__class__") = some true
  hm : PySem.W.mroIn K C (.type "object") = some true
def bltN : List String := ["NoneType", "bool", "int", "str", "tuple", "list", "dict"]
structure IsiOk (K : PySem.W.Frag) (mg : Str → Option Value) (cls : Str → Bool) (sub : Str → Str → Option Bool) : Prop where
  ins : ∀ y, cls y = true → ∀ C, mg y = some (.ref C) → ClsI K C
  pair : ∀ y x r, sub y x = some r → ∀ C Dd, mg y = some (.ref C) → mg x = some (.ref Dd) → PySem.W.kitOne K (.ref C) (.ref Dd) = some r
  blt : ∀ x, cls x = true → ∀ Dd, mg x = some (.ref Dd) → ∀ n ∈ bltN, PySem.W.kitOne K (.type n) (.ref Dd) = some false
  ity : ∀ y, cls y = true → ∀ C, mg y = some (.ref C) → ∀ n ∈ bltN, PySem.W.kitOne K (.ref C) (.type n) = some false
theorem tyx_ins {j : J} {k : Kd} {s t : Sx} {v : V} {y : Str} {fs : List (Str × D)} (h : RV k j.g s t v (.ins y fs)) (o : Ok j.g t) (hc : ∀ C, j.g.mg y = some (.ref C) → ClsI j.g.K C) : ∃ C, j.g.mg y = some (.ref C) ∧ TyX j.g.K t.H v (.ref C) ∧ ∃ a dx gs, v = .ref a ∧ t.H a = some (.ins C dx gs) := by
  have rp := h.rp (fun _ z => nomatch z)
  cases rp with
  | @ins a C dx c gs _ hm hn hF rf =>
    have hH := (o.fh _ _ hF (fun _ z => nomatch z)).2 hn
    have q := hc C hm
    exact ⟨C, hm, .base (.ins hH q.cl q.ha q.hn q.htk q.hm), a, dx, gs, rfl, hH⟩
def dIsiC (cls : Str → Bool) (sub : Str → Str → Option Bool) : List D → M D
  | [d, .gl x] => match d with
    | .ins y _ => fun c Q _ => ∃ r, cls y = true ∧ sub y x = some r ∧ Q (.bl r) c
    | d => fun c Q _ => ∃ t, tyN d = some t ∧ t ∈ bltN ∧ cls x = true ∧ Q (.bl false) c
  | [d, .ty n] => match d with
    | .ins y _ => grd (cls y = true ∧ n ∈ bltN) (ret (.bl false))
    | d => dIsi [d, .ty n]
  | _ => stuck
theorem inv_gl {g : Gx} {k : Kd} {s t : Sx} {v : V} {x : Str} (h : RV k g s t v (.gl x)) : ∃ a, v = .ref a ∧ g.mg x = some (.ref a) := by
  cases h.rp (fun _ z => nomatch z) with
  | gl hm => exact ⟨_, rfl, hm⟩
theorem inv_ty {g : Gx} {k : Kd} {s t : Sx} {v : V} {x : String} (h : RV k g s t v (.ty x)) : v = .ty x := by
  cases h.rp (fun _ z => nomatch z) with
  | ty => rfl
section
variable {j : J} {ks : List Kd} {cls : Str → Bool} {sub : Str → Str → Option Bool}
theorem cam_isiC (F : IsiOk j.g.K j.g.mg cls sub) : CaM j.g ks .val (rIsi j.g.K) (dIsiC cls sub) := by
  intro s1 t xs ds P E Q hx o hm hq
  obtain ⟨d, e, rfl⟩ : ∃ d e, ds = [d, e] := by
    unfold dIsiC at hm
    split at hm
    · exact ⟨_, _, rfl⟩
    · exact ⟨_, _, rfl⟩
    · exact hm.elim
  obtain ⟨k1, x, k2, y, rfl, h1, h2⟩ := inv_rvs2 hx
  match e, hm, h2, hx with
  | .gl z, hm, h2, hx =>
    obtain ⟨C2, rfl, hm2⟩ := inv_gl h2
    by_cases hi : ∃ y fs, d = .ins y fs
    · obtain ⟨y, fs, rfl⟩ := hi
      obtain ⟨r, hc, hs, hP⟩ := hm
      obtain ⟨C, hC, ty, _⟩ := tyx_ins h1 o (F.ins y hc)
      exact ⟨x, .ref C2, .ref C, .ref C2, r, rfl, .own C2, ty, F.pair y z r hs C C2 hC hm2, hq _ _ hP _ t (Gr.refl o) rfl (Rp.bl _)⟩
    · have hm' : ∃ tt, tyN d = some tt ∧ tt ∈ bltN ∧ cls z = true ∧ P (.bl false) t.c := by
        cases d with
        | ins y fs => exact absurd ⟨y, fs, rfl⟩ hi
        | _ => exact hm
      obtain ⟨tt, e1, e2, e3, hP⟩ := hm'
      exact ⟨x, .ref C2, .type tt, .ref C2, false, rfl, .own C2, tyx_of h1 o e1, F.blt z e3 C2 hm2 tt e2, hq _ _ hP _ t (Gr.refl o) rfl (Rp.bl _)⟩
  | .ty n, hm, h2, hx =>
    obtain rfl := inv_ty h2
    by_cases hi : ∃ y fs, d = .ins y fs
    · obtain ⟨y, fs, rfl⟩ := hi
      obtain ⟨⟨hc, hn⟩, hP⟩ := hm
      obtain ⟨C, hC, ty, _⟩ := tyx_ins h1 o (F.ins y hc)
      exact ⟨x, .ty n, .ref C, .type n, false, rfl, .ty n, ty, F.ity y hc C hC n hn, hq _ _ hP _ t (Gr.refl o) rfl (Rp.bl _)⟩
    · have hm' : dIsi [d, .ty n] t.c P E := by
        cases d with
        | ins y fs => exact absurd ⟨y, fs, rfl⟩ hi
        | _ => exact hm
      exact cam_isi hx o hm' hq
end
/-! ### == by an own __eq__ -/
section
variable {X : Cx} {CXg : CXT} {n : Nat} {C f : Addr} {fd : FuncData} {ps : List Str} {sp : Sp} {E : XK}
def rEqO (K : PySem.W.Frag) (C : Addr) (sp : Sp) (E : XK) : R2 := fun x y H Q => ∃ a dx fs tb, x = .ref a ∧ H a = some (.ins C dx fs) ∧ TyX K H y tb ∧ PySem.W.notFirst K C tb = true ∧ sp [x, y] H (fun v H' => (∃ b, v = .bl b) ∧ Q v H') E
theorem op_eqO (F : FnOk X.prog X.w X.K X.mg X.base CXg n f fd ps sp) (hr : Room n X.A) (hs : PySem.W.findIn X.K (.ref C) "__eq__" = some (some (.ref f))) (hf : PySem.W.isFn X.K (.ref f) = true) (hb : Binds X.K fd ps []) (hx : Passes CXg X E) :
    OpR X (compareOp .Eq) (rEqO X.K C sp E) := by
  intro pins s σ H x y v u Q I rx ry hq
  obtain ⟨a, dx, fs, tb, rfl, ha, ty, hn, hsp⟩ := hq
  cases rx
  obtain ⟨mA, J, _⟩ := ins_get I.hok ha
  obtain ⟨od, J, _⟩ := J.look
  obtain ⟨m, hF⟩ := I.fr
  obtain ⟨Pz, Z, pz, _⟩ := kit_of I ry ty
  show wpAny (model X.prog X.w) X.A (richCompare .Eq (.ref a) u) (EP X pins σ Q) X.xe s
  refine PySem.W.cmp_K (op := .Eq) (tb := tb) hr.units0 hF I.ok.mod.kin J (Z.ty _ _ I.kIn pz) hn hs hf ?_
  have hl := F.len _ _ _ _ hsp
  have r2 : Vals [V.ref a, y] [Value.ref a, u] := .cons rfl (.cons ry .nil)
  refine wpAny_call (codeAny_mono (F.run X.A X.stack s H ⟨[.ref a, u], []⟩ [.ref a, u] [.ref a, y] _ E hr I.env0 (by
    have := hb s [.ref a, u] I.kIn (by simpa using hl)
    simpa using this) r2 hsp) fun r s' hq => ?_)
  cases r with
  | error e => exact hx pins σ H s e s' I hq
  | ok fl =>
    cases fl with
    | ret w =>
      obtain ⟨z, H', I', rz, ⟨b, ez⟩, hQ⟩ := I.after hq
      subst ez
      obtain rfl : w = Value.bool b := rz
      exact ⟨.bl b, H', I', rfl, hQ⟩
    | next => exact False.elim hq
    | brk => exact False.elim hq
    | cont => exact False.elim hq
end
/-- a class with its own == -/
structure CalE (P : Program) (w : World) (K : PySem.W.Frag) (mg : Str → Option Value) (base : Heap) (T : List (Addr × Str)) (x : Str) (k : Nat) (mf : FM) : Prop where
  ex : ∃ (C f : Addr) (fd : FuncData) (ps : List Str), mg x = some (.ref C) ∧ PySem.W.findIn K (.ref C) "__eq__" = some (some (.ref f)) ∧ PySem.W.isFn K (.ref f) = true ∧ Binds K fd ps [] ∧
    FnOk P w K mg base (L2.CX P w) k f fd ps (spOf ⟨P, w, K, mg, T⟩ [.val, .val] false mf)
/-- x == y, x an instance of the class; nothing is raised -/
def dEqO (cls : Str → Bool) (x : Str) (mf : FM) (n : Bool) (d e : D) : M D := fun c Q _ => ∃ fs, d = .ins x fs ∧ ((∃ gs, e = .ins x gs) ∨ ∃ t, tyN e = some t ∧ t ∈ bltN) ∧ mf [d, e] c (fun r c => ∃ b, r = .bl b ∧ Q (.bl (n ^^ b)) c) (fun _ _ => False)
section
variable {j : J} {cls : Str → Bool} {sub : Str → Str → Option Bool} {x : Str} {k n : Nat} {mf : FM} {ka kb : Kd} {a b e : Expr} {ma mb : ME} {pos : Pos}
theorem notFirst_blt {K : PySem.W.Frag} {C : Addr} {t : String} (h : PySem.W.kitOne K (.type t) (.ref C) = some false) : PySem.W.notFirst K C (.type t) = true := by
  unfold PySem.W.kitOne at h
  unfold PySem.W.notFirst
  rw [if_neg (by simp)] at h
  unfold PySem.W.kitCls at h
  dsimp only at h
  split at h
  · rw [h]
    simp
  · cases h
theorem eqO_rule (G : CalE j.X.prog j.X.w j.X.K j.X.mg j.X.base j.T x k mf) (F : IsiOk j.g.K j.g.mg cls sub) (hc : cls x = true) (hr : Room n j.X.A) (hk : k ≤ n) (hx : Passes (L2.CX j.X.prog j.X.w) j.X (fun _ _ _ => False)) :
    ∃ r, OpR j.X (compareOp .Eq) r ∧ OpM j.g .val .val .val r (dEqO cls x mf false) := by
  obtain ⟨C, f, fd, ps, hm, hs, hf, hbd, FF⟩ := G.ex
  refine ⟨_, op_eqO FF (hr.mono hk) hs hf hbd hx, ?_⟩
  intro s1 s2 t xv yv dx dy P E Q h1 h2 o hmm hq
  obtain ⟨fs, rfl, ht, hmf⟩ := hmm
  obtain ⟨C', hC', _, av, dxv, gs, rfl, hH⟩ := tyx_ins h1 o (F.ins x hc)
  have hC2 : j.g.mg x = some (.ref C) := hm
  rw [hC2] at hC'
  cases hC'
  have r1 : Rp j.g t.p t.F (.ref av) (.ins x fs) := h1
  have r2 : Rp j.g t.p t.F yv dy := h2
  obtain ⟨tb, htb, hnf⟩ : ∃ tb, TyX j.g.K t.H yv tb ∧ PySem.W.notFirst j.g.K C tb = true := by
    rcases ht with ⟨gs2, rfl⟩ | ⟨tt, e1, e2⟩
    · obtain ⟨C2, hC2', ty, _⟩ := tyx_ins h2 o (F.ins x hc)
      rw [hC2] at hC2'
      cases hC2'
      exact ⟨_, ty, by unfold PySem.W.notFirst; simp⟩
    · exact ⟨_, tyx_of h2 o e1, notFirst_blt (F.blt x hc C hC2 tt e2)⟩
  have rr : RVs j.g t t [.val, .val] [.ref av, yv] [.ins x fs, dy] := .cons r1 (.cons r2 .nil)
  refine ⟨av, dxv, gs, tb, rfl, hH, htb, hnf, rfl, t, t, _, _, _, rfl, o, rr, hmf, fun d c hP v u gu eu rv => ?_, fun _ _ z => z.elim⟩
  obtain ⟨b, rfl, hPb⟩ := hP
  have hv : v = .bl b := by
    have : Rp j.g u.p u.F v (.bl b) := rv
    cases this with
    | bl => rfl
  subst hv
  refine ⟨⟨b, rfl⟩, hq (.bl b) c ?_ (.bl b) u gu eu (Rp.bl b)⟩
  have e0 : (false ^^ b) = b := by cases b <;> rfl
  rw [e0] at hPb
  exact hPb
theorem re_eqO (h : ∃ r, OpR j.X (compareOp .Eq) r ∧ OpM j.g .val .val .val r (dEqO cls x mf false)) (ha : RE j .val a ma) (hb : RE j .val b mb)
    (hmk : ∀ {r : R2}, OpR j.X (compareOp .Eq) r → ∀ {ta tb : TE}, PE j.X a ta → PE j.X b tb → PE j.X e (tOp r ta tb)) : RE j .val e (mBin (dEqO cls x mf false) ma mb) := by
  obtain ⟨r, h1, h2⟩ := h
  exact re_bin (hmk h1) h2 ha hb
theorem rt_eqO (h : ∃ r, OpR j.X (compareOp .Eq) r ∧ OpM j.g .val .val .val r (dEqO cls x mf false)) (ha : RE j .val a ma) (hb : RE j .val b mb)
    (hmk : ∀ {r : R2}, OpR j.X (compareOp .Eq) r → ∀ {ta tb : TE}, PE j.X a ta → PE j.X b tb → PT j.X e (tTest (tOp r ta tb))) : RT j e (mTst (mBin (dEqO cls x mf false) ma mb)) := by
  obtain ⟨r, h1, h2⟩ := h
  exact rt_bin (hmk h1) h2 ha hb
end
/-! ### a field of the instance in the making; constants of the module -/
def mFldO (T : Str → Str → Bool) (f : Str) : ME := fun ρ c Q _ => match ρ with
  | .obj x fs :: _ => T x f = true ∧ ∃ v, fs.lookup f = some v ∧ Q v c
  | _ => False
theorem re_fldO {j : J} {T : Str → Str → Bool} {f nm : Str} {p1 pos : Pos} (hT : FldOk j.g.K j.g.mg T) (hv0 : PE j.X (.Name nm p1) (tVar 0)) (hb : attributeBase (.Name nm p1) f j.X.env (eval (.Name nm p1) j.X.env) = eval (.Name nm p1) j.X.env := by rfl) : RE j .val (.Attribute (.Name nm p1) f pos) (mFldO T f) :=
  ⟨(pe_fld hv0 hb).imp fun σ H Q ⟨ρ, s, P, E, eh, env, hm, hv, hx⟩ => by
    subst eh
    match ρ, hm, env with
    | .obj x fs :: rest, ⟨hf, w, hl, hw⟩, env =>
      obtain ⟨a, C, dx, gs, e1, e2, e3, e4, e5, e6, e7, e8⟩ := env.sl 0
      obtain ⟨c1, c2⟩ := hT x f hf _ e5
      obtain ⟨u, hu, ru⟩ := e7.lookup hl
      exact ⟨_, e1, a, C, dx, gs, u, rfl, e6, c1, c2, hu, hv w s.c hw u s (Gr.refl env.ok) rfl ru⟩⟩
/-- a constant of the module -/
def GlT (K : PySem.W.Frag) (mg : Str → Option Value) (x : Str) (d : D) : Prop := ∃ (v : V) (u : Value), mg x = some u ∧ RelV v u ∧ ∀ (g : Gx) (p : Addr) (F : Hp), g.K = K → Rp g p F v d
theorem re_const {j : J} {x : Str} {d : D} {pos : Pos} (hg : Gl j.X x) (h : GlT j.X.K j.X.mg x d) (hdb : (x == ("__debug__" : Str)) = false := by decide) : RE j .val (.Name x pos) (mC d) := by
  obtain ⟨v, u, h1, h2, h3⟩ := h
  exact re_c (pe_glob hg h1 h2 hdb) fun p F => h3 _ p F rfl
/-- a tuple of texts of the written part -/
theorem gl_texts {K : PySem.W.Frag} {mg : Str → Option Value} {x : Str} {a : Addr} {o : Obj} {its : Array Value} {n : Nat} {zs : List Str} (hm : mg x = some (.ref a)) (h1 : K.lookup a = some o) (h2 : o.cls = .type "tuple") (h3 : o.data = .seq its n) (h4 : its.size ≤ sizeLine)
    (h5 : Vals (zs.map V.str) its.toList) : GlT K mg x (.tup (zs.map D.str)) := by
  refine ⟨.ref a, .ref a, hm, rfl, fun g p F hK => ?_⟩
  subst hK
  refine .tup (.inr ⟨o, its, n, h1, h2, h3, h4, h5⟩) ?_
  clear h5 h4 h3 h2 h1
  induction zs with
  | nil => exact .nil
  | cons z zs ih => exact .cons (.str z) ih
theorem gl_int {K : PySem.W.Frag} {mg : Str → Option Value} {x : Str} {i : Int} {t : Tok} (hm : mg x = some (.int i t)) : GlT K mg x (.int i) := ⟨.int i, _, hm, ⟨t, rfl⟩, fun _ _ _ _ => .int i⟩
/-! ### list(text) -/
def chV (z : Str) : List V := z.cps.toList.map fun c => V.str ⟨#[c]⟩
theorem call_list_strV {X : Cx} (hc : X.calm = true) : CallR X (.type "list") (fun xs H Q => ∃ z, xs = [.str z] ∧ z.length ≤ sizeLine ∧ ∀ p, H p = none → Q (.ref p) (L2.upd H p (.lst (chV z)))) := by
  intro pins s σ H xs us Q I r h
  obtain ⟨z, e, hz, q⟩ := h
  subst e
  obtain ⟨u, eu, rx⟩ := vals1 r
  subst eu
  obtain ⟨t, rfl⟩ := rx
  refine call_list_str (I.ok.hd hc) z t (hn := hz) fun h' tk acc' c' hkeep hS hacc => ?_
  have hl : (chV z).length = z.cps.size := by unfold chV; rw [List.length_map, Array.length_toList]
  refine ⟨.ref s.heap.objs.size, L2.upd H s.heap.objs.size (.lst (chV z)), I.laid hkeep (Nat.le_refl _) (show ObjOk X.prog X.w _ _ _ (.lst (chV z)) from ⟨?_, acc'.toList, c', ?_, ?_⟩), rfl, q _ (I.hok.fresh (Nat.le_refl _))⟩
  · rw [hl]; exact hz
  · have el : acc'.toList.length = acc'.size := by simp
    refine vals_of_at (by rw [hl, el, hacc.1]) fun j x w h1 h2 => ?_
    obtain ⟨c, u, hc, rfl⟩ := hacc.2 j w (by rw [← Array.getElem?_toList]; exact h2)
    unfold chV at h1
    rw [List.getElem?_map, Array.getElem?_toList, hc] at h1
    cases h1
    exact ⟨u, rfl⟩
  · rw [Array.toArray_toList]; exact hS
def dToListS : List D → M D
  | [.lst ds] => ret (.lst ds)
  | [.tup ds] => ret (.lst ds)
  | [.str z] => grd (z.length ≤ sizeLine) (ret (.lst (chD z)))
  | _ => stuck
def rToListS (K : PySem.W.Frag) : List V → Hp → VK → Prop := fun xs H Q => (∃ p ys, xs = [.ref p] ∧ (SqL K H p ys ∨ SqT K H p ys) ∧ ∀ l, H l = none → Q (.ref l) (L2.upd H l (.lst ys))) ∨ ∃ z, xs = [.str z] ∧ z.length ≤ sizeLine ∧ ∀ p, H p = none → Q (.ref p) (L2.upd H p (.lst (chV z)))
theorem call_listS {X : Cx} (hc : X.calm = true) : CallR X (.type "list") (rToListS X.K) := call_list_of.or (call_list_strV hc)
theorem rps_ch {g : Gx} {p : Addr} {F : Hp} (z : Str) : Rps g p F (chV z) (chD z) := by
  unfold chV chD
  induction z.cps.toList with
  | nil => exact .nil
  | cons c r ih => exact .cons (.str _) ih
theorem cam_listS {j : J} {ks : List Kd} : CaM j.g ks .own (rToListS j.g.K) dToListS := by
  intro s1 t xs ds P E Q hx o hm hq
  match ds, hm, hx with
  | [.lst ds], hm, hx => exact .inl (cam_toList (ks := ks) hx o hm hq)
  | [.tup ds], hm, hx => exact .inl (cam_toList (ks := ks) hx o hm hq)
  | [.str z], hm, hx =>
    obtain ⟨k, x, rfl, h1⟩ := inv_rvs1 hx
    obtain rfl := inv_str h1
    refine .inr ⟨z, rfl, hm.1, fun p hp => ?_⟩
    have n := new_own (g := j.g) o hp (rps_ch z)
    exact hq _ _ hm.2 _ (t.lay p (.lst (chV z))) n.1 rfl n.2
/-! ### {'k': v}, of constants, that nobody reads -/
theorem upd_upd {H : Hp} {p : Addr} {o u : HO} : L2.upd (L2.upd H p o) p u = L2.upd H p u := by
  funext a
  by_cases h : a = p
  · subst h
    rw [upd_same, upd_same]
  · rw [upd_ne h, upd_ne h, upd_ne h]
theorem re_dic1 {j : J} {kx vx : Expr} {z : Str} {v : V} {pos : Pos} (hk : PE j.X kx (tC (.str z))) (hv : PE j.X vx (tC v)) : RE j .val (.Dict [some kx] [vx] pos) (mC .dic) :=
  ⟨(pe_disp (pps_cons hk hv pps_nil) rfl rfl (by simp) (by simp)).imp fun σ H Q ⟨ρ, s, P, E, eh, env, hm, hq, hx⟩ => by
    subst eh
    intro p hp
    refine ⟨upd_same, [(.inr z, v)], rfl, by simp, ?_⟩
    have hn := env.ok.ne hp
    have := hq .dic s.c hm (.ref p) (s.put p (.dK (mergeK [] [(.inr z, v)]))) (Gr.put env.ok hp (fun _ z => nomatch z)) rfl (.dic hn upd_same)
    rw [upd_upd]
    exact this⟩
end Kq
set_option Elab.async false
set_option linter.all false
set_option maxRecDepth 100000
set_option maxHeartbeats 400000
namespace Kq
open PySem PySem.Spec PyProof.Rows L2 LamX
/-! ### tables of a text's classes -/
def tabT (l : List (Str × List Str)) (c f : Str) : Bool := l.any fun p => p.1 == c && p.2.contains f
def clsT (l : List Str) (c : Str) : Bool := l.contains c
def subT (l : List ((Str × Str) × Bool)) (y x : Str) : Option Bool := l.lookup (y, x)
section
variable {K : PySem.W.Frag} {mg : Str → Option Value}
theorem fld_mk {l : List (Str × List Str)} (h : ∀ p ∈ l, ∃ C, mg p.1 = some (.ref C) ∧ Cls K C ∧ ∀ f ∈ p.2, NoAttr K C f) : FldOk K mg (tabT l) := by
  intro c f hT C hC
  unfold tabT at hT
  obtain ⟨p, hp, hq⟩ := List.any_eq_true.mp hT
  rw [Bool.and_eq_true] at hq
  have e1 : p.1 = c := eq_of_beq hq.1
  have e2 : f ∈ p.2 := List.contains_iff_mem.mp hq.2
  obtain ⟨C0, h1, h2, h3⟩ := h p hp
  rw [e1, hC] at h1
  cases h1
  exact ⟨h2, h3 f e2⟩
theorem lookup_mem {α β : Type} [BEq α] [LawfulBEq α] {l : List (α × β)} {a : α} {b : β} (h : l.lookup a = some b) : (a, b) ∈ l := by
  induction l with
  | nil => cases h
  | cons p r ih =>
    obtain ⟨x, y⟩ := p
    unfold List.lookup at h
    split at h
    · rename_i e
      cases h
      rw [eq_of_beq e]
      exact List.mem_cons_self ..
    · exact List.mem_cons_of_mem _ (ih h)
theorem sub_mk {l : List ((Str × Str) × Bool)} (h : ∀ q ∈ l, ∀ C Dd, mg q.1.1 = some (.ref C) → mg q.1.2 = some (.ref Dd) → PySem.W.exmOne K (.ref C) (.ref Dd) = some q.2) : SubOk K mg (subT l) :=
  fun x hh C Dh b hs hx hD => h _ (lookup_mem hs) C Dh hx hD
theorem isi_mk {l : List Str} {s : List ((Str × Str) × Bool)} (h : ∀ c ∈ l, ∃ C, mg c = some (.ref C) ∧ ClsI K C ∧ (∀ n ∈ bltN, PySem.W.kitOne K (.type n) (.ref C) = some false) ∧ ∀ n ∈ bltN, PySem.W.kitOne K (.ref C) (.type n) = some false)
    (h2 : ∀ q ∈ s, ∃ C Dd, mg q.1.1 = some (.ref C) ∧ mg q.1.2 = some (.ref Dd) ∧ PySem.W.kitOne K (.ref C) (.ref Dd) = some q.2) : IsiOk K mg (clsT l) (subT s) := by
  have key : ∀ y, clsT l y = true → ∀ C, mg y = some (.ref C) → ClsI K C ∧ (∀ n ∈ bltN, PySem.W.kitOne K (.type n) (.ref C) = some false) ∧ ∀ n ∈ bltN, PySem.W.kitOne K (.ref C) (.type n) = some false := by
    intro y hy C hC
    obtain ⟨C0, e1, e2⟩ := h y (List.contains_iff_mem.mp hy)
    rw [hC] at e1
    cases e1
    exact e2
  refine ⟨fun y hy C hC => (key y hy C hC).1, fun y x r hr C Dd hC hD => ?_, fun x hx Dd hD n hn => (key x hx Dd hD).2.1 n hn, fun y hy C hC n hn => (key y hy C hC).2.2 n hn⟩
  obtain ⟨C0, D0, e1, e2, e3⟩ := h2 _ (lookup_mem hr)
  dsimp only at e1 e2 e3
  rw [hC] at e1
  rw [hD] at e2
  cases e1
  cases e2
  exact e3
/-- a class that is made, its __init__ -/
structure KlT (K : PySem.W.Frag) (mg : Str → Option Value) (x qual : Str) (st : Stmt) (ps : List Str) : Prop where
  ex : ∃ (C f : Addr) (fd : FuncData), mg x = some (.ref C) ∧ Mk K C f ∧ Fun K "__init__" qual st f fd ∧ Binds K fd ps []
theorem KlT.gl {x qual : Str} {st : Stmt} {ps : List Str} (h : KlT K mg x qual st ps) : ∃ C, mg x = some (.ref C) := by
  obtain ⟨C, f, fd, h1, _⟩ := h.ex
  exact ⟨C, h1⟩
/-- a method -/
structure MtT (K : PySem.W.Frag) (mg : Str → Option Value) (x m qual : Str) (st : Stmt) (ps : List Str) : Prop where
  ex : ∃ (C f : Addr) (fd : FuncData), mg x = some (.ref C) ∧ Cls K C ∧ Meth K C m f ∧ Fun K m qual st f fd ∧ Binds K fd ps []
theorem MtT.eq {P : Program} {w : World} {base : Heap} {T : List (Addr × Str)} {x qual : Str} {st : Stmt} {ps : List Str} {k : Nat} {mf : FM} (h : MtT K mg x "__eq__" qual st ps) (F : ∀ f fd, Fun K "__eq__" qual st f fd → FnOk P w K mg base (L2.CX P w) k f fd ps (spOf ⟨P, w, K, mg, T⟩ [.val, .val] false mf)) : CalE P w K mg base T x k mf := by
  obtain ⟨C, f, fd, h1, h2, h3, h4, h5⟩ := h.ex
  exact ⟨C, f, fd, ps, h1, h3.at_, h3.fn, h5, F f fd h4⟩
end
section
variable {K : PySem.W.Frag} {h : Heap} {mg : Str → Option Value}
theorem kl_mk {x qual : Str} {st : Stmt} {ps : List Str} {C f : Addr} {oc : Value} {od an : Option Addr} {osl : Array (Option Value)} {kV doc pm cdv ct : Value} (X : K.In h) (G : h.Ns mainGlobals mg) (a : PySem.W.nsIn K mainGlobals x = some (some (.ref C)))
    (mk : PySem.W.makesIn K C = true) (ii : PySem.W.findIn K (.ref C) "__init__" = some (some (.ref f))) (fn : PySem.W.isFn K (.ref f) = true) (kp : PySem.W.keepIn K (.ref C) = true)
    (l : K.lookup f = some ⟨oc, od, .func (PySem.W.fnOf "__init__" qual (defArgs st) (defBody st) (defScope st) .none kV doc pm an cdv ct), osl⟩) (c : PySem.W.codeIn K cdv qual = true) (k : PySem.W.keepIn K (.ref f) = true)
    (b : ∀ (kV doc pm : Value) (an : Option Addr) (cdv ct : Value) (us : List Value), us.length = ps.length → bindArgs (PySem.W.fnOf "__init__" qual (defArgs st) (defBody st) (defScope st) .none kV doc pm an cdv ct) ⟨us, []⟩ = pure (ps.zip us)) : KlT K mg x qual st ps :=
  ⟨C, f, _, PySem.W.mg_of X G a, ⟨mk, ii, fn, kp⟩, fun_mk l c k, (fun_mk l c k).binds b⟩
theorem mt_mk {x m qual : Str} {st : Stmt} {ps : List Str} {C f : Addr} {oc : Value} {od an : Option Addr} {osl : Array (Option Value)} {kV doc pm cdv ct : Value} (X : K.In h) (G : h.Ns mainGlobals mg) (a : PySem.W.nsIn K mainGlobals x = some (some (.ref C)))
    (c1 : PySem.W.plainGet K C Str.empty = true) (c2 : PySem.W.hasDictIn K C = true) (c3 : PySem.W.plainOver K C = true) (c4 : PySem.W.findIn K (.ref C) "__setattr__" = some (some (.builtin "object.__setattr__")))
    (mi : PySem.W.findIn K (.ref C) m = some (some (.ref f))) (fn : PySem.W.isFn K (.ref f) = true)
    (l : K.lookup f = some ⟨oc, od, .func (PySem.W.fnOf m qual (defArgs st) (defBody st) (defScope st) .none kV doc pm an cdv ct), osl⟩) (c : PySem.W.codeIn K cdv qual = true) (k : PySem.W.keepIn K (.ref f) = true)
    (b : ∀ (kV doc pm : Value) (an : Option Addr) (cdv ct : Value) (us : List Value), us.length = ps.length → bindArgs (PySem.W.fnOf m qual (defArgs st) (defBody st) (defScope st) .none kV doc pm an cdv ct) ⟨us, []⟩ = pure (ps.zip us)) : MtT K mg x m qual st ps :=
  ⟨C, f, _, PySem.W.mg_of X G a, ⟨c1, c2, c3, c4⟩, ⟨mi, fn, k⟩, fun_mk l c k, (fun_mk l c k).binds b⟩
theorem cf_mk {x : Str} {fs : List Str} {C : Addr} (X : K.In h) (G : h.Ns mainGlobals mg) (a : PySem.W.nsIn K mainGlobals x = some (some (.ref C)))
    (c1 : PySem.W.plainGet K C Str.empty = true) (c2 : PySem.W.hasDictIn K C = true) (c3 : PySem.W.plainOver K C = true) (c4 : PySem.W.findIn K (.ref C) "__setattr__" = some (some (.builtin "object.__setattr__")))
    (n : ∀ f ∈ fs, PySem.W.findIn K (.ref C) f = some none) : ∃ C, mg x = some (.ref C) ∧ Cls K C ∧ ∀ f ∈ fs, NoAttr K C f := ⟨C, PySem.W.mg_of X G a, ⟨c1, c2, c3, c4⟩, n⟩
theorem ci_mk {x : Str} {C : Addr} (X : K.In h) (G : h.Ns mainGlobals mg) (a : PySem.W.nsIn K mainGlobals x = some (some (.ref C)))
    (c1 : PySem.W.plainGet K C Str.empty = true) (c2 : PySem.W.hasDictIn K C = true) (c3 : PySem.W.plainOver K C = true) (c4 : PySem.W.findIn K (.ref C) "__setattr__" = some (some (.builtin "object.__setattr__")))
    (ha : PySem.W.findIn K (.ref C) "__class__" = some (some (.builtin "object.__class__"))) (hn : PySem.W.specialIn K (.builtin "object.__class__") "__get__" = some (some (.builtin "getset_descriptor.__get__")))
    (htk : PySem.W.takesIn K (.builtin "object.__class__") = some true) (hm : PySem.W.mroIn K C (.type "object") = some true)
    (b1 : ∀ n ∈ bltN, PySem.W.kitOne K (.type n) (.ref C) = some false) (b2 : ∀ n ∈ bltN, PySem.W.kitOne K (.ref C) (.type n) = some false) :
    ∃ C, mg x = some (.ref C) ∧ ClsI K C ∧ (∀ n ∈ bltN, PySem.W.kitOne K (.type n) (.ref C) = some false) ∧ ∀ n ∈ bltN, PySem.W.kitOne K (.ref C) (.type n) = some false := ⟨C, PySem.W.mg_of X G a, ⟨⟨c1, c2, c3, c4⟩, ha, hn, htk, hm⟩, b1, b2⟩
theorem cp_mk {x y : Str} {C Dd : Addr} {b : Bool} (X : K.In h) (G : h.Ns mainGlobals mg) (a1 : PySem.W.nsIn K mainGlobals x = some (some (.ref C))) (a2 : PySem.W.nsIn K mainGlobals y = some (some (.ref Dd)))
    (k : PySem.W.kitOne K (.ref C) (.ref Dd) = some b) : ∃ C Dd, mg x = some (.ref C) ∧ mg y = some (.ref Dd) ∧ PySem.W.kitOne K (.ref C) (.ref Dd) = some b := ⟨C, Dd, PySem.W.mg_of X G a1, PySem.W.mg_of X G a2, k⟩
end
end Kq
set_option Elab.async false
set_option linter.all false
set_option maxRecDepth 100000
set_option maxHeartbeats 400000
namespace Kq
open PySem PySem.Spec PyProof.Rows L2 LamX
/-! ### head steps: classes -/
section
variable {P : D → Nat → Prop} {PB : Bool → Nat → Prop} {PL : List D → Nat → Prop} {E : XC → Nat → Prop} {c : Nat} {a b : Int} {ds es : List D} {z z2 : Str} {d d1 d2 x y : D} {T : Str → Str → Bool} {f f1 f2 cn : Str} {fs : List (Str × D)}
variable {ρ r : Rho} {nx bk ct : Rho → Nat → Prop} {rt : D → Nat → Prop} {ex : XC → Nat → Prop} {i l n k : Nat} {ma mb mo : ME} {mas : MA} {A B : MS}
def pIns (T : Str → Str → Bool) (f : Str) (k : D → Nat → Prop) : D → Nat → Prop := fun d c => match d with
  | .ins x fs => T x f = true ∧ ∃ v, fs.lookup f = some v ∧ k v c
  | _ => False
theorem w_pIns {k : D → Nat → Prop} (e : T cn f = true) (h : lk f fs (fun v => k v c)) : pIns T f k (.ins cn fs) c := ⟨e, h⟩
theorem w_fld (h : ma ρ c (pIns T f fun v c => P v c) E) : mFld T f ma ρ c P E := by
  have q : (pIns T f fun v c => P v c) = (fun (d : D) (c : Nat) => match d with
    | .ins x fs => T x f = true ∧ ∃ v, fs.lookup f = some v ∧ P v c
    | _ => False) := by
    funext d c
    cases d <;> rfl
  rw [q] at h
  exact h
theorem w_fldO (e : T cn f = true) (h : lk f fs (fun v => P v c)) : mFldO T f (.obj cn fs :: r) c P E := ⟨e, h⟩
theorem w_put (h : ma (.obj cn fs :: r) c (fun d c => T cn f = true ∧ fs.length < 1000 ∧ r.all notObj = true ∧ nx (.obj cn (putD f d fs) :: r) c) ex) : mPut T f ma (.obj cn fs :: r) c ⟨nx, rt, bk, ct, ex⟩ := h
theorem w_put3 {A : Prop} (e1 : T cn f = true) (e2 : Nat.blt fs.length 900 = true) (e3 : r.all notObj = true) (h : A) : T cn f = true ∧ fs.length < 1000 ∧ r.all notObj = true ∧ A :=
  ⟨e1, by have := Nat.blt_eq.mp e2; omega, e3, h⟩
def pPair (k : D → D → Nat → Prop) : D → Nat → Prop := fun d c => match d with
  | .tup [a, b] => k a b c
  | _ => False
theorem w_pPair {k : D → D → Nat → Prop} (h : k x y c) : pPair k (.tup [x, y]) c := h
theorem w_put2 (h : ma (.obj cn fs :: r) c (pPair fun d1 d2 c => T cn f1 = true ∧ T cn f2 = true ∧ fs.length < 900 ∧ r.all notObj = true ∧ nx (.obj cn (putD f2 d2 (putD f1 d1 fs)) :: r) c) ex) : mPut2 T f1 f2 ma (.obj cn fs :: r) c ⟨nx, rt, bk, ct, ex⟩ := by
  have q : (pPair fun d1 d2 c => T cn f1 = true ∧ T cn f2 = true ∧ fs.length < 900 ∧ r.all notObj = true ∧ nx (.obj cn (putD f2 d2 (putD f1 d1 fs)) :: r) c) = (fun (d : D) (c : Nat) => match d, (Sl.obj cn fs :: r) with
    | .tup [d1, d2], .obj x fs :: r => T x f1 = true ∧ T x f2 = true ∧ fs.length < 900 ∧ r.all notObj = true ∧ nx (.obj x (putD f2 d2 (putD f1 d1 fs)) :: r) c
    | _, _ => False) := by
    funext d c
    unfold pPair
    split
    · rfl
    · rename_i h
      split
      · rename_i h1 h2
        exact absurd rfl (h _ _)
      · rfl
  rw [q] at h
  exact h
theorem w_put4 {A : Prop} (e1 : T cn f1 = true) (e2 : T cn f2 = true) (e3 : Nat.blt fs.length 900 = true) (e4 : r.all notObj = true) (h : A) : T cn f1 = true ∧ T cn f2 = true ∧ fs.length < 900 ∧ r.all notObj = true ∧ A :=
  ⟨e1, e2, Nat.blt_eq.mp e3, e4, h⟩
theorem w_make {mf : IM} (h : mas ρ c (fun ds c => mf ds c (fun fs c => P (.ins cn fs) c) E) E) : mMake cn mf mas ρ c P E := h
theorem w_ini {PF : List (Str × D) → Nat → Prop} {ks : List Kd} (h : A (.obj cn [] :: rho0 n ks ds) c ⟨fun ρ k => match ρ with
  | .obj x fs :: _ => x = cn ∧ PF fs k
  | _ => False, fun _ _ => False, fun _ _ => False, fun _ _ => False, E⟩) : iniM n ks cn A ds c PF E := h
theorem w_isiI {cls : Str → Bool} {sub : Str → Str → Option Bool} {q : Str} {t : Bool} (e1 : cls cn = true) (e2 : sub cn q = some t) (h : P (.bl t) c) : dIsiC cls sub [.ins cn fs, .gl q] c P E := ⟨t, e1, e2, h⟩
theorem w_isiB {cls : Str → Bool} {sub : Str → Str → Option Bool} {q : Str} {t : String} (hn : ∀ y fs, d ≠ .ins y fs) (e1 : tyN d = some t) (e2 : t ∈ bltN) (e3 : cls q = true) (h : P (.bl false) c) : dIsiC cls sub [d, .gl q] c P E := by
  cases d with
  | ins y fs => exact absurd rfl (hn y fs)
  | _ => exact ⟨t, e1, e2, e3, h⟩
theorem w_isiT {cls : Str → Bool} {sub : Str → Str → Option Bool} {t : String} (hn : ∀ y fs, d ≠ .ins y fs) (h : dIsi [d, .ty t] c P E) : dIsiC cls sub [d, .ty t] c P E := by
  cases d with
  | ins y fs => exact absurd rfl (hn y fs)
  | _ => exact h
theorem w_listS (h : P (.lst (chD z)) c) (h0 : z.length ≤ sizeLine) : dToListS [.str z] c P E := ⟨h0, h⟩
theorem w_listSL (h : P (.lst ds) c) : dToListS [.lst ds] c P E := h
theorem w_listST (h : P (.lst ds) c) : dToListS [.tup ds] c P E := h
end
/-! ### texts as rows of signs -/
def tz (us : List Nat) : Str := ⟨us.toArray⟩
theorem tz_len (us : List Nat) : (tz us).length = us.length := by
  show us.toArray.size = _
  simp
theorem tz_app (a b : List Nat) : tz a ++ tz b = tz (a ++ b) := by
  show Str.append _ _ = _
  unfold Str.append tz
  simp
theorem tz_inj {a b : List Nat} (h : tz a = tz b) : a = b := by
  have h1 : a.toArray = b.toArray := congrArg Str.cps h
  simpa using h1
theorem tz_cut_lo (us : List Nat) (k : Nat) : cutS (tz us) none (some ((k : Nat) : Int)) = tz (us.take k) := by
  unfold cutS
  rw [HT.sIx_none, HT.sIx_nat, tz_len]
  show tz (List.take _ (List.drop _ us)) = _
  congr 1
  rcases Nat.le_total k us.length with h | h
  · rw [Nat.min_eq_left h]; rfl
  · rw [Nat.min_eq_right h, List.take_of_length_le h]
    exact List.take_of_length_le (Nat.le_refl _)
theorem tz_cut_hi (us : List Nat) (k : Nat) : cutS (tz us) (some ((k : Nat) : Int)) none = tz (us.drop k) := by
  unfold cutS
  rw [HT.sIx_none, HT.sIx_nat, tz_len]
  show tz (List.take _ (List.drop _ us)) = _
  congr 1
  rcases Nat.le_total k us.length with h | h
  · rw [Nat.min_eq_left h, List.take_of_length_le (by rw [List.length_drop]; exact Nat.le_refl _)]
  · rw [Nat.min_eq_right h, List.drop_of_length_le h, List.drop_of_length_le (Nat.le_refl _), List.take_nil]
theorem tz_cut (us : List Nat) (i j : Nat) : cutS (tz us) (some ((i : Nat) : Int)) (some ((j : Nat) : Int)) = tz ((us.drop i).take (j - i)) := by
  unfold cutS
  rw [HT.sIx_nat, HT.sIx_nat, tz_len]
  show tz (List.take _ (List.drop _ us)) = _
  congr 1
  rcases Nat.le_total i us.length with h | h
  · rw [Nat.min_eq_left h]
    rcases Nat.le_total j us.length with h' | h'
    · rw [Nat.min_eq_left h']
    · rw [Nat.min_eq_right h', List.take_of_length_le (by rw [List.length_drop]; exact Nat.le_refl _), List.take_of_length_le (by rw [List.length_drop]; omega)]
  · rw [Nat.min_eq_right h, List.drop_of_length_le h, List.drop_of_length_le (Nat.le_refl _), List.take_nil, List.take_nil]
theorem tz_at {us : List Nat} {i u : Nat} (h : us[i]? = some u) : atI (tz us).cps.toList ((i : Nat) : Int) = some u := atI_nat h
theorem tz_ch (us : List Nat) : chD (tz us) = us.map fun u => D.str (tz [u]) := rfl
theorem szz {k : Nat} (h : k ≤ 100000) : k ≤ sizeLine := by
  show k ≤ 2 ^ 24
  omega
section
variable {P : D → Nat → Prop} {E : XC → Nat → Prop} {c i u k j : Nat} {us vs : List Nat}
theorem z_ix (e : us[i]? = some u) (h : P (.str (tz [u])) c) (hl : us.length ≤ 100000) : dIx (.str (tz us)) (.int ((i : Nat) : Int)) c P E := w_ixS (szz (by rw [tz_len]; exact hl)) (tz_at e) h
theorem z_len (h : P (.int ((us.length : Nat) : Int)) c) (hl : us.length ≤ 100000) : dLen [.str (tz us)] c P E := w_lenS (by rw [tz_len]; exact h) (szz (by rw [tz_len]; exact hl))
theorem z_add (h : P (.str (tz (us ++ vs))) c) (h1 : us.length ≤ 50000) (h2 : vs.length ≤ 50000) : dAdd (.str (tz us)) (.str (tz vs)) c P E := w_addS (by rw [tz_app]; exact h) (by rw [tz_len, tz_len]; exact szz (by omega))
theorem z_slLo (h : P (.str (tz (us.take k))) c) (hl : us.length ≤ 100000) : dSl (.str (tz us)) none (some ((k : Nat) : Int)) c P E := w_slS (by rw [tz_cut_lo]; exact h) (szz (by rw [tz_len]; exact hl))
theorem z_slHi (h : P (.str (tz (us.drop k))) c) (hl : us.length ≤ 100000) : dSl (.str (tz us)) (some ((k : Nat) : Int)) none c P E := w_slS (by rw [tz_cut_hi]; exact h) (szz (by rw [tz_len]; exact hl))
theorem z_sl (h : P (.str (tz ((us.drop i).take (j - i)))) c) (hl : us.length ≤ 100000) : dSl (.str (tz us)) (some ((i : Nat) : Int)) (some ((j : Nat) : Int)) c P E := w_slS (by rw [tz_cut]; exact h) (szz (by rw [tz_len]; exact hl))
end
end Kq
set_option Elab.async false
set_option linter.all false
set_option maxRecDepth 100000
set_option maxHeartbeats 400000
namespace Kq
open PySem PySem.Spec PyProof.Rows L2 LamX
/-! ### {..}.get(k, n): a dict of texts and numbers, made and read at once -/
def cP (tb : List (Str × Int)) : List (TE × TE) := tb.map fun p => (tC (.str p.1), tC (.int p.2))
def kvT (tb : List (Str × Int)) : List (Key × V) := tb.map fun p => (.inr p.1, V.int p.2)
theorem pairs_c {σ : L2.St} {H : Hp} : ∀ (tb : List (Str × Int)) (Q : List (V × V) → Hp → Prop), Q (tb.map fun p => (V.str p.1, V.int p.2)) H → tPairs (cP tb) σ H Q
  | [], Q, h => h
  | p :: r, Q, h => pairs_c r (fun ps H3 => Q ((V.str p.1, V.int p.2) :: ps) H3) h
def dGetL (tb : List (Str × Int)) (n : Int) : D → M D
  | .str z => fun c Q _ => ∃ i, (valV (mergeK [] (kvT tb)) (.inr z)).getD (.int n) = .int i ∧ Q (.int i) c
  | _ => stuck
def mGetL (tb : List (Str × Int)) (n : Int) (mk : ME) : ME := fun ρ c Q E => mk ρ c (fun y c => dGetL tb n y c Q E) E
theorem re_getL {j : J} {tb : List (Str × Int)} {n : Int} {dx kx nx : Expr} {apos cpos : Pos} {mk : ME} (hu0 : j.X.A.units + 64 < cLine) (hd : PE j.X dx (tDisp (cP tb))) (hl : tb.length ≤ 15) (hk : RE j .val kx mk) (hn : PE j.X nx (tC (.int n)))
    (m : M2 j.X dx "get" apos kx nx cpos) : RE j .val (.Call (.Attribute dx "get" apos) [kx, nx] [] cpos) (mGetL tb n mk) :=
  ⟨(pe_dget2 (Nat.lt_of_le_of_lt (Nat.add_le_add_left (by decide : 1 ≤ 64) _) hu0) hd hk.pe hn m).imp fun σ H Q ⟨ρ, s, P, E, eh, env, hm, hq, hx⟩ => by
    subst eh
    intro p hp
    refine pairs_c tb _ ?_
    refine ⟨upd_same, kvT tb, by unfold kvT; rw [List.map_map]; rfl, by unfold kvT; rw [List.length_map]; exact hl, ?_⟩
    rw [upd_upd]
    have g1 : Gr j.g s (s.put p (.dK (mergeK [] (kvT tb)))) := Gr.put env.ok hp (fun _ z => nomatch z)
    refine ⟨p, rfl, .inl ⟨_, .inl upd_same⟩, ?_⟩
    refine ⟨ρ, s.put p (.dK (mergeK [] (kvT tb))), _, E, rfl, env.to g1, hm, fun y c h2 v2 t2 g2 e2 r2 => ?_, hx.gr g1⟩
    subst e2
    have hp2 : t2.H p = some (.dK (mergeK [] (kvT tb))) := (g2.hh p _ upd_same (fun _ z => nomatch z)).2 (env.ok.ne hp)
    match y, h2, r2 with
    | .str z, ⟨i, e, h2⟩, r2 =>
      obtain rfl := inv_str r2
      refine ⟨_, DGet.k (k := .inr z) hp2, ?_⟩
      rw [e]
      exact hq _ _ h2 _ t2 (g1.trans g2) rfl (Rp.int i)⟩
section
variable {P : D → Nat → Prop} {E : XC → Nat → Prop} {ρ : Rho} {c : Nat} {tb : List (Str × Int)} {n i : Int} {z : Str} {mk : ME}
theorem w_getL (h : mk ρ c (fun y c => dGetL tb n y c P E) E) : mGetL tb n mk ρ c P E := h
theorem w_getV (e : (valV (mergeK [] (kvT tb)) (.inr z)).getD (.int n) = .int i) (h : P (.int i) c) : dGetL tb n (.str z) c P E := ⟨i, e, h⟩
end
end Kq
set_option Elab.async false
set_option linter.all false
set_option maxRecDepth 100000
set_option maxHeartbeats 400000
namespace Kq
open PySem PySem.Spec PyProof.Rows L2 LamX
/-! ### zip of lists, tuples and texts, in any mix -/
inductive ZS where
  | lst (a : Addr) | tup (a : Addr) | str (x : Str)
def ZS.v : ZS → V
  | .lst a => .ref a
  | .tup a => .ref a
  | .str x => .str x
def ZS.fp (it : Addr) : ZS → List Addr
  | .lst a => [it, a]
  | .tup a => [it, a]
  | .str _ => [it]
def ZS.At (K : PySem.W.Frag) (H : Hp) (xs : List V) : ZS → Prop
  | .lst a => SqL K H a xs
  | .tup a => SqT K H a xs
  | .str x => xs = x.cps.toList.map fun c => V.str ⟨#[c]⟩
def ZS.St (it : Addr) (t : Tok) (k : Nat) (h : Heap) : ZS → Prop
  | .lst a => h.IsListIter it a k
  | .tup a => h.IsTupleIter it a k
  | .str x => h.IsStrIter it (strIterType x) x t k
/-- the iterator is none of what is gone over -/
def ZS.ne (it : Addr) : ZS → Prop
  | .lst a => a ≠ it
  | .tup a => a ≠ it
  | .str _ => True
theorem ZS.mem (z : ZS) (it : Addr) : it ∈ z.fp it := by cases z <;> simp [ZS.fp]
theorem ZS.St.keep {z : ZS} {it : Addr} {t : Tok} {k : Nat} {h h' : Heap} (st : z.St it t k h) (q : ∀ o, h.get? it = some o → h'.get? it = some o) : z.St it t k h' := by
  cases z with
  | lst a => exact (show h.IsListIter it a k from st).at q
  | tup a => exact (show h.IsTupleIter it a k from st).at q
  | str x =>
    obtain ⟨o, ho, r⟩ := (show h.IsStrIter it (strIterType x) x t k from st)
    exact ⟨o, q o ho, r⟩
theorem ZS.St.obj {z : ZS} {it : Addr} {t : Tok} {k : Nat} {h : Heap} (st : z.St it t k h) : ∃ o, h.get? it = some o ∧ ∀ v, o.data ≠ .cell v := by
  cases z with
  | lst a =>
    obtain ⟨o, e, _, d⟩ := (show h.IsListIter it a k from st)
    exact ⟨o, e, fun v q => by rw [d] at q; cases q⟩
  | tup a =>
    obtain ⟨o, e, _, d⟩ := (show h.IsTupleIter it a k from st)
    exact ⟨o, e, fun v q => by rw [d] at q; cases q⟩
  | str x =>
    obtain ⟨o, e, _, d⟩ := (show h.IsStrIter it (strIterType x) x t k from st)
    exact ⟨o, e, fun v q => by rw [d] at q; cases q⟩
theorem ZS.draws {X : Cx} {pins : List (Addr × Obj)} {σ : L2.St} {H : Hp} {s : Shared} (I : L2.Inv X pins σ H s) {A : Around} (hh : A.handled = none) (z : ZS) {xs : List V} (h : z.At X.K H xs) {it : Addr} (hne : z.ne it) (t : Tok) :
    ∃ (P : Nat → Value → Prop) (St : Nat → Heap → Prop), Draws X.prog X.w A it (z.fp it) xs.length P St ∧ (∀ k v, P k v → ∃ x, xs[k]? = some x ∧ RelV x v) ∧ (∀ k, z.St it t k s.heap → St k s.heap) ∧ ∀ k h, St k h → z.St it t k h := by
  cases z with
  | lst a =>
    obtain ⟨its, rv, p, _⟩ := I.list (show SqL X.K H a xs from h)
    have e : xs.length = its.toArray.size := by rw [rv.length]; simp
    rw [e]
    refine ⟨_, _, Draws.list hh it a hne its.toArray, fun k v hv => ?_, fun k st => ⟨st, p.isList⟩, fun k h st => st.1⟩
    have hk : k < xs.length := by
      have := (Array.getElem?_eq_some_iff.mp hv).1
      omega
    obtain ⟨u, hu, ru⟩ := rv.get (List.getElem?_eq_getElem hk)
    have e2 : its.toArray[k]? = its[k]? := by simp
    rw [e2, hu] at hv
    cases hv
    exact ⟨_, List.getElem?_eq_getElem hk, ru⟩
  | tup a =>
    obtain ⟨its, rv, p, _⟩ := I.tuple (show SqT X.K H a xs from h)
    have e : xs.length = its.toArray.size := by rw [rv.length]; simp
    rw [e]
    refine ⟨_, _, Draws.tuple hh it a hne its.toArray, fun k v hv => ?_, fun k st => ⟨st, p⟩, fun k h st => st.1⟩
    have hk : k < xs.length := by
      have := (Array.getElem?_eq_some_iff.mp hv).1
      omega
    obtain ⟨u, hu, ru⟩ := rv.get (List.getElem?_eq_getElem hk)
    have e2 : its.toArray[k]? = its[k]? := by simp
    rw [e2, hu] at hv
    cases hv
    exact ⟨_, List.getElem?_eq_getElem hk, ru⟩
  | str x =>
    have h : xs = x.cps.toList.map fun c => V.str ⟨#[c]⟩ := h
    subst h
    rw [List.length_map, Array.length_toList]
    refine ⟨_, _, Draws.text hh it x t, fun k v hv => ?_, fun k st => st, fun k h st => st⟩
    obtain ⟨c, u, hc, rfl⟩ := hv
    refine ⟨.str ⟨#[c]⟩, ?_, ⟨u, rfl⟩⟩
    rw [List.getElem?_map, Array.getElem?_toList, hc]
    rfl
theorem ZS.inj {X : Cx} {pins : List (Addr × Obj)} {σ : L2.St} {H : Hp} {s : Shared} (I : L2.Inv X pins σ H s) (z : ZS) {xs ys : List V} (h : z.At X.K H xs) (h' : z.At X.K H ys) : xs = ys := by
  cases z with
  | lst a => exact I.list_inj h h'
  | tup a => exact I.tuple_inj h h'
  | str x => exact (show xs = _ from h).trans (show ys = _ from h').symm
def ItZ (K : PySem.W.Frag) (a b : ZS) : It :=
  ⟨fun i H => ∃ (xs ys : List V), a.At K H xs ∧ b.At K H ys ∧ i < xs.length ∧ i < ys.length,
    fun i H v H' => ∃ T x y, v = .ref T ∧ H T = none ∧ H' = upd H T (.tup [x, y]) ∧ (∀ xs, a.At K H xs → xs[i]? = some x) ∧ ∀ ys, b.At K H ys → ys[i]? = some y,
    fun i H => ∃ xs ys : List V, a.At K H xs ∧ b.At K H ys ∧ i ≤ xs.length ∧ i ≤ ys.length ∧ (i = xs.length ∨ i = ys.length)⟩
theorem turn_zipZ {P : Program} {w : World} {K : PySem.W.Frag} {elts : List Expr} {kk : Nat} {tpos : Pos} {a b : ZS} {t1 t2 : Tok} {z TI TO i1 i2 : Addr} (D : ZipSep2 z TI TO i1 i2 (a.fp i1) (b.fp i2)) (n1 : a.ne i1) (n2 : b.ne i2) :
    Turn P w K (.Tuple elts kk tpos) (ItZ K a b) [z, TI, TO, i1, i2] z (fun i h => IsZip h z TI TO .none ∧ IsTupOf2 h TI (.ref i1) (.ref i2) ∧ (∃ x y, IsTupOf2 h TO x y) ∧ a.St i1 t1 i h ∧ b.St i2 t2 i h) where
  mem := by simp
  obj := fun i h st c hc => by
    obtain ⟨hz, hTI, ⟨x, y, hTO⟩, h1, h2⟩ := st
    have e' : c = z ∨ c = TI ∨ c = TO ∨ c = i1 ∨ c = i2 := by simpa using hc
    rcases e' with q | q | q | q | q
    · rw [q]; exact ⟨_, hz, fun v q => nomatch q⟩
    · rw [q]; exact ⟨_, hTI, fun v q => nomatch q⟩
    · rw [q]; exact ⟨_, hTO, fun v q => nomatch q⟩
    · rw [q]; exact h1.obj
    · rw [q]; exact h2.obj
  keep := fun i h h' st k => by
    obtain ⟨hz, hTI, ⟨x, y, hTO⟩, h1, h2⟩ := st
    exact ⟨k z (by simp) _ hz, k TI (by simp) _ hTI, ⟨x, y, k TO (by simp) _ hTO⟩, h1.keep fun o q => k i1 (by simp) o q, h2.keep fun o q => k i2 (by simp) o q⟩
  item := by
    intro X hP hw hK hc i pins s σ H E I hf st hg
    subst hP hw hK
    obtain ⟨hz, hTI, ⟨x0, y0, hTO⟩, h1, h2⟩ := st
    obtain ⟨xs, ys, hqx, hqy, hx, hy⟩ := hg
    have hA : X.A.in1.handled = none := I.ok.hd hc
    obtain ⟨P1, S1, D1, p1, q1, r1⟩ := ZS.draws I hA a hqx n1 t1
    obtain ⟨P2, S2, D2, p2, q2, r2⟩ := ZS.draws I hA b hqy n2 t2
    have hzl : z < s.heap.objs.size := Heap.lt_size hz
    refine wpAny_pyNext_zipD2_item D D1 D2 hz hTI hTO (q1 _ h1) (q2 _ h2) hx hy fun u u2 h' tk hu hu2 z' TO' h1' h2' hT hsz hk => ?_
    obtain ⟨x, hx1, ru⟩ := p1 _ _ hu
    obtain ⟨y, hy1, ru2⟩ := p2 _ _ hu2
    refine ⟨_, rfl, wpAny_letOwnedTupleGo_zip (s := { s with heap := h', toks := tk }) z' fun h'' z'' sb => ?_⟩
    have hT2 : h''.get? s.heap.objs.size = some { cls := .type "tuple", data := .seq #[u, u2] } := (sb.2 _ (Nat.ne_of_gt hzl)).trans hT
    have new : ObjOk X.prog X.w (upd H s.heap.objs.size (.tup [x, y])) h'' s.heap.objs.size (.tup [x, y]) :=
      ⟨by show 2 ≤ sizeLine; decide, [u, u2], .cons ru (.cons ru2 .nil), ⟨_, hT2, rfl, _, rfl⟩⟩
    have I1 : Inv X pins σ (upd H s.heap.objs.size (.tup [x, y])) { s with heap := h'', toks := tk } :=
      I.turnedNew (ch := [z, TI, TO, i1, i2]) (fun c o hb q => (sb.2 c (fun q' => hb (by simp [q']))).trans (hk c o (fun q' => hb (by simp [q'])) (fun q' => hb (by simp [q'])) (fun q' => hb (by simp [q'])) (fun q' => hb (by simp [q'])) q)) hf (Nat.le_refl _) new
    refine ⟨.ref s.heap.objs.size, _, I1, rfl, ⟨_, x, y, rfl, I.hok.fresh (Nat.le_refl _), rfl, fun l hl => by rw [ZS.inj I a hl hqx]; exact hx1, fun l hl => by rw [ZS.inj I b hl hqy]; exact hy1⟩, ⟨z'', ?_, ⟨u, u2, ?_⟩, ?_, ?_⟩, fun c hcm => ?_⟩
    · exact (sb.2 _ D.TIz).trans (hk _ _ D.TIz D.TITO D.TIi1 D.TIi2 hTI)
    · exact (sb.2 _ D.TOz).trans TO'
    · exact (r1 _ _ h1').keep fun o q => (sb.2 _ D.zi1.symm).trans q
    · exact (r2 _ _ h2').keep fun o q => (sb.2 _ D.zi2.symm).trans q
    · have hlt : c < s.heap.objs.size := by
        have e' : c = z ∨ c = TI ∨ c = TO ∨ c = i1 ∨ c = i2 := by simpa using hcm
        rcases e' with q | q | q | q | q
        · rw [q]; exact hzl
        · rw [q]; exact Heap.lt_size hTI
        · rw [q]; exact Heap.lt_size hTO
        · rw [q]; obtain ⟨_, e1, _⟩ := h1.obj; exact Heap.lt_size e1
        · rw [q]; obtain ⟨_, e2, _⟩ := h2.obj; exact Heap.lt_size e2
      rw [upd_ne (Nat.ne_of_lt hlt)]
      exact (hf c hcm).1
  done := by
    intro X hP hw hK hc i pins s σ H E I hf st hg
    subst hP hw hK
    obtain ⟨hz, hTI, ⟨x0, y0, hTO⟩, h1, h2⟩ := st
    obtain ⟨xs, ys, hqx, hqy, le1, le2, hend⟩ := hg
    have hA : X.A.in1.handled = none := I.ok.hd hc
    obtain ⟨P1, S1, D1, p1, q1, r1⟩ := ZS.draws I hA a hqx n1 t1
    obtain ⟨P2, S2, D2, p2, q2, r2⟩ := ZS.draws I hA b hqy n2 t2
    exact wpAny_pyNext_zipD2_end D D1 D2 hz hTI hTO (q1 _ h1) (q2 _ h2) le1 le2 hend fun h' tk hk => ⟨rfl, I.turnedL (t' := tk) (ch := [z, TI, TO, i1, i2]) (fun c o hb q =>
      hk c o (fun q' => hb (by simp [q'])) (fun q' => hb (by simp [q'])) (fun q' => hb (by simp [q'])) (fun q' => hb (by simp [q'])) q) hf⟩
  self := fun A i s Q E st h => wpAny_pyIter_zip st.1 h
/-- a source at its begin -/
theorem ZS.begins {X : Cx} {pins : List (Addr × Obj)} {σ : L2.St} {H : Hp} {s : Shared} (I : L2.Inv X pins σ H s) (z : ZS) {xs : List V} (h : z.At X.K H xs) {v : Value} (r : RelV z.v v) :
    ∃ (o : Obj) (B : Heap → Prop) (t : Tok), Begins v o B ∧ B s.heap ∧ (∀ it h, h.get? it = some o → z.St it t 0 h) ∧ ∀ it, s.heap.objs.size ≤ it → z.ne it ∧ ∀ c, c ∈ z.fp it → c = it ∨ c < s.heap.objs.size := by
  cases z with
  | lst a =>
    obtain ⟨its, rv, p, _⟩ := I.list (show SqL X.K H a xs from h)
    cases r
    refine ⟨_, _, 0, begins_list a its.toArray, p.isList, fun it h e => ⟨_, e, rfl, rfl⟩, fun it hi => ⟨Nat.ne_of_lt (Nat.lt_of_lt_of_le p.lt hi), fun c hc => ?_⟩⟩
    have hc : c = it ∨ c = a := by simpa [ZS.fp] using hc
    rcases hc with hc | hc
    · exact .inl hc
    · exact .inr (hc ▸ p.lt)
  | tup a =>
    obtain ⟨its, rv, p, _⟩ := I.tuple (show SqT X.K H a xs from h)
    obtain ⟨o1, ho1, _⟩ := id p
    have lt : a < s.heap.objs.size := Heap.lt_size ho1
    cases r
    refine ⟨_, _, 0, begins_tuple a its.toArray, p, fun it h e => ⟨_, e, rfl, rfl⟩, fun it hi => ⟨Nat.ne_of_lt (Nat.lt_of_lt_of_le lt hi), fun c hc => ?_⟩⟩
    have hc : c = it ∨ c = a := by simpa [ZS.fp] using hc
    rcases hc with hc | hc
    · exact .inl hc
    · exact .inr (hc ▸ lt)
  | str x =>
    obtain ⟨t, rfl⟩ := (show ∃ t, v = .str x t from r)
    refine ⟨_, _, t, begins_text x t, trivial, fun it h e => ⟨_, e, rfl, rfl⟩, fun it hi => ⟨trivial, fun c hc => ?_⟩⟩
    have hc : c = it := by simpa [ZS.fp] using hc
    exact .inl hc
def iZipZ (K : PySem.W.Frag) (ta : TA) : TI := fun σ H R => ta σ H fun vs H1 => ∃ a b xs ys, vs = [ZS.v a, ZS.v b] ∧ a.At K H1 xs ∧ b.At K H1 ys ∧ R (ItZ K a b) H1
theorem zsepN (n : Nat) (fa fb : List Nat) (m1 : n ∈ fa) (m2 : (n + 1) ∈ fb) (h1 : ∀ c : Nat, c ∈ fa → c = n ∨ c < n) (h2 : ∀ c : Nat, c ∈ fb → c = n + 1 ∨ c < n) : ZipSep2 (n + 4) (n + 2) (n + 3) n (n + 1) fa fb where
  TIz := show (n + 2 : Nat) ≠ n + 4 by omega
  TOz := show (n + 3 : Nat) ≠ n + 4 by omega
  TITO := show (n + 2 : Nat) ≠ n + 3 by omega
  TIi1 := show (n + 2 : Nat) ≠ n by omega
  mem1 := m1
  zf1 := fun z => by have := h1 (n + 4) z; omega
  Tf1 := fun z => by have := h1 (n + 3) z; omega
  TIi2 := show (n + 2 : Nat) ≠ n + 1 by omega
  mem2 := m2
  zf2 := fun z => by have := h2 (n + 4) z; omega
  Tf2 := fun z => by have := h2 (n + 3) z; omega
  sep1_2 := fun z => by have := h2 n z; omega
  sep2_1 := fun z => by have := h1 (n + 1) z; omega
theorem zip_start {X : Cx} {pins : List (Addr × Obj)} {σ : L2.St} {H1 : Hp} {s1 : Shared} (I1 : L2.Inv X pins σ H1 s1) (a b : ZS) {xs ys : List V} (hqx : a.At X.K H1 xs) (hqy : b.At X.K H1 ys) {v v' : Value} (r : RelV a.v v) (r' : RelV b.v v') {A : Around} {E : Value → Shared → Prop} {Q : Value → Shared → Prop}
    (hQ : ∀ h', L2.Inv X pins σ H1 { s1 with heap := h' } → ∀ D1 D2 t1 t2, ZipSep2 (s1.heap.objs.size + 4) (s1.heap.objs.size + 2) (s1.heap.objs.size + 3) s1.heap.objs.size (s1.heap.objs.size + 1) (a.fp s1.heap.objs.size) (b.fp (s1.heap.objs.size + 1)) → a.ne s1.heap.objs.size → b.ne (s1.heap.objs.size + 1) →
      IsZip h' (s1.heap.objs.size + 4) (s1.heap.objs.size + 2) (s1.heap.objs.size + 3) .none → IsTupOf2 h' (s1.heap.objs.size + 2) (.ref s1.heap.objs.size) (.ref (s1.heap.objs.size + 1)) → IsTupOf2 h' (s1.heap.objs.size + 3) D1 D2 → a.St s1.heap.objs.size t1 0 h' → b.St (s1.heap.objs.size + 1) t2 0 h' → Q (.ref (s1.heap.objs.size + 4)) { s1 with heap := h' }) :
    wpAny (model X.prog X.w) A (call (.type "zip") [v, v']) Q E s1 := by
  obtain ⟨o1, B1, t1, b1, c1, d1, f1⟩ := ZS.begins I1 a hqx r
  obtain ⟨o2, B2, t2, b2, c2, d2, f2⟩ := ZS.begins I1 b hqy r'
  refine zip_begins2 b1 b2 c1 c2 fun h' hz hTI hTO h1 h2 hsz hk => ?_
  have I2 : L2.Inv X pins σ H1 { s1 with heap := h' } := I1.kept (t' := s1.toks) hk
  obtain ⟨n1, m1⟩ := f1 s1.heap.objs.size (Nat.le_refl _)
  obtain ⟨n2, m2⟩ := f2 (s1.heap.objs.size + 1) (Nat.le_succ _)
  refine hQ h' I2 _ _ t1 t2 ?_ n1 n2 hz hTI hTO (d1 _ _ h1) (d2 _ _ h2)
  exact zsepN s1.heap.objs.size _ _ (a.mem _) (b.mem _) m1 (fun c hc => (m2 c hc))
theorem pi_zipZ {X : Cx} {e e2 : Expr} {ta : TA} {p pos tpos : Pos} {elts : List Expr} {kk : Nat} (hg : Gl X "zip") (hm : X.mg "zip" = none) (ha : PA X [e, e2] ta)
    (hs : starEach [e, e2] X.env = (false, eval e X.env) :: starEach [e2] X.env := by rfl) (hpl : (backTo pos (starEach [e2] X.env)).any (·.1) = false := by rfl) :
    PI X (.Tuple elts kk tpos) (.Call (.Name "zip" p) [e, e2] [] pos) (iZipZ X.K ta) := by
  refine ⟨fun pins s σ H R I h => ?_⟩
  refine Call_ (ld_blt I hg hm PyProof.Rows.boot_zip (PyProof.Rows.callWith_type1 (thn (ha.run pos pins s σ H _ I h) fun us s1 ⟨vs, H1, I1, r1, q1⟩ => ?_) hs hpl))
  obtain ⟨a, b, xs, ys, ex, hqx, hqy, q⟩ := q1
  subst ex
  cases r1 with
  | cons r rr =>
    cases rr with
    | cons r' rr =>
      cases rr
      refine zip_start I1 a b hqx hqy r r' fun h' I2 D1 D2 t1 t2 D n1 n2 hz hTI hTO e1 e2 => wpAny_pyIter_zip hz ?_
      refine ⟨s1.heap.objs.size + 4, [s1.heap.objs.size + 4, s1.heap.objs.size + 2, s1.heap.objs.size + 3, s1.heap.objs.size, s1.heap.objs.size + 1], _, _, H1, rfl, I2, turn_zipZ (t1 := t1) (t2 := t2) D n1 n2, ⟨hz, hTI, ⟨_, _, hTO⟩, e1, e2⟩, fun c hcm => ?_, q⟩
      have e' : c = s1.heap.objs.size + 4 ∨ c = s1.heap.objs.size + 2 ∨ c = s1.heap.objs.size + 3 ∨ c = s1.heap.objs.size ∨ c = s1.heap.objs.size + 1 := by simpa using hcm
      have hle : s1.heap.objs.size ≤ c := by
        rcases e' with z | z | z | z | z
        · rw [z]; exact Nat.le_add_right _ _
        · rw [z]; exact Nat.le_add_right _ _
        · rw [z]; exact Nat.le_add_right _ _
        · rw [z]; exact Nat.le_refl _
        · rw [z]; exact Nat.le_add_right _ _
      exact I1.fpOk hle (I1.hok.fresh hle)
/-! the data layer -/
def dSrc : D → Option (List D)
  | .lst ds => some ds
  | .tup ds => some ds
  | .str z => some (chD z)
  | _ => none
def dZipZ : List D → M (List D)
  | [a, b] => fun c Q E => ∃ ds es, dSrc a = some ds ∧ dSrc b = some es ∧ Q (zipD ds es) c
  | _ => stuck
def ZAt (g : Gx) (z : ZS) (ds : List D) (t : Sx) : Prop := Ok g t ∧ ∃ xs, z.At g.K t.H xs ∧ Rps g t.p t.F xs ds
theorem itok_zipZ {g : Gx} {ds es : List D} {a b : ZS} {St : Sx → Prop} (h : ∀ t, St t → ZAt g a ds t) (h' : ∀ t, St t → ZAt g b es t) : ItOk g St (ItZ g.K a b) (zipD ds es) where
  go := fun i t st hi => by
    rw [zipD_length] at hi
    obtain ⟨_, xs, h1, h2⟩ := h t st
    obtain ⟨_, ys, h3, h4⟩ := h' t st
    have hl := h2.length
    have hl2 := h4.length
    exact ⟨xs, ys, h1, h3, by omega, by omega⟩
  yld := fun i t d st hd x H' y => by
    obtain ⟨o, xs, h1, h2⟩ := h t st
    obtain ⟨_, ys, h3, h4⟩ := h' t st
    obtain ⟨T, w, w2, e1, e2, e3, y1, y2⟩ := y
    obtain ⟨a, b, q1, q2, rfl⟩ := zipD_get hd
    obtain ⟨u1, a1, a2⟩ := h2.get q1
    obtain ⟨u2, b1, b2⟩ := h4.get q2
    have z1 := y1 xs h1
    have z2 := y2 ys h3
    rw [a1] at z1
    rw [b1] at z2
    cases z1
    cases z2
    subst e1 e3
    obtain ⟨g1, r1⟩ := new_tup (s := t) o e2 (.cons a2 (.cons b2 .nil))
    exact ⟨t.put T _, rfl, rfl, g1, r1⟩
  stop := fun t st => by
    obtain ⟨_, xs, h1, h2⟩ := h t st
    obtain ⟨_, ys, h3, h4⟩ := h' t st
    have hl := h2.length
    have hl2 := h4.length
    refine ⟨xs, ys, h1, h3, ?_⟩
    rw [zipD_length]
    omega
theorem rps_chL {g : Gx} {p : Addr} {F : Hp} : ∀ cs : List Nat, Rps g p F (cs.map fun c => V.str ⟨#[c]⟩) (cs.map fun c => D.str ⟨#[c]⟩)
  | [] => .nil
  | c :: cs => .cons (.str _) (rps_chL cs)
section
variable {j : J} {k : Kd} {fs : Bool} {a b tg e : Expr} {mas : MA}
theorem RV.zst {v : V} {d : D} {ds : List D} {s t : Sx} (r : RV .val j.g s t v d) (o : Ok j.g t) (hd : dSrc d = some ds) : ∃ z : ZS, v = z.v ∧ ∀ fs u, Stb j fs t u → ZAt j.g z ds u := by
  match d, hd, r with
  | .lst _, hd, r =>
    cases hd
    obtain ⟨l, xs, rfl, h1, _, st⟩ := RV.stb r o
    exact ⟨.lst l, rfl, fun fs u hu => ⟨(st fs u hu).1, xs, SqL.of (st fs u hu).2.1, (st fs u hu).2.2⟩⟩
  | .tup _, hd, r =>
    cases hd
    obtain ⟨l, xs, rfl, h1, _, st⟩ := RV.stbT r o
    exact ⟨.tup l, rfl, fun fs u hu => ⟨(st fs u hu).1, xs, (st fs u hu).2.1, (st fs u hu).2.2⟩⟩
  | .str z, hd, r =>
    cases hd
    obtain rfl := inv_str r
    exact ⟨.str z, rfl, fun fs u hu => ⟨hu.ok, _, rfl, rps_chL _⟩⟩
theorem ri_zipZ {mas : MA} (h : ∀ {ta : TA}, PA j.X [a, b] ta → PI j.X tg e (iZipZ j.X.K ta)) (ha : RA j [.val, .val] [a, b] mas) : RI j fs tg e (mItA dZipZ mas) := ⟨_, h ha.pa, fun σ H R ⟨ρ, s, P, E, eh, env, hm, hv, hx⟩ => by
  subst eh
  refine ⟨ρ, s, _, E, rfl, env, hm, fun d c hd v t e ec r => ?_, hx⟩
  subst ec
  match d, hd, r with
  | [d1, d2], ⟨ds, es, h1, h2, hd⟩, .cons r (.cons r' .nil) =>
    obtain ⟨z1, rfl, s1⟩ := RV.zst r e.ok h1
    obtain ⟨z2, rfl, s2⟩ := RV.zst r' e.ok h2
    obtain ⟨_, xs, a1, _⟩ := s1 false t (Gr.refl e.ok)
    obtain ⟨_, ys, a2, _⟩ := s2 false t (Gr.refl e.ok)
    exact ⟨z1, z2, xs, ys, rfl, a1, a2, hv _ _ hd t _ e rfl (itok_zipZ (s1 fs) (s2 fs))⟩⟩
end
section
variable {PL : List D → Nat → Prop} {E : XC → Nat → Prop} {c : Nat} {d d2 : D} {ds es : List D}
theorem w_zipZ (e1 : dSrc d = some ds) (e2 : dSrc d2 = some es) (h : PL (zipD ds es) c) : dZipZ [d, d2] c PL E := ⟨ds, es, e1, e2, h⟩
end
end Kq
set_option Elab.async false
set_option linter.all false
set_option maxRecDepth 100000
set_option maxHeartbeats 400000
namespace Kq
open PySem PySem.Spec PyProof.Rows L2 LamX
/-! ### targets with stores to items: what they make of the names, step by step -/
abbrev GM := D → Rho → Nat → (Rho → Nat → Prop) → (XC → Nat → Prop) → Prop
abbrev GMs := List D → Rho → Nat → (Rho → Nat → Prop) → (XC → Nat → Prop) → Prop
def FinS (j : J) (s : Sx) (E : XC → Nat → Prop) : Prop := ∀ x c, E x c → ∀ cls dd σ t, Sg j s t → t.c = c → Ok j.g t → Xt t.p j.H0.h t.H → XcR j.g t cls dd x → j.W cls dd σ t.H
theorem FinS.sg {j : J} {s t : Sx} {E : XC → Nat → Prop} (h : FinS j s E) (e : Sg j s t) : FinS j t E := fun x c q cls dd σ u eu => h x c q cls dd σ u (e.trans eu)
theorem FinS.fin {j : J} {s : Sx} {σ : L2.St} {E : XC → Nat → Prop} (h : FinS j s E) (e0 : Xt s.p j.H0.h s.H) : Fin j s σ E := fun x c q cls dd t e ec r =>
  h x c q cls dd σ t (Sg.of e e0) ec e.ok (by rw [e.p]; exact e0.trans e.hh) r
theorem EndsR.finS {j : J} {om : Bool} {s : Sx} {po : Po} {Dn : Ends} (h : EndsR j om s po Dn) : FinS j s po.ex := h.ex
def GC (j : J) (tg : TG) (gm : GM) : Prop := ∀ (σ : L2.St) (s : Sx) (ρ : Rho) (v : V) (d : D) (K : Rho → Nat → Prop) (E : XC → Nat → Prop) (Q : L2.St → Hp → Prop), EnvR j.g j.H0 s σ ρ → Rp j.g s.p s.F v d → gm d ρ s.c K E → FinS j s E →
  (∀ ρ' c, K ρ' c → ∀ σ' t, Sg j s t → t.c = c → EnvR j.g j.H0 t σ' ρ' → Q σ' t.H) → tg v σ s.H Q
def GsC (j : J) (tg : TGs) (gm : GMs) : Prop := ∀ (σ : L2.St) (s : Sx) (ρ : Rho) (v : List V) (d : List D) (K : Rho → Nat → Prop) (E : XC → Nat → Prop) (Q : L2.St → Hp → Prop), EnvR j.g j.H0 s σ ρ → Rps j.g s.p s.F v d → gm d ρ s.c K E → FinS j s E →
  (∀ ρ' c, K ρ' c → ∀ σ' t, Sg j s t → t.c = c → EnvR j.g j.H0 t σ' ρ' → Q σ' t.H) → tg v σ s.H Q
section
variable {j : J} {om : Bool} {k ka : Kd} {e a b : Expr} {m ma mb mi : ME} {st : Stmt} {i l : Nat}
def gmName (i : Nat) : GM := fun d ρ c K _ => K (ρ.set i (.val d)) c
theorem gc_name : GC j (gName i) (gmName i) := by
  intro σ s ρ v d K E Q env r hm fx hk
  exact hk _ _ hm _ s Sg.refl rfl (env.set r)
def gmSub (i : Nat) (mi : ME) : GM := fun d ρ c K E => match ρ[i]? with
  | some (.own ds) => mi ρ c (fun x c => match x with
    | .int n => ∃ q, ixN ds.length n = some q ∧ K (ρ.set i (.own (ds.set q d))) c
    | _ => False) E
  | _ => False
theorem gc_sub (hb : RE j k b mi) : GC j (gSub (tVar i) (tOf j (RV k j.g) mi) rSetL) (gmSub i mi) := by
  intro σ s ρ v d K E Q env r hm fx hk
  unfold gmSub at hm
  match h1 : ρ[i]?, hm with
  | some (.own ds), hm =>
    have q0 := env.sl i
    rw [h1] at q0
    obtain ⟨l0, xs0, hw, _⟩ := q0
    refine ⟨_, hw, ρ, s, _, E, rfl, env, hm, fun x c hx y t e1 ec r1 => ?_, fx.fin env.h0⟩
    subst ec
    match x, hx, r1 with
    | .int n, ⟨q, h2, h3⟩, r1 =>
      have env1 := env.to e1
      have q := env1.sl i
      rw [h1] at q
      obtain ⟨l, xs, a1, a2, a3, a4, a5, a6⟩ := q
      rw [hw] at a1
      cases a1
      have r' : Rp j.g t.p t.F v d := by rw [e1.p]; exact Rp.mono e1.ff r
      refine ⟨l0, xs, n, _, rfl, inv_int r1, a5, by rw [a6.length]; exact h2, ?_⟩
      exact hk _ _ h3 _ (t.lay l0 _) ((Sg.of e1 env.h0).trans ⟨rfl, Xt.refl _ _, fun _ _ _ _ h => h⟩) rfl (env1.mut h1 hw (a6.set r' _))
def gmNil : GMs := fun d ρ c K _ => match d with
  | [] => K ρ c
  | _ => False
def gmCons (f : GM) (fs : GMs) : GMs := fun d ρ c K E => match d with
  | d :: ds => f d ρ c (fun ρ c => fs ds ρ c K E) E
  | _ => False
def gmTup (n : Nat) (fs : GMs) : GM := fun d ρ c K E => match d with
  | .tup ds => ds.length = n ∧ fs ds ρ c K E
  | _ => False
theorem gsc_nil : GsC j gNil gmNil := by
  intro σ s ρ v d K E Q env r hm fx hk
  match d, hm, r with
  | [], hm, .nil => exact ⟨rfl, hk _ _ hm _ s Sg.refl rfl env⟩
theorem gsc_cons {t : TG} {u : TGs} {f : GM} {fs : GMs} (h1 : GC j t f) (h2 : GsC j u fs) : GsC j (gCons t u) (gmCons f fs) := by
  intro σ s ρ v d K E Q env r hm fx hk
  match d, hm, r with
  | d :: ds, hm, .cons (v := w) (vs := ws) q r =>
    refine ⟨w, ws, rfl, h1 σ s ρ w d _ E _ env q hm fx fun ρ1 c h σ1 t sg ec env1 => ?_⟩
    subst ec
    refine h2 σ1 t ρ1 ws ds K E Q env1 (by rw [sg.p]; exact Rps.mono sg.ff r) h (fx.sg sg) fun ρ2 c2 h3 σ2 u sg2 ec2 env2 => ?_
    exact hk _ _ h3 _ u (sg.trans sg2) ec2 env2
theorem gc_tup {n : Nat} {u : TGs} {fs : GMs} (h : GsC j u fs) : GC j (gTup j.X.K n u) (gmTup n fs) := by
  intro σ s ρ v d K E Q env r hm fx hk
  match d, hm, r with
  | .tup ds, ⟨hn, hm⟩, .tup (a := a) (xs := xs) ha r =>
    exact ⟨a, xs, rfl, (ha.mono env.ok.fh).sq, by rw [r.length]; exact hn, h σ s ρ xs ds K E Q env r hm fx hk⟩
def mAsgC (gm : GM) (m : ME) : MS := fun ρ c po => m ρ c (fun d c => gm d ρ c po.nx po.ex) po.ex
structure RG (j : J) (tgt : Expr) (gm : GM) : Prop where
  ex : ∃ tg, PG j.X tgt tg ∧ GC j tg gm
structure RGs (j : J) (tgts : List Expr) (gm : GMs) : Prop where
  ex : ∃ tg, PGs j.X tgts tg ∧ GsC j tg gm
theorem rg_name {tgt : Expr} (h : PG j.X tgt (gName i)) : RG j tgt (gmName i) := ⟨_, h, gc_name⟩
theorem rg_sub {tgt : Expr} (h : ∀ {ti : TE}, PE j.X b ti → PG j.X tgt (gSub (tVar i) ti rSetL)) (hb : RE j k b mi) : RG j tgt (gmSub i mi) := ⟨_, h hb.pe, gc_sub hb⟩
theorem rgs_nil : RGs j [] gmNil := ⟨_, pgs_nil, gsc_nil⟩
theorem rgs_cons {t : Expr} {ts : List Expr} {f : GM} {fs : GMs} (h1 : RG j t f) (h2 : RGs j ts fs) (hs : (assignEach (t :: ts) j.X.env).map (·.2) = assign t j.X.env :: (assignEach ts j.X.env).map (·.2) := by rfl) : RGs j (t :: ts) (gmCons f fs) := by
  obtain ⟨t1, p1, c1⟩ := h1.ex
  obtain ⟨t2, p2, c2⟩ := h2.ex
  exact ⟨_, pgs_cons p1 p2 hs, gsc_cons c1 c2⟩
theorem rg_tup {tgt : Expr} {ts : List Expr} {n : Nat} {fs : GMs} (h : ∀ {u : TGs}, PGs j.X ts u → PG j.X tgt (gTup j.X.K n u)) (hs : RGs j ts fs) : RG j tgt (gmTup n fs) := by
  obtain ⟨t1, p1, c1⟩ := hs.ex
  exact ⟨_, h p1, gc_tup c1⟩
theorem rs_asgC {tgt : Expr} {gm : GM} (h : ∀ {te : TE} {tg : TG}, PE j.X e te → PG j.X tgt tg → PS j.X st (tAsg te tg)) (hg : RG j tgt gm) (he : RE j .val e m) : RS j om st (mAsgC gm m) := by
  obtain ⟨tg, p1, hg⟩ := hg.ex
  exact ⟨(h he.pe p1).imp fun Dn σ H ⟨ρ, s, po, eh, env, hm, en⟩ => by
    subst eh
    refine ⟨ρ, s, _, _, rfl, env, hm, fun d c hd v t e ec r => ?_, en.fin env.h0⟩
    subst ec
    have sg := Sg.of e env.h0
    exact hg σ t ρ v d _ _ _ (env.to e) r hd (en.finS.sg sg) fun ρ' c h σ' u sg2 ec env' => en.nx _ _ h _ u (sg.trans sg2) ec env'⟩
/-! ### a, b = x, y with lists of one's own -/
def slPut : Kd → D → Option Sl
  | .own, .lst ds => some (.own ds)
  | .val, d => some (.val d)
  | _, _ => none
theorem EnvR.putK {g : Gx} {H0 : Hz} {s0 s : Sx} {σ : L2.St} {ρ : Rho} {k : Kd} {v : V} {d : D} {x : Sl} {i : Nat} (h : EnvR g H0 s σ ρ) (r : RV k g s0 s v d) (e : slPut k d = some x) (hn : Xt s.p H0.h s0.H) (hf : ∀ l, Nw s0.H l → ∀ n : Nat, n ≠ i → slOwn ρ[n]? = true → σ[n]? ≠ some (some (.ref l))) : EnvR g H0 s (σ.set i (some v)) (ρ.set i x) := by
  match k, d, e, r with
  | .own, .lst ds, e, r =>
    cases e
    obtain ⟨l, xs, ds', h1, h2, h3, h4, h5, h6, h7⟩ := r
    cases h1
    subst h2
    exact h.setOwn h3 (hn.freeN h4) h5 h6 h7 (hf l h4)
  | .val, d, e, r =>
    cases e
    exact h.set r
def mParK (i l : Nat) (k1 k2 : Kd) (m1 m2 : ME) : MS := fun ρ c po => m1 ρ c (fun x c => m2 ρ c (fun y c => ∃ a b, slPut k1 x = some a ∧ slPut k2 y = some b ∧ po.nx ((ρ.set i a).set l b) c) po.ex) po.ex
theorem rs_parK {k1 k2 : Kd} {e1 e2 : Expr} {m1 m2 : ME} {l : Nat} (h : ∀ {ta : TA}, PA j.X [e1, e2] ta → PS j.X st (tPar i l ta)) (h1 : RE j k1 e1 m1) (h2 : RE j k2 e2 m2) (hs1 : starEach [e1, e2] j.X.env = (false, eval e1 j.X.env) :: starEach [e2] j.X.env := by rfl) (hs2 : starEach [e2] j.X.env = (false, eval e2 j.X.env) :: starEach [] j.X.env := by rfl) : RS j om st (mParK i l k1 k2 m1 m2) := ⟨(h (pa_cons h1.pe (pa_cons h2.pe pa_nil hs2) hs1)).imp fun Dn σ H ⟨ρ, s, po, eh, env, hm, en⟩ => by
  subst eh
  refine ⟨ρ, s, _, _, rfl, env, hm, fun d c hd v t g1 ec r => ?_, en.fin env.h0⟩
  subst ec
  have env1 := env.to g1
  refine ⟨ρ, t, _, _, rfl, env1, hd, fun d2 c hd2 v2 u g2 ec r2 => ?_, (en.fin env.h0).gr g1⟩
  subst ec
  obtain ⟨a, b, p1, p2, hn⟩ := hd2
  have env2 := env1.putK (i := i) r p1 (by rw [g1.p]; exact env.h0) (fun l hl n _ hn => env.own_ne hl n hn)
  have env3 := (env2.to g2).putK (i := l) r2 p2 (by rw [g2.p]; exact env1.h0) (fun l hl n _ hn => env2.own_ne hl n hn)
  exact ⟨v, v2, rfl, en.nx _ _ hn _ u (Sg.of (g1.trans g2) env.h0) rfl env3⟩⟩
/-- a, b = x, {} -/
def mParD (i l : Nat) (k1 : Kd) (m1 : ME) : MS := fun ρ c po => m1 ρ c (fun x c => ∃ a, slPut k1 x = some a ∧ po.nx ((ρ.set i a).set l (.ownd [])) c) po.ex
theorem EnvR.newD {g : Gx} {H0 : Hz} {s : Sx} {σ : L2.St} {ρ : Rho} {p : Addr} {i : Nat} (h : EnvR g H0 s σ ρ) (hp : s.H p = none) : Gr g s (s.lay p (.dK [])) ∧ EnvR g H0 (s.lay p (.dK [])) (σ.set i (some (.ref p))) (ρ.set i (.ownd [])) := by
  have g1 : Gr g s (s.lay p (.dK [])) := Gr.lay h.ok hp
  exact ⟨g1, (h.to g1).setG ⟨p, [], rfl, h.ok.ne hp, h.h0.free hp, h.ok.fnone hp, upd_same, rfl, .nil⟩ fun n _ hn => h.own_ne (.of hp) n hn⟩
theorem rs_parD {k1 : Kd} {e1 e2 : Expr} {m1 : ME} {l : Nat} (h : ∀ {ta : TA}, PA j.X [e1, e2] ta → PS j.X st (tPar i l ta)) (h1 : RE j k1 e1 m1) (h2 : PE j.X e2 tDNewK) (hs1 : starEach [e1, e2] j.X.env = (false, eval e1 j.X.env) :: starEach [e2] j.X.env := by rfl) (hs2 : starEach [e2] j.X.env = (false, eval e2 j.X.env) :: starEach [] j.X.env := by rfl) : RS j om st (mParD i l k1 m1) := ⟨(h (pa_cons h1.pe (pa_cons h2 pa_nil hs2) hs1)).imp fun Dn σ H ⟨ρ, s, po, eh, env, hm, en⟩ => by
  subst eh
  refine ⟨ρ, s, _, _, rfl, env, hm, fun d c hd v t g1 ec r => ?_, en.fin env.h0⟩
  subst ec
  obtain ⟨a, p1, hn⟩ := hd
  have env1 := env.to g1
  have env2 := env1.putK (i := i) r p1 (by rw [g1.p]; exact env.h0) (fun l hl n _ hn => env.own_ne hl n hn)
  intro p hp
  obtain ⟨g2, env3⟩ := env2.newD (i := l) hp
  exact ⟨v, .ref p, rfl, en.nx _ _ hn _ _ (Sg.of (g1.trans g2) env.h0) rfl env3⟩⟩
/-- x = {} -/
def mNewD (i : Nat) : MS := fun ρ c po => po.nx (ρ.set i (.ownd [])) c
theorem rs_newD (h : ∀ {te : TE}, PE j.X e te → PS j.X st (tAsg te (gName i))) (he : PE j.X e tDNewK) : RS j om st (mNewD i) := ⟨(h he).imp fun Dn σ H ⟨ρ, s, po, eh, env, hm, en⟩ => by
  subst eh
  intro p hp
  obtain ⟨g2, env3⟩ := env.newD (i := i) hp
  exact en.nx _ _ hm _ _ (Sg.of g2 env.h0) rfl env3⟩
/-! ### dicts of one's own -/
/-- the value at a key -/
def atK (kvs : List (Key × D)) (k : Key) : Option D := (kvs.find? fun kv => decide (kv.1 = k)).map (·.2)
def setK (kvs : List (Key × D)) (k : Key) (d : D) : List (Key × D) := if kvs.any (fun kv => decide (kv.1 = k)) then kvs.map (fun kv => if kv.1 = k then (kv.1, d) else kv) else kvs ++ [(k, d)]
def keyD : D → Option Key
  | .int i => some (.inl i)
  | .str s => some (.inr s)
  | _ => none
theorem Rpd.at_ {g : Gx} {p : Addr} {F : Hp} (k : Key) : ∀ {gs : List (Key × V)} {kvs : List (Key × D)}, Rpd g p F gs kvs → (∀ d, atK kvs k = some d → ∃ v, valV gs k = some v ∧ Rp g p F v d) ∧ (atK kvs k = none → valV gs k = none)
  | [], [], _ => ⟨fun d e => (nomatch e), fun _ => rfl⟩
  | [], _ :: _, h => by have := congrArg List.length h.1; simp at this
  | _ :: _, [], h => by have := congrArg List.length h.1; simp at this
  | (k1, v) :: gs, (k2, d) :: kvs, h => by
    obtain ⟨h1, h2⟩ := h
    rw [List.map_cons, List.map_cons] at h1
    injection h1 with e1 e2
    have e1 : k1 = k2 := e1
    subst e1
    cases h2 with
    | cons hv hr =>
      by_cases e : k1 = k
      · rw [valV_pos (p := (k1, v)) e]
        have ea : atK ((k1, d) :: kvs) k = some d := by
          unfold atK
          rw [List.find?_cons, show decide (((k1, d) : Key × D).1 = k) = true from decide_eq_true e]
          rfl
        rw [ea]
        exact ⟨fun d' z => by cases z; exact ⟨v, rfl, hv⟩, fun z => nomatch z⟩
      · rw [valV_neg (p := (k1, v)) e]
        have ea : atK ((k1, d) :: kvs) k = atK kvs k := by
          unfold atK
          rw [List.find?_cons, show decide (((k1, d) : Key × D).1 = k) = false from decide_eq_false e]
        rw [ea]
        exact Rpd.at_ k ⟨e2, hr⟩
theorem Rpd.length {g : Gx} {p : Addr} {F : Hp} {gs : List (Key × V)} {kvs : List (Key × D)} (h : Rpd g p F gs kvs) : gs.length = kvs.length := by
  have := congrArg List.length h.1
  simpa using this
theorem Rpd.any_ {g : Gx} {p : Addr} {F : Hp} {gs : List (Key × V)} {kvs : List (Key × D)} (h : Rpd g p F gs kvs) (k : Key) : (gs.any fun kv => decide (kv.1 = k)) = kvs.any fun kv => decide (kv.1 = k) := by
  have e1 : (gs.any fun kv => decide (kv.1 = k)) = (gs.map (·.1)).any fun x => decide (x = k) := by rw [List.any_map]; rfl
  have e2 : (kvs.any fun kv => decide (kv.1 = k)) = (kvs.map (·.1)).any fun x => decide (x = k) := by rw [List.any_map]; rfl
  rw [e1, e2, h.1]
theorem Rpd.repl {g : Gx} {p : Addr} {F : Hp} (k : Key) {v : V} {d : D} (r : Rp g p F v d) : ∀ {gs : List (Key × V)} {kvs : List (Key × D)}, Rpd g p F gs kvs → Rpd g p F (gs.map fun kv => if kv.1 = k then (kv.1, v) else kv) (kvs.map fun kv => if kv.1 = k then (kv.1, d) else kv)
  | [], [], _ => ⟨rfl, .nil⟩
  | [], _ :: _, h => by have := congrArg List.length h.1; simp at this
  | _ :: _, [], h => by have := congrArg List.length h.1; simp at this
  | (k1, v1) :: gs, (k2, d2) :: kvs, h => by
    obtain ⟨h1, h2⟩ := h
    rw [List.map_cons, List.map_cons] at h1
    injection h1 with e1 e2
    have e1 : k1 = k2 := e1
    subst e1
    cases h2 with
    | cons hv hr =>
      obtain ⟨i1, i2⟩ := Rpd.repl k r (gs := gs) (kvs := kvs) ⟨e2, hr⟩
      by_cases e : k1 = k
      · rw [List.map_cons, List.map_cons, if_pos e, if_pos e]
        exact ⟨by rw [List.map_cons, List.map_cons, i1], .cons r i2⟩
      · rw [List.map_cons, List.map_cons, if_neg e, if_neg e]
        exact ⟨by rw [List.map_cons, List.map_cons, i1], .cons hv i2⟩
theorem Rpd.put {g : Gx} {p : Addr} {F : Hp} {gs : List (Key × V)} {kvs : List (Key × D)} (h : Rpd g p F gs kvs) (k : Key) {v : V} {d : D} (r : Rp g p F v d) : Rpd g p F (putK gs k v) (setK kvs k d) := by
  unfold setK
  by_cases e : kvs.any (fun kv => decide (kv.1 = k)) = true
  · rw [if_pos e]
    have e' := e
    rw [← h.any_ k] at e'
    have : putK gs k v = gs.map fun kv => if kv.1 = k then (kv.1, v) else kv := by
      unfold putK
      rw [if_pos e']
    rw [this]
    exact h.repl k r
  · rw [if_neg e]
    have e' := e
    rw [← h.any_ k] at e'
    have : putK gs k v = gs ++ [(k, v)] := by
      unfold putK
      rw [if_neg e']
    rw [this]
    refine ⟨by rw [List.map_append, List.map_append, h.1]; rfl, ?_⟩
    rw [List.map_append, List.map_append]
    exact h.2.append (.cons r .nil)
theorem rv_key {g : Gx} {s1 t : Sx} {k : Kd} {v : V} {d : D} {y : Key} (h : RV k g s1 t v d) (e : keyD d = some y) : v = kV y := by
  match d, e, h with
  | .int i, e, h => cases e; exact inv_int h
  | .str z, e, h => cases e; exact inv_str h
/-- x[k], x a dict of one's own -/
def mGetD (i : Nat) (mk : ME) : ME := fun ρ c Q E => match ρ[i]? with
  | some (.ownd kvs) => mk ρ c (fun y c => ∃ q d, keyD y = some q ∧ atK kvs q = some d ∧ Q d c) E
  | _ => False
theorem re_getD {x : Str} {px pos : Pos} {kx : Expr} {mk : ME} (hu : j.X.A.units + 64 < cLine) (ho : PE j.X (.Name x px) (tVar i)) (hk : RE j k kx mk) (hs : NoSl kx) : RE j .val (.Subscript (.Name x px) kx pos) (mGetD i mk) :=
  ⟨(pe_dget (Nat.lt_of_le_of_lt (Nat.add_le_add_left (by decide : 1 ≤ 64) _) hu) ho hk.pe hs).imp fun σ H Q ⟨ρ, s, P, E, eh, env, hm, hq, hx⟩ => by
    subst eh
    unfold mGetD at hm
    match h1 : ρ[i]?, hm with
    | some (.ownd kvs), hm =>
      have q0 := env.sl i
      rw [h1] at q0
      obtain ⟨l, gs, hw, _⟩ := q0
      refine ⟨_, hw, ρ, s, _, E, rfl, env, hm, fun y c hy v t e1 ec r1 => ?_, hx⟩
      subst ec
      obtain ⟨q, d, a1, a2, a3⟩ := hy
      have q1 := (env.to e1).sl i
      rw [h1] at q1
      obtain ⟨l1, gs1, b1, b2, b3, b4, b5, b6⟩ := q1
      rw [hw] at b1
      cases b1
      obtain ⟨w, c1, c2⟩ := (b6.at_ q).1 d a2
      refine ⟨_, w, rfl, ?_, hq _ _ a3 _ t e1 rfl c2⟩
      rw [rv_key r1 a1, ← c1]
      exact DGet.k b5⟩
/-- k in x -/
def mInD (n : Bool) (i : Nat) (mk : ME) : ME := fun ρ c Q E => match ρ[i]? with
  | some (.ownd kvs) => mk ρ c (fun y c => match y with
    | .non => Q (.bl n) c
    | y => ∃ q, keyD y = some q ∧ Q (.bl (n ^^ (atK kvs q).isSome)) c) E
  | _ => False
theorem atK_some {g : Gx} {p : Addr} {F : Hp} {gs : List (Key × V)} {kvs : List (Key × D)} (h : Rpd g p F gs kvs) (k : Key) : (valV gs k).isSome = (atK kvs k).isSome := by
  cases e : atK kvs k with
  | none => rw [(h.at_ k).2 e]; rfl
  | some d => obtain ⟨v, e2, _⟩ := (h.at_ k).1 d e; rw [e2]; rfl
theorem inD_imp {mk : ME} (σ : L2.St) (H : Hp) (Q : VK) (h : tOf j (RV .val j.g) (mInD false i mk) σ H Q) : tDInN (tOf j (RV k j.g) mk) (tVar i) σ H Q := by
  obtain ⟨ρ, s, P, E, eh, env, hm, hq, hx⟩ := h
  subst eh
  unfold mInD at hm
  match h1 : ρ[i]?, hm with
  | some (.ownd kvs), hm =>
    refine ⟨ρ, s, _, E, rfl, env, hm, fun y c hy v t e1 ec r1 => ?_, hx⟩
    subst ec
    have q1 := (env.to e1).sl i
    rw [h1] at q1
    obtain ⟨l1, gs1, b1, b2, b3, b4, b5, b6⟩ := q1
    refine ⟨_, b1, ?_⟩
    match y, hy, r1 with
    | .non, hy, r1 =>
      have ev : v = .non := by cases r1.rp (fun _ z => nomatch z); rfl
      exact .inr ⟨l1, gs1, rfl, ev, .inl b5, hq _ _ hy _ t e1 rfl (Rp.bl _)⟩
    | .int w, ⟨q, a1, a2⟩, r1 =>
      refine .inl ⟨l1, _, rfl, by rw [rv_key r1 a1]; exact DGet.k b5, ?_⟩
      rw [atK_some b6]
      rw [Bool.false_xor] at a2
      exact hq _ _ a2 _ t e1 rfl (Rp.bl _)
    | .str w, ⟨q, a1, a2⟩, r1 =>
      refine .inl ⟨l1, _, rfl, by rw [rv_key r1 a1]; exact DGet.k b5, ?_⟩
      rw [atK_some b6]
      rw [Bool.false_xor] at a2
      exact hq _ _ a2 _ t e1 rfl (Rp.bl _)
theorem re_inD {x : Str} {px pos : Pos} {kx : Expr} {mk : ME} (hu : j.X.A.units + 64 < cLine) (ho : PE j.X (.Name x px) (tVar i)) (hk : RE j k kx mk) (hb : behindInMarks .In (.Name x px) = false := by first | exact nobehind _ (by decide) (by decide) | rfl) : RE j .val (.Compare kx [.In] [.Name x px] pos) (mInD false i mk) :=
  ⟨(pe_cmp (pc_dinN (Nat.lt_of_le_of_lt (Nat.add_le_add_left (by decide : 1 ≤ 64) _) hu) hk.pe ho) hb).imp inD_imp⟩
theorem rt_inD {x : Str} {px pos : Pos} {kx : Expr} {mk : ME} (hu : j.X.A.units + 64 < cLine) (ho : PE j.X (.Name x px) (tVar i)) (hk : RE j k kx mk) (hb : behindInMarks .In (.Name x px) = false := by first | exact nobehind _ (by decide) (by decide) | rfl) : RT j (.Compare kx [.In] [.Name x px] pos) (mTst (mInD false i mk)) :=
  ⟨(pt_cmp (pc_dinN (Nat.lt_of_le_of_lt (Nat.add_le_add_left (by decide : 1 ≤ 64) _) hu) hk.pe ho) hb).imp fun σ H Q ⟨ρ, s, P, E, eh, env, hm, hq, hx⟩ => inD_imp σ H _ ⟨ρ, s, _, E, eh, env, hm, fun d c hd v t g1 ec r => by
    obtain ⟨b, rfl, q⟩ := inv_dBl hd
    exact ⟨b, inv_bl (k := .val) (s1 := t) r, hq b c q b t g1 ec rfl⟩, hx⟩⟩
/-- x[k] = v -/
def mPutD (i : Nat) (me mk : ME) : MS := fun ρ c po => me ρ c (fun d c => match ρ[i]? with
  | some (.ownd kvs) => mk ρ c (fun y c => ∃ q, keyD y = some q ∧ kvs.length < sizeLine ∧ po.nx (ρ.set i (.ownd (setK kvs q d))) c) po.ex
  | _ => False) po.ex
theorem rs_putD {x : Str} {px p1 pos : Pos} {kx : Expr} {mk : ME} (hu : j.X.A.units + 64 < cLine) (ho : PE j.X (.Name x px) (tVar i)) (he : RE j .val e m) (hk : RE j k kx mk) (hs : swapsWith e (some (.Subscript (.Name x px) kx p1)) pos.line j.X.env = pure false := by rfl) : RS j om (.Assign [.Subscript (.Name x px) kx p1] e pos) (mPutD i m mk) :=
  ⟨(ps_dput (Nat.lt_of_le_of_lt (Nat.add_le_add_left (by decide : 1 ≤ 64) _) hu) ho hk.pe he.pe hs).imp fun Dn σ H ⟨ρ, s, po, eh, env, hm, en⟩ => by
    subst eh
    refine ⟨ρ, s, _, _, rfl, env, hm, fun d c hd v t e1 ec r => ?_, en.fin env.h0⟩
    subst ec
    have env1 := env.to e1
    match h1 : ρ[i]?, hd with
    | some (.ownd kvs), hd =>
      have q0 := env1.sl i
      rw [h1] at q0
      obtain ⟨l0, gs0, hw, _⟩ := q0
      refine ⟨_, hw, ρ, t, _, _, rfl, env1, hd, fun y c hy w u e2 ec r2 => ?_, (en.fin env.h0).gr e1⟩
      subst ec
      obtain ⟨q, a1, a2, a3⟩ := hy
      have env2 := env1.to e2
      have q1 := env2.sl i
      rw [h1] at q1
      obtain ⟨l1, gs1, b1, b2, b3, b4, b5, b6⟩ := q1
      rw [hw] at b1
      cases b1
      refine ⟨l0, _, rfl, by rw [rv_key r2 a1]; exact DPut.k b5 (by rw [b6.length]; exact a2), ?_⟩
      exact en.nx _ _ a3 _ (u.lay l0 _) ((Sg.of (e1.trans e2) env.h0).trans ⟨rfl, Xt.refl _ _, fun _ _ _ _ h => h⟩) rfl (env2.mutD h1 hw (b6.put q (r.gr e2)))⟩
end
end Kq
set_option Elab.async false
set_option linter.all false
set_option maxRecDepth 100000
set_option maxHeartbeats 400000
namespace Kq
open PySem PySem.Spec PyProof.Rows L2 LamX
theorem Rps.eraseIdx {g : Gx} {p : Addr} {F : Hp} : ∀ {xs : List V} {ds : List D} (n : Nat), Rps g p F xs ds → Rps g p F (xs.eraseIdx n) (ds.eraseIdx n)
  | _, _, _, .nil => .nil
  | _, _, 0, .cons _ r => r
  | _, _, n + 1, .cons h r => .cons h (r.eraseIdx n)
section
variable {j : J} {om : Bool} {k ka : Kd} {e a b : Expr} {m ma mb mi : ME} {st : Stmt} {i l : Nat} {mas : MA} {ks : List Kd} {es : List Expr}
/-! ### x.append(y.pop(e)), z = y.pop(e) -/
/-- what pop takes -/
def popD (es : List D) (x : D) (K : D → List D → Prop) : Prop := match x with
  | .int n => -(2 ^ 63) ≤ n ∧ n < 2 ^ 63 ∧ ∃ q d, ixN es.length n = some q ∧ es[q]? = some d ∧ K d (es.eraseIdx q)
  | _ => False
def mPopApp (i k : Nat) (m : ME) : MS := fun ρ c po => match ρ[i]?, ρ[k]? with
  | some (.own ds), some (.own es) => m ρ c (fun x c => popD es x fun d fs => ds.length < sizeLine ∧ po.nx ((ρ.set k (.own fs)).set i (.own (ds ++ [d]))) c) po.ex
  | _, _ => False
theorem rs_popApp {kk : Nat} (h : ∀ {te : TE}, PE j.X a te → PS j.X st (tDrop (tBM j.X.K "list" rAppend (tVar i) (tCons (tBM j.X.K "list" rPopAt (tVar kk) (tCons te tNil)) tNil)))) (hik : i ≠ kk) (he : RE j k a m) : RS j om st (mPopApp i kk m) := ⟨(h he.pe).imp fun Dn σ H ⟨ρ, s, po, eh, env, hm, en⟩ => by
  subst eh
  have q := env.sl i
  have q2 := env.sl kk
  unfold mPopApp at hm
  match h1 : ρ[i]?, h2 : ρ[kk]?, hm with
  | some (.own ds), some (.own es), hm =>
    rw [h1] at q
    rw [h2] at q2
    obtain ⟨l1, xs1, a1, a2, a3, a4, a5, a6⟩ := q
    obtain ⟨l2, xs2, b1, b2, b3, b4, b5, b6⟩ := q2
    refine ⟨_, a1, .inl ⟨rfl, _, SqL.of a5⟩, _, b1, .inl ⟨rfl, _, SqL.of b5⟩, ρ, s, _, _, rfl, env, hm, fun x c hd w t e1 ec r => ?_, en.fin env.h0⟩
    subst ec
    match x, hd, r with
    | .int n, ⟨n1, n2, q, d, n3, n4, n5, n6⟩, r =>
      have env1 := env.to e1
      have c5 := (e1.hh _ _ b5 (fun _ z => nomatch z)).2 b2
      have c6 : Rps j.g t.p t.F xs2 es := by rw [e1.p]; exact Rps.mono e1.ff b6
      obtain ⟨y, hy, ry⟩ := c6.get n4
      refine ⟨l2, xs2, n, q, y, rfl, by rw [inv_int r], c5, n1, n2, (ixN_seq (by rw [c6.length]; exact n3)).1, hy, ?_⟩
      have env2 := env1.mut h2 b1 (c6.eraseIdx q)
      have h1' : (ρ.set kk (.own (es.eraseIdx q)))[i]? = some (.own ds) := by rw [List.getElem?_set_ne (Ne.symm hik)]; exact h1
      have q3 := env2.sl i
      rw [h1'] at q3
      obtain ⟨l3, xs3, d1, d2, d3, d4, d5, d6⟩ := q3
      rw [a1] at d1
      cases d1
      refine ⟨l1, xs3, y, rfl, rfl, d5, by rw [d6.length]; exact n5, ?_⟩
      have ry2 : Rp j.g (t.lay l2 (.lst (xs2.eraseIdx q))).p (t.lay l2 (.lst (xs2.eraseIdx q))).F y d := ry
      have env3 := env2.mut h1' a1 (d6.snoc ry2)
      exact en.nx _ _ n6 _ ((t.lay l2 _).lay l1 _) ((Sg.of e1 env.h0).trans ⟨rfl, Xt.refl _ _, fun _ _ _ _ h => h⟩) rfl env3⟩
/-- z = y.pop(e) -/
def mPopSet (i k : Nat) (m : ME) : MS := fun ρ c po => match ρ[k]? with
  | some (.own es) => m ρ c (fun x c => popD es x fun d fs => po.nx ((ρ.set k (.own fs)).set i (.val d)) c) po.ex
  | _ => False
theorem rs_popSet {kk : Nat} (h : ∀ {te : TE}, PE j.X a te → PS j.X st (tAsg (tBM j.X.K "list" rPopAt (tVar kk) (tCons te tNil)) (gName i))) (he : RE j k a m) : RS j om st (mPopSet i kk m) := ⟨(h he.pe).imp fun Dn σ H ⟨ρ, s, po, eh, env, hm, en⟩ => by
  subst eh
  have q2 := env.sl kk
  unfold mPopSet at hm
  match h2 : ρ[kk]?, hm with
  | some (.own es), hm =>
    rw [h2] at q2
    obtain ⟨l2, xs2, b1, b2, b3, b4, b5, b6⟩ := q2
    refine ⟨_, b1, .inl ⟨rfl, _, SqL.of b5⟩, ρ, s, _, _, rfl, env, hm, fun x c hd w t e1 ec r => ?_, en.fin env.h0⟩
    subst ec
    match x, hd, r with
    | .int n, ⟨n1, n2, q, d, n3, n4, n5⟩, r =>
      have env1 := env.to e1
      have c5 := (e1.hh _ _ b5 (fun _ z => nomatch z)).2 b2
      have c6 : Rps j.g t.p t.F xs2 es := by rw [e1.p]; exact Rps.mono e1.ff b6
      obtain ⟨y, hy, ry⟩ := c6.get n4
      refine ⟨l2, xs2, n, q, y, rfl, by rw [inv_int r], c5, n1, n2, (ixN_seq (by rw [c6.length]; exact n3)).1, hy, ?_⟩
      have env2 := env1.mut h2 b1 (c6.eraseIdx q)
      have ry2 : Rp j.g (t.lay l2 (.lst (xs2.eraseIdx q))).p (t.lay l2 (.lst (xs2.eraseIdx q))).F y d := ry
      exact en.nx _ _ n5 _ (t.lay l2 _) ((Sg.of e1 env.h0).trans ⟨rfl, Xt.refl _ _, fun _ _ _ _ h => h⟩) rfl (env2.set ry2)⟩
/-! ### a, b = x, y by a tuple (a name that a comprehension reads) -/
theorem rs_parKT {k1 k2 : Kd} {e1 e2 : Expr} {m1 m2 : ME} {l x1 : Nat} {tp : Pos} (h : ∀ {te : TE}, PE j.X (.Tuple [e1, e2] x1 tp) te → PS j.X st (tAsg te (gTup j.X.K 2 (gCons (gName i) (gCons (gName l) gNil))))) (h1 : RE j k1 e1 m1) (h2 : RE j k2 e2 m2) (hs1 : starEach [e1, e2] j.X.env = (false, eval e1 j.X.env) :: starEach [e2] j.X.env := by rfl) (hs2 : starEach [e2] j.X.env = (false, eval e2 j.X.env) :: starEach [] j.X.env := by rfl) : RS j om st (mParK i l k1 k2 m1 m2) := ⟨(h (pe_tup (pa_cons h1.pe (pa_cons h2.pe pa_nil hs2) hs1))).imp fun Dn σ H ⟨ρ, s, po, eh, env, hm, en⟩ => by
  subst eh
  refine ⟨ρ, s, _, _, rfl, env, hm, fun d c hd v t g1 ec r => ?_, en.fin env.h0⟩
  subst ec
  have env1 := env.to g1
  refine ⟨ρ, t, _, _, rfl, env1, hd, fun d2 c hd2 v2 u g2 ec r2 => ?_, (en.fin env.h0).gr g1⟩
  subst ec
  obtain ⟨a, b, p1, p2, hn⟩ := hd2
  refine ⟨Nat.le_of_ble_eq_true rfl, fun p hp => ?_⟩
  have g3 : Gr j.g u (u.lay p (.tup [v, v2])) := Gr.lay g2.ok hp
  have env2 := env1.putK (i := i) r p1 (by rw [g1.p]; exact env.h0) (fun l hl n _ hn => env.own_ne hl n hn)
  have env3 := (env2.to g2).putK (i := l) r2 p2 (by rw [g2.p]; exact env1.h0) (fun l hl n _ hn => env2.own_ne hl n hn)
  exact ⟨p, [v, v2], rfl, .inl (.inl upd_same), rfl, v, [v2], rfl, v2, [], rfl, rfl, en.nx _ _ hn _ (u.lay p (.tup [v, v2])) (Sg.of ((g1.trans g2).trans g3) env.h0) rfl (env3.to g3)⟩⟩
/-! ### x.insert(i, v) -/
def rInsert : V → List V → Hp → VK → Prop := fun x vs H Q => ∃ (l : Addr) (xs : List V) (i : Int) (y : V), x = .ref l ∧ vs = [.int i, y] ∧ H l = some (.lst xs) ∧ xs.length < sizeLine ∧ 0 ≤ i ∧ i < 2 ^ 63 ∧ Q .non (upd H l (.lst (xs.take i.toNat ++ [y] ++ xs.drop i.toNat)))
def oIns (ds es : List D) (P : List D → D → Prop) : Prop := match es with
  | [.int n, d] => ds.length < sizeLine ∧ 0 ≤ n ∧ n < 2 ^ 63 ∧ P (ds.take n.toNat ++ [d] ++ ds.drop n.toNat) .non
  | _ => False
theorem own_ins {g : Gx} : OwnM g [ka, .val] rInsert oIns := by
  intro s1 t l xs vs ds es Q P n f h r rv o hm hq
  match es, hm, rv with
  | [.int q, d], ⟨h1, h2, h3, h4⟩, .cons rn (.cons rv .nil) =>
    exact ⟨l, xs, q, _, rfl, by rw [inv_int rn], h, by rw [r.length]; exact h1, h2, h3, hq _ _ h4 _ _ (((r.take _).append (.cons rv .nil)).append (r.drop _)) .non⟩
/-! ### list(range(n)) -/
def mLRng1 (m : ME) : ME := fun ρ c Q E => m ρ c (fun x c => match x with
  | .int n => RgOk 0 n ∧ Q (.lst (rngD 0 n.toNat)) c
  | _ => False) E
theorem rps_rng {g : Gx} {p : Addr} {F : Hp} (n : Int) : Rps g p F (rgV 0 n) (rngD 0 n.toNat) := by
  have e1 : rgV 0 n = ((List.range n.toNat).map fun (i : Nat) => (0 + (i : Int) : Int)).map V.int := by
    unfold rgV
    rw [Int.sub_zero, List.map_map]
    rfl
  have e2 : rngD 0 n.toNat = ((List.range n.toNat).map fun (i : Nat) => (0 + (i : Int) : Int)).map D.int := by
    unfold rngD
    rw [List.map_map]
    rfl
  rw [e1, e2]
  exact Rps.ints _
theorem re_lrng1 {p pos p2 pos2 : Pos} (hc : j.X.calm = true) (hg : Gl j.X "list") (hm' : j.X.mg "list" = none) (hg2 : Gl j.X "range") (hm2 : j.X.mg "range" = none) (ha : RE j k a m)
    (na : starEach [a] j.X.env = (false, eval a j.X.env) :: starEach [] j.X.env := by rfl) (nb : starEach [.Call (.Name "range" p2) [a] [] pos2] j.X.env = (false, eval (.Call (.Name "range" p2) [a] [] pos2) j.X.env) :: starEach [] j.X.env := by rfl) :
    RE j .own (.Call (.Name "list" p) [.Call (.Name "range" p2) [a] [] pos2] [] pos) (mLRng1 m) :=
  ⟨(pe_listRg hc hg hm' (prg_1 hg2 hm2 ha.pe na) nb).imp fun σ H Q ⟨ρ, s, P, E, eh, env, hm, hq, hx⟩ => by
    subst eh
    refine ⟨ρ, s, _, E, rfl, env, hm, fun x c hy v t e1 ec r1 => ?_, hx⟩
    subst ec
    match x, hy, r1 with
    | .int n, ⟨h1, h2⟩, r1 =>
      refine ⟨n, inv_int r1, h1, fun q hq2 => ?_⟩
      have o := e1.ok
      refine hq _ _ h2 _ (t.lay q (.lst (rgV 0 n))) (e1.trans (Gr.lay o hq2)) rfl ?_
      exact ⟨q, _, _, rfl, rfl, o.ne hq2, e1.hh.free hq2, o.fnone hq2, upd_same, rps_rng n⟩⟩
/-! ### dicts as values: {'a': x, ..}, d['a'] -/
def mKeyed (ks : List Str) (ma : MA) : ME := fun ρ c Q E => ma ρ c (fun ds c => ds.length = ks.length ∧ Q (.dct ((ks.map Sum.inr).zip ds)) c) E
theorem mergeK_nodup : ∀ (kvs acc : List (Key × V)), ((acc ++ kvs).map (·.1)).Nodup → mergeK acc kvs = acc ++ kvs
  | [], acc, _ => by
    rw [List.append_nil]
    rfl
  | (k, v) :: r, acc, h => by
    show mergeK (putK acc k v) r = _
    have hn : valV acc k = none := by
      cases e : valV acc k with
      | none => rfl
      | some x =>
        exfalso
        unfold valV at e
        obtain ⟨kv, e1, _⟩ := Option.map_eq_some_iff.mp e
        have e2 := List.find?_some e1
        have e3 := List.mem_of_find?_eq_some e1
        have e2 : kv.1 = k := by simpa using e2
        rw [List.map_append, List.nodup_append] at h
        exact h.2.2 kv.1 (List.mem_map_of_mem e3) k (by simp) e2
    rw [putK_new v hn, mergeK_nodup r (acc ++ [(k, v)]) (by rw [List.append_assoc]; exact h), List.append_assoc]
    rfl
structure RD (j : J) (pos : Pos) (keys : List (Option Expr)) (es : List Expr) (ks : List Str) (m : MA) : Prop where
  ex : ∃ trs : List (TE × TE), PPs j.X pos keys es trs ∧ keys.all (·.isSome) = true ∧ keys.length = es.length ∧ ∀ (σ : L2.St) (H : Hp) (Q : List (V × V) → Hp → Prop),
    (∃ ρ s P E, s.H = H ∧ EnvR j.g j.H0 s σ ρ ∧ m ρ s.c P E ∧ (∀ ds c, P ds c → ∀ vs t, Gr j.g s t → t.c = c → Rps j.g t.p t.F vs ds → Q ((ks.map V.str).zip vs) t.H) ∧ Fin j s σ E) → tPairs trs σ H Q
theorem rd_nil {pos : Pos} : RD j pos [] [] [] mNil := ⟨[], pps_nil, rfl, rfl, fun σ H Q ⟨ρ, s, P, E, eh, env, hm, hq, hx⟩ => by
  subst eh
  exact hq [] s.c hm [] s (Gr.refl env.ok) rfl .nil⟩
theorem rd_cons {pos : Pos} {z : Str} {kx vx : Expr} {keys : List (Option Expr)} {es : List Expr} {ks : List Str} {m1 : ME} {m2 : MA} (hk : PE j.X kx (tC (.str z))) (hv : RE j .val vx m1) (hr : RD j pos keys es ks m2) : RD j pos (some kx :: keys) (vx :: es) (z :: ks) (mCons m1 m2) := by
  obtain ⟨trs, h1, h2, h3, h4⟩ := hr.ex
  refine ⟨_, pps_cons hk hv.pe h1, by rw [List.all_cons, h2]; rfl, by rw [List.length_cons, List.length_cons, h3], fun σ H Q ⟨ρ, s, P, E, eh, env, hm, hq, hx⟩ => ?_⟩
  subst eh
  refine ⟨ρ, s, _, E, rfl, env, hm, fun d c hd v t e1 ec r1 => ?_, hx⟩
  subst ec
  refine h4 σ t.H _ ⟨ρ, t, _, E, rfl, env.to e1, hd, fun ds c hds vs u e2 ec r2 => ?_, hx.gr e1⟩
  subst ec
  have r1' : Rp j.g u.p u.F v d := by rw [e2.p]; exact Rp.mono e2.ff r1
  exact hq _ _ hds (v :: vs) u (e1.trans e2) rfl (.cons r1' r2)
theorem zip_fst {α β : Type} : ∀ (as : List α) (bs : List β), as.length = bs.length → (as.zip bs).map (·.1) = as
  | [], _, _ => rfl
  | a :: as, [], h => by simp at h
  | a :: as, b :: bs, h => by rw [List.zip_cons_cons, List.map_cons, zip_fst as bs (by simpa using h)]
theorem zip_snd {α β : Type} : ∀ (as : List α) (bs : List β), as.length = bs.length → (as.zip bs).map (·.2) = bs
  | [], [], _ => rfl
  | [], _ :: _, h => by simp at h
  | a :: as, [], h => by simp at h
  | a :: as, b :: bs, h => by rw [List.zip_cons_cons, List.map_cons, zip_snd as bs (by simpa using h)]
theorem zip_str : ∀ (ks : List Str) (vs : List V), ks.length = vs.length → (ks.map V.str).zip vs = ((ks.map (Sum.inr : Str → Key)).zip vs).map fun kv => (kV kv.1, kv.2)
  | [], _, _ => rfl
  | a :: as, [], h => by simp at h
  | a :: as, b :: bs, h => by
    rw [List.map_cons, List.map_cons, List.zip_cons_cons, List.zip_cons_cons, List.map_cons, zip_str as bs (by simpa using h)]
    rfl
theorem re_keyed {pos : Pos} {keys : List (Option Expr)} {es : List Expr} {ks : List Str} {m : MA} (hr : RD j pos keys es ks m) (h0 : keys ≠ []) (hl : ks.length ≤ 15) (hn : ks.Nodup) (h15 : keys.length ≤ 15 := by decide) : RE j .val (.Dict keys es pos) (mKeyed ks m) := by
  obtain ⟨trs, h1, h2, h3, h4⟩ := hr.ex
  refine ⟨(pe_disp h1 h2 h3 h0 h15).imp fun σ H Q ⟨ρ, s, P, E, eh, env, hm, hq, hx⟩ => ?_⟩
  subst eh
  intro p hp
  have g1 : Gr j.g s (s.lay p (.dK [])) := Gr.lay env.ok hp
  refine h4 σ _ _ ⟨ρ, s.lay p (.dK []), _, E, rfl, env.to g1, hm, fun ds c hd vs t g2 ec r => ?_, hx.gr g1⟩
  subst ec
  obtain ⟨hlen, hP⟩ := hd
  have hnp := env.ok.ne hp
  have et : t.H p = some (.dK []) := (g2.hh p _ upd_same (fun _ z => nomatch z)).2 hnp
  have ef : t.F p = none := g2.ap p _ upd_same (fun _ z => nomatch z) (env.ok.fnone hp)
  have hvl : ks.length = vs.length := by rw [r.length, hlen]
  have e1 : mergeK [] ((ks.map (Sum.inr : Str → Key)).zip vs) = (ks.map (Sum.inr : Str → Key)).zip vs := by
    rw [mergeK_nodup, List.nil_append]
    rw [List.nil_append, zip_fst _ _ (by rw [List.length_map]; exact hvl)]
    exact List.Pairwise.map Sum.inr (fun a b h z => h (Sum.inr.inj z)) hn
  refine ⟨et, (ks.map (Sum.inr : Str → Key)).zip vs, zip_str ks vs hvl, by rw [List.length_zip, List.length_map]; omega, ?_⟩
  rw [e1]
  have hnp' : p ≠ t.p := by rw [g2.p]; exact hnp
  have g3 : Gr j.g s (t.lay p (.dK ((ks.map (Sum.inr : Str → Key)).zip vs))) := (g1.trans g2).chg (.of hp) hnp' ef et (fun _ z => nomatch z) (fun c q z => by unfold CodeO at z; cases z)
  have g4 := g3.frz (l := p) (o := .dK ((ks.map (Sum.inr : Str → Key)).zip vs)) (.of hp) hnp' ef upd_same (fun _ z => nomatch z)
  refine hq _ _ hP (.ref p) _ g4 rfl ?_
  refine .dct hnp' upd_same ?_ ?_
  · rw [zip_fst _ _ (by rw [List.length_map]; exact hvl), zip_fst _ _ (by rw [List.length_map]; exact hlen.symm)]
  · rw [zip_snd _ _ (by rw [List.length_map]; exact hvl), zip_snd _ _ (by rw [List.length_map]; exact hlen.symm)]
    exact Rps.mono (Xt.new ef) r
/-- d[k] -/
def dDix (d y : D) : M D := fun c Q _ => match d with
  | .dct kvs => ∃ q x, keyD y = some q ∧ atK kvs q = some x ∧ Q x c
  | _ => False
theorem re_dix {b : Expr} {pos : Pos} (hu : j.X.A.units + 64 < cLine) (ha : RE j .val a ma) (hb : RE j k b mb) (hs : NoSl b) : RE j .val (.Subscript a b pos) (mBin dDix ma mb) :=
  ⟨(pe_dget (Nat.lt_of_le_of_lt (Nat.add_le_add_left (by decide : 1 ≤ 64) _) hu) ha.pe hb.pe hs).imp fun σ H Q ⟨ρ, s, P, E, eh, env, hm, hq, hx⟩ => by
    subst eh
    refine ⟨ρ, s, _, E, rfl, env, hm, fun d c hd v t e1 ec r1 => ?_, hx⟩
    subst ec
    refine ⟨ρ, t, _, E, rfl, env.to e1, hd, fun y c hy w u e2 ec r2 => ?_, hx.gr e1⟩
    subst ec
    match d, hy, r1 with
    | .dct kvs, ⟨q, x, a1, a2, a3⟩, r1 =>
      cases r1.gr e2 with
      | @dct l gs _ b2 b4 b5 b6 =>
        obtain ⟨z, c1, c2⟩ := (Rpd.at_ (g := j.g) (p := u.p) (F := u.F) q ⟨b5, b6⟩).1 x a2
        refine ⟨l, z, rfl, ?_, hq _ _ a3 _ u (e1.trans e2) rfl c2⟩
        rw [rv_key r2 a1, ← c1]
        exact DGet.k ((e2.ok.fh _ _ b4 (fun _ z => nomatch z)).2 b2)⟩
end
/-! ### a slice of a tuple, perhaps the whole of it -/
def dSlT (x : D) (lo hi : Option Int) : M D := match x with
  | .tup ds => ret (.tup (cutD ds lo hi))
  | _ => stuck
theorem cutD_whole {ds : List D} {lo hi : Option Int} (h : HT.sIx ds.length 0 lo = 0 ∧ HT.sIx ds.length ds.length hi = ds.length) : cutD ds lo hi = ds := by
  unfold cutD
  rw [h.1, h.2, List.drop_zero, Nat.sub_zero, List.take_length]
section
variable {j : J} {ka k : Kd} {a : Expr} {ma : ME}
theorem slm_tupA : SlM j.g ka .val (L2.rSlA j.g.K) dSlT := by
  intro s1 t x dx lo hi P E Q hx o hm hq
  match dx, hm with
  | .tup ds, hm =>
    obtain ⟨l, xs, rfl, e1, r⟩ := hx.tup o
    have hl := r.length
    refine ⟨l, xs, rfl, e1, fun hw => ?_, fun _ p hp => ?_⟩
    · rw [hl] at hw
      have hm : P (.tup (cutD ds lo hi)) t.c := hm
      rw [cutD_whole hw] at hm
      exact hq _ _ hm _ t (Gr.refl o) rfl (RV.rp hx (fun _ z => nomatch z))
    · obtain ⟨g1, r1⟩ := new_tup (s := t) o hp (r.cut lo hi)
      exact hq _ _ hm _ _ g1 rfl r1
theorem re_slT {lo hi : Option Expr} {ml mh : MO} {p2 pos : Pos} (ha : RE j ka a ma) (hl : RO j lo ml) (hh : RO j hi mh) : RE j .val (.Subscript a (.Slice lo hi none p2) pos) (mSl dSlT ma ml mh) := re_slG L2.sl_tupA slm_tupA ha hl hh
end
section
variable {P : D → Nat → Prop} {E : XC → Nat → Prop} {c : Nat} {ds : List D} {lo hi : Option Int}
theorem w_slTA (h : P (.tup (cutD ds lo hi)) c) : dSlT (.tup ds) lo hi c P E := h
end
/-! ### three names at once, of any kinds -/
def mPar3K (i l n : Nat) (k1 k2 k3 : Kd) (m1 m2 m3 : ME) : MS := fun ρ c po => m1 ρ c (fun x c => m2 ρ c (fun y c => m3 ρ c (fun z c => ∃ a b e, slPut k1 x = some a ∧ slPut k2 y = some b ∧ slPut k3 z = some e ∧ po.nx (((ρ.set i a).set l b).set n e) c) po.ex) po.ex) po.ex
section
variable {j : J} {om : Bool} {st : Stmt} {i : Nat}
theorem rs_par3K {k1 k2 k3 : Kd} {e1 e2 e3 : Expr} {m1 m2 m3 : ME} {l n : Nat} (h : ∀ {ta : TA}, PA j.X [e1, e2, e3] ta → PS j.X st (tPar3 i l n ta)) (h1 : RE j k1 e1 m1) (h2 : RE j k2 e2 m2) (h3 : RE j k3 e3 m3)
    (hs1 : starEach [e1, e2, e3] j.X.env = (false, eval e1 j.X.env) :: starEach [e2, e3] j.X.env := by rfl) (hs2 : starEach [e2, e3] j.X.env = (false, eval e2 j.X.env) :: starEach [e3] j.X.env := by rfl) (hs3 : starEach [e3] j.X.env = (false, eval e3 j.X.env) :: starEach [] j.X.env := by rfl) : RS j om st (mPar3K i l n k1 k2 k3 m1 m2 m3) := ⟨(h (pa_cons h1.pe (pa_cons h2.pe (pa_cons h3.pe pa_nil hs3) hs2) hs1)).imp fun Dn σ H ⟨ρ, s, po, eh, env, hm, en⟩ => by
  subst eh
  refine ⟨ρ, s, _, _, rfl, env, hm, fun d c hd v t g1 ec r => ?_, en.fin env.h0⟩
  subst ec
  have env1 := env.to g1
  refine ⟨ρ, t, _, _, rfl, env1, hd, fun d2 c hd2 v2 u g2 ec r2 => ?_, (en.fin env.h0).gr g1⟩
  subst ec
  have env1b := env1.to g2
  refine ⟨ρ, u, _, _, rfl, env1b, hd2, fun d3 c hd3 v3 w g3 ec r3 => ?_, (en.fin env.h0).gr (g1.trans g2)⟩
  subst ec
  obtain ⟨a, b, e, p1, p2, p3, hn⟩ := hd3
  have env2 := env1.putK (i := i) r p1 (by rw [g1.p]; exact env.h0) (fun l hl n _ hn => env.own_ne hl n hn)
  have env3 := (env2.to g2).putK (i := l) r2 p2 (by rw [g2.p]; exact env1.h0) (fun l hl n _ hn => env2.own_ne hl n hn)
  have env4 := (env3.to g3).putK (i := n) r3 p3 (by rw [g3.p]; exact env1b.h0) (fun l hl n _ hn => env3.own_ne hl n hn)
  exact ⟨v, v2, v3, rfl, en.nx _ _ hn _ w (Sg.of ((g1.trans g2).trans g3) env.h0) rfl env4⟩⟩
end
section
variable {ρ : Rho} {c i : Nat} {nx bk ct : Rho → Nat → Prop} {rt : D → Nat → Prop} {ex : XC → Nat → Prop}
theorem w_par3K {l n : Nat} {k1 k2 k3 : Kd} {m1 m2 m3 : ME} (h : m1 ρ c (fun x c => m2 ρ c (fun y c => m3 ρ c (fun z c => ∃ a b e, slPut k1 x = some a ∧ slPut k2 y = some b ∧ slPut k3 z = some e ∧ nx (((ρ.set i a).set l b).set n e) c) ex) ex) ex) : mPar3K i l n k1 k2 k3 m1 m2 m3 ρ c ⟨nx, rt, bk, ct, ex⟩ := h
end
end Kq
set_option Elab.async false
set_option linter.all false
set_option maxRecDepth 100000
set_option maxHeartbeats 3200000
namespace Kq
open PySem PySem.Spec PyProof.Rows L2 LamX
/-! ### set(list of ints) -/
def nwS (w : World) : Obj := { cls := .type "set", dict := none, data := .set #[] 0 (.fresh 0 0 (!w.params.followText "set-order")) }
section
variable {P : Program} {w : World} {A : Around} {E : Value → Shared → Prop} {s : Shared} {l : Addr} {its : Array Value} {zs : List Int} {Q : Value → Shared → Prop}
theorem no1 {a b c : Nat} (h : a < b) (h2 : c = b + 1) (h3 : a = c) : False := by omega
theorem no2 {a b : Nat} (h : a < b) (h3 : b = a) : False := by omega
theorem no3 {b c : Nat} (h2 : c = b + 1) (h3 : b = c) : False := by omega
theorem no4 {a b : Nat} (h : a < b) (h3 : a = b) : False := by omega
theorem nwS_at : (s.heap.push (nwS w)).get? s.heap.objs.size = some (nwS w) := Heap.get?_push_size _ rfl
theorem mk_set_list (nh : A.handled = none) (il : s.heap.IsList l its) (zi : IntsAre its.toList zs) (zb : zs.length + 1 < scanBound)
    (go : ∀ (g : Heap) (tk c : Nat), SetR w g s.heap.objs.size (fun j => decide (j ∈ zs)) c → c ≤ zs.length → (∀ b o, s.heap.get? b = some o → g.get? b = some o) → Q (.ref s.heap.objs.size) { s with heap := g, toks := tk }) :
    wpAny (model P w) A (call (.type "set") [.ref l]) Q E s := by
  have zn : its.size = zs.length := by
    rw [← Array.length_toList]
    exact IntsAre.length zi
  obtain ⟨_, _, q1⟩ := F.called_set.mro
  have q2 := F.called_set.sub
  have q3 := F.called_set.made
  have q4 := F.called_set.canCreate
  have q5 := F.called_set.notType
  have q6 := F.typeCall_set_1 (.ref l)
  apply wpAny_call
  apply codeAny_of_tree
  show wpAny _ _ (callAny (.type "set") _) _ _ _
  apply wpAny_pure
  refine ⟨Code.quiet_builtin _ (by decide +kernel), ?_⟩
  apply codeAny_builtin F.entry_type_call
  rw [Around.under_plain (weight_type_call_type "set" [.ref l] []) rfl]
  repeat (any_goals (first | assumption | wp_step))
  apply codeAny_mono (code_set_led1 (.ref l) (E := E) (Q₁ := fun ob t => ob = .ref s.heap.objs.size ∧ t = { s with heap := s.heap.push (nwS w) }) ⟨rfl, rfl⟩)
  rintro (e | fl) t ht
  · exact ht
  · match fl, ht with
    | .ret ob, ⟨e1, e2⟩ =>
      subst e1
      subst e2
      have ty : Shared.TypeIs { s with heap := s.heap.push (nwS w) } (.ref s.heap.objs.size) "set" := ⟨_, nwS_at, rfl⟩
      have i1 := F.called_set.init.lookup
      have i2 := F.called_set.init.bind (.ref s.heap.objs.size)
      repeat (any_goals (first | assumption | wp_step))
      refine codeAny_mono (codeAny_call_builtin (R := wants (fun r t => r = .none ∧ ∃ g tk c, t = { s with heap := g, toks := tk } ∧ SetR w g s.heap.objs.size (fun j => decide (j ∈ zs)) c ∧ c ≤ zs.length ∧ ∀ b o, s.heap.get? b = some o → g.get? b = some o) E)
        F.called_set.init.plain F.entry_set_init (check_set_init_1 ty ?_)) ?_
      · obtain ⟨⟨lc, ld, lx, ls⟩, e3, e4, ln, e5⟩ := il
        dsimp only at e4 e5
        subst e4
        subst e5
        have up : ∀ {b : Addr} {o : Obj}, s.heap.get? b = some o → (s.heap.push (nwS w)).get? b = some o := fun e => Heap.get?_push_of_some _ e
        have e6 := up e3
        have r1 := F.sub_list_set
        have r2 := F.sub_list_frozenset
        have r3 : (Value.type "list" == Value.type "dict") = false := by decide
        have il2 : (s.heap.push (nwS w)).IsList l its := ⟨_, e6, rfl, ln, rfl⟩
        unfold Builtin.«set.__init__» noKeywords Builtin.Frozenset.updateFrom
        generalize hPI : pyIter = PI
        wp_walk
        subst hPI
        apply wpAny_pyIter_list il2
        apply wpAny_bind
        apply wpAny_runValue
        have b1 : l < s.heap.objs.size := Heap.lt_size e3
        have b2 : (s.heap.push (nwS w)).objs.size = s.heap.objs.size + 1 := Heap.size_push ..
        have b3 : l ≠ (s.heap.push (nwS w)).objs.size := fun z => no1 b1 b2 z
        have b4 : s.heap.objs.size ∉ [(s.heap.push (nwS w)).objs.size, l] := fun z => by
          rcases List.mem_cons.mp z with z | z
          · exact no3 b2 z
          · exact no2 b1 (List.mem_singleton.mp z)
        have b5 : A.in1.in1.in1.handled = none := by simp [nh]
        have each : ∀ (i : Nat) (v : Value), its[i]? = some v → ∃ k t, zs[i]? = some k ∧ v = .int k t := by
          intro i v hv
          have hi : i < zs.length := zn ▸ (Array.getElem?_eq_some_iff.mp hv).1
          obtain ⟨t, e⟩ := PyProof.Rows.IntsAre.int_at zi i v ((Array.getElem?_toList ..).trans hv)
          have e9 : zs[i]? = some zs[i] := List.getElem?_eq_getElem hi
          rw [List.getD_eq_getElem?_getD, e9] at e
          exact ⟨_, t, e9, e⟩
        have on2 : ∀ {o : Obj}, ((s.heap.push (nwS w)).push o).get? s.heap.objs.size = some (nwS w) := Heap.get?_push_of_some _ nwS_at
        refine set_update_ints (Walks.list b5 _ l b3 its).toS s.heap.objs.size b4 zs zn zb each (its.size - 0) 0 _ (by omega) (Nat.zero_le _) ⟨⟨_, Heap.get?_push_size _ rfl, rfl, rfl⟩, il2.push _⟩ ⟨0, Nat.le_refl 0, setR_new_at on2⟩ ?_
        rintro ⟨g, gg, gd, gt, go⟩ m hm hle hset
        obtain rfl : gg = s.gens := hm.gens
        obtain rfl : gd = s.drawn := hm.drawn
        obtain rfl : go = s.os := hm.os
        show wpAny _ _ _ _ _ _
        apply wpAny_pure
        show wpAny _ _ (PySem.ret Value.none) _ _ _
        apply wpAny_pure
        refine ⟨rfl, g, gt, m, rfl, hset, zn ▸ hle, fun b o e => hm.heap b o (fun z => ?_) (Heap.get?_push_of_some _ (up e))⟩
        have z0 : (b : Nat) < s.heap.objs.size := Heap.lt_size e
        rcases List.mem_cons.mp z with z | z
        · exact no4 z0 z
        · exact no1 z0 b2 (List.mem_singleton.mp z)
      · rintro (e | f2) t2 ht2
        · exact ht2
        · match f2, ht2 with
          | .ret r, ⟨e1, g, gt, m, e2, e3, e4, e5⟩ =>
            subst e1
            subst e2
            repeat (any_goals (first | assumption | wp_step))
            exact go _ _ _ e3 e4 e5
end
end Kq
set_option Elab.async false
set_option linter.all false
set_option maxRecDepth 100000
set_option maxHeartbeats 400000
namespace Kq
open PySem PySem.Spec PyProof.Rows L2 LamX
/-! ### tuples without a dict -/
def fg : D → D
  | .tpf ds => .tup ds
  | d => d
theorem rp_fg {g : Gx} {p : Addr} {F : Hp} {v : V} {d : D} (h : Rp g p F v d) : Rp g p F v (fg d) := by
  cases h with
  | tpf hn hc h r => exact .tup (.inl ⟨hn, .inr ⟨_, h⟩⟩) r
  | non => exact .non
  | bl b => exact .bl b
  | int i => exact .int i
  | str s => exact .str s
  | ty n => exact .ty n
  | tup h r => exact .tup h r
  | lst h r => exact .lst h r
  | ins hc hn h r => exact .ins hc hn h r
  | pen h n => exact .pen h n
  | gl h => exact .gl h
  | dic hn h => exact .dic hn h
  | dct hn h hk r => exact .dct hn h hk r
  | exn hc h r => exact .exn hc h r
section
variable {j : J} {ka kb : Kd} {a b e : Expr} {ma mb m : ME}
def mFg (m : ME) : ME := fun ρ c Q E => m ρ c (fun d c => Q (fg d) c) E
theorem re_fg (h : RE j .val e m) : RE j .val e (mFg m) :=
  ⟨h.pe.imp fun σ H Q ⟨ρ, s, P, E, eh, env, hm, hv, hx⟩ => ⟨ρ, s, _, E, eh, env, hm, fun d c hd v t g1 e1 r1 => hv _ c hd v t g1 e1 (rp_fg r1), hx⟩⟩
/-- tuple(a list): no dict -/
theorem call_tuple_frz {X : Cx} : CallR X (.type "tuple") (fun xs H Q => ∃ p ys, xs = [.ref p] ∧ SqL X.K H p ys ∧ ∀ l ob, H l = none → ob.dict = none → Q (.ref l) (upd H l (.frz ob (.tup ys)))) := by
  intro pins s σ H xs us Q I r h
  obtain ⟨p, ys, rfl, hq, q⟩ := h
  obtain rfl := Vals.ref1 r
  obtain ⟨its, vs, pl, hz⟩ := I.list hq
  have el := vs.length
  refine call_tuple_list pl.isList (fun g kp => ?_) (by simp only [List.size_toArray] <;> omega)
  have J1 : Inv X pins σ H { s with heap := g } := I.kept (t' := s.toks) kp
  have nw : (g.push { cls := .type "tuple", data := .seq its.toArray }).get? g.objs.size = some { cls := .type "tuple", data := .seq its.toArray } := Heap.get?_push_size _ rfl
  have J2 : Inv X pins σ (upd H g.objs.size (.frz { cls := .type "tuple", data := .seq its.toArray } (.tup ys))) { s with heap := g.push { cls := .type "tuple", data := .seq its.toArray } } :=
    J1.laid (t' := s.toks) (fun b o e => Heap.get?_push_of_some _ e) (Nat.le_refl _) ⟨nw, hz, its, vs, IsTup.new _ _⟩
  exact ⟨.ref g.objs.size, _, J2, rfl, q _ _ (J1.hok.fresh (Nat.le_refl _)) rfl⟩
def dToTupF : List D → M D
  | [.lst ds] => ret (.tpf ds)
  | _ => stuck
theorem cam_toTupF {ks : List Kd} : CaM j.g ks .val (fun xs H Q => ∃ p ys, xs = [.ref p] ∧ SqL j.g.K H p ys ∧ ∀ l ob, H l = none → ob.dict = none → Q (.ref l) (upd H l (.frz ob (.tup ys)))) dToTupF := by
  intro s1 t xs ds P E Q hx o hm hq
  match ds, hm with
  | [.lst ds], hm =>
    obtain ⟨k, x, rfl, h⟩ := inv_rvs1 hx
    obtain ⟨l, ys, rfl, _, e1, r⟩ := h.list o
    refine ⟨l, ys, rfl, SqL.of e1, fun p ob hp hd => ?_⟩
    refine hq _ _ hm _ (t.put p (.frz ob (.tup ys))) (Gr.put o hp (fun _ z => nomatch z)) rfl ?_
    exact Rp.tpf (o.ne hp) hd upd_same (Rps.mono (Xt.new (o.fnone hp)) r)
/-! ### sorted(xs, reverse=True) -/
def dSortedR : List D → M D := dInts fun ns c Q _ => ∀ ms : List Int, ms.Perm ns → ms.Pairwise (· ≥ ·) → Q (.lst (ms.map D.int)) c
theorem cam_sortedR {ks : List Kd} : CaM j.g ks .own (fun vs H Q => rSortedKw j.g.K true [.bl true] vs [.bl true] H Q) dSortedR := by
  intro s1 t xs ds P E Q hx o hm hq
  obtain ⟨l, ns, rfl, h, q⟩ := ints_arg hx o hm
  refine ⟨l, ns, rfl, rfl, h, fun ms p h1 h2 hp => ?_⟩
  obtain ⟨g1, r1⟩ := new_own o hp (Rps.ints ms)
  exact hq _ _ (q ms h1 h2) _ _ g1 rfl r1
theorem pe_sortedRev {X : Cx} {p pos kpos cpos : Pos} {k : Nat} {t : TA} (hg : Gl X "sorted") (hm : X.mg "sorted" = none) (ha : PA X [a] t)
    (he : backTo pos (starEach [a] X.env) = (false, eval a X.env) :: backTo pos (starEach [] X.env) := by rfl) (hpl : (backTo pos (starEach [a] X.env)).any (·.1) = false := by rfl) :
    PE X (.Call (.Name "sorted" p) [a] [⟨some "reverse", .Constant (.bool true) k cpos, kpos⟩] pos) (tCB (fun vs H Q => rSortedKw X.K true [.bl true] vs [.bl true] H Q) t) :=
  pe_callBK cr_sortedRev hg hm rfl ha (pk_cons pe_bl pk_nil) (by decide) (by decide) he hpl
/-! ### sorted(set(xs)) of ints, no two alike -/
def tSortSet (K : PySem.W.Frag) (t : TE) : TE := fun σ H Q => t σ H fun x H1 => ∃ (l : Addr) (ns : List Int), x = .ref l ∧ (SqL K H1 l (ns.map V.int) ∨ SqT K H1 l (ns.map V.int)) ∧ ns.length < 64 ∧
  ∀ (ms : List Int) (p : Addr), ms.Pairwise (· < ·) → (∀ k, k ∈ ms ↔ k ∈ ns) → H1 p = none → Q (.ref p) (upd H1 p (.lst (ms.map V.int)))
theorem pe_sortedSet {X : Cx} {ta : TE} {p p2 q pos : Pos} (hg : Gl X "sorted") (hm : X.mg "sorted" = none) (hg2 : Gl X "set") (hm2 : X.mg "set" = none) (ha : PE X a ta) (hc : X.calm = true := by rfl)
    (na : starEach [a] X.env = (false, eval a X.env) :: starEach [] X.env := by rfl) : PE X (.Call (.Name "sorted" p) [.Call (.Name "set" p2) [a] [] q] [] pos) (tSortSet X.K ta) := by
  constructor
  intro pins s σ H Q I h
  apply Call_ (ld_blt I hg hm rfl ?_)
  refine PyProof.Rows.callWith_builtin1 (PyProof.Rows.args_cons ?_ rfl) rfl rfl
  apply Call_ (ld_blt I hg2 hm2 boot_set ?_)
  refine PyProof.Rows.callWith_type1 (PyProof.Rows.args_cons (thn (ha.run pins s σ H _ I h) fun v s1 ⟨x, H1, I1, r1, q1⟩ => PyProof.Rows.args_nil ?_) na) na rfl
  obtain ⟨l, ns, rfl, hq, hl, q1⟩ := q1
  cases r1
  have go : ∀ (g : Heap) (tk c : Nat), SetR X.w g s1.heap.objs.size (fun j => decide (j ∈ ns)) c → c ≤ ns.length → (∀ b o, s1.heap.get? b = some o → g.get? b = some o) →
      wpAny (model X.prog X.w) X.A (call (.builtin "sorted") [.ref s1.heap.objs.size]) (EP X pins σ Q) X.xe { s1 with heap := g, toks := tk } := by
    intro g tk c hS hcn hk
    have I2 : Inv X pins σ H1 { s1 with heap := g, toks := tk } := I1.kept hk
    refine sorted_set hS (I2.ok.hd hc) (by omega) fun s' p out c2 ms k2 e1 e2 hp hg hi hs hm hl2 => ?_
    have hz : (ms.map V.int).length ≤ sizeLine := by rw [List.length_map, hl2, sizeLine_eq]; omega
    have fr : H1 p = none := I2.hok.fresh hp
    have J : Inv X pins σ (upd H1 p (.lst (ms.map V.int))) { ({ s1 with heap := g, toks := tk } : Shared) with heap := s'.heap, gens := s'.gens, drawn := s'.drawn, toks := s'.toks } :=
      I2.call (ch := []) (Un.laid k2 hp fr) (I2.hok.laid k2 hp ⟨hz, out.toList, c2, vals_of_ints hi, hg⟩) (by rw [e1]; exact I2.bare) (fun _ z => nomatch z)
    have e : s' = { ({ s1 with heap := g, toks := tk } : Shared) with heap := s'.heap, gens := s'.gens, drawn := s'.drawn, toks := s'.toks } := by
      cases s'
      cases e2
      rfl
    rw [e]
    exact ⟨.ref p, _, J, rfl, q1 ms p hs (fun k => (hm k).trans decide_eq_true_iff) fr⟩
  have hsb : ns.length + 1 < scanBound := by unfold scanBound; omega
  rcases hq with hq | hq
  · obtain ⟨its, vs, pl, hz⟩ := I1.list hq
    refine mk_set_list (I1.ok.hd hc) pl.isList (by simpa using vs.ints) hsb fun g tk c h1 h2 h3 => ?_
    exact PyProof.Rows.args_nil (go g tk c h1 h2 h3)
  · obtain ⟨its, vs, pl, hz⟩ := I1.tuple hq
    refine call_set_tupI ns (I1.ok.hd hc) pl (by simpa using vs.ints) hsb fun g tk c h1 h2 h3 => ?_
    exact PyProof.Rows.args_nil (go g tk c h1 h2 h3)
end
end Kq
set_option Elab.async false
set_option linter.all false
set_option maxRecDepth 100000
set_option maxHeartbeats 4000000
namespace Kq
open PySem PySem.Spec PyProof.Rows L2 LamX
/-! ### a tuple, no times or once -/
theorem mul_once (l : Addr) (its : Array Value) (n : Nat) (dd : Option Addr) (sl : Array (Option Value)) (u : Tok) :
    Meets (Builtin.«tuple.__mul__» ⟨[.ref l, .int 1 u], []⟩) (fun _ R s => s.heap.get? l = some { cls := .type "tuple", dict := dd, data := .seq its n, slots := sl } ∧ R (.ok (.ret (.ref l))) s) :=
  .of_wp fun prog w A R s h => by
    obtain ⟨hp, g, d, tk, os⟩ := s
    obtain ⟨hl, h⟩ := h
    have f1 := AutoSeq1.idx_int
    wp_walk using wpAny_loadPart' hl
    exact ⟨_, rfl, h⟩
theorem mul_none (l : Addr) (its : Array Value) (n : Nat) (dd : Option Addr) (sl : Array (Option Value)) (u : Tok) (hi : its.isEmpty = false) :
    Meets (Builtin.«tuple.__mul__» ⟨[.ref l, .int 0 u], []⟩) (fun _ R s => s.heap.get? l = some { cls := .type "tuple", dict := dd, data := .seq its n, slots := sl } ∧ R (.ok (.ret (.ref s.heap.objs.size))) { s with heap := s.heap.push { cls := .type "tuple", data := .seq #[] }, toks := s.toks }) :=
  .of_wp fun prog w A R s h => by
    obtain ⟨hp, g, d, tk, os⟩ := s
    obtain ⟨hl, h⟩ := h
    have f1 := AutoSeq1.idx_int
    wp_walk using wpAny_loadPart' hl
    exact ⟨_, rfl, h⟩
def rRep01 (K : PySem.W.Frag) : R2 := fun x y H Q => ∃ l xs, x = .ref l ∧ SqT K H l xs ∧ xs ≠ [] ∧ ((y = .int 1 ∧ Q (.ref l) H) ∨ (y = .int 0 ∧ ∀ p, H p = none → Q (.ref p) (upd H p (.tup []))))
theorem op_rep01 {X : Cx} : OpR X (binaryOp .Mult) (rRep01 X.K) := by
  rintro pins s σ H x y v u Q I rx ry ⟨l, xs, rfl, hT, hne, hk⟩
  cases rx
  obtain ⟨its, vs, ⟨⟨cls, dd, data, sl⟩, ho, hc, n, hd⟩, hz⟩ := I.tuple hT
  dsimp only at hc hd
  subst hc
  subst hd
  have ty : s.TypeIs (.ref l) "tuple" := ⟨_, ho, rfl⟩
  have hi : its.toArray.isEmpty = false := by
    have := vs.length
    cases its with
    | nil => exact absurd (List.eq_nil_of_length_eq_zero this) hne
    | cons a b => rfl
  rcases hk with ⟨rfl, q⟩ | ⟨rfl, q⟩
  · obtain ⟨t, rfl⟩ := ry
    exact wpAny_binaryOp_repeat_ref (T := "tuple") (U := "int") (by decide) ty (fun s' => typeIs_int s' 1 t) noFill_tuple_mul F.fills_int_mul F.slot_int_rmul repeat_tuple F.slot_int_index.lookup
      (call_meets F.slot_int_rmul (typeIs_int s 1 t) F.entry_int_rmul (F.args_int_rmul_2 _ _) (int_rmul_tuple 1 t l its.toArray n dd sl)
        ⟨ho, rfl, ty, call_meets F.slot_tuple_mul ty F.entry_tuple_mul (F.args_tuple_mul_2 _ _) (mul_once l its.toArray n dd sl t) ⟨ho, .ref l, H, I, rfl, q⟩⟩)
  · obtain ⟨t, rfl⟩ := ry
    refine wpAny_binaryOp_repeat_ref (T := "tuple") (U := "int") (by decide) ty (fun s' => typeIs_int s' 0 t) noFill_tuple_mul F.fills_int_mul F.slot_int_rmul repeat_tuple F.slot_int_index.lookup
      (call_meets F.slot_int_rmul (typeIs_int s 0 t) F.entry_int_rmul (F.args_int_rmul_2 _ _) (int_rmul_tuple 0 t l its.toArray n dd sl)
        ⟨ho, rfl, ty, call_meets F.slot_tuple_mul ty F.entry_tuple_mul (F.args_tuple_mul_2 _ _) (mul_none l its.toArray n dd sl t hi) ⟨ho, ?_⟩⟩)
    refine ⟨.ref s.heap.objs.size, _, I.laid (t' := s.toks) (o := .tup []) (fun b ob e => Heap.get?_push_of_some _ e) (Nat.le_refl _) ⟨Nat.zero_le _, [], .nil, IsTup.new _ _⟩, rfl, q _ (I.hok.fresh (Nat.le_refl _))⟩
def rRepA (K : PySem.W.Frag) : R2 := fun x y H Q => rRepT K x y H Q ∨ rRep01 K x y H Q
theorem op_repA {X : Cx} : OpR X (binaryOp .Mult) (rRepA X.K) := op_repT.or op_rep01
def dRepT : D → D → M D
  | .tup ds, .int k => grd (ds ≠ [] ∧ 0 ≤ k ∧ k ≤ 1000 ∧ ds.length ≤ 1000) (ret (.tup (List.replicate k.toNat ds).flatten))
  | _, _ => stuck
theorem opm_repT {g : Gx} {ka kb : Kd} : OpM g ka kb .val (rRepA g.K) dRepT := by
  intro s1 s2 t x y dx dy P E Q hx hy o hm hq
  match dx, dy, hm with
  | .tup ds, .int k, hm =>
    have hx' := hx.rp (fun _ z => nomatch z)
    obtain ⟨l, xs, rfl, h1, r⟩ := hx.tup o
    obtain ⟨⟨e1, e2, e3, e4⟩, hm⟩ := hm
    have hne : xs ≠ [] := fun z => e1 (by
      have := r.length
      rw [z] at this
      exact List.eq_nil_of_length_eq_zero this.symm)
    obtain rfl := inv_int hy
    by_cases k2 : 2 ≤ k
    · refine .inl ⟨l, k, xs, rfl, rfl, h1, hne, k2, e3, by rw [r.length]; exact e4, fun p hp => ?_⟩
      obtain ⟨g1, r1⟩ := new_tup (s := t) o hp (r.rep k.toNat)
      exact hq _ _ hm _ _ g1 rfl r1
    · by_cases k1 : k = 1
      · subst k1
        have e : (List.replicate (1 : Int).toNat ds).flatten = ds := by simp
        rw [e] at hm
        exact .inr ⟨l, xs, rfl, h1, hne, .inl ⟨rfl, hq _ _ hm _ t (Gr.refl o) rfl hx'⟩⟩
      · have k0 : k = 0 := by omega
        subst k0
        refine .inr ⟨l, xs, rfl, h1, hne, .inr ⟨rfl, fun p hp => ?_⟩⟩
        obtain ⟨g1, r1⟩ := new_tup (s := t) o hp (.nil : Rps g t.p t.F [] [])
        exact hq _ _ hm _ _ g1 rfl r1
/-! ### k not in range(n) -/
theorem cr_range1 {X : Cx} : CallR X (.type "range") (fun vs H Q => ∃ n, vs = [V.int n] ∧ ∀ p, H p = none → Q (.ref p) (upd H p (.rng 0 n))) := by
  rintro pins s σ H vs us Q I r ⟨n, rfl, q⟩
  obtain ⟨u, rfl, t, rfl⟩ := vals1 r
  refine call_range_1 ⟨.ref s.heap.objs.size, upd H s.heap.objs.size (.rng 0 n), I.laid (t' := s.toks + 1 + 1) (fun b o e => Heap.get?_push_of_some _ e) (Nat.le_refl _) ?_, rfl, q _ (I.hok.fresh (Nat.le_refl _))⟩
  exact ⟨_, _, _, Heap.get?_push_size _ rfl⟩
theorem op_nin_rng {X : Cx} : OpR X (compareOp .NotIn) (fun x y H Q => ∃ i a lo hi, x = V.int i ∧ y = V.ref a ∧ H a = some (.rng lo hi) ∧ Q (.bl (!decide (lo ≤ i ∧ i < hi))) H) := by
  rintro pins s σ H x y v u Q I rx ry ⟨i, a, lo, hi, rfl, rfl, ha, q⟩
  obtain ⟨k, rfl⟩ := rx
  cases ry
  obtain ⟨t1, t2, t3, ho⟩ := I.hok a _ ha
  have ty : s.TypeIs (.ref a) "range" := ⟨_, ho, rfl⟩
  show wpAny _ _ (do return Value.bool (!(← contains (Value.ref a) (Value.int i k)))) _ _ s
  refine wpAny_bind (wpAny_contains_slot (T := "range") ty F.slot_range_contains (call_meets F.slot_range_contains ty F.entry_range_contains (F.args_range_contains_2 _ _) (q_contains a lo hi i t1 t2 t3 k)
    ⟨ho, wpAny_truthy_bool (wpAny_pure ⟨.bl _, H, I, rfl, ?_⟩)⟩))
  rw [place1]
  exact q
section
variable {j : J} {ka kb : Kd} {a b e : Expr} {ma mb m : ME}
def rNRng : R2 := fun x y H Q => ∃ i n, x = .int i ∧ y = .int n ∧ ∀ p, H p = none → Q (.bl (!decide (0 ≤ i ∧ i < n))) (upd H p (.rng 0 n))
theorem pt_nrng {X : Cx} {ta tb : TE} {p pos pos2 : Pos} (hg : Gl X "range") (hm : X.mg "range" = none) (ha : PE X a ta) (hb : PE X b tb)
    (hs : starEach [b] X.env = (false, eval b X.env) :: starEach [] X.env := by rfl) (hk : behindInMarks .NotIn (.Call (.Name "range" p) [b] [] pos2) = false := by rfl) : PT X (.Compare a [.NotIn] [.Call (.Name "range" p) [b] [] pos2] pos) (tTest (tOp rNRng ta tb)) := by
  constructor
  intro pins s σ H Q I h
  refine wpAny_isTrue_Compare1 (thn (ha.run pins s σ H _ I h) fun v s1 ⟨x, H1, I1, r1, q1⟩ => ?_) hk
  apply Call_ (ld_blt I1 hg hm boot_range ?_)
  refine PyProof.Rows.callWith_type1 (PyProof.Rows.args_cons (thn (hb.run pins s1 σ H1 _ I1 q1) fun u s2 ⟨y, H2, I2, r2, q2⟩ => PyProof.Rows.args_nil ?_) hs) hs rfl
  obtain ⟨i, n, rfl, rfl, q⟩ := q2
  obtain ⟨t, rfl⟩ := r2
  refine call_range_1 ?_
  have fr := I2.hok.fresh (Nat.le_refl _)
  have I3 := I2.laid (t' := s2.toks + 1 + 1) (o := .rng 0 n) (fun b o e => Heap.get?_push_of_some _ e) (Nat.le_refl _) (⟨_, _, _, Heap.get?_push_size _ rfl⟩ : ObjOk X.prog X.w (upd H2 s2.heap.objs.size (.rng 0 n)) (s2.heap.push { cls := Value.type "range", data := Data.fields #[Value.int 0 s2.toks, Value.int n t, Value.int 1 (s2.toks + 1)] }) s2.heap.objs.size (.rng 0 n))
  refine thn (op_nin_rng pins _ σ (upd H2 s2.heap.objs.size (.rng 0 n)) (.int i) (.ref s2.heap.objs.size) v _ (fun x H' => ∃ k, x = V.bl k ∧ Q k H') I3 r1 rfl ⟨i, _, 0, n, rfl, rfl, upd_same, q _ fr⟩) fun c s4 ⟨z, H4, I4, r4, k, e, q4⟩ => ?_
  subst e
  cases r4
  exact wpAny_truthy_bool ⟨H4, I4, q4⟩
def dNRng : D → D → M D
  | .int i, .int n => ret (.bl (!decide (0 ≤ i ∧ i < n)))
  | _, _ => stuck
theorem opm_nrng {g : Gx} {ka kb : Kd} : OpM g ka kb .val rNRng dNRng := by
  intro s1 s2 t x y dx dy P E Q hx hy o hm hq
  match dx, dy, hm with
  | .int i, .int n, hm => exact ⟨i, n, inv_int hx, inv_int hy, fun p hp => hq _ _ hm _ (t.put p (.rng 0 n)) (Gr.put o hp (fun _ z => nomatch z)) rfl (Rp.bl _)⟩
/-! ### sorted(set(xs)) -/
def mSS : D → M D
  | .lst ds => fun c Q _ => ∃ ns : List Int, ds = ns.map D.int ∧ ns.length < 64 ∧ ∀ ms : List Int, ms.Pairwise (· < ·) → (∀ k, k ∈ ms ↔ k ∈ ns) → Q (.lst (ms.map D.int)) c
  | .tup ds => fun c Q _ => ∃ ns : List Int, ds = ns.map D.int ∧ ns.length < 64 ∧ ∀ ms : List Int, ms.Pairwise (· < ·) → (∀ k, k ∈ ms ↔ k ∈ ns) → Q (.lst (ms.map D.int)) c
  | _ => stuck
theorem unm_ss {g : Gx} {ka : Kd} : UnM g ka .own (fun x H1 Q => ∃ (l : Addr) (ns : List Int), x = .ref l ∧ (SqL g.K H1 l (ns.map V.int) ∨ SqT g.K H1 l (ns.map V.int)) ∧ ns.length < 64 ∧
    ∀ (ms : List Int) (p : Addr), ms.Pairwise (· < ·) → (∀ k, k ∈ ms ↔ k ∈ ns) → H1 p = none → Q (.ref p) (upd H1 p (.lst (ms.map V.int)))) mSS := by
  intro s1 t x dx P E Q hx o hm hq
  match dx, hm with
  | .lst ds, ⟨ns, e, hl, hm⟩ =>
    obtain ⟨l, ys, rfl, _, e1, r⟩ := hx.list o
    subst e
    refine ⟨l, ns, rfl, .inl (by rw [← ints_inv r]; exact SqL.of e1), hl, fun ms p h1 h2 hp => ?_⟩
    obtain ⟨g1, r1⟩ := new_own o hp (Rps.ints ms)
    exact hq _ _ (hm ms h1 h2) _ _ g1 rfl r1
  | .tup ds, ⟨ns, e, hl, hm⟩ =>
    obtain ⟨l, ys, rfl, e1, r⟩ := hx.tup o
    subst e
    refine ⟨l, ns, rfl, .inr (by rw [← ints_inv r]; exact e1), hl, fun ms p h1 h2 hp => ?_⟩
    obtain ⟨g1, r1⟩ := new_own o hp (Rps.ints ms)
    exact hq _ _ (hm ms h1 h2) _ _ g1 rfl r1
/-! ### t.index(k), t a tuple without a dict, of ints -/
def rTIx (K : PySem.W.Frag) : V → V → Hp → VK → Prop := fun x y H Q => ∃ (a : Addr) (ys : List Int) (z : Int) (n : Nat), x = .ref a ∧ y = .int z ∧ SqT K H a (ys.map V.int) ∧ ys[n]? = some z ∧ (∀ m, m < n → ys[m]? ≠ some z) ∧ Q (.int ((n : Nat) : Int)) H
def tTIx (K : PySem.W.Frag) (to tb : TE) : TE := fun σ H Q => to σ H fun x H1 => (∃ a ob xs, x = .ref a ∧ H1 a = some (.frz ob (.tup xs)) ∧ ob.dict = none) ∧ tb σ H1 fun y H2 => rTIx K x y H2 Q
theorem run_tindex {X : Cx} {pins : List (Addr × Obj)} {s : Shared} {σ : L2.St} {H : Hp} {x y : V} {v u : Value} {Q : VK} (I : Inv X pins σ H s) (rx : RelV x v) (ry : RelV y u) (h : rTIx X.K x y H Q) :
    wpAny (model X.prog X.w) X.A (call (.builtin "tuple.index") [v, u]) (EP X pins σ Q) X.xe s := by
  obtain ⟨p, ys, z, n, rfl, rfl, hq, hy, hno, q⟩ := h
  cases rx
  obtain ⟨t, rfl⟩ := ry
  obtain ⟨its, vs, pl, hz⟩ := I.tuple hq
  obtain ⟨⟨cls, dd, dt, sl⟩, ho, hc, m, hd⟩ := pl
  dsimp only at hc hd
  subst hc
  subst hd
  have hl : its.toArray.size = ys.length := by
    rw [List.size_toArray, ← vs.length, List.length_map]
  have hn : n < its.toArray.size := hl ▸ (List.getElem?_eq_some_iff.mp hy).1
  have item : ∀ (i : Nat) (hi : i < its.toArray.size), ∃ k t', ys[i]? = some k ∧ its.toArray[i] = Value.int k t' := by
    intro i hi
    have hi' : i < ys.length := hl ▸ hi
    obtain ⟨w, e1, t', e2⟩ := vs.get (i := i) (x := .int ys[i]) (by simp [hi'])
    have e3 := (List.getElem?_eq_some_iff.mp e1).2
    exact ⟨ys[i], t', List.getElem?_eq_getElem hi', by rw [← e2, ← e3]; simp⟩
  have fl : (ys.map V.int).all flatV = true := by
    rw [List.all_map, List.all_eq_true]
    intro _ _
    rfl
  have ty : s.TypeIs (.ref p) "tuple" := ⟨_, ho, rfl⟩
  refine call_meets F.slot_tuple_index ty F.entry_tuple_index (F.args_tuple_index_2 _ _) (TI.tuple_indexAt p its.toArray m dd sl (.int z t) (eqU (.int z)) n hn ?_ ?_)
    ⟨ho, fun w hw => mem_eqAt (x := .int z) ⟨t, rfl⟩ rfl vs fl w (by simpa using hw), .int ((n : Nat) : Int), H, I.tok _, ⟨_, rfl⟩, q⟩
  · obtain ⟨k, t', e1, e2⟩ := item n hn
    rw [hy] at e1
    cases e1
    rw [e2]
    exact beq_self_eq_true z
  · intro i hi hin
    obtain ⟨k, t', e1, e2⟩ := item i hi
    rw [e2]
    exact beq_eq_false_iff_ne.mpr fun e => hno i hin (e ▸ e1)
theorem pe_tindex {X : Cx} {ta tb : TE} {apos cpos : Pos} (ha : PE X a ta) (hb : PE X b tb)
    (hbase : attributeBase a "index" X.env (eval a X.env) = eval a X.env := by rfl)
    (hfew : ((backTo cpos (starEach [b] X.env)).all (fun x => !x.1) && (backToKw cpos (keywordEach [] X.env)).all (fun x => x.1.isSome) && decide (([b] : List Expr).length + ([] : List Keyword).length + (if ([] : List Keyword).isEmpty then 0 else 1) < 30)) = true := by rfl)
    (hline : (apos.endLine == cpos.line) = true := by rfl) (hs : starEach [b] X.env = (false, eval b X.env) :: starEach [] X.env := by rfl) (hpl : (backTo cpos (starEach ([] : List Expr) X.env)).any (·.1) = false := by rfl) :
    PE X (.Call (.Attribute a "index" apos) [b] [] cpos) (tTIx X.K ta tb) := by
  constructor
  intro pins s σ H Q I h
  refine wpAny_Call_method_late hbase hfew hline rfl (thn (ha.run pins s σ H _ I h) fun v s1 ⟨x, H1, I1, r1, q1⟩ => ?_)
  obtain ⟨⟨l, ob, xs, rfl, ho, hd⟩, q1⟩ := q1
  obtain ⟨e1, e2⟩ := I1.hok l _ ho
  have e2 : ObjOk X.prog X.w H1 s1.heap l (.tup xs) := e2
  obtain ⟨_, its, _, ob2, e3, e4, _⟩ := e2
  rw [e1] at e3
  cases e3
  cases r1
  have hA := (pa_cons hb pa_nil hs).run cpos pins s1 σ H1 (fun vs H2 => match vs with
    | [y] => rTIx X.K (.ref l) y H2 Q
    | _ => False) I1 q1
  refine ⟨"tuple", "tuple.index", F.plainAttrs_tuple, F.slot_tuple_index, F.type_tuple_index, ⟨_, e1, e4⟩, fun a e => by cases e; exact ⟨_, e1, hd⟩, ?_⟩
  rw [hs] at hA ⊢
  refine Calls.callWith_builtin (by show (false || (backTo cpos (starEach ([] : List Expr) X.env)).any (·.1)) = false; rw [hpl] <;> rfl) (Calls.evalArgs_plain ?_)
  refine thn hA fun us s2 ⟨vs, H2, I2, r2, q2⟩ => ?_
  match vs, q2 with
  | [y], q2 =>
    obtain ⟨u, rfl, ry⟩ := vals1 r2
    exact run_tindex (x := .ref l) I2 rfl ry q2
def mTIx (ma mb : ME) : ME := fun ρ c Q E => ma ρ c (fun x c => match x with
  | .tpf ds => mb ρ c (fun y c => match y with
    | .int z => ∃ (ys : List Int) (n : Nat), ds = ys.map D.int ∧ ys[n]? = some z ∧ (∀ m, m < n → ys[m]? ≠ some z) ∧ Q (.int ((n : Nat) : Int)) c
    | _ => False) E
  | _ => False) E
theorem re_tindex (pe : ∀ {ta tb : TE}, PE j.X a ta → PE j.X b tb → PE j.X e (tTIx j.g.K ta tb)) (ha : RE j .val a ma) (hb : RE j kb b mb) : RE j .val e (mTIx ma mb) :=
  ⟨(pe ha.pe hb.pe).imp fun σ H Q ⟨ρ, s, P, E, eh, env, hm, hv, hx⟩ => by
    subst eh
    refine ⟨ρ, s, _, E, rfl, env, hm, fun x c h1 v1 t1 g1 e1 r1 => ?_, hx⟩
    subst e1
    match x, h1, r1 with
    | .tpf ds, h1, r1 =>
      have rp := RV.rp r1 (fun _ z => nomatch z)
      cases rp with
      | tpf hn hc hF rr =>
        refine ⟨⟨_, _, _, rfl, (g1.ok.fh _ _ hF (fun _ z => nomatch z)).2 hn, hc⟩, ρ, t1, _, E, rfl, env.to g1, h1, fun y c h2 v2 t2 g2 e2 r2 => ?_, hx.gr g1⟩
        subst e2
        match y, h2, r2 with
        | .int z, ⟨ys, n, e, h3, h4, h5⟩, r2 =>
          subst e
          have hF1 := (g2.ff _ _ hF (fun _ z => nomatch z)).2 hn
          have hF2 := (g2.ok.fh _ _ hF1 (fun _ z => nomatch z)).2 (by rw [g2.p]; exact hn)
          exact ⟨_, ys, z, n, rfl, inv_int r2, .inl (.inr ⟨_, by rw [← ints_inv rr]; exact hF2⟩), h3, h4, hv _ _ h5 _ t2 (g1.trans g2) rfl (Rp.int _)⟩⟩
end
/-! ### a law without a lambda -/
section
variable {h : Heap} {mg : Str → Option Value} {K : PySem.W.Frag}
theorem lawN {l : PySem.W.OpenLaw} {f : Addr} {w : World} {fa : Addr} {st : Stmt} {oc : Value} {od an : Option Addr} {osl : Array (Option Value)} {kV doc pm cdv ct : Value} {k n : Nat} (X : K.In h) (G : h.Ns mainGlobals mg) (hfa : mg "law" = some (.ref fa))
    (a1 : PySem.W.nsIn K mainGlobals "law" = some (some (.ref f))) (a2 : K.lookup f = some ⟨oc, od, .func (PySem.W.fnOf "law" "law" (defArgs st) (defBody st) (defScope st) .none kV doc pm an cdv ct), osl⟩) (cl : PySem.W.codeIn K cdv "law" = true) (hn : n ≤ 63)
    (b : ∀ (kV doc pm : Value) (an : Option Addr) (cdv ct : Value) (us : List Value), us.length = 1 → bindArgs (PySem.W.fnOf "law" "law" (defArgs st) (defBody st) (defScope st) .none kV doc pm an cdv ct) ⟨us, []⟩ = pure ((["_law_script"] : List Str).zip us))
    (F : ∀ base : Heap, K.In base → base.Ns mainGlobals mg → ∀ fd, FnD K "law" "law" st fa fd cdv → FnOk l.prog w K mg base (L2.CX l.prog w) k fa fd ["_law_script"] (spLaw K [])) :
    LawAtS l w K (L2.CX l.prog w) k n "_law_script" mg fa h := by
  have e := hfa.symm.trans (PySem.W.mg_of X G a1)
  cases e
  refine ⟨_, [], spLaw K [], fun p hp => (nomatch hp), fun p hp => (nomatch hp), fun p hp => (nomatch hp), fun s u => ?_, fun H a ns hl hb hT hS => ?_, fun base KB NB TB => F base KB NB _ ⟨oc, od, kV, doc, pm, an, ct, osl, rfl, a2, cl⟩⟩
  · exact .of_eq (b _ _ _ _ _ _ [u] rfl)
  · refine ⟨a, ns, rfl, hS, ⟨Nat.le_trans hl hn, fun z hz => ?_⟩, fun p hp => (nomatch hp), fun _ => rfl⟩
    have q := hb z hz
    unfold Builtin.Int.intBits at q
    by_cases h0 : z = 0
    · subst h0
      exact Nat.two_pow_pos _
    · rw [if_neg (by simpa using h0)] at q
      exact (Nat.log2_lt (by omega)).mp (by omega)
end
end Kq
set_option Elab.async false
set_option linter.all false
set_option maxRecDepth 100000
set_option maxHeartbeats 400000
namespace Kq
open PySem PySem.Spec PyProof.Rows L2 LamX
section
variable {j : J} {k ka kb kc : Kd} {a b c e : Expr} {ma mb mc m : ME} {i : Nat} {mo mo' : D → D → M D} {r r' : R2}
/-! ### a < b < c -/
def mChain (mo mo' : D → D → M D) (ma mb mc : ME) : ME := fun ρ c Q E => ma ρ c (fun x c => mb ρ c (fun y c => mo x y c (fun z c => match z with
  | .bl true => mc ρ c (fun w c => mo' y w c Q E) E
  | .bl false => Q (.bl false) c
  | _ => False) E) E) E
theorem chain_imp (ho : OpM j.g ka kb .val r mo) (ho' : OpM j.g kb kc .val r' mo') {σ : L2.St} {H : Hp} {Q : VK} (h : tOf j (RV .val j.g) (mChain mo mo' ma mb mc) σ H Q) :
    tChain r r' (tOf j (RV ka j.g) ma) (tOf j (RV kb j.g) mb) (tOf j (RV kc j.g) mc) σ H Q := by
  obtain ⟨ρ, s, P, E, eh, env, hm, hv, hx⟩ := h
  subst eh
  refine ⟨ρ, s, _, E, rfl, env, hm, fun x c h1 v1 t1 g1 e1 r1 => ?_, hx⟩
  subst e1
  refine ⟨ρ, t1, _, E, rfl, env.to g1, h1, fun y c h2 v2 t2 g2 e2 r2 => ?_, hx.gr g1⟩
  subst e2
  refine ho (r1.gr g2) r2 g2.ok h2 fun d c hd v u g3 e3 r3 => ?_
  subst e3
  have g123 := (g1.trans g2).trans g3
  match d, hd, r3 with
  | .bl true, hd, r3 =>
    refine ⟨true, inv_bl (k := .val) (s1 := u) r3, ?_⟩
    rw [if_pos rfl]
    refine ⟨ρ, u, _, E, rfl, env.to g123, hd, fun w c h4 v4 t4 g4 e4 r4 => ?_, hx.gr g123⟩
    subst e4
    exact ho' (r2.gr (g3.trans g4)) r4 g4.ok h4 fun d c hd v u g5 e5 r5 => hv d c hd v u ((g123.trans g4).trans g5) e5 (r5.back (g123.trans g4))
  | .bl false, hd, r3 =>
    refine ⟨false, inv_bl (k := .val) (s1 := u) r3, ?_⟩
    rw [if_neg (by decide)]
    exact hv _ _ hd _ u g123 rfl (Rp.bl _)
theorem re_chain (pe : ∀ {ta tb tc : TE}, PE j.X a ta → PE j.X b tb → PE j.X c tc → PE j.X e (tChain r r' ta tb tc)) (ho : OpM j.g ka kb .val r mo) (ho' : OpM j.g kb kc .val r' mo') (ha : RE j ka a ma) (hb : RE j kb b mb) (hc : RE j kc c mc) :
    RE j .val e (mChain mo mo' ma mb mc) := ⟨(pe ha.pe hb.pe hc.pe).imp fun σ H Q h => chain_imp ho ho' h⟩
theorem rt_chain (pt : ∀ {ta tb tc : TE}, PE j.X a ta → PE j.X b tb → PE j.X c tc → PT j.X e (tTest (tChain r r' ta tb tc))) (ho : OpM j.g ka kb .val r mo) (ho' : OpM j.g kb kc .val r' mo') (ha : RE j ka a ma) (hb : RE j kb b mb) (hc : RE j kc c mc) :
    RT j e (mTst (mChain mo mo' ma mb mc)) := ⟨(pt ha.pe hb.pe hc.pe).imp fun σ H Q ⟨ρ, s, P, E, eh, env, hm, hq, hx⟩ => chain_imp ho ho' ⟨ρ, s, _, E, eh, env, hm, fun d c hd v t g1 ec r => by
    obtain ⟨b, rfl, q⟩ := inv_dBl hd
    exact ⟨b, inv_bl (k := .val) (s1 := t) r, hq b c q b t g1 ec rfl⟩, hx⟩⟩
/-! ### xs[::-1] -/
def dRev : D → M D
  | .lst ds => ret (.lst ds.reverse)
  | _ => stuck
theorem re_rev {k0 : Nat} {p1 p2 p3 pos : Pos} (ha : RE j ka a ma) : RE j .own (.Subscript a (.Slice none none (some (.UnaryOp .USub (.Constant (.int 1) k0 p1) p2)) p3) pos) (mUn dRev ma) :=
  ⟨(pe_revL ha.pe).imp fun σ H Q ⟨ρ, s, P, E, eh, env, hm, hv, hx⟩ => by
    subst eh
    refine ⟨ρ, s, _, E, rfl, env, hm, fun x c h1 v1 t1 g1 e1 r1 => ?_, hx⟩
    subst e1
    match x, h1, r1 with
    | .lst ds, h1, r1 =>
      obtain ⟨l, xs, rfl, _, e1, r⟩ := r1.list g1.ok
      refine ⟨l, xs, rfl, SqL.of e1, fun p hp => ?_⟩
      obtain ⟨g2, r2⟩ := new_own g1.ok hp (r.reverse)
      exact hv _ _ h1 _ _ (g1.trans g2) rfl (r2.back g1)⟩
/-! ### x.get(k, n), list(x), x a dict of one's own -/
def mGetDf (i : Nat) (mk mx : ME) : ME := fun ρ c Q E => match ρ[i]? with
  | some (.ownd kvs) => mk ρ c (fun y c => mx ρ c (fun z c => ∃ q, keyD y = some q ∧ Q ((atK kvs q).getD z) c) E) E
  | _ => False
theorem re_getDf {x : Str} {px apos cpos : Pos} {kx nx : Expr} {mk mx : ME} (hu : j.X.A.units + 64 < cLine) (ho : PE j.X (.Name x px) (tVar i)) (hk : RE j k kx mk) (hn : RE j .val nx mx) (m2 : M2 j.X (.Name x px) "get" apos kx nx cpos) :
    RE j .val (.Call (.Attribute (.Name x px) "get" apos) [kx, nx] [] cpos) (mGetDf i mk mx) :=
  ⟨(pe_dget2 (Nat.lt_of_le_of_lt (Nat.add_le_add_left (by decide : 1 ≤ 64) _) hu) ho hk.pe hn.pe m2).imp fun σ H Q ⟨ρ, s, P, E, eh, env, hm, hq, hx⟩ => by
    subst eh
    unfold mGetDf at hm
    match h1 : ρ[i]?, hm with
    | some (.ownd kvs), hm =>
      have q0 := env.sl i
      rw [h1] at q0
      obtain ⟨l, gs, hw, _, _, _, hl, _⟩ := q0
      refine ⟨_, hw, l, rfl, .inl ⟨_, .inl hl⟩, ρ, s, _, E, rfl, env, hm, fun y c hy v t e1 ec r1 => ?_, hx⟩
      subst ec
      refine ⟨ρ, t, _, E, rfl, env.to e1, hy, fun z c hz w u e2 ec r2 => ?_, hx.gr e1⟩
      subst ec
      obtain ⟨q, a1, a2⟩ := hz
      have e12 := e1.trans e2
      have q1 := (env.to e12).sl i
      rw [h1] at q1
      obtain ⟨l1, gs1, b1, b2, b3, b4, b5, b6⟩ := q1
      rw [hw] at b1
      cases b1
      refine ⟨valV gs1 q, by rw [rv_key (r1.gr e2) a1]; exact DGet.k b5, ?_⟩
      cases hd : atK kvs q with
      | none =>
        rw [hd] at a2
        rw [(b6.at_ q).2 hd]
        exact hq _ _ a2 _ u e12 rfl (r2.back e1)
      | some d =>
        rw [hd] at a2
        obtain ⟨w1, c1, c2⟩ := (b6.at_ q).1 d hd
        rw [c1]
        exact hq _ _ a2 _ u e12 rfl c2⟩
def keyU : Key → D
  | .inl i => .int i
  | .inr z => .str z
def mKeysD (i : Nat) : ME := fun ρ c Q _ => match ρ[i]? with
  | some (.ownd kvs) => Q (.lst (kvs.map fun p => keyU p.1)) c
  | _ => False
theorem rps_keys {g : Gx} {p : Addr} {F : Hp} : ∀ {gs : List (Key × V)} {kvs : List (Key × D)}, gs.map (·.1) = kvs.map (·.1) → Rps g p F (gs.map fun q => kV q.1) (kvs.map fun q => keyU q.1)
  | [], [], _ => .nil
  | (a, v) :: gs, (b, d) :: kvs, h => by
    injection h with h1 h2
    subst h1
    refine .cons ?_ (rps_keys h2)
    cases a with
    | inl i => exact Rp.int i
    | inr z => exact Rp.str z
theorem re_keysD {x : Str} {p px pos : Pos} (hg : Gl j.X "list") (hm : j.X.mg "list" = none) (ho : PE j.X (.Name x px) (tVar i)) (hc : j.X.calm = true := by rfl)
    (he : starEach [.Name x px] j.X.env = (false, eval (.Name x px) j.X.env) :: starEach [] j.X.env := by rfl) (hpl : (backTo pos (starEach [] j.X.env)).any (·.1) = false := by rfl) : RE j .own (.Call (.Name "list" p) [.Name x px] [] pos) (mKeysD i) :=
  ⟨(pe_callTy (call_list_dK hc) hg hm (by rfl) (pa_cons ho pa_nil)).imp fun σ H Q ⟨ρ, s, P, E, eh, env, hm, hq, hx⟩ => by
    subst eh
    unfold mKeysD at hm
    match h1 : ρ[i]?, hm with
    | some (.ownd kvs), hm =>
      have q0 := env.sl i
      rw [h1] at q0
      obtain ⟨l, gs, hw, b2, b3, b4, b5, b6⟩ := q0
      refine ⟨_, hw, l, gs, rfl, b5, fun q hq0 => ?_⟩
      obtain ⟨g2, r2⟩ := new_own env.ok hq0 (rps_keys b6.1)
      exact hq _ _ hm _ _ g2 rfl r2⟩
end
end Kq
set_option Elab.async false
set_option linter.all false
set_option maxRecDepth 100000
set_option maxHeartbeats 400000
namespace Kq
open PySem PySem.Spec PyProof.Rows L2 LamX
/-! ### sorted(xs, key=lambda row: (len(row[0]), row[0])), over the heap -/
def keyPy (z : Str) : PyData := .tuple [.int z.length, .str z]
section
variable {prog : Program} {w : World} {A : Around} {E : Value → Shared → Prop} {s : Shared} {env : Env}
theorem sub0 {row : Str} {m : Str → Option Value} {b : Addr} {its : Array Value} {z : Str} {t : Tok} {k0 : Nat} {p1 p2 p3 : Pos} {Q : Value → Shared → Prop} (hk : env.scope.kind = .function) (hr : env.kindOf row = some .local) (hn : s.heap.Ns env.locals m) (hm : m row = some (.ref b))
    (ht : IsTup s.heap b its) (h0 : its[0]? = some (.str z t)) (hd : (row == ("__debug__" : Str)) = false) (h : ∀ tk, Q (.str z t) { s with toks := tk }) :
    wpAny (model prog w) A (eval (.Subscript (.Name row p1) (.Constant (.int 0) k0 p2) p3) env) Q E s := by
  refine PyProof.Rows.Subscript_ (wpAny_Name (wpAny_loadName_local hk hr hn hm ?_) hd)
  refine wpAny_Constant_int ?_
  have ht' : IsTup ({ s with toks := s.toks + 1 } : Shared).heap b its := ht
  have hp : 0 < its.size := by
    rcases Array.getElem?_eq_some_iff.mp h0 with ⟨hl, _⟩
    exact hl
  exact subscriptTail_builtinR (x := .str z t) ht'.typeIs slot_tuple_getitem.lookup
    (getItem_tuple (j := 0) (Q := fun r s' => r = .str z t ∧ Q r s') ht' (by decide) (by decide) (by
      unfold seqIndex?
      simp [hp]) h0 ⟨rfl, h _⟩) rfl
theorem key_body {row : Str} {m mg mb : Str → Option Value} {b : Addr} {its : Array Value} {z : Str} {t : Tok} {k0 k1 x1 : Nat} {p1 p2 p3 p4 p5 p6 p7 p8 pos : Pos} (hk : env.scope.kind = .function) (hr : env.kindOf row = some .local) (hn : s.heap.Ns env.locals m) (hm : m row = some (.ref b))
    (hl : env.kindOf "len" = some .globalImplicit) (hg : s.heap.Ns env.globals mg) (hml : mg "len" = none) (hb : s.heap.Ns env.builtins mb) (hmb : mb "len" = some (.builtin "len"))
    (ht : IsTup s.heap b its) (h0 : its[0]? = some (.str z t)) (hz : z.length ≤ sizeLine) (hd : (row == ("__debug__" : Str)) = false) :
    wpAny (model prog w) A (eval (.Tuple [.Call (.Name "len" p1) [.Subscript (.Name row p2) (.Constant (.int 0) k0 p3) p4] [] p5, .Subscript (.Name row p6) (.Constant (.int 0) k1 p7) p8] x1 pos) env) (PySem.W.KeyPure (keyPy z) s) E s := by
  refine wpAny_Tuple_spliced (Calls.spliced_cons (wpAny_Call_Name_kw ?_))
  refine Calls.Name_function_global hk hl (Calls.loadGlobal_builtin hg hml hb hmb ?_)
  refine PyProof.Rows.callWith_builtin1 (Calls.spliced_cons (sub0 hk hr hn hm ht h0 hd fun tk => Calls.spliced_nil ?_)) rfl rfl
  have hn63 := line63
  refine P.len_str (by omega) ?_
  refine Calls.spliced_cons (sub0 (s := ({ s with toks := _ } : Shared)) hk hr hn hm ht h0 hd fun tk2 => Calls.spliced_nil ⟨by show 2 ≤ sizeLine; decide, ?_⟩)
  refine ⟨s.heap.push { cls := .type "tuple", data := .seq [Value.int z.length (tk + 1), Value.str z t].toArray }, tk2, rfl, fun c o e => Heap.get?_push_of_some _ e, ?_⟩
  have hT : (s.heap.push { cls := .type "tuple", data := .seq [Value.int z.length (tk + 1), Value.str z t].toArray }).get? s.heap.objs.size = some { cls := .type "tuple", data := .seq [Value.int z.length (tk + 1), Value.str z t].toArray } := Heap.get?_push_size _ rfl
  refine Reads.tuple (as := [] ++ ([] ++ [])) hT rfl rfl ?_
  exact .cons (.int _ _) (.cons (.str _ _) .nil)
theorem key_call {row qual : Str} {params : Arguments} {scope : Scope} {cl : List (Str × Addr)} {pm ctv : Value} {f c' b : Addr} {mg mb : Str → Option Value} {its : Array Value} {z : Str} {t : Tok} {k0 k1 x1 : Nat} {p1 p2 p3 p4 p5 p6 p7 p8 pos : Pos} (hdep : A.depth < recursionLimit)
    (hf : s.heap.get? f = some (PySem.W.kla_obj "<lambda>" qual params (.Tuple [.Call (.Name "len" p1) [.Subscript (.Name row p2) (.Constant (.int 0) k0 p3) p4] [] p5, .Subscript (.Name row p6) (.Constant (.int 0) k1 p7) p8] x1 pos) scope cl pm c' ctv))
    (hc : ∃ (oc : Obj) (vs : Array Value) (tk : Tok), s.heap.get? c' = some oc ∧ oc.data = .fields vs ∧ vs[1]? = some (.str qual tk)) (hk : scope.kind = .function) (hco : scope.isCoroutine = false) (hgen : scope.isGenerator = false) (hcell : ∀ x ∈ scope.names, x.2 ≠ .cell)
    (hr : scope.names.lookup row = some .local) (hl : scope.names.lookup ("len" : Str) = some .globalImplicit) (hbind : bindArgs (PySem.W.kla_fn "<lambda>" qual params (.Tuple [.Call (.Name "len" p1) [.Subscript (.Name row p2) (.Constant (.int 0) k0 p3) p4] [] p5, .Subscript (.Name row p6) (.Constant (.int 0) k1 p7) p8] x1 pos) scope cl pm (.ref c') ctv) ⟨[.ref b], []⟩ = pure [(row, .ref b)])
    (hlim : s.heap.NoLimit) (hg : s.heap.Ns mainGlobals mg) (hml : mg "len" = none) (hb : s.heap.Ns builtinsNs mb) (hmb : mb "len" = some (.builtin "len"))
    (ht : IsTup s.heap b its) (h0 : its[0]? = some (.str z t)) (hz : z.length ≤ sizeLine) (hd : (row == ("__debug__" : Str)) = false) :
    wpAny (model prog w) A (call (.ref f) [.ref b]) (PySem.W.KeyPure (keyPy z) s) E s := by
  obtain ⟨oc, vs, tk, e1, e2, e3⟩ := hc
  refine wpAny_call (PySem.W.kla_callFunE hdep hf rfl hco hgen rfl ⟨c', oc, vs, tk, rfl, e1, e2, e3⟩ ?_)
  rw [hbind]
  refine wpAny_pure (wpAny_newFunctionEnv hcell (fun x hx => by rw [List.mem_singleton.mp hx]; exact hr) (fun h₁ hns hsb => ⟨hlim.fresh _ hsb, ?_⟩) hk)
  have kp : ∀ b o, s.heap.get? b = some o → h₁.get? b = some o := fun b o e => hsb.extBut b o (Nat.ne_of_lt (Heap.lt_size e)) (Heap.get?_push_of_some _ e)
  refine PySem.W.kla_codeExpr (wpAny_mono (key_body (b := b) (its := its) (z := z) (t := t) hk hr hns ?_ hl (hg.keeps kp) hml (hb.keeps kp) hmb ?_ h0 hz hd (E := fun _ _ => False)) (fun v s' hq => ?_) fun _ _ hq => hq.elim)
  · show [(row, Value.ref b)].lookup row = _
    simp
  · obtain ⟨o, q1, q2⟩ := ht
    exact ⟨o, kp _ _ q1, q2⟩
  · obtain ⟨h', tk', rfl, k', r⟩ := hq
    exact ⟨h', tk', rfl, fun b o e => k' b o (kp b o e), r⟩
end
end Kq
set_option Elab.async false
set_option linter.all false
set_option maxRecDepth 100000
set_option maxHeartbeats 400000
namespace Kq
open PySem PySem.Spec PyProof.Rows L2 LamX
/-- the order of the rows -/
def leZ (a b : V × Str) : Bool := PySem.W.dataLe false (fun q : V × Str => keyPy q.2) a b
def srtZ (l : List (V × Str)) : List (V × Str) := l.mergeSort (PySem.W.dataLe false fun q : V × Str => keyPy q.2)
def tSortK (K : PySem.W.Frag) (T : List (Addr × Str)) (te : TE) : TE := fun σ H Q => te σ H fun x H1 => Tabs T H1 ∧ ∃ (a : Addr) (xs : List V) (zs : List Str), x = .ref a ∧ SqL K H1 a xs ∧ xs.length = zs.length ∧
  (∀ q ∈ xs.zip zs, ∃ (b : Addr) (ys : List V), q.1 = .ref b ∧ SqT K H1 b ys ∧ ys[0]? = some (.str q.2) ∧ q.2.length ≤ sizeLine) ∧
  ∀ H2, ExtN H1 H2 → Tabs T H2 → ∀ p, H2 p = none → Q (.ref p) (upd H2 p (.lst ((srtZ (xs.zip zs)).map (·.1))))
theorem sqT_ext {K : PySem.W.Frag} {H H' : Hp} {a : Addr} {xs : List V} (h : SqT K H a xs) (e : ExtN H H') : SqT K H' a xs := by
  rcases h with (h | ⟨o, h⟩) | h
  · exact .inl (.inl (e _ _ h (fun _ z => nomatch z)))
  · exact .inl (.inr ⟨o, e _ _ h (fun _ z => nomatch z)⟩)
  · exact .inr h
theorem sqL_ext {K : PySem.W.Frag} {H H' : Hp} {a : Addr} {xs : List V} (h : SqL K H a xs) (e : ExtN H H') : SqL K H' a xs := by
  rcases h with (h | ⟨o, h⟩) | h
  · exact .inl (.inl (e _ _ h (fun _ z => nomatch z)))
  · exact .inl (.inr ⟨o, e _ _ h (fun _ z => nomatch z)⟩)
  · exact .inr h
theorem each_vals : ∀ {xs : List V} {zs : List Str} {vs : List Value}, Vals xs vs → xs.length = zs.length → PySem.W.EachIs (fun v (q : V × Str) => RelV q.1 v) vs (xs.zip zs)
  | [], [], _, .nil, _ => .nil
  | x :: xs, z :: zs, _, .cons h r, e => .cons h (each_vals r (Nat.succ.inj e))
theorem vals_each : ∀ {qs : List (V × Str)} {vs : List Value}, PySem.W.EachIs (fun v (q : V × Str) => RelV q.1 v) vs qs → Vals (qs.map (·.1)) vs
  | [], _, .nil => .nil
  | q :: qs, _, .cons h r => .cons h (vals_each r)
section
variable {X : Cx} {a : Expr} {te : TE} {T : List (Addr × Str)} {c P : Addr} {params : Arguments} {scope : Scope} {row : Str} {k0 k1 x1 : Nat} {p p1 p2 p3 p4 p5 p6 p7 p8 bpos lpos kpos pos : Pos}
abbrev bodyK (row : Str) (k0 k1 x1 : Nat) (p1 p2 p3 p4 p5 p6 p7 p8 pos : Pos) : Expr := .Tuple [.Call (.Name "len" p1) [.Subscript (.Name row p2) (.Constant (.int 0) k0 p3) p4] [] p5, .Subscript (.Name row p6) (.Constant (.int 0) k1 p7) p8] x1 pos
/-- the lambda's scope: its row and len -/
def lamRB (row : Str) (scope : Scope) : Bool := decide (scope.kind = .function) && !scope.isCoroutine && !scope.isGenerator && (scope.names.all fun y => !decide (y.2 = .cell) && !decide (y.2 = .free)) && decide (scope.names.lookup row = some .local) && decide (scope.names.lookup ("len" : Str) = some .globalImplicit)
theorem pe_sortK (hg : Gl X "sorted") (hm : X.mg "sorted" = none) (hml : X.mg "len" = none) (ha : PE X a te) (TB : TabB X.base X.mg c P) (hcode : X.env.code = .ref c) (hmT : (P, X.env.qual ++ "<lambda>") ∈ T) (hu : ∀ p ∈ T, p.1 = P → p.2 = X.env.qual ++ "<lambda>") (hr : Room 2 X.A)
    (hdef : defaultsOf params X.env = ([], [])) (hS : lamRB row scope = true) (hbind : ∀ (q : Str) (cl : List (Str × Addr)) (pm cv ctv v : Value), bindArgs (PySem.W.kla_fn "<lambda>" q params (bodyK row k0 k1 x1 p1 p2 p3 p4 p5 p6 p7 p8 bpos) scope cl pm cv ctv) ⟨[v], []⟩ = pure [(row, v)]) (hd : (row == ("__debug__" : Str)) = false)
    (he : starEach [a] X.env = (false, eval a X.env) :: starEach [] X.env := by rfl) :
    PE X (.Call (.Name "sorted" p) [a] [⟨some "key", .Lambda params (bodyK row k0 k1 x1 p1 p2 p3 p4 p5 p6 p7 p8 bpos) scope lpos, kpos⟩] pos) (tSortK X.K T te) := by
  unfold lamRB at hS
  simp only [Bool.and_eq_true, decide_eq_true_eq, Bool.not_eq_true', List.all_eq_true, decide_eq_false_iff_not] at hS
  obtain ⟨⟨⟨⟨⟨hk, hco⟩, hgen⟩, hnm⟩, hrow⟩, hlen⟩ := hS
  refine ⟨fun pins s σ H Q I h => ?_⟩
  refine wpAny_Call_Name_kw (ld_blt I hg hm (by rfl) ?_ (by decide) (by decide))
  refine PyProof.Rows.callWith_kw (thn ((pa_cons ha pa_nil he).run pos pins s σ H (fun vs H1 => match vs with
    | [x] => Tabs T H1 ∧ ∃ (a : Addr) (xs : List V) (zs : List Str), x = .ref a ∧ SqL X.K H1 a xs ∧ xs.length = zs.length ∧
      (∀ q ∈ xs.zip zs, ∃ (b : Addr) (ys : List V), q.1 = .ref b ∧ SqT X.K H1 b ys ∧ ys[0]? = some (.str q.2) ∧ q.2.length ≤ sizeLine) ∧
      ∀ H2, ExtN H1 H2 → Tabs T H2 → ∀ p, H2 p = none → Q (.ref p) (upd H2 p (.lst ((srtZ (xs.zip zs)).map (·.1))))
    | _ => False) I h) fun us s1 ⟨vs, H1, I1, r1, q1⟩ => ?_) (by rw [he]; rfl) (by rw [he]; rfl) rfl rfl
  · match vs, r1, q1 with
    | [x], r1, ⟨hT, l, xs, zs, ex, hl, hlz, hrows, q⟩ =>
    subst ex
    obtain rfl := Vals.ref1 r1
    show wpAny _ _ (evalAll [do let v ← eval (.Lambda params (bodyK row k0 k1 x1 p1 p2 p3 p4 p5 p6 p7 p8 bpos) scope lpos) X.env; standAt pos; pure v]) _ _ s1
    refine wpAny_evalAll_cons (wpAny_bind (lam_make2 I1 TB hcode hmT hu hT hdef (fun y hy e => absurd e (hnm y hy).2) fun f c' pm ctv H2 s2 I2 eN T2 hf hfn hfr hcd => wpAny_bind (wpAny_standAt (wpAny_pure (wpAny_evalAll_nil ?_)))))
    show wpAny (model X.prog X.w) X.A (call (.builtin "sorted") [.ref l] [(Str.ofString "key", .ref f)]) (EP X pins σ Q) X.xe s2
    obtain ⟨its, rv, pl, hz⟩ := I2.list (sqL_ext hl eN)
    have hlz' := hlz
    have hunit := hr.units
    have hn63 := line63
    refine PySem.W.sorted_key_data (b := false) (R := fun v (q : V × Str) => RelV q.1 v) (bs := xs.zip zs) (fun q => keyPy q.2) pl.isList (each_vals rv hlz) (PySem.W.AllAlike.of fun _ _ => by simp [keyPy, PySem.W.alike, PySem.W.alikeAll]) (PySem.W.Sortable.tuples fun _ => ⟨_, _, rfl⟩)
      (by rw [List.length_zip]; omega) (fun q _ => ?_) (PyProof.Rows.ksk_s1 _ _) (fun _ => PyProof.Rows.ksk_l1 _ _) (fun _ => PyProof.Rows.ksk_t1 _ _) (fun v q hR hq h tk kp => ?_) fun out cc h' tk kp fresh hD hlo eo => ?_
    · have hd1 : (keyPy q.2).depth = 1 := by simp [keyPy, PyData.depth, PyData.depthAll]
      omega
    · obtain ⟨b, ys, eb, hT2, h0, hz2⟩ := hrows q hq
      rw [eb] at hR
      cases hR
      obtain ⟨its2, rv2, ht2, _⟩ := I2.tuple (sqT_ext hT2 eN)
      obtain ⟨⟨oc, vs, tkc, e1, e2, e3⟩, _, _⟩ := I2.hok c' _ hcd
      obtain ⟨mb, b1, b2⟩ := I2.mod.blt
      obtain ⟨w0, hw0, hrw⟩ := rv2.get h0
      obtain ⟨t0, rfl⟩ := hrw
      have kb : ∀ b o, X.base.get? b = some o → h.get? b = some o := fun b o e => kp b o (I2.bk b o e)
      refine key_call (s := { s2 with heap := h, toks := tk }) hr.depth (kp _ _ hf) ⟨oc, vs, tkc, kp _ _ e1, e2, e3⟩ hk hco hgen (fun y hy => (hnm y hy).1) hrow hlen (hbind _ _ _ _ _ _) (I2.nolimit.keeps kp) (I2.mod.glob.keeps kb) hml (b1.keeps kb) ((b2 _ (by decide)).trans (by rfl))
        (its := its2.toArray) ?_ (by simpa using hw0) hz2 hd
      obtain ⟨o, a1, a2⟩ := ht2
      exact ⟨o, kp _ _ a1, a2⟩
    · have hz3 : ((srtZ (xs.zip zs)).map (·.1)).length ≤ sizeLine := by
        unfold srtZ
        rw [List.length_map, List.length_mergeSort, List.length_zip]
        omega
      exact ⟨.ref _, upd H2 (s2.heap.objs.size + 1) (.lst ((srtZ (xs.zip zs)).map (·.1))), I2.laid (t' := tk) kp (Nat.le_succ _) ⟨hz3, out, cc, vals_each eo, hD⟩, rfl, q H2 eN T2 _ (I2.hok.fresh (Nat.le_succ _))⟩
end
/-! ### by data -/
def rowZ (d : D) : Str := match d with
  | .tup (.str z :: _) => z
  | _ => ""
def sortD (ds : List D) : List D := ds.mergeSort (PySem.W.dataLe false fun d : D => keyPy (rowZ d))
def dSortK : D → M D
  | .lst ds => fun c Q _ => (∀ d ∈ ds, ∃ z r, d = .tup (.str z :: r) ∧ z.length ≤ sizeLine) ∧ Q (.lst (sortD ds)) c
  | _ => stuck
theorem rps_zip {g : Gx} {p : Addr} {F : Hp} : ∀ {xs : List V} {ds : List D}, Rps g p F xs ds → ∀ q ∈ xs.zip ds, Rp g p F q.1 q.2
  | [], [], _, q, hq => nomatch hq
  | x :: xs, d :: ds, .cons h r, q, hq => by
    rcases List.mem_cons.mp hq with rfl | hq
    · exact h
    · exact rps_zip r q hq
theorem rps_of {g : Gx} {p : Addr} {F : Hp} : ∀ {l : List (V × D)}, (∀ q ∈ l, Rp g p F q.1 q.2) → Rps g p F (l.map (·.1)) (l.map (·.2))
  | [], _ => .nil
  | q :: l, h => .cons (h q (List.mem_cons_self ..)) (rps_of fun q hq => h q (List.mem_cons_of_mem _ hq))
theorem rps_sort {g : Gx} {p : Addr} {F : Hp} {xs : List V} {ds : List D} (r : Rps g p F xs ds) : Rps g p F ((srtZ (xs.zip (ds.map rowZ))).map (·.1)) (sortD ds) := by
  have hl := r.length
  have e1 : xs.zip (ds.map rowZ) = (xs.zip ds).map fun q => (q.1, rowZ q.2) := by
    rw [List.zip_map_right]
    rfl
  have e2 : srtZ (xs.zip (ds.map rowZ)) = ((xs.zip ds).mergeSort (PySem.W.dataLe false fun q : V × D => keyPy (rowZ q.2))).map fun q => (q.1, rowZ q.2) := by
    unfold srtZ
    rw [e1]
    exact (PySem.W.sort_maps (fun q : V × D => (q.1, rowZ q.2)) fun _ _ _ _ => rfl).symm
  have e3 : sortD ds = ((xs.zip ds).mergeSort (PySem.W.dataLe false fun q : V × D => keyPy (rowZ q.2))).map (·.2) := by
    unfold sortD
    have e4 : ds = (xs.zip ds).map (·.2) := by rw [List.map_snd_zip (by omega)]
    have e5 := PySem.W.sort_maps (r := PySem.W.dataLe false fun q : V × D => keyPy (rowZ q.2)) (s := PySem.W.dataLe false fun d : D => keyPy (rowZ d)) (fun q : V × D => q.2) (l := xs.zip ds) fun _ _ _ _ => rfl
    rw [e5, ← e4]
  rw [e2, e3, List.map_map]
  exact rps_of fun q hq => rps_zip r q ((List.mem_mergeSort).mp hq)
section
variable {j : J} {ka : Kd} {a : Expr} {ma : ME} {c P : Addr} {params : Arguments} {scope : Scope} {row : Str} {k0 k1 x1 : Nat} {p p1 p2 p3 p4 p5 p6 p7 p8 bpos lpos kpos pos : Pos}
theorem re_sortK (hg : Gl j.X "sorted") (hm : j.X.mg "sorted" = none) (hml : j.X.mg "len" = none) (ha : RE j ka a ma) (TB : TabB j.X.base j.X.mg c P) (hcode : j.X.env.code = .ref c) (hmT : (P, j.X.env.qual ++ "<lambda>") ∈ j.T) (hu : ∀ p ∈ j.T, p.1 = P → p.2 = j.X.env.qual ++ "<lambda>") (hr : Room 2 j.X.A)
    (hdef : defaultsOf params j.X.env = ([], [])) (hS : lamRB row scope = true) (hbind : ∀ (q : Str) (cl : List (Str × Addr)) (pm cv ctv v : Value), bindArgs (PySem.W.kla_fn "<lambda>" q params (bodyK row k0 k1 x1 p1 p2 p3 p4 p5 p6 p7 p8 bpos) scope cl pm cv ctv) ⟨[v], []⟩ = pure [(row, v)]) (hd : (row == ("__debug__" : Str)) = false)
    (he : starEach [a] j.X.env = (false, eval a j.X.env) :: starEach [] j.X.env := by rfl) :
    RE j .own (.Call (.Name "sorted" p) [a] [⟨some "key", .Lambda params (bodyK row k0 k1 x1 p1 p2 p3 p4 p5 p6 p7 p8 bpos) scope lpos, kpos⟩] pos) (mUn dSortK ma) :=
  ⟨(pe_sortK hg hm hml ha.pe TB hcode hmT hu hr hdef hS hbind hd he).imp fun σ H Q ⟨ρ, s, Pd, E, eh, env, hm, hv, hx⟩ => by
    subst eh
    refine ⟨ρ, s, _, E, rfl, env, hm, fun x c h1 v1 t1 g1 e1 r1 => ?_, hx⟩
    subst e1
    match x, h1, r1 with
    | .lst ds, ⟨hr, h1⟩, r1 =>
      obtain ⟨l, xs, rfl, _, e1, r⟩ := r1.list g1.ok
      refine ⟨g1.ok.tb, l, xs, ds.map rowZ, rfl, SqL.of e1, by rw [List.length_map]; exact r.length, fun q hq => ?_, fun H2 eN T2 p hp => ?_⟩
      · rw [List.zip_map_right] at hq
        obtain ⟨⟨v, d⟩, hq2, rfl⟩ := List.mem_map.mp hq
        have rp := rps_zip r _ hq2
        obtain ⟨z, rr, ed, hz⟩ := hr d (List.of_mem_zip hq2).2
        subst ed
        obtain ⟨b, ys, e2, e3, r3⟩ := RV.tup (k := .val) (s := t1) rp g1.ok
        refine ⟨b, ys, e2, e3, ?_, hz⟩
        cases r3 with
        | cons h3 _ =>
          cases h3
          rfl
      · have nT : ∀ {a o}, t1.H a = some o → NT o → H2 a = some o := fun e n => eN _ _ e n
        obtain ⟨u, hu1, hu2⟩ := g1.ok.pe
        have ok2 : Ok j.g { t1 with H := H2 } := by
          refine ⟨g1.ok.fh.trans (Xt.ofN eN), g1.ok.ft, T2, fun hp => ?_, ⟨u, nT hu1 hu2.1, hu2⟩⟩
          obtain ⟨l, y, d, f, m, ns, h1, r⟩ := g1.ok.pn hp
          exact ⟨l, y, d, f, m, ns, nT h1 (fun _ z => nomatch z), r⟩
        have g2 : Gr j.g t1 { t1 with H := H2 } := ⟨rfl, Xt.refl _ _, Xt.ofN eN, fun _ _ _ _ h => h, ok2⟩
        obtain ⟨g3, r3⟩ := new_own ok2 hp (rps_sort r)
        exact hv _ _ h1 _ _ ((g1.trans g2).trans g3) rfl (r3.back (g1.trans g2))⟩
end
end Kq
set_option Elab.async false
set_option linter.all false
set_option maxRecDepth 100000
set_option maxHeartbeats 400000
namespace Kq
open PySem PySem.Spec PyProof.Rows L2 LamX
section
variable {j : J} {g : Gx} {k ka kb : Kd} {a b e : Expr} {mx my : ME}
/-! ### text.split(sep), text.count(sign) -/
def dSplit (z : Str) : D → M D
  | .str s => grd ((s.length == 0) = false ∧ z.length + 2 ≤ sizeLine) (ret (.lst ((Txt.split z s).map .str)))
  | _ => stuck
theorem rps_strs {p : Addr} {F : Hp} : ∀ ys : List Str, Rps g p F (ys.map V.str) (ys.map D.str)
  | [] => .nil
  | y :: ys => .cons (Rp.str y) (rps_strs ys)
theorem mt1_split : Mt1 g kb .own (fun x xs H Q => ∃ a b, x = .str a ∧ xs = [.str b] ∧ (b.length == 0) = false ∧ a.length + 2 ≤ sizeLine ∧ rNewStrs (Txt.split a b) H Q) dSplit := by
  intro s1 t z y dy P E Q hy o hm hq
  match dy, hm with
  | .str s, hm =>
    refine ⟨z, s, rfl, by rw [inv_str hy], hm.1.1, hm.1.2, fun p hp => ?_⟩
    obtain ⟨g2, r2⟩ := new_own o hp (rps_strs (Txt.split z s))
    exact hq _ _ hm.2 _ _ g2 rfl r2
def dCount (z : Str) : D → M D
  | .str s => ret (.int (Txt.count z s))
  | _ => stuck
theorem mt1_count : Mt1 g kb .val (fun x xs H Q => ∃ a b, x = .str a ∧ xs = [.str b] ∧ Q (.int (Txt.count a b)) H) dCount := by
  intro s1 t z y dy P E Q hy o hm hq
  match dy, hm with
  | .str s, hm => exact ⟨z, s, rfl, by rw [inv_str hy], hq _ _ hm _ t (Gr.refl o) rfl (Rp.int _)⟩
/-! ### x in xs, items of any depth -/
def dInP (n : Bool) (d : D) : D → M D
  | .lst ds => fun c Q _ => ∃ x ys, toPy d = some x ∧ toPys ds = some ys ∧ SeqAt.shaped x = true ∧ SeqAt.shaped (.list ys) = true ∧ Q (.bl (n ^^ ys.any fun z => PyData.eqv z x)) c
  | _ => stuck
theorem opm_inP : OpM g ka kb .val (rInD g.K) (dInP false) := by
  intro s1 s2 t x y dx dy P E Q hx hy o hm hq
  match dy, hm, hy with
  | .lst ds, ⟨px, pys, h1, h2, h3, h4, h5⟩, hy =>
    refine ⟨px, pys, dp_of (hx.atH o) h1, dp_of (hy.atH o) (by simp only [toPy]; rw [h2]; rfl), h3, h4, ?_⟩
    rw [Bool.false_xor] at h5
    exact hq _ _ h5 _ t (Gr.refl o) rfl (Rp.bl _)
theorem opm_niP : OpM g ka kb .val (rNotInD g.K) (dInP true) := by
  intro s1 s2 t x y dx dy P E Q hx hy o hm hq
  match dy, hm, hy with
  | .lst ds, ⟨px, pys, h1, h2, h3, h4, h5⟩, hy =>
    refine ⟨px, pys, dp_of (hx.atH o) h1, dp_of (hy.atH o) (by simp only [toPy]; rw [h2]; rfl), h3, h4, ?_⟩
    rw [Bool.true_xor] at h5
    exact hq _ _ h5 _ t (Gr.refl o) rfl (Rp.bl _)
/-! ### str(a number or a text) -/
def dToStrA : List D → M D
  | [.int n] => grd (n.natAbs.log2 < 1920) (ret (.str (toString n : String)))
  | [.str z] => ret (.str z)
  | _ => stuck
theorem cam_toStrA {ks : List Kd} : CaM g ks .val (fun xs H Q => (∃ i, xs = [.int i] ∧ i.natAbs.log2 < 1920 ∧ Q (.str (toString i)) H) ∨ ∃ a, xs = [.str a] ∧ Q (.str a) H) dToStrA := by
  intro s1 t xs ds P E Q hx o hm hq
  match ds, hm with
  | [.int n], hm =>
    obtain ⟨k, x, rfl, h⟩ := inv_rvs1 hx
    exact .inl ⟨n, by rw [inv_int h], hm.1, hq _ _ hm.2 _ t (Gr.refl o) rfl (Rp.str _)⟩
  | [.str z], hm =>
    obtain ⟨k, x, rfl, h⟩ := inv_rvs1 hx
    exact .inr ⟨z, by rw [inv_str h], hq _ _ hm _ t (Gr.refl o) rfl (Rp.str _)⟩
theorem call_strA {X : Cx} : CallR X (.type "str") (fun xs H Q => (∃ i, xs = [.int i] ∧ i.natAbs.log2 < 1920 ∧ Q (.str (toString i)) H) ∨ ∃ a, xs = [.str a] ∧ Q (.str a) H) := call_str_int.or SkE.call_str_str
end
end Kq
set_option Elab.async false
set_option linter.all false
set_option maxRecDepth 100000
set_option maxHeartbeats 400000
namespace Kq
open PySem PySem.Spec PyProof.Rows L2 LamX
/-! ### sorted(xs), xs of any data of one kind -/
def srtP (l : List (V × PyData)) : List (V × PyData) := l.mergeSort (PySem.W.dataLe false fun q : V × PyData => q.2)
def rSortP (K : PySem.W.Frag) : List V → Hp → VK → Prop := fun vs H Q => ∃ (a : Addr) (xs : List V) (ys : List PyData), vs = [.ref a] ∧ SqL K H a xs ∧ DpAll K H xs ys ∧ PySem.W.AllAlike ys ∧ PySem.W.Sortable ys ∧ (∀ y ∈ ys, y.depth ≤ 50) ∧
  ∀ p, H p = none → Q (.ref p) (upd H p (.lst ((srtP (xs.zip ys)).map (·.1))))
theorem dpAll_len {K : PySem.W.Frag} {H : Hp} : ∀ {xs : List V} {ys : List PyData}, DpAll K H xs ys → xs.length = ys.length
  | [], [], _ => rfl
  | _ :: _, _ :: _, .cons _ r => congrArg Nat.succ (dpAll_len r)
theorem each_pd : ∀ {xs : List V} {ys : List PyData} {vs : List Value}, Vals xs vs → xs.length = ys.length → PySem.W.EachIs (fun v (q : V × PyData) => RelV q.1 v) vs (xs.zip ys)
  | [], [], _, .nil, _ => .nil
  | x :: xs, z :: zs, _, .cons h r, e => .cons h (each_pd r (Nat.succ.inj e))
theorem each_rd {h : Heap} : ∀ {xs : List V} {ys : List PyData} {vs : List Value} {as : List Addr}, Vals xs vs → xs.length = ys.length → ReadsAll h vs ys as → PySem.W.EachIs (fun v (q : V × PyData) => ∃ as, Reads h v q.2 as) vs (xs.zip ys)
  | [], [], _, _, .nil, _, _ => .nil
  | x :: xs, z :: zs, _, _, .cons h r, e, .cons r1 r2 => .cons ⟨_, r1⟩ (each_rd r (Nat.succ.inj e) r2)
theorem each_out : ∀ {qs : List (V × PyData)} {vs : List Value}, PySem.W.EachIs (fun v (q : V × PyData) => RelV q.1 v) vs qs → Vals (qs.map (·.1)) vs
  | [], _, .nil => .nil
  | q :: qs, _, .cons h r => .cons h (each_out r)
theorem zip_sndP {xs : List V} {ys : List PyData} (h : xs.length = ys.length) : (xs.zip ys).map (fun q : V × PyData => q.2) = ys := by
  rw [List.map_snd_zip (by omega)]
theorem cr_sortP {X : Cx} (hu : X.A.units + 64 < cLine) : CallR X (.builtin "sorted") (rSortP X.K) := by
  intro pins s σ H vs us Q I r h
  obtain ⟨a, xs, ys, rfl, hl, hd, hal, hso, hdep, q⟩ := h
  obtain rfl := Vals.ref1 r
  obtain ⟨its, rv, pl, hz⟩ := I.list hl
  have hlen := dpAll_len hd
  obtain ⟨as, hr⟩ := Dp.readsAll I ys xs its hd rv
  have ez := zip_sndP hlen
  refine PySem.W.sorted_data (enc := fun q : V × PyData => q.2) (bs := xs.zip ys) (R := fun v (q : V × PyData) => RelV q.1 v) pl.isList (each_pd rv hlen) (each_rd rv hlen hr) (by rw [ez]; exact hal) (by rw [ez]; exact hso) (by rw [List.length_zip]; omega) (fun q hq => ?_) fun out ho eo => ?_
  · have := hdep q.2 (List.of_mem_zip hq).2
    show X.A.units + 2 + q.2.depth < cLine
    omega
  · obtain ⟨ep, he'⟩ := PyProof.Rows.sortedAll_at s.heap its (List.toArray out)
    have hz3 : ((srtP (xs.zip ys)).map (·.1)).length ≤ sizeLine := by
      unfold srtP
      rw [List.length_map, List.length_mergeSort, List.length_zip]
      omega
    exact ⟨.ref _, upd H (s.heap.objs.size + 1) (.lst ((srtP (xs.zip ys)).map (·.1))), I.laid (t' := s.toks) (fun _ _ => PyProof.Rows.sortedAll_old) (Nat.le_succ _) ⟨hz3, _, ep, each_out eo, he'⟩, rfl, q _ (I.hok.fresh (Nat.le_succ _))⟩
/-- by data -/
def pyD (d : D) : PyData := (toPy d).getD .none
def sortG (ds : List D) : List D := ds.mergeSort (PySem.W.dataLe false pyD)
def dSortG : List D → M D
  | [.lst ds] => fun c Q _ => ∃ ys, toPys ds = some ys ∧ PySem.W.AllAlike ys ∧ PySem.W.Sortable ys ∧ (∀ y ∈ ys, y.depth ≤ 50) ∧ Q (.lst (sortG ds)) c
  | _ => stuck
theorem toPys_pyD : ∀ {ds : List D} {ys : List PyData}, toPys ds = some ys → ys = ds.map pyD
  | [], _, e => by simp only [toPys] at e; cases e; rfl
  | d :: ds, _, e => by
    simp only [toPys] at e
    match hq : toPy d, hqs : toPys ds, e with
    | some a, some b, e =>
      simp only [Option.some.injEq] at e
      subst e
      rw [List.map_cons, toPys_pyD hqs]
      unfold pyD
      rw [hq]
      rfl
theorem rps_sortG {g : Gx} {p : Addr} {F : Hp} {xs : List V} {ds : List D} (r : Rps g p F xs ds) : Rps g p F ((srtP (xs.zip (ds.map pyD))).map (·.1)) (sortG ds) := by
  have hl := r.length
  have e1 : xs.zip (ds.map pyD) = (xs.zip ds).map fun q => (q.1, pyD q.2) := by
    rw [List.zip_map_right]
    rfl
  have e2 : srtP (xs.zip (ds.map pyD)) = ((xs.zip ds).mergeSort (PySem.W.dataLe false fun q : V × D => pyD q.2)).map fun q => (q.1, pyD q.2) := by
    unfold srtP
    rw [e1]
    exact (PySem.W.sort_maps (fun q : V × D => (q.1, pyD q.2)) fun _ _ _ _ => rfl).symm
  have e3 : sortG ds = ((xs.zip ds).mergeSort (PySem.W.dataLe false fun q : V × D => pyD q.2)).map (·.2) := by
    unfold sortG
    have e4 : ds = (xs.zip ds).map (·.2) := by rw [List.map_snd_zip (by omega)]
    have e5 := PySem.W.sort_maps (r := PySem.W.dataLe false fun q : V × D => pyD q.2) (s := PySem.W.dataLe false fun d : D => pyD d) (fun q : V × D => q.2) (l := xs.zip ds) fun _ _ _ _ => rfl
    rw [e5, ← e4]
  rw [e2, e3, List.map_map]
  exact rps_of fun q hq => rps_zip r q ((List.mem_mergeSort).mp hq)
theorem cam_sortG {g : Gx} {ks : List Kd} : CaM g ks .own (rSortP g.K) dSortG := by
  intro s1 t xs ds P E Q hx o hm hq
  match ds, hm with
  | [.lst ds], ⟨ys, h1, h2, h3, h4, h5⟩ =>
    obtain ⟨k, x, rfl, h⟩ := inv_rvs1 hx
    obtain ⟨l, zs, rfl, _, e1, r⟩ := h.list o
    have ey := toPys_pyD h1
    subst ey
    refine ⟨l, zs, ds.map pyD, rfl, SqL.of e1, dps_of (Rps.mono o.fh r) h1, h2, h3, h4, fun p hp => ?_⟩
    obtain ⟨g2, r2⟩ := new_own o hp (rps_sortG r)
    exact hq _ _ h5 _ _ g2 rfl r2
end Kq
set_option Elab.async false
set_option linter.all false
set_option maxRecDepth 100000
set_option maxHeartbeats 3200000
namespace Kq
open PySem PySem.Spec PyProof.Rows L2 LamX
/-! ### len(set(xs)), xs a list of texts -/
/-- how many texts stand in the first i -/
def cntT (xs : List Str) : Nat → Nat
  | 0 => 0
  | i + 1 => if (xs.take i).contains (xs.getD i Str.empty) then cntT xs i else cntT xs i + 1
theorem cntT_le (xs : List Str) : ∀ i, cntT xs i ≤ i
  | 0 => Nat.le_refl 0
  | i + 1 => by
    have h := cntT_le xs i
    unfold cntT
    split <;> omega
section
variable {P : Program} {w : World} {A : Around} {R : Result → Shared → Prop} {I : Addr} {fp wr : List Addr} {G : Array GenState → Array GenState → Prop} {n : Nat} {Pi : Nat → Value → Prop} {St : Nat → Shared → Prop}
theorem upd_txts (W : WalksS P w A.in1 I fp wr G n Pi St) (S : Addr) (nS : S ∉ fp) (xs : List Str) (el : xs.length = n) (small : n + 1 < scanBound) (each : ∀ i v, Pi i v → ∃ t, v = .str (xs.getD i Str.empty) t) :
    ∀ (m i : Nat) (s : Shared), n - i = m → i ≤ n → St i s → s.heap.SetOf (PySem.strKind P w) S (fun z => (xs.take i).contains z) (cntT xs i) →
      (∀ s', Moved (S :: wr) G s s' → s'.heap.SetOf (PySem.strKind P w) S (fun z => (xs.take n).contains z) (cntT xs n) → R (.ok (.ret .none)) s') →
      codeAny (model P w) A (.builtin "set.update.loop" ⟨[.ref S, .ref I], []⟩) R s := by
  have nw : S ∉ wr := fun z => nS (W.sub _ z)
  have more : ∀ b ∈ wr, b ∈ S :: wr := fun b hb => List.mem_cons_of_mem _ hb
  intro m
  induction m with
  | zero =>
    intro i s e1 e2 st hS fin
    obtain rfl : i = n := by omega
    refine codeAny_builtin PyProof.Rows.F.entry_set_update_loop ?_
    rw [Around.under_plainId PyProof.Rows.F.plain_set_update_loop _]
    show wpAny _ A.in1 (pyNext (.ref I) >>= _) _ _ s
    refine wpAny_bind (W.done s _ _ st fun s' mv => ?_)
    show wpAny _ A.in1 (PySem.ret Value.none) _ _ s'
    refine wpAny_pure (fin s' (mv.mono more) ?_)
    obtain ⟨o, es, ep, t, ho, r⟩ := hS
    exact ⟨o, es, ep, t, mv.heap S _ nw ho, r⟩
  | succ m ih =>
    intro i s e1 e2 st hS fin
    have lt : i < n := by omega
    have le := cntT_le xs i
    refine codeAny_builtin PyProof.Rows.F.entry_set_update_loop ?_
    rw [Around.under_plainId PyProof.Rows.F.plain_set_update_loop _]
    show wpAny _ A.in1 (pyNext (.ref I) >>= _) _ _ s
    refine wpAny_bind (W.item i s _ _ lt st fun v s' hp st' mv => ?_)
    obtain ⟨t, rfl⟩ := each i v hp
    have hS' : s'.heap.SetOf (PySem.strKind P w) S (fun z => (xs.take i).contains z) (cntT xs i) := by
      obtain ⟨o, es, ep, tb, ho, r⟩ := hS
      exact ⟨o, es, ep, tb, mv.heap S _ nw ho, r⟩
    show wpAny _ A.in1 (holding [Value.str (xs.getD i Str.empty) t] (setAdd S (.str (xs.getD i Str.empty) t)) >>= _) _ _ s'
    refine wpAny_bind (wpAny_holding ?_)
    unfold setAdd
    refine wpAny_holding ?_
    refine wpAny_bind ((PySem.strKind P w).pyHash (k := xs.getD i Str.empty) (strKind_is _ _ _ _) ?_)
    refine wpAny_setAddHashed_of (knd := PySem.strKind P w) (s := { s' with toks := s'.toks + 1 }) (strKind_is _ _ _ _) rfl hS' (by omega) fun h' sb hS2 => ?_
    have hS3 : h'.SetOf (PySem.strKind P w) S (fun z => (xs.take (i + 1)).contains z) (cntT xs (i + 1)) := by
      refine SetOf_congr hS2 (fun z => ?_) rfl
      have e3 : xs.take (i + 1) = xs.take i ++ [xs.getD i Str.empty] := by
        rw [List.take_add_one, List.getElem?_eq_getElem (by omega), List.getD_eq_getElem?_getD, List.getElem?_eq_getElem (by omega)]
        rfl
      rw [e3]
      by_cases e4 : z = xs.getD i Str.empty
      · subst e4
        simp
      · simp [e4]
    refine wpAny_pure ⟨plainId_quiet PyProof.Rows.F.plain_set_update_loop _, ih (i + 1) _ (by omega) lt (W.frame _ s' _ _ st' (Nat.le_succ _) fun b hb o e => ?_) hS3 fun s2 mv2 q2 => ?_⟩
    · rw [sb.2 b (fun z : b = S => nS (by rw [← z]; exact hb))]
      exact e
    · refine fin s2 (Moved.trans W.gtrans ((mv.mono more).then_heap (Nat.le_succ _) fun b o hb e => ?_) mv2) q2
      rw [sb.2 b (fun z : b = S => hb (by rw [z]; exact List.mem_cons_self ..))]
      exact e
end
section
variable {P : Program} {w : World} {A : Around} {E : Value → Shared → Prop} {s : Shared} {l : Addr} {its : Array Value} {zs : List Str} {Q : Value → Shared → Prop}
theorem mk_set_txts (nh : A.handled = none) (il : s.heap.IsList l its) (zi : StrsAre its.toList zs) (zb : zs.length + 1 < scanBound)
    (go : ∀ (g : Heap) (tk : Nat), g.SetOf (PySem.strKind P w) s.heap.objs.size (fun z => (zs.take zs.length).contains z) (cntT zs zs.length) → (∀ b o, s.heap.get? b = some o → g.get? b = some o) → Q (.ref s.heap.objs.size) { s with heap := g, toks := tk }) :
    wpAny (model P w) A (call (.type "set") [.ref l]) Q E s := by
  have zn : its.size = zs.length := by
    rw [← Array.length_toList]
    exact StrsAre.len_eq zi
  obtain ⟨_, _, q1⟩ := F.called_set.mro
  have q2 := F.called_set.sub
  have q3 := F.called_set.made
  have q4 := F.called_set.canCreate
  have q5 := F.called_set.notType
  have q6 := F.typeCall_set_1 (.ref l)
  apply wpAny_call
  apply codeAny_of_tree
  show wpAny _ _ (callAny (.type "set") _) _ _ _
  apply wpAny_pure
  refine ⟨Code.quiet_builtin _ (by decide +kernel), ?_⟩
  apply codeAny_builtin F.entry_type_call
  rw [Around.under_plain (weight_type_call_type "set" [.ref l] []) rfl]
  repeat (any_goals (first | assumption | wp_step))
  apply codeAny_mono (code_set_led1 (.ref l) (E := E) (Q₁ := fun ob t => ob = .ref s.heap.objs.size ∧ t = { s with heap := s.heap.push (nwS w) }) ⟨rfl, rfl⟩)
  rintro (e | fl) t ht
  · exact ht
  · match fl, ht with
    | .ret ob, ⟨e1, e2⟩ =>
      subst e1
      subst e2
      have ty : Shared.TypeIs { s with heap := s.heap.push (nwS w) } (.ref s.heap.objs.size) "set" := ⟨_, nwS_at, rfl⟩
      have i1 := F.called_set.init.lookup
      have i2 := F.called_set.init.bind (.ref s.heap.objs.size)
      repeat (any_goals (first | assumption | wp_step))
      refine codeAny_mono (codeAny_call_builtin (R := wants (fun r t => r = .none ∧ ∃ g tk, t = { s with heap := g, toks := tk } ∧ g.SetOf (PySem.strKind P w) s.heap.objs.size (fun z => (zs.take zs.length).contains z) (cntT zs zs.length) ∧ ∀ b o, s.heap.get? b = some o → g.get? b = some o) E)
        F.called_set.init.plain F.entry_set_init (check_set_init_1 ty ?_)) ?_
      · obtain ⟨⟨lc, ld, lx, ls⟩, e3, e4, ln, e5⟩ := il
        dsimp only at e4 e5
        subst e4
        subst e5
        have up : ∀ {b : Addr} {o : Obj}, s.heap.get? b = some o → (s.heap.push (nwS w)).get? b = some o := fun e => Heap.get?_push_of_some _ e
        have e6 := up e3
        have r1 := F.sub_list_set
        have r2 := F.sub_list_frozenset
        have r3 : (Value.type "list" == Value.type "dict") = false := by decide
        have il2 : (s.heap.push (nwS w)).IsList l its := ⟨_, e6, rfl, ln, rfl⟩
        unfold Builtin.«set.__init__» noKeywords Builtin.Frozenset.updateFrom
        generalize hPI : pyIter = PI
        wp_walk
        subst hPI
        apply wpAny_pyIter_list il2
        apply wpAny_bind
        apply wpAny_runValue
        have b1 : l < s.heap.objs.size := Heap.lt_size e3
        have b2 : (s.heap.push (nwS w)).objs.size = s.heap.objs.size + 1 := Heap.size_push ..
        have b3 : l ≠ (s.heap.push (nwS w)).objs.size := fun z => no1 b1 b2 z
        have b4 : s.heap.objs.size ∉ [(s.heap.push (nwS w)).objs.size, l] := fun z => by
          rcases List.mem_cons.mp z with z | z
          · exact no3 b2 z
          · exact no2 b1 (List.mem_singleton.mp z)
        have b5 : A.in1.in1.in1.handled = none := by simp [nh]
        have each : ∀ (i : Nat) (v : Value), its[i]? = some v → ∃ t, v = .str (zs.getD i Str.empty) t := fun i v hv => SS.strs_at zi i v ((Array.getElem?_toList ..).trans hv)
        have on2 : ∀ {o : Obj}, ((s.heap.push (nwS w)).push o).get? s.heap.objs.size = some (nwS w) := Heap.get?_push_of_some _ nwS_at
        refine upd_txts (Walks.list b5 _ l b3 its).toS s.heap.objs.size b4 zs zn.symm (by rw [zn]; exact zb) each (its.size - 0) 0 _ (by omega) (Nat.zero_le _) ⟨⟨_, Heap.get?_push_size _ rfl, rfl, rfl⟩, il2.push _⟩ (PyProof.Rows.SetOf_congr ((PyProof.Rows.setObjOf_fresh (knd := PySem.strKind P w) (!w.params.followText "set-order")).setOf on2 (by unfold scanBound; omega)) (fun _ => rfl) rfl) ?_
        rintro ⟨g, gg, gd, gt, go⟩ hm hset
        rw [zn] at hset
        obtain rfl : gg = s.gens := hm.gens
        obtain rfl : gd = s.drawn := hm.drawn
        obtain rfl : go = s.os := hm.os
        show wpAny _ _ _ _ _ _
        apply wpAny_pure
        show wpAny _ _ (PySem.ret Value.none) _ _ _
        apply wpAny_pure
        refine ⟨rfl, g, gt, rfl, hset, fun b o e => hm.heap b o (fun z => ?_) (Heap.get?_push_of_some _ (up e))⟩
        have z0 : (b : Nat) < s.heap.objs.size := Heap.lt_size e
        rcases List.mem_cons.mp z with z | z
        · exact no4 z0 z
        · exact no1 z0 b2 (List.mem_singleton.mp z)
      · rintro (e | f2) t2 ht2
        · exact ht2
        · match f2, ht2 with
          | .ret r, ⟨e1, g, gt, e2, e3, e5⟩ =>
            subst e1
            subst e2
            repeat (any_goals (first | assumption | wp_step))
            exact go _ _ e3 e5
end
def tLenSetT (K : PySem.W.Frag) (ta : TE) : TE := fun σ H Q => ta σ H fun x H1 => ∃ (l : Addr) (zs : List Str), x = .ref l ∧ SqL K H1 l (zs.map V.str) ∧ zs.length ≤ 1000 ∧ Q (.int (cntT zs zs.length : Nat)) H1
theorem pe_lenSetT {X : Cx} {a : Expr} {ta : TE} {p p2 q pos : Pos} (hg : Gl X "len") (hm : X.mg "len" = none) (hg2 : Gl X "set") (hm2 : X.mg "set" = none) (ha : PE X a ta) (hc : X.calm = true := by rfl)
    (na : starEach [a] X.env = (false, eval a X.env) :: starEach [] X.env := by rfl) : PE X (.Call (.Name "len" p) [.Call (.Name "set" p2) [a] [] q] [] pos) (tLenSetT X.K ta) := by
  refine ⟨fun pins s σ H Q I h => ?_⟩
  refine Call_ (ld_blt I hg hm boot_len ?_)
  refine PyProof.Rows.callWith_builtin1 (PyProof.Rows.args_cons ?_ rfl) rfl rfl
  refine Call_ (ld_blt I hg2 hm2 boot_set ?_)
  refine PyProof.Rows.callWith_type1 (PyProof.Rows.args_cons (thn (ha.run pins s σ H _ I h) fun v s1 ⟨x, H1, I1, r1, q1⟩ => PyProof.Rows.args_nil ?_) na) na rfl
  obtain ⟨l, zs, rfl, hq, h1, q1⟩ := q1
  cases r1
  obtain ⟨its, r, pl, hz⟩ := I1.list hq
  have hle := cntT_le zs zs.length
  refine mk_set_txts (I1.ok.hd hc) pl.isList (by simpa using strsAre_of r) (by unfold scanBound; omega) fun h' tk hS hk => ?_
  refine PyProof.Rows.args_nil ?_
  obtain ⟨o, es, ep, t, ho, hex, hd, _, _, _, hf, hn⟩ := hS
  have I2 : Inv X pins σ H1 { s1 with heap := h', toks := tk } := I1.kept hk
  exact call_len_set ho hex hd hf (by rw [hn]; omega) ⟨.int (cntT zs zs.length : Nat), H1, I2.tok _, ⟨_, by rw [hn]⟩, q1⟩
/-- by data -/
def mLenSet (ma : ME) : ME := fun ρ c Q E => ma ρ c (fun d c => match d with
  | .lst ds => ∃ zs : List Str, ds = zs.map D.str ∧ zs.length ≤ 1000 ∧ Q (.int (cntT zs zs.length : Nat)) c
  | _ => False) E
theorem rps_strV {g : Gx} {p : Addr} {F : Hp} : ∀ {xs : List V} {zs : List Str}, Rps g p F xs (zs.map D.str) → xs = zs.map V.str
  | [], [], _ => rfl
  | x :: xs, z :: zs, .cons h r => by
    cases h
    rw [rps_strV r]
    rfl
theorem re_lenSet {j : J} {ka : Kd} {a : Expr} {ma : ME} {p p2 q pos : Pos} (hg : Gl j.X "len") (hm : j.X.mg "len" = none) (hg2 : Gl j.X "set") (hm2 : j.X.mg "set" = none) (ha : RE j ka a ma) (hc : j.X.calm = true := by rfl)
    (na : starEach [a] j.X.env = (false, eval a j.X.env) :: starEach [] j.X.env := by rfl) : RE j .val (.Call (.Name "len" p) [.Call (.Name "set" p2) [a] [] q] [] pos) (mLenSet ma) :=
  ⟨(pe_lenSetT hg hm hg2 hm2 ha.pe hc na).imp fun σ H Q ⟨ρ, s, P, E, eh, env, hm, hv, hx⟩ => by
    subst eh
    refine ⟨ρ, s, _, E, rfl, env, hm, fun x c h1 v1 t1 g1 e1 r1 => ?_, hx⟩
    subst e1
    match x, h1, r1 with
    | .lst ds, ⟨zs, h2, h3, h4⟩, r1 =>
      subst h2
      obtain ⟨l, xs, rfl, _, e1, r⟩ := r1.list g1.ok
      obtain rfl := rps_strV r
      exact ⟨l, zs, rfl, SqL.of e1, h3, hv _ _ h4 _ t1 g1 rfl (Rp.int _)⟩⟩
end Kq
set_option Elab.async false
set_option linter.all false
set_option maxRecDepth 100000
set_option maxHeartbeats 400000
namespace Kq
open PySem PySem.Spec PyProof.Rows L2 LamX
theorem rm65 {k : Nat} {A : Around} (r : Room k A) : A.units + 65 < cLine := by have := r.un; omega
section
variable {P : D → Nat → Prop} {E : XC → Nat → Prop} {c : Nat} {s z : Str} {ma : ME} {ρ : Rho} {ds : List D} {zs : List Str} {n : Int}
theorem w_split (h : P (.lst ((Txt.split z s).map .str)) c) (h1 : (s.length == 0) = false) (h2 : z.length + 2 ≤ sizeLine) : dSplit z (.str s) c P E := ⟨⟨h1, h2⟩, h⟩
theorem w_count (h : P (.int (Txt.count z s)) c) : dCount z (.str s) c P E := h
theorem w_strAI (h : P (.str (toString n : String)) c) (h0 : n.natAbs.log2 < 1920) : dToStrA [.int n] c P E := ⟨h0, h⟩
theorem w_strAS (h : P (.str z) c) : dToStrA [.str z] c P E := h
def pSet (P : D → Nat → Prop) : D → Nat → Prop := fun d c => match d with
  | .lst ds => ∃ zs : List Str, ds = zs.map D.str ∧ zs.length ≤ 1000 ∧ P (.int (cntT zs zs.length : Nat)) c
  | _ => False
theorem w_lenSet (h : ma ρ c (pSet P) E) : mLenSet ma ρ c P E := h
theorem w_pSet (h : P (.int (cntT zs zs.length : Nat)) c) (h0 : zs.length ≤ 1000) : pSet P (.lst (zs.map D.str)) c := ⟨zs, rfl, h0, h⟩
theorem toPys_map {α : Type} {f : α → D} {g : α → PyData} (hf : ∀ a, toPy (f a) = some (g a)) : ∀ l : List α, toPys (l.map f) = some (l.map g)
  | [] => by simp only [List.map_nil, toPys]
  | a :: l => by
    simp only [List.map_cons, toPys]
    rw [hf, toPys_map hf l]
/-- x in xs by an injective reading -/
theorem w_inP {α : Type} [DecidableEq α] {f : α → D} {g : α → PyData} {k : Bool} {a : α} {l : List α} (hf : ∀ a, toPy (f a) = some (g a)) (he : ∀ b ∈ l, PyData.eqv (g b) (g a) = decide (b = a))
    (h1 : SeqAt.shaped (g a) = true) (h2 : SeqAt.shaped (.list (l.map g)) = true) (h : P (.bl (k ^^ decide (a ∈ l))) c) : dInP k (f a) (.lst (l.map f)) c P E := by
  refine ⟨_, _, hf a, toPys_map hf l, h1, h2, ?_⟩
  have e : ((l.map g).any fun z => PyData.eqv z (g a)) = decide (a ∈ l) := by
    rw [List.any_map, Bool.eq_iff_iff, List.any_eq_true, decide_eq_true_iff]
    constructor
    · rintro ⟨b, hb, e⟩
      rw [Function.comp, he b hb, decide_eq_true_iff] at e
      rw [← e]
      exact hb
    · intro hb
      exact ⟨a, hb, by rw [Function.comp, he a hb]; simp⟩
  rw [e]
  exact h
theorem w_sortG {ys : List PyData} (h1 : toPys ds = some ys) (h2 : PySem.W.AllAlike ys) (h3 : PySem.W.Sortable ys) (h4 : ∀ y ∈ ys, y.depth ≤ 50) (h : P (.lst (sortG ds)) c) : dSortG [.lst ds] c P E := ⟨ys, h1, h2, h3, h4, h⟩
/-- a comprehension whose parts change nothing -/
theorem lc_fm {f : D → Rho → Option Rho} {T : MB} {m : ME} {ρw : Rho} {Q : List D → Nat → Prop} (p : D → Bool) (g : D → D) (hl : ds.length ≤ 1000000)
    (hs : ∀ (d : D) (K1 : D → Nat → Prop) (K2 : Nat → Prop), d ∈ ds → (p d = true → K1 (g d) c) → (p d = false → K2 c) → ∃ ρ2, f d ρw = some ρ2 ∧ T ρ2 c (fun b c => if b = true then m ρ2 c K1 (fun _ _ => False) else K2 c) (fun _ _ => False))
    (h : Q ((ds.filter p).map g) c) : lcD f T m ρw ds [] c Q := by
  refine lc_rule (fun i acc c' => c' = c ∧ acc = ((ds.take i).filter p).map g) ⟨rfl, rfl⟩ ?_ ?_
  · rintro i d acc c' K hd ⟨rfl, rfl⟩ hK
    have hi := (List.getElem?_eq_some_iff.mp hd).1
    refine hs d _ _ (List.mem_of_getElem? hd) (fun hp => ⟨?_, hK _ _ ⟨rfl, ?_⟩⟩) (fun hp => hK _ _ ⟨rfl, ?_⟩)
    · have h1 : (((ds.take i).filter p).map g).length ≤ ds.length := by
        rw [List.length_map]
        exact Nat.le_trans (List.length_filter_le _ _) (by rw [List.length_take]; omega)
      exact Nat.lt_of_le_of_lt (Nat.le_trans h1 hl) (Nat.lt_of_le_of_lt (Nat.le_refl _) (by decide))
    · rw [List.take_add_one, hd, List.filter_append, List.map_append]
      show _ = _ ++ List.map g (List.filter p [d])
      rw [List.filter_cons, if_pos hp]
      rfl
    · rw [List.take_add_one, hd, List.filter_append, List.map_append]
      show _ = _ ++ List.map g (List.filter p [d])
      rw [List.filter_cons, if_neg (by rw [hp]; exact Bool.false_ne_true)]
      simp
  · rintro acc c' ⟨rfl, rfl⟩
    rw [List.take_length]
    exact h
theorem lc_mp {f : D → Rho → Option Rho} {T : MB} {m : ME} {ρw : Rho} {Q : List D → Nat → Prop} (g : D → D) (hl : ds.length ≤ 1000000)
    (hs : ∀ (d : D) (K1 : D → Nat → Prop) (K2 : Nat → Prop), d ∈ ds → K1 (g d) c → ∃ ρ2, f d ρw = some ρ2 ∧ T ρ2 c (fun b c => if b = true then m ρ2 c K1 (fun _ _ => False) else K2 c) (fun _ _ => False))
    (h : Q (ds.map g) c) : lcD f T m ρw ds [] c Q :=
  lc_fm (fun _ => true) g hl (fun d K1 K2 hd h1 _ => hs d K1 K2 hd (h1 rfl)) (by rw [List.filter_eq_self.mpr (fun _ _ => rfl)]; exact h)
end
end Kq
set_option Elab.async false
set_option linter.all false
set_option maxRecDepth 100000
set_option maxHeartbeats 4000000
namespace Kq
open PySem PySem.Spec PyProof.Rows L2 LamX
def top (i : Nat) : Stmt := PySem.Challenge.pw_keptqubits_k33_wrong_texts_of_sorts.main.body.getD i (.Pass ⟨0, 0, 0, 0⟩)
abbrev stPen : Stmt := top 16
abbrev stDraw : Stmt := top 17
abbrev nPen : List Str := ["_law_script", "_law_fold", "_law_cell"]
abbrev nDraw : List Str := ["_law_pen_here", "_law_many", "_law_cell", "_law_digit", "_law_mixed"]
theorem scPen : FnScope nPen ["_law_script"] (defScope stPen) := ⟨rfl, rfl, rfl, by decide +kernel, rfl, by decide +kernel, by decide +kernel⟩
theorem scDraw : FnScope nDraw ["_law_pen_here", "_law_many"] (defScope stDraw) := ⟨rfl, rfl, rfl, by decide +kernel, rfl, by decide +kernel, by decide +kernel⟩
section
variable {P : Program} {w : World} {K : PySem.W.Frag} {mg : Str → Option Value} {base : Heap} {T : List (Addr × Str)}
theorem ok_pen {f : Addr} {fd : FuncData} (F : Fun K "_law_pen" "_law_pen" stPen f fd) (nm : Nm mg) : FnOk P w K mg base (L2.CX P w) 1 f fd ["_law_script"] (spPen K) := by
  refine F.okX scPen (fun vs H Q E h => ?_) (fun cdv A outer s H vs Q E hr h => ?_)
  · obtain ⟨a, ns, rfl, _⟩ := h
    rfl
  · obtain ⟨a, ns, rfl, hS, hlen, k⟩ := h
    refine ⟨_, pss_cons (ps_set (i := 1) scPen.nd rfl (Or.inl rfl) pe_int)
      (pss_cons (ps_for (passes_of rfl) rfl (pi_list (pv 0)) (pg_name (i := 2) scPen.nd rfl (Or.inl rfl))
        (pss_one (ps_set (i := 1) scPen.nd rfl (Or.inl rfl) (pe_op op_mod (pe_callTy call_int1 (by rfl) nm.int (by decide +kernel) (pa_cons (pe_op op_add (pe_op op_mulG (pv 1) pe_int) (pv 2)) pa_nil)) pe_int))))
      (pss_one (ps_ret (pe_disp (pps_cons pe_str (pe_callTy call_list_of (by rfl) nm.lst (by decide +kernel) (pa_cons (pv 0) pa_nil)) (pps_cons pe_str pe_int (pps_cons pe_str pe_int (pps_cons pe_str pe_int (pps_cons pe_str (pv 1) pps_nil))))) (by decide) (by decide) (by decide) (by decide))))), ?_⟩
    refine ⟨_, rfl, a, rfl, ⟨_, hS⟩, for_list (K := K) (a := a) (xs := ns.map V.int) (fun i σ H' => H' = H ∧ ∃ (f : Int) (v : Option V), σ = [some (.ref a), some (.int f), v] ∧ 0 ≤ f ∧ f < 2147483647)
      ⟨rfl, 0, none, rfl, by decide, by decide⟩ (fun i σ H' _ ⟨e, _⟩ => e ▸ hS) ?_ ?_⟩
    · rintro i y σ H' hi ⟨rfl, f, v, rfl, f0, f1⟩
      obtain ⟨u, rfl⟩ : ∃ u, y = V.int u := by
        rw [List.getElem?_map] at hi
        cases q : ns[i]? with
        | none => rw [q] at hi; cases hi
        | some u => rw [q] at hi; exact ⟨u, (Option.some.inj hi).symm⟩
      refine ⟨_, rfl, _, _, rfl, rfl, .inl (.inr ⟨by decide, by decide⟩), _, rfl, _, _, rfl, rfl, .inl ⟨_, rfl, _, _, rfl, rfl, (by show (0 : Int) < 1000000007; decide), rfl, _, _, rfl, ?_, ?_⟩⟩
      · exact Int.emod_nonneg _ (by decide)
      · exact Int.lt_trans (Int.emod_lt_of_pos _ (by decide)) (by decide)
    · rintro σ H' ⟨rfl, f, v, rfl, f0, f1⟩
      intro p hp
      have hS' : SqL K (upd H' p (.dK [])) a (ns.map V.int) := Same.seq (same_new hp) hS
      refine ⟨_, rfl, a, _, rfl, .inl hS', fun l hl => ⟨_, rfl, ?_⟩⟩
      have npl : p ≠ l := ne_of_none (upd_same (H := H') (a := p) (o := HO.dK [])) hl
      have hl0 : H' l = none := by
        rw [upd_ne npl.symm] at hl
        exact hl
      refine ⟨by rw [upd_ne npl]; exact upd_same, penK l 0 0 0 f, rfl, (by show 5 ≤ 15; decide), ?_⟩
      rw [merge_pen]
      refine k _ p l f (fun b o e => ?_) hp hl0 npl.symm f0 f1 upd_same ?_
      · rw [upd_ne (ne_of_none e hp), upd_ne (ne_of_none e hl0), upd_ne (ne_of_none e hp)]
        exact e
      · rw [upd_ne npl.symm]
        exact upd_same
/-- the pen's heap stands at H2 with these numbers; all else is as it was -/
def PH (p l : Addr) (H0 H2 : Hp) (a d n f : Int) : Prop := H2 p = some (.dK (penK l a d n f)) ∧ (∀ b, b ≠ p → H2 b = H0 b) ∧ 0 ≤ a ∧ 0 ≤ d ∧ d.natAbs < 2 ^ 1048576 ∧ 0 ≤ f ∧ f < 2147483647
theorem PH.upd {p l : Addr} {H0 H2 : Hp} {a d n f a' d' n' f' : Int} (h : PH p l H0 H2 a d n f) (h3 : 0 ≤ a') (h4 : 0 ≤ d') (h5 : d'.natAbs < 2 ^ 1048576) (h6 : 0 ≤ f') (h7 : f' < 2147483647) : PH p l H0 (L2.upd H2 p (.dK (penK l a' d' n' f'))) a' d' n' f' :=
  ⟨upd_same, fun b hb => by rw [upd_ne hb]; exact h.2.1 b hb, h3, h4, h5, h6, h7⟩
theorem ok_draw {f : Addr} {fd : FuncData} (F : Fun K "_law_draw" "_law_draw" stDraw f fd) (nm : Nm mg) : FnOk P w K mg base (L2.CX P w) 1 f fd ["_law_pen_here", "_law_many"] (spOf ⟨P, w, K, mg, T⟩ [.val, .val] false drawM) := by
  refine F.okX scDraw (spOf_len rfl) fun cdv A outer s H vs Q E hr ⟨hl, s0, sx, ds, Pd, Ex, eh, o, r, hm, hv, hx⟩ => ?_
  subst eh
  have hu := hu_of hr
  have tail : PSs (cxOf (L2.CX P w) P w K mg base nDraw "_law_draw" (defScope stDraw) f cdv A outer s sx.H E) ((defBody stDraw).drop 2) (fun Dn σ H2 => ∃ (p l : Addr) (m a d n f : Int) (x2 x3 x4 : Option V), σ = [some (.ref p), some (.int m), x2, x3, x4] ∧ PH p l sx.H H2 a d n f ∧ 0 < m ∧ m.natAbs.log2 < 9000 ∧ 0 ≤ n ∧ n ≤ 2 ^ 40 ∧
      ∀ H3 a d f k, PH p l sx.H H3 a d n f → 0 ≤ k → k < m → Dn.rt (.int k) H3) := by
    refine (pss_cons (ps_if (pt_cmpR op_gt (pe_dget hu (pv 0) pe_str (fun _ _ => rfl)) pe_int (nomark _))
        (pss_cons (ps_set (i := 3) scDraw.nd rfl (Or.inl rfl) (pe_op op_mod (pe_callTy call_int1 (by rfl) nm.int (by decide +kernel) (pa_cons (pe_dget hu (pv 0) pe_str (fun _ _ => rfl)) pa_nil)) (pv 1)))
        (pss_cons (ps_dput hu (pv 0) pe_str (pe_op op_fdivG (pe_dget hu (pv 0) pe_str (fun _ _ => rfl)) (pv 1)) rfl)
        (pss_one (ps_ret (pv 3)))))
        pss_nil)
      (pss_cons (ps_set (i := 4) scDraw.nd rfl (Or.inl rfl) (pe_op op_add (pe_op op_add (pe_dget hu (pv 0) pe_str (fun _ _ => rfl)) (pe_op op_mulG (pe_dget hu (pv 0) pe_str (fun _ _ => rfl)) pe_int)) pe_int))
      (pss_one (ps_ret (pe_op op_mod (pe_op op_fdivG (pe_callTy call_int1 (by rfl) nm.int (by decide +kernel) (pa_cons (pe_op op_mod (pe_op op_pow (pv 4) pe_int) pe_int) pa_nil)) pe_int) (pv 1)))))).imp ?_
    rintro Dn σ H2 ⟨p, l, m, a, d, n, f, x2, x3, x4, rfl, ⟨h1, h2, h3, h4, h5, h6, h7⟩, m0, m1, n0, n1, hk⟩
    refine ⟨_, rfl, _, _, rfl, get_of h1 val_digits, _, _, rfl, rfl, _, rfl, ?_⟩
    show (if decide (d > 0) = true then _ else _)
    by_cases hd : d > 0
    · rw [if_pos (decide_eq_true hd)]
      refine ⟨_, rfl, _, _, rfl, get_of h1 val_digits, .inl ⟨_, rfl, _, rfl, _, _, rfl, rfl, m0, _, rfl, _, _, rfl, get_of h1 val_digits, _, rfl, _, _, rfl, rfl, ⟨by omega, m1⟩, _, rfl, _, _, rfl, put_of h1 put_digits, _, rfl, ?_⟩⟩
      have q : 0 ≤ d.fdiv m ∧ d.fdiv m ≤ d := by
        rw [Int.fdiv_eq_ediv_of_nonneg _ (by omega)]
        exact ⟨Int.ediv_nonneg h4 (by omega), Int.ediv_le_self _ h4⟩
      exact hk _ _ _ _ _ (PH.upd (⟨h1, h2, h3, h4, h5, h6, h7⟩ : PH p l sx.H H2 a d n f) h3 q.1 (by omega) h6 h7) (Int.emod_nonneg _ (by omega)) (Int.emod_lt_of_pos _ m0)
    · rw [if_neg (by rw [decide_eq_true_iff]; exact hd)]
      refine ⟨_, rfl, _, _, rfl, get_of h1 val_fold, _, rfl, _, _, rfl, get_of h1 val_count, _, _, rfl, rfl, .inl (.inr ⟨by decide, by decide⟩), _, _, rfl, rfl, _, _, rfl, rfl, _, rfl, _, _, rfl, rfl, ⟨by decide, by decide, by omega⟩, _, _, rfl, rfl, (by show (0 : Int) < 2305843009213693951; decide), .inl ⟨_, rfl, _, _, rfl, rfl, ⟨by decide, by decide⟩, _, rfl, _, _, rfl, rfl, m0, ?_⟩⟩
      exact hk _ _ _ _ _ ⟨h1, h2, h3, h4, h5, h6, h7⟩ (Int.emod_nonneg _ (by omega)) (Int.emod_lt_of_pos _ m0)
  refine ⟨_, pss_cons (ps_dput hu (pv 0) pe_str (pe_op op_add (pe_dget hu (pv 0) pe_str (fun _ _ => rfl)) pe_int) rfl)
    (pss_cons (ps_if (pw_and (pt_cmpR op_eq (pe_dget hu (pv 0) pe_str (fun _ _ => rfl)) pe_int (nomark _)) (pw_and1 (pt_cmpR op_lt (pe_dget hu (pv 0) pe_str (fun _ _ => rfl)) (pe_callB call_len_seq (by rfl) nm.len PySem.boot_len (pa_cons (pe_dget hu (pv 0) pe_str (fun _ _ => rfl)) pa_nil)) (nomark _)))).pt
      (pss_cons (ps_set (i := 2) scDraw.nd rfl (Or.inl rfl) (pe_ix ix_seq (pe_dget hu (pv 0) pe_str (fun _ _ => rfl)) (pe_dget hu (pv 0) pe_str (fun _ _ => rfl)) (fun _ _ => rfl)))
      (pss_cons (ps_dput hu (pv 0) pe_str (pe_op op_add (pe_dget hu (pv 0) pe_str (fun _ _ => rfl)) pe_int) rfl)
      (pss_one (ps_if (pt_cmpR op_ge (pv 2) (pe_op op_pow pe_int pe_int) (nomark _))
        (pss_one (ps_dput hu (pv 0) pe_str (pe_op op_sub (pv 2) (pe_op op_pow pe_int pe_int)) rfl))
        (pss_one (ps_dput hu (pv 0) pe_str (pe_op op_mod (pe_callTy call_int1 (by rfl) nm.int (by decide +kernel) (pa_cons (pe_op op_add (pe_op op_mulG (pe_dget hu (pv 0) pe_str (fun _ _ => rfl)) pe_int) (pv 2)) pa_nil)) pe_int) rfl))))))
      pss_nil) tail), ?_⟩
  match ds, hm, r with
  | [.pen, .int m], ⟨⟨m0, m1, hc⟩, hm⟩, .cons (v := v0) r0 (.cons (v := v1) r1 .nil) =>
  obtain rfl : v1 = .int m := inv_int r1
  obtain ⟨rfl, hF⟩ : v0 = .ref sx.p ∧ sx.F sx.p ≠ none := by
    cases (show Rp _ sx.p sx.F v0 .pen from r0) with
    | pen h => exact ⟨rfl, by rw [h]; exact fun z => nomatch z⟩
  obtain ⟨l, a, d, f, n, ns, h1, h2, h3, h4, h5, h6, h7, h8, h9, h10⟩ := o.pn hF
  have hL : sx.H l = some (.lst (ns.map V.int)) := (o.fh _ _ h8 (fun _ z => nomatch z)).2 h9
  have p0 : PH sx.p l sx.H sx.H a d n f := ⟨h1, fun _ _ => rfl, h3, h4, h5, h6, h7⟩
  -- count
  refine ⟨_, rfl, _, _, rfl, get_of h1 val_count, _, _, rfl, rfl, _, rfl, _, _, rfl, put_of h1 put_count, ?_⟩
  have p1 : PH sx.p l sx.H _ a d (n + 1) f := p0.upd h3 h4 h5 h6 h7
  have e1 := p1.1
  have fin : ∀ H3 a d f k, PH sx.p l sx.H H3 a d (n + 1) f → 0 ≤ k → k < m → Q (.int k) H3 := fun H3 a d f k q k0 k1 => by
    obtain ⟨q1, q2, q3, q4, q5, q6, q7⟩ := q
    refine hv _ _ (hm k k0 k1) _ ⟨sx.F, H3, sx.p, sx.c + 1⟩ ?_ rfl (Rp.int k)
    have hx0 : Xt sx.p sx.H H3 := fun b u e n => by
      by_cases hb : b = sx.p
      · subst hb
        exact ⟨⟨_, q1, fun _ z => nomatch z⟩, fun z => absurd rfl z⟩
      · rw [q2 b hb]
        exact ⟨⟨u, e, n⟩, fun _ => e⟩
    refine ⟨rfl, Xt.refl _ _, hx0, fun _ _ _ _ h => h, ⟨o.fh.trans hx0, o.ft, ?_, fun _ => ⟨l, a, d, f, n + 1, ns, q1, by show n + 1 ≤ sx.c + 1; omega, q3, q4, q5, q6, q7, h8, h9, h10⟩, ⟨_, q1, PK.dK⟩⟩⟩
    intro q hq
    obtain ⟨ps, a1, a2, a3⟩ := o.tb q hq
    refine ⟨ps, ?_, a2, fun pos cv hcd => ?_⟩
    · show H3 q.1 = _
      rw [q2 q.1 (fun z => by rw [z, h1] at a1; cases a1)]
      exact a1
    · obtain ⟨c, b1, b2⟩ := a3 pos cv hcd
      refine ⟨c, b1, ?_⟩
      show H3 c = _
      rw [q2 c (fun z => by rw [z, h1] at b2; unfold CodeO at b2; cases b2)]
      exact b2
  have n0 : (0 : Int) ≤ (n : Int) + 1 := by omega
  have n1 : (n : Int) + 1 ≤ 2 ^ 40 := by omega
  refine ⟨_, rfl, _, _, rfl, get_of e1 val_digits, rfl, _, rfl, ?_⟩
  show (if decide (V.int d = V.int 0) = true then _ else _)
  by_cases hd : d = 0
  · subst hd
    rw [if_pos (decide_eq_true rfl)]
    have hL1 : L2.upd sx.H sx.p (HO.dK (penK l a 0 (n + 1) f)) l = some (.lst (ns.map V.int)) := by
      rw [upd_ne h9]
      exact hL
    refine ⟨_, rfl, _, _, rfl, get_of e1 val_at, _, rfl, _, _, rfl, get_of e1 val_cells, _, _, rfl, .inl (SqL.of hL1), _, _, rfl, rfl, _, rfl, ?_⟩
    rw [List.length_map]
    show (if decide (a < (ns.length : Int)) = true then _ else _)
    by_cases ha : a < (ns.length : Int)
    · rw [if_pos (decide_eq_true ha)]
      obtain ⟨z, hz, hz2⟩ : ∃ z, atI (ns.map V.int) a = some (.int z) ∧ z.natAbs < 2 ^ 1048576 := by
        have hlt : a.toNat < ns.length := by omega
        refine ⟨ns[a.toNat], ?_, h10.2 _ (List.getElem_mem hlt)⟩
        have q := atI_nat (xs := ns.map V.int) (j := a.toNat) (v := V.int ns[a.toNat]) (by simp [hlt])
        rw [Int.toNat_of_nonneg h3] at q
        exact q
      refine ⟨_, rfl, _, _, rfl, get_of e1 val_cells, _, rfl, _, _, rfl, get_of e1 val_at, .inl ⟨_, _, _, _, rfl, rfl, SqL.of hL1, hz, _, rfl, _, _, rfl, get_of e1 val_at, _, _, rfl, rfl, _, rfl, _, _, rfl, put_of e1 put_at, ?_⟩⟩
      have p2 := p1.upd (a' := a + 1) (d' := 0) (n' := n + 1) (f' := f) (by omega) (by omega) (Nat.two_pow_pos _) h6 h7
      have e2 := p2.1
      refine ⟨_, rfl, _, _, rfl, rfl, ⟨by decide, by decide, by decide⟩, _, _, rfl, rfl, _, rfl, ?_⟩
      show (if decide ((10 : Int) ^ 18 ≤ z) = true then _ else _)
      by_cases hc : (10 : Int) ^ 18 ≤ z
      · rw [if_pos (decide_eq_true hc)]
        refine ⟨_, rfl, _, _, rfl, rfl, ⟨by decide, by decide, by decide⟩, _, _, rfl, rfl, _, rfl, _, _, rfl, put_of e2 put_digits, ?_⟩
        have e18 : (10 : Int) ^ (18 : Int).toNat = 1000000000000000000 := by decide
        have e18' : (10 : Int) ^ 18 = 1000000000000000000 := by decide
        refine ⟨_, _, _, _, _, _, _, _, _, _, rfl, p2.upd (by omega) ?_ ?_ h6 h7, m0, m1, n0, n1, fin⟩
        · rw [e18]; rw [e18'] at hc; omega
        · rw [e18]; rw [e18'] at hc; omega
      · rw [if_neg (by rw [decide_eq_true_iff]; exact hc)]
        refine ⟨_, rfl, _, _, rfl, get_of e2 val_fold, _, _, rfl, rfl, .inl (.inr ⟨by decide, by decide⟩), _, rfl, _, _, rfl, rfl, .inl ⟨_, rfl, _, _, rfl, rfl, (by show (0 : Int) < 2147483587; decide), _, rfl, _, _, rfl, put_of e2 put_fold, ?_⟩⟩
        exact ⟨_, _, _, _, _, _, _, _, _, _, rfl, p2.upd (by omega) (by omega) (Nat.two_pow_pos _) (Int.emod_nonneg _ (by decide)) (Int.lt_trans (Int.emod_lt_of_pos _ (by decide)) (by decide)), m0, m1, n0, n1, fin⟩
    · rw [if_neg (by rw [decide_eq_true_iff]; exact ha)]
      exact ⟨_, _, _, _, _, _, _, _, _, _, rfl, p1, m0, m1, n0, n1, fin⟩
  · rw [if_neg (by rw [decide_eq_true_iff]; exact fun z => hd (V.int.inj z))]
    exact ⟨_, _, _, _, _, _, _, _, _, _, rfl, p1, m0, m1, n0, n1, fin⟩
end

/-- which class is which -/
def exL : List ((Str × Str) × Bool) := [(("BadText", "BadText"), true), (("BadNumber", "BadText"), false)]
def subC : Str → Str → Option Bool := subT exL
def fldL : List (Str × List Str) := [("Sort", ["size", "text", "rules"])]
abbrev fldT : Str → Str → Bool := tabT fldL
def clsL : List Str := ["Sort"]
def subL : List ((Str × Str) × Bool) := [(("Sort", "Sort"), true)]
structure Txt (K : PySem.W.Frag) (mg : Str → Option Value) : Prop where
  nm : Nm mg
  ce : CeT K mg "KeptError"
  sub : SubOk K mg subC
  x_BadText : XcT K mg "BadText" "BadText.__init__" (inClass (top 3) 0) ["self", "line", "column"] ["line", "column"]
  x_BadNumber : XcT K mg "BadNumber" "BadNumber.__init__" (inClass (top 4) 0) ["self", "what", "number"] ["what", "number"]
  d_law_draw : Df K mg "_law_draw" "_law_draw" (top 17) ["_law_pen_here", "_law_many"]
  d_is_whole : Df K mg "is_whole" "is_whole" (top 6) ["number"]
  d_number_told : Df K mg "number_told" "number_told" (top 10) ["word", "most"]
  d_pair_told : Df K mg "pair_told" "pair_told" (top 11) ["word", "size"]
  d_item_told : Df K mg "item_told" "item_told" (top 12) ["kind", "word", "size"]
  d_rule_told : Df K mg "rule_told" "rule_told" (top 13) ["words", "size", "line"]
  d_law_pick : Df K mg "_law_pick" "_law_pick" (top 18) ["_law_pen_here", "_law_some"]
  d_law_shuffled : Df K mg "_law_shuffled" "_law_shuffled" (top 19) ["_law_pen_here", "_law_some"]
  d_law_drawn_rule : Df K mg "_law_drawn_rule" "_law_drawn_rule" (top 20) ["_law_pen_here", "_law_size"]
  d_law_item_words : Df K mg "_law_item_words" "_law_item_words" (top 21) ["_law_rule"]
  d_law_sort_text : Df K mg "_law_sort_text" "_law_sort_text" (top 22) ["_law_pen_here", "_law_rules"]
  d_law_is_number : Df K mg "_law_is_number" "_law_is_number" (top 23) ["_law_word", "_law_most"]
  d_law_first_wrong : Df K mg "_law_first_wrong" "_law_first_wrong" (top 24) ["_law_words", "_law_size"]
  d_law_due : Df K mg "_law_due" "_law_due" (top 25) ["_law_text", "_law_size"]
  d_law_refused : Df K mg "_law_refused" "_law_refused" (top 26) ["_law_call"]
  d_law_bent : Df K mg "_law_bent" "_law_bent" (top 27) ["_law_pen_here", "_law_text", "_law_size"]
  fld : FldOk K mg fldT
  isi : IsiOk K mg (clsT clsL) (subT subL)
  k_Sort : KlT K mg "Sort" "Sort.__init__" (inClass (top 14) 0) ["self", "size", "text"]
  v_KINDS : GlT K mg "KINDS" (.tup [(.str "weight"), (.str "letters"), (.str "near"), (.str "within"), (.str "run")])
  v_MOST_SIZE : GlT K mg "MOST_SIZE" (.int 24)
section
variable {P : Program} {w : World} {K : PySem.W.Frag} {mg : Str → Option Value} {base : Heap} {T : List (Addr × Str)}
theorem c_law_draw (t : Txt K mg) : Cal P w K mg base T "_law_draw" 1 [.val, .val] false drawM := by
  obtain ⟨f, fd, hm, F, hb⟩ := t.d_law_draw.ex
  exact ⟨f, fd, _, hm, F.kp, hb, ok_draw F t.nm⟩
theorem sc_x_BadText : FnScope ["self", "line", "column"] ["self", "line", "column"] (defScope (inClass (top 3) 0)) := ⟨rfl, rfl, rfl, by decide +kernel, rfl, by decide +kernel, by decide +kernel⟩
theorem x_BadText (t : Txt K mg) : XcOk P w K mg base "BadText" ["line", "column"] := by
  obtain ⟨C, fI, fd, hm, oC, xC, no, iC, tI, hb, F⟩ := t.x_BadText.ex
  obtain ⟨C0, mc, hm0, ce⟩ := t.ce
  refine ⟨C, fI, fd, ["self", "line", "column"], hm, oC, xC, no, iC, tI, hb, F.okX sc_x_BadText (fun vs H Q E h => ?_) (fun cdv A outer s H vs Q E hr h => ?_)⟩
  · obtain ⟨a, ys, rfl, hl, _⟩ := h
    rw [List.length_cons, hl]
    rfl
  · obtain ⟨a, ys, rfl, hl, ha, hk⟩ := h
    match ys, hl with
    | [y1, y2], _ =>
    refine ⟨_, pss_cons (ps_expr (pe_ceinit rfl hm0 ce (pa_cons (pv 0) (pa_cons pe_str pa_nil)))) (pss_cons (ps_ost (pv 0) (pv 1)) (pss_one (ps_ost (pv 0) (pv 2)))), ?_⟩
    refine ⟨_, rfl, a, C, _, rfl, (by show 1 ≤ 1000; decide), oC, ha, _, rfl, _, rfl, a, C, rfl, oC, no _ (by decide), .inl ⟨ha, fun dx hdx hne => ?_⟩⟩
    have ne2 : a ≠ dx := hne.symm
    refine ⟨_, rfl, _, rfl, a, C, rfl, oC, no _ (by decide), .inr ⟨dx, _, upd_same, (by rw [upd_ne hne]; exact upd_same), (by show 1 ≤ 900; decide), ?_⟩⟩
    refine hk _ dx hdx hne (fun b o nb e => ?_) ?_ ?_
    · rw [upd_ne (ne_of_none e hdx), upd_ne nb, upd_ne (ne_of_none e hdx)]
      exact e
    · rw [upd_ne ne2]
      exact upd_same
    · exact upd_same
theorem sc_x_BadNumber : FnScope ["self", "what", "number"] ["self", "what", "number"] (defScope (inClass (top 4) 0)) := ⟨rfl, rfl, rfl, by decide +kernel, rfl, by decide +kernel, by decide +kernel⟩
theorem x_BadNumber (t : Txt K mg) : XcOk P w K mg base "BadNumber" ["what", "number"] := by
  obtain ⟨C, fI, fd, hm, oC, xC, no, iC, tI, hb, F⟩ := t.x_BadNumber.ex
  obtain ⟨C0, mc, hm0, ce⟩ := t.ce
  refine ⟨C, fI, fd, ["self", "what", "number"], hm, oC, xC, no, iC, tI, hb, F.okX sc_x_BadNumber (fun vs H Q E h => ?_) (fun cdv A outer s H vs Q E hr h => ?_)⟩
  · obtain ⟨a, ys, rfl, hl, _⟩ := h
    rw [List.length_cons, hl]
    rfl
  · obtain ⟨a, ys, rfl, hl, ha, hk⟩ := h
    match ys, hl with
    | [y1, y2], _ =>
    refine ⟨_, pss_cons (ps_expr (pe_ceinit rfl hm0 ce (pa_cons (pv 0) (pa_cons pe_str pa_nil)))) (pss_cons (ps_ost (pv 0) (pv 1)) (pss_one (ps_ost (pv 0) (pv 2)))), ?_⟩
    refine ⟨_, rfl, a, C, _, rfl, (by show 1 ≤ 1000; decide), oC, ha, _, rfl, _, rfl, a, C, rfl, oC, no _ (by decide), .inl ⟨ha, fun dx hdx hne => ?_⟩⟩
    have ne2 : a ≠ dx := hne.symm
    refine ⟨_, rfl, _, rfl, a, C, rfl, oC, no _ (by decide), .inr ⟨dx, _, upd_same, (by rw [upd_ne hne]; exact upd_same), (by show 1 ≤ 900; decide), ?_⟩⟩
    refine hk _ dx hdx hne (fun b o nb e => ?_) ?_ ?_
    · rw [upd_ne (ne_of_none e hdx), upd_ne nb, upd_ne (ne_of_none e hdx)]
      exact e
    · rw [upd_ne ne2]
      exact upd_same
    · exact upd_same
/-! ### is_whole -/
abbrev n_is_whole : List Str := ["number"]
theorem sc_is_whole : FnScope n_is_whole ["number"] (defScope (top 6)) := ⟨rfl, rfl, rfl, by decide +kernel, rfl, by decide +kernel, by decide +kernel⟩
def ms_is_whole : MS := (mRet (mAndV (mCall (dIsiC (clsT clsL) (subT subL)) (mCons (mVar 0) (mCons (mC (.ty "int")) mNil))) (mNotV (mCall (dIsiC (clsT clsL) (subT subL)) (mCons (mVar 0) (mCons (mC (.ty "bool")) mNil))))))
def f_is_whole : FM := fnM 1 [.val] ms_is_whole
theorem c_is_whole (t : Txt K mg) : Cal P w K mg base T "is_whole" 2 [.val] false f_is_whole := by
  obtain ⟨f, fd, hm, F, hb⟩ := (t.d_is_whole).ex
  exact ⟨f, fd, _, hm, F.kp, hb, fn_ok F sc_is_whole rfl (by decide) (fun cdv A outer s z E hr => (rss_one (rs_ret (re_and (re_call (fun h => pe_callB call_isi (by rfl) t.nm.isi (by decide +kernel) h) (cam_isiC t.isi) (ra_cons (re_var (pv 0)) (ra_cons (re_ty rfl t.nm.int (by decide +kernel)) ra_nil))) (re_one (re_not (re_call (fun h => pe_callB call_isi (by rfl) t.nm.isi (by decide +kernel) h) (cam_isiC t.isi) (ra_cons (re_var (pv 0)) (ra_cons (re_ty rfl t.nm.bool (by decide +kernel)) ra_nil))))))))) (fun h => nomatch h)⟩
/-! ### number_told -/
abbrev n_number_told : List Str := ["word", "most", "sign"]
theorem sc_number_told : FnScope n_number_told ["word", "most"] (defScope (top 10)) := ⟨rfl, rfl, rfl, by decide +kernel, rfl, by decide +kernel, by decide +kernel⟩
def ms_number_told : MS := (mSeq (mIf (mOrB (mTst (mBin dEq (mVar 0) (mC (.str "")))) (mOrB (mTst (mBin dGt (mCall dLen (mCons (mVar 0) mNil)) (mC (.int 2)))) (mNotB (mTru (mCall dAll (mCons (mLc (mItems (mVar 0)) (fName 2) mYes (mBin (dIn false) (mVar 2) (mC (.str "0123456789"))) (([("sign", 2)] : List (Str × Nat)).map (·.2))) mNil)))))) (mRet (mC .non)) mNext)
    (mSeq (mIf (mOrB (mAndB (mTst (mBin dGt (mCall dLen (mCons (mVar 0) mNil)) (mC (.int 1)))) (mTst (mBin dEq (mBin dIx (mVar 0) (mC (.int 0))) (mC (.str "0"))))) (mTst (mBin dGt (mCall dToInt (mCons (mVar 0) mNil)) (mVar 1)))) (mRet (mC .non)) mNext)
    (mRet (mCall dToInt (mCons (mVar 0) mNil)))))
def f_number_told : FM := fnM 3 [.val, .val] ms_number_told
theorem c_number_told (t : Txt K mg) : Cal P w K mg base T "number_told" 2 [.val, .val] false f_number_told := by
  obtain ⟨f, fd, hm, F, hb⟩ := (t.d_number_told).ex
  exact ⟨f, fd, _, hm, F.kp, hb, fn_ok F sc_number_told rfl (by decide) (fun cdv A outer s z E hr => (rss_cons (rs_if (RW.rt (rw_or (rt_bin (fun a b => pt_cmpR (op_eqD (hr).units) a b (nomark _)) opm_eq (re_var (pv 0)) re_str) (rw_or (rt_bin (fun a b => pt_cmpR op_gt a b (nomark _)) opm_cmp (re_call (fun h => pe_callB call_len (by rfl) t.nm.len (by decide +kernel) h) cam_len (ra_cons (re_var (pv 0)) ra_nil)) re_int) (rw_or1 (rt_not (rt_tru (re_call (fun h => pe_callB (cr_all rfl) (by rfl) t.nm.all (by decide +kernel) h) cam_all (ra_cons (re_lc rfl sc_number_told.nd (ri_rd (re_var (pv 0))) (blkOk_by (own := [("sign", 2)]) (N := n_number_told) (sc := defScope (top 10)) (by decide +kernel)) (fun s H C cl fp => (pg_name (i := 2) sc_number_told.nd rfl (Or.inl rfl))) gok_name (fun s H C cl fp => rts_nil) (fun s H C cl fp => (re_bin (fun a b => pe_cmpR op_inA a b (by with_unfolding_all rfl)) opm_in (re_var (pv 2)) re_str))) ra_nil)))))))) (rss_one (rs_ret re_non)) rss_nil)
    (rss_cons (rs_if (RW.rt (rw_or (RW.rt (rw_and (rt_bin (fun a b => pt_cmpR op_gt a b (nomark _)) opm_cmp (re_call (fun h => pe_callB call_len (by rfl) t.nm.len (by decide +kernel) h) cam_len (ra_cons (re_var (pv 0)) ra_nil)) re_int) (rw_and1 (rt_bin (fun a b => pt_cmpR (op_eqD (hr).units) a b (nomark _)) opm_eq (re_ix (re_var (pv 0)) re_int (fun _ _ => rfl)) re_str)))) (rw_or1 (rt_bin (fun a b => pt_cmpR op_gt a b (nomark _)) opm_cmp (re_call (fun h => pe_callTy call_toInt (by rfl) t.nm.int (by decide +kernel) h) cam_toInt (ra_cons (re_var (pv 0)) ra_nil)) (re_var (pv 1)))))) (rss_one (rs_ret re_non)) rss_nil)
    (rss_one (rs_ret (re_call (fun h => pe_callTy call_toInt (by rfl) t.nm.int (by decide +kernel) h) cam_toInt (ra_cons (re_var (pv 0)) ra_nil))))))) (fun h => nomatch h)⟩
/-! ### pair_told -/
abbrev n_pair_told : List Str := ["word", "size", "told", "part"]
theorem sc_pair_told : FnScope n_pair_told ["word", "size"] (defScope (top 11)) := ⟨rfl, rfl, rfl, by decide +kernel, rfl, by decide +kernel, by decide +kernel⟩
def ms_pair_told : MS := (mSeq (mSet 2 (mLc (mItems (mM1 dSplit (mVar 0) (mC (.str "-")))) (fName 3) mYes (mCall f_number_told (mCons (mVar 3) (mCons (mBin dSub (mVar 1) (mC (.int 1))) mNil))) (([("part", 3)] : List (Str × Nat)).map (·.2))))
    (mSeq (mIf (mOrB (mTst (mBin dNe (mCall dLen (mCons (mVar 2) mNil)) (mC (.int 2)))) (mOrB (mTst (mBin (dInP false) (mC .non) (mVar 2))) (mTst (mBin dEq (mBin dIx (mVar 2) (mC (.int 0))) (mBin dIx (mVar 2) (mC (.int 1))))))) (mRet (mC .non)) mNext)
    (mRet (mTup (mCons (mCall dMinL (mCons (mVar 2) mNil)) (mCons (mCall dMaxL (mCons (mVar 2) mNil)) mNil))))))
def f_pair_told : FM := fnM 4 [.val, .val] ms_pair_told
theorem c_pair_told (t : Txt K mg) : Cal P w K mg base T "pair_told" 3 [.val, .val] false f_pair_told := by
  obtain ⟨f, fd, hm, F, hb⟩ := (t.d_pair_told).ex
  exact ⟨f, fd, _, hm, F.kp, hb, fn_ok F sc_pair_told rfl (by decide) (fun cdv A outer s z E hr => (rss_cons (rs_lcF (rs_setLc (i := 2) rfl sc_pair_told.nd rfl rfl (sw_true rfl rfl rfl (by decide +kernel)) (ri_rd (re_m1 (fun h1 h2 => pe_m1 PySem.F.slot_str_split PySem.F.type_str_split mt_split h1 h2) mt1_split (re_var (pv 0)) re_str)) (blkOk_by (own := [("part", 3)]) (N := n_pair_told) (sc := defScope (top 11)) (by decide +kernel)) (fun s H C cl fp => (pg_name (i := 3) sc_pair_told.nd rfl (Or.inl rfl))) gok_name (fun s H C cl fp => rts_nil) (fun s H C cl fp => (re_cal (c_number_told t) hr (by decide) LamX.takes0 rfl (ra_cons (re_var (pv 3)) (ra_cons (re_bin (fun a b => pe_op op_sub a b) opm_int0 (re_var (pv 1)) re_int) ra_nil))))))
    (rss_cons (rs_if (RW.rt (rw_or (rt_bin (fun a b => pt_cmpR (op_neD (hr).units) a b (nomark _)) opm_ne (re_call (fun h => pe_callB call_len (by rfl) t.nm.len (by decide +kernel) h) cam_len (ra_cons (re_var (pv 2)) ra_nil)) re_int) (rw_or (rt_bin (fun a b => pt_cmpR (op_inD (rm65 hr)) a b (by with_unfolding_all rfl)) opm_inP re_non (re_var (pv 2))) (rw_or1 (rt_bin (fun a b => pt_cmpR (op_eqD (hr).units) a b (nomark _)) opm_eq (re_ix (re_var (pv 2)) re_int (fun _ _ => rfl)) (re_ix (re_var (pv 2)) re_int (fun _ _ => rfl))))))) (rss_one (rs_ret re_non)) rss_nil)
    (rss_one (rs_ret (re_tup (ra_cons (re_call (fun h => pe_callB (cr_min rfl) (by rfl) t.nm.min (by decide +kernel) h) cam_minL (ra_cons (re_var (pv 2)) ra_nil)) (ra_cons (re_call (fun h => pe_callB (cr_max rfl) (by rfl) t.nm.max (by decide +kernel) h) cam_maxL (ra_cons (re_var (pv 2)) ra_nil)) ra_nil)))))))) (fun h => nomatch h)⟩
/-! ### item_told -/
abbrev n_item_told : List Str := ["kind", "word", "size", "is_right", "letter"]
theorem sc_item_told : FnScope n_item_told ["kind", "word", "size"] (defScope (top 12)) := ⟨rfl, rfl, rfl, by decide +kernel, rfl, by decide +kernel, by decide +kernel⟩
def ms_item_told : MS := (mSeq (mIf (mTst (mBin (dIn false) (mVar 0) (mTup (mCons (mC (.str "weight")) (mCons (mC (.str "run")) mNil))))) (mRet (mCall f_number_told (mCons (mVar 1) (mCons (mVar 2) mNil)))) mNext)
    (mSeq (mIf (mTst (mBin dEq (mVar 0) (mC (.str "near")))) (mRet (mCall f_pair_told (mCons (mVar 1) (mCons (mVar 2) mNil)))) mNext)
    (mSeq (mIf (mTst (mBin dEq (mVar 0) (mC (.str "within")))) (mRet (mCall f_number_told (mCons (mVar 1) (mCons (mBin dSub (mVar 2) (mC (.int 1))) mNil)))) mNext)
    (mSeq (mSet 3 (mCall dAll (mCons (mLc (mItems (mVar 1)) (fName 4) mYes (mAndV (mBin (dIn false) (mVar 4) (mC (.str "XYZ"))) (mBin dEq (mM1 dCount (mVar 1) (mVar 4)) (mC (.int 1)))) (([("letter", 4)] : List (Str × Nat)).map (·.2))) mNil)))
    (mRet (mIfE (mAndB (mTru (mVar 3)) (mTst (mBin dNe (mVar 1) (mC (.str ""))))) (mVar 1) (mC .non)))))))
def f_item_told : FM := fnM 5 [.val, .val, .val] ms_item_told
theorem c_item_told (t : Txt K mg) : Cal P w K mg base T "item_told" 4 [.val, .val, .val] false f_item_told := by
  obtain ⟨f, fd, hm, F, hb⟩ := (t.d_item_told).ex
  exact ⟨f, fd, _, hm, F.kp, hb, fn_ok F sc_item_told rfl (by decide) (fun cdv A outer s z E hr => (rss_cons (rs_if (rt_bin (fun a b => pt_cmpR op_inA a b (by with_unfolding_all rfl)) opm_in (re_var (pv 0)) (re_tup (ra_cons re_str (ra_cons re_str ra_nil)))) (rss_one (rs_ret (re_cal (c_number_told t) hr (by decide) (takes_of rfl rfl rfl rfl) rfl (ra_cons (re_var (pv 1)) (ra_cons (re_var (pv 2)) ra_nil))))) rss_nil)
    (rss_cons (rs_if (rt_bin (fun a b => pt_cmpR (op_eqD (hr).units) a b (nomark _)) opm_eq (re_var (pv 0)) re_str) (rss_one (rs_ret (re_cal (c_pair_told t) hr (by decide) (takes_of rfl rfl rfl rfl) rfl (ra_cons (re_var (pv 1)) (ra_cons (re_var (pv 2)) ra_nil))))) rss_nil)
    (rss_cons (rs_if (rt_bin (fun a b => pt_cmpR (op_eqD (hr).units) a b (nomark _)) opm_eq (re_var (pv 0)) re_str) (rss_one (rs_ret (re_cal (c_number_told t) hr (by decide) (takes_of rfl rfl rfl rfl) rfl (ra_cons (re_var (pv 1)) (ra_cons (re_bin (fun a b => pe_op op_sub a b) opm_int0 (re_var (pv 2)) re_int) ra_nil))))) rss_nil)
    (rss_cons (rs_set (fun h => ps_set (i := 3) sc_item_told.nd rfl (Or.inl rfl) h) (re_call (fun h => pe_callB (cr_all rfl) (by rfl) t.nm.all (by decide +kernel) h) cam_all (ra_cons (re_lc rfl sc_item_told.nd (ri_rd (re_var (pv 1))) (blkOk_by (own := [("letter", 4)]) (N := n_item_told) (sc := defScope (top 12)) (by decide +kernel)) (fun s H C cl fp => (pg_name (i := 4) sc_item_told.nd rfl (Or.inl rfl))) gok_name (fun s H C cl fp => rts_nil) (fun s H C cl fp => (re_and (re_bin (fun a b => pe_cmpR op_inA a b (by with_unfolding_all rfl)) opm_in (re_var (pv 4)) re_str) (re_one (re_bin (fun a b => pe_cmpR (op_eqD (hr).units) a b (nomark _)) opm_eq (re_m1 (fun h1 h2 => pe_m1 PySem.F.slot_str_count PySem.F.type_str_count mt_count h1 h2) mt1_count (re_var (pv 1)) (re_var (pv 4))) re_int))))) ra_nil)))
    (rss_one (rs_ret (re_if (RW.rt (rw_and (rt_tru (re_var (pv 3))) (rw_and1 (rt_bin (fun a b => pt_cmpR (op_neD (hr).units) a b (nomark _)) opm_ne (re_var (pv 1)) re_str)))) (re_var (pv 1)) re_non)))))))) (fun h => nomatch h)⟩
/-! ### rule_told -/
abbrev n_rule_told : List Str := ["words", "size", "line", "kind", "items", "at", "word", "item"]
theorem sc_rule_told : FnScope n_rule_told ["words", "size", "line"] (defScope (top 13)) := ⟨rfl, rfl, rfl, by decide +kernel, rfl, by decide +kernel, by decide +kernel⟩
def b_rule_told_0 : MS := (mSeq (mSet 7 (mCall f_item_told (mCons (mVar 3) (mCons (mVar 6) (mCons (mVar 1) mNil)))))
    (mSeq (mIf (mOrB (mTst (mBin (dIsN false) (mVar 7) (mC .non))) (mOrB (mTst (mBin (dInP false) (mVar 7) (mVarR 4))) (mAndB (mTst (mBin dGt (mVar 5) (mC (.int 0)))) (mTst (mBin (dIn false) (mVar 3) (mTup (mCons (mC (.str "weight")) (mCons (mC (.str "run")) (mCons (mC (.str "letters")) mNil))))))))) (mRaise "BadText" ["line", "column"] (mCons (mVar 2) (mCons (mBin dAdd (mVar 5) (mC (.int 2))) mNil))) mNext)
    (mOwn 4 oApp (mCons (mVar 7) mNil))))
def ms_rule_told : MS := (mSeq (mIf (mTst (mBin (dIn true) (mBin dIx (mVar 0) (mC (.int 0))) (mC (.tup [(.str "weight"), (.str "letters"), (.str "near"), (.str "within"), (.str "run")])))) (mRaise "BadText" ["line", "column"] (mCons (mVar 2) (mCons (mC (.int 1)) mNil))) mNext)
    (mSeq (mParK 3 4 .val .own (mBin dIx (mVar 0) (mC (.int 0))) (mLst mNil))
    (mSeq (mFor (mItA dEnum (mCons (mSl dSl (mVar 0) (mSoO (mC (.int 1))) mNoO) mNil)) (fTup 2 (fCons (fName 5) (fCons (fName 6) fNil))) b_rule_told_0)
    (mSeq (mIf (mAndB (mTst (mBin dEq (mCall dLen (mCons (mVarR 4) mNil)) (mC (.int 0)))) (mTst (mBin (dIn false) (mVar 3) (mTup (mCons (mC (.str "weight")) (mCons (mC (.str "run")) (mCons (mC (.str "letters")) mNil))))))) (mRaise "BadText" ["line", "column"] (mCons (mVar 2) (mCons (mC (.int 2)) mNil))) mNext)
    (mRet (mTup (mCons (mVar 3) (mCons (mCall dToTup (mCons (mVarR 4) mNil)) mNil))))))))
def f_rule_told : FM := fnM 8 [.val, .val, .val] ms_rule_told
theorem c_rule_told (t : Txt K mg) : Cal P w K mg base T "rule_told" 5 [.val, .val, .val] false f_rule_told := by
  obtain ⟨f, fd, hm, F, hb⟩ := (t.d_rule_told).ex
  exact ⟨f, fd, _, hm, F.kp, hb, fn_ok F sc_rule_told rfl (by decide) (fun cdv A outer s z E hr => (rss_cons (rs_if (rt_bin (fun a b => pt_cmpR op_niA a b (by with_unfolding_all rfl)) opm_in (re_ix (re_var (pv 0)) re_int (fun _ _ => rfl)) (re_const rfl t.v_KINDS)) (rss_one (rs_raise rfl (takes_of rfl rfl rfl rfl) (x_BadText t) (hr.mono (by decide)) rfl (passes_call (takes_of rfl rfl rfl rfl) (fun _ _ _ _ z => z.elim)) (ra_cons (re_var (pv 2)) (ra_cons re_int ra_nil)))) rss_nil)
    (rss_cons (rs_parK (i := 3) (l := 4) (fun h => ps_par rfl sc_rule_told.nd rfl rfl (by decide) rfl rfl h rfl) (re_ix (re_var (pv 0)) re_int (fun _ _ => rfl)) (re_lst ra_nil))
    (rss_cons (rs_for (passes_of rfl) rfl (ri_enumA (fun h => pi_enumA rfl t.nm.enum h) (ra_cons (re_sl (re_var (pv 0)) (ro_some re_int) ro_none) ra_nil)) (pg_tup rfl (pgs_cons (pg_name (i := 5) sc_rule_told.nd rfl (Or.inl rfl)) (pgs_cons (pg_name (i := 6) sc_rule_told.nd rfl (Or.inl rfl)) pgs_nil))) (gok_tup (gsok_cons gok_name (gsok_cons gok_name gsok_nil))) (rss_cons (rs_set (fun h => ps_set (i := 7) sc_rule_told.nd rfl (Or.inl rfl) h) (re_cal (c_item_told t) hr (by decide) (takes_of rfl rfl rfl rfl) rfl (ra_cons (re_var (pv 3)) (ra_cons (re_var (pv 6)) (ra_cons (re_var (pv 1)) ra_nil)))))
    (rss_cons (rs_if (RW.rt (rw_or (rt_bin (fun a b => pt_cmpR op_isA a b (nomark _)) opm_is (re_var (pv 7)) re_non) (rw_or (rt_bin (fun a b => pt_cmpR (op_inD (rm65 hr)) a b (by with_unfolding_all rfl)) opm_inP (re_var (pv 7)) (re_varR (pv 4))) (rw_or1 (RW.rt (rw_and (rt_bin (fun a b => pt_cmpR op_gt a b (nomark _)) opm_cmp (re_var (pv 5)) re_int) (rw_and1 (rt_bin (fun a b => pt_cmpR op_inA a b (by with_unfolding_all rfl)) opm_in (re_var (pv 3)) (re_tup (ra_cons re_str (ra_cons re_str (ra_cons re_str ra_nil)))))))))))) (rss_one (rs_raise rfl (takes_of rfl rfl rfl rfl) (x_BadText t) (hr.mono (by decide)) rfl (passes_call (takes_of rfl rfl rfl rfl) (fun _ _ _ _ z => z.elim)) (ra_cons (re_var (pv 2)) (ra_cons (re_bin (fun a b => pe_op op_addA a b) opm_add (re_var (pv 5)) re_int) ra_nil)))) rss_nil)
    (rss_one (rs_own (fun h => ps_expr (pe_bm PySem.F.plainAttrs_list PySem.F.slot_list_append PySem.F.type_list_append mt_append (pv 4) h)) own_app (ra_cons (re_var (pv 7)) ra_nil))))))
    (rss_cons (rs_if (RW.rt (rw_and (rt_bin (fun a b => pt_cmpR (op_eqD (hr).units) a b (nomark _)) opm_eq (re_call (fun h => pe_callB call_len (by rfl) t.nm.len (by decide +kernel) h) cam_len (ra_cons (re_varR (pv 4)) ra_nil)) re_int) (rw_and1 (rt_bin (fun a b => pt_cmpR op_inA a b (by with_unfolding_all rfl)) opm_in (re_var (pv 3)) (re_tup (ra_cons re_str (ra_cons re_str (ra_cons re_str ra_nil)))))))) (rss_one (rs_raise rfl (takes_of rfl rfl rfl rfl) (x_BadText t) (hr.mono (by decide)) rfl (passes_call (takes_of rfl rfl rfl rfl) (fun _ _ _ _ z => z.elim)) (ra_cons (re_var (pv 2)) (ra_cons re_int ra_nil)))) rss_nil)
    (rss_one (rs_ret (re_tup (ra_cons (re_var (pv 3)) (ra_cons (re_call (fun h => pe_callTy call_tuple_of (by rfl) t.nm.tup (by decide +kernel) h) cam_toTup (ra_cons (re_varR (pv 4)) ra_nil)) ra_nil)))))))))) (fun h => nomatch h)⟩
/-! ### Sort.__init__ -/
abbrev n_Sort_ini : List Str := ["self", "size", "text", "rules", "at", "line", "words", "word"]
theorem sc_Sort_ini : FnScope n_Sort_ini ["self", "size", "text"] (defScope (inClass (top 14) 0)) := ⟨rfl, rfl, rfl, by decide +kernel, rfl, by decide +kernel, by decide +kernel⟩
def b_Sort_ini_0 : MS := (mSeq (mSet 6 (mLc (mItems (mM1 dSplit (mVar 5) (mC (.str " ")))) (fName 7) (mTst (mBin dNe (mVar 7) (mC (.str "")))) (mVar 7) (([("word", 7)] : List (Str × Nat)).map (·.2))))
    (mIf (mTst (mBin dGt (mCall dLen (mCons (mVar 6) mNil)) (mC (.int 0)))) (mOwn 3 oApp (mCons (mCall f_rule_told (mCons (mVar 6) (mCons (mVar 1) (mCons (mBin dAdd (mVar 4) (mC (.int 1))) mNil)))) mNil)) mNext))
def ms_Sort_ini : MS := (mSeq (mIf (mOrB (mNotB (mTru (mCall f_is_whole (mCons (mVar 1) mNil)))) (mNotB (mTst (mChain dLe dLe (mC (.int 1)) (mVar 1) (mC (.int 24)))))) (mRaise "BadNumber" ["what", "number"] (mCons (mC (.str "size")) (mCons (mVar 1) mNil))) mNext)
    (mSeq (mIf (mNotB (mTru (mCall (dIsiC (clsT clsL) (subT subL)) (mCons (mVar 2) (mCons (mC (.ty "str")) mNil))))) (mRaise "BadText" ["line", "column"] (mCons (mC (.int 0)) (mCons (mC (.int 0)) mNil))) mNext)
    (mSeq (mSetO 3 (mLst mNil))
    (mSeq (mFor (mItA dEnum (mCons (mM1 dSplit (mVar 2) (mC (.str "\n"))) mNil)) (fTup 2 (fCons (fName 4) (fCons (fName 5) fNil))) b_Sort_ini_0)
    (mSeq (mPut fldT "size" (mVar 1))
    (mSeq (mPut fldT "text" (mVar 2))
    (mPut fldT "rules" (mCall dToTup (mCons (mVarR 3) mNil)))))))))
def ini_Sort : IM := iniM 7 [.val, .val] "Sort" ms_Sort_ini
theorem c_Sort (t : Txt K mg) : CalC P w K mg base T "Sort" 6 [.val, .val] ini_Sort := by
  obtain ⟨C, f, fd, hm, Mm, F, hb⟩ := (t.k_Sort).ex
  exact ⟨C, f, fd, _, hm, Mm, hb, ini_ok F sc_Sort_ini rfl (by decide) (fun cdv A outer s H z E hr => (rss_cons (rs_if (RW.rt (rw_or (rt_not (rt_tru (re_cal (c_is_whole t) hr (by decide) (takes_of rfl rfl rfl rfl) rfl (ra_cons (re_var (pv 1)) ra_nil)))) (rw_or1 (rt_not (rt_chain (fun a b c => pt_chain op_le op_le a b c) opm_cmp opm_cmp re_int (re_var (pv 1)) (re_const rfl t.v_MOST_SIZE)))))) (rss_one (rs_raise rfl (takes_of rfl rfl rfl rfl) (x_BadNumber t) (hr.mono (by decide)) rfl (passes_call (takes_of rfl rfl rfl rfl) (fun _ _ _ _ z => z.elim)) (ra_cons re_str (ra_cons (re_var (pv 1)) ra_nil)))) rss_nil)
    (rss_cons (rs_if (rt_not (rt_tru (re_call (fun h => pe_callB call_isi (by rfl) t.nm.isi (by decide +kernel) h) (cam_isiC t.isi) (ra_cons (re_var (pv 2)) (ra_cons (re_ty rfl t.nm.str (by decide +kernel)) ra_nil))))) (rss_one (rs_raise rfl (takes_of rfl rfl rfl rfl) (x_BadText t) (hr.mono (by decide)) rfl (passes_call (takes_of rfl rfl rfl rfl) (fun _ _ _ _ z => z.elim)) (ra_cons re_int (ra_cons re_int ra_nil)))) rss_nil)
    (rss_cons (rs_setO (fun h => ps_set (i := 3) sc_Sort_ini.nd rfl (Or.inl rfl) h) (re_lst ra_nil))
    (rss_cons (rs_for (passes_of rfl) rfl (ri_enumA (fun h => pi_enumA rfl t.nm.enum h) (ra_cons (RE.frz (re_m1 (fun h1 h2 => pe_m1 PySem.F.slot_str_split PySem.F.type_str_split mt_split h1 h2) mt1_split (re_var (pv 2)) re_str)) ra_nil)) (pg_tup rfl (pgs_cons (pg_name (i := 4) sc_Sort_ini.nd rfl (Or.inl rfl)) (pgs_cons (pg_name (i := 5) sc_Sort_ini.nd rfl (Or.inl rfl)) pgs_nil))) (gok_tup (gsok_cons gok_name (gsok_cons gok_name gsok_nil))) (rss_cons (rs_lcF (rs_setLc (i := 6) rfl sc_Sort_ini.nd rfl rfl (sw_true rfl rfl rfl (by decide +kernel)) (ri_rd (re_m1 (fun h1 h2 => pe_m1 PySem.F.slot_str_split PySem.F.type_str_split mt_split h1 h2) mt1_split (re_var (pv 5)) re_str)) (blkOk_by (own := [("word", 7)]) (N := n_Sort_ini) (sc := defScope (inClass (top 14) 0)) (by decide +kernel)) (fun s H C cl fp => (pg_name (i := 7) sc_Sort_ini.nd rfl (Or.inl rfl))) gok_name (fun s H C cl fp => rts_one (rt_bin (fun a b => pt_cmpR (op_neD (hr).units) a b (nomark _)) opm_ne (re_var (pv 7)) re_str)) (fun s H C cl fp => (re_var (pv 7)))))
    (rss_one (rs_if (rt_bin (fun a b => pt_cmpR op_gt a b (nomark _)) opm_cmp (re_call (fun h => pe_callB call_len (by rfl) t.nm.len (by decide +kernel) h) cam_len (ra_cons (re_var (pv 6)) ra_nil)) re_int) (rss_one (rs_own (fun h => ps_expr (pe_bm PySem.F.plainAttrs_list PySem.F.slot_list_append PySem.F.type_list_append mt_append (pv 3) h)) own_app (ra_cons (re_cal (c_rule_told t) hr (by decide) (takes_of rfl rfl rfl rfl) rfl (ra_cons (re_var (pv 6)) (ra_cons (re_var (pv 1)) (ra_cons (re_bin (fun a b => pe_op op_addA a b) opm_add (re_var (pv 4)) re_int) ra_nil)))) ra_nil))) rss_nil))))
    (rss_cons (rs_put t.fld (pv 0) (re_var (pv 1)))
    (rss_cons (rs_put t.fld (pv 0) (re_var (pv 2)))
    (rss_one (rs_put t.fld (pv 0) (re_call (fun h => pe_callTy call_tuple_of (by rfl) t.nm.tup (by decide +kernel) h) cam_toTup (ra_cons (re_varR (pv 3)) ra_nil)))))))))))⟩
/-! ### _law_pick -/
abbrev n_law_pick : List Str := ["_law_pen_here", "_law_some"]
theorem sc_law_pick : FnScope n_law_pick ["_law_pen_here", "_law_some"] (defScope (top 18)) := ⟨rfl, rfl, rfl, by decide +kernel, rfl, by decide +kernel, by decide +kernel⟩
def ms_law_pick : MS := (mRet (mBin dIx (mVar 1) (mCall drawM (mCons (mVar 0) (mCons (mCall dLen (mCons (mVar 1) mNil)) mNil)))))
def f_law_pick : FM := fnM 2 [.val, .val] ms_law_pick
theorem c_law_pick (t : Txt K mg) : Cal P w K mg base T "_law_pick" 2 [.val, .val] false f_law_pick := by
  obtain ⟨f, fd, hm, F, hb⟩ := (t.d_law_pick).ex
  exact ⟨f, fd, _, hm, F.kp, hb, fn_ok F sc_law_pick rfl (by decide) (fun cdv A outer s z E hr => (rss_one (rs_ret (re_ix (re_var (pv 1)) (re_cal (c_law_draw t) hr (by decide) (takes_of rfl rfl rfl rfl) rfl (ra_cons (re_var (pv 0)) (ra_cons (re_call (fun h => pe_callB call_len (by rfl) t.nm.len (by decide +kernel) h) cam_len (ra_cons (re_var (pv 1)) ra_nil)) ra_nil))) (fun _ _ => rfl))))) (fun h => nomatch h)⟩
/-! ### _law_shuffled -/
abbrev n_law_shuffled : List Str := ["_law_pen_here", "_law_some", "_law_rest", "_law_found", "_law_lap"]
theorem sc_law_shuffled : FnScope n_law_shuffled ["_law_pen_here", "_law_some"] (defScope (top 19)) := ⟨rfl, rfl, rfl, by decide +kernel, rfl, by decide +kernel, by decide +kernel⟩
def b_law_shuffled_0 : MS := (mPopApp 3 2 (mCall drawM (mCons (mVar 0) (mCons (mCall dLen (mCons (mVarR 2) mNil)) mNil))))
def ms_law_shuffled : MS := (mSeq (mParK 2 3 .own .own (mCall dToListS (mCons (mVar 1) mNil)) (mLst mNil))
    (mSeq (mFor (mItA dRng1 (mCons (mCall dLen (mCons (mVar 1) mNil)) mNil)) (fName 4) b_law_shuffled_0)
    (mFrz 3 (mRet (mVar 3)))))
def f_law_shuffled : FM := fnM 5 [.val, .val] ms_law_shuffled
theorem c_law_shuffled (t : Txt K mg) : Cal P w K mg base T "_law_shuffled" 2 [.val, .val] false f_law_shuffled := by
  obtain ⟨f, fd, hm, F, hb⟩ := (t.d_law_shuffled).ex
  exact ⟨f, fd, _, hm, F.kp, hb, fn_ok F sc_law_shuffled rfl (by decide) (fun cdv A outer s z E hr => (rss_cons (rs_parK (i := 2) (l := 3) (fun h => ps_par rfl sc_law_shuffled.nd rfl rfl (by decide) rfl rfl h rfl) (re_call (fun h => pe_callTy (call_listS rfl) (by rfl) t.nm.lst (by decide +kernel) h) cam_listS (ra_cons (re_var (pv 1)) ra_nil)) (re_lst ra_nil))
    (rss_cons (rs_for (passes_of rfl) rfl (ri_range1 (fun h => pi_range1 rfl t.nm.rng h) (ra_cons (re_call (fun h => pe_callB call_len (by rfl) t.nm.len (by decide +kernel) h) cam_len (ra_cons (re_var (pv 1)) ra_nil)) ra_nil)) (pg_name (i := 4) sc_law_shuffled.nd rfl (Or.inl rfl)) gok_name (rss_one (rs_popApp (i := 3) (kk := 2) (fun h => ps_expr (pe_bm PySem.F.plainAttrs_list PySem.F.slot_list_append PySem.F.type_list_append mt_append (pv 3) (pa_cons (pe_bm PySem.F.plainAttrs_list PySem.F.slot_list_pop PySem.F.type_list_pop mt_popAt (pv 2) (pa_cons h pa_nil)) pa_nil))) (by decide) (re_cal (c_law_draw t) hr (by decide) (takes_of rfl rfl rfl rfl) rfl (ra_cons (re_var (pv 0)) (ra_cons (re_call (fun h => pe_callB call_len (by rfl) t.nm.len (by decide +kernel) h) cam_len (ra_cons (re_varR (pv 2)) ra_nil)) ra_nil))))))
    (rss_one (rs_frz 3 (rs_ret (re_var (pv 3)))))))) (fun h => nomatch h)⟩
/-! ### _law_drawn_rule -/
abbrev n_law_drawn_rule : List Str := ["_law_pen_here", "_law_size", "_law_kind", "_law_places", "_law_pairs", "_law_lap", "_law_pair"]
theorem sc_law_drawn_rule : FnScope n_law_drawn_rule ["_law_pen_here", "_law_size"] (defScope (top 20)) := ⟨rfl, rfl, rfl, by decide +kernel, rfl, by decide +kernel, by decide +kernel⟩
def b_law_drawn_rule_0 : MS := (mSeq (mSet 6 (mSl dSl (mCall f_law_shuffled (mCons (mVar 0) (mCons (mVar 3) mNil))) mNoO (mSoO (mC (.int 2)))))
    (mIf (mAndB (mTst (mBin dEq (mCall dLen (mCons (mVar 6) mNil)) (mC (.int 2)))) (mAndB (mTst (mBin (dInP true) (mVar 6) (mVarR 4))) (mTst (mBin (dInP true) (mUn dRev (mVar 6)) (mVarR 4))))) (mOwn 4 oApp (mCons (mVar 6) mNil)) mNext))
def ms_law_drawn_rule : MS := (mSeq (mSet 2 (mCall f_law_pick (mCons (mVar 0) (mCons (mLst (mCons (mC (.str "weight")) (mCons (mC (.str "weight")) (mCons (mC (.str "letters")) (mCons (mC (.str "near")) (mCons (mC (.str "within")) (mCons (mC (.str "run")) mNil))))))) mNil))))
    (mSeq (mIf (mTst (mBin (dIn false) (mVar 2) (mLst (mCons (mC (.str "weight")) (mCons (mC (.str "run")) mNil))))) (mRet (mTup (mCons (mVar 2) (mCons (mLst (mCons (mCall drawM (mCons (mVar 0) (mCons (mBin dAdd (mCall dMin2 (mCons (mVar 1) (mCons (mC (.int 4)) mNil))) (mC (.int 1))) mNil))) mNil)) mNil)))) mNext)
    (mSeq (mIf (mTst (mBin dEq (mVar 2) (mC (.str "letters")))) (mRet (mTup (mCons (mVar 2) (mCons (mLst (mCons (mM1 dJoin (mC (.str "")) (mSl dSl (mCall f_law_shuffled (mCons (mVar 0) (mCons (mCall dToListS (mCons (mC (.str "XYZ")) mNil)) mNil))) mNoO (mSoO (mBin dAdd (mC (.int 1)) (mCall drawM (mCons (mVar 0) (mCons (mC (.int 3)) mNil))))))) mNil)) mNil)))) mNext)
    (mSeq (mSet 3 (mLRng1 (mVar 1)))
    (mSeq (mIf (mTst (mBin dEq (mVar 2) (mC (.str "within")))) (mRet (mTup (mCons (mVar 2) (mCons (mSl dSl (mCall f_law_shuffled (mCons (mVar 0) (mCons (mVar 3) mNil))) mNoO (mSoO (mCall drawM (mCons (mVar 0) (mCons (mBin dAdd (mVar 1) (mC (.int 1))) mNil))))) mNil)))) mNext)
    (mSeq (mSetO 4 (mLst mNil))
    (mSeq (mFor (mItA dRng1 (mCons (mCall drawM (mCons (mVar 0) (mCons (mC (.int 5)) mNil))) mNil)) (fName 5) b_law_drawn_rule_0)
    (mFrz 4 (mRet (mTup (mCons (mVar 2) (mCons (mVar 4) mNil))))))))))))
def f_law_drawn_rule : FM := fnM 7 [.val, .val] ms_law_drawn_rule
theorem c_law_drawn_rule (t : Txt K mg) : Cal P w K mg base T "_law_drawn_rule" 3 [.val, .val] false f_law_drawn_rule := by
  obtain ⟨f, fd, hm, F, hb⟩ := (t.d_law_drawn_rule).ex
  exact ⟨f, fd, _, hm, F.kp, hb, fn_ok F sc_law_drawn_rule rfl (by decide) (fun cdv A outer s z E hr => (rss_cons (rs_set (fun h => ps_set (i := 2) sc_law_drawn_rule.nd rfl (Or.inl rfl) h) (re_cal (c_law_pick t) hr (by decide) (takes_of rfl rfl rfl rfl) rfl (ra_cons (re_var (pv 0)) (ra_cons (RE.frz (re_lst (ra_cons re_str (ra_cons re_str (ra_cons re_str (ra_cons re_str (ra_cons re_str (ra_cons re_str ra_nil)))))))) ra_nil))))
    (rss_cons (rs_if (rt_bin (fun a b => pt_cmpR op_inA a b (by with_unfolding_all rfl)) opm_in (re_var (pv 2)) (re_lst (ra_cons re_str (ra_cons re_str ra_nil)))) (rss_one (rs_ret (re_tup (ra_cons (re_var (pv 2)) (ra_cons (RE.frz (re_lst (ra_cons (re_cal (c_law_draw t) hr (by decide) (takes_of rfl rfl rfl rfl) rfl (ra_cons (re_var (pv 0)) (ra_cons (re_bin (fun a b => pe_op op_addA a b) opm_add (re_call (fun h => pe_callB (call_min2 rfl) (by rfl) t.nm.min (by decide +kernel) h) cam_min2 (ra_cons (re_var (pv 1)) (ra_cons re_int ra_nil))) re_int) ra_nil))) ra_nil))) ra_nil))))) rss_nil)
    (rss_cons (rs_if (rt_bin (fun a b => pt_cmpR (op_eqD (hr).units) a b (nomark _)) opm_eq (re_var (pv 2)) re_str) (rss_one (rs_ret (re_tup (ra_cons (re_var (pv 2)) (ra_cons (RE.frz (re_lst (ra_cons (re_m1 (fun h1 h2 => pe_m1 PySem.F.slot_str_join PySem.F.type_str_join mt_join h1 h2) mt1_join re_str (re_sl (re_cal (c_law_shuffled t) hr (by decide) (takes_of rfl rfl rfl rfl) rfl (ra_cons (re_var (pv 0)) (ra_cons (RE.frz (re_call (fun h => pe_callTy (call_listS rfl) (by rfl) t.nm.lst (by decide +kernel) h) cam_listS (ra_cons re_str ra_nil))) ra_nil))) ro_none (ro_some (re_bin (fun a b => pe_op op_addA a b) opm_add re_int (re_cal (c_law_draw t) hr (by decide) (takes_of rfl rfl rfl rfl) rfl (ra_cons (re_var (pv 0)) (ra_cons re_int ra_nil))))))) ra_nil))) ra_nil))))) rss_nil)
    (rss_cons (rs_set (fun h => ps_set (i := 3) sc_law_drawn_rule.nd rfl (Or.inl rfl) h) (RE.frz (re_lrng1 rfl (by rfl) t.nm.lst (by rfl) t.nm.rng (re_var (pv 1)))))
    (rss_cons (rs_if (rt_bin (fun a b => pt_cmpR (op_eqD (hr).units) a b (nomark _)) opm_eq (re_var (pv 2)) re_str) (rss_one (rs_ret (re_tup (ra_cons (re_var (pv 2)) (ra_cons (re_sl (re_cal (c_law_shuffled t) hr (by decide) (takes_of rfl rfl rfl rfl) rfl (ra_cons (re_var (pv 0)) (ra_cons (re_var (pv 3)) ra_nil))) ro_none (ro_some (re_cal (c_law_draw t) hr (by decide) (takes_of rfl rfl rfl rfl) rfl (ra_cons (re_var (pv 0)) (ra_cons (re_bin (fun a b => pe_op op_addA a b) opm_add (re_var (pv 1)) re_int) ra_nil))))) ra_nil))))) rss_nil)
    (rss_cons (rs_setO (fun h => ps_set (i := 4) sc_law_drawn_rule.nd rfl (Or.inl rfl) h) (re_lst ra_nil))
    (rss_cons (rs_for (passes_of rfl) rfl (ri_range1 (fun h => pi_range1 rfl t.nm.rng h) (ra_cons (re_cal (c_law_draw t) hr (by decide) (takes_of rfl rfl rfl rfl) rfl (ra_cons (re_var (pv 0)) (ra_cons re_int ra_nil))) ra_nil)) (pg_name (i := 5) sc_law_drawn_rule.nd rfl (Or.inl rfl)) gok_name (rss_cons (rs_set (fun h => ps_set (i := 6) sc_law_drawn_rule.nd rfl (Or.inl rfl) h) (re_sl (re_cal (c_law_shuffled t) hr (by decide) (takes_of rfl rfl rfl rfl) rfl (ra_cons (re_var (pv 0)) (ra_cons (re_var (pv 3)) ra_nil))) ro_none (ro_some re_int)))
    (rss_one (rs_if (RW.rt (rw_and (rt_bin (fun a b => pt_cmpR (op_eqD (hr).units) a b (nomark _)) opm_eq (re_call (fun h => pe_callB call_len (by rfl) t.nm.len (by decide +kernel) h) cam_len (ra_cons (re_var (pv 6)) ra_nil)) re_int) (rw_and (rt_bin (fun a b => pt_cmpR (op_notInD (rm65 hr)) a b (by with_unfolding_all rfl)) opm_niP (re_var (pv 6)) (re_varR (pv 4))) (rw_and1 (rt_bin (fun a b => pt_cmpR (op_notInD (rm65 hr)) a b (by with_unfolding_all rfl)) opm_niP (re_rev (re_var (pv 6))) (re_varR (pv 4))))))) (rss_one (rs_own (fun h => ps_expr (pe_bm PySem.F.plainAttrs_list PySem.F.slot_list_append PySem.F.type_list_append mt_append (pv 4) h)) own_app (ra_cons (re_var (pv 6)) ra_nil))) rss_nil))))
    (rss_one (rs_frz 4 (rs_ret (re_tup (ra_cons (re_var (pv 2)) (ra_cons (re_var (pv 4)) ra_nil)))))))))))))) (fun h => nomatch h)⟩
/-! ### _law_item_words -/
abbrev n_law_item_words : List Str := ["_law_rule", "_law_pair", "_law_item"]
theorem sc_law_item_words : FnScope n_law_item_words ["_law_rule"] (defScope (top 21)) := ⟨rfl, rfl, rfl, by decide +kernel, rfl, by decide +kernel, by decide +kernel⟩
def ms_law_item_words : MS := (mSeq (mIf (mTst (mBin dEq (mBin dIx (mVar 0) (mC (.int 0))) (mC (.str "near")))) (mRet (mLc (mItems (mBin dIx (mVar 0) (mC (.int 1)))) (fName 1) mYes (mBin dAdd (mBin dAdd (mCall dToStrA (mCons (mBin dIx (mVar 1) (mC (.int 0))) mNil)) (mC (.str "-"))) (mCall dToStrA (mCons (mBin dIx (mVar 1) (mC (.int 1))) mNil))) (([("_law_pair", 1)] : List (Str × Nat)).map (·.2)))) mNext)
    (mRet (mLc (mItems (mBin dIx (mVar 0) (mC (.int 1)))) (fName 2) mYes (mCall dToStrA (mCons (mVar 2) mNil)) (([("_law_item", 2)] : List (Str × Nat)).map (·.2)))))
def f_law_item_words : FM := fnM 3 [.val] ms_law_item_words
theorem c_law_item_words (t : Txt K mg) : Cal P w K mg base T "_law_item_words" 2 [.val] false f_law_item_words := by
  obtain ⟨f, fd, hm, F, hb⟩ := (t.d_law_item_words).ex
  exact ⟨f, fd, _, hm, F.kp, hb, fn_ok F sc_law_item_words rfl (by decide) (fun cdv A outer s z E hr => (rss_cons (rs_if (rt_bin (fun a b => pt_cmpR (op_eqD (hr).units) a b (nomark _)) opm_eq (re_ix (re_var (pv 0)) re_int (fun _ _ => rfl)) re_str) (rss_one (rs_ret (RE.frz (re_lc rfl sc_law_item_words.nd (ri_rd (re_ix (re_var (pv 0)) re_int (fun _ _ => rfl))) (blkOk_by (own := [("_law_pair", 1)]) (N := n_law_item_words) (sc := defScope (top 21)) (by decide +kernel)) (fun s H C cl fp => (pg_name (i := 1) sc_law_item_words.nd rfl (Or.inl rfl))) gok_name (fun s H C cl fp => rts_nil) (fun s H C cl fp => (re_bin (fun a b => pe_op op_addA a b) opm_add (re_bin (fun a b => pe_op op_addA a b) opm_add (re_call (fun h => pe_callTy call_strA (by rfl) t.nm.str (by decide +kernel) h) cam_toStrA (ra_cons (re_ix (re_var (pv 1)) re_int (fun _ _ => rfl)) ra_nil)) re_str) (re_call (fun h => pe_callTy call_strA (by rfl) t.nm.str (by decide +kernel) h) cam_toStrA (ra_cons (re_ix (re_var (pv 1)) re_int (fun _ _ => rfl)) ra_nil)))))))) rss_nil)
    (rss_one (rs_ret (RE.frz (re_lc rfl sc_law_item_words.nd (ri_rd (re_ix (re_var (pv 0)) re_int (fun _ _ => rfl))) (blkOk_by (own := [("_law_item", 2)]) (N := n_law_item_words) (sc := defScope (top 21)) (by decide +kernel)) (fun s H C cl fp => (pg_name (i := 2) sc_law_item_words.nd rfl (Or.inl rfl))) gok_name (fun s H C cl fp => rts_nil) (fun s H C cl fp => (re_call (fun h => pe_callTy call_strA (by rfl) t.nm.str (by decide +kernel) h) cam_toStrA (ra_cons (re_var (pv 2)) ra_nil))))))))) (fun h => nomatch h)⟩
/-! ### _law_sort_text -/
abbrev n_law_sort_text : List Str := ["_law_pen_here", "_law_rules", "_law_lines", "_law_rule", "_law_gap"]
theorem sc_law_sort_text : FnScope n_law_sort_text ["_law_pen_here", "_law_rules"] (defScope (top 22)) := ⟨rfl, rfl, rfl, by decide +kernel, rfl, by decide +kernel, by decide +kernel⟩
def b_law_sort_text_0 : MS := (mSeq (mSet 4 (mBin dStrMul (mC (.str " ")) (mBin dAdd (mC (.int 1)) (mCall drawM (mCons (mVar 0) (mCons (mC (.int 2)) mNil))))))
    (mSeq (mOwn 2 oApp (mCons (mBin dAdd (mBin dAdd (mBin dStrMul (mC (.str " ")) (mCall drawM (mCons (mVar 0) (mCons (mC (.int 2)) mNil)))) (mM1 dJoin (mVar 4) (mBin dCat (mLst (mCons (mBin dIx (mVar 3) (mC (.int 0))) mNil)) (mCall f_law_item_words (mCons (mVar 3) mNil))))) (mBin dStrMul (mC (.str " ")) (mCall drawM (mCons (mVar 0) (mCons (mC (.int 2)) mNil))))) mNil))
    (mIf (mTst (mBin dEq (mCall drawM (mCons (mVar 0) (mCons (mC (.int 4)) mNil))) (mC (.int 0)))) (mOwn 2 oApp (mCons (mBin dStrMul (mC (.str " ")) (mCall drawM (mCons (mVar 0) (mCons (mC (.int 3)) mNil)))) mNil)) mNext)))
def ms_law_sort_text : MS := (mSeq (mSetO 2 (mLst mNil))
    (mSeq (mFor (mItems (mVar 1)) (fName 3) b_law_sort_text_0)
    (mRet (mM1 dJoin (mC (.str "\n")) (mVarR 2)))))
def f_law_sort_text : FM := fnM 5 [.val, .val] ms_law_sort_text
theorem c_law_sort_text (t : Txt K mg) : Cal P w K mg base T "_law_sort_text" 3 [.val, .val] false f_law_sort_text := by
  obtain ⟨f, fd, hm, F, hb⟩ := (t.d_law_sort_text).ex
  exact ⟨f, fd, _, hm, F.kp, hb, fn_ok F sc_law_sort_text rfl (by decide) (fun cdv A outer s z E hr => (rss_cons (rs_setO (fun h => ps_set (i := 2) sc_law_sort_text.nd rfl (Or.inl rfl) h) (re_lst ra_nil))
    (rss_cons (rs_for (passes_of rfl) rfl (ri_val (re_var (pv 1))) (pg_name (i := 3) sc_law_sort_text.nd rfl (Or.inl rfl)) gok_name (rss_cons (rs_set (fun h => ps_set (i := 4) sc_law_sort_text.nd rfl (Or.inl rfl) h) (re_bin (fun a b => pe_op op_strmul a b) opm_strmul re_str (re_bin (fun a b => pe_op op_addA a b) opm_add re_int (re_cal (c_law_draw t) hr (by decide) (takes_of rfl rfl rfl rfl) rfl (ra_cons (re_var (pv 0)) (ra_cons re_int ra_nil))))))
    (rss_cons (rs_own (fun h => ps_expr (pe_bm PySem.F.plainAttrs_list PySem.F.slot_list_append PySem.F.type_list_append mt_append (pv 2) h)) own_app (ra_cons (re_bin (fun a b => pe_op op_addA a b) opm_add (re_bin (fun a b => pe_op op_addA a b) opm_add (re_bin (fun a b => pe_op op_strmul a b) opm_strmul re_str (re_cal (c_law_draw t) hr (by decide) (takes_of rfl rfl rfl rfl) rfl (ra_cons (re_var (pv 0)) (ra_cons re_int ra_nil)))) (re_m1 (fun h1 h2 => pe_m1 PySem.F.slot_str_join PySem.F.type_str_join mt_join h1 h2) mt1_join (re_var (pv 4)) (re_bin (fun a b => pe_op op_cat a b) opm_cat (re_lst (ra_cons (re_ix (re_var (pv 3)) re_int (fun _ _ => rfl)) ra_nil)) (re_cal (c_law_item_words t) hr (by decide) (takes_of rfl rfl rfl rfl) rfl (ra_cons (re_var (pv 3)) ra_nil))))) (re_bin (fun a b => pe_op op_strmul a b) opm_strmul re_str (re_cal (c_law_draw t) hr (by decide) (takes_of rfl rfl rfl rfl) rfl (ra_cons (re_var (pv 0)) (ra_cons re_int ra_nil))))) ra_nil))
    (rss_one (rs_if (rt_bin (fun a b => pt_cmpR (op_eqD (hr).units) a b (nomark _)) opm_eq (re_cal (c_law_draw t) hr (by decide) (takes_of rfl rfl rfl rfl) rfl (ra_cons (re_var (pv 0)) (ra_cons re_int ra_nil))) re_int) (rss_one (rs_own (fun h => ps_expr (pe_bm PySem.F.plainAttrs_list PySem.F.slot_list_append PySem.F.type_list_append mt_append (pv 2) h)) own_app (ra_cons (re_bin (fun a b => pe_op op_strmul a b) opm_strmul re_str (re_cal (c_law_draw t) hr (by decide) (takes_of rfl rfl rfl rfl) rfl (ra_cons (re_var (pv 0)) (ra_cons re_int ra_nil)))) ra_nil))) rss_nil)))))
    (rss_one (rs_ret (re_m1 (fun h1 h2 => pe_m1 PySem.F.slot_str_join PySem.F.type_str_join mt_join h1 h2) mt1_join re_str (re_varR (pv 2)))))))) (fun h => nomatch h)⟩
/-! ### _law_is_number -/
abbrev n_law_is_number : List Str := ["_law_word", "_law_most", "_law_k"]
theorem sc_law_is_number : FnScope n_law_is_number ["_law_word", "_law_most"] (defScope (top 23)) := ⟨rfl, rfl, rfl, by decide +kernel, rfl, by decide +kernel, by decide +kernel⟩
def ms_law_is_number : MS := (mRet (mBin (dIn false) (mVar 0) (mLc (mItA dRng1 (mCons (mBin dAdd (mVar 1) (mC (.int 1))) mNil)) (fName 2) mYes (mCall dToStr (mCons (mVar 2) mNil)) (([("_law_k", 2)] : List (Str × Nat)).map (·.2)))))
def f_law_is_number : FM := fnM 3 [.val, .val] ms_law_is_number
theorem c_law_is_number (t : Txt K mg) : Cal P w K mg base T "_law_is_number" 2 [.val, .val] false f_law_is_number := by
  obtain ⟨f, fd, hm, F, hb⟩ := (t.d_law_is_number).ex
  exact ⟨f, fd, _, hm, F.kp, hb, fn_ok F sc_law_is_number rfl (by decide) (fun cdv A outer s z E hr => (rss_one (rs_ret (re_bin (fun a b => pe_cmpR op_inA a b (by with_unfolding_all rfl)) opm_in (re_var (pv 0)) (re_lc rfl sc_law_is_number.nd (ri_range1 (fun h => pi_range1 rfl t.nm.rng h) (ra_cons (re_bin (fun a b => pe_op op_addA a b) opm_add (re_var (pv 1)) re_int) ra_nil)) (blkOk_by (own := [("_law_k", 2)]) (N := n_law_is_number) (sc := defScope (top 23)) (by decide +kernel)) (fun s H C cl fp => (pg_name (i := 2) sc_law_is_number.nd rfl (Or.inl rfl))) gok_name (fun s H C cl fp => rts_nil) (fun s H C cl fp => (re_call (fun h => pe_callTy call_str_int (by rfl) t.nm.str (by decide +kernel) h) cam_toStr (ra_cons (re_var (pv 2)) ra_nil)))))))) (fun h => nomatch h)⟩
/-! ### _law_first_wrong -/
abbrev n_law_first_wrong : List Str := ["_law_words", "_law_size", "_law_kind", "_law_rest", "_law_known", "_law_at", "_law_word", "_law_ends", "_law_is_right", "_law_end", "_law_sign"]
theorem sc_law_first_wrong : FnScope n_law_first_wrong ["_law_words", "_law_size"] (defScope (top 24)) := ⟨rfl, rfl, rfl, by decide +kernel, rfl, by decide +kernel, by decide +kernel⟩
def b_law_first_wrong_0 : MS := (mSeq (mSet 7 (mIfE (mTst (mBin dEq (mVar 2) (mC (.str "near")))) (mM1 dSplit (mVar 6) (mC (.str "-"))) (mLst (mCons (mVar 6) mNil))))
    (mSeq (mSet 8 (mCall dAll (mCons (mLc (mItems (mVar 7)) (fName 9) mYes (mCall f_law_is_number (mCons (mVar 9) (mCons (mBin dSub (mVar 1) (mC (.int 1))) mNil))) (([("_law_end", 9)] : List (Str × Nat)).map (·.2))) mNil)))
    (mSeq (mSet 8 (mAndV (mVar 8) (mBin dEq (mCall dLen (mCons (mVar 7) mNil)) (mBin dAdd (mC (.int 1)) (mCall dToInt (mCons (mBin dEq (mVar 2) (mC (.str "near"))) mNil))))))
    (mSeq (mIf (mOrB (mNotB (mTru (mVar 8))) (mOrB (mTst (mBin (dInP false) (mCall dSortG (mCons (mVar 7) mNil)) (mVarR 4))) (mTst (mBin dNe (mLenSet (mVar 7)) (mCall dLen (mCons (mVar 7) mNil)))))) (mRet (mBin dAdd (mVar 5) (mC (.int 2)))) mNext)
    (mOwn 4 oApp (mCons (mCall dSortG (mCons (mVar 7) mNil)) mNil))))))
def ms_law_first_wrong : MS := (mSeq (mAsgG (fTup 2 (fCons (fName 2) (fCons (fName 3) fNil))) (mTup (mCons (mBin dIx (mVar 0) (mC (.int 0))) (mCons (mSl dSl (mVar 0) (mSoO (mC (.int 1))) mNoO) mNil))))
    (mSeq (mIf (mTst (mBin (dIn true) (mVar 2) (mLst (mCons (mC (.str "weight")) (mCons (mC (.str "letters")) (mCons (mC (.str "near")) (mCons (mC (.str "within")) (mCons (mC (.str "run")) mNil)))))))) (mRet (mC (.int 1))) mNext)
    (mSeq (mIf (mTst (mBin (dIn false) (mVar 2) (mLst (mCons (mC (.str "near")) (mCons (mC (.str "within")) mNil))))) (mSeq (mSetO 4 (mLst mNil))
    (mSeq (mFor (mItA dEnum (mCons (mVar 3) mNil)) (fTup 2 (fCons (fName 5) (fCons (fName 6) fNil))) b_law_first_wrong_0)
    (mRet (mC (.int 0))))) mNext)
    (mSeq (mIf (mTst (mBin dEq (mVar 3) (mLst mNil))) (mRet (mC (.int 2))) mNext)
    (mSeq (mIf (mTst (mBin dEq (mVar 2) (mC (.str "letters")))) (mSet 8 (mBin dEq (mLc (mItems (mBin dIx (mVar 3) (mC (.int 0)))) (fName 10) (mOrB (mTst (mBin (dIn true) (mVar 10) (mC (.str "XYZ")))) (mTst (mBin dGt (mM1 dCount (mBin dIx (mVar 3) (mC (.int 0))) (mVar 10)) (mC (.int 1))))) (mVar 10) (([("_law_sign", 10)] : List (Str × Nat)).map (·.2))) (mLst mNil))) (mSet 8 (mCall f_law_is_number (mCons (mBin dIx (mVar 3) (mC (.int 0))) (mCons (mVar 1) mNil)))))
    (mRet (mIfE (mNotB (mTru (mVar 8))) (mC (.int 2)) (mIfE (mTst (mBin dGt (mCall dLen (mCons (mVar 3) mNil)) (mC (.int 1)))) (mC (.int 3)) (mC (.int 0))))))))))
def f_law_first_wrong : FM := fnM 11 [.val, .val] ms_law_first_wrong
theorem c_law_first_wrong (t : Txt K mg) : Cal P w K mg base T "_law_first_wrong" 3 [.val, .val] false f_law_first_wrong := by
  obtain ⟨f, fd, hm, F, hb⟩ := (t.d_law_first_wrong).ex
  exact ⟨f, fd, _, hm, F.kp, hb, fn_ok F sc_law_first_wrong rfl (by decide) (fun cdv A outer s z E hr => (rss_cons (rs_asgG (fun h => ps_asg h (pg_tup rfl (pgs_cons (pg_name (i := 2) sc_law_first_wrong.nd rfl (Or.inl rfl)) (pgs_cons (pg_name (i := 3) sc_law_first_wrong.nd rfl (by first | exact Or.inl rfl | exact Or.inr rfl)) pgs_nil)))) (gok_tup (gsok_cons gok_name (gsok_cons gok_name gsok_nil))) (re_tup (ra_cons (re_ix (re_var (pv 0)) re_int (fun _ _ => rfl)) (ra_cons (re_sl (re_var (pv 0)) (ro_some re_int) ro_none) ra_nil))))
    (rss_cons (rs_if (rt_bin (fun a b => pt_cmpR op_niA a b (by with_unfolding_all rfl)) opm_in (re_var (pv 2)) (re_lst (ra_cons re_str (ra_cons re_str (ra_cons re_str (ra_cons re_str (ra_cons re_str ra_nil))))))) (rss_one (rs_ret re_int)) rss_nil)
    (rss_cons (rs_if (rt_bin (fun a b => pt_cmpR op_inA a b (by with_unfolding_all rfl)) opm_in (re_var (pv 2)) (re_lst (ra_cons re_str (ra_cons re_str ra_nil)))) (rss_cons (rs_setO (fun h => ps_set (i := 4) sc_law_first_wrong.nd rfl (Or.inl rfl) h) (re_lst ra_nil))
    (rss_cons (rs_for (passes_of rfl) rfl (ri_enumA (fun h => pi_enumA rfl t.nm.enum h) (ra_cons (re_var (pv 3)) ra_nil)) (pg_tup rfl (pgs_cons (pg_name (i := 5) sc_law_first_wrong.nd rfl (Or.inl rfl)) (pgs_cons (pg_name (i := 6) sc_law_first_wrong.nd rfl (Or.inl rfl)) pgs_nil))) (gok_tup (gsok_cons gok_name (gsok_cons gok_name gsok_nil))) (rss_cons (rs_set (fun h => ps_set (i := 7) sc_law_first_wrong.nd rfl (Or.inl rfl) h) (re_if (rt_bin (fun a b => pt_cmpR (op_eqD (hr).units) a b (nomark _)) opm_eq (re_var (pv 2)) re_str) (RE.frz (re_m1 (fun h1 h2 => pe_m1 PySem.F.slot_str_split PySem.F.type_str_split mt_split h1 h2) mt1_split (re_var (pv 6)) re_str)) (RE.frz (re_lst (ra_cons (re_var (pv 6)) ra_nil)))))
    (rss_cons (rs_set (fun h => ps_set (i := 8) sc_law_first_wrong.nd rfl (Or.inl rfl) h) (re_call (fun h => pe_callB (cr_all rfl) (by rfl) t.nm.all (by decide +kernel) h) cam_all (ra_cons (re_lc rfl sc_law_first_wrong.nd (ri_rd (re_var (pv 7))) (blkOk_by (own := [("_law_end", 9)]) (N := n_law_first_wrong) (sc := defScope (top 24)) (by decide +kernel)) (fun s H C cl fp => (pg_name (i := 9) sc_law_first_wrong.nd rfl (Or.inl rfl))) gok_name (fun s H C cl fp => rts_nil) (fun s H C cl fp => (re_cal (c_law_is_number t) hr (by decide) LamX.takes0 rfl (ra_cons (re_var (pv 9)) (ra_cons (re_bin (fun a b => pe_op op_sub a b) opm_int0 (re_var (pv 1)) re_int) ra_nil))))) ra_nil)))
    (rss_cons (rs_set (fun h => ps_set (i := 8) sc_law_first_wrong.nd rfl (Or.inl rfl) h) (re_and (re_var (pv 8)) (re_one (re_bin (fun a b => pe_cmpR (op_eqD (hr).units) a b (nomark _)) opm_eq (re_call (fun h => pe_callB call_len (by rfl) t.nm.len (by decide +kernel) h) cam_len (ra_cons (re_var (pv 7)) ra_nil)) (re_bin (fun a b => pe_op op_addA a b) opm_add re_int (re_call (fun h => pe_callTy call_toInt (by rfl) t.nm.int (by decide +kernel) h) cam_toInt (ra_cons (re_bin (fun a b => pe_cmpR (op_eqD (hr).units) a b (nomark _)) opm_eq (re_var (pv 2)) re_str) ra_nil)))))))
    (rss_cons (rs_if (RW.rt (rw_or (rt_not (rt_tru (re_var (pv 8)))) (rw_or (rt_bin (fun a b => pt_cmpR (op_inD (rm65 hr)) a b (by with_unfolding_all rfl)) opm_inP (re_call (fun h => pe_callB (cr_sortP (hr).units) (by rfl) t.nm.srt (by decide +kernel) h) cam_sortG (ra_cons (re_var (pv 7)) ra_nil)) (re_varR (pv 4))) (rw_or1 (rt_bin (fun a b => pt_cmpR (op_neD (hr).units) a b (nomark _)) opm_ne (re_lenSet (by rfl) t.nm.len (by rfl) t.nm.set (re_var (pv 7))) (re_call (fun h => pe_callB call_len (by rfl) t.nm.len (by decide +kernel) h) cam_len (ra_cons (re_var (pv 7)) ra_nil))))))) (rss_one (rs_ret (re_bin (fun a b => pe_op op_addA a b) opm_add (re_var (pv 5)) re_int))) rss_nil)
    (rss_one (rs_own (fun h => ps_expr (pe_bm PySem.F.plainAttrs_list PySem.F.slot_list_append PySem.F.type_list_append mt_append (pv 4) h)) own_app (ra_cons (RE.frz (re_call (fun h => pe_callB (cr_sortP (hr).units) (by rfl) t.nm.srt (by decide +kernel) h) cam_sortG (ra_cons (re_var (pv 7)) ra_nil))) ra_nil))))))))
    (rss_one (rs_ret re_int)))) rss_nil)
    (rss_cons (rs_if (rt_bin (fun a b => pt_cmpR (op_eqD (hr).units) a b (nomark _)) opm_eq (re_var (pv 3)) (re_lst ra_nil)) (rss_one (rs_ret re_int)) rss_nil)
    (rss_cons (rs_if (rt_bin (fun a b => pt_cmpR (op_eqD (hr).units) a b (nomark _)) opm_eq (re_var (pv 2)) re_str) (rss_one (rs_set (fun h => ps_set (i := 8) sc_law_first_wrong.nd rfl (Or.inl rfl) h) (re_bin (fun a b => pe_cmpR (op_eqD (hr).units) a b (nomark _)) opm_eq (re_lc rfl sc_law_first_wrong.nd (ri_rd (re_ix (re_var (pv 3)) re_int (fun _ _ => rfl))) (blkOk_by (own := [("_law_sign", 10)]) (N := n_law_first_wrong) (sc := defScope (top 24)) (by decide +kernel)) (fun s H C cl fp => (pg_name (i := 10) sc_law_first_wrong.nd rfl (Or.inl rfl))) gok_name (fun s H C cl fp => rts_one (RW.rt (rw_or (rt_bin (fun a b => pt_cmpR op_niA a b (by with_unfolding_all rfl)) opm_in (re_var (pv 10)) re_str) (rw_or1 (rt_bin (fun a b => pt_cmpR op_gt a b (nomark _)) opm_cmp (re_m1 (fun h1 h2 => pe_m1 PySem.F.slot_str_count PySem.F.type_str_count mt_count h1 h2) mt1_count (re_ix (re_var (pv 3)) re_int (fun _ _ => rfl)) (re_var (pv 10))) re_int))))) (fun s H C cl fp => (re_var (pv 10)))) (re_lst ra_nil)))) (rss_one (rs_set (fun h => ps_set (i := 8) sc_law_first_wrong.nd rfl (Or.inl rfl) h) (re_cal (c_law_is_number t) hr (by decide) (takes_of rfl rfl rfl rfl) rfl (ra_cons (re_ix (re_var (pv 3)) re_int (fun _ _ => rfl)) (ra_cons (re_var (pv 1)) ra_nil))))))
    (rss_one (rs_ret (re_if (rt_not (rt_tru (re_var (pv 8)))) re_int (re_if (rt_bin (fun a b => pt_cmpR op_gt a b (nomark _)) opm_cmp (re_call (fun h => pe_callB call_len (by rfl) t.nm.len (by decide +kernel) h) cam_len (ra_cons (re_var (pv 3)) ra_nil)) re_int) re_int re_int)))))))))) (fun h => nomatch h)⟩
/-! ### _law_due -/
abbrev n_law_due : List Str := ["_law_text", "_law_size", "_law_at", "_law_line", "_law_words", "_law_word"]
theorem sc_law_due : FnScope n_law_due ["_law_text", "_law_size"] (defScope (top 25)) := ⟨rfl, rfl, rfl, by decide +kernel, rfl, by decide +kernel, by decide +kernel⟩
def b_law_due_0 : MS := (mSeq (mSet 4 (mLc (mItems (mM1 dSplit (mVar 3) (mC (.str " ")))) (fName 5) (mTst (mBin dNe (mVar 5) (mC (.str "")))) (mVar 5) (([("_law_word", 5)] : List (Str × Nat)).map (·.2))))
    (mIf (mAndB (mTst (mBin dNe (mVar 4) (mLst mNil))) (mTst (mBin dGt (mCall f_law_first_wrong (mCons (mVar 4) (mCons (mVar 1) mNil))) (mC (.int 0))))) (mRet (mTup (mCons (mBin dAdd (mVar 2) (mC (.int 1))) (mCons (mCall f_law_first_wrong (mCons (mVar 4) (mCons (mVar 1) mNil))) mNil)))) mNext))
def ms_law_due : MS := (mSeq (mFor (mItA dEnum (mCons (mM1 dSplit (mVar 0) (mC (.str "\n"))) mNil)) (fTup 2 (fCons (fName 2) (fCons (fName 3) fNil))) b_law_due_0)
    (mRet (mTup (mCons (mC (.int 0)) (mCons (mC (.int 0)) mNil)))))
def f_law_due : FM := fnM 6 [.val, .val] ms_law_due
theorem c_law_due (t : Txt K mg) : Cal P w K mg base T "_law_due" 4 [.val, .val] false f_law_due := by
  obtain ⟨f, fd, hm, F, hb⟩ := (t.d_law_due).ex
  exact ⟨f, fd, _, hm, F.kp, hb, fn_ok F sc_law_due rfl (by decide) (fun cdv A outer s z E hr => (rss_cons (rs_for (passes_of rfl) rfl (ri_enumA (fun h => pi_enumA rfl t.nm.enum h) (ra_cons (RE.frz (re_m1 (fun h1 h2 => pe_m1 PySem.F.slot_str_split PySem.F.type_str_split mt_split h1 h2) mt1_split (re_var (pv 0)) re_str)) ra_nil)) (pg_tup rfl (pgs_cons (pg_name (i := 2) sc_law_due.nd rfl (Or.inl rfl)) (pgs_cons (pg_name (i := 3) sc_law_due.nd rfl (Or.inl rfl)) pgs_nil))) (gok_tup (gsok_cons gok_name (gsok_cons gok_name gsok_nil))) (rss_cons (rs_lcF (rs_setLc (i := 4) rfl sc_law_due.nd rfl rfl (sw_true rfl rfl rfl (by decide +kernel)) (ri_rd (re_m1 (fun h1 h2 => pe_m1 PySem.F.slot_str_split PySem.F.type_str_split mt_split h1 h2) mt1_split (re_var (pv 3)) re_str)) (blkOk_by (own := [("_law_word", 5)]) (N := n_law_due) (sc := defScope (top 25)) (by decide +kernel)) (fun s H C cl fp => (pg_name (i := 5) sc_law_due.nd rfl (Or.inl rfl))) gok_name (fun s H C cl fp => rts_one (rt_bin (fun a b => pt_cmpR (op_neD (hr).units) a b (nomark _)) opm_ne (re_var (pv 5)) re_str)) (fun s H C cl fp => (re_var (pv 5)))))
    (rss_one (rs_if (RW.rt (rw_and (rt_bin (fun a b => pt_cmpR (op_neD (hr).units) a b (nomark _)) opm_ne (re_var (pv 4)) (re_lst ra_nil)) (rw_and1 (rt_bin (fun a b => pt_cmpR op_gt a b (nomark _)) opm_cmp (re_cal (c_law_first_wrong t) hr (by decide) (takes_of rfl rfl rfl rfl) rfl (ra_cons (re_var (pv 4)) (ra_cons (re_var (pv 1)) ra_nil))) re_int)))) (rss_one (rs_ret (re_tup (ra_cons (re_bin (fun a b => pe_op op_addA a b) opm_add (re_var (pv 2)) re_int) (ra_cons (re_cal (c_law_first_wrong t) hr (by decide) (takes_of rfl rfl rfl rfl) rfl (ra_cons (re_var (pv 4)) (ra_cons (re_var (pv 1)) ra_nil))) ra_nil))))) rss_nil))))
    (rss_one (rs_ret (re_tup (ra_cons re_int (ra_cons re_int ra_nil))))))) (fun h => nomatch h)⟩
/-! ### _law_refused -/
abbrev n_law_refused : List Str := ["_law_call", "e"]
theorem sc_law_refused : FnScope n_law_refused ["_law_call"] (defScope (top 26)) := ⟨rfl, rfl, rfl, by decide +kernel, rfl, by decide +kernel, by decide +kernel⟩
def m_law_refused (b : M D) : MS := (mSeq (mTryE subC (("BadText", some 1, (mRet (mLst (mCons (mC (.str "text")) (mCons (mXf 1 "BadText" "line") (mCons (mXf 1 "BadText" "column") mNil)))))) :: []) (mAct 0 b))
    (mRet (mLst mNil)))
theorem g_law_refused (t : Txt K mg) : GotOk P w K mg base T "_law_refused" 1 m_law_refused := by
  obtain ⟨f, fd, hm, F, hb⟩ := (t.d_law_refused).ex
  obtain ⟨oc, od, kV, doc, pm, an, cdv, ct, osl, rfl, lk, hcd⟩ := F.ex
  refine ⟨f, _, _, _, _, kV, doc, pm, cdv, ct, oc, an, od, osl, n_law_refused, "_law_call", hm, F.kp, lk, hcd, hb, sc_law_refused, rfl, rfl, Or.inl rfl, by decide, by decide, ?_⟩
  rintro ⟨X, T', H0, Wj⟩ s z b rfl rfl rfl rfl rfl rfl act
  exact (rss_cons (rs_tryE t.sub rfl rfl LamX.takes0 (fun W pn xe tk2 hp2 => act W pn xe _ _ tk2) (RHs.as_ (i := 1) sc_law_refused.nd rfl rfl rfl (t.x_BadText).mgC (by decide) (fun a oe cls d pn hz hf => (rss_one (rs_ret (RE.frz (re_lst (ra_cons re_str (ra_cons (re_xf (x := "BadText") (t.x_BadText).mgC (t.x_BadText).xf ((t.x_BadText).no _ (by decide)) hz hf (pv 1)) (ra_cons (re_xf (x := "BadText") (t.x_BadText).mgC (t.x_BadText).xf ((t.x_BadText).no _ (by decide)) hz hf (pv 1)) ra_nil)))))))) RHs.nil))
    (rss_one (rs_ret (RE.frz (re_lst ra_nil)))))
/-! ### _law_bent -/
abbrev n_law_bent : List Str := ["_law_pen_here", "_law_text", "_law_size", "_law_lines", "_law_at", "_law_words", "_law_word", "_law_k", "_law_some", "_law_odd", "_law_way"]
theorem sc_law_bent : FnScope n_law_bent ["_law_pen_here", "_law_text", "_law_size"] (defScope (top 27)) := ⟨rfl, rfl, rfl, by decide +kernel, rfl, by decide +kernel, by decide +kernel⟩
def st_law_bent_0 : MS := (mSet 3 (mM1 dSplit (mVar 1) (mC (.str "\n"))))
def st_law_bent_1 : MS := (mSet 4 (mCall drawM (mCons (mVar 0) (mCons (mCall dLen (mCons (mVar 3) mNil)) mNil))))
def st_law_bent_2 : MS := (mSet 5 (mLc (mItems (mM1 dSplit (mBin dIx (mVar 3) (mVar 4)) (mC (.str " ")))) (fName 6) (mTst (mBin dNe (mVar 6) (mC (.str "")))) (mVar 6) (([("_law_word", 6)] : List (Str × Nat)).map (·.2))))
def st_law_bent_3 : MS := (mSet 7 (mCall drawM (mCons (mVar 0) (mCons (mBin dAdd (mCall dLen (mCons (mVar 5) mNil)) (mC (.int 1))) mNil))))
def st_law_bent_4 : MS := (mSet 8 (mLst (mCons (mC (.str "weight")) (mCons (mC (.str "near")) (mCons (mC (.str "run")) (mCons (mC (.str "0")) (mCons (mC (.str "1")) (mCons (mCall dToStr (mCons (mVar 2) mNil)) (mCons (mCall dToStr (mCons (mBin dSub (mVar 2) (mC (.int 1))) mNil)) (mCons (mC (.str "00")) (mCons (mC (.str "01")) (mCons (mC (.str "-1")) (mCons (mC (.str "0-0")) (mCons (mC (.str "0-1")) (mCons (mC (.str "1-0")) mNil)))))))))))))))
def st_law_bent_5 : MS := (mSet 8 (mBin dCat (mVar 8) (mLst (mCons (mC (.str "X")) (mCons (mC (.str "XX")) (mCons (mC (.str "XYZ")) (mCons (mC (.str "xz")) (mCons (mC (.str "I")) (mCons (mC (.str "Weight")) (mCons (mC (.str "1-")) (mCons (mC (.str "0-1-2")) (mCons (mC (.str "+1")) (mCons (mC (.str "99")) (mCons (mC (.str "1	")) (mCons (mC (.str "letters")) (mCons (mC (.str "within")) mNil))))))))))))))))
def st_law_bent_6 : MS := (mSet 9 (mCall f_law_pick (mCons (mVar 0) (mCons (mVar 8) mNil))))
def st_law_bent_7 : MS := (mSet 10 (mCall drawM (mCons (mVar 0) (mCons (mC (.int 4)) mNil))))
def st_law_bent_8 : MS := (mIf (mTst (mBin dEq (mVar 10) (mC (.int 0)))) (mSet 5 (mBin dCat (mBin dCat (mSl dSl (mVar 5) mNoO (mSoO (mVar 7))) (mLst (mCons (mVar 9) mNil))) (mSl dSl (mVar 5) (mSoO (mVar 7)) mNoO))) (mIf (mTst (mBin dEq (mVar 10) (mC (.int 1)))) (mSet 5 (mBin dAdd (mSl dSl (mVar 5) mNoO (mSoO (mVar 7))) (mSl dSl (mVar 5) (mSoO (mBin dAdd (mVar 7) (mC (.int 1)))) mNoO))) (mIf (mTst (mBin dEq (mVar 10) (mC (.int 2)))) (mSet 5 (mBin dCat (mBin dCat (mSl dSl (mVar 5) mNoO (mSoO (mVar 7))) (mLst (mCons (mVar 9) mNil))) (mSl dSl (mVar 5) (mSoO (mBin dAdd (mVar 7) (mC (.int 1)))) mNoO))) (mSet 5 (mBin dAdd (mBin dAdd (mSl dSl (mVar 5) mNoO (mSoO (mVar 7))) (mSl dSl (mSl dSl (mVar 5) mNoO (mSoO (mVar 7))) (mSoO (mUn dNeg (mC (.int 1)))) mNoO)) (mSl dSl (mVar 5) (mSoO (mVar 7)) mNoO))))))
def st_law_bent_9 : MS := (mRet (mM1 dJoin (mC (.str "\n")) (mBin dCat (mBin dCat (mSl dSl (mVar 3) mNoO (mSoO (mVar 4))) (mLst (mCons (mM1 dJoin (mC (.str "  ")) (mVar 5)) mNil))) (mSl dSl (mVar 3) (mSoO (mBin dAdd (mVar 4) (mC (.int 1)))) mNoO))))
def ms_law_bent : MS := (mSeq st_law_bent_0
    (mSeq st_law_bent_1
    (mSeq st_law_bent_2
    (mSeq st_law_bent_3
    (mSeq st_law_bent_4
    (mSeq st_law_bent_5
    (mSeq st_law_bent_6
    (mSeq st_law_bent_7
    (mSeq st_law_bent_8
    st_law_bent_9)))))))))
def f_law_bent : FM := fnM 11 [.val, .val, .val] ms_law_bent
theorem c_law_bent (t : Txt K mg) : Cal P w K mg base T "_law_bent" 3 [.val, .val, .val] false f_law_bent := by
  obtain ⟨f, fd, hm, F, hb⟩ := (t.d_law_bent).ex
  exact ⟨f, fd, _, hm, F.kp, hb, fn_ok F sc_law_bent rfl (by decide) (fun cdv A outer s z E hr => (rss_cons (rs_set (fun h => ps_set (i := 3) sc_law_bent.nd rfl (Or.inl rfl) h) (RE.frz (re_m1 (fun h1 h2 => pe_m1 PySem.F.slot_str_split PySem.F.type_str_split mt_split h1 h2) mt1_split (re_var (pv 1)) re_str)))
    (rss_cons (rs_set (fun h => ps_set (i := 4) sc_law_bent.nd rfl (Or.inl rfl) h) (re_cal (c_law_draw t) hr (by decide) (takes_of rfl rfl rfl rfl) rfl (ra_cons (re_var (pv 0)) (ra_cons (re_call (fun h => pe_callB call_len (by rfl) t.nm.len (by decide +kernel) h) cam_len (ra_cons (re_var (pv 3)) ra_nil)) ra_nil))))
    (rss_cons (rs_lcF (rs_setLc (i := 5) rfl sc_law_bent.nd rfl rfl (sw_true rfl rfl rfl (by decide +kernel)) (ri_rd (re_m1 (fun h1 h2 => pe_m1 PySem.F.slot_str_split PySem.F.type_str_split mt_split h1 h2) mt1_split (re_ix (re_var (pv 3)) (re_var (pv 4)) (fun _ _ => rfl)) re_str)) (blkOk_by (own := [("_law_word", 6)]) (N := n_law_bent) (sc := defScope (top 27)) (by decide +kernel)) (fun s H C cl fp => (pg_name (i := 6) sc_law_bent.nd rfl (Or.inl rfl))) gok_name (fun s H C cl fp => rts_one (rt_bin (fun a b => pt_cmpR (op_neD (hr).units) a b (nomark _)) opm_ne (re_var (pv 6)) re_str)) (fun s H C cl fp => (re_var (pv 6)))))
    (rss_cons (rs_set (fun h => ps_set (i := 7) sc_law_bent.nd rfl (Or.inl rfl) h) (re_cal (c_law_draw t) hr (by decide) (takes_of rfl rfl rfl rfl) rfl (ra_cons (re_var (pv 0)) (ra_cons (re_bin (fun a b => pe_op op_addA a b) opm_add (re_call (fun h => pe_callB call_len (by rfl) t.nm.len (by decide +kernel) h) cam_len (ra_cons (re_var (pv 5)) ra_nil)) re_int) ra_nil))))
    (rss_cons (rs_set (fun h => ps_set (i := 8) sc_law_bent.nd rfl (Or.inl rfl) h) (RE.frz (re_lst (ra_cons re_str (ra_cons re_str (ra_cons re_str (ra_cons re_str (ra_cons re_str (ra_cons (re_call (fun h => pe_callTy call_str_int (by rfl) t.nm.str (by decide +kernel) h) cam_toStr (ra_cons (re_var (pv 2)) ra_nil)) (ra_cons (re_call (fun h => pe_callTy call_str_int (by rfl) t.nm.str (by decide +kernel) h) cam_toStr (ra_cons (re_bin (fun a b => pe_op op_sub a b) opm_int0 (re_var (pv 2)) re_int) ra_nil)) (ra_cons re_str (ra_cons re_str (ra_cons re_str (ra_cons re_str (ra_cons re_str (ra_cons re_str ra_nil))))))))))))))))
    (rss_cons (rs_set (fun h => ps_set (i := 8) sc_law_bent.nd rfl (Or.inl rfl) h) (RE.frz (re_bin (fun a b => pe_op op_cat a b) opm_cat (re_var (pv 8)) (re_lst (ra_cons re_str (ra_cons re_str (ra_cons re_str (ra_cons re_str (ra_cons re_str (ra_cons re_str (ra_cons re_str (ra_cons re_str (ra_cons re_str (ra_cons re_str (ra_cons re_str (ra_cons re_str (ra_cons re_str ra_nil)))))))))))))))))
    (rss_cons (rs_set (fun h => ps_set (i := 9) sc_law_bent.nd rfl (Or.inl rfl) h) (re_cal (c_law_pick t) hr (by decide) (takes_of rfl rfl rfl rfl) rfl (ra_cons (re_var (pv 0)) (ra_cons (re_var (pv 8)) ra_nil))))
    (rss_cons (rs_set (fun h => ps_set (i := 10) sc_law_bent.nd rfl (Or.inl rfl) h) (re_cal (c_law_draw t) hr (by decide) (takes_of rfl rfl rfl rfl) rfl (ra_cons (re_var (pv 0)) (ra_cons re_int ra_nil))))
    (rss_cons (rs_if (rt_bin (fun a b => pt_cmpR (op_eqD (hr).units) a b (nomark _)) opm_eq (re_var (pv 10)) re_int) (rss_one (rs_set (fun h => ps_set (i := 5) sc_law_bent.nd rfl (Or.inl rfl) h) (RE.frz (re_bin (fun a b => pe_op op_cat a b) opm_cat (re_bin (fun a b => pe_op op_cat a b) opm_cat (re_sl (re_var (pv 5)) ro_none (ro_some (re_var (pv 7)))) (re_lst (ra_cons (re_var (pv 9)) ra_nil))) (re_sl (re_var (pv 5)) (ro_some (re_var (pv 7))) ro_none))))) (rss_one (rs_if (rt_bin (fun a b => pt_cmpR (op_eqD (hr).units) a b (nomark _)) opm_eq (re_var (pv 10)) re_int) (rss_one (rs_set (fun h => ps_set (i := 5) sc_law_bent.nd rfl (Or.inl rfl) h) (re_bin (fun a b => pe_op op_addA a b) opm_add (re_sl (re_var (pv 5)) ro_none (ro_some (re_var (pv 7)))) (re_sl (re_var (pv 5)) (ro_some (re_bin (fun a b => pe_op op_addA a b) opm_add (re_var (pv 7)) re_int)) ro_none)))) (rss_one (rs_if (rt_bin (fun a b => pt_cmpR (op_eqD (hr).units) a b (nomark _)) opm_eq (re_var (pv 10)) re_int) (rss_one (rs_set (fun h => ps_set (i := 5) sc_law_bent.nd rfl (Or.inl rfl) h) (RE.frz (re_bin (fun a b => pe_op op_cat a b) opm_cat (re_bin (fun a b => pe_op op_cat a b) opm_cat (re_sl (re_var (pv 5)) ro_none (ro_some (re_var (pv 7)))) (re_lst (ra_cons (re_var (pv 9)) ra_nil))) (re_sl (re_var (pv 5)) (ro_some (re_bin (fun a b => pe_op op_addA a b) opm_add (re_var (pv 7)) re_int)) ro_none))))) (rss_one (rs_set (fun h => ps_set (i := 5) sc_law_bent.nd rfl (Or.inl rfl) h) (re_bin (fun a b => pe_op op_addA a b) opm_add (re_bin (fun a b => pe_op op_addA a b) opm_add (re_sl (re_var (pv 5)) ro_none (ro_some (re_var (pv 7)))) (re_sl (re_sl (re_var (pv 5)) ro_none (ro_some (re_var (pv 7)))) (ro_some (re_neg re_int)) ro_none)) (re_sl (re_var (pv 5)) (ro_some (re_var (pv 7))) ro_none)))))))))
    (rss_one (rs_ret (re_m1 (fun h1 h2 => pe_m1 PySem.F.slot_str_join PySem.F.type_str_join mt_join h1 h2) mt1_join re_str (re_bin (fun a b => pe_op op_cat a b) opm_cat (re_bin (fun a b => pe_op op_cat a b) opm_cat (re_sl (re_var (pv 3)) ro_none (ro_some (re_var (pv 4)))) (re_lst (ra_cons (re_m1 (fun h1 h2 => pe_m1 PySem.F.slot_str_join PySem.F.type_str_join mt_join h1 h2) mt1_join re_str (re_var (pv 5))) ra_nil))) (re_sl (re_var (pv 3)) (ro_some (re_bin (fun a b => pe_op op_addA a b) opm_add (re_var (pv 4)) re_int)) ro_none))))))))))))))) (fun h => nomatch h)⟩
/-! ### law -/
abbrev n_law : List Str := ["_law_script", "_law_pen_here", "_law_size", "_law_lap", "_law_text", "_law_rule", "_law_change", "_law_line", "_law_word", "_law_due_here", "_law_odd"]
theorem sc_law : FnScope n_law ["_law_script"] (defScope (top 28)) := ⟨rfl, rfl, rfl, by decide +kernel, rfl, by decide +kernel, by decide +kernel⟩
def b_law_0 : MS := (mSet 4 (mCall f_law_bent (mCons (mVar 1) (mCons (mVar 4) (mCons (mVar 2) mNil)))))
def st_law_0 : MS := (mSet 4 (mCall f_law_sort_text (mCons (mVar 1) (mCons (mLc (mItA dRng1 (mCons (mBin dAdd (mC (.int 1)) (mCall drawM (mCons (mVar 1) (mCons (mC (.int 3)) mNil)))) mNil)) (fName 5) mYes (mCall f_law_drawn_rule (mCons (mVar 1) (mCons (mVar 2) mNil))) (([("_law_rule", 5)] : List (Str × Nat)).map (·.2))) mNil))))
def st_law_1 : MS := (mFor (mItA dRng1 (mCons (mCall drawM (mCons (mVar 1) (mCons (mC (.int 3)) mNil))) mNil)) (fName 6) b_law_0)
def st_law_2 : MS := (mAsgG (fTup 2 (fCons (fName 7) (fCons (fName 8) fNil))) (mCall f_law_due (mCons (mVar 4) (mCons (mVar 2) mNil))))
def st_law_3 : MS := (mSet 9 (mIfE (mTst (mBin dGt (mVar 7) (mC (.int 0)))) (mLst (mCons (mC (.str "text")) (mCons (mVar 7) (mCons (mVar 8) mNil)))) (mLst mNil)))
def st_law_4 : MS := (mIf (mTst (mBin dNe (mLam 1 m_law_refused (mMake "Sort" ini_Sort (mCons (mVar 2) (mCons (mVar 4) mNil)))) (mVar 9))) (mRet (mC (.bl false))) mNext)
def b_law_1 : MS := (mSeq st_law_0
    (mSeq st_law_1
    (mSeq st_law_2
    (mSeq st_law_3
    st_law_4))))
def st_law_5 : MS := (mSet 2 (mCall f_law_pick (mCons (mVar 1) (mCons (mLst (mCons (mC (.int 1)) (mCons (mC (.int 2)) (mCons (mC (.int 3)) (mCons (mC (.int 5)) (mCons (mC (.int 11)) (mCons (mC (.int 24)) mNil))))))) mNil))))
def st_law_6 : MS := (mFor (mItA dRng1 (mCons (mC (.int 8)) mNil)) (fName 3) b_law_1)
def st_law_7 : MS := (mSet 10 (mCall f_law_pick (mCons (mVar 1) (mCons (mLst (mCons (mC .non) (mCons (mC (.int 5)) (mCons (mLst (mCons (mC (.str "weight 1")) mNil)) (mCons (mTup (mCons (mC (.str "run 1")) mNil)) mNil))))) mNil))))
def st_law_8 : MS := (mRet (mBin dEq (mLam 1 m_law_refused (mMake "Sort" ini_Sort (mCons (mVar 2) (mCons (mVar 10) mNil)))) (mLst (mCons (mC (.str "text")) (mCons (mC (.int 0)) (mCons (mC (.int 0)) mNil))))))
def ms_law : MS := (mSeq st_law_5
    (mSeq st_law_6
    (mSeq st_law_7
    st_law_8)))
abbrev lamK : Nat := 7
abbrev lawK : Nat := 10
def tabL (c : List (Addr × Addr)) : List (Addr × Str) := c.map fun p => (p.2, ("law.<locals>.<lambda>" : Str))
theorem body_law (t : Txt K mg) {f : Addr} {cdv : Value} {c Pt : Addr} (TB : TabB base mg c Pt) (hcode : cdv = .ref c) {A : Around} {outer : List PySem.Env} {s : Shared} {z : Hz} {E : XK} (hr : Room lawK (A.deeper (envOfC "law" (defScope (top 28)) s.heap.objs.size f cdv))) :
    RSs (jOf P w K mg (tabL [(c, Pt)]) base n_law "law" (defScope (top 28)) f cdv A outer s z E) false ((defBody (top 28)).tail) ms_law := by
  have hq : (envOfC "law" (defScope (top 28)) s.heap.objs.size f cdv).qual ++ ("<lambda>" : Str) = ("law.<locals>.<lambda>" : Str) := by
    show ("law" : Str) ++ (".<locals>." : Str) ++ ("<lambda>" : Str) = _
    decide +kernel
  have hmT : (Pt, (envOfC "law" (defScope (top 28)) s.heap.objs.size f cdv).qual ++ ("<lambda>" : Str)) ∈ tabL [(c, Pt)] := by
    rw [hq]
    exact List.mem_singleton.mpr rfl
  have hu : ∀ p ∈ tabL [(c, Pt)], p.1 = Pt → p.2 = (envOfC "law" (defScope (top 28)) s.heap.objs.size f cdv).qual ++ ("<lambda>" : Str) := fun p hp _ => by
    rw [hq, List.mem_singleton.mp hp]
  exact (rss_cons (rs_set (fun h => ps_set (i := 2) sc_law.nd rfl (Or.inr rfl) h) (re_cal (c_law_pick t) hr (by decide) (takes_of rfl rfl rfl rfl) rfl (ra_cons (re_var (pv 1)) (ra_cons (RE.frz (re_lst (ra_cons re_int (ra_cons re_int (ra_cons re_int (ra_cons re_int (ra_cons re_int (ra_cons re_int ra_nil)))))))) ra_nil))))
    (rss_cons (rs_for (passes_of rfl) rfl (ri_range1 (fun h => pi_range1 rfl t.nm.rng h) (ra_cons re_int ra_nil)) (pg_name (i := 3) sc_law.nd rfl (Or.inl rfl)) gok_name (rss_cons (rs_set (fun h => ps_set (i := 4) sc_law.nd rfl (Or.inr rfl) h) (re_cal (c_law_sort_text t) hr (by decide) (takes_of rfl rfl rfl rfl) rfl (ra_cons (re_var (pv 1)) (ra_cons (RE.frz (re_lc rfl sc_law.nd (ri_range1 (fun h => pi_range1 rfl t.nm.rng h) (ra_cons (re_bin (fun a b => pe_op op_addA a b) opm_add re_int (re_cal (c_law_draw t) hr (by decide) (takes_of rfl rfl rfl rfl) rfl (ra_cons (re_var (pv 1)) (ra_cons re_int ra_nil)))) ra_nil)) (blkOk_by (own := [("_law_rule", 5)]) (N := n_law) (sc := defScope (top 28)) (by decide +kernel)) (fun s H C cl fp => (pg_name (i := 5) sc_law.nd rfl (Or.inl rfl))) gok_name (fun s H C cl fp => rts_nil) (fun s H C cl fp => (re_cal (c_law_drawn_rule t) hr (by decide) LamX.takes0 rfl (ra_cons (re_var (pv 1)) (ra_cons (re_var (pv 2)) ra_nil)))))) ra_nil))))
    (rss_cons (rs_for (passes_of rfl) rfl (ri_range1 (fun h => pi_range1 rfl t.nm.rng h) (ra_cons (re_cal (c_law_draw t) hr (by decide) (takes_of rfl rfl rfl rfl) rfl (ra_cons (re_var (pv 1)) (ra_cons re_int ra_nil))) ra_nil)) (pg_name (i := 6) sc_law.nd rfl (Or.inl rfl)) gok_name (rss_one (rs_set (fun h => ps_set (i := 4) sc_law.nd rfl (Or.inr rfl) h) (re_cal (c_law_bent t) hr (by decide) (takes_of rfl rfl rfl rfl) rfl (ra_cons (re_var (pv 1)) (ra_cons (re_var (pv 4)) (ra_cons (re_var (pv 2)) ra_nil)))))))
    (rss_cons (rs_asgG (fun h => ps_asg h (pg_tup rfl (pgs_cons (pg_name (i := 7) sc_law.nd rfl (Or.inl rfl)) (pgs_cons (pg_name (i := 8) sc_law.nd rfl (Or.inl rfl)) pgs_nil)))) (gok_tup (gsok_cons gok_name (gsok_cons gok_name gsok_nil))) (re_cal (c_law_due t) hr (by decide) (takes_of rfl rfl rfl rfl) rfl (ra_cons (re_var (pv 4)) (ra_cons (re_var (pv 2)) ra_nil))))
    (rss_cons (rs_set (fun h => ps_set (i := 9) sc_law.nd rfl (Or.inl rfl) h) (re_if (rt_bin (fun a b => pt_cmpR op_gt a b (nomark _)) opm_cmp (re_var (pv 7)) re_int) (RE.frz (re_lst (ra_cons re_str (ra_cons (re_var (pv 7)) (ra_cons (re_var (pv 8)) ra_nil))))) (RE.frz (re_lst ra_nil))))
    (rss_one (rs_if (rt_bin (fun a b => pt_cmpR (op_neD (hr).units) a b (nomark _)) opm_ne (re_lam (k := lamK) (g_law_refused t) rfl TB hcode hmT hu (hr.mono (by decide)) (lamS_by (sc := defScope (top 28)) (by decide +kernel)) rfl (fun _ _ _ _ _ => rfl) (fun A outer s H E f c' hrL => (re_make (c_Sort t) hrL (by decide) (takes_of rfl rfl rfl rfl) rfl (ra_cons (re_var (pv 2)) (ra_cons (re_var (pv 4)) ra_nil))))) (re_var (pv 9))) (rss_one (rs_ret re_bl)) rss_nil)))))))
    (rss_cons (rs_set (fun h => ps_set (i := 10) sc_law.nd rfl (Or.inr rfl) h) (re_cal (c_law_pick t) hr (by decide) (takes_of rfl rfl rfl rfl) rfl (ra_cons (re_var (pv 1)) (ra_cons (RE.frz (re_lst (ra_cons re_non (ra_cons re_int (ra_cons (RE.frz (re_lst (ra_cons re_str ra_nil))) (ra_cons (re_tup (ra_cons re_str ra_nil)) ra_nil)))))) ra_nil))))
    (rss_one (rs_ret (re_bin (fun a b => pe_cmpR (op_eqD (hr).units) a b (nomark _)) opm_eq (re_lam (k := lamK) (g_law_refused t) rfl TB hcode hmT hu (hr.mono (by decide)) (lamS_by (sc := defScope (top 28)) (by decide +kernel)) rfl (fun _ _ _ _ _ => rfl) (fun A outer s H E f c' hrL => (re_make (c_Sort t) hrL (by decide) (takes_of rfl rfl rfl rfl) rfl (ra_cons (re_var (pv 2)) (ra_cons (re_var (pv 10)) ra_nil))))) (re_lst (ra_cons re_str (ra_cons re_int (ra_cons re_int ra_nil))))))))))
end
end Kq
set_option Elab.async false
set_option linter.all false
set_option maxRecDepth 100000
set_option maxHeartbeats 400000
namespace Kq
open PySem PySem.Spec PyProof.Rows L2 LamX
local macro_rules | `(tactic| walk_at "kd") => `(tactic| first | decide | omega | (simp only [List.length_cons, List.length_nil]; omega))
local macro_rules | `(tactic| walk_at "kqf") => `(tactic| (with_reducible apply w_fn0; simp only [rho0, List.zipWith_cons_cons, List.zipWith_nil_left, List.zipWith_nil_right, slOf_val, slOf_rdL, List.length_cons, List.length_nil, Nat.reduceAdd, Nat.reduceSub, Nat.zero_add, List.replicate_succ, List.replicate_zero, List.nil_append, List.cons_append]))
local macro_rules | `(tactic| walk_at "kq1") => `(tactic| first
  | with_reducible apply w_seq
  | with_reducible apply w_next
  | with_reducible apply w_set
  | with_reducible apply w_call
  | with_reducible apply w_cons
  | with_reducible apply w_nil
  | ((with_reducible apply w_var); exact rfl)
  | with_reducible apply w_C
  | with_reducible apply w_bin
  | with_reducible apply w_un
  | with_reducible apply w_if
  | with_reducible apply w_tst
  | with_reducible apply w_tru
  | with_reducible apply w_not
  | with_reducible apply w_andB
  | with_reducible apply w_orB
  | with_reducible apply w_bl
  | with_reducible apply w_itT
  | with_reducible apply w_itF
  | with_reducible apply w_itNT
  | with_reducible apply w_itNF
  | with_reducible apply w_itXTT
  | with_reducible apply w_itXTF
  | with_reducible apply w_itXFT
  | with_reducible apply w_itXFF
  | with_reducible apply w_ret
  | with_reducible apply w_pTwo
  | with_reducible apply w_pThree
  | with_reducible apply w_pOne
  | with_reducible apply w_pOwn
  | with_reducible apply w_pInt
  | with_reducible apply w_setO
  | with_reducible apply w_par
  | with_reducible apply w_par3
  | ((with_reducible apply w_aug); exact rfl)
  | with_reducible apply w_drop
  | ((with_reducible apply w_app); exact rfl)
  | ((with_reducible apply w_ext); exact rfl)
  | ((with_reducible apply w_retN); exact rfl)
  | with_reducible apply w_retU
  | ((with_reducible apply w_frz); exact rfl)
  | with_reducible apply w_brk
  | with_reducible apply w_cnt
  | with_reducible apply w_asg
  | with_reducible apply w_for
  | with_reducible apply w_forN
  | walk_at "kqf"
  | with_reducible apply w_yes
  | with_reducible apply w_truB
  | with_reducible apply w_truN
  | with_reducible apply w_truI
  | with_reducible apply w_truL
  | with_reducible apply w_truT
  | ((with_reducible apply w_varR); exact rfl)
  | ((with_reducible apply w_varRo); exact rfl)
  | ((with_reducible apply w_varRb); exact rfl)
  | ((with_reducible apply w_varB); exact rfl)
  | with_reducible apply w_tup
  | with_reducible apply w_lst
  | with_reducible apply w_if10
  | with_reducible apply w_if20
  | with_reducible apply w_ifE
  | with_reducible apply w_andV
  | with_reducible apply w_orV
  | with_reducible apply w_notV
  | with_reducible apply w_items
  | with_reducible apply w_itA
  | with_reducible apply w_itL
  | with_reducible apply w_itTu
  | with_reducible apply w_itS
  | with_reducible apply w_noO
  | with_reducible apply w_soO
  | with_reducible apply w_sl
  | with_reducible apply w_lc
  | with_reducible apply w_fg
  | with_reducible apply w_toTupF
  | ((with_reducible apply w_rng1); rotate_left; try (first | exact ⟨by decide, by decide⟩ | omega); rotate_right)
  | ((with_reducible apply w_rng2); rotate_left; try (first | exact ⟨by decide, by decide, by decide, by decide⟩ | omega); rotate_right)
  | with_reducible apply w_enum
  | ((with_reducible apply w_zipZ); exact rfl; exact rfl)
  | with_reducible apply w_zipL
  | with_reducible apply w_zipT
  | with_reducible apply w_lam
  | ((with_reducible apply w_act); exact rfl)
  | ((with_reducible apply w_calV); exact rfl)
  | with_reducible apply w_lk0
  | ((with_reducible apply w_lkS); decide +kernel)
  | with_reducible apply w_tryE
  | with_reducible apply w_tryR
  | with_reducible apply w_tryA
  | with_reducible apply w_raise
  | ((with_reducible apply w_xf); exact rfl)
  | ((with_reducible apply w_hs1); decide +kernel)
  | ((with_reducible apply w_hs0); decide +kernel)
  | with_reducible apply w_hsN
  | with_reducible apply n_wxor
  | with_reducible apply n_wbits
  | with_reducible refine n_wsub ?_ (by omega)
  | with_reducible apply n_wadd
  | with_reducible apply n_wadd1
  | with_reducible apply n_wbit
  | with_reducible apply n_wshr
  | with_reducible refine n_wshl ?_ (by first | decide | omega) (by first | decide | omega)
  | with_reducible refine n_wshl ?_ ?_ (by omega)
  | with_reducible apply n_wshl
  | with_reducible refine n_wshl1 ?_ (by first | decide | omega)
  | with_reducible apply n_wshl1
  | ((with_reducible apply w_mod); rotate_left; try (first | decide | omega); rotate_right)
  | with_reducible apply w_mul
  | ((with_reducible apply w_fdv); rotate_left; try exact ⟨by decide, by decide⟩; rotate_right)
  | ((with_reducible apply w_pow); rotate_left; try exact ⟨by decide, by decide, by decide⟩; rotate_right)
  | with_reducible apply w_shl
  | ((with_reducible apply w_shr); rotate_left; try (first | decide | omega); rotate_right)
  | with_reducible apply w_and
  | with_reducible apply w_or
  | with_reducible apply w_xor
  | with_reducible apply w_addI
  | with_reducible apply w_sub
  | with_reducible apply w_fld
  | ((with_reducible apply w_pIns); decide +kernel)
  | ((with_reducible apply w_fldO); decide +kernel)
  | with_reducible apply w_put2
  | with_reducible apply w_pPair
  | ((with_reducible apply w_put4); decide +kernel; decide +kernel; exact rfl; exact rfl)
  | with_reducible apply w_put
  | ((with_reducible apply w_put3); decide +kernel; exact rfl; exact rfl)
  | with_reducible apply w_make
  | with_reducible apply w_m0
  | with_reducible apply w_m1
  | with_reducible apply w_pStr
  | with_reducible apply w_enumL
  | with_reducible apply w_enumS
  | with_reducible apply w_isdigit
  | with_reducible apply w_inS
  | with_reducible apply w_addB
  | with_reducible apply w_iaddI
  | with_reducible apply w_lt
  | with_reducible apply w_le
  | with_reducible apply w_gt
  | with_reducible apply w_ge
  | with_reducible apply w_neg
  | with_reducible apply w_bits
  | ((with_reducible apply w_ixL); exact rfl)
  | ((with_reducible apply w_ixT); exact rfl)
  | with_reducible apply w_lenL
  | with_reducible apply w_lenT
  | with_reducible apply w_toI
  | with_reducible apply w_toIb
  | with_reducible apply w_abs
  | with_reducible apply w_max2
  | with_reducible apply w_min2
  | with_reducible apply w_slL
  | with_reducible apply w_slDL
  | with_reducible apply w_lisL
  | with_reducible apply w_lisT
  | with_reducible apply w_tupL
  | with_reducible apply w_tupT
  | with_reducible apply w_isB
  | with_reducible apply w_isN
  | with_reducible apply w_reprB
  | ((with_reducible apply w_itdT); walk_at "kd")
  | ((with_reducible apply w_itdF); walk_at "kd")
  | ((with_reducible apply w_itnT); walk_at "kd")
  | ((with_reducible apply w_itnF); walk_at "kd")
  | ((with_reducible apply w_isi1); exact rfl; (first | exact kit_NoneType_int | exact kit_bool_int | exact kit_int_int | exact kit_str_int | exact kit_tuple_int | exact kit_list_int | exact kit_NoneType_bool | exact kit_bool_bool | exact kit_int_bool | exact kit_str_bool | exact kit_tuple_bool | exact kit_list_bool | exact kit_NoneType_str | exact kit_bool_str | exact kit_int_str | exact kit_str_str | exact kit_tuple_str | exact kit_list_str | exact kit_NoneType_tuple | exact kit_bool_tuple | exact kit_int_tuple | exact kit_str_tuple | exact kit_tuple_tuple | exact kit_list_tuple | exact kit_NoneType_list | exact kit_bool_list | exact kit_int_list | exact kit_str_list | exact kit_tuple_list | exact kit_list_list | exact kit_dict_int | exact kit_dict_bool | exact kit_dict_str | exact kit_dict_tuple | exact kit_dict_list))
  | with_reducible apply w_eqI
  | with_reducible apply w_neI
  | ((with_reducible apply w_sz); exact rfl)
  | ((with_reducible apply w_len2); exact rfl; exact rfl))
local macro_rules | `(tactic| walk_at "kq") => `(tactic| ((repeat (walk_at "kq1")); try simp only [List.set_cons_zero, List.set_cons_succ, List.zip_cons_cons, List.zip_nil_left, List.zip_nil_right, List.reverse_cons, List.reverse_nil, List.nil_append, List.cons_append]))

/-! ### texts of any codes -/
theorem tz_of (z : Str) : z = tz z.cps.toList := by
  cases z
  rfl
theorem has_char (us : List Nat) (u : Nat) : (!(Builtin.Str.occurrences (tz us) (tz [u]) 0 (tz us).length 1).isEmpty) = us.contains u := by
  rw [Bool.eq_iff_iff, StrLaws.found_iff, List.contains_iff_mem, List.mem_iff_getElem?]
  constructor
  · rintro ⟨i, h⟩
    exact ⟨i, (StrLaws.subAt_one (tz us) u i).mp h⟩
  · rintro ⟨i, h⟩
    exact ⟨i, (StrLaws.subAt_one (tz us) u i).mpr h⟩
theorem rng_atG {lo : Nat} {i m : Nat} {d : D} (h : (rngD (lo : Int) m)[i]? = some d) : d = .int ((lo + i : Nat) : Int) ∧ i < m := by
  have hi : i < (rngD (lo : Int) m).length := (List.getElem?_eq_some_iff.mp h).1
  rw [rngD_length] at hi
  unfold rngD at h
  rw [List.getElem?_map, List.getElem?_range hi] at h
  cases h
  exact ⟨rfl, hi⟩
/-! ### numbers as words -/
def dg (p : Nat) : List Nat := if p < 10 then [48 + p] else [48 + p / 10, 48 + p % 10]
theorem dg_str : ∀ p, p < 30 → ((toString ((p : Nat) : Int) : String) : Str) = tz (dg p) := by decide +kernel
theorem dg_len (p : Nat) : 0 < (dg p).length ∧ (dg p).length ≤ 2 := by unfold dg; split <;> simp
theorem dg_inj {p q : Nat} (hp : p < 100) (hq : q < 100) (h : dg p = dg q) : p = q := by
  unfold dg at h
  split at h <;> split at h <;> simp at h <;> omega
theorem int1 : ∀ a, a < 10 → PySem.intText? (tz [48 + a]) = some ((a : Nat) : Int) := by decide +kernel
theorem int2 : ∀ a, a < 10 → ∀ b, b < 10 → PySem.intText? (tz [48 + a, 48 + b]) = some ((10 * a + b : Nat) : Int) := by decide +kernel
def nOf (m : Nat) (z : Str) : Option Nat := (List.range (m + 1)).find? fun k => decide (z = tz (dg k))
theorem nOf_some {m k : Nat} {z : Str} (h : nOf m z = some k) : k ≤ m ∧ z = tz (dg k) := by
  have h1 := List.find?_some h
  have h2 := List.mem_of_find?_eq_some h
  rw [List.mem_range] at h2
  exact ⟨by omega, of_decide_eq_true h1⟩
theorem nOf_none {m : Nat} {z : Str} : nOf m z = none ↔ ∀ k, k ≤ m → z ≠ tz (dg k) := by
  unfold nOf
  rw [List.find?_eq_none]
  constructor
  · intro h k hk e
    exact h k (List.mem_range.mpr (by omega)) (decide_eq_true e)
  · intro h k hk e
    exact h k (by have := List.mem_range.mp hk; omega) (of_decide_eq_true e)
theorem nOf_eq {m k : Nat} (hm : m < 100) (hk : k ≤ m) : nOf m (tz (dg k)) = some k := by
  cases h : nOf m (tz (dg k)) with
  | none => exact absurd rfl (nOf_none.mp h k hk)
  | some j =>
    obtain ⟨h1, h2⟩ := nOf_some h
    rw [dg_inj (by omega) (by omega) (tz_inj h2)]
def oD : Option Nat → D
  | none => .non
  | some k => .int ((k : Nat) : Int)
def figs : List Nat := [48, 49, 50, 51, 52, 53, 54, 55, 56, 57]
theorem q_figs : ("0123456789" : Str) = tz figs := by decide +kernel
theorem q_em : ("" : Str) = tz [] := by decide +kernel
theorem q_0 : ("0" : Str) = tz [48] := by decide +kernel
theorem fig_iff {u : Nat} : figs.contains u = true ↔ ∃ a, a < 10 ∧ u = 48 + a := by
  rw [List.contains_iff_mem]
  unfold figs
  simp only [List.mem_cons, List.not_mem_nil, or_false]
  constructor
  · intro h
    exact ⟨u - 48, by omega, by omega⟩
  · rintro ⟨a, h, rfl⟩
    omega
theorem dg_fig {p : Nat} (hp : p < 100) : (dg p).all figs.contains = true := by
  rw [List.all_eq_true]
  intro u hu
  rw [fig_iff]
  unfold dg at hu
  split at hu
  · simp at hu; exact ⟨p, by omega, hu⟩
  · simp at hu
    rcases hu with rfl | rfl
    · exact ⟨p / 10, by omega, rfl⟩
    · exact ⟨p % 10, by omega, rfl⟩
theorem fold_and (bs : List Bool) : bs.foldr (· && ·) true = bs.all id := by
  induction bs with
  | nil => rfl
  | cons b r ih => rw [List.foldr_cons, ih, List.all_cons]; rfl
/-- what number_told tells -/
theorem nOf_cut {m : Nat} (hm : m ≤ 24) (us : List Nat) : nOf m (tz us) = if us = [] ∨ 2 < us.length ∨ us.all figs.contains = false then none else
    match us with
    | [u] => if m < u - 48 then none else some (u - 48)
    | [u, v] => if u = 48 ∨ m < 10 * (u - 48) + (v - 48) then none else some (10 * (u - 48) + (v - 48))
    | _ => none := by
  split
  · rename_i h
    refine nOf_none.mpr fun k hk e => ?_
    have e := tz_inj e
    subst e
    have h1 := dg_len k
    rcases h with h | h | h
    · rw [h] at h1; exact absurd h1.1 (by decide)
    · omega
    · rw [dg_fig (by omega)] at h; cases h
  · rename_i h
    rw [not_or, not_or] at h
    obtain ⟨h1, h2, h3⟩ := h
    have h3 : us.all figs.contains = true := by simpa using h3
    match us, h1, h2, h3 with
    | [u], _, _, h3 =>
      rw [List.all_cons, Bool.and_eq_true] at h3
      obtain ⟨a, ha, rfl⟩ := fig_iff.mp h3.1
      have e : tz [48 + a] = tz (dg a) := by unfold dg; rw [if_pos ha]
      show _ = if m < 48 + a - 48 then none else some (48 + a - 48)
      rw [e, Nat.add_sub_cancel_left]
      split
      · refine nOf_none.mpr fun k hk e2 => ?_
        have := dg_inj (by omega) (by omega) (tz_inj e2)
        omega
      · exact nOf_eq (by omega) (by omega)
    | [u, v], _, _, h3 =>
      rw [List.all_cons, List.all_cons, Bool.and_eq_true, Bool.and_eq_true] at h3
      obtain ⟨a, ha, rfl⟩ := fig_iff.mp h3.1
      obtain ⟨b, hb, rfl⟩ := fig_iff.mp h3.2.1
      show _ = if 48 + a = 48 ∨ m < 10 * (48 + a - 48) + (48 + b - 48) then none else some (10 * (48 + a - 48) + (48 + b - 48))
      rw [Nat.add_sub_cancel_left, Nat.add_sub_cancel_left]
      by_cases a0 : a = 0
      · rw [if_pos (.inl (by omega))]
        subst a0
        refine nOf_none.mpr fun k hk e2 => ?_
        have e2 := tz_inj e2
        unfold dg at e2
        split at e2
        · simp at e2
        · simp at e2; omega
      · have e : tz [48 + a, 48 + b] = tz (dg (10 * a + b)) := by
          unfold dg
          rw [if_neg (by omega), show (10 * a + b) / 10 = a by omega, show (10 * a + b) % 10 = b by omega]
        rw [e]
        split
        · refine nOf_none.mpr fun k hk e2 => ?_
          have := dg_inj (by omega) (by omega) (tz_inj e2)
          omega
        · exact nOf_eq (by omega) (by omega)
    | u :: v :: w :: r, _, h2, _ => exact absurd h2 (by simp)
/-! ### codes within bounds -/
def so (z : Str) : Prop := ∀ u ∈ z.cps.toList, u < 0x110000
theorem so_ok {z : Str} (h : so z) : PyData.strOk z = true := by
  show z.cps.all (fun x => decide (x < 0x110000)) = true
  rw [Array.all_eq_true]
  intro i hi
  exact decide_eq_true (h _ (Array.mem_toList_iff.mpr (Array.getElem_mem hi)))
theorem join_mem {y p : Str} {u : Nat} : ∀ {l : List Str}, p ∈ l → u ∈ p.cps.toList → u ∈ (Str.join y l).cps.toList
  | [x], h, hu => by
    rw [List.mem_singleton.mp h] at hu
    exact hu
  | x :: x2 :: r, h, hu => by
    show u ∈ (x ++ y ++ Str.join y (x2 :: r)).cps.toList
    have e : ∀ a b : Str, (a ++ b).cps.toList = a.cps.toList ++ b.cps.toList := fun a b => by
      show (a.cps ++ b.cps).toList = _
      simp
    rw [e, e, List.append_assoc]
    rcases List.mem_cons.mp h with rfl | h
    · exact List.mem_append_left _ hu
    · exact List.mem_append_right _ (List.mem_append_right _ (join_mem h hu))
theorem so_split {z y p : Str} (h : so z) (hp : p ∈ Txt.split z y) : so p := fun u hu => h u (by
  have := join_mem (y := y) hp hu
  rw [StrLaws.join_split] at this
  exact this)
theorem so_tz {us : List Nat} (h : ∀ u ∈ us, u < 0x110000) : so (tz us) := fun u hu => h u (by simpa [tz] using hu)
theorem so_dg {k : Nat} (hk : k < 100) : so (tz (dg k)) := so_tz fun u hu => by
  have := List.all_eq_true.mp (dg_fig hk) u hu
  obtain ⟨a, h, rfl⟩ := fig_iff.mp this
  omega
section
variable {P Q : D → Nat → Prop} {E : XC → Nat → Prop} {c m : Nat} {z : Str} {us : List Nat}
theorem w_itbT {b : Bool} {A B : Prop} (e : b = true) (h : A) : if b = true then A else B := by rw [if_pos e]; exact h
theorem w_itbF {b : Bool} {A B : Prop} (e : b = false) (h : B) : if b = true then A else B := by rw [if_neg (by rw [e]; exact Bool.false_ne_true)]; exact h
theorem tz_dec (a b : List Nat) : decide (tz a = tz b) = decide (a = b) := decide_eq_decide.mpr ⟨tz_inj, fun h => congrArg tz h⟩
theorem z_in (us : List Nat) (u : Nat) {k : Bool} (h : P (.bl (k ^^ us.contains u)) c) : dIn k (.str (tz [u])) (.str (tz us)) c P E := w_inS (by rw [has_char]; exact h)
theorem s_num (hz : so z) (hl : z.length ≤ 50000) (hm : m ≤ 24) (h : P (oD (nOf m z)) c) : f_number_told [.str z, .int ((m : Nat) : Int)] c P E := by
  have ez := tz_of z
  generalize z.cps.toList = us at ez
  subst ez
  rw [nOf_cut hm] at h
  have hlu : us.length ≤ 50000 := by rw [tz_len] at hl; exact hl
  have hcomp : ∀ {K : D → Nat → Prop}, K (.bl (us.all figs.contains)) c → mCall dAll (mCons (mLc (mItems (mVar 0)) (fName 2) mYes (mBin (dIn false) (mVar 2) (mC (.str "0123456789"))) (([("sign", 2)] : List (Str × Nat)).map (·.2))) mNil) [.val (.str (tz us)), .val (.int ((m : Nat) : Int)), .no] c K E := by
    intro K hK
    walk_at "kq"
    refine lc_mp (fun d => match d with | .str z => .bl (figs.contains (z.cps.toList.headD 0)) | _ => .non) (by rw [List.length_map]; show us.toArray.toList.length ≤ _; simp; omega) (fun d K1 K2 hd hk => ?_) ?_
    · obtain ⟨u, hu, rfl⟩ := List.mem_map.mp hd
      refine ⟨_, rfl, ?_⟩
      walk_at "kq"
      rw [q_figs]
      show K1 (.bl (false ^^ !(Builtin.Str.occurrences (tz figs) (tz [u]) 0 (tz figs).length 1).isEmpty)) c
      rw [has_char, Bool.false_xor]
      exact hk
    · walk_at "kq"
      have e : (((tz us).cps.toList.map fun c => D.str ⟨#[c]⟩).map fun d => match d with | .str z => D.bl (figs.contains (z.cps.toList.headD 0)) | _ => .non) = (us.map figs.contains).map D.bl := by
        rw [List.map_map, List.map_map]
        show us.toArray.toList.map _ = _
        rfl
      rw [e]
      refine w_all ?_
      rw [fold_and]
      have e2 : (us.map figs.contains).all id = us.all figs.contains := by rw [List.all_map]; rfl
      rw [e2]
      exact hK
  unfold f_number_told ms_number_told
  walk_at "kq"
  refine w_eqS (so_ok hz) (so_ok (so_tz (us := []) (by simp))) ?_
  rw [q_em, tz_dec]
  by_cases h0 : us = []
  · rw [if_pos (.inl h0)] at h
    subst h0
    walk_at "kq"
    exact h
  refine w_bl ?_
  refine w_itbF (decide_eq_false h0) ?_
  refine w_orB ?_
  walk_at "kq"
  refine w_lenS ?_ (by rw [tz_len]; exact Nat.le_trans hlu (by decide))
  walk_at "kq"
  rw [tz_len]
  by_cases h1 : 2 < us.length
  · rw [if_pos (.inr (.inl h1))] at h
    refine w_itbT (decide_eq_true (by omega)) ?_
    walk_at "kq"
    exact h
  refine w_itbF (decide_eq_false (by omega)) ?_
  refine w_not ?_
  refine w_tru ?_
  refine hcomp ?_
  refine w_truB ?_
  by_cases h2 : us.all figs.contains = false
  · rw [if_pos (.inr (.inr h2))] at h
    rw [h2]
    walk_at "kq"
    exact h
  rw [if_neg (by rw [not_or, not_or]; exact ⟨h0, h1, h2⟩)] at h
  have h2 : us.all figs.contains = true := by simpa using h2
  rw [h2]
  walk_at "kq"
  clear hcomp
  match us, h0, h1, h2 with
  | [u], _, _, h2 =>
    rw [List.all_cons, Bool.and_eq_true] at h2
    obtain ⟨a, ha, rfl⟩ := fig_iff.mp h2.1
    refine w_lenS ?_ (by rw [tz_len]; exact Nat.le_of_ble_eq_true rfl)
    rw [tz_len]
    walk_at "kq"
    refine w_toIS (int1 a ha) ?_ (by rw [tz_len]; exact Nat.le_of_ble_eq_true rfl)
    walk_at "kq"
    have h : P (oD (if m < 48 + a - 48 then none else some (48 + a - 48))) c := h
    rw [Nat.add_sub_cancel_left] at h
    by_cases hma : m < a
    · rw [if_pos hma] at h
      refine w_itbT (decide_eq_true (by omega)) ?_
      walk_at "kq"
      exact h
    · rw [if_neg hma] at h
      refine w_itbF (decide_eq_false (by omega)) ?_
      walk_at "kq"
      refine w_toIS (int1 a ha) ?_ (by rw [tz_len]; exact Nat.le_of_ble_eq_true rfl)
      exact h
  | [u, v], _, _, h2 =>
    rw [List.all_cons, List.all_cons, Bool.and_eq_true, Bool.and_eq_true] at h2
    obtain ⟨a, ha, rfl⟩ := fig_iff.mp h2.1
    obtain ⟨b, hb, rfl⟩ := fig_iff.mp h2.2.1
    have h : P (oD (if 48 + a = 48 ∨ m < 10 * (48 + a - 48) + (48 + b - 48) then none else some (10 * (48 + a - 48) + (48 + b - 48)))) c := h
    rw [Nat.add_sub_cancel_left, Nat.add_sub_cancel_left] at h
    refine w_lenS ?_ (by rw [tz_len]; exact Nat.le_of_ble_eq_true rfl)
    rw [tz_len]
    walk_at "kq"
    refine z_ix (i := 0) (u := 48 + a) rfl ?_ (by simp)
    walk_at "kq"
    rw [q_0]
    refine w_eqS (so_ok (so_tz (us := [48 + a]) (by intro u hu; rw [List.mem_singleton.mp hu]; omega))) (so_ok (so_tz (us := [48]) (by intro u hu; rw [List.mem_singleton.mp hu]; omega))) ?_
    rw [tz_dec]
    walk_at "kq"
    by_cases h0 : a = 0
    · subst h0
      rw [if_pos (.inl rfl)] at h
      refine w_itbT rfl ?_
      walk_at "kq"
      exact h
    refine w_itbF (decide_eq_false (by simp; omega)) ?_
    walk_at "kq"
    refine w_toIS (int2 a ha b hb) ?_ (by rw [tz_len]; exact Nat.le_of_ble_eq_true rfl)
    walk_at "kq"
    by_cases hma : m < 10 * a + b
    · rw [if_pos (.inr hma)] at h
      refine w_itbT (decide_eq_true (by omega)) ?_
      walk_at "kq"
      exact h
    · rw [if_neg (by omega)] at h
      refine w_itbF (decide_eq_false (by omega)) ?_
      walk_at "kq"
      refine w_toIS (int2 a ha b hb) ?_ (by rw [tz_len]; exact Nat.le_of_ble_eq_true rfl)
      exact h
  | u :: v :: w :: r, _, h1, _ => exact absurd (by simp) h1
end
end Kq
set_option Elab.async false
set_option linter.all false
set_option maxRecDepth 100000
set_option maxHeartbeats 400000
namespace Kq
open PySem PySem.Spec PyProof.Rows L2 LamX
local macro_rules | `(tactic| walk_at "kd") => `(tactic| first | decide | omega | (simp only [List.length_cons, List.length_nil]; omega))
local macro_rules | `(tactic| walk_at "kqf") => `(tactic| (with_reducible apply w_fn0; simp only [rho0, List.zipWith_cons_cons, List.zipWith_nil_left, List.zipWith_nil_right, slOf_val, slOf_rdL, List.length_cons, List.length_nil, Nat.reduceAdd, Nat.reduceSub, Nat.zero_add, List.replicate_succ, List.replicate_zero, List.nil_append, List.cons_append]))
local macro_rules | `(tactic| walk_at "kq1") => `(tactic| first
  | with_reducible apply w_seq
  | with_reducible apply w_next
  | with_reducible apply w_set
  | with_reducible apply w_call
  | with_reducible apply w_cons
  | with_reducible apply w_nil
  | ((with_reducible apply w_var); exact rfl)
  | with_reducible apply w_C
  | with_reducible apply w_bin
  | with_reducible apply w_un
  | with_reducible apply w_if
  | with_reducible apply w_tst
  | with_reducible apply w_tru
  | with_reducible apply w_not
  | with_reducible apply w_andB
  | with_reducible apply w_orB
  | with_reducible apply w_bl
  | with_reducible apply w_itT
  | with_reducible apply w_itF
  | with_reducible apply w_itNT
  | with_reducible apply w_itNF
  | with_reducible apply w_itXTT
  | with_reducible apply w_itXTF
  | with_reducible apply w_itXFT
  | with_reducible apply w_itXFF
  | with_reducible apply w_ret
  | with_reducible apply w_pTwo
  | with_reducible apply w_pThree
  | with_reducible apply w_pOne
  | with_reducible apply w_pOwn
  | with_reducible apply w_pInt
  | with_reducible apply w_setO
  | with_reducible apply w_par
  | with_reducible apply w_par3
  | ((with_reducible apply w_aug); exact rfl)
  | with_reducible apply w_drop
  | ((with_reducible apply w_app); exact rfl)
  | ((with_reducible apply w_ext); exact rfl)
  | ((with_reducible apply w_retN); exact rfl)
  | with_reducible apply w_retU
  | ((with_reducible apply w_frz); exact rfl)
  | with_reducible apply w_brk
  | with_reducible apply w_cnt
  | with_reducible apply w_asg
  | with_reducible apply w_for
  | with_reducible apply w_forN
  | walk_at "kqf"
  | with_reducible apply w_yes
  | with_reducible apply w_truB
  | with_reducible apply w_truN
  | with_reducible apply w_truI
  | with_reducible apply w_truL
  | with_reducible apply w_truT
  | ((with_reducible apply w_varR); exact rfl)
  | ((with_reducible apply w_varRo); exact rfl)
  | ((with_reducible apply w_varRb); exact rfl)
  | ((with_reducible apply w_varB); exact rfl)
  | with_reducible apply w_tup
  | with_reducible apply w_lst
  | with_reducible apply w_if10
  | with_reducible apply w_if20
  | with_reducible apply w_ifE
  | with_reducible apply w_andV
  | with_reducible apply w_orV
  | with_reducible apply w_notV
  | with_reducible apply w_items
  | with_reducible apply w_itA
  | with_reducible apply w_itL
  | with_reducible apply w_itTu
  | with_reducible apply w_itS
  | with_reducible apply w_noO
  | with_reducible apply w_soO
  | with_reducible apply w_sl
  | with_reducible apply w_lc
  | with_reducible apply w_fg
  | with_reducible apply w_toTupF
  | ((with_reducible apply w_rng1); rotate_left; try (first | exact ⟨by decide, by decide⟩ | omega); rotate_right)
  | ((with_reducible apply w_rng2); rotate_left; try (first | exact ⟨by decide, by decide, by decide, by decide⟩ | omega); rotate_right)
  | with_reducible apply w_enum
  | ((with_reducible apply w_zipZ); exact rfl; exact rfl)
  | with_reducible apply w_zipL
  | with_reducible apply w_zipT
  | with_reducible apply w_lam
  | ((with_reducible apply w_act); exact rfl)
  | ((with_reducible apply w_calV); exact rfl)
  | with_reducible apply w_lk0
  | ((with_reducible apply w_lkS); decide +kernel)
  | with_reducible apply w_tryE
  | with_reducible apply w_tryR
  | with_reducible apply w_tryA
  | with_reducible apply w_raise
  | ((with_reducible apply w_xf); exact rfl)
  | ((with_reducible apply w_hs1); decide +kernel)
  | ((with_reducible apply w_hs0); decide +kernel)
  | with_reducible apply w_hsN
  | with_reducible apply n_wxor
  | with_reducible apply n_wbits
  | with_reducible refine n_wsub ?_ (by omega)
  | with_reducible apply n_wadd
  | with_reducible apply n_wadd1
  | with_reducible apply n_wbit
  | with_reducible apply n_wshr
  | with_reducible refine n_wshl ?_ (by first | decide | omega) (by first | decide | omega)
  | with_reducible refine n_wshl ?_ ?_ (by omega)
  | with_reducible apply n_wshl
  | with_reducible refine n_wshl1 ?_ (by first | decide | omega)
  | with_reducible apply n_wshl1
  | ((with_reducible apply w_mod); rotate_left; try (first | decide | omega); rotate_right)
  | with_reducible apply w_mul
  | ((with_reducible apply w_fdv); rotate_left; try exact ⟨by decide, by decide⟩; rotate_right)
  | ((with_reducible apply w_pow); rotate_left; try exact ⟨by decide, by decide, by decide⟩; rotate_right)
  | with_reducible apply w_shl
  | ((with_reducible apply w_shr); rotate_left; try (first | decide | omega); rotate_right)
  | with_reducible apply w_and
  | with_reducible apply w_or
  | with_reducible apply w_xor
  | with_reducible apply w_addI
  | with_reducible apply w_sub
  | with_reducible apply w_fld
  | ((with_reducible apply w_pIns); decide +kernel)
  | ((with_reducible apply w_fldO); decide +kernel)
  | with_reducible apply w_put2
  | with_reducible apply w_pPair
  | ((with_reducible apply w_put4); decide +kernel; decide +kernel; exact rfl; exact rfl)
  | with_reducible apply w_put
  | ((with_reducible apply w_put3); decide +kernel; exact rfl; exact rfl)
  | with_reducible apply w_make
  | with_reducible apply w_m0
  | with_reducible apply w_m1
  | with_reducible apply w_pStr
  | with_reducible apply w_enumL
  | with_reducible apply w_enumS
  | with_reducible apply w_isdigit
  | with_reducible apply w_inS
  | with_reducible apply w_addB
  | with_reducible apply w_iaddI
  | with_reducible apply w_lt
  | with_reducible apply w_le
  | with_reducible apply w_gt
  | with_reducible apply w_ge
  | with_reducible apply w_neg
  | with_reducible apply w_bits
  | ((with_reducible apply w_ixL); exact rfl)
  | ((with_reducible apply w_ixT); exact rfl)
  | with_reducible apply w_lenL
  | with_reducible apply w_lenT
  | with_reducible apply w_toI
  | with_reducible apply w_toIb
  | with_reducible apply w_abs
  | with_reducible apply w_max2
  | with_reducible apply w_min2
  | with_reducible apply w_slL
  | with_reducible apply w_slDL
  | with_reducible apply w_lisL
  | with_reducible apply w_lisT
  | with_reducible apply w_tupL
  | with_reducible apply w_tupT
  | with_reducible apply w_isB
  | with_reducible apply w_isN
  | with_reducible apply w_reprB
  | ((with_reducible apply w_itdT); walk_at "kd")
  | ((with_reducible apply w_itdF); walk_at "kd")
  | ((with_reducible apply w_itnT); walk_at "kd")
  | ((with_reducible apply w_itnF); walk_at "kd")
  | ((with_reducible apply w_isi1); exact rfl; (first | exact kit_NoneType_int | exact kit_bool_int | exact kit_int_int | exact kit_str_int | exact kit_tuple_int | exact kit_list_int | exact kit_NoneType_bool | exact kit_bool_bool | exact kit_int_bool | exact kit_str_bool | exact kit_tuple_bool | exact kit_list_bool | exact kit_NoneType_str | exact kit_bool_str | exact kit_int_str | exact kit_str_str | exact kit_tuple_str | exact kit_list_str | exact kit_NoneType_tuple | exact kit_bool_tuple | exact kit_int_tuple | exact kit_str_tuple | exact kit_tuple_tuple | exact kit_list_tuple | exact kit_NoneType_list | exact kit_bool_list | exact kit_int_list | exact kit_str_list | exact kit_tuple_list | exact kit_list_list | exact kit_dict_int | exact kit_dict_bool | exact kit_dict_str | exact kit_dict_tuple | exact kit_dict_list))
  | with_reducible apply w_eqI
  | with_reducible apply w_neI
  | ((with_reducible apply w_sz); exact rfl)
  | ((with_reducible apply w_len2); exact rfl; exact rfl))
local macro_rules | `(tactic| walk_at "kq") => `(tactic| ((repeat (walk_at "kq1")); try simp only [List.set_cons_zero, List.set_cons_succ, List.zip_cons_cons, List.zip_nil_left, List.zip_nil_right, List.reverse_cons, List.reverse_nil, List.nil_append, List.cons_append]))

/-! ### pairs of places -/
def pO : List (Option Nat) → Option (Nat × Nat)
  | [some i, some j] => if i = j then none else some (min i j, max i j)
  | _ => none
theorem pO_len {os : List (Option Nat)} (h : os.length ≠ 2) : pO os = none := by
  unfold pO
  split
  · exact absurd rfl h
  · rfl
def pairO (size : Nat) (z : Str) : Option (Nat × Nat) := pO ((Txt.split z "-").map (nOf (size - 1)))
def oP : Option (Nat × Nat) → D
  | none => .non
  | some (a, b) => .tup [.int ((a : Nat) : Int), .int ((b : Nat) : Int)]
def oY : Option Nat → PyData
  | none => .none
  | some k => .int ((k : Nat) : Int)
theorem oD_py (o : Option Nat) : toPy (oD o) = some (oY o) := by cases o <;> rfl
theorem oY_eqv (a b : Option Nat) : PyData.eqv (oY a) (oY b) = decide (a = b) := by
  cases a <;> cases b
  · rfl
  · rfl
  · rfl
  · rename_i a b
    show (((a : Nat) : Int) == ((b : Nat) : Int)) = _
    rw [Bool.eq_iff_iff, beq_iff_eq, decide_eq_true_iff]
    constructor
    · intro h
      rw [show a = b by omega]
    · intro h
      cases h
      rfl
theorem oY_lay (o : Option Nat) : (oY o).canLay0 = true ∧ (oY o).depth ≤ 1 := by
  cases o
  · exact ⟨rfl, by decide⟩
  · exact ⟨rfl, by simp [oY, PyData.depth]⟩
theorem sh_of {x : PyData} (h : x.canLay0 = true) (h2 : x.depth ≤ 64) : SeqAt.shaped x = true := by
  unfold SeqAt.shaped
  rw [h, decide_eq_true h2]
  rfl
theorem lay_all {ys : List PyData} (h : ∀ y ∈ ys, y.canLay0 = true) : PyData.canLayAll0 ys = true := by
  induction ys with
  | nil => rfl
  | cons y r ih =>
    show (y.canLay0 && PyData.canLayAll0 r) = true
    rw [h y (List.mem_cons_self ..), ih fun z hz => h z (List.mem_cons_of_mem _ hz)]
    rfl
theorem depth_all {ys : List PyData} {k : Nat} (h : ∀ y ∈ ys, y.depth ≤ k) : PyData.depthAll ys ≤ k := by
  induction ys with
  | nil => exact Nat.zero_le _
  | cons y r ih =>
    have h1 := h y (List.mem_cons_self ..)
    have h2 := ih fun z hz => h z (List.mem_cons_of_mem _ hz)
    show max y.depth (PyData.depthAll r) ≤ k
    omega
theorem sh_list {ys : List PyData} {k : Nat} (hk : k ≤ 63) (h : ∀ y ∈ ys, y.canLay0 = true) (h2 : ∀ y ∈ ys, y.depth ≤ k) : SeqAt.shaped (.list ys) = true := by
  refine sh_of (lay_all h) ?_
  have := depth_all h2
  show PyData.depthAll ys + 1 ≤ 64
  omega
section
variable {P Q : D → Nat → Prop} {E : XC → Nat → Prop} {c m size : Nat} {z : Str} {us : List Nat}
theorem q_dash : ("-" : Str) = tz [45] := by decide +kernel
theorem split_le (z y : Str) : (Txt.split z y).length ≤ z.length + 2 := PyProof.Rows.split_le z y
theorem len_nat {z : Str} {k : Nat} (h : z.length ≤ k) (hk : k ≤ 50000) : z.length + 2 ≤ sizeLine := Nat.le_trans (show _ ≤ 50002 by omega) (Nat.le_of_ble_eq_true rfl)
theorem s_isnum (hz : so z) (hm : m ≤ 24) (h : P (.bl (nOf m z).isSome) c) : f_law_is_number [.str z, .int ((m : Nat) : Int)] c P E := by
  unfold f_law_is_number ms_law_is_number
  walk_at "kq"
  rw [show (((m : Nat) : Int) + 1).toNat = m + 1 by omega]
  refine lc_mp (fun d => match d with | .int k => .str (tz (dg k.toNat)) | _ => .non) (by rw [rngD_length]; omega) (fun d K1 K2 hd hk => ?_) ?_
  · obtain ⟨i, hi⟩ := List.mem_iff_getElem?.mp hd
    obtain ⟨rfl, hi⟩ := rng_atG (lo := 0) hi
    refine ⟨_, rfl, ?_⟩
    walk_at "kq"
    rw [Nat.zero_add] at hk ⊢
    refine w_toStr ?_ ?_
    · rw [dg_str i (by omega)]
      have hk : K1 (.str (tz (dg ((i : Nat) : Int).toNat))) c := hk
      rw [Int.toNat_natCast] at hk
      exact hk
    · rw [Int.natAbs_natCast]
      by_cases h0 : i = 0
      · subst h0; decide
      · exact Nat.lt_of_lt_of_le ((Nat.log2_lt h0).mpr (show i < 2 ^ 10 by omega)) (by decide)
  · have e : ((rngD 0 (m + 1)).map fun d => match d with | .int k => D.str (tz (dg k.toNat)) | _ => .non) = (List.range (m + 1)).map fun k => D.str (tz (dg k)) := by
      unfold rngD
      rw [List.map_map]
      refine List.map_congr_left fun k _ => ?_
      show D.str (tz (dg (0 + ((k : Nat) : Int)).toNat)) = _
      rw [Int.zero_add, Int.toNat_natCast]
    rw [e]
    refine w_inL ?_ ⟨rfl, ?_⟩
    · rw [List.any_map, Bool.false_xor]
      have e2 : ((List.range (m + 1)).any ((fun e => dEqF e (D.str z)) ∘ fun k => D.str (tz (dg k)))) = (nOf m z).isSome := by
        unfold nOf
        rw [Bool.eq_iff_iff, List.find?_isSome, List.any_eq_true]
        constructor
        · rintro ⟨k, hk, e⟩
          have e : (tz (dg k) == z) = true := e
          exact ⟨k, hk, decide_eq_true (eq_of_beq e).symm⟩
        · rintro ⟨k, hk, e⟩
          refine ⟨k, hk, ?_⟩
          show (tz (dg k) == z) = true
          rw [of_decide_eq_true e]
          exact beq_self_eq_true _
      rw [e2]
      exact h
    · rw [List.all_map, List.all_eq_true]
      intro k _
      rfl
theorem mem_min {i j : Nat} (h : P (.int ((min i j : Nat) : Int)) c) : dMinL [.lst [.int ((i : Nat) : Int), .int ((j : Nat) : Int)]] c P E := by
  refine ⟨[((i : Nat) : Int), ((j : Nat) : Int)], rfl, Nat.zero_lt_two, fun m hm hle => ?_⟩
  have h1 := hle ((i : Nat) : Int) (List.mem_cons_self ..)
  have h2 := hle ((j : Nat) : Int) (List.mem_cons_of_mem _ (List.mem_cons_self ..))
  have h3 : m = ((min i j : Nat) : Int) := by
    rcases List.mem_cons.mp hm with q | q
    · omega
    · have := List.mem_singleton.mp q
      omega
  rw [h3]
  exact h
theorem mem_max {i j : Nat} (h : P (.int ((max i j : Nat) : Int)) c) : dMaxL [.lst [.int ((i : Nat) : Int), .int ((j : Nat) : Int)]] c P E := by
  refine ⟨[((i : Nat) : Int), ((j : Nat) : Int)], rfl, Nat.zero_lt_two, fun m hm hle => ?_⟩
  have h1 := hle ((i : Nat) : Int) (List.mem_cons_self ..)
  have h2 := hle ((j : Nat) : Int) (List.mem_cons_of_mem _ (List.mem_cons_self ..))
  have h3 : m = ((max i j : Nat) : Int) := by
    rcases List.mem_cons.mp hm with q | q
    · omega
    · have := List.mem_singleton.mp q
      omega
  rw [h3]
  exact h
theorem s_pair (hz : so z) (hl : z.length ≤ 50000) (h0 : 1 ≤ size) (h1 : size ≤ 24) (h : P (oP (pairO size z)) c) : f_pair_told [.str z, .int ((size : Nat) : Int)] c P E := by
  unfold f_pair_told ms_pair_told
  walk_at "kq"
  refine w_split ?_ (by decide +kernel) (len_nat hl (Nat.le_refl _))
  walk_at "kq"
  refine lc_mp (fun d => match d with | .str p => oD (nOf (size - 1) p) | _ => .non) (by rw [List.length_map]; have := split_le z "-"; omega) (fun d K1 K2 hd hk => ?_) ?_
  · obtain ⟨p, hp, rfl⟩ := List.mem_map.mp hd
    refine ⟨_, rfl, ?_⟩
    walk_at "kq"
    rw [show ((size : Nat) : Int) - 1 = ((size - 1 : Nat) : Int) by omega]
    exact s_num (so_split hz hp) (Nat.le_trans (PyProof.Rows.part_short hp) hl) (by omega) hk
  · have e : (((Txt.split z "-").map D.str).map fun d => match d with | .str p => oD (nOf (size - 1) p) | _ => .non) = ((Txt.split z "-").map (nOf (size - 1))).map oD := by
      rw [List.map_map, List.map_map]
      rfl
    rw [e]
    unfold pairO at h
    generalize (Txt.split z "-").map (nOf (size - 1)) = os at h
    walk_at "kq"
    rw [List.length_map]
    by_cases h2 : os.length = 2
    · refine w_itbF (by rw [decide_eq_true (by omega)]; rfl) ?_
      walk_at "kq"
      match os, h2 with
      | [a, b], _ =>
        refine w_inP (f := oD) (g := oY) (a := none) oD_py (fun x _ => oY_eqv _ _) (by rfl) (sh_list (k := 1) (by omega) (fun y hy => ?_) (fun y hy => ?_)) ?_
        · obtain ⟨o, _, rfl⟩ := List.mem_map.mp hy
          exact (oY_lay o).1
        · obtain ⟨o, _, rfl⟩ := List.mem_map.mp hy
          exact (oY_lay o).2
        walk_at "kq"
        cases a with
        | none =>
          refine w_itbT (by simp) ?_
          walk_at "kq"
          exact h
        | some i =>
          cases b with
          | none =>
            refine w_itbT (by simp) ?_
            walk_at "kq"
            exact h
          | some j =>
            have h : P (oP (if i = j then none else some (min i j, max i j))) c := h
            refine w_itbF (by simp) ?_
            simp only [List.map_cons, List.map_nil, oD]
            walk_at "kq"
            by_cases hij : i = j
            · rw [if_pos hij] at h
              refine w_itbT (decide_eq_true (by omega)) ?_
              walk_at "kq"
              exact h
            · rw [if_neg hij] at h
              refine w_itbF (decide_eq_false (by omega)) ?_
              walk_at "kq"
              refine mem_min ?_
              walk_at "kq"
              refine mem_max ?_
              walk_at "kq"
              exact h
    · refine w_itbT (by rw [decide_eq_false (by omega)]; rfl) ?_
      walk_at "kq"
      rw [pO_len h2] at h
      exact h
/-! ### letters -/
def xyz : List Nat := [88, 89, 90]
theorem q_xyz : ("XYZ" : Str) = tz xyz := by decide +kernel
def letO (z : Str) : Bool := z.cps.toList.all fun u => xyz.contains u && decide (Txt.count z (tz [u]) = 1)
theorem count_pos {z : Str} {u : Nat} (h : u ∈ z.cps.toList) : 1 ≤ Txt.count z (tz [u]) := by
  show 1 ≤ Txt.count z ⟨#[u]⟩
  rw [PyProof.Rows.count_cnt]
  have key : ∀ l : List Nat, 0 ≤ PyProof.Rows.cnt u l ∧ (u ∈ l → 1 ≤ PyProof.Rows.cnt u l) := by
    intro l
    induction l with
    | nil => exact ⟨by rw [PyProof.Rows.cnt_nil]; omega, fun h => nomatch h⟩
    | cons n r ih =>
      rw [PyProof.Rows.cnt_cons]
      refine ⟨by split <;> omega, fun h => ?_⟩
      rcases List.mem_cons.mp h with rfl | h
      · rw [if_pos rfl]; omega
      · have := ih.2 h
        split <;> omega
  exact (key _).2 h
def letF (z : Str) : Option Str := if letO z = true ∧ z ≠ tz [] then some z else none
def fwG {κ : Type} [DecidableEq κ] (one : Bool) (f : Str → Option κ) : List κ → Nat → List Str → Nat
  | ks, _, [] => if one = true ∧ ks = [] then 2 else 0
  | ks, n, w :: ws => match f w with
    | none => n + 2
    | some x => if x ∈ ks ∨ (0 < n ∧ one = true) then n + 2 else fwG one f (ks ++ [x]) (n + 1) ws
def fw (size : Nat) : List Str → Nat
  | [] => 0
  | k :: ws => if k = "near" then fwG false (pairO size) [] 0 ws else if k = "within" then fwG false (nOf (size - 1)) [] 0 ws else
    if k = "letters" then fwG true letF [] 0 ws else if k = "weight" ∨ k = "run" then fwG true (nOf size) [] 0 ws else 1
def bt (l k : Int) : XC := ("BadText", [("column", .int k), ("line", .int l)])
theorem s_itemL (hz : so z) (hl : z.length ≤ 50000) (h : P ((letF z).elim .non D.str) c) : f_item_told [.str "letters", .str z, .int ((size : Nat) : Int)] c P E := by
  have ez := tz_of z
  unfold f_item_told ms_item_told
  walk_at "kq"
  refine w_inT ?_ ⟨rfl, rfl⟩
  refine w_bl ?_
  refine w_itbF (by decide +kernel) ?_
  walk_at "kq"
  refine w_eqS (by decide +kernel) (by decide +kernel) ?_
  refine w_bl ?_
  refine w_itbF (by decide +kernel) ?_
  walk_at "kq"
  refine w_eqS (by decide +kernel) (by decide +kernel) ?_
  refine w_bl ?_
  refine w_itbF (by decide +kernel) ?_
  walk_at "kq"
  refine lc_mp (fun d => match d with | .str y => .bl (xyz.contains (y.cps.toList.headD 0) && decide (Txt.count z y = 1)) | _ => .non) (by rw [List.length_map]; exact Nat.le_trans (show z.cps.toList.length ≤ 50000 by rw [Array.length_toList]; exact hl) (by omega)) (fun d K1 K2 hd hk => ?_) ?_
  · obtain ⟨u, hu, rfl⟩ := List.mem_map.mp hd
    refine ⟨_, rfl, ?_⟩
    have hk : K1 (.bl (xyz.contains u && decide (Txt.count z (tz [u]) = 1))) c := hk
    walk_at "kq"
    rw [q_xyz]
    rw [show (Builtin.Str.occurrences (tz xyz) { cps := #[u] } 0 (tz xyz).length 1) = Builtin.Str.occurrences (tz xyz) (tz [u]) 0 (tz xyz).length 1 from rfl, has_char, Bool.false_xor]
    cases hx : xyz.contains u with
    | false =>
      rw [hx] at hk
      refine w_itbF rfl ?_
      exact hk
    | true =>
      rw [hx] at hk
      refine w_itbT rfl ?_
      walk_at "kq"
      refine w_count ?_
      walk_at "kq"
      exact hk
  · walk_at "kq"
    have e : ((z.cps.toList.map fun c => D.str ⟨#[c]⟩).map fun d => match d with | .str y => D.bl (xyz.contains (y.cps.toList.headD 0) && decide (Txt.count z y = 1)) | _ => .non) = (z.cps.toList.map fun u => xyz.contains u && decide (Txt.count z (tz [u]) = 1)).map D.bl := by
      rw [List.map_map, List.map_map]
      rfl
    rw [e]
    refine w_all ?_
    rw [fold_and]
    have e2 : (z.cps.toList.map fun u => xyz.contains u && decide (Txt.count z (tz [u]) = 1)).all id = letO z := by rw [List.all_map]; rfl
    rw [e2]
    walk_at "kq"
    unfold letF at h
    cases hL : letO z with
    | false =>
      rw [hL, if_neg (by simp)] at h
      walk_at "kq"
      exact h
    | true =>
      rw [hL] at h
      walk_at "kq"
      refine w_neS (so_ok hz) (so_ok (so_tz (us := []) (by simp))) ?_
      rw [q_em]
      walk_at "kq"
      by_cases h0 : z = tz []
      · rw [if_neg (by simp [h0])] at h
        refine w_itbF (by rw [decide_eq_true h0]; rfl) ?_
        walk_at "kq"
        exact h
      · rw [if_pos ⟨rfl, h0⟩] at h
        refine w_itbT (by rw [decide_eq_false h0]; rfl) ?_
        walk_at "kq"
        exact h
end
end Kq
set_option Elab.async false
set_option linter.all false
set_option maxRecDepth 100000
set_option maxHeartbeats 400000
namespace Kq
open PySem PySem.Spec PyProof.Rows L2 LamX
theorem w_itTr {A B : Prop} {_ : Decidable True} (h : A) : if True then A else B := by rw [if_pos trivial]; exact h
theorem w_itFa {A B : Prop} {_ : Decidable False} (h : B) : if False then A else B := by rw [if_neg id]; exact h
local macro_rules | `(tactic| walk_at "kd") => `(tactic| first | decide | omega | (simp only [List.length_cons, List.length_nil]; omega))
local macro_rules | `(tactic| walk_at "kqf") => `(tactic| (with_reducible apply w_fn0; simp only [rho0, List.zipWith_cons_cons, List.zipWith_nil_left, List.zipWith_nil_right, slOf_val, slOf_rdL, List.length_cons, List.length_nil, Nat.reduceAdd, Nat.reduceSub, Nat.zero_add, List.replicate_succ, List.replicate_zero, List.nil_append, List.cons_append]))
local macro_rules | `(tactic| walk_at "kq1") => `(tactic| first
  | with_reducible apply w_seq
  | with_reducible apply w_next
  | with_reducible apply w_set
  | with_reducible apply w_call
  | with_reducible apply w_cons
  | with_reducible apply w_nil
  | ((with_reducible apply w_var); exact rfl)
  | with_reducible apply w_C
  | with_reducible apply w_bin
  | with_reducible apply w_un
  | with_reducible apply w_if
  | with_reducible apply w_tst
  | with_reducible apply w_tru
  | with_reducible apply w_not
  | with_reducible apply w_andB
  | with_reducible apply w_orB
  | with_reducible apply w_bl
  | with_reducible apply w_itT
  | with_reducible apply w_itF
  | with_reducible apply w_itNT
  | with_reducible apply w_itNF
  | with_reducible apply w_itXTT
  | with_reducible apply w_itXTF
  | with_reducible apply w_itXFT
  | with_reducible apply w_itXFF
  | with_reducible apply w_ret
  | with_reducible apply w_pTwo
  | with_reducible apply w_pThree
  | with_reducible apply w_pOne
  | with_reducible apply w_pOwn
  | with_reducible apply w_pInt
  | with_reducible apply w_setO
  | with_reducible apply w_par
  | with_reducible apply w_par3
  | ((with_reducible apply w_aug); exact rfl)
  | with_reducible apply w_drop
  | ((with_reducible apply w_app); exact rfl)
  | ((with_reducible apply w_ext); exact rfl)
  | ((with_reducible apply w_retN); exact rfl)
  | with_reducible apply w_retU
  | ((with_reducible apply w_frz); exact rfl)
  | with_reducible apply w_brk
  | with_reducible apply w_cnt
  | with_reducible apply w_asg
  | with_reducible apply w_for
  | with_reducible apply w_forN
  | walk_at "kqf"
  | with_reducible apply w_yes
  | with_reducible apply w_truB
  | with_reducible apply w_truN
  | with_reducible apply w_truI
  | with_reducible apply w_truL
  | with_reducible apply w_truT
  | ((with_reducible apply w_varR); exact rfl)
  | ((with_reducible apply w_varRo); exact rfl)
  | ((with_reducible apply w_varRb); exact rfl)
  | ((with_reducible apply w_varB); exact rfl)
  | with_reducible apply w_tup
  | with_reducible apply w_lst
  | with_reducible apply w_if10
  | with_reducible apply w_if20
  | with_reducible apply w_ifE
  | with_reducible apply w_andV
  | with_reducible apply w_orV
  | with_reducible apply w_notV
  | with_reducible apply w_items
  | with_reducible apply w_itA
  | with_reducible apply w_itL
  | with_reducible apply w_itTu
  | with_reducible apply w_itS
  | with_reducible apply w_noO
  | with_reducible apply w_soO
  | with_reducible apply w_sl
  | with_reducible apply w_lc
  | with_reducible apply w_fg
  | with_reducible apply w_toTupF
  | ((with_reducible apply w_rng1); rotate_left; try (first | exact ⟨by decide, by decide⟩ | omega); rotate_right)
  | ((with_reducible apply w_rng2); rotate_left; try (first | exact ⟨by decide, by decide, by decide, by decide⟩ | omega); rotate_right)
  | with_reducible apply w_enum
  | ((with_reducible apply w_zipZ); exact rfl; exact rfl)
  | with_reducible apply w_zipL
  | with_reducible apply w_zipT
  | with_reducible apply w_lam
  | ((with_reducible apply w_act); exact rfl)
  | ((with_reducible apply w_calV); exact rfl)
  | with_reducible apply w_lk0
  | ((with_reducible apply w_lkS); decide +kernel)
  | with_reducible apply w_tryE
  | with_reducible apply w_tryR
  | with_reducible apply w_tryA
  | with_reducible apply w_raise
  | ((with_reducible apply w_xf); exact rfl)
  | ((with_reducible apply w_hs1); decide +kernel)
  | ((with_reducible apply w_hs0); decide +kernel)
  | with_reducible apply w_hsN
  | with_reducible apply n_wxor
  | with_reducible apply n_wbits
  | with_reducible refine n_wsub ?_ (by omega)
  | with_reducible apply n_wadd
  | with_reducible apply n_wadd1
  | with_reducible apply n_wbit
  | with_reducible apply n_wshr
  | with_reducible refine n_wshl ?_ (by first | decide | omega) (by first | decide | omega)
  | with_reducible refine n_wshl ?_ ?_ (by omega)
  | with_reducible apply n_wshl
  | with_reducible refine n_wshl1 ?_ (by first | decide | omega)
  | with_reducible apply n_wshl1
  | ((with_reducible apply w_mod); rotate_left; try (first | decide | omega); rotate_right)
  | with_reducible apply w_mul
  | ((with_reducible apply w_fdv); rotate_left; try exact ⟨by decide, by decide⟩; rotate_right)
  | ((with_reducible apply w_pow); rotate_left; try exact ⟨by decide, by decide, by decide⟩; rotate_right)
  | with_reducible apply w_shl
  | ((with_reducible apply w_shr); rotate_left; try (first | decide | omega); rotate_right)
  | with_reducible apply w_and
  | with_reducible apply w_or
  | with_reducible apply w_xor
  | with_reducible apply w_addI
  | with_reducible apply w_sub
  | with_reducible apply w_fld
  | ((with_reducible apply w_pIns); decide +kernel)
  | ((with_reducible apply w_fldO); decide +kernel)
  | with_reducible apply w_put2
  | with_reducible apply w_pPair
  | ((with_reducible apply w_put4); decide +kernel; decide +kernel; exact rfl; exact rfl)
  | with_reducible apply w_put
  | ((with_reducible apply w_put3); decide +kernel; exact rfl; exact rfl)
  | with_reducible apply w_make
  | with_reducible apply w_itTr
  | with_reducible apply w_itFa
  | with_reducible apply w_m0
  | with_reducible apply w_m1
  | with_reducible apply w_pStr
  | with_reducible apply w_enumL
  | with_reducible apply w_enumS
  | with_reducible apply w_isdigit
  | with_reducible apply w_inS
  | with_reducible apply w_addB
  | with_reducible apply w_iaddI
  | with_reducible apply w_lt
  | with_reducible apply w_le
  | with_reducible apply w_gt
  | with_reducible apply w_ge
  | with_reducible apply w_neg
  | with_reducible apply w_bits
  | ((with_reducible apply w_ixL); exact rfl)
  | ((with_reducible apply w_ixT); exact rfl)
  | with_reducible apply w_lenL
  | with_reducible apply w_lenT
  | with_reducible apply w_toI
  | with_reducible apply w_toIb
  | with_reducible apply w_abs
  | with_reducible apply w_max2
  | with_reducible apply w_min2
  | with_reducible apply w_slL
  | with_reducible apply w_slDL
  | with_reducible apply w_lisL
  | with_reducible apply w_lisT
  | with_reducible apply w_tupL
  | with_reducible apply w_tupT
  | with_reducible apply w_isB
  | with_reducible apply w_isN
  | with_reducible apply w_reprB
  | ((with_reducible apply w_itdT); walk_at "kd")
  | ((with_reducible apply w_itdF); walk_at "kd")
  | ((with_reducible apply w_itnT); walk_at "kd")
  | ((with_reducible apply w_itnF); walk_at "kd")
  | ((with_reducible apply w_isi1); exact rfl; (first | exact kit_NoneType_int | exact kit_bool_int | exact kit_int_int | exact kit_str_int | exact kit_tuple_int | exact kit_list_int | exact kit_NoneType_bool | exact kit_bool_bool | exact kit_int_bool | exact kit_str_bool | exact kit_tuple_bool | exact kit_list_bool | exact kit_NoneType_str | exact kit_bool_str | exact kit_int_str | exact kit_str_str | exact kit_tuple_str | exact kit_list_str | exact kit_NoneType_tuple | exact kit_bool_tuple | exact kit_int_tuple | exact kit_str_tuple | exact kit_tuple_tuple | exact kit_list_tuple | exact kit_NoneType_list | exact kit_bool_list | exact kit_int_list | exact kit_str_list | exact kit_tuple_list | exact kit_list_list | exact kit_dict_int | exact kit_dict_bool | exact kit_dict_str | exact kit_dict_tuple | exact kit_dict_list))
  | with_reducible apply w_eqI
  | with_reducible apply w_neI
  | ((with_reducible apply w_sz); exact rfl)
  | ((with_reducible apply w_len2); exact rfl; exact rfl))
local macro_rules | `(tactic| walk_at "kq") => `(tactic| ((repeat (walk_at "kq1")); try simp only [List.set_cons_zero, List.set_cons_succ, List.zip_cons_cons, List.zip_nil_left, List.zip_nil_right, List.reverse_cons, List.reverse_nil, List.nil_append, List.cons_append]))

section
variable {P Q : D → Nat → Prop} {E : XC → Nat → Prop} {c m n i k : Nat} {ρ : Rho} {ds es acc : List D}
theorem w_parK {nx bk ct : Rho → Nat → Prop} {rt : D → Nat → Prop} {ex : XC → Nat → Prop} {l : Nat} {k1 k2 : Kd} {m1 m2 : ME} (h : m1 ρ c (fun x c => m2 ρ c (fun y c => ∃ a b, slPut k1 x = some a ∧ slPut k2 y = some b ∧ nx ((ρ.set i a).set l b) c) ex) ex) : mParK i l k1 k2 m1 m2 ρ c ⟨nx, rt, bk, ct, ex⟩ := h
def rowI (p : Nat × Nat) : D := .tup [.int ((p.1 : Nat) : Int), .int ((p.2 : Nat) : Int)]
def kvF (fs : List (Nat × Nat)) : List (Key × D) := fs.map fun p => (.inl ((p.1 : Nat) : Int), .int ((p.2 : Nat) : Int))
theorem w_asg2 {f : D → Rho → Option Rho} {d : D} {ρ ρ' : Rho} {A : Rho → Prop} (e : f d ρ = some ρ') (h : A ρ') : ∃ ρ', f d ρ = some ρ' ∧ A ρ' := ⟨ρ', e, h⟩
theorem w_szL {A : Prop} (e : Nat.blt acc.length 900 = true) (h : A) : acc.length < sizeLine ∧ A := ⟨by have := Nat.blt_eq.mp e; show _ < 2 ^ 24; omega, h⟩
theorem z_draw (h : ∀ k : Nat, k < m → P (.int ((k : Nat) : Int)) (c + 1)) (h0 : 0 < m) (h1 : m ≤ 1000) (h2 : c < 2 ^ 40) : drawM [.pen, .int ((m : Nat) : Int)] c P E := by
  refine w_draw (fun k k0 k1 => ?_) (by omega) ?_ h2
  · obtain ⟨k, rfl⟩ : ∃ n : Nat, k = (n : Int) := ⟨k.toNat, by omega⟩
    exact h k (by omega)
  · rw [Int.natAbs_natCast]
    exact Nat.lt_of_lt_of_le ((Nat.log2_lt (by omega)).mpr (show m < 2 ^ 10 by omega)) (by decide)
theorem w_popApp {nx bk ct : Rho → Nat → Prop} {rt : D → Nat → Prop} {ex : XC → Nat → Prop} {me : ME} (e1 : ρ[i]? = some (.own ds)) (e2 : ρ[k]? = some (.own es)) (h : me ρ c (fun x c => popD es x fun d fs => ds.length < sizeLine ∧ nx ((ρ.set k (.own fs)).set i (.own (ds ++ [d]))) c) ex) : mPopApp i k me ρ c ⟨nx, rt, bk, ct, ex⟩ := by
  unfold mPopApp
  rw [e1, e2]
  exact h
end
theorem cutD_take (ds : List D) (k : Nat) : cutD ds none (some ((k : Nat) : Int)) = ds.take k := by
  unfold cutD
  rw [HT.sIx_none, HT.sIx_nat]
  show List.take _ (List.drop _ ds) = _
  rcases Nat.le_total k ds.length with h | h
  · rw [Nat.min_eq_left h]; rfl
  · rw [Nat.min_eq_right h, List.take_of_length_le h]
    exact List.take_of_length_le (Nat.le_refl _)
theorem cutD_drop (ds : List D) (k : Nat) : cutD ds (some ((k : Nat) : Int)) none = ds.drop k := by
  unfold cutD
  rw [HT.sIx_none, HT.sIx_nat]
  show List.take _ (List.drop _ ds) = _
  rcases Nat.le_total k ds.length with h | h
  · rw [Nat.min_eq_left h, List.take_of_length_le (by rw [List.length_drop]; exact Nat.le_refl _)]
  · rw [Nat.min_eq_right h, List.drop_of_length_le h, List.drop_of_length_le (Nat.le_refl _), List.take_nil]
section
variable {P Q : D → Nat → Prop} {E : XC → Nat → Prop} {c m size line : Nat} {z : Str} {us : List Nat} {ws : List Str}
theorem isN_enc {d : D} {g : PyData} (h : toPy d = some g) (h2 : g ≠ .none) : isNon d = false := by
  cases d with
  | non => exact absurd (by simpa [toPy] using h.symm) h2
  | _ => rfl
theorem enumD_at {ds : List D} {i : Nat} {d : D} (h : (enumD ds)[i]? = some d) : ∃ e, ds[i]? = some e ∧ d = .tup [.int ((i : Nat) : Int), e] := by
  obtain ⟨e, h1, h2⟩ := enumD_get h
  exact ⟨e, h1, h2⟩
theorem fwG_none {κ : Type} [DecidableEq κ] {one : Bool} {f : Str → Option κ} {ks : List κ} {n : Nat} {w : Str} (h : f w = none) : fwG one f ks n (w :: ws) = n + 2 := by
  rw [fwG, h]
theorem fwG_some {κ : Type} [DecidableEq κ] {one : Bool} {f : Str → Option κ} {ks : List κ} {n : Nat} {w : Str} {x : κ} (h : f w = some x) : fwG one f ks n (w :: ws) = if x ∈ ks ∨ (0 < n ∧ one = true) then n + 2 else fwG one f (ks ++ [x]) (n + 1) ws := by
  rw [fwG, h]
theorem fwG_nil {κ : Type} [DecidableEq κ] {one : Bool} {f : Str → Option κ} {ks : List κ} {n : Nat} : fwG one f ks n [] = if one = true ∧ ks = [] then 2 else 0 := by
  rw [fwG]
theorem s_rule_k {κ : Type} [DecidableEq κ] {one : Bool} {f : Str → Option κ} {enc : κ → D} {g : κ → PyData} {kind : Str}
    (h5 : (([D.str "weight", D.str "letters", D.str "near", D.str "within", D.str "run"] : List D).any fun e => dEqF e (.str kind)) = true)
    (h3 : (([D.str "weight", D.str "run", D.str "letters"] : List D).any fun e => dEqF e (.str kind)) = one)
    (hit : ∀ w ∈ ws, ∀ (P : D → Nat → Prop) (E : XC → Nat → Prop), P ((f w).elim .non enc) c → f_item_told [.str kind, .str w, .int ((size : Nat) : Int)] c P E)
    (henc : ∀ x, toPy (enc x) = some (g x)) (hnn : ∀ x, g x ≠ .none) (heq : ∀ a b, PyData.eqv (g a) (g b) = decide (a = b)) (hlay : ∀ w ∈ ws, ∀ x, f w = some x → (g x).canLay0 = true ∧ (g x).depth ≤ 10)
    (hw : ws.length ≤ 50000) (h0 : fwG one f [] 0 ws = 0 → ∀ items, P (.tup [.str kind, .tup items]) c) (hE : fwG one f [] 0 ws ≠ 0 → E (bt line (fwG one f [] 0 ws : Nat)) c) :
    f_rule_told [.lst (.str kind :: ws.map .str), .int ((size : Nat) : Int), .int ((line : Nat) : Int)] c P E := by
  have hat : atI (D.str kind :: ws.map D.str) 0 = some (.str kind) := by
    exact atI_nat (show (D.str kind :: ws.map D.str)[0]? = some (.str kind) from rfl)
  have hcut : cutD (D.str kind :: ws.map D.str) (some 1) none = ws.map D.str := by
    have := cutD_drop (D.str kind :: ws.map D.str) 1
    exact this
  unfold f_rule_told ms_rule_told
  walk_at "kq"
  refine w_ixL hat ?_
  walk_at "kq"
  refine w_inT ?_ ⟨rfl, rfl⟩
  rw [h5]
  walk_at "kq"
  refine w_parK ?_
  walk_at "kq"
  refine w_ixL hat ?_
  walk_at "kq"
  refine ⟨_, _, rfl, rfl, ?_⟩
  walk_at "kq"
  rw [hcut]
  walk_at "kq"
  refine for_rule (fun i ρ c' => c' = c ∧ ∃ ks s5 s6 s7, ks.length = i ∧ (∀ x ∈ ks, ∃ w ∈ ws, f w = some x) ∧ fwG one f [] 0 ws = fwG one f ks i (ws.drop i) ∧ ρ = [.val (.lst (.str kind :: ws.map .str)), .val (.int ((size : Nat) : Int)), .val (.int ((line : Nat) : Int)), .val (.str kind), .own (ks.map enc), s5, s6, s7]) ⟨rfl, [], _, _, _, rfl, (fun x h => nomatch h), rfl, rfl⟩ ?_ ?_
  · rintro i d ρ c' K hd ⟨rfl, ks, s5, s6, s7, hkl, hks, hfw, rfl⟩ hK
    obtain ⟨e, he, rfl⟩ := enumD_at hd
    rw [List.getElem?_map] at he
    obtain ⟨w, hwi, rfl⟩ : ∃ w, ws[i]? = some w ∧ e = .str w := by
      cases hq : ws[i]? with
      | none => rw [hq] at he; cases he
      | some w => rw [hq] at he; cases he; exact ⟨w, rfl, rfl⟩
    have hwm := List.mem_of_getElem? hwi
    have hil := (List.getElem?_eq_some_iff.mp hwi).1
    have hdrop : ws.drop i = w :: ws.drop (i + 1) := by
      rw [List.drop_eq_getElem_cons hil]
      congr 1
      exact (List.getElem?_eq_some_iff.mp hwi).2
    rw [hdrop] at hfw
    refine ⟨_, rfl, ?_⟩
    unfold b_rule_told_0
    walk_at "kq"
    refine hit w hwm _ _ ?_
    cases hf : f w with
    | none =>
      rw [fwG_none hf] at hfw
      simp only [Option.elim]
      walk_at "kq"
      refine w_itbT rfl ?_
      walk_at "kq"
      have := hE (by omega)
      rw [hfw] at this
      exact this
    | some x =>
      rw [fwG_some hf] at hfw
      simp only [Option.elim]
      obtain ⟨hx1, hx2⟩ := hlay w hwm x hf
      have hn : isNon (enc x) = false := isN_enc (henc x) (hnn x)
      walk_at "kq"
      rw [hn]
      walk_at "kq"
      refine w_inP (f := enc) (g := g) (a := x) henc (fun b _ => heq b x) (sh_of hx1 (by omega)) (sh_list (k := 10) (by omega) (fun y hy => ?_) (fun y hy => ?_)) ?_
      · obtain ⟨b, hb, rfl⟩ := List.mem_map.mp hy
        obtain ⟨w', hw', e'⟩ := hks b hb
        exact (hlay w' hw' b e').1
      · obtain ⟨b, hb, rfl⟩ := List.mem_map.mp hy
        obtain ⟨w', hw', e'⟩ := hks b hb
        exact (hlay w' hw' b e').2
      rw [Bool.false_xor]
      walk_at "kq"
      by_cases hxk : x ∈ ks
      · rw [if_pos (.inl hxk)] at hfw
        refine w_itbT (decide_eq_true hxk) ?_
        walk_at "kq"
        have := hE (by omega)
        rw [hfw] at this
        exact this
      · refine w_itbF (decide_eq_false hxk) ?_
        walk_at "kq"
        have hgo : (fwG one f [] 0 ws = fwG one f (ks ++ [x]) (i + 1) (ws.drop (i + 1))) → (ks.map enc).length < sizeLine ∧ K [.val (.lst (.str kind :: ws.map .str)), .val (.int ((size : Nat) : Int)), .val (.int ((line : Nat) : Int)), .val (.str kind), .own (ks.map enc ++ [enc x]), .val (.int ((i : Nat) : Int)), .val (.str w), .val (enc x)] c' := by
          intro hfw2
          refine ⟨Nat.lt_of_le_of_lt (show _ ≤ 50000 by rw [List.length_map]; omega) (Nat.le_of_ble_eq_true rfl), hK _ _ ⟨rfl, ks ++ [x], .val (.int ((i : Nat) : Int)), .val (.str w), .val (enc x), by rw [List.length_append, hkl]; rfl, ?_, hfw2, ?_⟩⟩
          · intro y hy
            rcases List.mem_append.mp hy with hy | hy
            · exact hks y hy
            · rw [List.mem_singleton.mp hy]
              exact ⟨w, hwm, hf⟩
          · rw [List.map_append]
            exact rfl
        by_cases hi0 : 0 < i
        · refine w_itbT (decide_eq_true (by omega)) ?_
          walk_at "kq"
          refine w_inT ?_ ⟨rfl, rfl⟩
          rw [h3, Bool.false_xor]
          cases one with
          | true =>
            rw [if_pos (.inr ⟨hi0, rfl⟩)] at hfw
            walk_at "kq"
            have := hE (by omega)
            rw [hfw] at this
            exact this
          | false =>
            rw [if_neg (by simp [hxk])] at hfw
            walk_at "kq"
            exact hgo hfw
        · rw [if_neg (by simp [hxk, hi0])] at hfw
          refine w_itbF (decide_eq_false (by omega)) ?_
          walk_at "kq"
          exact hgo hfw
  · rintro ρ c' ⟨rfl, ks, s5, s6, s7, hkl, hks, hfw, rfl⟩
    rw [enumD_length, List.length_map] at hkl hfw
    rw [List.drop_length, fwG_nil] at hfw
    walk_at "kq"
    rw [List.length_map]
    by_cases hk0 : ks = []
    · subst hk0
      refine w_itbT (by simp) ?_
      walk_at "kq"
      refine w_inT ?_ ⟨rfl, rfl⟩
      rw [h3, Bool.false_xor]
      cases one with
      | true =>
        rw [if_pos ⟨rfl, rfl⟩] at hfw
        walk_at "kq"
        have := hE (by omega)
        rw [hfw] at this
        exact this
      | false =>
        rw [if_neg (by simp)] at hfw
        walk_at "kq"
        exact h0 hfw _
    · have := List.length_pos_iff.mpr hk0
      rw [if_neg (by simp [hk0])] at hfw
      refine w_itbF (decide_eq_false (by omega)) ?_
      walk_at "kq"
      exact h0 hfw _
def okw (w : Str) : Prop := so w ∧ w.length ≤ 50000 ∧ w ≠ tz []
theorem pair_eqv (a b : Nat × Nat) : PyData.eqv (.tuple [.int ((a.1 : Nat) : Int), .int ((a.2 : Nat) : Int)]) (.tuple [.int ((b.1 : Nat) : Int), .int ((b.2 : Nat) : Int)]) = decide (a = b) := by
  show (((a.1 : Nat) : Int) == ((b.1 : Nat) : Int) && (((a.2 : Nat) : Int) == ((b.2 : Nat) : Int) && true)) = _
  rw [Bool.and_true, Bool.eq_iff_iff, Bool.and_eq_true, beq_iff_eq, beq_iff_eq, decide_eq_true_iff]
  obtain ⟨a1, a2⟩ := a
  obtain ⟨b1, b2⟩ := b
  simp only [Prod.mk.injEq]
  omega
theorem int_eqv (a b : Nat) : PyData.eqv (.int ((a : Nat) : Int)) (.int ((b : Nat) : Int)) = decide (a = b) := by
  rw [eqv_i]
  exact decide_eq_decide.mpr ⟨fun h => by omega, fun h => by omega⟩
theorem fw_cons (size : Nat) (k : Str) (ws : List Str) : fw size (k :: ws) = if k = "near" then fwG false (pairO size) [] 0 ws else if k = "within" then fwG false (nOf (size - 1)) [] 0 ws else
    if k = "letters" then fwG true letF [] 0 ws else if k = "weight" ∨ k = "run" then fwG true (nOf size) [] 0 ws else 1 := rfl
theorem s_rule (k : Str) (hw : ∀ w ∈ ws, okw w) (hl : ws.length ≤ 50000) (h0 : 1 ≤ size) (h1 : size ≤ 24) (h : fw size (k :: ws) = 0 → ∀ items, P (.tup [.str k, .tup items]) c) (hE : fw size (k :: ws) ≠ 0 → E (bt line (fw size (k :: ws) : Nat)) c) :
    f_rule_told [.lst ((k :: ws).map .str), .int ((size : Nat) : Int), .int ((line : Nat) : Int)] c P E := by
  rw [List.map_cons]
  have hin : ∀ {K : D → Nat → Prop} {X : XC → Nat → Prop} {a : Str} {z : Str}, (([D.str "weight", D.str "run"] : List D).any fun e => dEqF e (.str a)) = true → so z → z.length ≤ 50000 → K (oD (nOf size z)) c → f_item_told [.str a, .str z, .int ((size : Nat) : Int)] c K X := by
    intro K X a z ha hz hzl hK
    unfold f_item_told ms_item_told
    walk_at "kq"
    refine w_inT ?_ ⟨rfl, rfl⟩
    rw [ha]
    walk_at "kq"
    exact s_num hz hzl h1 hK
  rw [fw_cons] at h hE
  by_cases kn : k = "near"
  · rw [if_pos kn] at h hE
    subst kn
    refine s_rule_k (κ := Nat × Nat) (one := false) (f := pairO size) (enc := fun p => .tup [.int ((p.1 : Nat) : Int), .int ((p.2 : Nat) : Int)]) (g := fun p => .tuple [.int ((p.1 : Nat) : Int), .int ((p.2 : Nat) : Int)]) (by decide +kernel) (by decide +kernel) (fun w hm P E hP => ?_) (fun x => rfl) (fun x => by simp) pair_eqv (fun w _ x _ => ⟨rfl, by simp [PyData.depth, PyData.depthAll]⟩) hl h hE
    obtain ⟨a1, a2, a3⟩ := hw w hm
    unfold f_item_told ms_item_told
    walk_at "kq"
    refine w_inT ?_ ⟨rfl, rfl⟩
    refine w_bl ?_
    refine w_itbF (by decide +kernel) ?_
    walk_at "kq"
    refine w_eqS (by decide +kernel) (by decide +kernel) ?_
    refine w_bl ?_
    refine w_itbT (by decide +kernel) ?_
    walk_at "kq"
    refine s_pair a1 a2 h0 h1 ?_
    cases hq : pairO size w with
    | none => rw [hq] at hP; exact hP
    | some p => rw [hq] at hP; exact hP
  rw [if_neg kn] at h hE
  by_cases kw : k = "within"
  · rw [if_pos kw] at h hE
    subst kw
    refine s_rule_k (κ := Nat) (one := false) (f := nOf (size - 1)) (enc := fun p => .int ((p : Nat) : Int)) (g := fun p => .int ((p : Nat) : Int)) (by decide +kernel) (by decide +kernel) (fun w hm P E hP => ?_) (fun x => rfl) (fun x => by simp) int_eqv (fun w _ x _ => ⟨rfl, by simp [PyData.depth]⟩) hl h hE
    obtain ⟨a1, a2, a3⟩ := hw w hm
    unfold f_item_told ms_item_told
    walk_at "kq"
    refine w_inT ?_ ⟨rfl, rfl⟩
    refine w_bl ?_
    refine w_itbF (by decide +kernel) ?_
    walk_at "kq"
    refine w_eqS (by decide +kernel) (by decide +kernel) ?_
    refine w_bl ?_
    refine w_itbF (by decide +kernel) ?_
    walk_at "kq"
    refine w_eqS (by decide +kernel) (by decide +kernel) ?_
    refine w_bl ?_
    refine w_itbT (by decide +kernel) ?_
    walk_at "kq"
    rw [show ((size : Nat) : Int) - 1 = ((size - 1 : Nat) : Int) by omega]
    refine s_num a1 a2 (by omega) ?_
    cases hq : nOf (size - 1) w with
    | none => rw [hq] at hP; exact hP
    | some p => rw [hq] at hP; exact hP
  rw [if_neg kw] at h hE
  by_cases kl : k = "letters"
  · rw [if_pos kl] at h hE
    subst kl
    refine s_rule_k (κ := Str) (one := true) (f := letF) (enc := D.str) (g := .str) (by decide +kernel) (by decide +kernel) (fun w hm P E hP => ?_) (fun x => rfl) (fun x => by simp) eqv_s (fun w hm x hx => ?_) hl h hE
    · obtain ⟨a1, a2, a3⟩ := hw w hm
      exact s_itemL a1 a2 hP
    · unfold letF at hx
      split at hx
      · cases hx
        exact ⟨so_ok (hw w hm).1, by simp [PyData.depth]⟩
      · cases hx
  rw [if_neg kl] at h hE
  by_cases kq : k = "weight" ∨ k = "run"
  · rw [if_pos kq] at h hE
    have e1 : (([D.str "weight", D.str "run"] : List D).any fun e => dEqF e (.str k)) = true := by
      rcases kq with rfl | rfl <;> decide +kernel
    have e2 : (([D.str "weight", D.str "letters", D.str "near", D.str "within", D.str "run"] : List D).any fun e => dEqF e (.str k)) = true := by
      rcases kq with rfl | rfl <;> decide +kernel
    have e3 : (([D.str "weight", D.str "run", D.str "letters"] : List D).any fun e => dEqF e (.str k)) = true := by
      rcases kq with rfl | rfl <;> decide +kernel
    refine s_rule_k (κ := Nat) (one := true) (f := nOf size) (enc := fun p => .int ((p : Nat) : Int)) (g := fun p => .int ((p : Nat) : Int)) e2 e3 (fun w hm P E hP => ?_) (fun x => rfl) (fun x => by simp) int_eqv (fun w _ x _ => ⟨rfl, by simp [PyData.depth]⟩) hl h hE
    obtain ⟨a1, a2, a3⟩ := hw w hm
    refine hin e1 a1 a2 ?_
    cases hq : nOf size w with
    | none => rw [hq] at hP; exact hP
    | some p => rw [hq] at hP; exact hP
  rw [if_neg kq] at h hE
  have hE := hE (by decide)
  unfold f_rule_told ms_rule_told
  walk_at "kq"
  refine w_ixL (atI_nat (show (D.str k :: ws.map D.str)[0]? = some (.str k) from rfl)) ?_
  walk_at "kq"
  refine w_inT ?_ ⟨rfl, rfl⟩
  have e2 : (([D.str "weight", D.str "letters", D.str "near", D.str "within", D.str "run"] : List D).any fun e => dEqF e (.str k)) = false := by
    show (("weight" : Str) == k || (("letters" : Str) == k || (("near" : Str) == k || (("within" : Str) == k || (("run" : Str) == k || false))))) = false
    have e : ∀ a b : Str, b ≠ a → (a == b) = false := fun a b h => beq_eq_false_iff_ne.mpr (Ne.symm h)
    rw [not_or] at kq
    rw [e _ _ kn, e _ _ kw, e _ _ kl, e _ _ kq.1, e _ _ kq.2]
    rfl
  rw [e2]
  walk_at "kq"
  exact hE
end
end Kq
set_option Elab.async false
set_option linter.all false
set_option maxRecDepth 100000
set_option maxHeartbeats 400000
namespace Kq
open PySem PySem.Spec PyProof.Rows L2 LamX
local macro_rules | `(tactic| walk_at "kd") => `(tactic| first | decide | omega | (simp only [List.length_cons, List.length_nil]; omega))
local macro_rules | `(tactic| walk_at "kqf") => `(tactic| (with_reducible apply w_fn0; simp only [rho0, List.zipWith_cons_cons, List.zipWith_nil_left, List.zipWith_nil_right, slOf_val, slOf_rdL, List.length_cons, List.length_nil, Nat.reduceAdd, Nat.reduceSub, Nat.zero_add, List.replicate_succ, List.replicate_zero, List.nil_append, List.cons_append]))
local macro_rules | `(tactic| walk_at "kq1") => `(tactic| first
  | with_reducible apply w_seq
  | with_reducible apply w_next
  | with_reducible apply w_set
  | with_reducible apply w_call
  | with_reducible apply w_cons
  | with_reducible apply w_nil
  | ((with_reducible apply w_var); exact rfl)
  | with_reducible apply w_C
  | with_reducible apply w_bin
  | with_reducible apply w_un
  | with_reducible apply w_if
  | with_reducible apply w_tst
  | with_reducible apply w_tru
  | with_reducible apply w_not
  | with_reducible apply w_andB
  | with_reducible apply w_orB
  | with_reducible apply w_bl
  | with_reducible apply w_itT
  | with_reducible apply w_itF
  | with_reducible apply w_itNT
  | with_reducible apply w_itNF
  | with_reducible apply w_itXTT
  | with_reducible apply w_itXTF
  | with_reducible apply w_itXFT
  | with_reducible apply w_itXFF
  | with_reducible apply w_ret
  | with_reducible apply w_pTwo
  | with_reducible apply w_pThree
  | with_reducible apply w_pOne
  | with_reducible apply w_pOwn
  | with_reducible apply w_pInt
  | with_reducible apply w_setO
  | with_reducible apply w_par
  | with_reducible apply w_par3
  | ((with_reducible apply w_aug); exact rfl)
  | with_reducible apply w_drop
  | ((with_reducible apply w_app); exact rfl)
  | ((with_reducible apply w_ext); exact rfl)
  | ((with_reducible apply w_retN); exact rfl)
  | with_reducible apply w_retU
  | ((with_reducible apply w_frz); exact rfl)
  | with_reducible apply w_brk
  | with_reducible apply w_cnt
  | with_reducible apply w_asg
  | with_reducible apply w_for
  | with_reducible apply w_forN
  | walk_at "kqf"
  | with_reducible apply w_yes
  | with_reducible apply w_truB
  | with_reducible apply w_truN
  | with_reducible apply w_truI
  | with_reducible apply w_truL
  | with_reducible apply w_truT
  | ((with_reducible apply w_varR); exact rfl)
  | ((with_reducible apply w_varRo); exact rfl)
  | ((with_reducible apply w_varRb); exact rfl)
  | ((with_reducible apply w_varB); exact rfl)
  | with_reducible apply w_tup
  | with_reducible apply w_lst
  | with_reducible apply w_if10
  | with_reducible apply w_if20
  | with_reducible apply w_ifE
  | with_reducible apply w_andV
  | with_reducible apply w_orV
  | with_reducible apply w_notV
  | with_reducible apply w_items
  | with_reducible apply w_itA
  | with_reducible apply w_itL
  | with_reducible apply w_itTu
  | with_reducible apply w_itS
  | with_reducible apply w_noO
  | with_reducible apply w_soO
  | with_reducible apply w_sl
  | with_reducible apply w_lc
  | with_reducible apply w_fg
  | with_reducible apply w_toTupF
  | ((with_reducible apply w_rng1); rotate_left; try (first | exact ⟨by decide, by decide⟩ | omega); rotate_right)
  | ((with_reducible apply w_rng2); rotate_left; try (first | exact ⟨by decide, by decide, by decide, by decide⟩ | omega); rotate_right)
  | with_reducible apply w_enum
  | ((with_reducible apply w_zipZ); exact rfl; exact rfl)
  | with_reducible apply w_zipL
  | with_reducible apply w_zipT
  | with_reducible apply w_lam
  | ((with_reducible apply w_act); exact rfl)
  | ((with_reducible apply w_calV); exact rfl)
  | with_reducible apply w_lk0
  | ((with_reducible apply w_lkS); decide +kernel)
  | with_reducible apply w_tryE
  | with_reducible apply w_tryR
  | with_reducible apply w_tryA
  | with_reducible apply w_raise
  | ((with_reducible apply w_xf); exact rfl)
  | ((with_reducible apply w_hs1); decide +kernel)
  | ((with_reducible apply w_hs0); decide +kernel)
  | with_reducible apply w_hsN
  | with_reducible apply n_wxor
  | with_reducible apply n_wbits
  | with_reducible refine n_wsub ?_ (by omega)
  | with_reducible apply n_wadd
  | with_reducible apply n_wadd1
  | with_reducible apply n_wbit
  | with_reducible apply n_wshr
  | with_reducible refine n_wshl ?_ (by first | decide | omega) (by first | decide | omega)
  | with_reducible refine n_wshl ?_ ?_ (by omega)
  | with_reducible apply n_wshl
  | with_reducible refine n_wshl1 ?_ (by first | decide | omega)
  | with_reducible apply n_wshl1
  | ((with_reducible apply w_mod); rotate_left; try (first | decide | omega); rotate_right)
  | with_reducible apply w_mul
  | ((with_reducible apply w_fdv); rotate_left; try exact ⟨by decide, by decide⟩; rotate_right)
  | ((with_reducible apply w_pow); rotate_left; try exact ⟨by decide, by decide, by decide⟩; rotate_right)
  | with_reducible apply w_shl
  | ((with_reducible apply w_shr); rotate_left; try (first | decide | omega); rotate_right)
  | with_reducible apply w_and
  | with_reducible apply w_or
  | with_reducible apply w_xor
  | with_reducible apply w_addI
  | with_reducible apply w_sub
  | with_reducible apply w_fld
  | ((with_reducible apply w_pIns); decide +kernel)
  | ((with_reducible apply w_fldO); decide +kernel)
  | with_reducible apply w_put2
  | with_reducible apply w_pPair
  | ((with_reducible apply w_put4); decide +kernel; decide +kernel; exact rfl; exact rfl)
  | with_reducible apply w_put
  | ((with_reducible apply w_put3); decide +kernel; exact rfl; exact rfl)
  | with_reducible apply w_make
  | with_reducible apply w_itTr
  | with_reducible apply w_itFa
  | with_reducible apply w_m0
  | with_reducible apply w_m1
  | with_reducible apply w_pStr
  | with_reducible apply w_enumL
  | with_reducible apply w_enumS
  | with_reducible apply w_isdigit
  | with_reducible apply w_inS
  | with_reducible apply w_addB
  | with_reducible apply w_iaddI
  | with_reducible apply w_lt
  | with_reducible apply w_le
  | with_reducible apply w_gt
  | with_reducible apply w_ge
  | with_reducible apply w_neg
  | with_reducible apply w_bits
  | ((with_reducible apply w_ixL); exact rfl)
  | ((with_reducible apply w_ixT); exact rfl)
  | with_reducible apply w_lenL
  | with_reducible apply w_lenT
  | with_reducible apply w_toI
  | with_reducible apply w_toIb
  | with_reducible apply w_abs
  | with_reducible apply w_max2
  | with_reducible apply w_min2
  | with_reducible apply w_slL
  | with_reducible apply w_slDL
  | with_reducible apply w_lisL
  | with_reducible apply w_lisT
  | with_reducible apply w_tupL
  | with_reducible apply w_tupT
  | with_reducible apply w_isB
  | with_reducible apply w_isN
  | with_reducible apply w_reprB
  | ((with_reducible apply w_itdT); walk_at "kd")
  | ((with_reducible apply w_itdF); walk_at "kd")
  | ((with_reducible apply w_itnT); walk_at "kd")
  | ((with_reducible apply w_itnF); walk_at "kd")
  | ((with_reducible apply w_isi1); exact rfl; (first | exact kit_NoneType_int | exact kit_bool_int | exact kit_int_int | exact kit_str_int | exact kit_tuple_int | exact kit_list_int | exact kit_NoneType_bool | exact kit_bool_bool | exact kit_int_bool | exact kit_str_bool | exact kit_tuple_bool | exact kit_list_bool | exact kit_NoneType_str | exact kit_bool_str | exact kit_int_str | exact kit_str_str | exact kit_tuple_str | exact kit_list_str | exact kit_NoneType_tuple | exact kit_bool_tuple | exact kit_int_tuple | exact kit_str_tuple | exact kit_tuple_tuple | exact kit_list_tuple | exact kit_NoneType_list | exact kit_bool_list | exact kit_int_list | exact kit_str_list | exact kit_tuple_list | exact kit_list_list | exact kit_dict_int | exact kit_dict_bool | exact kit_dict_str | exact kit_dict_tuple | exact kit_dict_list))
  | with_reducible apply w_eqI
  | with_reducible apply w_neI
  | ((with_reducible apply w_sz); exact rfl)
  | ((with_reducible apply w_len2); exact rfl; exact rfl))
local macro_rules | `(tactic| walk_at "kq") => `(tactic| ((repeat (walk_at "kq1")); try simp only [List.set_cons_zero, List.set_cons_succ, List.zip_cons_cons, List.zip_nil_left, List.zip_nil_right, List.reverse_cons, List.reverse_nil, List.nil_append, List.cons_append]))

/-! ### sorting two texts -/
def leS (x y : Str) : Bool := PySem.W.dataLe false pyD (.str x) (.str y)
theorem sort1 (d : D) : sortG [d] = [d] := by
  unfold sortG
  rw [List.mergeSort]
theorem sort2 (x y : Str) : sortG [.str x, .str y] = if leS x y = true then [.str x, .str y] else [.str y, .str x] := by
  unfold sortG leS
  simp only [List.mergeSort, List.MergeSort.Internal.splitInTwo, List.splitAt_eq, List.length_cons, List.length_nil, Nat.zero_add, Nat.reduceAdd, Nat.reduceDiv, List.take_succ_cons, List.take_zero, List.drop_succ_cons, List.drop_zero, List.cons_merge_cons, List.nil_merge, List.merge_right]
theorem leS_dg : ∀ i, i < 24 → ∀ j, j < 24 → i ≠ j → leS (tz (dg i)) (tz (dg j)) = !leS (tz (dg j)) (tz (dg i)) := by decide +kernel
/-- two places in the order of their texts -/
def sl2 (p : Nat × Nat) : List Str := if leS (tz (dg p.1)) (tz (dg p.2)) = true then [tz (dg p.1), tz (dg p.2)] else [tz (dg p.2), tz (dg p.1)]
theorem sort_dg {i j : Nat} (hi : i < 24) (hj : j < 24) : sortG [.str (tz (dg i)), .str (tz (dg j))] = (sl2 (min i j, max i j)).map .str := by
  have e : (if leS (tz (dg i)) (tz (dg j)) = true then [D.str (tz (dg i)), .str (tz (dg j))] else [.str (tz (dg j)), .str (tz (dg i))]) = (sl2 (i, j)).map .str := by
    unfold sl2
    split <;> rfl
  rw [sort2, e]
  congr 1
  rcases Nat.le_total i j with h | h
  · rw [Nat.min_eq_left h, Nat.max_eq_right h]
  · rw [Nat.min_eq_right h, Nat.max_eq_left h]
    by_cases hij : i = j
    · subst hij; rfl
    · unfold sl2
      show (if leS (tz (dg i)) (tz (dg j)) = true then _ else _) = (if leS (tz (dg j)) (tz (dg i)) = true then _ else _)
      rw [leS_dg i hi j hj hij]
      cases leS (tz (dg j)) (tz (dg i)) <;> rfl
theorem sl2_inj {p q : Nat × Nat} (h1 : p.1 ≤ p.2) (h2 : p.2 < 24) (h3 : q.1 ≤ q.2) (h4 : q.2 < 24) (e : sl2 p = sl2 q) : p = q := by
  have hi : ∀ {a b : Nat}, a < 24 → b < 24 → tz (dg a) = tz (dg b) → a = b := fun ha hb h => dg_inj (by omega) (by omega) (tz_inj h)
  obtain ⟨a, b⟩ := p
  obtain ⟨x, y⟩ := q
  unfold sl2 at e
  simp only at h1 h2 h3 h4 e
  split at e <;> split at e <;> simp only [List.cons.injEq, and_true] at e
  · rw [hi (by omega) (by omega) e.1, hi (by omega) (by omega) e.2]
  · have e1 := hi (by omega) (by omega) e.1
    have e2 := hi (by omega) (by omega) e.2
    rw [show a = x by omega, show b = y by omega]
  · have e1 := hi (by omega) (by omega) e.1
    have e2 := hi (by omega) (by omega) e.2
    rw [show a = x by omega, show b = y by omega]
  · rw [hi (by omega) (by omega) e.1, hi (by omega) (by omega) e.2]
theorem strs_eqv : ∀ l m : List Str, PyData.eqvAll (l.map .str) (m.map .str) = decide (l = m)
  | [], [] => rfl
  | [], _ :: _ => rfl
  | _ :: _, [] => rfl
  | x :: l, y :: m => by
    show (PyData.eqv (.str x) (.str y) && PyData.eqvAll (l.map .str) (m.map .str)) = _
    rw [eqv_s, strs_eqv l m, Bool.eq_iff_iff, Bool.and_eq_true, decide_eq_true_iff, decide_eq_true_iff, decide_eq_true_iff, List.cons.injEq]
theorem strs_py : ∀ l : List Str, toPys (l.map .str) = some (l.map .str) := fun l => toPys_map (f := D.str) (g := .str) (fun _ => rfl) l
theorem alike_strs (l : List Str) : PySem.W.AllAlike (l.map .str) := by
  intro d hd e he
  obtain ⟨x, _, rfl⟩ := List.mem_map.mp hd
  obtain ⟨y, _, rfl⟩ := List.mem_map.mp he
  rfl
theorem sortable_strs (l : List Str) : PySem.W.Sortable (l.map .str) := .inr fun d hd => by
  obtain ⟨x, _, rfl⟩ := List.mem_map.mp hd
  exact ⟨by simp, fun xs => by simp⟩
theorem w_sortS {l : List Str} {P : D → Nat → Prop} {E : XC → Nat → Prop} {c : Nat} (h : P (.lst (sortG (l.map .str))) c) : dSortG [.lst (l.map .str)] c P E :=
  w_sortG (strs_py l) (alike_strs l) (sortable_strs l) (fun y hy => by
    obtain ⟨x, _, rfl⟩ := List.mem_map.mp hy
    simp [PyData.depth]) h
theorem cnt1 (x : Str) : cntT [x] [x].length = 1 := rfl
theorem cnt2 (x y : Str) : cntT [x, y] [x, y].length = if x = y then 1 else 2 := by
  show (if [x].contains y = true then 1 else 2) = _
  by_cases h : x = y
  · subst h
    rw [if_pos rfl, if_pos (by simp)]
  · rw [if_neg h, if_neg (by simp; exact fun z => h z.symm)]
def endsO (near : Bool) (w : Str) : List Str := if near then Txt.split w "-" else [w]
def rtO (near : Bool) (size : Nat) (w : Str) : Bool := (endsO near w).all (fun e => (nOf (size - 1) e).isSome) && decide ((endsO near w).length = 1 + (if near then 1 else 0))
section
variable {P Q : D → Nat → Prop} {E : XC → Nat → Prop} {c m size line : Nat} {z : Str} {us : List Nat} {ws : List Str}
theorem endsO_so {near : Bool} {w e : Str} (h : so w) (he : e ∈ endsO near w) : so e := by
  unfold endsO at he
  cases near with
  | true => exact so_split h he
  | false => rw [List.mem_singleton.mp he]; exact h
theorem endsO_len {near : Bool} {w : Str} (h : w.length ≤ 50000) : (endsO near w).length ≤ 50002 := by
  unfold endsO
  cases near with
  | true => have := split_le w "-"; exact Nat.le_trans this (by omega)
  | false => exact show 1 ≤ 50002 by omega
theorem s_fw_k {κ : Type} [DecidableEq κ] {near : Bool} {f : Str → Option κ} {sl : κ → List Str} {key : Str → κ} {kind : Str} (hk : kind = if near then "near" else "within") (h0 : 1 ≤ size) (h1 : size ≤ 24)
    (hw : ∀ w ∈ ws, okw w)
    (hF : ∀ w ∈ ws, rtO near size w = false → f w = none)
    (hT : ∀ w ∈ ws, rtO near size w = true → (cntT (endsO near w) (endsO near w).length = (endsO near w).length → f w = some (key w)) ∧ (cntT (endsO near w) (endsO near w).length ≠ (endsO near w).length → f w = none) ∧ sortG ((endsO near w).map .str) = (sl (key w)).map .str)
    (hinj : ∀ w ∈ ws, ∀ w' ∈ ws, rtO near size w = true → ∀ b, f w' = some b → sl b = sl (key w) → b = key w)
    (hso : ∀ w ∈ ws, rtO near size w = true → ∀ s ∈ sl (key w), so s) (hso2 : ∀ w ∈ ws, ∀ b, f w = some b → b = key w ∧ rtO near size w = true)
    (hl : ws.length ≤ 50000) (h : P (.int ((fwG false f [] 0 ws : Nat) : Int)) c) : f_law_first_wrong [.lst ((kind :: ws).map .str), .int ((size : Nat) : Int)] c P E := by
  have hso3 : ∀ b, (∃ w ∈ ws, f w = some b) → ∀ s ∈ sl b, so s := fun b ⟨w, hm, e⟩ => by
    obtain ⟨e1, e2⟩ := hso2 w hm b e
    rw [e1]
    exact hso w hm e2
  have hshape : ∀ l : List Str, (∀ s ∈ l, so s) → (PyData.list (l.map .str)).canLay0 = true ∧ (PyData.list (l.map .str)).depth ≤ 10 := fun l hl => by
    refine ⟨lay_all fun y hy => ?_, ?_⟩
    · obtain ⟨s, hs, rfl⟩ := List.mem_map.mp hy
      exact so_ok (hl s hs)
    · have := depth_all (ys := l.map PyData.str) (k := 1) fun y hy => by
        obtain ⟨s, hs, rfl⟩ := List.mem_map.mp hy
        simp [PyData.depth]
      show PyData.depthAll _ + 1 ≤ 10
      omega
  rw [List.map_cons]
  unfold f_law_first_wrong ms_law_first_wrong
  walk_at "kq"
  refine w_ixL (atI_nat (show (D.str kind :: ws.map D.str)[0]? = some (.str kind) from rfl)) ?_
  walk_at "kq"
  have hcut : cutD (D.str kind :: ws.map D.str) (some 1) none = ws.map D.str := cutD_drop (D.str kind :: ws.map D.str) 1
  rw [hcut]
  refine ⟨_, rfl, ?_⟩
  walk_at "kq"
  refine w_inL ?_ ⟨rfl, rfl⟩
  have e5 : (([D.str "weight", D.str "letters", D.str "near", D.str "within", D.str "run"] : List D).any fun e => dEqF e (.str kind)) = true := by
    subst hk
    cases near <;> decide +kernel
  rw [e5]
  walk_at "kq"
  refine w_inL ?_ ⟨rfl, rfl⟩
  have e2 : (([D.str "near", D.str "within"] : List D).any fun e => dEqF e (.str kind)) = true := by
    subst hk
    cases near <;> decide +kernel
  rw [e2]
  walk_at "kq"
  refine for_rule (fun i ρ c' => c' = c ∧ ∃ ks s5 s6 s7 s8 s9, ks.length = i ∧ (∀ x ∈ ks, ∃ w ∈ ws, f w = some x) ∧ fwG false f [] 0 ws = fwG false f ks i (ws.drop i) ∧ ρ = [.val (.lst (.str kind :: ws.map .str)), .val (.int ((size : Nat) : Int)), .val (.str kind), .val (.lst (ws.map .str)), .own (ks.map fun k => .lst ((sl k).map .str)), s5, s6, s7, s8, s9, .no]) ⟨rfl, [], _, _, _, _, _, rfl, (fun x h => nomatch h), rfl, rfl⟩ ?_ ?_
  · rintro i d ρ c' K hd ⟨rfl, ks, s5, s6, s7, s8, s9, hkl, hks, hfw, rfl⟩ hK
    obtain ⟨e, he, rfl⟩ := enumD_at hd
    rw [List.getElem?_map] at he
    obtain ⟨w, hwi, rfl⟩ : ∃ w, ws[i]? = some w ∧ e = .str w := by
      cases hq : ws[i]? with
      | none => rw [hq] at he; cases he
      | some w => rw [hq] at he; cases he; exact ⟨w, rfl, rfl⟩
    have hwm := List.mem_of_getElem? hwi
    have hil := (List.getElem?_eq_some_iff.mp hwi).1
    have hdrop : ws.drop i = w :: ws.drop (i + 1) := by
      rw [List.drop_eq_getElem_cons hil]
      congr 1
      exact (List.getElem?_eq_some_iff.mp hwi).2
    rw [hdrop] at hfw
    obtain ⟨a1, a2, a3⟩ := hw w hwm
    refine ⟨_, rfl, ?_⟩
    unfold b_law_first_wrong_0
    have ekd : PyData.strOk kind = true := by
      subst hk
      cases near <;> decide +kernel
    have ekn : decide (kind = ("near" : Str)) = near := by
      subst hk
      cases near <;> decide +kernel
    -- the ends
    have hends : ∀ (K : D → Nat → Prop), K (.lst ((endsO near w).map .str)) c' → mIfE (mTst (mBin dEq (mVar 2) (mC (.str "near")))) (mM1 dSplit (mVar 6) (mC (.str "-"))) (mLst (mCons (mVar 6) mNil)) [.val (.lst (.str kind :: ws.map .str)), .val (.int ((size : Nat) : Int)), .val (.str kind), .val (.lst (ws.map .str)), .own (ks.map fun k => .lst ((sl k).map .str)), .val (.int ((i : Nat) : Int)), .val (.str w), s7, s8, s9, .no] c' K E := by
      intro K hK
      walk_at "kq"
      refine w_eqS ekd (by decide +kernel) ?_
      rw [ekn]
      cases near with
      | true =>
        walk_at "kq"
        exact w_split hK (by decide +kernel) (len_nat a2 (Nat.le_refl _))
      | false =>
        walk_at "kq"
        exact hK
    refine w_seq ?_
    refine w_set ?_
    refine hends _ ?_
    clear hends
    walk_at "kq"
    have hel := endsO_len (near := near) a2
    refine lc_mp (fun d => match d with | .str p => .bl (nOf (size - 1) p).isSome | _ => .non) (by rw [List.length_map]; omega) (fun d K1 K2 hd hk => ?_) ?_
    · obtain ⟨p, hp, rfl⟩ := List.mem_map.mp hd
      refine ⟨_, rfl, ?_⟩
      walk_at "kq"
      rw [show ((size : Nat) : Int) - 1 = ((size - 1 : Nat) : Int) by omega]
      exact s_isnum (endsO_so a1 hp) (by omega) hk
    · walk_at "kq"
      have e : (((endsO near w).map D.str).map fun d => match d with | .str p => .bl (nOf (size - 1) p).isSome | _ => .non) = ((endsO near w).map fun p => (nOf (size - 1) p).isSome).map D.bl := by
        rw [List.map_map, List.map_map]
        rfl
      rw [e]
      refine w_all ?_
      rw [fold_and]
      have e2 : ((endsO near w).map fun p => (nOf (size - 1) p).isSome).all id = (endsO near w).all fun p => (nOf (size - 1) p).isSome := by rw [List.all_map]; rfl
      rw [e2]
      clear e e2
      -- whether it is right
      have hright : ∀ (K : D → Nat → Prop), K (.bl (rtO near size w)) c' → mAndV (mVar 8) (mBin dEq (mCall dLen (mCons (mVar 7) mNil)) (mBin dAdd (mC (.int 1)) (mCall dToInt (mCons (mBin dEq (mVar 2) (mC (.str "near"))) mNil)))) [.val (.lst (.str kind :: ws.map .str)), .val (.int ((size : Nat) : Int)), .val (.str kind), .val (.lst (ws.map .str)), .own (ks.map fun k => .lst ((sl k).map .str)), .val (.int ((i : Nat) : Int)), .val (.str w), .val (.lst ((endsO near w).map .str)), .val (.bl ((endsO near w).all fun p => (nOf (size - 1) p).isSome)), s9, .no] c' K E := by
        intro K hK
        unfold rtO at hK
        walk_at "kq"
        cases hq : (endsO near w).all fun p => (nOf (size - 1) p).isSome with
        | false =>
          rw [hq] at hK
          refine w_itbF rfl ?_
          exact hK
        | true =>
          rw [hq, Bool.true_and] at hK
          refine w_itbT rfl ?_
          walk_at "kq"
          refine w_eqS ekd (by decide +kernel) ?_
          rw [ekn]
          walk_at "kq"
          rw [List.length_map]
          have e : decide ((((endsO near w).length : Nat) : Int) = 1 + b2n near) = decide ((endsO near w).length = 1 + (if near then 1 else 0)) := by
            cases near with
            | true =>
              show decide ((((endsO true w).length : Nat) : Int) = 1 + 1) = decide ((endsO true w).length = 1 + 1)
              exact decide_eq_decide.mpr ⟨fun h => by omega, fun h => by omega⟩
            | false =>
              show decide ((((endsO false w).length : Nat) : Int) = 1 + 0) = decide ((endsO false w).length = 1 + 0)
              exact decide_eq_decide.mpr ⟨fun h => by omega, fun h => by omega⟩
          rw [e]
          exact hK
      refine w_seq ?_
      refine w_set ?_
      refine hright _ ?_
      clear hright
      walk_at "kq"
      cases hr : rtO near size w with
      | false =>
        have hf := hF w hwm hr
        rw [fwG_none hf] at hfw
        rw [hfw] at h
        walk_at "kq"
        exact h
      | true =>
        obtain ⟨t1, t2, t3⟩ := hT w hwm hr
        walk_at "kq"
        refine w_sortS ?_
        rw [t3]
        walk_at "kq"
        obtain ⟨q1, q2⟩ := hshape (sl (key w)) (hso w hwm hr)
        refine w_inP (f := fun k => D.lst ((sl k).map .str)) (g := fun k => .list ((sl k).map .str)) (a := key w) (fun a => ?_) (fun b hb => ?_) (sh_of q1 (by omega)) (sh_list (k := 10) (by omega) (fun y hy => ?_) (fun y hy => ?_)) ?_
        · simp only [toPy]
          rw [strs_py]
          rfl
        · show PyData.eqvAll _ _ = _
          rw [strs_eqv]
          obtain ⟨w', hw', e'⟩ := hks b hb
          exact decide_eq_decide.mpr ⟨fun h => hinj w hwm w' hw' hr b e' h, fun h => by rw [h]⟩
        · obtain ⟨b, hb, rfl⟩ := List.mem_map.mp hy
          exact (hshape (sl b) (hso3 b (hks b hb))).1
        · obtain ⟨b, hb, rfl⟩ := List.mem_map.mp hy
          exact (hshape (sl b) (hso3 b (hks b hb))).2
        rw [Bool.false_xor]
        walk_at "kq"
        by_cases hkk : key w ∈ ks
        · refine w_itbT (decide_eq_true hkk) ?_
          walk_at "kq"
          have : fwG false f [] 0 ws = i + 2 := by
            rw [hfw]
            by_cases hc : cntT (endsO near w) (endsO near w).length = (endsO near w).length
            · rw [fwG_some (t1 hc), if_pos (.inl hkk)]
            · rw [fwG_none (t2 hc)]
          rw [this] at h
          exact h
        · refine w_itbF (decide_eq_false hkk) ?_
          walk_at "kq"
          refine w_lenSet ?_
          walk_at "kq"
          have hel1 : (endsO near w).length ≤ 1000 := by
            unfold rtO at hr
            rw [Bool.and_eq_true, decide_eq_true_iff] at hr
            have := hr.2
            cases near <;> simp at this <;> omega
          refine w_pSet ?_ hel1
          walk_at "kq"
          rw [List.length_map]
          by_cases hc : cntT (endsO near w) (endsO near w).length = (endsO near w).length
          · have hf := t1 hc
            rw [fwG_some hf, if_neg (by simp [hkk])] at hfw
            refine w_itbF (by rw [decide_eq_true (by omega)]; rfl) ?_
            walk_at "kq"
            refine w_sortS ?_
            rw [t3]
            walk_at "kq"
            refine ⟨Nat.lt_of_le_of_lt (show _ ≤ 50000 by rw [List.length_map]; omega) (Nat.le_of_ble_eq_true rfl), hK _ _ ⟨rfl, ks ++ [key w], .val (.int ((i : Nat) : Int)), .val (.str w), .val (.lst ((endsO near w).map .str)), .val (.bl true), s9, by rw [List.length_append, hkl]; rfl, ?_, hfw, ?_⟩⟩
            · intro y hy
              rcases List.mem_append.mp hy with hy | hy
              · exact hks y hy
              · rw [List.mem_singleton.mp hy]
                exact ⟨w, hwm, hf⟩
            · rw [List.map_append]
              exact rfl
          · rw [fwG_none (t2 hc)] at hfw
            rw [hfw] at h
            refine w_itbT (by rw [decide_eq_false (by omega)]; rfl) ?_
            walk_at "kq"
            exact h
  · rintro ρ c' ⟨rfl, ks, s5, s6, s7, s8, s9, hkl, hks, hfw, rfl⟩
    rw [enumD_length, List.length_map] at hkl hfw
    rw [List.drop_length, fwG_nil, if_neg (by simp)] at hfw
    rw [hfw] at h
    walk_at "kq"
    exact h
end
end Kq
set_option Elab.async false
set_option linter.all false
set_option maxRecDepth 100000
set_option maxHeartbeats 400000
namespace Kq
open PySem PySem.Spec PyProof.Rows L2 LamX
local macro_rules | `(tactic| walk_at "kd") => `(tactic| first | decide | omega | (simp only [List.length_cons, List.length_nil]; omega))
local macro_rules | `(tactic| walk_at "kqf") => `(tactic| (with_reducible apply w_fn0; simp only [rho0, List.zipWith_cons_cons, List.zipWith_nil_left, List.zipWith_nil_right, slOf_val, slOf_rdL, List.length_cons, List.length_nil, Nat.reduceAdd, Nat.reduceSub, Nat.zero_add, List.replicate_succ, List.replicate_zero, List.nil_append, List.cons_append]))
local macro_rules | `(tactic| walk_at "kq1") => `(tactic| first
  | with_reducible apply w_seq
  | with_reducible apply w_next
  | with_reducible apply w_set
  | with_reducible apply w_call
  | with_reducible apply w_cons
  | with_reducible apply w_nil
  | ((with_reducible apply w_var); exact rfl)
  | with_reducible apply w_C
  | with_reducible apply w_bin
  | with_reducible apply w_un
  | with_reducible apply w_if
  | with_reducible apply w_tst
  | with_reducible apply w_tru
  | with_reducible apply w_not
  | with_reducible apply w_andB
  | with_reducible apply w_orB
  | with_reducible apply w_bl
  | with_reducible apply w_itT
  | with_reducible apply w_itF
  | with_reducible apply w_itNT
  | with_reducible apply w_itNF
  | with_reducible apply w_itXTT
  | with_reducible apply w_itXTF
  | with_reducible apply w_itXFT
  | with_reducible apply w_itXFF
  | with_reducible apply w_ret
  | with_reducible apply w_pTwo
  | with_reducible apply w_pThree
  | with_reducible apply w_pOne
  | with_reducible apply w_pOwn
  | with_reducible apply w_pInt
  | with_reducible apply w_setO
  | with_reducible apply w_par
  | with_reducible apply w_par3
  | ((with_reducible apply w_aug); exact rfl)
  | with_reducible apply w_drop
  | ((with_reducible apply w_app); exact rfl)
  | ((with_reducible apply w_ext); exact rfl)
  | ((with_reducible apply w_retN); exact rfl)
  | with_reducible apply w_retU
  | ((with_reducible apply w_frz); exact rfl)
  | with_reducible apply w_brk
  | with_reducible apply w_cnt
  | with_reducible apply w_asg
  | with_reducible apply w_for
  | with_reducible apply w_forN
  | walk_at "kqf"
  | with_reducible apply w_yes
  | with_reducible apply w_truB
  | with_reducible apply w_truN
  | with_reducible apply w_truI
  | with_reducible apply w_truL
  | with_reducible apply w_truT
  | ((with_reducible apply w_varR); exact rfl)
  | ((with_reducible apply w_varRo); exact rfl)
  | ((with_reducible apply w_varRb); exact rfl)
  | ((with_reducible apply w_varB); exact rfl)
  | with_reducible apply w_tup
  | with_reducible apply w_lst
  | with_reducible apply w_if10
  | with_reducible apply w_if20
  | with_reducible apply w_ifE
  | with_reducible apply w_andV
  | with_reducible apply w_orV
  | with_reducible apply w_notV
  | with_reducible apply w_items
  | with_reducible apply w_itA
  | with_reducible apply w_itL
  | with_reducible apply w_itTu
  | with_reducible apply w_itS
  | with_reducible apply w_noO
  | with_reducible apply w_soO
  | with_reducible apply w_sl
  | with_reducible apply w_lc
  | with_reducible apply w_fg
  | with_reducible apply w_toTupF
  | ((with_reducible apply w_rng1); rotate_left; try (first | exact ⟨by decide, by decide⟩ | omega); rotate_right)
  | ((with_reducible apply w_rng2); rotate_left; try (first | exact ⟨by decide, by decide, by decide, by decide⟩ | omega); rotate_right)
  | with_reducible apply w_enum
  | ((with_reducible apply w_zipZ); exact rfl; exact rfl)
  | with_reducible apply w_zipL
  | with_reducible apply w_zipT
  | with_reducible apply w_lam
  | ((with_reducible apply w_act); exact rfl)
  | ((with_reducible apply w_calV); exact rfl)
  | with_reducible apply w_lk0
  | ((with_reducible apply w_lkS); decide +kernel)
  | with_reducible apply w_tryE
  | with_reducible apply w_tryR
  | with_reducible apply w_tryA
  | with_reducible apply w_raise
  | ((with_reducible apply w_xf); exact rfl)
  | ((with_reducible apply w_hs1); decide +kernel)
  | ((with_reducible apply w_hs0); decide +kernel)
  | with_reducible apply w_hsN
  | with_reducible apply n_wxor
  | with_reducible apply n_wbits
  | with_reducible refine n_wsub ?_ (by omega)
  | with_reducible apply n_wadd
  | with_reducible apply n_wadd1
  | with_reducible apply n_wbit
  | with_reducible apply n_wshr
  | with_reducible refine n_wshl ?_ (by first | decide | omega) (by first | decide | omega)
  | with_reducible refine n_wshl ?_ ?_ (by omega)
  | with_reducible apply n_wshl
  | with_reducible refine n_wshl1 ?_ (by first | decide | omega)
  | with_reducible apply n_wshl1
  | ((with_reducible apply w_mod); rotate_left; try (first | decide | omega); rotate_right)
  | with_reducible apply w_mul
  | ((with_reducible apply w_fdv); rotate_left; try exact ⟨by decide, by decide⟩; rotate_right)
  | ((with_reducible apply w_pow); rotate_left; try exact ⟨by decide, by decide, by decide⟩; rotate_right)
  | with_reducible apply w_shl
  | ((with_reducible apply w_shr); rotate_left; try (first | decide | omega); rotate_right)
  | with_reducible apply w_and
  | with_reducible apply w_or
  | with_reducible apply w_xor
  | with_reducible apply w_addI
  | with_reducible apply w_sub
  | with_reducible apply w_fld
  | ((with_reducible apply w_pIns); decide +kernel)
  | ((with_reducible apply w_fldO); decide +kernel)
  | with_reducible apply w_put2
  | with_reducible apply w_pPair
  | ((with_reducible apply w_put4); decide +kernel; decide +kernel; exact rfl; exact rfl)
  | with_reducible apply w_put
  | ((with_reducible apply w_put3); decide +kernel; exact rfl; exact rfl)
  | with_reducible apply w_make
  | with_reducible apply w_itTr
  | with_reducible apply w_itFa
  | with_reducible apply w_m0
  | with_reducible apply w_m1
  | with_reducible apply w_pStr
  | with_reducible apply w_enumL
  | with_reducible apply w_enumS
  | with_reducible apply w_isdigit
  | with_reducible apply w_inS
  | with_reducible apply w_addB
  | with_reducible apply w_iaddI
  | with_reducible apply w_lt
  | with_reducible apply w_le
  | with_reducible apply w_gt
  | with_reducible apply w_ge
  | with_reducible apply w_neg
  | with_reducible apply w_bits
  | ((with_reducible apply w_ixL); exact rfl)
  | ((with_reducible apply w_ixT); exact rfl)
  | with_reducible apply w_lenL
  | with_reducible apply w_lenT
  | with_reducible apply w_toI
  | with_reducible apply w_toIb
  | with_reducible apply w_abs
  | with_reducible apply w_max2
  | with_reducible apply w_min2
  | with_reducible apply w_slL
  | with_reducible apply w_slDL
  | with_reducible apply w_lisL
  | with_reducible apply w_lisT
  | with_reducible apply w_tupL
  | with_reducible apply w_tupT
  | with_reducible apply w_isB
  | with_reducible apply w_isN
  | with_reducible apply w_reprB
  | ((with_reducible apply w_itdT); walk_at "kd")
  | ((with_reducible apply w_itdF); walk_at "kd")
  | ((with_reducible apply w_itnT); walk_at "kd")
  | ((with_reducible apply w_itnF); walk_at "kd")
  | ((with_reducible apply w_isi1); exact rfl; (first | exact kit_NoneType_int | exact kit_bool_int | exact kit_int_int | exact kit_str_int | exact kit_tuple_int | exact kit_list_int | exact kit_NoneType_bool | exact kit_bool_bool | exact kit_int_bool | exact kit_str_bool | exact kit_tuple_bool | exact kit_list_bool | exact kit_NoneType_str | exact kit_bool_str | exact kit_int_str | exact kit_str_str | exact kit_tuple_str | exact kit_list_str | exact kit_NoneType_tuple | exact kit_bool_tuple | exact kit_int_tuple | exact kit_str_tuple | exact kit_tuple_tuple | exact kit_list_tuple | exact kit_NoneType_list | exact kit_bool_list | exact kit_int_list | exact kit_str_list | exact kit_tuple_list | exact kit_list_list | exact kit_dict_int | exact kit_dict_bool | exact kit_dict_str | exact kit_dict_tuple | exact kit_dict_list))
  | with_reducible apply w_eqI
  | with_reducible apply w_neI
  | ((with_reducible apply w_sz); exact rfl)
  | ((with_reducible apply w_len2); exact rfl; exact rfl))
local macro_rules | `(tactic| walk_at "kq") => `(tactic| ((repeat (walk_at "kq1")); try simp only [List.set_cons_zero, List.set_cons_succ, List.zip_cons_cons, List.zip_nil_left, List.zip_nil_right, List.reverse_cons, List.reverse_nil, List.nil_append, List.cons_append]))

def keyO : List (Option Nat) → Nat × Nat
  | [some i, some j] => (min i j, max i j)
  | _ => (0, 0)
theorem two_of {size : Nat} {w : Str} (h : rtO true size w = true) : ∃ i j, i ≤ size - 1 ∧ j ≤ size - 1 ∧ Txt.split w "-" = [tz (dg i), tz (dg j)] ∧ (Txt.split w "-").map (nOf (size - 1)) = [some i, some j] := by
  unfold rtO at h
  rw [Bool.and_eq_true, decide_eq_true_iff] at h
  have h1 : (Txt.split w "-").all (fun e => (nOf (size - 1) e).isSome) = true := h.1
  have h2 : (Txt.split w "-").length = 2 := h.2
  generalize Txt.split w "-" = l at h1 h2
  match l, h2 with
  | [x, y], _ =>
    rw [List.all_cons, List.all_cons, Bool.and_eq_true, Bool.and_eq_true] at h1
    cases hx : nOf (size - 1) x with
    | none => rw [hx] at h1; exact absurd h1.1 (by simp)
    | some i =>
      cases hy : nOf (size - 1) y with
      | none => rw [hy] at h1; exact absurd h1.2.1 (by simp)
      | some j =>
        obtain ⟨i1, rfl⟩ := nOf_some hx
        obtain ⟨j1, rfl⟩ := nOf_some hy
        exact ⟨i, j, i1, j1, rfl, by rw [List.map_cons, List.map_cons, List.map_nil, hx, hy]⟩
theorem pair_rt {size : Nat} {w : Str} {b : Nat × Nat} (h : pairO size w = some b) : rtO true size w = true ∧ b = keyO ((Txt.split w "-").map (nOf (size - 1))) ∧ b.1 < b.2 := by
  unfold pairO at h
  unfold rtO
  show (((Txt.split w "-").all fun e => (nOf (size - 1) e).isSome) && decide ((Txt.split w "-").length = 1 + 1)) = true ∧ _
  generalize Txt.split w "-" = l at h
  match l, h with
  | [x, y], h =>
    have h : pO [nOf (size - 1) x, nOf (size - 1) y] = some b := h
    show ((nOf (size - 1) x).isSome && ((nOf (size - 1) y).isSome && true) && true) = true ∧ b = keyO [nOf (size - 1) x, nOf (size - 1) y] ∧ _
    cases hx : nOf (size - 1) x with
    | none => rw [hx] at h; cases h
    | some i =>
      cases hy : nOf (size - 1) y with
      | none => rw [hx, hy] at h; cases h
      | some j =>
        rw [hx, hy] at h
        have h : (if i = j then none else some (min i j, max i j)) = some b := h
        split at h
        · cases h
        · cases h
          exact ⟨rfl, rfl, show min i j < max i j by omega⟩
  | [], h => cases h
  | [x], h =>
    have h : pO [nOf (size - 1) x] = some b := h
    rw [pO_len (by simp)] at h
    cases h
  | x :: y :: z :: r, h =>
    have h : pO ((x :: y :: z :: r).map (nOf (size - 1))) = some b := h
    rw [pO_len (by simp)] at h
    cases h
section
variable {P Q : D → Nat → Prop} {E : XC → Nat → Prop} {c m size line : Nat} {z : Str} {us : List Nat} {ws : List Str}
theorem w_eqNilS {l : List Str} (hs : ∀ s ∈ l, so s) (h : P (.bl l.isEmpty) c) : dEq (.lst (l.map .str)) (.lst []) c P E := by
  refine ⟨.list (l.map .str), .list [], ?_, rfl, sh_list (k := 1) (by omega) (fun y hy => ?_) (fun y hy => ?_), by decide, ?_⟩
  · simp only [toPy]
    rw [strs_py]
    rfl
  · obtain ⟨s, hm, rfl⟩ := List.mem_map.mp hy
    exact so_ok (hs s hm)
  · obtain ⟨s, hm, rfl⟩ := List.mem_map.mp hy
    simp [PyData.depth]
  · have e : PyData.eqv (.list (l.map .str)) (.list []) = l.isEmpty := by
      cases l <;> rfl
    rw [e]
    exact h
theorem w_neNilS {l : List Str} (hs : ∀ s ∈ l, so s) (h : P (.bl (!l.isEmpty)) c) : dNe (.lst (l.map .str)) (.lst []) c P E := by
  refine ⟨.list (l.map .str), .list [], ?_, rfl, sh_list (k := 1) (by omega) (fun y hy => ?_) (fun y hy => ?_), by decide, ?_⟩
  · simp only [toPy]
    rw [strs_py]
    rfl
  · obtain ⟨s, hm, rfl⟩ := List.mem_map.mp hy
    exact so_ok (hs s hm)
  · obtain ⟨s, hm, rfl⟩ := List.mem_map.mp hy
    simp [PyData.depth]
  · have e : PyData.eqv (.list (l.map .str)) (.list []) = l.isEmpty := by
      cases l <;> rfl
    rw [e]
    exact h
theorem fwG_one {κ : Type} [DecidableEq κ] {f : Str → Option κ} {w : Str} {r : List Str} : fwG true f [] 0 (w :: r) = if (f w).isSome = false then 2 else if r = [] then 0 else 3 := by
  cases hf : f w with
  | none => rw [fwG_none hf]; rfl
  | some x =>
    rw [fwG_some hf, if_neg (by simp), if_neg (by simp)]
    cases r with
    | nil => rw [fwG_nil, if_pos rfl]; rfl
    | cons w2 r2 =>
      rw [if_neg (by simp)]
      cases hf2 : f w2 with
      | none => rw [fwG_none hf2]
      | some x2 => rw [fwG_some hf2, if_pos (by simp)]
theorem s_first (k : Str) (hkk : okw k) (hw : ∀ w ∈ ws, okw w) (hl : ws.length ≤ 50000) (h0 : 1 ≤ size) (h1 : size ≤ 24) (h : P (.int ((fw size (k :: ws) : Nat) : Int)) c) :
    f_law_first_wrong [.lst ((k :: ws).map .str), .int ((size : Nat) : Int)] c P E := by
  rw [fw_cons] at h
  by_cases kn : k = "near"
  · rw [if_pos kn] at h
    refine s_fw_k (κ := Nat × Nat) (near := true) (f := pairO size) (sl := sl2) (key := fun w => keyO ((Txt.split w "-").map (nOf (size - 1)))) (by simpa using kn) h0 h1 hw (fun w hm hr => ?_) (fun w hm hr => ?_) (fun w hm w' hm' hr b hb hs => ?_) (fun w hm hr s hs => ?_) (fun w hm b hb => ?_) hl h
    · cases hq : pairO size w with
      | none => rfl
      | some b => rw [(pair_rt hq).1] at hr; cases hr
    · obtain ⟨i, j, hi, hj, e1, e2⟩ := two_of hr
      show (cntT (Txt.split w "-") (Txt.split w "-").length = (Txt.split w "-").length → _) ∧ (cntT (Txt.split w "-") (Txt.split w "-").length ≠ (Txt.split w "-").length → _) ∧ sortG ((Txt.split w "-").map .str) = _
      have e3 : pairO size w = if i = j then none else some (min i j, max i j) := by
        unfold pairO
        rw [e2]
        rfl
      have e4 : tz (dg i) = tz (dg j) ↔ i = j := ⟨fun h => dg_inj (by omega) (by omega) (tz_inj h), fun h => by rw [h]⟩
      rw [e2, e3, e1, cnt2]
      refine ⟨fun hc => ?_, fun hc => ?_, ?_⟩
      · by_cases hij : i = j
        · rw [if_pos (e4.mpr hij)] at hc
          cases hc
        · rw [if_neg hij]
          rfl
      · by_cases hij : i = j
        · rw [if_pos hij]
        · rw [if_neg (fun z => hij (e4.mp z))] at hc
          exact absurd rfl hc
      · exact sort_dg (by omega) (by omega)
    · obtain ⟨i, j, hi, hj, e1, e2⟩ := two_of hr
      obtain ⟨b1, b2, b3⟩ := pair_rt hb
      obtain ⟨i', j', hi', hj', e1', e2'⟩ := two_of b1
      simp only [e2, keyO] at hs ⊢
      rw [e2'] at b2
      have b2 : b = (min i' j', max i' j') := b2
      subst b2
      exact sl2_inj (show min i' j' ≤ max i' j' by omega) (show max i' j' < 24 by omega) (show min i j ≤ max i j by omega) (show max i j < 24 by omega) hs
    · obtain ⟨i, j, hi, hj, e1, e2⟩ := two_of hr
      simp only [e2, keyO] at hs
      have key : ∀ p : Nat × Nat, p.1 < 24 → p.2 < 24 → s ∈ sl2 p → so s := fun p h1 h2 hs => by
        unfold sl2 at hs
        split at hs <;> simp only [List.mem_cons, List.not_mem_nil, or_false] at hs <;> rcases hs with rfl | rfl <;> exact so_dg (by omega)
      exact key _ (show min i j < 24 by omega) (show max i j < 24 by omega) hs
    · obtain ⟨b1, b2, b3⟩ := pair_rt hb
      exact ⟨b2, b1⟩
  rw [if_neg kn] at h
  by_cases kw : k = "within"
  · rw [if_pos kw] at h
    have hrt : ∀ w, rtO false size w = (nOf (size - 1) w).isSome := fun w => by
      show (((nOf (size - 1) w).isSome && true) && decide (1 = 1 + 0)) = _
      simp
    refine s_fw_k (κ := Nat) (near := false) (f := nOf (size - 1)) (sl := fun k => [tz (dg k)]) (key := fun w => (nOf (size - 1) w).getD 0) (by simpa using kw) h0 h1 hw (fun w hm hr => ?_) (fun w hm hr => ?_) (fun w hm w' hm' hr b hb hs => ?_) (fun w hm hr s hs => ?_) (fun w hm b hb => ?_) hl h
    · rw [hrt] at hr
      simpa using hr
    · rw [hrt] at hr
      obtain ⟨k, hk⟩ := Option.isSome_iff_exists.mp hr
      obtain ⟨k1, k2⟩ := nOf_some hk
      refine ⟨fun _ => by rw [hk]; rfl, fun hc => absurd rfl hc, ?_⟩
      show sortG [.str w] = [.str (tz (dg ((nOf (size - 1) w).getD 0)))]
      rw [sort1, hk, k2]
      rfl
    · rw [hrt] at hr
      obtain ⟨k, hk⟩ := Option.isSome_iff_exists.mp hr
      obtain ⟨k1, k2⟩ := nOf_some hk
      obtain ⟨b1, b2⟩ := nOf_some hb
      simp only [hk, Option.getD_some, List.cons.injEq, and_true] at hs ⊢
      exact dg_inj (by omega) (by omega) (tz_inj hs)
    · rw [hrt] at hr
      obtain ⟨k, hk⟩ := Option.isSome_iff_exists.mp hr
      obtain ⟨k1, k2⟩ := nOf_some hk
      simp only [hk, Option.getD_some, List.mem_singleton] at hs
      rw [hs]
      exact so_dg (by omega)
    · simp only [hb, Option.getD_some, hrt, Option.isSome_some, and_self]
  rw [if_neg kw] at h
  rw [List.map_cons]
  have hnw : (([D.str "near", D.str "within"] : List D).any fun e => dEqF e (.str k)) = false := by
    show (("near" : Str) == k || (("within" : Str) == k || false)) = false
    have e : ∀ a b : Str, b ≠ a → (a == b) = false := fun a b h => beq_eq_false_iff_ne.mpr (Ne.symm h)
    rw [e _ _ kn, e _ _ kw]
    rfl
  unfold f_law_first_wrong ms_law_first_wrong
  walk_at "kq"
  refine w_ixL (atI_nat (show (D.str k :: ws.map D.str)[0]? = some (.str k) from rfl)) ?_
  walk_at "kq"
  have hcut : cutD (D.str k :: ws.map D.str) (some 1) none = ws.map D.str := cutD_drop (D.str k :: ws.map D.str) 1
  rw [hcut]
  refine ⟨_, rfl, ?_⟩
  walk_at "kq"
  refine w_inL ?_ ⟨rfl, rfl⟩
  by_cases k5 : k = "letters" ∨ k = "weight" ∨ k = "run"
  · have e5 : (([D.str "weight", D.str "letters", D.str "near", D.str "within", D.str "run"] : List D).any fun e => dEqF e (.str k)) = true := by
      rcases k5 with rfl | rfl | rfl <;> decide +kernel
    rw [e5]
    walk_at "kq"
    refine w_inL ?_ ⟨rfl, rfl⟩
    rw [hnw]
    walk_at "kq"
    refine w_eqNilS (fun s hs => (hw s hs).1) ?_
    have hfin : ∀ (s8 : Sl) (b : Bool), (ws ≠ [] → P (.int ((if b = false then 2 else if ws.length = 1 then 0 else 3 : Nat) : Int)) c) → ws ≠ [] → mRet (mIfE (mNotB (mTru (mVar 8))) (mC (.int 2)) (mIfE (mTst (mBin dGt (mCall dLen (mCons (mVar 3) mNil)) (mC (.int 1)))) (mC (.int 3)) (mC (.int 0)))) [.val (.lst (.str k :: ws.map .str)), .val (.int ((size : Nat) : Int)), .val (.str k), .val (.lst (ws.map .str)), .no, .no, .no, .no, .val (.bl b), .no, .no] c ⟨fun _ c => P .non c, P, fun _ _ => False, fun _ _ => False, E⟩ := by
      intro s8 b hb hne
      have hb := hb hne
      have := List.length_pos_iff.mpr hne
      cases b with
      | false =>
        walk_at "kq"
        exact hb
      | true =>
        rw [if_neg (by simp)] at hb
        walk_at "kq"
        rw [List.length_map]
        by_cases e : ws.length = 1
        · rw [if_pos e] at hb
          refine w_itbF (decide_eq_false (by omega)) ?_
          exact hb
        · rw [if_neg e] at hb
          refine w_itbT (decide_eq_true (by omega)) ?_
          exact hb
    cases ws with
    | nil =>
      walk_at "kq"
      rcases k5 with e | e
      · rw [if_pos e, fwG_nil, if_pos ⟨rfl, rfl⟩] at h
        exact h
      · rw [if_neg (by rcases e with rfl | rfl <;> decide +kernel), if_pos e, fwG_nil, if_pos ⟨rfl, rfl⟩] at h
        exact h
    | cons w r =>
      obtain ⟨a1, a2, a3⟩ := hw w (List.mem_cons_self ..)
      have eR : (r = []) ↔ ((w :: r).length = 1) := by
        cases r <;> simp
      have hat : atI ((w :: r).map D.str) 0 = some (.str w) := atI_nat (show ((w :: r).map D.str)[0]? = some (.str w) from rfl)
      have ekl : PyData.strOk k = true := by
        rcases k5 with rfl | rfl | rfl <;> decide +kernel
      walk_at "kq"
      refine w_itbF rfl ?_
      walk_at "kq"
      refine w_eqS ekl (by decide +kernel) ?_
      by_cases ekk : k = "letters"
      · rw [if_pos ekk, fwG_one] at h
        have eL : (letF w).isSome = letO w := by
          unfold letF
          cases letO w with
          | false => rw [if_neg (by simp)]; rfl
          | true => rw [if_pos ⟨rfl, a3⟩]; rfl
        rw [eL] at h
        simp only [eR] at h
        rw [decide_eq_true ekk]
        walk_at "kq"
        refine w_ixL hat ?_
        walk_at "kq"
        refine lc_fm (fun d => match d with | .str y => !(xyz.contains (y.cps.toList.headD 0)) || decide (1 < Txt.count w y) | _ => false) id (by rw [List.length_map]; exact Nat.le_trans (show w.cps.toList.length ≤ 50000 by rw [Array.length_toList]; exact a2) (by omega)) (fun d K1 K2 hd hk1 hk2 => ?_) ?_
        · obtain ⟨u, hu, rfl⟩ := List.mem_map.mp hd
          have hk1 : (!(xyz.contains u) || decide (1 < Txt.count w (tz [u]))) = true → K1 (.str (tz [u])) c := hk1
          have hk2 : (!(xyz.contains u) || decide (1 < Txt.count w (tz [u]))) = false → K2 c := hk2
          refine ⟨_, rfl, ?_⟩
          walk_at "kq"
          rw [q_xyz]
          rw [show (Builtin.Str.occurrences (tz xyz) { cps := #[u] } 0 (tz xyz).length 1) = Builtin.Str.occurrences (tz xyz) (tz [u]) 0 (tz xyz).length 1 from rfl, has_char, Bool.true_xor]
          cases hx : xyz.contains u with
          | false =>
            rw [hx] at hk1
            walk_at "kq"
            exact hk1 rfl
          | true =>
            rw [hx] at hk1 hk2
            walk_at "kq"
            refine w_ixL hat ?_
            walk_at "kq"
            refine w_count ?_
            walk_at "kq"
            by_cases hc : 1 < Txt.count w (tz [u])
            · refine w_itbT (decide_eq_true hc) ?_
              walk_at "kq"
              exact hk1 (by rw [decide_eq_true hc]; rfl)
            · refine w_itbF (decide_eq_false hc) ?_
              exact hk2 (by rw [decide_eq_false hc]; rfl)
        · walk_at "kq"
          have e : (((w.cps.toList.map fun c => D.str ⟨#[c]⟩).filter fun d => match d with | .str y => !(xyz.contains (y.cps.toList.headD 0)) || decide (1 < Txt.count w y) | _ => false).map id) = ((w.cps.toList.filter fun u => !(xyz.contains u) || decide (1 < Txt.count w (tz [u]))).map fun u => tz [u]).map .str := by
            rw [List.map_id, List.filter_map, List.map_map]
            rfl
          rw [e]
          refine w_eqNilS (fun s hs => ?_) ?_
          · obtain ⟨u, hu, rfl⟩ := List.mem_map.mp hs
            have hu := (List.mem_filter.mp hu).1
            exact so_tz fun v hv => by rw [List.mem_singleton.mp hv]; exact a1 u hu
          · have e2 : ((w.cps.toList.filter fun u => !(xyz.contains u) || decide (1 < Txt.count w (tz [u]))).map fun u => tz [u]).isEmpty = letO w := by
              rw [List.isEmpty_map]
              unfold letO
              rw [Bool.eq_iff_iff, List.isEmpty_iff, List.filter_eq_nil_iff, List.all_eq_true]
              refine ⟨fun h u hu => ?_, fun h u hu => ?_⟩
              · have h1 := h u hu
                have h2 := count_pos hu
                cases hx : xyz.contains u with
                | false => rw [hx] at h1; exact absurd rfl h1
                | true =>
                  rw [hx] at h1
                  have h1 : ¬ 1 < Txt.count w (tz [u]) := fun z => h1 (by rw [decide_eq_true z]; rfl)
                  rw [decide_eq_true (show Txt.count w (tz [u]) = 1 by omega)]
                  rfl
              · have h1 := h u hu
                rw [Bool.and_eq_true, decide_eq_true_iff] at h1
                rw [h1.1, h1.2]
                decide
            rw [e2]
            walk_at "kq"
            exact hfin .no (letO w) (fun _ => h) (by simp)
      · have ek2 : k = "weight" ∨ k = "run" := by
          rcases k5 with e | e
          · exact absurd e ekk
          · exact e
        rw [if_neg ekk, if_pos ek2, fwG_one] at h
        simp only [eR] at h
        rw [decide_eq_false ekk]
        walk_at "kq"
        refine w_ixL hat ?_
        walk_at "kq"
        refine s_isnum a1 (by omega) ?_
        walk_at "kq"
        exact hfin .no _ (fun _ => h) (by simp)
  · rw [not_or, not_or] at k5
    rw [if_neg k5.1, if_neg (by rw [not_or]; exact k5.2)] at h
    have e5 : (([D.str "weight", D.str "letters", D.str "near", D.str "within", D.str "run"] : List D).any fun e => dEqF e (.str k)) = false := by
      show (("weight" : Str) == k || (("letters" : Str) == k || (("near" : Str) == k || (("within" : Str) == k || (("run" : Str) == k || false))))) = false
      have e : ∀ a b : Str, b ≠ a → (a == b) = false := fun a b h => beq_eq_false_iff_ne.mpr (Ne.symm h)
      rw [e _ _ kn, e _ _ kw, e _ _ k5.1, e _ _ k5.2.1, e _ _ k5.2.2]
      rfl
    rw [e5]
    walk_at "kq"
    exact h
end
end Kq
set_option Elab.async false
set_option linter.all false
set_option maxRecDepth 100000
set_option maxHeartbeats 400000
namespace Kq
open PySem PySem.Spec PyProof.Rows L2 LamX
local macro_rules | `(tactic| walk_at "kd") => `(tactic| first | decide | omega | (simp only [List.length_cons, List.length_nil]; omega))
local macro_rules | `(tactic| walk_at "kqf") => `(tactic| (with_reducible apply w_fn0; simp only [rho0, List.zipWith_cons_cons, List.zipWith_nil_left, List.zipWith_nil_right, slOf_val, slOf_rdL, List.length_cons, List.length_nil, Nat.reduceAdd, Nat.reduceSub, Nat.zero_add, List.replicate_succ, List.replicate_zero, List.nil_append, List.cons_append]))
local macro_rules | `(tactic| walk_at "kq1") => `(tactic| first
  | with_reducible apply w_seq
  | with_reducible apply w_next
  | with_reducible apply w_set
  | with_reducible apply w_call
  | with_reducible apply w_cons
  | with_reducible apply w_nil
  | ((with_reducible apply w_var); exact rfl)
  | with_reducible apply w_C
  | with_reducible apply w_bin
  | with_reducible apply w_un
  | with_reducible apply w_if
  | with_reducible apply w_tst
  | with_reducible apply w_tru
  | with_reducible apply w_not
  | with_reducible apply w_andB
  | with_reducible apply w_orB
  | with_reducible apply w_bl
  | with_reducible apply w_itT
  | with_reducible apply w_itF
  | with_reducible apply w_itNT
  | with_reducible apply w_itNF
  | with_reducible apply w_itXTT
  | with_reducible apply w_itXTF
  | with_reducible apply w_itXFT
  | with_reducible apply w_itXFF
  | with_reducible apply w_ret
  | with_reducible apply w_pTwo
  | with_reducible apply w_pThree
  | with_reducible apply w_pOne
  | with_reducible apply w_pOwn
  | with_reducible apply w_pInt
  | with_reducible apply w_setO
  | with_reducible apply w_par
  | with_reducible apply w_par3
  | ((with_reducible apply w_aug); exact rfl)
  | with_reducible apply w_drop
  | ((with_reducible apply w_app); exact rfl)
  | ((with_reducible apply w_ext); exact rfl)
  | ((with_reducible apply w_retN); exact rfl)
  | with_reducible apply w_retU
  | ((with_reducible apply w_frz); exact rfl)
  | with_reducible apply w_brk
  | with_reducible apply w_cnt
  | with_reducible apply w_asg
  | with_reducible apply w_for
  | with_reducible apply w_forN
  | walk_at "kqf"
  | with_reducible apply w_yes
  | with_reducible apply w_truB
  | with_reducible apply w_truN
  | with_reducible apply w_truI
  | with_reducible apply w_truL
  | with_reducible apply w_truT
  | ((with_reducible apply w_varR); exact rfl)
  | ((with_reducible apply w_varRo); exact rfl)
  | ((with_reducible apply w_varRb); exact rfl)
  | ((with_reducible apply w_varB); exact rfl)
  | with_reducible apply w_tup
  | with_reducible apply w_lst
  | with_reducible apply w_if10
  | with_reducible apply w_if20
  | with_reducible apply w_ifE
  | with_reducible apply w_andV
  | with_reducible apply w_orV
  | with_reducible apply w_notV
  | with_reducible apply w_items
  | with_reducible apply w_itA
  | with_reducible apply w_itL
  | with_reducible apply w_itTu
  | with_reducible apply w_itS
  | with_reducible apply w_noO
  | with_reducible apply w_soO
  | with_reducible apply w_sl
  | with_reducible apply w_lc
  | with_reducible apply w_fg
  | with_reducible apply w_toTupF
  | ((with_reducible apply w_rng1); rotate_left; try (first | exact ⟨by decide, by decide⟩ | omega); rotate_right)
  | ((with_reducible apply w_rng2); rotate_left; try (first | exact ⟨by decide, by decide, by decide, by decide⟩ | omega); rotate_right)
  | with_reducible apply w_enum
  | ((with_reducible apply w_zipZ); exact rfl; exact rfl)
  | with_reducible apply w_zipL
  | with_reducible apply w_zipT
  | with_reducible apply w_lam
  | ((with_reducible apply w_act); exact rfl)
  | ((with_reducible apply w_calV); exact rfl)
  | with_reducible apply w_lk0
  | ((with_reducible apply w_lkS); decide +kernel)
  | with_reducible apply w_tryE
  | with_reducible apply w_tryR
  | with_reducible apply w_tryA
  | with_reducible apply w_raise
  | ((with_reducible apply w_xf); exact rfl)
  | ((with_reducible apply w_hs1); decide +kernel)
  | ((with_reducible apply w_hs0); decide +kernel)
  | with_reducible apply w_hsN
  | with_reducible apply n_wxor
  | with_reducible apply n_wbits
  | with_reducible refine n_wsub ?_ (by omega)
  | with_reducible apply n_wadd
  | with_reducible apply n_wadd1
  | with_reducible apply n_wbit
  | with_reducible apply n_wshr
  | with_reducible refine n_wshl ?_ (by first | decide | omega) (by first | decide | omega)
  | with_reducible refine n_wshl ?_ ?_ (by omega)
  | with_reducible apply n_wshl
  | with_reducible refine n_wshl1 ?_ (by first | decide | omega)
  | with_reducible apply n_wshl1
  | ((with_reducible apply w_mod); rotate_left; try (first | decide | omega); rotate_right)
  | with_reducible apply w_mul
  | ((with_reducible apply w_fdv); rotate_left; try exact ⟨by decide, by decide⟩; rotate_right)
  | ((with_reducible apply w_pow); rotate_left; try exact ⟨by decide, by decide, by decide⟩; rotate_right)
  | with_reducible apply w_shl
  | ((with_reducible apply w_shr); rotate_left; try (first | decide | omega); rotate_right)
  | with_reducible apply w_and
  | with_reducible apply w_or
  | with_reducible apply w_xor
  | with_reducible apply w_addI
  | with_reducible apply w_sub
  | with_reducible apply w_fld
  | ((with_reducible apply w_pIns); decide +kernel)
  | ((with_reducible apply w_fldO); decide +kernel)
  | with_reducible apply w_put2
  | with_reducible apply w_pPair
  | ((with_reducible apply w_put4); decide +kernel; decide +kernel; exact rfl; exact rfl)
  | with_reducible apply w_put
  | ((with_reducible apply w_put3); decide +kernel; exact rfl; exact rfl)
  | with_reducible apply w_make
  | with_reducible apply w_itTr
  | with_reducible apply w_itFa
  | with_reducible apply w_m0
  | with_reducible apply w_m1
  | with_reducible apply w_pStr
  | with_reducible apply w_enumL
  | with_reducible apply w_enumS
  | with_reducible apply w_isdigit
  | with_reducible apply w_inS
  | with_reducible apply w_addB
  | with_reducible apply w_iaddI
  | with_reducible apply w_lt
  | with_reducible apply w_le
  | with_reducible apply w_gt
  | with_reducible apply w_ge
  | with_reducible apply w_neg
  | with_reducible apply w_bits
  | ((with_reducible apply w_ixL); exact rfl)
  | ((with_reducible apply w_ixT); exact rfl)
  | with_reducible apply w_lenL
  | with_reducible apply w_lenT
  | with_reducible apply w_toI
  | with_reducible apply w_toIb
  | with_reducible apply w_abs
  | with_reducible apply w_max2
  | with_reducible apply w_min2
  | with_reducible apply w_slL
  | with_reducible apply w_slDL
  | with_reducible apply w_lisL
  | with_reducible apply w_lisT
  | with_reducible apply w_tupL
  | with_reducible apply w_tupT
  | with_reducible apply w_isB
  | with_reducible apply w_isN
  | with_reducible apply w_reprB
  | ((with_reducible apply w_itdT); walk_at "kd")
  | ((with_reducible apply w_itdF); walk_at "kd")
  | ((with_reducible apply w_itnT); walk_at "kd")
  | ((with_reducible apply w_itnF); walk_at "kd")
  | ((with_reducible apply w_isi1); exact rfl; (first | exact kit_NoneType_int | exact kit_bool_int | exact kit_int_int | exact kit_str_int | exact kit_tuple_int | exact kit_list_int | exact kit_NoneType_bool | exact kit_bool_bool | exact kit_int_bool | exact kit_str_bool | exact kit_tuple_bool | exact kit_list_bool | exact kit_NoneType_str | exact kit_bool_str | exact kit_int_str | exact kit_str_str | exact kit_tuple_str | exact kit_list_str | exact kit_NoneType_tuple | exact kit_bool_tuple | exact kit_int_tuple | exact kit_str_tuple | exact kit_tuple_tuple | exact kit_list_tuple | exact kit_NoneType_list | exact kit_bool_list | exact kit_int_list | exact kit_str_list | exact kit_tuple_list | exact kit_list_list | exact kit_dict_int | exact kit_dict_bool | exact kit_dict_str | exact kit_dict_tuple | exact kit_dict_list))
  | with_reducible apply w_eqI
  | with_reducible apply w_neI
  | ((with_reducible apply w_sz); exact rfl)
  | ((with_reducible apply w_len2); exact rfl; exact rfl))
local macro_rules | `(tactic| walk_at "kq") => `(tactic| ((repeat (walk_at "kq1")); try simp only [List.set_cons_zero, List.set_cons_succ, List.zip_cons_cons, List.zip_nil_left, List.zip_nil_right, List.reverse_cons, List.reverse_nil, List.nil_append, List.cons_append]))

def wordsOf (z : Str) : List Str := (Txt.split z " ").filter fun y => !decide (y = tz [])
def dueL (size : Nat) : Nat → List Str → Nat × Nat
  | _, [] => (0, 0)
  | n, ln :: r => if wordsOf ln ≠ [] ∧ 0 < fw size (wordsOf ln) then (n + 1, fw size (wordsOf ln)) else dueL size (n + 1) r
theorem words_ok {z w : Str} (hz : so z) (hl : z.length ≤ 50000) (h : w ∈ wordsOf z) : okw w := by
  obtain ⟨h1, h2⟩ := List.mem_filter.mp h
  refine ⟨so_split hz h1, Nat.le_trans (PyProof.Rows.part_short h1) hl, ?_⟩
  simpa using h2
theorem words_len {z : Str} (hl : z.length ≤ 49000) : (wordsOf z).length ≤ 50000 := by
  have h1 : (wordsOf z).length ≤ (Txt.split z " ").length := List.length_filter_le _ _
  have := split_le z " "
  omega
section
variable {P Q : D → Nat → Prop} {E : XC → Nat → Prop} {c m size line : Nat} {z : Str} {us : List Nat} {ws : List Str}
theorem w_words {f : D → Rho → Option Rho} {T : MB} {me : ME} {ρw : Rho} {Q : List D → Nat → Prop} (hz : so z) (hl : z.length ≤ 49000)
    (hf : ∀ (y : Str) (K1 : D → Nat → Prop) (K2 : Nat → Prop), so y → (y ≠ tz [] → K1 (.str y) c) → (y = tz [] → K2 c) → ∃ ρ2, f (.str y) ρw = some ρ2 ∧ T ρ2 c (fun b c => if b = true then me ρ2 c K1 (fun _ _ => False) else K2 c) (fun _ _ => False))
    (h : Q ((wordsOf z).map .str) c) : lcD f T me ρw ((Txt.split z " ").map .str) [] c Q := by
  have hs := split_le z " "
  refine lc_fm (fun d => match d with | .str y => !decide (y = tz []) | _ => false) id (by rw [List.length_map]; omega) (fun d K1 K2 hd h1 h2 => ?_) ?_
  · obtain ⟨y, hy, rfl⟩ := List.mem_map.mp hd
    have h1 : (!decide (y = tz [])) = true → K1 (.str y) c := h1
    have h2 : (!decide (y = tz [])) = false → K2 c := h2
    exact hf y K1 K2 (so_split hz hy) (fun e => h1 (by rw [decide_eq_false e]; rfl)) (fun e => h2 (by rw [decide_eq_true e]; rfl))
  · have e : ((((Txt.split z " ").map D.str).filter fun d => match d with | .str y => !decide (y = tz []) | _ => false).map id) = (wordsOf z).map .str := by
      rw [List.map_id, List.filter_map]
      rfl
    rw [e]
    exact h
theorem s_due (hz : so z) (hl : z.length ≤ 48000) (h0 : 1 ≤ size) (h1 : size ≤ 24) (h : P (.tup [.int (((dueL size 0 (Txt.split z "\n")).1 : Nat) : Int), .int (((dueL size 0 (Txt.split z "\n")).2 : Nat) : Int)]) c) : f_law_due [.str z, .int ((size : Nat) : Int)] c P E := by
  unfold f_law_due ms_law_due
  walk_at "kq"
  refine w_split ?_ (by decide +kernel) (len_nat (Nat.le_trans hl (by omega)) (Nat.le_refl _))
  walk_at "kq"
  refine for_rule (fun i ρ c' => c' = c ∧ (∃ s2 s3 s4, ρ = [.val (.str z), .val (.int ((size : Nat) : Int)), s2, s3, s4, .no]) ∧ dueL size 0 (Txt.split z "\n") = dueL size i ((Txt.split z "\n").drop i)) ⟨rfl, ⟨_, _, _, rfl⟩, rfl⟩ ?_ ?_
  · rintro i d ρ c' K hd ⟨rfl, ⟨s2, s3, s4, rfl⟩, hfw⟩ hK
    obtain ⟨e, he, rfl⟩ := enumD_at hd
    rw [List.getElem?_map] at he
    obtain ⟨ln, hwi, rfl⟩ : ∃ w, (Txt.split z "\n")[i]? = some w ∧ e = .str w := by
      cases hq : (Txt.split z "\n")[i]? with
      | none => rw [hq] at he; cases he
      | some w => rw [hq] at he; cases he; exact ⟨w, rfl, rfl⟩
    have hwm := List.mem_of_getElem? hwi
    have hil := (List.getElem?_eq_some_iff.mp hwi).1
    have hdrop : (Txt.split z "\n").drop i = ln :: (Txt.split z "\n").drop (i + 1) := by
      rw [List.drop_eq_getElem_cons hil]
      congr 1
      exact (List.getElem?_eq_some_iff.mp hwi).2
    rw [hdrop] at hfw
    have hzl := so_split hz hwm
    have hll : ln.length ≤ 48000 := Nat.le_trans (PyProof.Rows.part_short hwm) hl
    refine ⟨_, rfl, ?_⟩
    unfold b_law_due_0
    walk_at "kq"
    refine w_split ?_ (by decide +kernel) (len_nat (Nat.le_trans hll (by omega)) (Nat.le_refl _))
    walk_at "kq"
    refine w_words hzl (by omega) (fun y K1 K2 hy k1 k2 => ⟨_, rfl, ?_⟩) ?_
    · walk_at "kq"
      refine w_neS (so_ok hy) (so_ok (so_tz (us := []) (by simp))) ?_
      rw [q_em]
      walk_at "kq"
      by_cases e : y = tz []
      · refine w_itbF (by rw [decide_eq_true e]; rfl) ?_
        exact k2 e
      · refine w_itbT (by rw [decide_eq_false e]; rfl) ?_
        walk_at "kq"
        exact k1 e
    · have hok : ∀ w ∈ wordsOf ln, okw w := fun w hw => words_ok hzl (Nat.le_trans hll (by omega)) hw
      have hwl := words_len (z := ln) (by omega)
      walk_at "kq"
      refine w_neNilS (fun s hs => (hok s hs).1) ?_
      have hdl : dueL size i (ln :: (Txt.split z "\n").drop (i + 1)) = if wordsOf ln ≠ [] ∧ 0 < fw size (wordsOf ln) then (i + 1, fw size (wordsOf ln)) else dueL size (i + 1) ((Txt.split z "\n").drop (i + 1)) := rfl
      rw [hdl] at hfw
      generalize wordsOf ln = ws at hok hwl hfw
      cases ws with
      | nil =>
        rw [if_neg (by simp)] at hfw
        walk_at "kq"
        refine w_itbF rfl ?_
        walk_at "kq"
        exact hK _ _ ⟨rfl, ⟨_, _, _, rfl⟩, hfw⟩
      | cons k r =>
        have hr : ∀ w ∈ r, okw w := fun w hw => hok w (List.mem_cons_of_mem _ hw)
        have hrl : r.length ≤ 50000 := by rw [List.length_cons] at hwl; omega
        walk_at "kq"
        refine w_itbT rfl ?_
        walk_at "kq"
        refine s_first k (hok k (List.mem_cons_self ..)) hr hrl h0 h1 ?_
        walk_at "kq"
        by_cases e : 0 < fw size (k :: r)
        · rw [if_pos ⟨by simp, e⟩] at hfw
          rw [hfw] at h
          refine w_itbT (decide_eq_true (by omega)) ?_
          walk_at "kq"
          refine s_first k (hok k (List.mem_cons_self ..)) hr hrl h0 h1 ?_
          walk_at "kq"
          exact h
        · rw [if_neg (by simp [e])] at hfw
          refine w_itbF (decide_eq_false (by omega)) ?_
          walk_at "kq"
          exact hK _ _ ⟨rfl, ⟨_, _, _, rfl⟩, hfw⟩
  · rintro ρ c' ⟨rfl, ⟨s2, s3, s4, rfl⟩, hfw⟩
    rw [enumD_length, List.length_map, List.drop_length] at hfw
    rw [hfw] at h
    walk_at "kq"
    exact h
end
end Kq
set_option Elab.async false
set_option linter.all false
set_option maxRecDepth 100000
set_option maxHeartbeats 400000
namespace Kq
open PySem PySem.Spec PyProof.Rows L2 LamX
/-! ### a def that makes a lambda -/
/-- the def under x: its code object at c, its table at P -/
structure LamT (K : PySem.W.Frag) (mg : Str → Option Value) (base : Heap) (T : List (Addr × Str)) (x name ql : Str) (st : Stmt) (ps : List Str) : Prop where
  ex : ∃ (c P f : Addr) (fd : FuncData), TabB base mg c P ∧ (P, ql) ∈ T ∧ (∀ p ∈ T, p.1 = P → p.2 = ql) ∧ mg x = some (.ref f) ∧ PySem.W.keepIn K (.ref f) = true ∧ FnD K name name st f fd (.ref c) ∧ Binds K fd ps []
section
variable {P : Program} {w : World} {K : PySem.W.Frag} {mg : Str → Option Value} {base : Heap} {T : List (Addr × Str)}
theorem fn_okC {x qual : Str} {st : Stmt} {f : Addr} {fd : FuncData} {cdv : Value} {N ps : List Str} {k : Nat} {ks : List Kd} {om : Bool} {ms : MS} (F : FnD K x qual st f fd cdv) (S : FnScope N ps (defScope st)) (hps : ks.length = ps.length) (hk : ∀ k ∈ ks, k ≠ .own)
    (hb : ∀ (A : Around) (outer : List PySem.Env) (s : Shared) (z : Hz) (E : XK), Room k (A.deeper (envOfC qual (defScope st) s.heap.objs.size f cdv)) → RSs (jOf P w K mg T base N qual (defScope st) f cdv A outer s z E) om (defBody st) ms)
    (hom : om = true → ∀ ρ c po, ms ρ c po → ms ρ c { po with nx := fun _ _ => False }) : FnOk P w K mg base (L2.CX P w) (k + 1) f fd ps (spOf ⟨P, w, K, mg, T⟩ ks om (fnM N.length ks ms)) := by
  have hpl : ps.length ≤ N.length := by have := congrArg List.length S.pre; rw [List.length_take] at this; omega
  obtain ⟨oc, od, kV, doc, pm, an, ct, osl, rfl, lk, hcd⟩ := F.ex
  refine fn_of lk hcd S (spOf_len hps) fun A outer s H vs Q E hr ⟨hl, s0, sx, ds, Pd, Ex, eh, o, r, hm, hv, hx⟩ => ?_
  subst eh
  refine ⟨_, (hb A outer s ⟨sx, none, none⟩ E hr).ps, ?_⟩
  have fin : ∀ d c, Pd d c → ∀ v t, Sg (jOf P w K mg T base N qual (defScope st) f cdv A outer s ⟨sx, none, none⟩ E) sx t → t.c = c → Ok ⟨P, w, K, mg, T⟩ t → Xt t.p sx.H t.H → RetR (jOf P w K mg T base N qual (defScope st) f cdv A outer s ⟨sx, none, none⟩ E) om t v d → Q v t.H := fun d c hd v t sg ec ok h0 rr => by
    refine hv d c hd v t ⟨sg.p, sg.ff, sg.p ▸ h0, sg.ap, ok⟩ ec ?_
    unfold RetR at rr
    unfold rk
    cases om with
    | true =>
      rw [if_pos rfl] at rr ⊢
      exact rr
    | false =>
      rw [if_neg Bool.false_ne_true] at rr ⊢
      exact rr
  have exx : ∀ x c, Ex x c → ∀ cls dd (σ : L2.St) t, Sg (jOf P w K mg T base N qual (defScope st) f cdv A outer s ⟨sx, none, none⟩ E) sx t → t.c = c → Ok ⟨P, w, K, mg, T⟩ t → Xt t.p sx.H t.H → XcR ⟨P, w, K, mg, T⟩ t cls dd x → E cls dd t.H := fun x c q cls dd σ t sg ec ok h0 rr => hx x c q cls dd t ⟨sg.p, sg.ff, sg.p ▸ h0, sg.ap, ok⟩ ec rr
  cases om with
  | true => exact ⟨_, sx, _, rfl, env0 r hk o (by omega), hom rfl _ _ _ hm, ⟨fun _ _ z => z.elim, fin, fun _ _ z => z.elim, fun _ _ z => z.elim, exx⟩⟩
  | false => exact ⟨_, sx, _, rfl, env0 r hk o (by omega), hm, ⟨fun ρ c q σ t sg ec env => fin .non c q .non t sg ec env.ok env.h0 (RV.ret (s := t) Rp.non), fin, fun _ _ z => z.elim, fun _ _ z => z.elim, exx⟩⟩
end
section
variable {h : Heap} {mg : Str → Option Value} {K : PySem.W.Frag}
theorem lamT_mk {x name ql : Str} {st : Stmt} {ps : List Str} {base : Heap} {T : List (Addr × Str)} {c P f : Addr} {oc : Value} {od an : Option Addr} {osl : Array (Option Value)} {kV doc pm cdv ct : Value} (X : K.In h) (G : h.Ns mainGlobals mg) (a : PySem.W.nsIn K mainGlobals x = some (some (.ref f)))
    (l : K.lookup f = some ⟨oc, od, .func (PySem.W.fnOf name name (defArgs st) (defBody st) (defScope st) .none kV doc pm an cdv ct), osl⟩) (cl : PySem.W.codeIn K cdv name = true) (k : PySem.W.keepIn K (.ref f) = true) (hc : cdv = .ref c)
    (b : ∀ (kV doc pm : Value) (an : Option Addr) (cdv ct : Value) (us : List Value), us.length = ps.length → bindArgs (PySem.W.fnOf name name (defArgs st) (defBody st) (defScope st) .none kV doc pm an cdv ct) ⟨us, []⟩ = pure (ps.zip us))
    (TB : TabB base mg c P) (hT : (P, ql) ∈ T) (hu : ∀ p ∈ T, p.1 = P → p.2 = ql) : LamT K mg base T x name ql st ps := by
  subst hc
  exact ⟨c, P, f, _, TB, hT, hu, PySem.W.mg_of X G a, k, ⟨oc, od, kV, doc, pm, an, ct, osl, rfl, l, cl⟩, (fun_mk l cl k).binds b⟩
theorem lawTm {l : PySem.W.OpenLaw} {f : Addr} {w : World} {fa : Addr} {st : Stmt} {oc : Value} {od an : Option Addr} {osl : Array (Option Value)} {kV doc pm cdv ct : Value} {k n : Nat} {cs : List (Addr × Addr)} {T : List (Addr × Str)} (X : K.In h) (G : h.Ns mainGlobals mg) (hfa : mg "law" = some (.ref fa))
    (a1 : PySem.W.nsIn K mainGlobals "law" = some (some (.ref f))) (a2 : K.lookup f = some ⟨oc, od, .func (PySem.W.fnOf "law" "law" (defArgs st) (defBody st) (defScope st) .none kV doc pm an cdv ct), osl⟩) (cl : PySem.W.codeIn K cdv "law" = true)
    (hP : ∀ p ∈ cs, h.get? p.2 = some { cls := .none, data := .fields #[] }) (nP : ∀ p ∈ cs, K.lookup p.2 = none) (hd : ∀ p ∈ cs, PySem.W.codeHdIn K p.1 p.2 = true) (tb : ∀ p ∈ T, p.1 ∈ cs.map (·.2)) (hn : n ≤ 63)
    (b : ∀ (kV doc pm : Value) (an : Option Addr) (cdv ct : Value) (us : List Value), us.length = 1 → bindArgs (PySem.W.fnOf "law" "law" (defArgs st) (defBody st) (defScope st) .none kV doc pm an cdv ct) ⟨us, []⟩ = pure ((["_law_script"] : List Str).zip us))
    (F : ∀ base : Heap, K.In base → base.Ns mainGlobals mg → (∀ p ∈ cs, TabB base mg p.1 p.2) → ∀ fd, FnD K "law" "law" st fa fd cdv → FnOk l.prog w K mg base (L2.CX l.prog w) k fa fd ["_law_script"] (spLaw K T)) :
    LawAtS l w K (L2.CX l.prog w) k n "_law_script" mg fa h := by
  have e := hfa.symm.trans (PySem.W.mg_of X G a1)
  cases e
  refine ⟨_, cs, spLaw K T, hP, nP, fun p hp => PySem.W.codeHd_of_K X (hd p hp), fun s u => ?_, fun H a ns hl hb hT hS => ?_, fun base KB NB TB => F base KB NB TB _ ⟨oc, od, kV, doc, pm, an, ct, osl, rfl, a2, cl⟩⟩
  · exact .of_eq (b _ _ _ _ _ _ [u] rfl)
  · refine ⟨a, ns, rfl, hS, ⟨Nat.le_trans hl hn, fun z hz => ?_⟩, fun p hp => ?_, fun _ => rfl⟩
    · have q := hb z hz
      unfold Builtin.Int.intBits at q
      by_cases h0 : z = 0
      · subst h0
        exact Nat.two_pow_pos _
      · rw [if_neg (by simpa using h0)] at q
        exact (Nat.log2_lt (by omega)).mp (by omega)
    · obtain ⟨q, hq, e⟩ := List.mem_map.mp (tb p hp)
      have hq' := hT q hq
      rw [e] at hq'
      exact TabS.nil hq'
end
/-! ### head steps -/
section
variable {P : D → Nat → Prop} {PB : Bool → Nat → Prop} {E : XC → Nat → Prop} {c i : Nat} {a b : Int} {d x y z : D} {ds : List D} {ρ : Rho} {ma mb mc mk mx : ME} {mo mo' : D → D → M D} {kvs : List (Key × D)} {k : Key}
def pCh (mo' : D → D → M D) (mc : ME) (ρ : Rho) (y : D) (P : D → Nat → Prop) (E : XC → Nat → Prop) : D → Nat → Prop := fun z c => match z with
  | .bl true => mc ρ c (fun w c => mo' y w c P E) E
  | .bl false => P (.bl false) c
  | _ => False
theorem w_chain (h : ma ρ c (fun x c => mb ρ c (fun y c => mo x y c (pCh mo' mc ρ y P E) E) E) E) : mChain mo mo' ma mb mc ρ c P E := h
theorem w_pCh {q : Bool} (h1 : q = true → mc ρ c (fun w c => mo' y w c P E) E) (h2 : q = false → P (.bl false) c) : pCh mo' mc ρ y P E (.bl q) c := by
  cases q with
  | true => exact h1 rfl
  | false => exact h2 rfl
theorem w_rev (h : P (.lst ds.reverse) c) : dRev (.lst ds) c P E := h
theorem w_getDf (e : ρ[i]? = some (.ownd kvs)) (h : mk ρ c (fun y c => mx ρ c (fun z c => ∃ q, keyD y = some q ∧ P ((atK kvs q).getD z) c) E) E) : mGetDf i mk mx ρ c P E := by
  unfold mGetDf
  rw [e]
  exact h
theorem w_keysD (e : ρ[i]? = some (.ownd kvs)) (h : P (.lst (kvs.map fun p => keyU p.1)) c) : mKeysD i ρ c P E := by
  unfold mKeysD
  rw [e]
  exact h
theorem w_sortK (hr : ∀ d ∈ ds, ∃ z r, d = .tup (.str z :: r) ∧ z.length ≤ sizeLine) (h : P (.lst (sortD ds)) c) : dSortK (.lst ds) c P E := ⟨hr, h⟩
end
theorem sortD_perm (ds : List D) : (sortD ds).Perm ds := List.mergeSort_perm _ _
theorem sortD_idem (ds : List D) : sortD (sortD ds) = sortD ds := by
  unfold sortD
  exact List.mergeSort_of_pairwise (PySem.W.sort_pairwise (PySem.W.sortLe_total _ _ _) _)
end Kq
set_option Elab.async false
set_option linter.all false
set_option maxRecDepth 100000
set_option maxHeartbeats 400000
namespace Kq
open PySem PySem.Spec PyProof.Rows L2 LamX
local macro_rules | `(tactic| walk_at "kd") => `(tactic| first | decide | omega | (simp only [List.length_cons, List.length_nil]; omega))
local macro_rules | `(tactic| walk_at "kqf") => `(tactic| (with_reducible apply w_fn0; simp only [rho0, List.zipWith_cons_cons, List.zipWith_nil_left, List.zipWith_nil_right, slOf_val, slOf_rdL, List.length_cons, List.length_nil, Nat.reduceAdd, Nat.reduceSub, Nat.zero_add, List.replicate_succ, List.replicate_zero, List.nil_append, List.cons_append]))
local macro_rules | `(tactic| walk_at "kq1") => `(tactic| first
  | with_reducible apply w_seq
  | with_reducible apply w_next
  | with_reducible apply w_set
  | with_reducible apply w_call
  | with_reducible apply w_cons
  | with_reducible apply w_nil
  | ((with_reducible apply w_var); exact rfl)
  | with_reducible apply w_C
  | with_reducible apply w_bin
  | with_reducible apply w_un
  | with_reducible apply w_if
  | with_reducible apply w_tst
  | with_reducible apply w_tru
  | with_reducible apply w_not
  | with_reducible apply w_andB
  | with_reducible apply w_orB
  | with_reducible apply w_bl
  | with_reducible apply w_itT
  | with_reducible apply w_itF
  | with_reducible apply w_itNT
  | with_reducible apply w_itNF
  | with_reducible apply w_itXTT
  | with_reducible apply w_itXTF
  | with_reducible apply w_itXFT
  | with_reducible apply w_itXFF
  | with_reducible apply w_ret
  | with_reducible apply w_pTwo
  | with_reducible apply w_pThree
  | with_reducible apply w_pOne
  | with_reducible apply w_pOwn
  | with_reducible apply w_pInt
  | with_reducible apply w_setO
  | with_reducible apply w_par
  | with_reducible apply w_par3
  | ((with_reducible apply w_aug); exact rfl)
  | with_reducible apply w_drop
  | ((with_reducible apply w_app); exact rfl)
  | ((with_reducible apply w_ext); exact rfl)
  | ((with_reducible apply w_retN); exact rfl)
  | with_reducible apply w_retU
  | ((with_reducible apply w_frz); exact rfl)
  | with_reducible apply w_brk
  | with_reducible apply w_cnt
  | with_reducible apply w_asg
  | with_reducible apply w_for
  | with_reducible apply w_forN
  | walk_at "kqf"
  | with_reducible apply w_yes
  | with_reducible apply w_truB
  | with_reducible apply w_truN
  | with_reducible apply w_truI
  | with_reducible apply w_truL
  | with_reducible apply w_truT
  | ((with_reducible apply w_varR); exact rfl)
  | ((with_reducible apply w_varRo); exact rfl)
  | ((with_reducible apply w_varRb); exact rfl)
  | ((with_reducible apply w_varB); exact rfl)
  | with_reducible apply w_tup
  | with_reducible apply w_lst
  | with_reducible apply w_if10
  | with_reducible apply w_if20
  | with_reducible apply w_ifE
  | with_reducible apply w_andV
  | with_reducible apply w_orV
  | with_reducible apply w_notV
  | with_reducible apply w_items
  | with_reducible apply w_itA
  | with_reducible apply w_itL
  | with_reducible apply w_itTu
  | with_reducible apply w_itS
  | with_reducible apply w_noO
  | with_reducible apply w_soO
  | with_reducible apply w_sl
  | with_reducible apply w_lc
  | with_reducible apply w_fg
  | with_reducible apply w_toTupF
  | ((with_reducible apply w_rng1); rotate_left; try (first | exact ⟨by decide, by decide⟩ | omega); rotate_right)
  | ((with_reducible apply w_rng2); rotate_left; try (first | exact ⟨by decide, by decide, by decide, by decide⟩ | omega); rotate_right)
  | with_reducible apply w_enum
  | ((with_reducible apply w_zipZ); exact rfl; exact rfl)
  | with_reducible apply w_zipL
  | with_reducible apply w_zipT
  | with_reducible apply w_lam
  | ((with_reducible apply w_act); exact rfl)
  | ((with_reducible apply w_calV); exact rfl)
  | with_reducible apply w_lk0
  | ((with_reducible apply w_lkS); decide +kernel)
  | with_reducible apply w_tryE
  | with_reducible apply w_tryR
  | with_reducible apply w_tryA
  | with_reducible apply w_raise
  | ((with_reducible apply w_xf); exact rfl)
  | ((with_reducible apply w_hs1); decide +kernel)
  | ((with_reducible apply w_hs0); decide +kernel)
  | with_reducible apply w_hsN
  | with_reducible apply n_wxor
  | with_reducible apply n_wbits
  | with_reducible refine n_wsub ?_ (by omega)
  | with_reducible apply n_wadd
  | with_reducible apply n_wadd1
  | with_reducible apply n_wbit
  | with_reducible apply n_wshr
  | with_reducible refine n_wshl ?_ (by first | decide | omega) (by first | decide | omega)
  | with_reducible refine n_wshl ?_ ?_ (by omega)
  | with_reducible apply n_wshl
  | with_reducible refine n_wshl1 ?_ (by first | decide | omega)
  | with_reducible apply n_wshl1
  | ((with_reducible apply w_mod); rotate_left; try (first | decide | omega); rotate_right)
  | with_reducible apply w_mul
  | ((with_reducible apply w_fdv); rotate_left; try exact ⟨by decide, by decide⟩; rotate_right)
  | ((with_reducible apply w_pow); rotate_left; try exact ⟨by decide, by decide, by decide⟩; rotate_right)
  | with_reducible apply w_shl
  | ((with_reducible apply w_shr); rotate_left; try (first | decide | omega); rotate_right)
  | with_reducible apply w_and
  | with_reducible apply w_or
  | with_reducible apply w_xor
  | with_reducible apply w_addI
  | with_reducible apply w_sub
  | with_reducible apply w_fld
  | ((with_reducible apply w_pIns); decide +kernel)
  | ((with_reducible apply w_fldO); decide +kernel)
  | with_reducible apply w_put2
  | with_reducible apply w_pPair
  | ((with_reducible apply w_put4); decide +kernel; decide +kernel; exact rfl; exact rfl)
  | with_reducible apply w_put
  | ((with_reducible apply w_put3); decide +kernel; exact rfl; exact rfl)
  | with_reducible apply w_make
  | with_reducible apply w_itTr
  | with_reducible apply w_itFa
  | with_reducible apply w_m0
  | with_reducible apply w_m1
  | with_reducible apply w_pStr
  | with_reducible apply w_enumL
  | with_reducible apply w_enumS
  | with_reducible apply w_isdigit
  | with_reducible apply w_inS
  | with_reducible apply w_addB
  | with_reducible apply w_iaddI
  | with_reducible apply w_lt
  | with_reducible apply w_le
  | with_reducible apply w_gt
  | with_reducible apply w_ge
  | with_reducible apply w_neg
  | with_reducible apply w_bits
  | ((with_reducible apply w_ixL); exact rfl)
  | ((with_reducible apply w_ixT); exact rfl)
  | with_reducible apply w_lenL
  | with_reducible apply w_lenT
  | with_reducible apply w_toI
  | with_reducible apply w_toIb
  | with_reducible apply w_abs
  | with_reducible apply w_max2
  | with_reducible apply w_min2
  | with_reducible apply w_slL
  | with_reducible apply w_slDL
  | with_reducible apply w_lisL
  | with_reducible apply w_lisT
  | with_reducible apply w_tupL
  | with_reducible apply w_tupT
  | with_reducible apply w_isB
  | with_reducible apply w_isN
  | with_reducible apply w_reprB
  | ((with_reducible apply w_itdT); walk_at "kd")
  | ((with_reducible apply w_itdF); walk_at "kd")
  | ((with_reducible apply w_itnT); walk_at "kd")
  | ((with_reducible apply w_itnF); walk_at "kd")
  | ((with_reducible apply w_isi1); exact rfl; (first | exact kit_NoneType_int | exact kit_bool_int | exact kit_int_int | exact kit_str_int | exact kit_tuple_int | exact kit_list_int | exact kit_NoneType_bool | exact kit_bool_bool | exact kit_int_bool | exact kit_str_bool | exact kit_tuple_bool | exact kit_list_bool | exact kit_NoneType_str | exact kit_bool_str | exact kit_int_str | exact kit_str_str | exact kit_tuple_str | exact kit_list_str | exact kit_NoneType_tuple | exact kit_bool_tuple | exact kit_int_tuple | exact kit_str_tuple | exact kit_tuple_tuple | exact kit_list_tuple | exact kit_NoneType_list | exact kit_bool_list | exact kit_int_list | exact kit_str_list | exact kit_tuple_list | exact kit_list_list | exact kit_dict_int | exact kit_dict_bool | exact kit_dict_str | exact kit_dict_tuple | exact kit_dict_list))
  | with_reducible apply w_eqI
  | with_reducible apply w_neI
  | ((with_reducible apply w_sz); exact rfl)
  | ((with_reducible apply w_len2); exact rfl; exact rfl))
local macro_rules | `(tactic| walk_at "kq") => `(tactic| ((repeat (walk_at "kq1")); try simp only [List.set_cons_zero, List.set_cons_succ, List.zip_cons_cons, List.zip_nil_left, List.zip_nil_right, List.reverse_cons, List.reverse_nil, List.nil_append, List.cons_append]))

section
variable {P Q : D → Nat → Prop} {E : XC → Nat → Prop} {c m size line : Nat} {z : Str} {us : List Nat} {ws : List Str} {PF : List (Str × D) → Nat → Prop}
theorem s_isw {n : Int} (h : P (.bl true) c) : f_is_whole [.int n] c P E := by
  unfold f_is_whole ms_is_whole
  walk_at "kq"
  refine w_isiT (fun _ _ z => nomatch z) ?_
  walk_at "kq"
  refine w_isiT (fun _ _ z => nomatch z) ?_
  walk_at "kq"
  exact h
theorem put_1 (a : D) (f : Str) : putD f a [] = [(f, a)] := rfl
theorem put_n {a b : D} {f g : Str} {r : List (Str × D)} (h : (g == f) = false) : putD f a ((g, b) :: r) = (g, b) :: putD f a r := by
  show (if g = f then _ else _) = _
  rw [if_neg (fun z => by subst z; simp at h)]
theorem put_s2 (a b : D) : putD "text" b (putD "size" a []) = ([("size", a), ("text", b)] : List (Str × D)) := by
  rw [put_1, put_n (by decide +kernel), put_1]
theorem s_Sort_size {v : D} (h0 : 1 ≤ size) (h1 : size ≤ 24) (hA : mSeq (mIf (mNotB (mTru (mCall (dIsiC (clsT clsL) (subT subL)) (mCons (mVar 2) (mCons (mC (.ty "str")) mNil))))) (mRaise "BadText" ["line", "column"] (mCons (mC (.int 0)) (mCons (mC (.int 0)) mNil))) mNext)
    (mSeq (mSetO 3 (mLst mNil))
    (mSeq (mFor (mItA dEnum (mCons (mM1 dSplit (mVar 2) (mC (.str "\n"))) mNil)) (fTup 2 (fCons (fName 4) (fCons (fName 5) fNil))) b_Sort_ini_0)
    (mSeq (mPut fldT "size" (mVar 1))
    (mSeq (mPut fldT "text" (mVar 2))
    (mPut fldT "rules" (mCall dToTup (mCons (mVarR 3) mNil))))))) [.obj "Sort" [], .val (.int ((size : Nat) : Int)), .val v, .no, .no, .no, .no, .no] c ⟨fun ρ k => match ρ with
      | .obj x fs :: _ => x = "Sort" ∧ PF fs k
      | _ => False, fun _ _ => False, fun _ _ => False, fun _ _ => False, E⟩) : ini_Sort [.int ((size : Nat) : Int), v] c PF E := by
  unfold ini_Sort
  refine w_ini ?_
  unfold ms_Sort_ini
  simp only [rho0, List.zipWith_cons_cons, List.zipWith_nil_left, List.zipWith_nil_right, slOf_val, slOf_rdL, List.length_cons, List.length_nil, Nat.reduceAdd, Nat.reduceSub, Nat.zero_add, List.replicate_succ, List.replicate_zero, List.nil_append, List.cons_append]
  walk_at "kq"
  refine s_isw ?_
  walk_at "kq"
  refine w_chain ?_
  walk_at "kq"
  refine w_pCh (fun _ => ?_) (fun h => absurd (of_decide_eq_false h) (by omega))
  walk_at "kq"
  exact hA
theorem s_Sort (hz : so z) (hl : z.length ≤ 48000) (h0 : 1 ≤ size) (h1 : size ≤ 24) (h : (dueL size 0 (Txt.split z "\n")).1 = 0 → ∀ fs, PF fs c)
    (hE : (dueL size 0 (Txt.split z "\n")).1 ≠ 0 → E (bt ((dueL size 0 (Txt.split z "\n")).1 : Nat) ((dueL size 0 (Txt.split z "\n")).2 : Nat)) c) : ini_Sort [.int ((size : Nat) : Int), .str z] c PF E := by
  refine s_Sort_size h0 h1 ?_
  walk_at "kq"
  refine w_isiT (fun _ _ z => nomatch z) ?_
  walk_at "kq"
  refine w_split ?_ (by decide +kernel) (len_nat (Nat.le_trans hl (by omega)) (Nat.le_refl _))
  walk_at "kq"
  have hsl := split_le z "\n"
  refine for_rule (fun i ρ c' => c' = c ∧ (∃ rs s4 s5 s6, rs.length ≤ i ∧ [Sl.own rs, s4, s5, s6, .no].all notObj = true ∧ ρ = [.obj "Sort" [], .val (.int ((size : Nat) : Int)), .val (.str z), .own rs, s4, s5, s6, .no]) ∧ dueL size 0 (Txt.split z "\n") = dueL size i ((Txt.split z "\n").drop i)) ⟨rfl, ⟨[], _, _, _, Nat.le_refl _, rfl, rfl⟩, rfl⟩ ?_ ?_
  · rintro i d ρ c' K hd ⟨rfl, ⟨rs, s4, s5, s6, hrs, hno, rfl⟩, hfw⟩ hK
    obtain ⟨e, he, rfl⟩ := enumD_at hd
    rw [List.getElem?_map] at he
    obtain ⟨ln, hwi, rfl⟩ : ∃ w, (Txt.split z "\n")[i]? = some w ∧ e = .str w := by
      cases hq : (Txt.split z "\n")[i]? with
      | none => rw [hq] at he; cases he
      | some w => rw [hq] at he; cases he; exact ⟨w, rfl, rfl⟩
    have hwm := List.mem_of_getElem? hwi
    have hil := (List.getElem?_eq_some_iff.mp hwi).1
    have hdrop : (Txt.split z "\n").drop i = ln :: (Txt.split z "\n").drop (i + 1) := by
      rw [List.drop_eq_getElem_cons hil]
      congr 1
      exact (List.getElem?_eq_some_iff.mp hwi).2
    rw [hdrop] at hfw
    have hzl := so_split hz hwm
    have hll : ln.length ≤ 48000 := Nat.le_trans (PyProof.Rows.part_short hwm) hl
    refine ⟨_, rfl, ?_⟩
    unfold b_Sort_ini_0
    walk_at "kq"
    refine w_split ?_ (by decide +kernel) (len_nat (Nat.le_trans hll (by omega)) (Nat.le_refl _))
    walk_at "kq"
    refine w_words hzl (by omega) (fun y K1 K2 hy k1 k2 => ⟨_, rfl, ?_⟩) ?_
    · walk_at "kq"
      refine w_neS (so_ok hy) (so_ok (so_tz (us := []) (by simp))) ?_
      rw [q_em]
      walk_at "kq"
      by_cases e : y = tz []
      · refine w_itbF (by rw [decide_eq_true e]; rfl) ?_
        exact k2 e
      · refine w_itbT (by rw [decide_eq_false e]; rfl) ?_
        walk_at "kq"
        exact k1 e
    · have hok : ∀ w ∈ wordsOf ln, okw w := fun w hw => words_ok hzl (Nat.le_trans hll (by omega)) hw
      have hwl := words_len (z := ln) (by omega)
      walk_at "kq"
      rw [List.length_map]
      have hdl : dueL size i (ln :: (Txt.split z "\n").drop (i + 1)) = if wordsOf ln ≠ [] ∧ 0 < fw size (wordsOf ln) then (i + 1, fw size (wordsOf ln)) else dueL size (i + 1) ((Txt.split z "\n").drop (i + 1)) := rfl
      rw [hdl] at hfw
      generalize wordsOf ln = ws at hok hwl hfw
      cases ws with
      | nil =>
        rw [if_neg (by simp)] at hfw
        refine w_itbF rfl ?_
        walk_at "kq"
        exact hK _ _ ⟨rfl, ⟨rs, _, _, _, by omega, rfl, rfl⟩, hfw⟩
      | cons k r =>
        have hr : ∀ w ∈ r, okw w := fun w hw => hok w (List.mem_cons_of_mem _ hw)
        have hrl : r.length ≤ 50000 := by rw [List.length_cons] at hwl; omega
        refine w_itbT (decide_eq_true (by rw [List.length_cons]; omega)) ?_
        walk_at "kq"
        rw [show ((i : Nat) : Int) + 1 = ((i + 1 : Nat) : Int) by omega]
        refine s_rule k hr hrl h0 h1 (fun hz0 items => ?_) (fun hz0 => ?_)
        · rw [if_neg (by rw [hz0]; simp)] at hfw
          walk_at "kq"
          refine ⟨Nat.lt_of_le_of_lt (show _ ≤ 50000 by omega) (Nat.le_of_ble_eq_true rfl), hK _ _ ⟨rfl, ⟨rs ++ [_], _, _, _, by rw [List.length_append]; exact Nat.succ_le_succ hrs, rfl, rfl⟩, hfw⟩⟩
        · rw [if_pos ⟨by simp, by omega⟩] at hfw
          rw [hfw] at hE
          exact hE (by simp)
  · rintro ρ c' ⟨rfl, ⟨rs, s4, s5, s6, hrs, hno, rfl⟩, hfw⟩
    rw [enumD_length, List.length_map, List.drop_length] at hfw
    have h := h (by rw [hfw]; rfl)
    have hno2 : ∀ a b : D, [Sl.val a, Sl.val b, Sl.own rs, s4, s5, s6, Sl.no].all notObj = true := fun a b => hno
    walk_at "kq"
    refine w_put3 (by decide +kernel) rfl (hno2 _ _) ?_
    rw [put_1]
    walk_at "kq"
    refine w_put3 (by decide +kernel) rfl (hno2 _ _) ?_
    rw [put_n (by decide +kernel), put_1]
    walk_at "kq"
    refine w_put3 (by decide +kernel) rfl (hno2 _ _) ?_
    exact ⟨trivial, h _⟩
theorem s_Sort_odd {v : D} {tn : String} (e1 : tyN v = some tn) (hn : ∀ y fs, v ≠ .ins y fs) (e2 : kitB tn "str" = some false) (h0 : 1 ≤ size) (h1 : size ≤ 24) (hE : E (bt 0 0) c) : ini_Sort [.int ((size : Nat) : Int), v] c PF E := by
  refine s_Sort_size h0 h1 ?_
  walk_at "kq"
  refine w_isiT hn ?_
  refine w_isi1 e1 e2 ?_
  walk_at "kq"
  exact hE
end
end Kq
set_option Elab.async false
set_option linter.all false
set_option maxRecDepth 100000
set_option maxHeartbeats 400000
namespace Kq
open PySem PySem.Spec PyProof.Rows L2 LamX
local macro_rules | `(tactic| walk_at "kd") => `(tactic| first | decide | omega | (simp only [List.length_cons, List.length_nil]; omega))
local macro_rules | `(tactic| walk_at "kqf") => `(tactic| (with_reducible apply w_fn0; simp only [rho0, List.zipWith_cons_cons, List.zipWith_nil_left, List.zipWith_nil_right, slOf_val, slOf_rdL, List.length_cons, List.length_nil, Nat.reduceAdd, Nat.reduceSub, Nat.zero_add, List.replicate_succ, List.replicate_zero, List.nil_append, List.cons_append]))
local macro_rules | `(tactic| walk_at "kq1") => `(tactic| first
  | with_reducible apply w_seq
  | with_reducible apply w_next
  | with_reducible apply w_set
  | with_reducible apply w_call
  | with_reducible apply w_cons
  | with_reducible apply w_nil
  | ((with_reducible apply w_var); exact rfl)
  | with_reducible apply w_C
  | with_reducible apply w_bin
  | with_reducible apply w_un
  | with_reducible apply w_if
  | with_reducible apply w_tst
  | with_reducible apply w_tru
  | with_reducible apply w_not
  | with_reducible apply w_andB
  | with_reducible apply w_orB
  | with_reducible apply w_bl
  | with_reducible apply w_itT
  | with_reducible apply w_itF
  | with_reducible apply w_itNT
  | with_reducible apply w_itNF
  | with_reducible apply w_itXTT
  | with_reducible apply w_itXTF
  | with_reducible apply w_itXFT
  | with_reducible apply w_itXFF
  | with_reducible apply w_ret
  | with_reducible apply w_pTwo
  | with_reducible apply w_pThree
  | with_reducible apply w_pOne
  | with_reducible apply w_pOwn
  | with_reducible apply w_pInt
  | with_reducible apply w_setO
  | with_reducible apply w_par
  | with_reducible apply w_par3
  | ((with_reducible apply w_aug); exact rfl)
  | with_reducible apply w_drop
  | ((with_reducible apply w_app); exact rfl)
  | ((with_reducible apply w_ext); exact rfl)
  | ((with_reducible apply w_retN); exact rfl)
  | with_reducible apply w_retU
  | ((with_reducible apply w_frz); exact rfl)
  | with_reducible apply w_brk
  | with_reducible apply w_cnt
  | with_reducible apply w_asg
  | with_reducible apply w_for
  | with_reducible apply w_forN
  | walk_at "kqf"
  | with_reducible apply w_yes
  | with_reducible apply w_truB
  | with_reducible apply w_truN
  | with_reducible apply w_truI
  | with_reducible apply w_truL
  | with_reducible apply w_truT
  | ((with_reducible apply w_varR); exact rfl)
  | ((with_reducible apply w_varRo); exact rfl)
  | ((with_reducible apply w_varRb); exact rfl)
  | ((with_reducible apply w_varB); exact rfl)
  | with_reducible apply w_tup
  | with_reducible apply w_lst
  | with_reducible apply w_if10
  | with_reducible apply w_if20
  | with_reducible apply w_ifE
  | with_reducible apply w_andV
  | with_reducible apply w_orV
  | with_reducible apply w_notV
  | with_reducible apply w_items
  | with_reducible apply w_itA
  | with_reducible apply w_itL
  | with_reducible apply w_itTu
  | with_reducible apply w_itS
  | with_reducible apply w_noO
  | with_reducible apply w_soO
  | with_reducible apply w_sl
  | with_reducible apply w_lc
  | with_reducible apply w_fg
  | with_reducible apply w_toTupF
  | ((with_reducible apply w_rng1); rotate_left; try (first | exact ⟨by decide, by decide⟩ | omega); rotate_right)
  | ((with_reducible apply w_rng2); rotate_left; try (first | exact ⟨by decide, by decide, by decide, by decide⟩ | omega); rotate_right)
  | with_reducible apply w_enum
  | ((with_reducible apply w_zipZ); exact rfl; exact rfl)
  | with_reducible apply w_zipL
  | with_reducible apply w_zipT
  | with_reducible apply w_lam
  | ((with_reducible apply w_act); exact rfl)
  | ((with_reducible apply w_calV); exact rfl)
  | with_reducible apply w_lk0
  | ((with_reducible apply w_lkS); decide +kernel)
  | with_reducible apply w_tryE
  | with_reducible apply w_tryR
  | with_reducible apply w_tryA
  | with_reducible apply w_raise
  | ((with_reducible apply w_xf); exact rfl)
  | ((with_reducible apply w_hs1); decide +kernel)
  | ((with_reducible apply w_hs0); decide +kernel)
  | with_reducible apply w_hsN
  | with_reducible apply n_wxor
  | with_reducible apply n_wbits
  | with_reducible refine n_wsub ?_ (by omega)
  | with_reducible apply n_wadd
  | with_reducible apply n_wadd1
  | with_reducible apply n_wbit
  | with_reducible apply n_wshr
  | with_reducible refine n_wshl ?_ (by first | decide | omega) (by first | decide | omega)
  | with_reducible refine n_wshl ?_ ?_ (by omega)
  | with_reducible apply n_wshl
  | with_reducible refine n_wshl1 ?_ (by first | decide | omega)
  | with_reducible apply n_wshl1
  | ((with_reducible apply w_mod); rotate_left; try (first | decide | omega); rotate_right)
  | with_reducible apply w_mul
  | ((with_reducible apply w_fdv); rotate_left; try exact ⟨by decide, by decide⟩; rotate_right)
  | ((with_reducible apply w_pow); rotate_left; try exact ⟨by decide, by decide, by decide⟩; rotate_right)
  | with_reducible apply w_shl
  | ((with_reducible apply w_shr); rotate_left; try (first | decide | omega); rotate_right)
  | with_reducible apply w_and
  | with_reducible apply w_or
  | with_reducible apply w_xor
  | with_reducible apply w_addI
  | with_reducible apply w_sub
  | with_reducible apply w_fld
  | ((with_reducible apply w_pIns); decide +kernel)
  | ((with_reducible apply w_fldO); decide +kernel)
  | with_reducible apply w_put2
  | with_reducible apply w_pPair
  | ((with_reducible apply w_put4); decide +kernel; decide +kernel; exact rfl; exact rfl)
  | with_reducible apply w_put
  | ((with_reducible apply w_put3); decide +kernel; exact rfl; exact rfl)
  | with_reducible apply w_make
  | with_reducible apply w_itTr
  | with_reducible apply w_itFa
  | with_reducible apply w_m0
  | with_reducible apply w_m1
  | with_reducible apply w_pStr
  | with_reducible apply w_enumL
  | with_reducible apply w_enumS
  | with_reducible apply w_isdigit
  | with_reducible apply w_inS
  | with_reducible apply w_addB
  | with_reducible apply w_iaddI
  | with_reducible apply w_lt
  | with_reducible apply w_le
  | with_reducible apply w_gt
  | with_reducible apply w_ge
  | with_reducible apply w_neg
  | with_reducible apply w_bits
  | ((with_reducible apply w_ixL); exact rfl)
  | ((with_reducible apply w_ixT); exact rfl)
  | with_reducible apply w_lenL
  | with_reducible apply w_lenT
  | with_reducible apply w_toI
  | with_reducible apply w_toIb
  | with_reducible apply w_abs
  | with_reducible apply w_max2
  | with_reducible apply w_min2
  | with_reducible apply w_slL
  | with_reducible apply w_slDL
  | with_reducible apply w_lisL
  | with_reducible apply w_lisT
  | with_reducible apply w_tupL
  | with_reducible apply w_tupT
  | with_reducible apply w_isB
  | with_reducible apply w_isN
  | with_reducible apply w_reprB
  | ((with_reducible apply w_itdT); walk_at "kd")
  | ((with_reducible apply w_itdF); walk_at "kd")
  | ((with_reducible apply w_itnT); walk_at "kd")
  | ((with_reducible apply w_itnF); walk_at "kd")
  | ((with_reducible apply w_isi1); exact rfl; (first | exact kit_NoneType_int | exact kit_bool_int | exact kit_int_int | exact kit_str_int | exact kit_tuple_int | exact kit_list_int | exact kit_NoneType_bool | exact kit_bool_bool | exact kit_int_bool | exact kit_str_bool | exact kit_tuple_bool | exact kit_list_bool | exact kit_NoneType_str | exact kit_bool_str | exact kit_int_str | exact kit_str_str | exact kit_tuple_str | exact kit_list_str | exact kit_NoneType_tuple | exact kit_bool_tuple | exact kit_int_tuple | exact kit_str_tuple | exact kit_tuple_tuple | exact kit_list_tuple | exact kit_NoneType_list | exact kit_bool_list | exact kit_int_list | exact kit_str_list | exact kit_tuple_list | exact kit_list_list | exact kit_dict_int | exact kit_dict_bool | exact kit_dict_str | exact kit_dict_tuple | exact kit_dict_list))
  | with_reducible apply w_eqI
  | with_reducible apply w_neI
  | ((with_reducible apply w_sz); exact rfl)
  | ((with_reducible apply w_len2); exact rfl; exact rfl))
local macro_rules | `(tactic| walk_at "kq") => `(tactic| ((repeat (walk_at "kq1")); try simp only [List.set_cons_zero, List.set_cons_succ, List.zip_cons_cons, List.zip_nil_left, List.zip_nil_right, List.reverse_cons, List.reverse_nil, List.nil_append, List.cons_append]))

section
variable {P Q : D → Nat → Prop} {E : XC → Nat → Prop} {c m n size line : Nat} {z : Str} {us : List Nat} {ws : List Str} {ds es : List D} {d : D}
theorem ixN_nat {n k : Nat} (h : k < n) : ixN n ((k : Nat) : Int) = some k := by
  unfold ixN
  rw [if_pos (Int.natCast_nonneg k), if_pos (by omega)]
  rfl
theorem szl2 {k : Nat} (h : k < 100000) : k < sizeLine := Nat.lt_of_lt_of_le h (Nat.le_of_ble_eq_true rfl)
theorem szl3 {k : Nat} (h : k ≤ 100000) : k ≤ sizeLine := Nat.le_trans h (Nat.le_of_ble_eq_true rfl)
theorem s_pick {l : List D} {Q : D → Nat → Prop} (hl : 0 < l.length) (hl2 : l.length ≤ 1000) (hc : c < 2 ^ 40) (h : ∀ d ∈ l, Q d (c + 1)) : f_law_pick [.pen, .lst l] c Q E := by
  unfold f_law_pick ms_law_pick
  walk_at "kq"
  refine z_draw (m := l.length) (fun k hk => ?_) hl hl2 hc
  exact w_ixL (atI_nat (List.getElem?_eq_getElem hk)) (h _ (List.getElem_mem hk))
theorem s_shuf (hl : ds.length ≤ 1000) (hc : c + ds.length < 2 ^ 40) (h : ∀ es : List D, es.length = ds.length → (∀ x ∈ es, x ∈ ds) → Q (.lst es) (c + ds.length)) : f_law_shuffled [.pen, .lst ds] c Q E := by
  unfold f_law_shuffled ms_law_shuffled
  walk_at "kq"
  refine w_parK ?_
  walk_at "kq"
  refine w_listSL ?_
  walk_at "kq"
  refine ⟨_, _, rfl, rfl, ?_⟩
  walk_at "kq"
  rw [Int.toNat_natCast]
  refine for_rule (fun i ρ c' => c' = c + i ∧ i ≤ ds.length ∧ ∃ rest found s4, rest.length + i = ds.length ∧ found.length = i ∧ (∀ x ∈ rest, x ∈ ds) ∧ (∀ x ∈ found, x ∈ ds) ∧ ρ = [.val .pen, .val (.lst ds), .own rest, .own found, s4]) ⟨rfl, Nat.zero_le _, ds, [], _, rfl, rfl, fun x h => h, fun x h => (nomatch h), rfl⟩ ?_ ?_
  · rintro i d ρ c' K hd ⟨rfl, hi, rest, found, s4, h1, h2, h3, h4, rfl⟩ hK
    obtain ⟨rfl, hi2⟩ := rng_atG (lo := 0) hd
    refine ⟨_, rfl, ?_⟩
    unfold b_law_shuffled_0
    refine w_popApp rfl rfl ?_
    walk_at "kq"
    refine z_draw (fun q hq => ?_) (by omega) (by omega) (by omega)
    have hg : rest[q]? = some rest[q] := List.getElem?_eq_getElem hq
    refine ⟨by omega, by omega, q, rest[q], ixN_nat hq, hg, szl2 (by omega), ?_⟩
    refine hK _ _ ⟨by omega, by omega, rest.eraseIdx q, found ++ [rest[q]], _, ?_, by rw [List.length_append, h2]; rfl, fun x hx => h3 x (List.mem_of_mem_eraseIdx hx), fun x hx => ?_, rfl⟩
    · rw [List.length_eraseIdx_of_lt hq]; omega
    · rcases List.mem_append.mp hx with z | z
      · exact h4 x z
      · rw [List.mem_singleton.mp z]; exact h3 _ (List.getElem_mem hq)
  · rintro ρ c' ⟨rfl, hi, rest, found, s4, h1, h2, h3, h4, rfl⟩
    rw [rngD_length] at h2 ⊢
    walk_at "kq"
    exact h found h2 h4
/-- what a drawn rule is -/
def itR (kind : Str) (x : D) : Prop := if kind = "near" then ∃ a b : Nat, a < 30 ∧ b < 30 ∧ x = .lst [.int ((a : Nat) : Int), .int ((b : Nat) : Int)] else (∃ k : Nat, k < 30 ∧ x = .int ((k : Nat) : Int)) ∨ ∃ s : Str, so s ∧ s.length ≤ 3 ∧ x = .str s
def wfR (d : D) : Prop := ∃ (kind : Str) (items : List D), d = .tup [.str kind, .lst items] ∧ so kind ∧ kind.length ≤ 7 ∧ items.length ≤ 24 ∧ ∀ x ∈ items, itR kind x
theorem so_lit {z : Str} (h : (z.cps.toList.all fun u => decide (u < 0x110000)) = true) : so z := fun u hu => of_decide_eq_true (List.all_eq_true.mp h u hu)
theorem rng_mem {n : Nat} {x : D} (h : x ∈ rngD 0 n) : ∃ k : Nat, k < n ∧ x = .int ((k : Nat) : Int) := by
  obtain ⟨i, hi⟩ := List.mem_iff_getElem?.mp h
  obtain ⟨e, hi⟩ := rng_atG (lo := 0) hi
  rw [Nat.zero_add] at e
  exact ⟨i, hi, e⟩
theorem pairs_eqv (a b : Nat × Nat) : PyData.eqv (.list [.int ((a.1 : Nat) : Int), .int ((a.2 : Nat) : Int)]) (.list [.int ((b.1 : Nat) : Int), .int ((b.2 : Nat) : Int)]) = decide (a = b) := pair_eqv a b
theorem w_inPairs {l : List (Nat × Nat)} {a b : Nat} {k : Bool} (h : ∀ t : Bool, P (.bl t) c) : dInP k (.lst [.int ((a : Nat) : Int), .int ((b : Nat) : Int)]) (.lst (l.map fun p => .lst [.int ((p.1 : Nat) : Int), .int ((p.2 : Nat) : Int)])) c P E := by
  refine w_inP (f := fun p : Nat × Nat => D.lst [.int ((p.1 : Nat) : Int), .int ((p.2 : Nat) : Int)]) (g := fun p => .list [.int ((p.1 : Nat) : Int), .int ((p.2 : Nat) : Int)]) (a := (a, b)) (fun _ => rfl) (fun p _ => pairs_eqv p (a, b)) (by rfl) (sh_list (k := 10) (by omega) (fun y hy => ?_) (fun y hy => ?_)) (h _)
  · obtain ⟨p, _, rfl⟩ := List.mem_map.mp hy
    rfl
  · obtain ⟨p, _, rfl⟩ := List.mem_map.mp hy
    simp [PyData.depth, PyData.depthAll]
theorem strs_of : ∀ {es : List D}, (∀ x ∈ es, ∃ s : Str, x = .str s ∧ so s ∧ s.length ≤ 1) → ∃ ys : List Str, es = ys.map .str ∧ ∀ y ∈ ys, so y ∧ y.length ≤ 1
  | [], _ => ⟨[], rfl, fun y h => nomatch h⟩
  | x :: es, h => by
    obtain ⟨s, rfl, h1, h2⟩ := h x (List.mem_cons_self ..)
    obtain ⟨ys, rfl, h3⟩ := strs_of fun x hx => h x (List.mem_cons_of_mem _ hx)
    exact ⟨s :: ys, rfl, fun y hy => by
      rcases List.mem_cons.mp hy with rfl | hy
      · exact ⟨h1, h2⟩
      · exact h3 y hy⟩
theorem sum_le {ys : List Str} {k : Nat} (h : ∀ y ∈ ys, y.length ≤ k) : (ys.map (·.length)).sum ≤ ys.length * k := by
  induction ys with
  | nil => simp
  | cons y r ih =>
    have h1 := h y (List.mem_cons_self ..)
    have h2 := ih fun z hz => h z (List.mem_cons_of_mem _ hz)
    rw [List.map_cons, List.sum_cons, List.length_cons, Nat.succ_mul]
    omega
theorem cps_app (a b : Str) : (a ++ b).cps.toList = a.cps.toList ++ b.cps.toList := by
  show (a.cps ++ b.cps).toList = _
  simp
theorem so_app {a b : Str} (h : so a) (h2 : so b) : so (a ++ b) := fun u hu => by
  rw [cps_app] at hu
  rcases List.mem_append.mp hu with hu | hu
  · exact h u hu
  · exact h2 u hu
theorem so_join {y : Str} (hy : so y) : ∀ {l : List Str}, (∀ x ∈ l, so x) → so (Txt.join y l) := by
  have key : ∀ {l : List Str}, (∀ x ∈ l, so x) → so (Str.join y l) := by
    intro l
    induction l with
    | nil => exact fun _ u hu => absurd hu (by show u ∉ ([] : List Nat); simp)
    | cons x r ih =>
      intro h
      cases r with
      | nil => exact h x (List.mem_cons_self ..)
      | cons x2 r =>
        show so (x ++ y ++ Str.join y (x2 :: r))
        exact so_app (so_app (h x (List.mem_cons_self ..)) hy) (ih fun z hz => h z (List.mem_cons_of_mem _ hz))
  intro l h
  show so (Builtin.Str.glued y l)
  rw [StrLaws.glued_eq_join]
  exact key h
theorem join_len (y : Str) (l : List Str) : (Txt.join y l).length ≤ (l.map (·.length)).sum + l.length * y.length := by
  show (Builtin.Str.glued y l).length ≤ _
  rw [StrLaws.glued_eq_join]
  exact StrLaws.join_length_le y l
theorem w_lrng1 {ρ : Rho} {m : ME} (h : m ρ c (fun x c => match x with
  | .int n => RgOk 0 n ∧ P (.lst (rngD 0 n.toNat)) c
  | _ => False) E) : mLRng1 m ρ c P E := h
theorem s_drule (h0 : 1 ≤ size) (h1 : size ≤ 24) (hc : c + 1000 < 2 ^ 40) (h : ∀ d c', wfR d → c' ≤ c + 300 → P d c') : f_law_drawn_rule [.pen, .int ((size : Nat) : Int)] c P E := by
  unfold f_law_drawn_rule ms_law_drawn_rule
  walk_at "kq"
  refine s_pick (by decide) (by decide) (by omega) fun d hd => ?_
  obtain ⟨kind, rfl, hk⟩ : ∃ kind : Str, d = .str kind ∧ (kind = "weight" ∨ kind = "letters" ∨ kind = "near" ∨ kind = "within" ∨ kind = "run") := by
    simp only [List.mem_cons, List.not_mem_nil, or_false] at hd
    rcases hd with rfl | rfl | rfl | rfl | rfl | rfl
    · exact ⟨_, rfl, .inl rfl⟩
    · exact ⟨_, rfl, .inl rfl⟩
    · exact ⟨_, rfl, .inr (.inl rfl)⟩
    · exact ⟨_, rfl, .inr (.inr (.inl rfl))⟩
    · exact ⟨_, rfl, .inr (.inr (.inr (.inl rfl)))⟩
    · exact ⟨_, rfl, .inr (.inr (.inr (.inr rfl)))⟩
  have hks : so kind ∧ kind.length ≤ 7 := by
    rcases hk with rfl | rfl | rfl | rfl | rfl <;> exact ⟨so_lit (by decide +kernel), by decide +kernel⟩
  walk_at "kq"
  refine w_inL ?_ ⟨rfl, rfl⟩
  by_cases hwr : kind = "weight" ∨ kind = "run"
  · have e1 : (([D.str "weight", D.str "run"] : List D).any fun e => dEqF e (.str kind)) = true := by
      rcases hwr with rfl | rfl <;> decide +kernel
    have e2 : kind ≠ "near" := by
      rcases hwr with rfl | rfl <;> decide +kernel
    rw [e1]
    walk_at "kq"
    have emin : (if (4 : Int) < ((size : Nat) : Int) then (4 : Int) else ((size : Nat) : Int)) + 1 = ((min size 4 + 1 : Nat) : Int) := by
      split <;> omega
    rw [emin]
    refine z_draw (fun q hq => ?_) (by omega) (by omega) (by omega)
    walk_at "kq"
    refine h _ _ ⟨kind, _, rfl, hks.1, hks.2, by simp, fun x hx => ?_⟩ (by omega)
    rw [List.mem_singleton.mp hx]
    unfold itR
    rw [if_neg e2]
    exact .inl ⟨q, by omega, rfl⟩
  · have e1 : (([D.str "weight", D.str "run"] : List D).any fun e => dEqF e (.str kind)) = false := by
      rcases hk with rfl | rfl | rfl | rfl | rfl
      · exact absurd (.inl rfl) hwr
      · decide +kernel
      · decide +kernel
      · decide +kernel
      · exact absurd (.inr rfl) hwr
    rw [e1]
    walk_at "kq"
    refine w_eqS (so_ok hks.1) (by decide +kernel) ?_
    refine w_bl ?_
    by_cases hl : kind = "letters"
    · rw [decide_eq_true hl]
      walk_at "kq"
      refine w_listS ?_ (by decide +kernel)
      walk_at "kq"
      refine s_shuf (by decide +kernel) (by have : (chD "XYZ").length = 3 := by decide +kernel
                                            omega) fun es he hm => ?_
      have he3 : (chD "XYZ").length = 3 := by decide +kernel
      rw [he3] at he ⊢
      walk_at "kq"
      refine z_draw (m := 3) (fun q hq => ?_) (by omega) (by omega) (by omega)
      walk_at "kq"
      rw [show (1 : Int) + ((q : Nat) : Int) = ((1 + q : Nat) : Int) by omega, cutD_take]
      obtain ⟨ys, e, hys⟩ := strs_of (es := es.take (1 + q)) fun x hx => by
        have hx := hm x (List.mem_of_mem_take hx)
        obtain ⟨u, hu, rfl⟩ := List.mem_map.mp hx
        exact ⟨_, rfl, so_tz fun v hv => by
          rw [List.mem_singleton.mp hv]
          have : (("XYZ" : Str).cps.toList.all fun u => decide (u < 0x110000)) = true := by decide +kernel
          exact of_decide_eq_true (List.all_eq_true.mp this u hu), Nat.le_refl 1⟩
      have hyl : ys.length ≤ 3 := by
        have := congrArg List.length e
        rw [List.length_take, List.length_map] at this
        omega
      have hsum := sum_le fun y hy => (hys y hy).2
      rw [e]
      refine w_join ?_ ?_
      · walk_at "kq"
        refine h _ _ ⟨kind, _, rfl, hks.1, hks.2, by simp, fun x hx => ?_⟩ (by omega)
        rw [List.mem_singleton.mp hx]
        unfold itR
        rw [if_neg (by rw [hl]; decide +kernel)]
        refine .inr ⟨_, so_join (so_lit (by decide +kernel)) fun y hy => (hys y hy).1, ?_, rfl⟩
        have := join_len ("" : Str) ys
        have e0 : ("" : Str).length = 0 := by decide +kernel
        rw [e0] at this
        omega
      · have e0 : ("" : Str).length = 0 := by decide +kernel
        rw [e0]
        omega
    · rw [decide_eq_false hl]
      walk_at "kq"
      refine w_lrng1 ?_
      walk_at "kq"
      refine ⟨⟨by omega, by omega, by omega, by omega⟩, ?_⟩
      walk_at "kq"
      refine w_eqS (so_ok hks.1) (by decide +kernel) ?_
      refine w_bl ?_
      have hrl : (rngD 0 ((size : Nat) : Int).toNat).length = size := by rw [rngD_length, Int.toNat_natCast]
      by_cases hw : kind = "within"
      · rw [decide_eq_true hw]
        walk_at "kq"
        refine s_shuf (by omega) (by omega) fun es he hm => ?_
        walk_at "kq"
        rw [show ((size : Nat) : Int) + 1 = ((size + 1 : Nat) : Int) by omega]
        refine z_draw (fun q hq => ?_) (by omega) (by omega) (by omega)
        walk_at "kq"
        rw [cutD_take]
        refine h _ _ ⟨kind, _, rfl, hks.1, hks.2, by rw [List.length_take]; omega, fun x hx => ?_⟩ (by omega)
        unfold itR
        rw [if_neg (by rw [hw]; decide +kernel)]
        obtain ⟨k, hk, rfl⟩ := rng_mem (hm x (List.mem_of_mem_take hx))
        exact .inl ⟨k, by omega, rfl⟩
      · rw [decide_eq_false hw]
        walk_at "kq"
        refine z_draw (m := 5) (fun q hq => ?_) (by omega) (by omega) (by omega)
        walk_at "kq"
        rw [Int.toNat_natCast]
        have hkn : kind = "near" := by
          rcases hk with e | e | e | e | e
          · exact absurd (.inl e) hwr
          · exact absurd e hl
          · exact e
          · exact absurd e hw
          · exact absurd (.inr e) hwr
        refine for_rule (fun i ρ c' => c' = c + 1 + 1 + size * i ∧ ∃ (l : List (Nat × Nat)) (s5 s6 : Sl), l.length ≤ i ∧ (∀ p ∈ l, p.1 < 30 ∧ p.2 < 30) ∧ ρ = [.val .pen, .val (.int ((size : Nat) : Int)), .val (.str kind), .val (.lst (rngD 0 size)), .own (l.map fun p => .lst [.int ((p.1 : Nat) : Int), .int ((p.2 : Nat) : Int)]), s5, s6]) ⟨by omega, [], _, _, Nat.le_refl _, (fun p h => nomatch h), by rw [Int.toNat_natCast]; rfl⟩ ?_ ?_
        · rintro i d ρ c' K hd ⟨rfl, l, s5, s6, hl1, hl2, rfl⟩ hK
          obtain ⟨rfl, hi⟩ := rng_atG (lo := 0) hd
          refine ⟨_, rfl, ?_⟩
          unfold b_law_drawn_rule_0
          have hmul : size * i ≤ 24 * 5 := Nat.mul_le_mul h1 (by omega)
          walk_at "kq"
          refine s_shuf (by rw [rngD_length]; omega) (by rw [rngD_length]; omega) fun es he hm => ?_
          rw [rngD_length] at he ⊢
          walk_at "kq"
          have e2 : cutD es none (some 2) = es.take 2 := cutD_take es 2
          rw [e2]
          have hcc : c + 1 + 1 + size * i + size = c + 1 + 1 + size * (i + 1) := by rw [Nat.mul_succ]; omega
          by_cases hlen : (es.take 2).length = 2
          · refine w_itbT (decide_eq_true (by omega)) ?_
            match hes : es.take 2, hlen with
            | [x, y], _ =>
              have hx : x ∈ es := List.mem_of_mem_take (by rw [hes]; exact List.mem_cons_self ..)
              have hy : y ∈ es := List.mem_of_mem_take (by rw [hes]; exact List.mem_cons_of_mem _ (List.mem_cons_self ..))
              obtain ⟨a, ha, rfl⟩ := rng_mem (hm x hx)
              obtain ⟨b, hb, rfl⟩ := rng_mem (hm y hy)
              walk_at "kq"
              refine w_inPairs fun t => ?_
              cases t with
              | false =>
                walk_at "kq"
                exact hK _ _ ⟨hcc, l, _, _, by omega, hl2, rfl⟩
              | true =>
                walk_at "kq"
                refine w_rev ?_
                walk_at "kq"
                refine w_inPairs fun t => ?_
                cases t with
                | false =>
                  walk_at "kq"
                  exact hK _ _ ⟨hcc, l, _, _, by omega, hl2, rfl⟩
                | true =>
                  walk_at "kq"
                  refine ⟨by rw [List.length_map]; exact szl2 (by omega), hK _ _ ⟨hcc, l ++ [(a, b)], .val (.int ((0 + i : Nat) : Int)), .val (.lst [.int ((a : Nat) : Int), .int ((b : Nat) : Int)]), by rw [List.length_append]; exact Nat.succ_le_succ hl1, fun p hp => ?_, by rw [List.map_append]; exact rfl⟩⟩
                  rcases List.mem_append.mp hp with hp | hp
                  · exact hl2 p hp
                  · rw [List.mem_singleton.mp hp]
                    exact ⟨by show a < 30; omega, by show b < 30; omega⟩
          · refine w_itbF (decide_eq_false (by omega)) ?_
            walk_at "kq"
            exact hK _ _ ⟨hcc, l, _, _, by omega, hl2, rfl⟩
        · rintro ρ c' ⟨rfl, l, s5, s6, hl1, hl2, rfl⟩
          rw [rngD_length] at hl1 ⊢
          have hmul : size * q ≤ 24 * 5 := Nat.mul_le_mul h1 (by omega)
          walk_at "kq"
          refine h _ _ ⟨kind, _, rfl, hks.1, hks.2, by rw [List.length_map]; omega, fun x hx => ?_⟩ (by omega)
          unfold itR
          rw [if_pos hkn]
          obtain ⟨p, hp, rfl⟩ := List.mem_map.mp hx
          exact ⟨p.1, p.2, (hl2 p hp).1, (hl2 p hp).2, rfl⟩
end
end Kq
set_option Elab.async false
set_option linter.all false
set_option maxRecDepth 100000
set_option maxHeartbeats 400000
namespace Kq
open PySem PySem.Spec PyProof.Rows L2 LamX
local macro_rules | `(tactic| walk_at "kd") => `(tactic| first | decide | omega | (simp only [List.length_cons, List.length_nil]; omega))
local macro_rules | `(tactic| walk_at "kqf") => `(tactic| (with_reducible apply w_fn0; simp only [rho0, List.zipWith_cons_cons, List.zipWith_nil_left, List.zipWith_nil_right, slOf_val, slOf_rdL, List.length_cons, List.length_nil, Nat.reduceAdd, Nat.reduceSub, Nat.zero_add, List.replicate_succ, List.replicate_zero, List.nil_append, List.cons_append]))
local macro_rules | `(tactic| walk_at "kq1") => `(tactic| first
  | with_reducible apply w_seq
  | with_reducible apply w_next
  | with_reducible apply w_set
  | with_reducible apply w_call
  | with_reducible apply w_cons
  | with_reducible apply w_nil
  | ((with_reducible apply w_var); exact rfl)
  | with_reducible apply w_C
  | with_reducible apply w_bin
  | with_reducible apply w_un
  | with_reducible apply w_if
  | with_reducible apply w_tst
  | with_reducible apply w_tru
  | with_reducible apply w_not
  | with_reducible apply w_andB
  | with_reducible apply w_orB
  | with_reducible apply w_bl
  | with_reducible apply w_itT
  | with_reducible apply w_itF
  | with_reducible apply w_itNT
  | with_reducible apply w_itNF
  | with_reducible apply w_itXTT
  | with_reducible apply w_itXTF
  | with_reducible apply w_itXFT
  | with_reducible apply w_itXFF
  | with_reducible apply w_ret
  | with_reducible apply w_pTwo
  | with_reducible apply w_pThree
  | with_reducible apply w_pOne
  | with_reducible apply w_pOwn
  | with_reducible apply w_pInt
  | with_reducible apply w_setO
  | with_reducible apply w_par
  | with_reducible apply w_par3
  | ((with_reducible apply w_aug); exact rfl)
  | with_reducible apply w_drop
  | ((with_reducible apply w_app); exact rfl)
  | ((with_reducible apply w_ext); exact rfl)
  | ((with_reducible apply w_retN); exact rfl)
  | with_reducible apply w_retU
  | ((with_reducible apply w_frz); exact rfl)
  | with_reducible apply w_brk
  | with_reducible apply w_cnt
  | with_reducible apply w_asg
  | with_reducible apply w_for
  | with_reducible apply w_forN
  | walk_at "kqf"
  | with_reducible apply w_yes
  | with_reducible apply w_truB
  | with_reducible apply w_truN
  | with_reducible apply w_truI
  | with_reducible apply w_truL
  | with_reducible apply w_truT
  | ((with_reducible apply w_varR); exact rfl)
  | ((with_reducible apply w_varRo); exact rfl)
  | ((with_reducible apply w_varRb); exact rfl)
  | ((with_reducible apply w_varB); exact rfl)
  | with_reducible apply w_tup
  | with_reducible apply w_lst
  | with_reducible apply w_if10
  | with_reducible apply w_if20
  | with_reducible apply w_ifE
  | with_reducible apply w_andV
  | with_reducible apply w_orV
  | with_reducible apply w_notV
  | with_reducible apply w_items
  | with_reducible apply w_itA
  | with_reducible apply w_itL
  | with_reducible apply w_itTu
  | with_reducible apply w_itS
  | with_reducible apply w_noO
  | with_reducible apply w_soO
  | with_reducible apply w_sl
  | with_reducible apply w_lc
  | with_reducible apply w_fg
  | with_reducible apply w_toTupF
  | ((with_reducible apply w_rng1); rotate_left; try (first | exact ⟨by decide, by decide⟩ | omega); rotate_right)
  | ((with_reducible apply w_rng2); rotate_left; try (first | exact ⟨by decide, by decide, by decide, by decide⟩ | omega); rotate_right)
  | with_reducible apply w_enum
  | ((with_reducible apply w_zipZ); exact rfl; exact rfl)
  | with_reducible apply w_zipL
  | with_reducible apply w_zipT
  | with_reducible apply w_lam
  | ((with_reducible apply w_act); exact rfl)
  | ((with_reducible apply w_calV); exact rfl)
  | with_reducible apply w_lk0
  | ((with_reducible apply w_lkS); decide +kernel)
  | with_reducible apply w_tryE
  | with_reducible apply w_tryR
  | with_reducible apply w_tryA
  | with_reducible apply w_raise
  | ((with_reducible apply w_xf); exact rfl)
  | ((with_reducible apply w_hs1); decide +kernel)
  | ((with_reducible apply w_hs0); decide +kernel)
  | with_reducible apply w_hsN
  | with_reducible apply n_wxor
  | with_reducible apply n_wbits
  | with_reducible refine n_wsub ?_ (by omega)
  | with_reducible apply n_wadd
  | with_reducible apply n_wadd1
  | with_reducible apply n_wbit
  | with_reducible apply n_wshr
  | with_reducible refine n_wshl ?_ (by first | decide | omega) (by first | decide | omega)
  | with_reducible refine n_wshl ?_ ?_ (by omega)
  | with_reducible apply n_wshl
  | with_reducible refine n_wshl1 ?_ (by first | decide | omega)
  | with_reducible apply n_wshl1
  | ((with_reducible apply w_mod); rotate_left; try (first | decide | omega); rotate_right)
  | with_reducible apply w_mul
  | ((with_reducible apply w_fdv); rotate_left; try exact ⟨by decide, by decide⟩; rotate_right)
  | ((with_reducible apply w_pow); rotate_left; try exact ⟨by decide, by decide, by decide⟩; rotate_right)
  | with_reducible apply w_shl
  | ((with_reducible apply w_shr); rotate_left; try (first | decide | omega); rotate_right)
  | with_reducible apply w_and
  | with_reducible apply w_or
  | with_reducible apply w_xor
  | with_reducible apply w_addI
  | with_reducible apply w_sub
  | with_reducible apply w_fld
  | ((with_reducible apply w_pIns); decide +kernel)
  | ((with_reducible apply w_fldO); decide +kernel)
  | with_reducible apply w_put2
  | with_reducible apply w_pPair
  | ((with_reducible apply w_put4); decide +kernel; decide +kernel; exact rfl; exact rfl)
  | with_reducible apply w_put
  | ((with_reducible apply w_put3); decide +kernel; exact rfl; exact rfl)
  | with_reducible apply w_make
  | with_reducible apply w_itTr
  | with_reducible apply w_itFa
  | with_reducible apply w_m0
  | with_reducible apply w_m1
  | with_reducible apply w_pStr
  | with_reducible apply w_enumL
  | with_reducible apply w_enumS
  | with_reducible apply w_isdigit
  | with_reducible apply w_inS
  | with_reducible apply w_addB
  | with_reducible apply w_iaddI
  | with_reducible apply w_lt
  | with_reducible apply w_le
  | with_reducible apply w_gt
  | with_reducible apply w_ge
  | with_reducible apply w_neg
  | with_reducible apply w_bits
  | ((with_reducible apply w_ixL); exact rfl)
  | ((with_reducible apply w_ixT); exact rfl)
  | with_reducible apply w_lenL
  | with_reducible apply w_lenT
  | with_reducible apply w_toI
  | with_reducible apply w_toIb
  | with_reducible apply w_abs
  | with_reducible apply w_max2
  | with_reducible apply w_min2
  | with_reducible apply w_slL
  | with_reducible apply w_slDL
  | with_reducible apply w_lisL
  | with_reducible apply w_lisT
  | with_reducible apply w_tupL
  | with_reducible apply w_tupT
  | with_reducible apply w_isB
  | with_reducible apply w_isN
  | with_reducible apply w_reprB
  | ((with_reducible apply w_itdT); walk_at "kd")
  | ((with_reducible apply w_itdF); walk_at "kd")
  | ((with_reducible apply w_itnT); walk_at "kd")
  | ((with_reducible apply w_itnF); walk_at "kd")
  | ((with_reducible apply w_isi1); exact rfl; (first | exact kit_NoneType_int | exact kit_bool_int | exact kit_int_int | exact kit_str_int | exact kit_tuple_int | exact kit_list_int | exact kit_NoneType_bool | exact kit_bool_bool | exact kit_int_bool | exact kit_str_bool | exact kit_tuple_bool | exact kit_list_bool | exact kit_NoneType_str | exact kit_bool_str | exact kit_int_str | exact kit_str_str | exact kit_tuple_str | exact kit_list_str | exact kit_NoneType_tuple | exact kit_bool_tuple | exact kit_int_tuple | exact kit_str_tuple | exact kit_tuple_tuple | exact kit_list_tuple | exact kit_NoneType_list | exact kit_bool_list | exact kit_int_list | exact kit_str_list | exact kit_tuple_list | exact kit_list_list | exact kit_dict_int | exact kit_dict_bool | exact kit_dict_str | exact kit_dict_tuple | exact kit_dict_list))
  | with_reducible apply w_eqI
  | with_reducible apply w_neI
  | ((with_reducible apply w_sz); exact rfl)
  | ((with_reducible apply w_len2); exact rfl; exact rfl))
local macro_rules | `(tactic| walk_at "kq") => `(tactic| ((repeat (walk_at "kq1")); try simp only [List.set_cons_zero, List.set_cons_succ, List.zip_cons_cons, List.zip_nil_left, List.zip_nil_right, List.reverse_cons, List.reverse_nil, List.nil_append, List.cons_append]))

section
variable {P Q : D → Nat → Prop} {E : XC → Nat → Prop} {c m n size line : Nat} {z : Str} {us : List Nat} {ws : List Str} {ds es : List D} {d : D}
theorem slen_app (a b : Str) : (a ++ b).length = a.length + b.length := Str.length_append a b
theorem dg30 {k : Nat} (h : k < 30) : (((k : Nat) : Int)).natAbs.log2 < 1920 := by
  rw [Int.natAbs_natCast]
  by_cases h0 : k = 0
  · subst h0; decide
  · exact Nat.lt_of_lt_of_le ((Nat.log2_lt h0).mpr (show k < 2 ^ 10 by omega)) (by decide)
def wdN (x : D) : Str := match x with
  | .lst [.int a, .int b] => tz (dg a.toNat) ++ "-" ++ tz (dg b.toNat)
  | _ => tz []
def wdO (x : D) : Str := match x with
  | .int k => tz (dg k.toNat)
  | .str s => s
  | _ => tz []
theorem dg_tl {k : Nat} : (tz (dg k)).length ≤ 2 := by rw [tz_len]; exact (dg_len k).2
theorem s_iwords (hd : wfR d) (h : ∀ ws : List Str, (∀ w ∈ ws, so w ∧ w.length ≤ 5) → ws.length ≤ 24 → P (.lst (ws.map .str)) c) : f_law_item_words [d] c P E := by
  obtain ⟨kind, items, rfl, k1, k2, hl, hi⟩ := hd
  have e1 : ("-" : Str).length = 1 := by decide +kernel
  unfold f_law_item_words ms_law_item_words
  walk_at "kq"
  refine w_eqS (so_ok k1) (by decide +kernel) ?_
  refine w_bl ?_
  by_cases hk : kind = "near"
  · unfold itR at hi
    simp only [if_pos hk] at hi
    rw [decide_eq_true hk]
    walk_at "kq"
    refine lc_mp (fun x => .str (wdN x)) (by omega) (fun x K1 K2 hx hk1 => ?_) ?_
    · obtain ⟨a, b, ha, hb, rfl⟩ := hi x hx
      have hk1 : K1 (.str (tz (dg ((a : Nat) : Int).toNat) ++ "-" ++ tz (dg ((b : Nat) : Int).toNat))) c := hk1
      rw [Int.toNat_natCast, Int.toNat_natCast] at hk1
      have la := dg_tl (k := a)
      have lb := dg_tl (k := b)
      refine ⟨_, rfl, ?_⟩
      walk_at "kq"
      refine w_strAI ?_ (dg30 ha)
      rw [dg_str a ha]
      walk_at "kq"
      refine w_addS ?_ (szl3 (by omega))
      walk_at "kq"
      refine w_strAI ?_ (dg30 hb)
      rw [dg_str b hb]
      refine w_addS hk1 (szl3 ?_)
      rw [slen_app]
      omega
    · walk_at "kq"
      have e : (items.map fun x => D.str (wdN x)) = (items.map wdN).map .str := by rw [List.map_map]; rfl
      rw [e]
      refine h _ (fun w hw => ?_) (by rw [List.length_map]; exact hl)
      obtain ⟨x, hx, rfl⟩ := List.mem_map.mp hw
      obtain ⟨a, b, ha, hb, rfl⟩ := hi x hx
      show so (tz (dg ((a : Nat) : Int).toNat) ++ "-" ++ tz (dg ((b : Nat) : Int).toNat)) ∧ (tz (dg ((a : Nat) : Int).toNat) ++ "-" ++ tz (dg ((b : Nat) : Int).toNat)).length ≤ 5
      rw [Int.toNat_natCast, Int.toNat_natCast, slen_app, slen_app]
      have la := dg_tl (k := a)
      have lb := dg_tl (k := b)
      exact ⟨so_app (so_app (so_dg (by omega)) (so_lit (by decide +kernel))) (so_dg (by omega)), by omega⟩
  · unfold itR at hi
    simp only [if_neg hk] at hi
    rw [decide_eq_false hk]
    walk_at "kq"
    refine lc_mp (fun x => .str (wdO x)) (by omega) (fun x K1 K2 hx hk1 => ?_) ?_
    · rcases hi x hx with ⟨k, hk2, rfl⟩ | ⟨s, s1, s2, rfl⟩
      · have hk1 : K1 (.str (tz (dg ((k : Nat) : Int).toNat))) c := hk1
        rw [Int.toNat_natCast] at hk1
        refine ⟨_, rfl, ?_⟩
        walk_at "kq"
        refine w_strAI ?_ (dg30 hk2)
        rw [dg_str k hk2]
        exact hk1
      · refine ⟨_, rfl, ?_⟩
        walk_at "kq"
        exact w_strAS hk1
    · walk_at "kq"
      have e : (items.map fun x => D.str (wdO x)) = (items.map wdO).map .str := by rw [List.map_map]; rfl
      rw [e]
      refine h _ (fun w hw => ?_) (by rw [List.length_map]; exact hl)
      obtain ⟨x, hx, rfl⟩ := List.mem_map.mp hw
      rcases hi x hx with ⟨k, hk2, rfl⟩ | ⟨s, s1, s2, rfl⟩
      · show so (tz (dg ((k : Nat) : Int).toNat)) ∧ (tz (dg ((k : Nat) : Int).toNat)).length ≤ 5
        rw [Int.toNat_natCast]
        have la := dg_tl (k := k)
        exact ⟨so_dg (by omega), by omega⟩
      · exact ⟨s1, Nat.le_trans s2 (by omega)⟩
theorem sp_ok : ∀ k, k < 4 → MulOk (" " : Str) ((k : Nat) : Int) := by unfold MulOk; decide +kernel
theorem sp_so : ∀ k, k < 4 → (Txt.mul (" " : Str) ((k : Nat) : Int)).length ≤ 3 ∧ ((Txt.mul (" " : Str) ((k : Nat) : Int)).cps.toList.all fun u => decide (u < 0x110000)) = true := by decide +kernel
theorem s_stext {rs : List D} (hr : ∀ r ∈ rs, wfR r) (hl : rs.length ≤ 3) (hc : c + 1000 < 2 ^ 40) (h : ∀ z c', so z → z.length ≤ 1900 → c' ≤ c + 30 → P (.str z) c') : f_law_sort_text [.pen, .lst rs] c P E := by
  unfold f_law_sort_text ms_law_sort_text
  walk_at "kq"
  refine for_rule (fun i ρ c' => c' ≤ c + 5 * i ∧ ∃ (ls : List Str) (s3 s4 : Sl), ls.length ≤ 2 * i ∧ (∀ w ∈ ls, so w ∧ w.length ≤ 300) ∧ ρ = [.val .pen, .val (.lst rs), .own (ls.map .str), s3, s4]) ⟨by omega, [], _, _, Nat.le_refl _, (fun p h => nomatch h), rfl⟩ ?_ ?_
  · rintro i d ρ c' K hd ⟨hc', ls, s3, s4, hl1, hl2, rfl⟩ hK
    have hi := (List.getElem?_eq_some_iff.mp hd).1
    have hdr := hr d (List.mem_of_getElem? hd)
    refine ⟨_, rfl, ?_⟩
    unfold b_law_sort_text_0
    walk_at "kq"
    refine z_draw (m := 2) (fun g hg => ?_) (by omega) (by omega) (by omega)
    walk_at "kq"
    rw [show (1 : Int) + ((g : Nat) : Int) = ((1 + g : Nat) : Int) by omega]
    refine w_strmul ?_ (sp_ok _ (by omega))
    obtain ⟨g1, g2⟩ := sp_so (1 + g) (by omega)
    generalize hgap : Txt.mul (" " : Str) ((1 + g : Nat) : Int) = gap at g1 g2
    have g2 := so_lit g2
    walk_at "kq"
    refine z_draw (m := 2) (fun a ha => ?_) (by omega) (by omega) (by omega)
    refine w_strmul ?_ (sp_ok _ (by omega))
    obtain ⟨a1, a2⟩ := sp_so a (by omega)
    generalize hga : Txt.mul (" " : Str) ((a : Nat) : Int) = ga at a1 a2
    have a2 := so_lit a2
    walk_at "kq"
    obtain ⟨kind, items, rfl, k1, k2, k3, k4⟩ := hdr
    walk_at "kq"
    refine s_iwords ⟨kind, items, rfl, k1, k2, k3, k4⟩ fun ws hw1 hw2 => ?_
    walk_at "kq"
    refine w_cat ?_ (szl3 (by rw [List.length_map]; show 1 + ws.length ≤ _; omega))
    walk_at "kq"
    have hsum := sum_le (ys := ws) (k := 5) fun y hy => (hw1 y hy).2
    have hg3 : ws.length * gap.length ≤ 24 * 3 := Nat.mul_le_mul hw2 g1
    have hgg : (ws.length + 1) * gap.length = ws.length * gap.length + gap.length := Nat.succ_mul _ _
    show dJoin gap (.lst ((kind :: ws).map .str)) _ _ _
    refine w_join ?_ ?_
    · have hjs : so (Txt.join gap (kind :: ws)) := so_join g2 fun x hx => by
        rcases List.mem_cons.mp hx with rfl | hx
        · exact k1
        · exact (hw1 x hx).1
      have hjl := join_len gap (kind :: ws)
      rw [List.map_cons, List.sum_cons, List.length_cons] at hjl
      generalize Txt.join gap (kind :: ws) = j at hjs hjl
      refine w_addS ?_ (szl3 (by omega))
      walk_at "kq"
      refine z_draw (m := 2) (fun b hb => ?_) (by omega) (by omega) (by omega)
      refine w_strmul ?_ (sp_ok _ (by omega))
      obtain ⟨b1, b2⟩ := sp_so b (by omega)
      generalize hgb : Txt.mul (" " : Str) ((b : Nat) : Int) = gb at b1 b2
      have b2 := so_lit b2
      refine w_addS ?_ (szl3 (by rw [slen_app]; omega))
      walk_at "kq"
      refine ⟨by rw [List.length_map]; exact szl2 (by omega), ?_⟩
      have hnew : so (ga ++ j ++ gb) ∧ (ga ++ j ++ gb).length ≤ 300 := ⟨so_app (so_app a2 hjs) b2, by rw [slen_app, slen_app]; omega⟩
      have hls : ∀ w ∈ ls ++ [ga ++ j ++ gb], so w ∧ w.length ≤ 300 := fun w hw => by
        rcases List.mem_append.mp hw with hw | hw
        · exact hl2 w hw
        · rw [List.mem_singleton.mp hw]; exact hnew
      walk_at "kq"
      refine z_draw (m := 4) (fun q hq => ?_) (by omega) (by omega) (by omega)
      walk_at "kq"
      by_cases hq0 : q = 0
      · refine w_itbT (decide_eq_true (by omega)) ?_
        walk_at "kq"
        refine z_draw (m := 3) (fun e he => ?_) (by omega) (by omega) (by omega)
        refine w_strmul ?_ (sp_ok _ (by omega))
        obtain ⟨e1, e2⟩ := sp_so e (by omega)
        generalize hge : Txt.mul (" " : Str) ((e : Nat) : Int) = ge at e1 e2
        have e2 := so_lit e2
        walk_at "kq"
        refine ⟨szl2 (by rw [List.length_append, List.length_map]; show _ + 1 < _; omega), hK _ _ ⟨by omega, ls ++ [ga ++ j ++ gb] ++ [ge], .val (.tup [.str kind, .lst items]), .val (.str gap), ?_, fun w hw => ?_, ?_⟩⟩
        · rw [List.length_append, List.length_append]
          show _ + 1 + 1 ≤ _
          omega
        · rcases List.mem_append.mp hw with hw | hw
          · exact hls w hw
          · rw [List.mem_singleton.mp hw]
            exact ⟨e2, by omega⟩
        · rw [List.map_append, List.map_append]
          exact rfl
      · refine w_itbF (decide_eq_false (by omega)) ?_
        walk_at "kq"
        refine hK _ _ ⟨by omega, ls ++ [ga ++ j ++ gb], .val (.tup [.str kind, .lst items]), .val (.str gap), ?_, hls, ?_⟩
        · rw [List.length_append]
          show _ + 1 ≤ _
          omega
        · rw [List.map_append]
          exact rfl
    · rw [List.map_cons, List.sum_cons, List.length_cons]
      omega
  · rintro ρ c' ⟨hc', ls, s3, s4, hl1, hl2, rfl⟩
    walk_at "kq"
    have hsum := sum_le (ys := ls) (k := 300) fun y hy => (hl2 y hy).2
    have e1 : ("\n" : Str).length = 1 := by decide +kernel
    refine w_join ?_ ?_
    · have hjl := join_len "\n" ls
      rw [e1] at hjl
      exact h _ _ (so_join (so_lit (by decide +kernel)) fun x hx => (hl2 x hx).1) (by omega) (by omega)
    · rw [e1]
      omega
end
end Kq
set_option Elab.async false
set_option linter.all false
set_option maxRecDepth 100000
set_option maxHeartbeats 400000
namespace Kq
open PySem PySem.Spec PyProof.Rows L2 LamX
local macro_rules | `(tactic| walk_at "kd") => `(tactic| first | decide | omega | (simp only [List.length_cons, List.length_nil]; omega))
local macro_rules | `(tactic| walk_at "kqf") => `(tactic| (with_reducible apply w_fn0; simp only [rho0, List.zipWith_cons_cons, List.zipWith_nil_left, List.zipWith_nil_right, slOf_val, slOf_rdL, List.length_cons, List.length_nil, Nat.reduceAdd, Nat.reduceSub, Nat.zero_add, List.replicate_succ, List.replicate_zero, List.nil_append, List.cons_append]))
local macro_rules | `(tactic| walk_at "kq1") => `(tactic| first
  | with_reducible apply w_seq
  | with_reducible apply w_next
  | with_reducible apply w_set
  | with_reducible apply w_call
  | with_reducible apply w_cons
  | with_reducible apply w_nil
  | ((with_reducible apply w_var); exact rfl)
  | with_reducible apply w_C
  | with_reducible apply w_bin
  | with_reducible apply w_un
  | with_reducible apply w_if
  | with_reducible apply w_tst
  | with_reducible apply w_tru
  | with_reducible apply w_not
  | with_reducible apply w_andB
  | with_reducible apply w_orB
  | with_reducible apply w_bl
  | with_reducible apply w_itT
  | with_reducible apply w_itF
  | with_reducible apply w_itNT
  | with_reducible apply w_itNF
  | with_reducible apply w_itXTT
  | with_reducible apply w_itXTF
  | with_reducible apply w_itXFT
  | with_reducible apply w_itXFF
  | with_reducible apply w_ret
  | with_reducible apply w_pTwo
  | with_reducible apply w_pThree
  | with_reducible apply w_pOne
  | with_reducible apply w_pOwn
  | with_reducible apply w_pInt
  | with_reducible apply w_setO
  | with_reducible apply w_par
  | with_reducible apply w_par3
  | ((with_reducible apply w_aug); exact rfl)
  | with_reducible apply w_drop
  | ((with_reducible apply w_app); exact rfl)
  | ((with_reducible apply w_ext); exact rfl)
  | ((with_reducible apply w_retN); exact rfl)
  | with_reducible apply w_retU
  | ((with_reducible apply w_frz); exact rfl)
  | with_reducible apply w_brk
  | with_reducible apply w_cnt
  | with_reducible apply w_asg
  | with_reducible apply w_for
  | with_reducible apply w_forN
  | walk_at "kqf"
  | with_reducible apply w_yes
  | with_reducible apply w_truB
  | with_reducible apply w_truN
  | with_reducible apply w_truI
  | with_reducible apply w_truL
  | with_reducible apply w_truT
  | ((with_reducible apply w_varR); exact rfl)
  | ((with_reducible apply w_varRo); exact rfl)
  | ((with_reducible apply w_varRb); exact rfl)
  | ((with_reducible apply w_varB); exact rfl)
  | with_reducible apply w_tup
  | with_reducible apply w_lst
  | with_reducible apply w_if10
  | with_reducible apply w_if20
  | with_reducible apply w_ifE
  | with_reducible apply w_andV
  | with_reducible apply w_orV
  | with_reducible apply w_notV
  | with_reducible apply w_items
  | with_reducible apply w_itA
  | with_reducible apply w_itL
  | with_reducible apply w_itTu
  | with_reducible apply w_itS
  | with_reducible apply w_noO
  | with_reducible apply w_soO
  | with_reducible apply w_sl
  | with_reducible apply w_lc
  | with_reducible apply w_fg
  | with_reducible apply w_toTupF
  | ((with_reducible apply w_rng1); rotate_left; try (first | exact ⟨by decide, by decide⟩ | omega); rotate_right)
  | ((with_reducible apply w_rng2); rotate_left; try (first | exact ⟨by decide, by decide, by decide, by decide⟩ | omega); rotate_right)
  | with_reducible apply w_enum
  | ((with_reducible apply w_zipZ); exact rfl; exact rfl)
  | with_reducible apply w_zipL
  | with_reducible apply w_zipT
  | with_reducible apply w_lam
  | ((with_reducible apply w_act); exact rfl)
  | ((with_reducible apply w_calV); exact rfl)
  | with_reducible apply w_lk0
  | ((with_reducible apply w_lkS); decide +kernel)
  | with_reducible apply w_tryE
  | with_reducible apply w_tryR
  | with_reducible apply w_tryA
  | with_reducible apply w_raise
  | ((with_reducible apply w_xf); exact rfl)
  | ((with_reducible apply w_hs1); decide +kernel)
  | ((with_reducible apply w_hs0); decide +kernel)
  | with_reducible apply w_hsN
  | with_reducible apply n_wxor
  | with_reducible apply n_wbits
  | with_reducible refine n_wsub ?_ (by omega)
  | with_reducible apply n_wadd
  | with_reducible apply n_wadd1
  | with_reducible apply n_wbit
  | with_reducible apply n_wshr
  | with_reducible refine n_wshl ?_ (by first | decide | omega) (by first | decide | omega)
  | with_reducible refine n_wshl ?_ ?_ (by omega)
  | with_reducible apply n_wshl
  | with_reducible refine n_wshl1 ?_ (by first | decide | omega)
  | with_reducible apply n_wshl1
  | ((with_reducible apply w_mod); rotate_left; try (first | decide | omega); rotate_right)
  | with_reducible apply w_mul
  | ((with_reducible apply w_fdv); rotate_left; try exact ⟨by decide, by decide⟩; rotate_right)
  | ((with_reducible apply w_pow); rotate_left; try exact ⟨by decide, by decide, by decide⟩; rotate_right)
  | with_reducible apply w_shl
  | ((with_reducible apply w_shr); rotate_left; try (first | decide | omega); rotate_right)
  | with_reducible apply w_and
  | with_reducible apply w_or
  | with_reducible apply w_xor
  | with_reducible apply w_addI
  | with_reducible apply w_sub
  | with_reducible apply w_fld
  | ((with_reducible apply w_pIns); decide +kernel)
  | ((with_reducible apply w_fldO); decide +kernel)
  | with_reducible apply w_put2
  | with_reducible apply w_pPair
  | ((with_reducible apply w_put4); decide +kernel; decide +kernel; exact rfl; exact rfl)
  | with_reducible apply w_put
  | ((with_reducible apply w_put3); decide +kernel; exact rfl; exact rfl)
  | with_reducible apply w_make
  | with_reducible apply w_itTr
  | with_reducible apply w_itFa
  | with_reducible apply w_m0
  | with_reducible apply w_m1
  | with_reducible apply w_pStr
  | with_reducible apply w_enumL
  | with_reducible apply w_enumS
  | with_reducible apply w_isdigit
  | with_reducible apply w_inS
  | with_reducible apply w_addB
  | with_reducible apply w_iaddI
  | with_reducible apply w_lt
  | with_reducible apply w_le
  | with_reducible apply w_gt
  | with_reducible apply w_ge
  | with_reducible apply w_neg
  | with_reducible apply w_bits
  | ((with_reducible apply w_ixL); exact rfl)
  | ((with_reducible apply w_ixT); exact rfl)
  | with_reducible apply w_lenL
  | with_reducible apply w_lenT
  | with_reducible apply w_toI
  | with_reducible apply w_toIb
  | with_reducible apply w_abs
  | with_reducible apply w_max2
  | with_reducible apply w_min2
  | with_reducible apply w_slL
  | with_reducible apply w_slDL
  | with_reducible apply w_lisL
  | with_reducible apply w_lisT
  | with_reducible apply w_tupL
  | with_reducible apply w_tupT
  | with_reducible apply w_isB
  | with_reducible apply w_isN
  | with_reducible apply w_reprB
  | ((with_reducible apply w_itdT); walk_at "kd")
  | ((with_reducible apply w_itdF); walk_at "kd")
  | ((with_reducible apply w_itnT); walk_at "kd")
  | ((with_reducible apply w_itnF); walk_at "kd")
  | ((with_reducible apply w_isi1); exact rfl; (first | exact kit_NoneType_int | exact kit_bool_int | exact kit_int_int | exact kit_str_int | exact kit_tuple_int | exact kit_list_int | exact kit_NoneType_bool | exact kit_bool_bool | exact kit_int_bool | exact kit_str_bool | exact kit_tuple_bool | exact kit_list_bool | exact kit_NoneType_str | exact kit_bool_str | exact kit_int_str | exact kit_str_str | exact kit_tuple_str | exact kit_list_str | exact kit_NoneType_tuple | exact kit_bool_tuple | exact kit_int_tuple | exact kit_str_tuple | exact kit_tuple_tuple | exact kit_list_tuple | exact kit_NoneType_list | exact kit_bool_list | exact kit_int_list | exact kit_str_list | exact kit_tuple_list | exact kit_list_list | exact kit_dict_int | exact kit_dict_bool | exact kit_dict_str | exact kit_dict_tuple | exact kit_dict_list))
  | with_reducible apply w_eqI
  | with_reducible apply w_neI
  | ((with_reducible apply w_sz); exact rfl)
  | ((with_reducible apply w_len2); exact rfl; exact rfl))
local macro_rules | `(tactic| walk_at "kq") => `(tactic| ((repeat (walk_at "kq1")); try simp only [List.set_cons_zero, List.set_cons_succ, List.zip_cons_cons, List.zip_nil_left, List.zip_nil_right, List.reverse_cons, List.reverse_nil, List.nil_append, List.cons_append]))

def wgt (l : List Str) : Nat := (l.map (·.length)).sum + l.length
theorem wgt_app (a b : List Str) : wgt (a ++ b) = wgt a + wgt b := by
  unfold wgt
  rw [List.map_append, List.sum_append, List.length_append]
  omega
theorem wgt_cut (l : List Str) (k : Nat) : wgt (l.take k) + wgt (l.drop k) = wgt l := by
  rw [← wgt_app, List.take_append_drop]
theorem wgt_drop1 (l : List Str) (k : Nat) : wgt (l.drop (k + 1)) ≤ wgt (l.drop k) := by
  have h : (l.drop k).drop 1 = l.drop (k + 1) := by rw [List.drop_drop]
  have := wgt_cut (l.drop k) 1
  rw [h] at this
  omega
theorem wgt_filter (p : Str → Bool) (l : List Str) : wgt (l.filter p) ≤ wgt l := by
  induction l with
  | nil => exact Nat.le_refl _
  | cons x r ih =>
    have e : wgt (x :: r) = x.length + 1 + wgt r := by
      unfold wgt
      rw [List.map_cons, List.sum_cons, List.length_cons]
      omega
    rw [List.filter_cons]
    split
    · have e2 : wgt (x :: r.filter p) = x.length + 1 + wgt (r.filter p) := by
        unfold wgt
        rw [List.map_cons, List.sum_cons, List.length_cons]
        omega
      omega
    · omega
theorem wgt_split (z : Str) (u : Nat) : wgt (Txt.split z (tz [u])) ≤ z.length + 1 := by
  have := PyProof.Rows.split_weight z (tz [u]) (Nat.le_refl 1)
  unfold wgt
  exact this
theorem wgt_len (l : List Str) : l.length ≤ wgt l := by unfold wgt; omega
theorem wgt_join (y : Str) (k : Nat) (hy : y.length ≤ k) (hk : 1 ≤ k) (l : List Str) : (Txt.join y l).length ≤ k * wgt l := by
  have h := join_len y l
  have h1 : l.length * y.length ≤ l.length * k := Nat.mul_le_mul (Nat.le_refl _) hy
  have h2 : (l.map (·.length)).sum ≤ k * (l.map (·.length)).sum := Nat.le_mul_of_pos_left _ hk
  unfold wgt
  rw [Nat.mul_add, Nat.mul_comm k l.length]
  omega
theorem cut_any (l : List Str) (lo hi : Option Int) : ∃ l' : List Str, cutD (l.map D.str) lo hi = l'.map .str ∧ (∀ x ∈ l', x ∈ l) ∧ wgt l' ≤ wgt l := by
  refine ⟨(l.drop (HT.sIx (l.map D.str).length 0 lo)).take (HT.sIx (l.map D.str).length (l.map D.str).length hi - HT.sIx (l.map D.str).length 0 lo), ?_, fun x hx => List.mem_of_mem_drop (List.mem_of_mem_take hx), ?_⟩
  · unfold cutD
    rw [List.map_take, List.map_drop]
  · have h1 := wgt_cut l (HT.sIx (l.map D.str).length 0 lo)
    have h2 := wgt_cut (l.drop (HT.sIx (l.map D.str).length 0 lo)) (HT.sIx (l.map D.str).length (l.map D.str).length hi - HT.sIx (l.map D.str).length 0 lo)
    omega
section
variable {P Q : D → Nat → Prop} {E : XC → Nat → Prop} {c m n k size line : Nat} {z odd : Str} {us : List Nat} {ws : List Str} {ds es : List D} {d : D} {nx bk ct : Rho → Nat → Prop} {rt : D → Nat → Prop} {s1 s2 s3 s4 s6 s8 : Sl}
theorem z_drawB (h : ∀ k : Nat, k < m → P (.int ((k : Nat) : Int)) (c + 1)) (h0 : 0 < m) (h1 : m ≤ 100000) (h2 : c < 2 ^ 40) : drawM [.pen, .int ((m : Nat) : Int)] c P E := by
  refine w_draw (fun k k0 k1 => ?_) (by omega) ?_ h2
  · obtain ⟨j, rfl⟩ : ∃ j : Nat, k = ((j : Nat) : Int) := ⟨k.toNat, by omega⟩
    exact h j (by omega)
  · rw [Int.natAbs_natCast]
    exact Nat.lt_of_lt_of_le ((Nat.log2_lt (by omega)).mpr (show m < 2 ^ 20 by omega)) (by decide)
theorem t_way {way : Nat} (hk : k ≤ ws.length) (hws : ∀ w ∈ ws, so w) (ho : so odd) (hol : odd.length ≤ 8) (hw : wgt ws ≤ 40000) (hK : ∀ ws' : List Str, (∀ w ∈ ws', so w) → wgt ws' ≤ 2 * wgt ws + 9 → nx [.val .pen, s1, s2, s3, s4, .val (.lst (ws'.map .str)), s6, .val (.int ((k : Nat) : Int)), s8, .val (.str odd), .val (.int ((way : Nat) : Int))] c) :
    st_law_bent_8 [.val .pen, s1, s2, s3, s4, .val (.lst (ws.map .str)), s6, .val (.int ((k : Nat) : Int)), s8, .val (.str odd), .val (.int ((way : Nat) : Int))] c ⟨nx, rt, bk, ct, E⟩ := by
  have hcut := wgt_cut ws k
  have hd1 := wgt_drop1 ws k
  have hwl := wgt_len ws
  have hodd : wgt [odd] ≤ 9 := by
    unfold wgt
    simp only [List.map_cons, List.map_nil, List.sum_cons, List.sum_nil, List.length_cons, List.length_nil]
    omega
  have e1 : cutD (ws.map D.str) none (some ((k : Nat) : Int)) = (ws.take k).map .str := by rw [cutD_take, List.map_take]
  have e2 : cutD (ws.map D.str) (some ((k : Nat) : Int)) none = (ws.drop k).map .str := by rw [cutD_drop, List.map_drop]
  have e3 : cutD (ws.map D.str) (some (((k : Nat) : Int) + 1)) none = (ws.drop (k + 1)).map .str := by
    rw [show ((k : Nat) : Int) + 1 = ((k + 1 : Nat) : Int) by omega, cutD_drop, List.map_drop]
  have hm : ∀ a b : List Str, (∀ w ∈ a, so w) → (∀ w ∈ b, so w) → ∀ w ∈ a ++ b, so w := fun a b ha hb w hw => by
    rcases List.mem_append.mp hw with hw | hw
    · exact ha w hw
    · exact hb w hw
  have ht : ∀ w ∈ ws.take k, so w := fun w hw => hws w (List.mem_of_mem_take hw)
  have hd : ∀ w ∈ ws.drop k, so w := fun w hw => hws w (List.mem_of_mem_drop hw)
  have hd' : ∀ w ∈ ws.drop (k + 1), so w := fun w hw => hws w (List.mem_of_mem_drop hw)
  have hos : ∀ w ∈ [odd], so w := fun w hw => by rw [List.mem_singleton.mp hw]; exact ho
  have eo : ([D.str odd] : List D) = [odd].map .str := rfl
  have hl1 : ∀ a : List Str, wgt a ≤ 90000 → (a.map D.str).length ≤ 90000 := fun a ha => by rw [List.length_map]; exact Nat.le_trans (wgt_len a) ha
  unfold st_law_bent_8
  walk_at "kq"
  by_cases w0 : way = 0
  · refine w_itbT (decide_eq_true (by omega)) ?_
    walk_at "kq"
    rw [e1, eo]
    refine w_cat ?_ (szl3 (by rw [List.length_map, List.length_map]; have := wgt_len (ws.take k); show _ + 1 ≤ _; omega))
    rw [← List.map_append]
    walk_at "kq"
    rw [e2]
    refine w_cat ?_ (szl3 (by have h1 := hl1 (ws.take k ++ [odd]) (by rw [wgt_app]; omega); have h2 := hl1 (ws.drop k) (by omega); have h3 := wgt_len (ws.take k); have h4 := wgt_len (ws.drop k); rw [List.length_map, List.length_map, List.length_append]; show _ + 1 + _ ≤ _; omega))
    rw [← List.map_append]
    walk_at "kq"
    exact hK _ (hm _ _ (hm _ _ ht hos) hd) (by rw [wgt_app, wgt_app]; omega)
  refine w_itbF (decide_eq_false (by omega)) ?_
  walk_at "kq"
  by_cases w1 : way = 1
  · refine w_itbT (decide_eq_true (by omega)) ?_
    walk_at "kq"
    rw [e1]
    walk_at "kq"
    rw [e3]
    refine w_addL ?_ (szl3 (by have h3 := wgt_len (ws.take k); have h4 := wgt_len (ws.drop (k + 1)); rw [List.length_map, List.length_map]; omega))
    rw [← List.map_append]
    walk_at "kq"
    exact hK _ (hm _ _ ht hd') (by rw [wgt_app]; omega)
  refine w_itbF (decide_eq_false (by omega)) ?_
  walk_at "kq"
  by_cases w2 : way = 2
  · refine w_itbT (decide_eq_true (by omega)) ?_
    walk_at "kq"
    rw [e1, eo]
    refine w_cat ?_ (szl3 (by rw [List.length_map, List.length_map]; have := wgt_len (ws.take k); show _ + 1 ≤ _; omega))
    rw [← List.map_append]
    walk_at "kq"
    rw [e3]
    refine w_cat ?_ (szl3 (by have h3 := wgt_len (ws.take k); have h4 := wgt_len (ws.drop (k + 1)); rw [List.length_map, List.length_map, List.length_append]; show _ + 1 + _ ≤ _; omega))
    rw [← List.map_append]
    walk_at "kq"
    exact hK _ (hm _ _ (hm _ _ ht hos) hd') (by rw [wgt_app, wgt_app]; omega)
  refine w_itbF (decide_eq_false (by omega)) ?_
  walk_at "kq"
  rw [e1]
  walk_at "kq"
  obtain ⟨l', q1, q2, q3⟩ := cut_any (ws.take k) (some (-1)) none
  rw [q1]
  have hso' : ∀ w ∈ l', so w := fun w hw => ht w (q2 w hw)
  refine w_addL ?_ (szl3 (by have h3 := wgt_len (ws.take k); have h4 := wgt_len l'; rw [List.length_map, List.length_map]; omega))
  rw [← List.map_append]
  walk_at "kq"
  rw [e2]
  refine w_addL ?_ (szl3 (by have h3 := wgt_len (ws.take k); have h4 := wgt_len l'; have h5 := wgt_len (ws.drop k); rw [List.length_map, List.length_map, List.length_append]; omega))
  rw [← List.map_append]
  walk_at "kq"
  exact hK _ (hm _ _ (hm _ _ ht hso') hd) (by rw [wgt_app, wgt_app]; omega)
theorem t_fin {lines : List Str} {i : Nat} {s7 s9 s10 : Sl} (hi : i < lines.length) (hls : ∀ w ∈ lines, so w) (hws : ∀ w ∈ ws, so w) (hw : wgt lines ≤ 12000) (hw2 : wgt ws ≤ 30000) (h : ∀ z', so z' → z'.length ≤ wgt lines + 2 * wgt ws + 1 → rt (.str z') c) :
    st_law_bent_9 [.val .pen, s1, s2, .val (.lst (lines.map .str)), .val (.int ((i : Nat) : Int)), .val (.lst (ws.map .str)), s6, s7, s8, s9, s10] c ⟨nx, rt, bk, ct, E⟩ := by
  have l2 : ("  " : Str).length = 2 := by decide +kernel
  have l1 : ("\n" : Str).length = 1 := by decide +kernel
  have hcut := wgt_cut lines i
  have hd1 := wgt_drop1 lines i
  have hj := wgt_join "  " 2 (by omega) (by omega) ws
  have hwe : wgt ws = (ws.map (·.length)).sum + ws.length := rfl
  unfold st_law_bent_9
  walk_at "kq"
  rw [cutD_take, ← List.map_take]
  have hsj : so (Txt.join "  " ws) := so_join (so_lit (by decide +kernel)) hws
  refine w_join ?_ (by rw [l2]; omega)
  generalize Txt.join "  " ws = j at hj hsj
  walk_at "kq"
  refine w_cat ?_ (szl3 (by have := wgt_len (lines.take i); rw [List.length_map]; show _ + 1 ≤ _; omega))
  walk_at "kq"
  rw [show ((i : Nat) : Int) + 1 = ((i + 1 : Nat) : Int) by omega, cutD_drop, ← List.map_drop]
  refine w_cat ?_ (szl3 (by have h1 := wgt_len (lines.take i); have h2 := wgt_len (lines.drop (i + 1)); rw [List.length_append, List.length_map, List.length_map]; show _ + 1 + _ ≤ _; omega))
  rw [show (lines.take i).map D.str ++ [D.str j] ++ (lines.drop (i + 1)).map D.str = (lines.take i ++ [j] ++ lines.drop (i + 1)).map .str by rw [List.map_append, List.map_append]; rfl]
  have hjw : wgt [j] = j.length + 1 := by
    unfold wgt
    simp only [List.map_cons, List.map_nil, List.sum_cons, List.sum_nil, List.length_cons, List.length_nil]
    omega
  have hall : wgt (lines.take i ++ [j] ++ lines.drop (i + 1)) ≤ wgt lines + 2 * wgt ws + 1 := by
    rw [wgt_app, wgt_app, hjw]
    omega
  have hsall : ∀ w ∈ lines.take i ++ [j] ++ lines.drop (i + 1), so w := fun w hw => by
    rcases List.mem_append.mp hw with hw | hw
    · rcases List.mem_append.mp hw with hw | hw
      · exact hls w (List.mem_of_mem_take hw)
      · rw [List.mem_singleton.mp hw]; exact hsj
    · exact hls w (List.mem_of_mem_drop hw)
  generalize lines.take i ++ [j] ++ lines.drop (i + 1) = all at hall hsall
  have hja := wgt_join "\n" 1 (by omega) (by omega) all
  have hwa : wgt all = (all.map (·.length)).sum + all.length := rfl
  exact w_join (h _ (so_join (so_lit (by decide +kernel)) hsall) (by omega)) (by rw [l1]; omega)
end
end Kq
set_option Elab.async false
set_option linter.all false
set_option maxRecDepth 100000
set_option maxHeartbeats 400000
namespace Kq
open PySem PySem.Spec PyProof.Rows L2 LamX
local macro_rules | `(tactic| walk_at "kd") => `(tactic| first | decide | omega | (simp only [List.length_cons, List.length_nil]; omega))
local macro_rules | `(tactic| walk_at "kqf") => `(tactic| (with_reducible apply w_fn0; simp only [rho0, List.zipWith_cons_cons, List.zipWith_nil_left, List.zipWith_nil_right, slOf_val, slOf_rdL, List.length_cons, List.length_nil, Nat.reduceAdd, Nat.reduceSub, Nat.zero_add, List.replicate_succ, List.replicate_zero, List.nil_append, List.cons_append]))
local macro_rules | `(tactic| walk_at "kq1") => `(tactic| first
  | with_reducible apply w_seq
  | with_reducible apply w_next
  | with_reducible apply w_set
  | with_reducible apply w_call
  | with_reducible apply w_cons
  | with_reducible apply w_nil
  | ((with_reducible apply w_var); exact rfl)
  | with_reducible apply w_C
  | with_reducible apply w_bin
  | with_reducible apply w_un
  | with_reducible apply w_if
  | with_reducible apply w_tst
  | with_reducible apply w_tru
  | with_reducible apply w_not
  | with_reducible apply w_andB
  | with_reducible apply w_orB
  | with_reducible apply w_bl
  | with_reducible apply w_itT
  | with_reducible apply w_itF
  | with_reducible apply w_itNT
  | with_reducible apply w_itNF
  | with_reducible apply w_itXTT
  | with_reducible apply w_itXTF
  | with_reducible apply w_itXFT
  | with_reducible apply w_itXFF
  | with_reducible apply w_ret
  | with_reducible apply w_pTwo
  | with_reducible apply w_pThree
  | with_reducible apply w_pOne
  | with_reducible apply w_pOwn
  | with_reducible apply w_pInt
  | with_reducible apply w_setO
  | with_reducible apply w_par
  | with_reducible apply w_par3
  | ((with_reducible apply w_aug); exact rfl)
  | with_reducible apply w_drop
  | ((with_reducible apply w_app); exact rfl)
  | ((with_reducible apply w_ext); exact rfl)
  | ((with_reducible apply w_retN); exact rfl)
  | with_reducible apply w_retU
  | ((with_reducible apply w_frz); exact rfl)
  | with_reducible apply w_brk
  | with_reducible apply w_cnt
  | with_reducible apply w_asg
  | with_reducible apply w_for
  | with_reducible apply w_forN
  | walk_at "kqf"
  | with_reducible apply w_yes
  | with_reducible apply w_truB
  | with_reducible apply w_truN
  | with_reducible apply w_truI
  | with_reducible apply w_truL
  | with_reducible apply w_truT
  | ((with_reducible apply w_varR); exact rfl)
  | ((with_reducible apply w_varRo); exact rfl)
  | ((with_reducible apply w_varRb); exact rfl)
  | ((with_reducible apply w_varB); exact rfl)
  | with_reducible apply w_tup
  | with_reducible apply w_lst
  | with_reducible apply w_if10
  | with_reducible apply w_if20
  | with_reducible apply w_ifE
  | with_reducible apply w_andV
  | with_reducible apply w_orV
  | with_reducible apply w_notV
  | with_reducible apply w_items
  | with_reducible apply w_itA
  | with_reducible apply w_itL
  | with_reducible apply w_itTu
  | with_reducible apply w_itS
  | with_reducible apply w_noO
  | with_reducible apply w_soO
  | with_reducible apply w_sl
  | with_reducible apply w_lc
  | with_reducible apply w_fg
  | with_reducible apply w_toTupF
  | ((with_reducible apply w_rng1); rotate_left; try (first | exact ⟨by decide, by decide⟩ | omega); rotate_right)
  | ((with_reducible apply w_rng2); rotate_left; try (first | exact ⟨by decide, by decide, by decide, by decide⟩ | omega); rotate_right)
  | with_reducible apply w_enum
  | ((with_reducible apply w_zipZ); exact rfl; exact rfl)
  | with_reducible apply w_zipL
  | with_reducible apply w_zipT
  | with_reducible apply w_lam
  | ((with_reducible apply w_act); exact rfl)
  | ((with_reducible apply w_calV); exact rfl)
  | with_reducible apply w_lk0
  | ((with_reducible apply w_lkS); decide +kernel)
  | with_reducible apply w_tryE
  | with_reducible apply w_tryR
  | with_reducible apply w_tryA
  | with_reducible apply w_raise
  | ((with_reducible apply w_xf); exact rfl)
  | ((with_reducible apply w_hs1); decide +kernel)
  | ((with_reducible apply w_hs0); decide +kernel)
  | with_reducible apply w_hsN
  | with_reducible apply n_wxor
  | with_reducible apply n_wbits
  | with_reducible refine n_wsub ?_ (by omega)
  | with_reducible apply n_wadd
  | with_reducible apply n_wadd1
  | with_reducible apply n_wbit
  | with_reducible apply n_wshr
  | with_reducible refine n_wshl ?_ (by first | decide | omega) (by first | decide | omega)
  | with_reducible refine n_wshl ?_ ?_ (by omega)
  | with_reducible apply n_wshl
  | with_reducible refine n_wshl1 ?_ (by first | decide | omega)
  | with_reducible apply n_wshl1
  | ((with_reducible apply w_mod); rotate_left; try (first | decide | omega); rotate_right)
  | with_reducible apply w_mul
  | ((with_reducible apply w_fdv); rotate_left; try exact ⟨by decide, by decide⟩; rotate_right)
  | ((with_reducible apply w_pow); rotate_left; try exact ⟨by decide, by decide, by decide⟩; rotate_right)
  | with_reducible apply w_shl
  | ((with_reducible apply w_shr); rotate_left; try (first | decide | omega); rotate_right)
  | with_reducible apply w_and
  | with_reducible apply w_or
  | with_reducible apply w_xor
  | with_reducible apply w_addI
  | with_reducible apply w_sub
  | with_reducible apply w_fld
  | ((with_reducible apply w_pIns); decide +kernel)
  | ((with_reducible apply w_fldO); decide +kernel)
  | with_reducible apply w_put2
  | with_reducible apply w_pPair
  | ((with_reducible apply w_put4); decide +kernel; decide +kernel; exact rfl; exact rfl)
  | with_reducible apply w_put
  | ((with_reducible apply w_put3); decide +kernel; exact rfl; exact rfl)
  | with_reducible apply w_make
  | with_reducible apply w_itTr
  | with_reducible apply w_itFa
  | with_reducible apply w_m0
  | with_reducible apply w_m1
  | with_reducible apply w_pStr
  | with_reducible apply w_enumL
  | with_reducible apply w_enumS
  | with_reducible apply w_isdigit
  | with_reducible apply w_inS
  | with_reducible apply w_addB
  | with_reducible apply w_iaddI
  | with_reducible apply w_lt
  | with_reducible apply w_le
  | with_reducible apply w_gt
  | with_reducible apply w_ge
  | with_reducible apply w_neg
  | with_reducible apply w_bits
  | ((with_reducible apply w_ixL); exact rfl)
  | ((with_reducible apply w_ixT); exact rfl)
  | with_reducible apply w_lenL
  | with_reducible apply w_lenT
  | with_reducible apply w_toI
  | with_reducible apply w_toIb
  | with_reducible apply w_abs
  | with_reducible apply w_max2
  | with_reducible apply w_min2
  | with_reducible apply w_slL
  | with_reducible apply w_slDL
  | with_reducible apply w_lisL
  | with_reducible apply w_lisT
  | with_reducible apply w_tupL
  | with_reducible apply w_tupT
  | with_reducible apply w_isB
  | with_reducible apply w_isN
  | with_reducible apply w_reprB
  | ((with_reducible apply w_itdT); walk_at "kd")
  | ((with_reducible apply w_itdF); walk_at "kd")
  | ((with_reducible apply w_itnT); walk_at "kd")
  | ((with_reducible apply w_itnF); walk_at "kd")
  | ((with_reducible apply w_isi1); exact rfl; (first | exact kit_NoneType_int | exact kit_bool_int | exact kit_int_int | exact kit_str_int | exact kit_tuple_int | exact kit_list_int | exact kit_NoneType_bool | exact kit_bool_bool | exact kit_int_bool | exact kit_str_bool | exact kit_tuple_bool | exact kit_list_bool | exact kit_NoneType_str | exact kit_bool_str | exact kit_int_str | exact kit_str_str | exact kit_tuple_str | exact kit_list_str | exact kit_NoneType_tuple | exact kit_bool_tuple | exact kit_int_tuple | exact kit_str_tuple | exact kit_tuple_tuple | exact kit_list_tuple | exact kit_NoneType_list | exact kit_bool_list | exact kit_int_list | exact kit_str_list | exact kit_tuple_list | exact kit_list_list | exact kit_dict_int | exact kit_dict_bool | exact kit_dict_str | exact kit_dict_tuple | exact kit_dict_list))
  | with_reducible apply w_eqI
  | with_reducible apply w_neI
  | ((with_reducible apply w_sz); exact rfl)
  | ((with_reducible apply w_len2); exact rfl; exact rfl))
local macro_rules | `(tactic| walk_at "kq") => `(tactic| ((repeat (walk_at "kq1")); try simp only [List.set_cons_zero, List.set_cons_succ, List.zip_cons_cons, List.zip_nil_left, List.zip_nil_right, List.reverse_cons, List.reverse_nil, List.nil_append, List.cons_append]))

section
variable {P Q : D → Nat → Prop} {E : XC → Nat → Prop} {c m n k size line : Nat} {z odd : Str} {us : List Nat} {ws : List Str} {ds es : List D} {d : D} {nx bk ct : Rho → Nat → Prop} {rt : D → Nat → Prop} {s1 s2 s3 s4 s5 s6 s7 s8 s9 s10 : Sl}
theorem q_nl : ("\n" : Str) = tz [10] := by decide +kernel
theorem q_sp : (" " : Str) = tz [32] := by decide +kernel
theorem s_bent (hz : so z) (hl : z.length ≤ 9600) (h0 : 1 ≤ size) (h1 : size ≤ 24) (hc : c + 10 < 2 ^ 40) (h : ∀ z', so z' → z'.length ≤ 5 * z.length + 24 → P (.str z') (c + 4)) : f_law_bent [.pen, .str z, .int ((size : Nat) : Int)] c P E := by
  have hsp := PyProof.Rows.split_pos z "\n"
  have hwl : wgt (Txt.split z "\n") ≤ z.length + 1 := by rw [q_nl]; exact wgt_split z 10
  have hll := wgt_len (Txt.split z "\n")
  unfold f_law_bent ms_law_bent
  walk_at "kq"
  unfold st_law_bent_0
  walk_at "kq"
  refine w_split ?_ (by decide +kernel) (len_nat (Nat.le_trans hl (by omega)) (Nat.le_refl _))
  walk_at "kq"
  unfold st_law_bent_1
  walk_at "kq"
  rw [List.length_map]
  refine z_drawB (fun i hi => ?_) (by omega) (by omega) (by omega)
  walk_at "kq"
  unfold st_law_bent_2
  obtain ⟨ln, hln⟩ : ∃ ln, (Txt.split z "\n")[i]? = some ln := ⟨_, List.getElem?_eq_getElem hi⟩
  have hlm := List.mem_of_getElem? hln
  have hzl := so_split hz hlm
  have hlen := PyProof.Rows.part_short hlm
  walk_at "kq"
  refine w_ixL (atI_nat (by rw [List.getElem?_map, hln]; rfl)) ?_
  walk_at "kq"
  refine w_split ?_ (by decide +kernel) (len_nat (Nat.le_trans hlen (by omega)) (Nat.le_refl _))
  walk_at "kq"
  refine w_words hzl (by omega) (fun y K1 K2 hy k1 k2 => ⟨_, rfl, ?_⟩) ?_
  · walk_at "kq"
    refine w_neS (so_ok hy) (so_ok (so_tz (us := []) (by simp))) ?_
    rw [q_em]
    walk_at "kq"
    by_cases e : y = tz []
    · refine w_itbF (by rw [decide_eq_true e]; rfl) ?_
      exact k2 e
    · refine w_itbT (by rw [decide_eq_false e]; rfl) ?_
      walk_at "kq"
      exact k1 e
  · have hok : ∀ w ∈ wordsOf ln, so w := fun w hw => (words_ok hzl (Nat.le_trans hlen (by omega)) hw).1
    have hww : wgt (wordsOf ln) ≤ z.length + 1 := by
      have h1 := wgt_filter (fun y => !decide (y = tz [])) (Txt.split ln " ")
      have h2 : wgt (Txt.split ln " ") ≤ ln.length + 1 := by rw [q_sp]; exact wgt_split ln 32
      unfold wordsOf
      omega
    have hwwl := wgt_len (wordsOf ln)
    generalize wordsOf ln = ws at hok hww hwwl
    have hsl : ∀ w ∈ Txt.split z "\n", so w := fun w hw => so_split hz hw
    generalize Txt.split z "\n" = lines at hsp hwl hll hi hln hlm hsl
    walk_at "kq"
    unfold st_law_bent_3
    walk_at "kq"
    rw [List.length_map, show ((ws.length : Nat) : Int) + 1 = ((ws.length + 1 : Nat) : Int) by omega]
    refine z_drawB (fun k hk => ?_) (by omega) (by omega) (by omega)
    walk_at "kq"
    unfold st_law_bent_4
    walk_at "kq"
    refine w_toStr ?_ (dg30 (by omega))
    rw [dg_str size (by omega)]
    walk_at "kq"
    rw [show ((size : Nat) : Int) - 1 = ((size - 1 : Nat) : Int) by omega]
    refine w_toStr ?_ (dg30 (by omega))
    rw [dg_str (size - 1) (by omega)]
    walk_at "kq"
    unfold st_law_bent_5
    walk_at "kq"
    refine w_cat ?_ (by simp only [List.length_cons, List.length_nil]; exact Nat.le_of_ble_eq_true rfl)
    simp only [List.cons_append, List.nil_append]
    walk_at "kq"
    unfold st_law_bent_6
    walk_at "kq"
    refine s_pick (by simp) (by simp) (by omega) fun d hd => ?_
    have hds : ∃ s : Str, d = .str s ∧ so s ∧ s.length ≤ 8 := by
      simp only [List.mem_cons, List.not_mem_nil, or_false] at hd
      have g1 := dg_tl (k := size)
      have g2 := dg_tl (k := size - 1)
      rcases hd with rfl | rfl | rfl | rfl | rfl | rfl | rfl | rfl | rfl | rfl | rfl | rfl | rfl | rfl | rfl | rfl | rfl | rfl | rfl | rfl | rfl | rfl | rfl | rfl | rfl | rfl <;> first
        | exact ⟨_, rfl, so_dg (by omega), by omega⟩
        | exact ⟨_, rfl, so_lit (by decide +kernel), by decide +kernel⟩
    obtain ⟨odd, rfl, ho1, ho2⟩ := hds
    clear hd
    walk_at "kq"
    unfold st_law_bent_7
    walk_at "kq"
    refine z_draw (m := 4) (fun way hway => ?_) (by omega) (by omega) (by omega)
    refine w_seq ?_
    refine t_way (by omega) hok ho1 ho2 (by omega) fun ws' h1 h2 => ?_
    refine t_fin hi hsl h1 (by omega) (by omega) fun z' h3 h4 => ?_
    exact h z' h3 (by omega)
end
end Kq
set_option Elab.async false
set_option linter.all false
set_option maxRecDepth 100000
set_option maxHeartbeats 400000
namespace Kq
open PySem PySem.Spec PyProof.Rows L2 LamX
local macro_rules | `(tactic| walk_at "kd") => `(tactic| first | decide | omega | (simp only [List.length_cons, List.length_nil]; omega))
local macro_rules | `(tactic| walk_at "kqf") => `(tactic| (with_reducible apply w_fn0; simp only [rho0, List.zipWith_cons_cons, List.zipWith_nil_left, List.zipWith_nil_right, slOf_val, slOf_rdL, List.length_cons, List.length_nil, Nat.reduceAdd, Nat.reduceSub, Nat.zero_add, List.replicate_succ, List.replicate_zero, List.nil_append, List.cons_append]))
local macro_rules | `(tactic| walk_at "kq1") => `(tactic| first
  | with_reducible apply w_seq
  | with_reducible apply w_next
  | with_reducible apply w_set
  | with_reducible apply w_call
  | with_reducible apply w_cons
  | with_reducible apply w_nil
  | ((with_reducible apply w_var); exact rfl)
  | with_reducible apply w_C
  | with_reducible apply w_bin
  | with_reducible apply w_un
  | with_reducible apply w_if
  | with_reducible apply w_tst
  | with_reducible apply w_tru
  | with_reducible apply w_not
  | with_reducible apply w_andB
  | with_reducible apply w_orB
  | with_reducible apply w_bl
  | with_reducible apply w_itT
  | with_reducible apply w_itF
  | with_reducible apply w_itNT
  | with_reducible apply w_itNF
  | with_reducible apply w_itXTT
  | with_reducible apply w_itXTF
  | with_reducible apply w_itXFT
  | with_reducible apply w_itXFF
  | with_reducible apply w_ret
  | with_reducible apply w_pTwo
  | with_reducible apply w_pThree
  | with_reducible apply w_pOne
  | with_reducible apply w_pOwn
  | with_reducible apply w_pInt
  | with_reducible apply w_setO
  | with_reducible apply w_par
  | with_reducible apply w_par3
  | ((with_reducible apply w_aug); exact rfl)
  | with_reducible apply w_drop
  | ((with_reducible apply w_app); exact rfl)
  | ((with_reducible apply w_ext); exact rfl)
  | ((with_reducible apply w_retN); exact rfl)
  | with_reducible apply w_retU
  | ((with_reducible apply w_frz); exact rfl)
  | with_reducible apply w_brk
  | with_reducible apply w_cnt
  | with_reducible apply w_asg
  | with_reducible apply w_for
  | with_reducible apply w_forN
  | walk_at "kqf"
  | with_reducible apply w_yes
  | with_reducible apply w_truB
  | with_reducible apply w_truN
  | with_reducible apply w_truI
  | with_reducible apply w_truL
  | with_reducible apply w_truT
  | ((with_reducible apply w_varR); exact rfl)
  | ((with_reducible apply w_varRo); exact rfl)
  | ((with_reducible apply w_varRb); exact rfl)
  | ((with_reducible apply w_varB); exact rfl)
  | with_reducible apply w_tup
  | with_reducible apply w_lst
  | with_reducible apply w_if10
  | with_reducible apply w_if20
  | with_reducible apply w_ifE
  | with_reducible apply w_andV
  | with_reducible apply w_orV
  | with_reducible apply w_notV
  | with_reducible apply w_items
  | with_reducible apply w_itA
  | with_reducible apply w_itL
  | with_reducible apply w_itTu
  | with_reducible apply w_itS
  | with_reducible apply w_noO
  | with_reducible apply w_soO
  | with_reducible apply w_sl
  | with_reducible apply w_lc
  | with_reducible apply w_fg
  | with_reducible apply w_toTupF
  | ((with_reducible apply w_rng1); rotate_left; try (first | exact ⟨by decide, by decide⟩ | omega); rotate_right)
  | ((with_reducible apply w_rng2); rotate_left; try (first | exact ⟨by decide, by decide, by decide, by decide⟩ | omega); rotate_right)
  | with_reducible apply w_enum
  | ((with_reducible apply w_zipZ); exact rfl; exact rfl)
  | with_reducible apply w_zipL
  | with_reducible apply w_zipT
  | with_reducible apply w_lam
  | ((with_reducible apply w_act); exact rfl)
  | ((with_reducible apply w_calV); exact rfl)
  | with_reducible apply w_lk0
  | ((with_reducible apply w_lkS); decide +kernel)
  | with_reducible apply w_tryE
  | with_reducible apply w_tryR
  | with_reducible apply w_tryA
  | with_reducible apply w_raise
  | ((with_reducible apply w_xf); exact rfl)
  | ((with_reducible apply w_hs1); decide +kernel)
  | ((with_reducible apply w_hs0); decide +kernel)
  | with_reducible apply w_hsN
  | with_reducible apply n_wxor
  | with_reducible apply n_wbits
  | with_reducible refine n_wsub ?_ (by omega)
  | with_reducible apply n_wadd
  | with_reducible apply n_wadd1
  | with_reducible apply n_wbit
  | with_reducible apply n_wshr
  | with_reducible refine n_wshl ?_ (by first | decide | omega) (by first | decide | omega)
  | with_reducible refine n_wshl ?_ ?_ (by omega)
  | with_reducible apply n_wshl
  | with_reducible refine n_wshl1 ?_ (by first | decide | omega)
  | with_reducible apply n_wshl1
  | ((with_reducible apply w_mod); rotate_left; try (first | decide | omega); rotate_right)
  | with_reducible apply w_mul
  | ((with_reducible apply w_fdv); rotate_left; try exact ⟨by decide, by decide⟩; rotate_right)
  | ((with_reducible apply w_pow); rotate_left; try exact ⟨by decide, by decide, by decide⟩; rotate_right)
  | with_reducible apply w_shl
  | ((with_reducible apply w_shr); rotate_left; try (first | decide | omega); rotate_right)
  | with_reducible apply w_and
  | with_reducible apply w_or
  | with_reducible apply w_xor
  | with_reducible apply w_addI
  | with_reducible apply w_sub
  | with_reducible apply w_fld
  | ((with_reducible apply w_pIns); decide +kernel)
  | ((with_reducible apply w_fldO); decide +kernel)
  | with_reducible apply w_put2
  | with_reducible apply w_pPair
  | ((with_reducible apply w_put4); decide +kernel; decide +kernel; exact rfl; exact rfl)
  | with_reducible apply w_put
  | ((with_reducible apply w_put3); decide +kernel; exact rfl; exact rfl)
  | with_reducible apply w_make
  | with_reducible apply w_itTr
  | with_reducible apply w_itFa
  | with_reducible apply w_m0
  | with_reducible apply w_m1
  | with_reducible apply w_pStr
  | with_reducible apply w_enumL
  | with_reducible apply w_enumS
  | with_reducible apply w_isdigit
  | with_reducible apply w_inS
  | with_reducible apply w_addB
  | with_reducible apply w_iaddI
  | with_reducible apply w_lt
  | with_reducible apply w_le
  | with_reducible apply w_gt
  | with_reducible apply w_ge
  | with_reducible apply w_neg
  | with_reducible apply w_bits
  | ((with_reducible apply w_ixL); exact rfl)
  | ((with_reducible apply w_ixT); exact rfl)
  | with_reducible apply w_lenL
  | with_reducible apply w_lenT
  | with_reducible apply w_toI
  | with_reducible apply w_toIb
  | with_reducible apply w_abs
  | with_reducible apply w_max2
  | with_reducible apply w_min2
  | with_reducible apply w_slL
  | with_reducible apply w_slDL
  | with_reducible apply w_lisL
  | with_reducible apply w_lisT
  | with_reducible apply w_tupL
  | with_reducible apply w_tupT
  | with_reducible apply w_isB
  | with_reducible apply w_isN
  | with_reducible apply w_reprB
  | ((with_reducible apply w_itdT); walk_at "kd")
  | ((with_reducible apply w_itdF); walk_at "kd")
  | ((with_reducible apply w_itnT); walk_at "kd")
  | ((with_reducible apply w_itnF); walk_at "kd")
  | ((with_reducible apply w_isi1); exact rfl; (first | exact kit_NoneType_int | exact kit_bool_int | exact kit_int_int | exact kit_str_int | exact kit_tuple_int | exact kit_list_int | exact kit_NoneType_bool | exact kit_bool_bool | exact kit_int_bool | exact kit_str_bool | exact kit_tuple_bool | exact kit_list_bool | exact kit_NoneType_str | exact kit_bool_str | exact kit_int_str | exact kit_str_str | exact kit_tuple_str | exact kit_list_str | exact kit_NoneType_tuple | exact kit_bool_tuple | exact kit_int_tuple | exact kit_str_tuple | exact kit_tuple_tuple | exact kit_list_tuple | exact kit_NoneType_list | exact kit_bool_list | exact kit_int_list | exact kit_str_list | exact kit_tuple_list | exact kit_list_list | exact kit_dict_int | exact kit_dict_bool | exact kit_dict_str | exact kit_dict_tuple | exact kit_dict_list))
  | with_reducible apply w_eqI
  | with_reducible apply w_neI
  | ((with_reducible apply w_sz); exact rfl)
  | ((with_reducible apply w_len2); exact rfl; exact rfl))
local macro_rules | `(tactic| walk_at "kq") => `(tactic| ((repeat (walk_at "kq1")); try simp only [List.set_cons_zero, List.set_cons_succ, List.zip_cons_cons, List.zip_nil_left, List.zip_nil_right, List.reverse_cons, List.reverse_nil, List.nil_append, List.cons_append]))

section
variable {P Q : D → Nat → Prop} {E : XC → Nat → Prop} {c m n k size line : Nat} {z odd : Str} {us : List Nat} {ws : List Str} {ds es : List D} {d : D} {nx bk ct : Rho → Nat → Prop} {rt : D → Nat → Prop} {s0 s1 s2 s3 s4 s5 s6 s7 s8 s9 s10 : Sl} {ma : ME} {ρ : Rho}
theorem pd_text (a b : Nat) : Pd 1 (.lst [.str "text", .int ((a : Nat) : Int), .int ((b : Nat) : Int)]) := by
  have h1 : PyData.strOk "text" = true := by decide +kernel
  refine .lst 0 _ fun d hd => ?_
  simp only [List.mem_cons, List.not_mem_nil, or_false] at hd
  rcases hd with rfl | rfl | rfl
  · exact .str 0 _ h1
  · exact .int 0 _
  · exact .int 0 _
theorem s_ref (hok : (∀ (P : D → Nat → Prop) (E : XC → Nat → Prop), (∀ v, P v c) → ma ρ c P E)) (h : P (.lst []) c) : mLam 1 m_law_refused ma ρ c P E := by
  unfold m_law_refused
  walk_at "kq"
  refine hok _ _ fun v => ?_
  walk_at "kq"
  exact h
theorem s_refE {a b : Nat} (hE : ∀ (P : D → Nat → Prop) (E : XC → Nat → Prop), E (bt ((a : Nat) : Int) ((b : Nat) : Int)) c → ma ρ c P E) (h : P (.lst [.str "text", .int ((a : Nat) : Int), .int ((b : Nat) : Int)]) c) : mLam 1 m_law_refused ma ρ c P E := by
  unfold m_law_refused
  walk_at "kq"
  refine hE _ _ ?_
  unfold bt
  walk_at "kq"
  exact h
theorem s_lap (h0 : 1 ≤ size) (h1 : size ≤ 24) (hc : c + 5000 < 2 ^ 40) (hK : ∀ c' s4 s5 s6 s7 s8 s9, c' ≤ c + 2000 → nx [s0, .val .pen, .val (.int ((size : Nat) : Int)), s3, s4, s5, s6, s7, s8, s9, s10] c') :
    b_law_1 [s0, .val .pen, .val (.int ((size : Nat) : Int)), s3, s4, s5, s6, s7, s8, s9, s10] c ⟨nx, rt, bk, ct, E⟩ := by
  unfold b_law_1
  walk_at "kq"
  unfold st_law_0
  walk_at "kq"
  refine z_draw (m := 3) (fun q hq => ?_) (by omega) (by omega) (by omega)
  walk_at "kq"
  rw [show (1 : Int) + ((q : Nat) : Int) = ((1 + q : Nat) : Int) by omega]
  walk_at "kq"
  rw [Int.toNat_natCast]
  refine lc_rule (fun i acc c' => c' ≤ c + 1 + 300 * i ∧ acc.length = i ∧ ∀ r ∈ acc, wfR r) ⟨by omega, rfl, (fun r h => nomatch h)⟩ ?_ ?_
  · rintro i d acc c' K hd ⟨hc1, ha, hr⟩ hK
    obtain ⟨rfl, hi⟩ := rng_atG (lo := 0) hd
    refine ⟨_, rfl, ?_⟩
    walk_at "kq"
    refine s_drule h0 h1 (by omega) fun d c2 hd hc2 => ?_
    refine ⟨szl2 (by omega), hK _ _ ⟨by omega, by rw [List.length_append, ha]; rfl, fun r h => ?_⟩⟩
    rcases List.mem_append.mp h with h | h
    · exact hr r h
    · rw [List.mem_singleton.mp h]; exact hd
  · rintro rs c1 ⟨hc1, ha, hr⟩
    rw [rngD_length] at hc1 ha
    walk_at "kq"
    refine s_stext hr (by omega) (by omega) fun z c2 hz hzl hc2 => ?_
    walk_at "kq"
    unfold st_law_1
    walk_at "kq"
    refine z_draw (m := 3) (fun b hb => ?_) (by omega) (by omega) (by omega)
    walk_at "kq"
    rw [Int.toNat_natCast]
    refine for_rule (fun i ρ c' => c' = c2 + 1 + 4 * i ∧ ∃ (z : Str) (s6 : Sl), so z ∧ (i = 0 → z.length ≤ 1900) ∧ (i = 1 → z.length ≤ 9524) ∧ (i = 2 → z.length ≤ 47644) ∧ ρ = [s0, .val .pen, .val (.int ((size : Nat) : Int)), s3, .val (.str z), s5, s6, s7, s8, s9, s10]) ⟨rfl, z, _, hz, fun _ => hzl, (fun h => nomatch h), (fun h => nomatch h), rfl⟩ ?_ ?_
    · rintro i d ρ c' K hd ⟨rfl, z, s6, hz, l0, l1, l2, rfl⟩ hK
      obtain ⟨rfl, hi⟩ := rng_atG (lo := 0) hd
      refine ⟨_, rfl, ?_⟩
      unfold b_law_0
      walk_at "kq"
      have hzl : z.length ≤ 9524 := by
        have : i = 0 ∨ i = 1 := by omega
        rcases this with e | e
        · have := l0 e; omega
        · exact l1 e
      refine s_bent hz (by omega) h0 h1 (by omega) fun z' hz' hl' => ?_
      walk_at "kq"
      refine hK _ _ ⟨by omega, z', _, hz', (fun h => absurd h (by omega)), (fun h => ?_), (fun h => ?_), rfl⟩
      · have := l0 (by omega); omega
      · have := l1 (by omega); omega
    · rintro ρ c' ⟨rfl, z, s6, hz, l0, l1, l2, rfl⟩
      rw [rngD_length] at l0 l1 l2 ⊢
      have hzl : z.length ≤ 48000 := by
        have : b = 0 ∨ b = 1 ∨ b = 2 := by omega
        rcases this with e | e | e
        · have := l0 e; omega
        · have := l1 e; omega
        · have := l2 e; omega
      walk_at "kq"
      unfold st_law_2
      walk_at "kq"
      refine s_due hz hzl h0 h1 ?_
      refine ⟨_, rfl, ?_⟩
      walk_at "kq"
      unfold st_law_3
      walk_at "kq"
      by_cases hd : (dueL size 0 (Txt.split z "\n")).1 = 0
      · refine w_itbF (decide_eq_false (by omega)) ?_
        walk_at "kq"
        unfold st_law_4
        walk_at "kq"
        refine s_ref (E := fun _ _ => False) (fun P E hP => ?_) ?_
        · walk_at "kq"
          exact s_Sort hz hzl h0 h1 (fun _ fs => hP _) (fun hne => absurd hd hne)
        · walk_at "kq"
          refine w_neR (n := 1) (.lst 0 _ fun d hd => nomatch hd) (by omega) ?_
          walk_at "kq"
          exact hK _ _ _ _ _ _ _ (by omega)
      · refine w_itbT (decide_eq_true (by omega)) ?_
        walk_at "kq"
        unfold st_law_4
        walk_at "kq"
        refine s_refE (E := fun _ _ => False) (a := (dueL size 0 (Txt.split z "\n")).1) (b := (dueL size 0 (Txt.split z "\n")).2) (fun P E hP => ?_) ?_
        · walk_at "kq"
          exact s_Sort hz hzl h0 h1 (fun hne => absurd hne hd) (fun _ => hP)
        · walk_at "kq"
          refine w_neR (n := 1) (pd_text _ _) (by omega) ?_
          walk_at "kq"
          exact hK _ _ _ _ _ _ _ (by omega)
end
theorem law_math : ms_law (rhoL 9) 0 poL := by
  unfold ms_law poL rhoL
  rw [show List.replicate 9 Sl.no = [.no, .no, .no, .no, .no, .no, .no, .no, .no] from rfl]
  walk_at "kq"
  unfold st_law_5
  walk_at "kq"
  refine s_pick (by decide) (by decide) (by decide) fun d hd => ?_
  obtain ⟨size, rfl, h0, h1⟩ : ∃ size : Nat, d = .int ((size : Nat) : Int) ∧ 1 ≤ size ∧ size ≤ 24 := by
    simp only [List.mem_cons, List.not_mem_nil, or_false] at hd
    rcases hd with rfl | rfl | rfl | rfl | rfl | rfl
    · exact ⟨1, rfl, by decide, by decide⟩
    · exact ⟨2, rfl, by decide, by decide⟩
    · exact ⟨3, rfl, by decide, by decide⟩
    · exact ⟨5, rfl, by decide, by decide⟩
    · exact ⟨11, rfl, by decide, by decide⟩
    · exact ⟨24, rfl, by decide, by decide⟩
  clear hd
  walk_at "kq"
  unfold st_law_6
  walk_at "kq"
  refine for_rule (fun i ρ c' => c' ≤ 1 + 2000 * i ∧ ∃ s3 s4 s5 s6 s7 s8 s9, ρ = [.no, .val .pen, .val (.int ((size : Nat) : Int)), s3, s4, s5, s6, s7, s8, s9, .no]) ⟨by omega, _, _, _, _, _, _, _, rfl⟩ ?_ ?_
  · rintro i d ρ c' K hd ⟨hc, s3, s4, s5, s6, s7, s8, s9, rfl⟩ hK
    have hi := (List.getElem?_eq_some_iff.mp hd).1
    rw [rngD_length] at hi
    have hi : i < 8 := hi
    refine ⟨_, rfl, ?_⟩
    refine s_lap h0 h1 (by omega) fun c2 t4 t5 t6 t7 t8 t9 hc2 => ?_
    exact hK _ _ ⟨by omega, _, _, _, _, _, _, _, rfl⟩
  · rintro ρ c' ⟨hc, s3, s4, s5, s6, s7, s8, s9, rfl⟩
    rw [rngD_length] at hc
    have hc : c' ≤ 1 + 2000 * 8 := hc
    walk_at "kq"
    unfold st_law_7
    walk_at "kq"
    refine s_pick (by simp) (by simp) (by omega) fun d hd => ?_
    have hodd : ∃ tn, tyN d = some tn ∧ (∀ y fs, d ≠ .ins y fs) ∧ kitB tn "str" = some false := by
      simp only [List.mem_cons, List.not_mem_nil, or_false] at hd
      rcases hd with rfl | rfl | rfl | rfl
      · exact ⟨_, rfl, (fun y fs z => nomatch z), kit_NoneType_str⟩
      · exact ⟨_, rfl, (fun y fs z => nomatch z), kit_int_str⟩
      · exact ⟨_, rfl, (fun y fs z => nomatch z), kit_list_str⟩
      · exact ⟨_, rfl, (fun y fs z => nomatch z), kit_tuple_str⟩
    obtain ⟨tn, e1, e2, e3⟩ := hodd
    clear hd
    walk_at "kq"
    unfold st_law_8
    walk_at "kq"
    refine s_refE (E := fun _ _ => False) (a := 0) (b := 0) (fun P E hP => ?_) ?_
    · walk_at "kq"
      exact s_Sort_odd e1 e2 e3 h0 h1 hP
    · walk_at "kq"
      refine w_eqR (n := 1) (pd_text 0 0) (by omega) ?_
      rfl
end Kq
open PySem PySem.W PyProof.Rows
set_option maxRecDepth 100000 in
set_option maxHeartbeats 0 in
theorem PySem.Challenge.cw_keptqubits_k33_wrong_texts_of_sorts_holds : PySem.Challenge.rw_keptqubits_k33_wrong_texts_of_sorts.Holds := by
  w_on; o_law; k_head; (case hw => w_witness2)
  k_fill
  refine Kq.walkT (l := PySem.Challenge.rw_keptqubits_k33_wrong_texts_of_sorts) (n := 63) (k := Kq.lawK + 1) (fun w h Y => PySem.W.km_in_of Y) rfl (by decide) rfl ⟨rfl, by decide, by decide⟩ ?F
  case F =>
    intro w mg fa h Y KX G hmg
    have d_law_pen : Kq.Df (L2.KOf KX) mg "_law_pen" "_law_pen" (Kq.top 16) ["_law_script"] := by
      delta L2.KOf
      refine' Kq.df_mk KX G ?a ?l ?c ?k (fun _ _ _ _ _ _ us hl => match us, hl with | [_], _ => rfl)
      (case a => k_is); (case l => k_is); (case c => k_is); (case k => k_is)
    have d_law_draw : Kq.Df (L2.KOf KX) mg "_law_draw" "_law_draw" (Kq.top 17) ["_law_pen_here", "_law_many"] := by
      delta L2.KOf
      refine' Kq.df_mk KX G ?a ?l ?c ?k (fun _ _ _ _ _ _ us hl => match us, hl with | [_, _], _ => rfl)
      (case a => k_is); (case l => k_is); (case c => k_is); (case k => k_is)
    have d_is_whole : Kq.Df (L2.KOf KX) mg "is_whole" "is_whole" (Kq.top 6) ["number"] := by
      delta L2.KOf
      refine' Kq.df_mk KX G ?a ?l ?c ?k (fun _ _ _ _ _ _ us hl => match us, hl with | [_], _ => rfl)
      (case a => k_is); (case l => k_is); (case c => k_is); (case k => k_is)
    have d_number_told : Kq.Df (L2.KOf KX) mg "number_told" "number_told" (Kq.top 10) ["word", "most"] := by
      delta L2.KOf
      refine' Kq.df_mk KX G ?a ?l ?c ?k (fun _ _ _ _ _ _ us hl => match us, hl with | [_, _], _ => rfl)
      (case a => k_is); (case l => k_is); (case c => k_is); (case k => k_is)
    have d_pair_told : Kq.Df (L2.KOf KX) mg "pair_told" "pair_told" (Kq.top 11) ["word", "size"] := by
      delta L2.KOf
      refine' Kq.df_mk KX G ?a ?l ?c ?k (fun _ _ _ _ _ _ us hl => match us, hl with | [_, _], _ => rfl)
      (case a => k_is); (case l => k_is); (case c => k_is); (case k => k_is)
    have d_item_told : Kq.Df (L2.KOf KX) mg "item_told" "item_told" (Kq.top 12) ["kind", "word", "size"] := by
      delta L2.KOf
      refine' Kq.df_mk KX G ?a ?l ?c ?k (fun _ _ _ _ _ _ us hl => match us, hl with | [_, _, _], _ => rfl)
      (case a => k_is); (case l => k_is); (case c => k_is); (case k => k_is)
    have d_rule_told : Kq.Df (L2.KOf KX) mg "rule_told" "rule_told" (Kq.top 13) ["words", "size", "line"] := by
      delta L2.KOf
      refine' Kq.df_mk KX G ?a ?l ?c ?k (fun _ _ _ _ _ _ us hl => match us, hl with | [_, _, _], _ => rfl)
      (case a => k_is); (case l => k_is); (case c => k_is); (case k => k_is)
    have d_law_pick : Kq.Df (L2.KOf KX) mg "_law_pick" "_law_pick" (Kq.top 18) ["_law_pen_here", "_law_some"] := by
      delta L2.KOf
      refine' Kq.df_mk KX G ?a ?l ?c ?k (fun _ _ _ _ _ _ us hl => match us, hl with | [_, _], _ => rfl)
      (case a => k_is); (case l => k_is); (case c => k_is); (case k => k_is)
    have d_law_shuffled : Kq.Df (L2.KOf KX) mg "_law_shuffled" "_law_shuffled" (Kq.top 19) ["_law_pen_here", "_law_some"] := by
      delta L2.KOf
      refine' Kq.df_mk KX G ?a ?l ?c ?k (fun _ _ _ _ _ _ us hl => match us, hl with | [_, _], _ => rfl)
      (case a => k_is); (case l => k_is); (case c => k_is); (case k => k_is)
    have d_law_drawn_rule : Kq.Df (L2.KOf KX) mg "_law_drawn_rule" "_law_drawn_rule" (Kq.top 20) ["_law_pen_here", "_law_size"] := by
      delta L2.KOf
      refine' Kq.df_mk KX G ?a ?l ?c ?k (fun _ _ _ _ _ _ us hl => match us, hl with | [_, _], _ => rfl)
      (case a => k_is); (case l => k_is); (case c => k_is); (case k => k_is)
    have d_law_item_words : Kq.Df (L2.KOf KX) mg "_law_item_words" "_law_item_words" (Kq.top 21) ["_law_rule"] := by
      delta L2.KOf
      refine' Kq.df_mk KX G ?a ?l ?c ?k (fun _ _ _ _ _ _ us hl => match us, hl with | [_], _ => rfl)
      (case a => k_is); (case l => k_is); (case c => k_is); (case k => k_is)
    have d_law_sort_text : Kq.Df (L2.KOf KX) mg "_law_sort_text" "_law_sort_text" (Kq.top 22) ["_law_pen_here", "_law_rules"] := by
      delta L2.KOf
      refine' Kq.df_mk KX G ?a ?l ?c ?k (fun _ _ _ _ _ _ us hl => match us, hl with | [_, _], _ => rfl)
      (case a => k_is); (case l => k_is); (case c => k_is); (case k => k_is)
    have d_law_is_number : Kq.Df (L2.KOf KX) mg "_law_is_number" "_law_is_number" (Kq.top 23) ["_law_word", "_law_most"] := by
      delta L2.KOf
      refine' Kq.df_mk KX G ?a ?l ?c ?k (fun _ _ _ _ _ _ us hl => match us, hl with | [_, _], _ => rfl)
      (case a => k_is); (case l => k_is); (case c => k_is); (case k => k_is)
    have d_law_first_wrong : Kq.Df (L2.KOf KX) mg "_law_first_wrong" "_law_first_wrong" (Kq.top 24) ["_law_words", "_law_size"] := by
      delta L2.KOf
      refine' Kq.df_mk KX G ?a ?l ?c ?k (fun _ _ _ _ _ _ us hl => match us, hl with | [_, _], _ => rfl)
      (case a => k_is); (case l => k_is); (case c => k_is); (case k => k_is)
    have d_law_due : Kq.Df (L2.KOf KX) mg "_law_due" "_law_due" (Kq.top 25) ["_law_text", "_law_size"] := by
      delta L2.KOf
      refine' Kq.df_mk KX G ?a ?l ?c ?k (fun _ _ _ _ _ _ us hl => match us, hl with | [_, _], _ => rfl)
      (case a => k_is); (case l => k_is); (case c => k_is); (case k => k_is)
    have d_law_refused : Kq.Df (L2.KOf KX) mg "_law_refused" "_law_refused" (Kq.top 26) ["_law_call"] := by
      delta L2.KOf
      refine' Kq.df_mk KX G ?a ?l ?c ?k (fun _ _ _ _ _ _ us hl => match us, hl with | [_], _ => rfl)
      (case a => k_is); (case l => k_is); (case c => k_is); (case k => k_is)
    have d_law_bent : Kq.Df (L2.KOf KX) mg "_law_bent" "_law_bent" (Kq.top 27) ["_law_pen_here", "_law_text", "_law_size"] := by
      delta L2.KOf
      refine' Kq.df_mk KX G ?a ?l ?c ?k (fun _ _ _ _ _ _ us hl => match us, hl with | [_, _, _], _ => rfl)
      (case a => k_is); (case l => k_is); (case c => k_is); (case k => k_is)
    have nm : Kq.Nm mg := by
      refine Kq.nm_mk KX G fun x hx => ?_
      simp only [List.mem_cons, List.not_mem_nil, or_false] at hx
      rcases hx with rfl | rfl | rfl | rfl | rfl | rfl | rfl | rfl | rfl | rfl | rfl | rfl | rfl | rfl | rfl | rfl | rfl | rfl | rfl | rfl <;> k_is
    have x_BadText : Kq.XcT (L2.KOf KX) mg "BadText" "BadText.__init__" (L2.inClass (Kq.top 3) 0) ["self", "line", "column"] ["line", "column"] := by
      delta L2.KOf
      refine' Kq.xct_mk KX G ?a ?xL ?rb ?sa ?exC ?tyC ?kC ?ga ?gg ?hdC ?no ?iC ?tI ?l ?c ?k (fun _ _ _ _ _ _ us hl => match us, hl with | [_, _, _], _ => rfl)
      (case a => k_is); (case xL => k_is); (case rb => decide +kernel); (case sa => k_is); (case exC => k_is); (case tyC => k_is); (case kC => k_is); (case ga => k_is); (case gg => k_is); (case hdC => k_is)
      (case iC => k_is); (case tI => k_is); (case l => k_is); (case c => k_is); (case k => k_is)
      (case no =>
        intro f hf
        simp only [List.mem_cons, List.not_mem_nil, or_false] at hf
        rcases hf with rfl | rfl <;> k_is)
    have x_BadNumber : Kq.XcT (L2.KOf KX) mg "BadNumber" "BadNumber.__init__" (L2.inClass (Kq.top 4) 0) ["self", "what", "number"] ["what", "number"] := by
      delta L2.KOf
      refine' Kq.xct_mk KX G ?a ?xL ?rb ?sa ?exC ?tyC ?kC ?ga ?gg ?hdC ?no ?iC ?tI ?l ?c ?k (fun _ _ _ _ _ _ us hl => match us, hl with | [_, _, _], _ => rfl)
      (case a => k_is); (case xL => k_is); (case rb => decide +kernel); (case sa => k_is); (case exC => k_is); (case tyC => k_is); (case kC => k_is); (case ga => k_is); (case gg => k_is); (case hdC => k_is)
      (case iC => k_is); (case tI => k_is); (case l => k_is); (case c => k_is); (case k => k_is)
      (case no =>
        intro f hf
        simp only [List.mem_cons, List.not_mem_nil, or_false] at hf
        rcases hf with rfl | rfl <;> k_is)
    have ce : Kq.CeT (L2.KOf KX) mg "KeptError" := by
      delta L2.KOf
      refine' Kq.cet_mk KX G ?a ?ga ?tm ?rd ?at_
      (case a => k_is); (case ga => k_is); (case tm => k_is); (case rd => k_is); (case at_ => k_is)
    have e_BadText_BadText : ∀ C D, mg "BadText" = some (.ref C) → mg "BadText" = some (.ref D) → PySem.W.exmOne (L2.KOf KX) (.ref C) (.ref D) = some true := by
      delta L2.KOf
      refine' Kq.pair_mk KX G ?ax ?ay ?h1 ?h2 ?h3 ?h4
      (case ax => k_is); (case ay => k_is); (case h1 => k_is); (case h2 => k_is); (case h3 => k_is); (case h4 => first | rfl | k_is)
    have e_BadNumber_BadText : ∀ C D, mg "BadNumber" = some (.ref C) → mg "BadText" = some (.ref D) → PySem.W.exmOne (L2.KOf KX) (.ref C) (.ref D) = some false := by
      delta L2.KOf
      refine' Kq.pair_mk KX G ?ax ?ay ?h1 ?h2 ?h3 ?h4
      (case ax => k_is); (case ay => k_is); (case h1 => k_is); (case h2 => k_is); (case h3 => k_is); (case h4 => first | rfl | k_is)
    have sub : Kq.SubOk (L2.KOf KX) mg Kq.subC := by
      refine Kq.sub_mk fun q hq => ?_
      simp only [Kq.exL, List.mem_cons, List.not_mem_nil, or_false] at hq
      rcases hq with rfl | rfl
      · exact e_BadText_BadText
      · exact e_BadNumber_BadText
    have k_Sort : Kq.KlT (L2.KOf KX) mg "Sort" "Sort.__init__" (L2.inClass (Kq.top 14) 0) ["self", "size", "text"] := by
      delta L2.KOf
      refine' Kq.kl_mk KX G ?a ?mk ?ii ?fn ?kp ?l ?c ?k (fun _ _ _ _ _ _ us hl => match us, hl with | [_, _, _], _ => rfl)
      (case a => k_is); (case ii => k_is); (case mk => k_is); (case fn => k_is); (case kp => k_is); (case l => k_is); (case c => k_is); (case k => k_is)
    have fld : Kq.FldOk (L2.KOf KX) mg Kq.fldT := by
      delta L2.KOf
      refine Kq.fld_mk fun p hp => ?_
      simp only [Kq.fldL, List.mem_cons, List.not_mem_nil, or_false] at hp
      rcases hp with rfl
      · refine' Kq.cf_mk KX G ?a ?c1 ?c2 ?c3 ?c4 ?n
        (case a => k_is); (case c1 => k_is); (case c2 => k_is); (case c3 => k_is); (case c4 => k_is)
        (case n =>
          intro f hf
          simp only [List.mem_cons, List.not_mem_nil, or_false] at hf
          rcases hf with rfl | rfl | rfl <;> k_is)
    have isi : Kq.IsiOk (L2.KOf KX) mg (Kq.clsT Kq.clsL) (Kq.subT Kq.subL) := by
      delta L2.KOf
      refine Kq.isi_mk (fun c hc => ?_) (fun q hq => ?_)
      · simp only [Kq.clsL, List.mem_cons, List.not_mem_nil, or_false] at hc
        rcases hc with rfl
        · refine' Kq.ci_mk KX G ?a ?c1 ?c2 ?c3 ?c4 ?ha ?hn ?htk ?hm ?b1 ?b2
          (case a => k_is); (case c1 => k_is); (case c2 => k_is); (case c3 => k_is); (case c4 => k_is); (case ha => k_is); (case hn => k_is); (case htk => k_is); (case hm => k_is)
          (case b1 =>
            intro n hn
            simp only [Kq.bltN, List.mem_cons, List.not_mem_nil, or_false] at hn
            rcases hn with rfl | rfl | rfl | rfl | rfl | rfl | rfl <;> kernel_rfl)
          (case b2 =>
            intro n hn
            simp only [Kq.bltN, List.mem_cons, List.not_mem_nil, or_false] at hn
            rcases hn with rfl | rfl | rfl | rfl | rfl | rfl | rfl <;> kernel_rfl)
      · simp only [Kq.subL, List.mem_cons, List.not_mem_nil, or_false] at hq
        rcases hq with rfl
        · refine' Kq.cp_mk KX G ?a1 ?a2 ?k
          (case a1 => k_is); (case a2 => k_is); (case k => kernel_rfl)
    have v_KINDS : Kq.GlT (L2.KOf KX) mg "KINDS" (Kq.D.tup [(.str "weight"), (.str "letters"), (.str "near"), (.str "within"), (.str "run")]) := by
      delta L2.KOf
      show Kq.GlT _ mg "KINDS" (.tup ((["weight", "letters", "near", "within", "run"] : List PySem.Str).map Kq.D.str))
      refine' Kq.gl_texts (PySem.W.mg_of KX G ?a) ?l ?h2 ?h3 ?h4 ?h5
      (case a => k_is); (case l => k_is); (case h2 => rfl); (case h3 => rfl); (case h4 => decide); (case h5 => exact (.cons ⟨_, rfl⟩ (.cons ⟨_, rfl⟩ (.cons ⟨_, rfl⟩ (.cons ⟨_, rfl⟩ (.cons ⟨_, rfl⟩ .nil))))))
    have v_MOST_SIZE : Kq.GlT (L2.KOf KX) mg "MOST_SIZE" (.int 24) := by
      delta L2.KOf
      refine' Kq.gl_int (PySem.W.mg_of KX G ?a)
      (case a => k_is)
    have t : Kq.Txt (L2.KOf KX) mg := { nm := nm, k_Sort := k_Sort, fld := fld, isi := isi, v_KINDS := v_KINDS, v_MOST_SIZE := v_MOST_SIZE, ce := ce, sub := sub, x_BadText := x_BadText, x_BadNumber := x_BadNumber, d_law_draw := d_law_draw, d_is_whole := d_is_whole, d_number_told := d_number_told, d_pair_told := d_pair_told, d_item_told := d_item_told, d_rule_told := d_rule_told, d_law_pick := d_law_pick, d_law_shuffled := d_law_shuffled, d_law_drawn_rule := d_law_drawn_rule, d_law_item_words := d_law_item_words, d_law_sort_text := d_law_sort_text, d_law_is_number := d_law_is_number, d_law_first_wrong := d_law_first_wrong, d_law_due := d_law_due, d_law_refused := d_law_refused, d_law_bent := d_law_bent }
    delta L2.KOf at t
    refine' Kq.lawT2 (st := Kq.top 28) (tab := Kq.tabL) KX G hmg ?za ?zl ?zcl ?zht ?zhc ?zhP ?znP ?zhd ?ztb (by decide) (fun _ _ _ _ _ _ us hl => match us, hl with | [_], _ => rfl) ?zF2
    (case za => k_is); (case zl => k_is); (case zhc => rfl)
    (case zhP => exact PySem.W.km_tabs_of Y _ (List.mem_cons_self ..))
    (case zcl => k_is); (case zht => kernel_rfl); (case znP => kernel_rfl); (case zhd => kernel_rfl)
    (case ztb =>
      intro cs p hp
      obtain ⟨q, hq, rfl⟩ := List.mem_map.mp hp
      exact List.mem_map_of_mem hq)
    (case zF2 =>
      intro base KB NB TB fd F
      obtain ⟨fp, fdp, hmp, Fp, bp⟩ := d_law_pen.ex
      exact Kq.law_ok (n := 9) F Kq.sc_law rfl rfl rfl (Or.inl rfl) (Or.inr rfl) rfl rfl hmp Fp.kp bp (Kq.ok_pen Fp nm) (fun A outer s z E hr => Kq.body_law t TB rfl hr) Kq.law_math)
