import PyProof.Rows.All
import Wide.All
import OpenK.AllK
import Wide.FinOn
import HandS.ForMost
import HandS.IsInst
import HandS.Wide
import HandS.WideBits
import HandS.Deep
import HandS.Flt
import HandS.SortRule
import HandS.Defaults
import HandS.Codes
import HandS.Conv
import HandS.TupLe
import HandS.Style
import HandS.Evl
import PyProof.LongRange
import HandS.Rev
import HandS.Strs
import HandS.Exc
import HandS.TryOnly
import HandS.ExcOwn
import HandS.WordsExc
import HandS.ExcInit
import HandS.ExcIs
import HandS.ExcField
import HandS.TryMany
import HandS.HotCalls
import HandS.ClsMeth
import KE.KExcIs
import PySem.Challenge.RW_sixcells_k09_whole_sight_moved
set_option Elab.async false
set_option linter.all false
set_option maxRecDepth 100000
set_option maxHeartbeats 2500000
/-! DL1: data without the heap, what a name holds, what an expression gives. -/
namespace DL
open PySem L2 PySem.Spec PyProof.Rows
open Evl (Ex)

/-! ### data -/
inductive D where
  | non | bl (b : Bool) | int (i : Int) | str (x : Str)
  | lst (ds : List D) | tup (ds : List D) | ktup (ds : List D)
  | scr (ns : List Int)
  | obj (C : Addr) (fs : List (Str × D))
  | dct (cs : List (Int × Int))
abbrev cell (a b : Int) : D := .tup [.int a, .int b]
def kvT (c : Int × Int) : List Key × V := ([.inl c.1, .inl c.2], .bl true)

mutual
inductive Dv (K : PySem.W.Frag) (G : Hp) : V → D → Prop
  | non : Dv K G .non .non
  | bl (b : Bool) : Dv K G (.bl b) (.bl b)
  | int (i : Int) : Dv K G (.int i) (.int i)
  | str (x : Str) : Dv K G (.str x) (.str x)
  | lst {a : Addr} {xs : List V} {ds : List D} : G a = some (.lst xs) → DvAll K G xs ds → Dv K G (.ref a) (.lst ds)
  | tup {a : Addr} {xs : List V} {ds : List D} : G a = some (.tup xs) → DvAll K G xs ds → Dv K G (.ref a) (.tup ds)
  | ktup {a : Addr} {xs : List V} {ds : List D} : (∀ H, SqT K H a xs) → DvAll K G xs ds → Dv K G (.ref a) (.ktup ds)
  | scr {a : Addr} {ns : List Int} : SqL K G a (ns.map V.int) → Dv K G (.ref a) (.scr ns)
  | obj {a C dx : Addr} {vs : List (Str × V)} {fs : List (Str × D)} : G a = some (.ins C dx vs) → DvFs K G vs fs → Dv K G (.ref a) (.obj C fs)
  | dct {a : Addr} {cs : List (Int × Int)} : G a = some (.dT (cs.map kvT)) → Dv K G (.ref a) (.dct cs)
inductive DvAll (K : PySem.W.Frag) (G : Hp) : List V → List D → Prop
  | nil : DvAll K G [] []
  | cons {v : V} {vs : List V} {d : D} {ds : List D} : Dv K G v d → DvAll K G vs ds → DvAll K G (v :: vs) (d :: ds)
inductive DvFs (K : PySem.W.Frag) (G : Hp) : List (Str × V) → List (Str × D) → Prop
  | nil : DvFs K G [] []
  | cons {f : Str} {v : V} {vs : List (Str × V)} {d : D} {ds : List (Str × D)} : Dv K G v d → DvFs K G vs ds → DvFs K G ((f, v) :: vs) ((f, d) :: ds)
end

section
variable {K : PySem.W.Frag} {G G' : Hp}
mutual
theorem Dv.mono (e : Ex G G') : ∀ {v : V} {d : D}, Dv K G v d → Dv K G' v d
  | _, _, .non => .non
  | _, _, .bl b => .bl b
  | _, _, .int i => .int i
  | _, _, .str x => .str x
  | _, _, .lst h q => .lst (e _ _ h) (DvAll.mono e q)
  | _, _, .tup h q => .tup (e _ _ h) (DvAll.mono e q)
  | _, _, .ktup h q => .ktup h (DvAll.mono e q)
  | _, _, .scr h => .scr (Evl.ex_l e h)
  | _, _, .obj h q => .obj (e _ _ h) (DvFs.mono e q)
  | _, _, .dct h => .dct (e _ _ h)
theorem DvAll.mono (e : Ex G G') : ∀ {vs : List V} {ds : List D}, DvAll K G vs ds → DvAll K G' vs ds
  | _, _, .nil => .nil
  | _, _, .cons h t => .cons (Dv.mono e h) (DvAll.mono e t)
theorem DvFs.mono (e : Ex G G') : ∀ {vs : List (Str × V)} {ds : List (Str × D)}, DvFs K G vs ds → DvFs K G' vs ds
  | _, _, .nil => .nil
  | _, _, .cons h t => .cons (Dv.mono e h) (DvFs.mono e t)
end
theorem DvAll.length : ∀ {vs : List V} {ds : List D}, DvAll K G vs ds → vs.length = ds.length
  | _, _, .nil => rfl
  | _, _, .cons _ t => congrArg Nat.succ t.length
theorem DvAll.get : ∀ {vs : List V} {ds : List D} {i : Nat} {d : D}, DvAll K G vs ds → ds[i]? = some d → ∃ v, vs[i]? = some v ∧ Dv K G v d
  | _, _, _, _, .nil, no => by simp at no
  | _, _, 0, _, .cons h _, e => by
    simp at e
    subst e
    exact ⟨_, rfl, h⟩
  | _, _, i + 1, d, .cons _ t, e => by
    obtain ⟨v, h1, h2⟩ := DvAll.get (i := i) (d := d) t (by simpa using e)
    exact ⟨v, by simpa using h1, h2⟩
theorem DvAll.getV : ∀ {vs : List V} {ds : List D} {i : Nat} {v : V}, DvAll K G vs ds → vs[i]? = some v → ∃ d, ds[i]? = some d ∧ Dv K G v d
  | _, _, _, _, .nil, no => by simp at no
  | _, _, 0, _, .cons h _, e => by
    simp at e
    subst e
    exact ⟨_, rfl, h⟩
  | _, _, i + 1, v, .cons _ t, e => by
    obtain ⟨d, h1, h2⟩ := DvAll.getV (i := i) (v := v) t (by simpa using e)
    exact ⟨d, by simpa using h1, h2⟩
theorem DvAll.append : ∀ {vs ws : List V} {ds es : List D}, DvAll K G vs ds → DvAll K G ws es → DvAll K G (vs ++ ws) (ds ++ es)
  | _, _, _, _, .nil, s => s
  | _, _, _, _, .cons r t, s => .cons r (DvAll.append t s)
theorem DvAll.take : ∀ {vs : List V} {ds : List D} (n : Nat), DvAll K G vs ds → DvAll K G (vs.take n) (ds.take n)
  | _, _, 0, _ => .nil
  | _, _, _ + 1, .nil => .nil
  | _, _, n + 1, .cons r t => .cons r (DvAll.take n t)
theorem DvAll.drop : ∀ {vs : List V} {ds : List D} (n : Nat), DvAll K G vs ds → DvAll K G (vs.drop n) (ds.drop n)
  | _, _, 0, r => r
  | _, _, _ + 1, .nil => .nil
  | _, _, n + 1, .cons _ t => DvAll.drop n t
theorem DvAll.reverse : ∀ {vs : List V} {ds : List D}, DvAll K G vs ds → DvAll K G vs.reverse ds.reverse
  | _, _, .nil => .nil
  | _, _, .cons r t => by simpa using DvAll.append t.reverse (.cons r .nil)
theorem DvAll.set {v : V} {d : D} (r : Dv K G v d) : ∀ {vs : List V} {ds : List D} (i : Nat), DvAll K G vs ds → DvAll K G (vs.set i v) (ds.set i d)
  | _, _, _, .nil => .nil
  | _, _, 0, .cons _ tail => .cons r tail
  | _, _, i + 1, .cons q t => .cons q (DvAll.set r i t)
theorem DvAll.dropLast {vs : List V} {ds : List D} (h : DvAll K G vs ds) : DvAll K G vs.dropLast ds.dropLast := by
  rw [List.dropLast_eq_take, List.dropLast_eq_take, h.length]
  exact h.take _
theorem DvAll.ints : ∀ (ns : List Int), DvAll K G (ns.map V.int) (ns.map D.int)
  | [] => .nil
  | n :: ns => .cons (.int n) (DvAll.ints ns)
theorem DvAll.ints_inv : ∀ {ns : List Int} {vs : List V}, DvAll K G vs (ns.map D.int) → vs = ns.map V.int
  | [], _, h => by cases h; rfl
  | n :: ns, _, h => by
    cases h with
    | cons r t =>
      cases r
      rw [DvAll.ints_inv t]
      rfl
theorem DvFs.look : ∀ {vs : List (Str × V)} {fs : List (Str × D)} {f : Str} {d : D}, DvFs K G vs fs → fs.lookup f = some d → ∃ v, vs.lookup f = some v ∧ Dv K G v d
  | _, _, _, _, .nil, no => by simp at no
  | _, _, f, d, .cons (f := g) h t, e => by
    rw [List.lookup_cons] at e ⊢
    by_cases hb : (f == g) = true
    · rw [hb] at e ⊢
      cases e
      exact ⟨_, rfl, h⟩
    · rw [Bool.not_eq_true] at hb
      rw [hb] at e ⊢
      exact t.look e
theorem DvFs.none : ∀ {vs : List (Str × V)} {fs : List (Str × D)} {f : Str}, DvFs K G vs fs → fs.lookup f = none → vs.lookup f = none
  | _, _, _, .nil, _ => rfl
  | _, _, f, .cons (f := g) h t, e => by
    rw [List.lookup_cons] at e ⊢
    by_cases hb : (f == g) = true
    · rw [hb] at e
      cases e
    · rw [Bool.not_eq_true] at hb
      rw [hb] at e ⊢
      exact t.none e
end

/-! ### the same as data of the library -/
mutual
def D.py : D → PyData
  | .non => .none
  | .bl b => .bool b
  | .int i => .int i
  | .str x => .str x
  | .lst ds => .list (D.pys ds)
  | .tup ds => .tuple (D.pys ds)
  | .ktup ds => .tuple (D.pys ds)
  | .scr ns => .list (ns.map PyData.int)
  | .obj _ _ => .none
  | .dct _ => .none
def D.pys : List D → List PyData
  | [] => []
  | d :: ds => d.py :: D.pys ds
end
mutual
def D.flat : D → Bool
  | .lst ds => D.flats ds
  | .tup ds => D.flats ds
  | .ktup ds => D.flats ds
  | .obj _ _ => false
  | .dct _ => false
  | _ => true
def D.flats : List D → Bool
  | [] => true
  | d :: ds => d.flat && D.flats ds
end
theorem dp_ints {K : PySem.W.Frag} {G : Hp} : ∀ ns : List Int, DpAll K G (ns.map V.int) (ns.map PyData.int)
  | [] => .nil
  | n :: ns => .cons (.int n) (dp_ints ns)
mutual
theorem Dv.dp {K : PySem.W.Frag} {G : Hp} : ∀ {v : V} {d : D}, Dv K G v d → d.flat = true → Dp K G v d.py
  | _, _, .non, _ => .non
  | _, _, .bl b, _ => .bl b
  | _, _, .int i, _ => .int i
  | _, _, .str x, _ => .str x
  | _, _, .lst h q, f => .lst (.inl (.inl h)) (DvAll.dp q f)
  | _, _, .tup h q, f => .tup (SqT.of h) (DvAll.dp q f)
  | _, _, .ktup h q, f => .tup (h _) (DvAll.dp q f)
  | _, _, .scr h, _ => .lst h (dp_ints _)
  | _, _, .obj _ _, f => Bool.noConfusion f
  | _, _, .dct _, f => Bool.noConfusion f
theorem DvAll.dp {K : PySem.W.Frag} {G : Hp} : ∀ {vs : List V} {ds : List D}, DvAll K G vs ds → D.flats ds = true → DpAll K G vs (D.pys ds)
  | _, _, .nil, _ => .nil
  | _, _, .cons h t, f => .cons (Dv.dp h (by
      have f' : (_ && _) = true := f
      exact (Bool.and_eq_true _ _ ▸ f').1)) (DvAll.dp t (by
      have f' : (_ && _) = true := f
      exact (Bool.and_eq_true _ _ ▸ f').2))
end

/-! ### the heap grows -/
/-- from (G, H) to (G', H'): G what stands still -/
structure Gr (G H G' H' : Hp) : Prop where
  g : Ex G G'
  i : Ex G' H'
  h : Ex H H'
  f : ∀ b, H b ≠ none → (∀ xs, H b ≠ some (.tup xs)) → G' b = G b
theorem Gr.refl {G H : Hp} (e : Ex G H) : Gr G H G H := ⟨Ex.refl _, e, Ex.refl _, fun _ _ _ => rfl⟩
theorem Gr.trans {G H G1 H1 G2 H2 : Hp} (a : Gr G H G1 H1) (b : Gr G1 H1 G2 H2) : Gr G H G2 H2 := ⟨a.g.trans b.g, b.i, a.h.trans b.h, fun x hx ht => by
  cases e : H x with
  | none => exact absurd e hx
  | some o =>
    have e1 := a.h x o e
    rw [b.f x (by rw [e1]; exact fun z => by cases z) (fun xs z => ht xs (by rw [e, ← e1, z])), a.f x hx ht]⟩
/-- a new object that stands still -/
theorem Gr.new {G H : Hp} {p : Addr} {o : HO} (e : Ex G H) (n : H p = none) : Gr G H (upd G p o) (upd H p o) := ⟨Ex.new (Evl.fresh_back e n), fun a u q => by
  by_cases hp : a = p
  · subst hp
    rw [upd_same] at q ⊢
    exact q
  · rw [upd_ne hp] at q ⊢
    exact e _ _ q, Ex.new n, fun b hb _ => upd_ne fun z => hb (by rw [z]; exact n)⟩
/-- a new object that may be changed yet -/
theorem Gr.own {G H : Hp} {p : Addr} {o : HO} (e : Ex G H) (n : H p = none) : Gr G H G (upd H p o) := ⟨Ex.refl _, e.trans (Ex.new n), Ex.new n, fun _ _ _ => rfl⟩

/-! ### what a name holds -/
inductive Hold where
  | any | val (d : D) | own (ds : List D)
structure Nv (K : PySem.W.Frag) (Gb Hb G H : Hp) (σ : L2.St) (δ : List Hold) : Prop where
  gr : Gr Gb Hb G H
  ln : σ.length = δ.length
  vl : ∀ (i : Nat) (d : D), δ[i]? = some (.val d) → ∃ v, σ[i]? = some (some v) ∧ Dv K G v d
  ow : ∀ (i : Nat) (ds : List D), δ[i]? = some (.own ds) → ∃ (l : Addr) (xs : List V), σ[i]? = some (some (.ref l)) ∧ Hb l = none ∧ G l = none ∧ H l = some (.lst xs) ∧ DvAll K G xs ds
  di : ∀ (i j : Nat) (ds es : List D) (l : Addr), δ[i]? = some (.own ds) → δ[j]? = some (.own es) → σ[i]? = some (some (.ref l)) → σ[j]? = some (some (.ref l)) → i = j
section
variable {K : PySem.W.Frag} {Gb Hb G H G' H' : Hp} {σ : L2.St} {δ : List Hold}
theorem Nv.ex (e : Nv K Gb Hb G H σ δ) : Ex G H := e.gr.i
theorem Nv.mono (e : Nv K Gb Hb G H σ δ) (g : Gr G H G' H') : Nv K Gb Hb G' H' σ δ := ⟨e.gr.trans g, e.ln, fun i d h => by
    obtain ⟨v, h1, h2⟩ := e.vl i d h
    exact ⟨v, h1, h2.mono g.g⟩, fun i ds h => by
    obtain ⟨l, xs, h1, h2, h3, h4, h5⟩ := e.ow i ds h
    exact ⟨l, xs, h1, h2, (g.f l (by rw [h4]; exact fun z => by cases z) (fun _ z => by rw [h4] at z; cases z)).trans h3, g.h _ _ h4, h5.mono g.g⟩, e.di⟩
theorem set_get {α : Type} {l : List α} {i j : Nat} {x y : α} (h : (l.set i x)[j]? = some y) : (j = i ∧ i < l.length ∧ y = x) ∨ (j ≠ i ∧ l[j]? = some y) := by
  by_cases e : i = j
  · subst e
    by_cases hl : i < l.length
    · rw [List.getElem?_set_self hl] at h
      exact .inl ⟨rfl, hl, (Option.some.inj h).symm⟩
    · rw [List.getElem?_eq_none (by simpa using hl)] at h
      cases h
  · rw [List.getElem?_set_ne e] at h
    exact .inr ⟨fun z => e z.symm, h⟩
theorem Nv.set (e : Nv K Gb Hb G H σ δ) {i : Nat} {v : V} {d : D} (h : Dv K G v d) : Nv K Gb Hb G H (σ.set i (some v)) (δ.set i (.val d)) := ⟨e.gr, by simp [e.ln], fun j d' h' => by
    rcases set_get h' with ⟨rfl, hl, q⟩ | ⟨ne, q⟩
    · cases q
      exact ⟨v, by rw [List.getElem?_set_self (by rw [e.ln]; exact hl)], h⟩
    · rw [List.getElem?_set_ne (fun z => ne z.symm)]
      exact e.vl j d' q, fun j ds h' => by
    rcases set_get h' with ⟨rfl, hl, q⟩ | ⟨ne, q⟩
    · cases q
    · rw [List.getElem?_set_ne (fun z => ne z.symm)]
      exact e.ow j ds q, fun j k ds es l h1 h2 h3 h4 => by
    rcases set_get h1 with ⟨rfl, hl, q⟩ | ⟨ne, q⟩
    · cases q
    rcases set_get h2 with ⟨rfl, hl, q'⟩ | ⟨ne', q'⟩
    · cases q'
    rw [List.getElem?_set_ne (fun z => ne z.symm)] at h3
    rw [List.getElem?_set_ne (fun z => ne' z.symm)] at h4
    exact e.di j k ds es l q q' h3 h4⟩
theorem Nv.setOwn (e : Nv K Gb Hb G H σ δ) {i : Nat} {l : Addr} {xs : List V} {ds : List D} (hb : Hb l = none) (hg : G l = none) (hh : H l = some (.lst xs)) (h : DvAll K G xs ds)
    (hn : ∀ (j : Nat) (es : List D), j ≠ i → δ[j]? = some (.own es) → σ[j]? ≠ some (some (.ref l))) : Nv K Gb Hb G H (σ.set i (some (.ref l))) (δ.set i (.own ds)) := ⟨e.gr, by simp [e.ln], fun j d' h' => by
    rcases set_get h' with ⟨rfl, hl, q⟩ | ⟨ne, q⟩
    · cases q
    · rw [List.getElem?_set_ne (fun z => ne z.symm)]
      exact e.vl j d' q, fun j ds' h' => by
    rcases set_get h' with ⟨rfl, hl, q⟩ | ⟨ne, q⟩
    · cases q
      exact ⟨l, xs, by rw [List.getElem?_set_self (by rw [e.ln]; exact hl)], hb, hg, hh, h⟩
    · rw [List.getElem?_set_ne (fun z => ne z.symm)]
      exact e.ow j ds' q, fun j k ds' es l' h1 h2 h3 h4 => by
    rcases set_get h1 with ⟨rfl, hl, q⟩ | ⟨ne, q⟩
    · rcases set_get h2 with ⟨rfl, hl', q'⟩ | ⟨ne', q'⟩
      · rfl
      · rw [List.getElem?_set_self (by rw [e.ln]; exact hl)] at h3
        rw [List.getElem?_set_ne (fun z => ne' z.symm)] at h4
        cases h3
        exact absurd h4 (hn k es ne' q')
    · rcases set_get h2 with ⟨rfl, hl', q'⟩ | ⟨ne', q'⟩
      · rw [List.getElem?_set_self (by rw [e.ln]; exact hl')] at h4
        rw [List.getElem?_set_ne (fun z => ne z.symm)] at h3
        cases h4
        exact absurd h3 (hn j ds' ne q)
      · rw [List.getElem?_set_ne (fun z => ne z.symm)] at h3
        rw [List.getElem?_set_ne (fun z => ne' z.symm)] at h4
        exact e.di j k ds' es l' q q' h3 h4⟩
/-- a list that only this name holds is changed -/
theorem Nv.put (e : Nv K Gb Hb G H σ δ) {i : Nat} {l : Addr} {xs' : List V} {ds ds' : List D} (hi : δ[i]? = some (.own ds)) (hs : σ[i]? = some (some (.ref l))) (h : DvAll K G xs' ds') :
    Nv K Gb Hb G (upd H l (.lst xs')) σ (δ.set i (.own ds')) := by
  obtain ⟨l', ys, h1, h2, h3, h4, h5⟩ := e.ow i ds hi
  rw [hs] at h1
  cases h1
  have hlt : i < δ.length := (List.getElem?_eq_some_iff.mp hi).1
  refine ⟨⟨e.gr.g, fun a o q => ?_, fun a o q => ?_, e.gr.f⟩, by simp [e.ln], fun j d h' => ?_, fun j es h' => ?_, fun j k es fs m h1 h2 q1 q2 => ?_⟩
  · rw [upd_ne (ne_of_none q h3)]
    exact e.gr.i a o q
  · rw [upd_ne (ne_of_none q h2)]
    exact e.gr.h a o q
  · rcases set_get h' with ⟨rfl, hl, q⟩ | ⟨ne, q⟩
    · cases q
    · exact e.vl j d q
  · rcases set_get h' with ⟨rfl, hl, q⟩ | ⟨ne, q⟩
    · cases q
      exact ⟨l, xs', hs, h2, h3, upd_same, h⟩
    · obtain ⟨m, ys', g1, g2, g3, g4, g5⟩ := e.ow j es q
      refine ⟨m, ys', g1, g2, g3, ?_, g5⟩
      have nm : m ≠ l := fun z => by
        subst z
        exact ne (e.di j i es ds m q hi g1 hs)
      rw [upd_ne nm]
      exact g4
  · have f1 : ∃ es', δ[j]? = some (.own es') := by
      rcases set_get h1 with ⟨rfl, hl, q⟩ | ⟨ne, q⟩
      · exact ⟨_, hi⟩
      · exact ⟨_, q⟩
    have f2 : ∃ es', δ[k]? = some (.own es') := by
      rcases set_get h2 with ⟨rfl, hl, q⟩ | ⟨ne, q⟩
      · exact ⟨_, hi⟩
      · exact ⟨_, q⟩
    obtain ⟨e1, f1⟩ := f1
    obtain ⟨e2, f2⟩ := f2
    exact e.di j k e1 e2 m f1 f2 q1 q2
/-- less is known -/
inductive Le : List Hold → List Hold → Prop
  | nil : Le [] []
  | cons {s t : Hold} {δ ε : List Hold} : (t = .any ∨ t = s) → Le δ ε → Le (s :: δ) (t :: ε)
theorem Le.refl : ∀ δ : List Hold, Le δ δ
  | [] => .nil
  | _ :: δ => .cons (.inr rfl) (Le.refl δ)
theorem Le.len : ∀ {δ ε : List Hold}, Le δ ε → δ.length = ε.length
  | _, _, .nil => rfl
  | _, _, .cons _ t => congrArg Nat.succ t.len
theorem Le.get : ∀ {δ ε : List Hold} {i : Nat} {s : Hold}, Le δ ε → ε[i]? = some s → s = .any ∨ δ[i]? = some s
  | _, _, _, _, .nil, no => by simp at no
  | _, _, 0, _, .cons h _, e => by
    simp at e
    subst e
    rcases h with h | h
    · exact .inl h
    · exact .inr (by rw [h]; rfl)
  | _, _, i + 1, s, .cons _ t, e => by
    rcases Le.get (i := i) (s := s) t (by simpa using e) with h | h
    · exact .inl h
    · exact Or.inr (by simpa using h)
theorem Nv.le {ε : List Hold} (e : Nv K Gb Hb G H σ δ) (h : Le δ ε) : Nv K Gb Hb G H σ ε := ⟨e.gr, e.ln.trans h.len, fun i d q => by
    rcases h.get q with z | z
    · cases z
    · exact e.vl i d z, fun i ds q => by
    rcases h.get q with z | z
    · cases z
    · exact e.ow i ds z, fun i j ds es l q1 q2 => by
    rcases h.get q1 with z | z
    · cases z
    rcases h.get q2 with z' | z'
    · cases z'
    exact e.di i j ds es l z z'⟩
end

/-! ### what an expression gives -/
inductive Res where
  | val (d : D) | new (ds : List D)
def Post (K : PySem.W.Frag) (G H : Hp) (r : Res) (Q : VK) : Prop := match r with
  | .val d => ∀ v G' H', Gr G H G' H' → Dv K G' v d → Q v H'
  | .new ds => ∀ l xs G' H', Gr G H G' H' → H l = none → G' l = none → H' l = some (.lst xs) → DvAll K G' xs ds → Q (.ref l) H'
theorem Post.mono {K : PySem.W.Frag} {G H G1 H1 : Hp} {r : Res} {Q : VK} (p : Post K G H r Q) (g : Gr G H G1 H1) : Post K G1 H1 r Q := by
  cases r with
  | val d => exact fun v G' H' g' h => p v G' H' (g.trans g') h
  | new ds => exact fun l xs G' H' g' n1 n2 n3 h => p l xs G' H' (g.trans g') (Evl.fresh_back g.h n1) n2 n3 h
theorem Post.imp {K : PySem.W.Frag} {G H : Hp} {r : Res} {Q Q' : VK} (p : Post K G H r Q) (h : ∀ v H', Q v H' → Q' v H') : Post K G H r Q' := by
  cases r with
  | val d => exact fun v G' H' g' q => h _ _ (p v G' H' g' q)
  | new ds => exact fun l xs G' H' g' n1 n2 n3 q => h _ _ (p l xs G' H' g' n1 n2 n3 q)
/-- a new list may be held as it stands -/
theorem Post.freeze {K : PySem.W.Frag} {G H : Hp} {ds : List D} {Q : VK} (p : Post K G H (.val (.lst ds)) Q) : Post K G H (.new ds) Q := fun l xs G' H' g n1 n2 n3 h => by
  have ex : Ex G' (upd G' l (.lst xs)) := Ex.new n2
  refine p (.ref l) (upd G' l (.lst xs)) H' ⟨g.g.trans ex, fun a o q => ?_, g.h, fun b hb ht => ?_⟩ (.lst upd_same (h.mono ex))
  · by_cases z : a = l
    · subst z
      rw [upd_same] at q
      rw [n3, q]
    · rw [upd_ne z] at q
      exact g.i a o q
  · rw [upd_ne (fun z => hb (by rw [z]; exact n1))]
    exact g.f b hb ht

section
variable (X : Cx)
def rE (e : Expr) : TE := fun σ H Q => ∀ (pins : List (Addr × Obj)) (s : Shared), Inv X pins σ H s → wpAny (model X.prog X.w) X.A (eval e X.env) (EP X pins σ Q) X.xe s
theorem canE (e : Expr) : PE X e (rE X e) := ⟨fun pins s _ _ _ I h => h pins s I⟩
def rT (e : Expr) : TT := fun σ H Q => ∀ (pins : List (Addr × Obj)) (s : Shared), Inv X pins σ H s → wpAny (model X.prog X.w) X.A (isTrue e X.env (eval e X.env)) (TP X pins σ Q) X.xe s
theorem canT (e : Expr) : PT X e (rT X e) := ⟨fun pins s _ _ _ I h => h pins s I⟩
def rW (e : Expr) : TT := fun σ H Q => ∀ (whole : Sem Value) (pins : List (Addr × Obj)) (s : Shared), Inv X pins σ H s → wpAny (model X.prog X.w) X.A (isTrue e X.env whole) (TP X pins σ Q) X.xe s
theorem canW (e : Expr) : PW X e (rW X e) := ⟨fun whole pins s _ _ _ I h => h whole pins s I⟩
def rA (es : List Expr) : TA := fun σ H Q => ∀ (pos : Pos) (pins : List (Addr × Obj)) (s : Shared), Inv X pins σ H s → wpAny (model X.prog X.w) X.A (spliced (backTo pos (starEach es X.env))) (AP X pins σ Q) X.xe s
theorem canA (es : List Expr) : PA X es (rA X es) := ⟨fun pos pins s _ _ _ I h => h pos pins s I⟩
def rSs (sts : List Stmt) : TS := fun D σ H => ∀ (pins : List (Addr × Obj)) (s : Shared), Inv X pins σ H s → wpAny (model X.prog X.w) X.A (execs sts X.env) (SP X pins D) X.xe s
theorem canSs (sts : List Stmt) : PSs X sts (rSs X sts) := ⟨fun pins s _ _ _ I h => h pins s I⟩
def rS (st : Stmt) : TS := fun D σ H => ∀ (pins : List (Addr × Obj)) (s : Shared), Inv X pins σ H s → wpAny (model X.prog X.w) X.A (exec st X.env) (SP X pins D) X.xe s
theorem canS (st : Stmt) : PS X st (rS X st) := ⟨fun pins s _ _ _ I h => h pins s I⟩

/-- e gives r -/
structure Er (e : Expr) (δ : List Hold) (r : Res) : Prop where
  run : ∀ Gb Hb G H σ, Nv X.K Gb Hb G H σ δ → ∀ Q, Post X.K G H r Q → rE X e σ H Q
instance {e : Expr} {δ : List Hold} {r : Res} : CoeFun (Er X e δ r) fun _ => ∀ Gb Hb G H σ, Nv X.K Gb Hb G H σ δ → ∀ Q, Post X.K G H r Q → rE X e σ H Q := ⟨Er.run⟩
abbrev Ee (e : Expr) (δ : List Hold) (d : D) : Prop := Er X e δ (.val d)
/-- e gives d, to be read at once -/
structure Ew (e : Expr) (δ : List Hold) (d : D) : Prop where
  run : ∀ Gb Hb G H σ, Nv X.K Gb Hb G H σ δ → ∀ Q : VK, (∀ v G' H', Gr G H G' H' → Dv X.K H' v d → Q v H') → rE X e σ H Q
instance {e : Expr} {δ : List Hold} {d : D} : CoeFun (Ew X e δ d) fun _ => ∀ Gb Hb G H σ, Nv X.K Gb Hb G H σ δ → ∀ Q : VK, (∀ v G' H', Gr G H G' H' → Dv X.K H' v d → Q v H') → rE X e σ H Q := ⟨Ew.run⟩
structure Et (e : Expr) (δ : List Hold) (b : Bool) : Prop where
  run : ∀ Gb Hb G H σ, Nv X.K Gb Hb G H σ δ → ∀ Q : Bool → Hp → Prop, (∀ G' H', Gr G H G' H' → Q b H') → rT X e σ H Q
instance {e : Expr} {δ : List Hold} {b : Bool} : CoeFun (Et X e δ b) fun _ => ∀ Gb Hb G H σ, Nv X.K Gb Hb G H σ δ → ∀ Q : Bool → Hp → Prop, (∀ G' H', Gr G H G' H' → Q b H') → rT X e σ H Q := ⟨Et.run⟩
structure Etw (e : Expr) (δ : List Hold) (b : Bool) : Prop where
  run : ∀ Gb Hb G H σ, Nv X.K Gb Hb G H σ δ → ∀ Q : Bool → Hp → Prop, (∀ G' H', Gr G H G' H' → Q b H') → rW X e σ H Q
instance {e : Expr} {δ : List Hold} {b : Bool} : CoeFun (Etw X e δ b) fun _ => ∀ Gb Hb G H σ, Nv X.K Gb Hb G H σ δ → ∀ Q : Bool → Hp → Prop, (∀ G' H', Gr G H G' H' → Q b H') → rW X e σ H Q := ⟨Etw.run⟩
structure Ea (es : List Expr) (δ : List Hold) (ds : List D) : Prop where
  run : ∀ Gb Hb G H σ, Nv X.K Gb Hb G H σ δ → ∀ Q : List V → Hp → Prop, (∀ vs G' H', Gr G H G' H' → DvAll X.K G' vs ds → Q vs H') → rA X es σ H Q
instance {es : List Expr} {δ : List Hold} {ds : List D} : CoeFun (Ea X es δ ds) fun _ => ∀ Gb Hb G H σ, Nv X.K Gb Hb G H σ δ → ∀ Q : List V → Hp → Prop, (∀ vs G' H', Gr G H G' H' → DvAll X.K G' vs ds → Q vs H') → rA X es σ H Q := ⟨Ea.run⟩
end

section
variable {X : Cx} {e a b c o : Expr} {es : List Expr} {δ : List Hold} {d da db : D} {ds : List D} {pos : Pos}
theorem e_of {t : TE} (p : PE X e t) {r : Res} (h : ∀ Gb Hb G H σ, Nv X.K Gb Hb G H σ δ → ∀ Q, Post X.K G H r Q → t σ H Q) : Er X e δ r :=
  .mk fun Gb Hb G H σ E Q k pins s I => p.run pins s σ H Q I (h Gb Hb G H σ E Q k)
theorem e_frz (h : Er X e δ (.new ds)) : Ee X e δ (.lst ds) := .mk fun Gb Hb G H σ E Q k => h Gb Hb G H σ E Q (Post.freeze k)
theorem e_wk (h : Ee X e δ d) : Ew X e δ d := .mk fun Gb Hb G H σ E Q k => h Gb Hb G H σ E Q fun v G' H' g q => k v G' H' g (q.mono g.i)
theorem w_of {t : TE} (p : PE X e t) (h : ∀ Gb Hb G H σ, Nv X.K Gb Hb G H σ δ → ∀ Q : VK, (∀ v G' H', Gr G H G' H' → Dv X.K H' v d → Q v H') → t σ H Q) : Ew X e δ d :=
  .mk fun Gb Hb G H σ E Q k pins s I => p.run pins s σ H Q I (h Gb Hb G H σ E Q k)

/-! ### names, constants -/
theorem e_v (i : Nat) {x : Str} (h : δ[i]? = some (.val d) := by rfl) (hN : X.N[i]? = some x := by rfl) (hv : Vis X.env.scope x := by first | exact Or.inl rfl | exact Or.inr (Or.inl rfl) | exact Or.inr (Or.inr rfl))
    (hd : (x == ("__debug__" : Str)) = false := by decide) (hcd : (x == ("__classdict__" : Str)) = false := by decide) : Ee X (.Name x pos) δ d :=
  e_of (pv i hN hv hd hcd) fun Gb Hb G H σ E Q k => by
    obtain ⟨v, h1, h2⟩ := E.vl i d h
    exact ⟨v, h1, k v G H (Gr.refl E.ex) h2⟩
theorem w_v (i : Nat) {x : Str} (h : δ[i]? = some (.own ds) := by rfl) (hN : X.N[i]? = some x := by rfl) (hv : Vis X.env.scope x := by first | exact Or.inl rfl | exact Or.inr (Or.inl rfl) | exact Or.inr (Or.inr rfl))
    (hd : (x == ("__debug__" : Str)) = false := by decide) (hcd : (x == ("__classdict__" : Str)) = false := by decide) : Ew X (.Name x pos) δ (.lst ds) :=
  w_of (pv i hN hv hd hcd) fun Gb Hb G H σ E Q k => by
    obtain ⟨l, xs, h1, h2, h3, h4, h5⟩ := E.ow i ds h
    exact ⟨_, h1, k _ G H (Gr.refl E.ex) (.lst h4 (h5.mono E.ex))⟩
theorem e_int {i j} : Ee X (.Constant (.int i) j pos) δ (.int i) := e_of pe_int fun _ _ _ _ _ E Q k => k _ _ _ (Gr.refl E.ex) (.int i)
theorem e_bl {b j} : Ee X (.Constant (.bool b) j pos) δ (.bl b) := e_of pe_bl fun _ _ _ _ _ E Q k => k _ _ _ (Gr.refl E.ex) (.bl b)
theorem e_non {j} : Ee X (.Constant .none j pos) δ .non := e_of pe_non fun _ _ _ _ _ E Q k => k _ _ _ (Gr.refl E.ex) .non
theorem e_str {x j} : Ee X (.Constant (.str x) j pos) δ (.str x) := e_of pe_str fun _ _ _ _ _ E Q k => k _ _ _ (Gr.refl E.ex) (.str x)
/-- a name of the module whose value stands in the written part -/
theorem e_glob {x : Str} {v : V} {u : Value} (hm : X.mg x = some u) (r : RelV v u) (hd : ∀ G, Dv X.K G v d) (hg : Gl X x := by rfl) (hdb : (x == ("__debug__" : Str)) = false := by decide) : Ee X (.Name x pos) δ d :=
  e_of (pe_glob hg hm r hdb) fun _ _ G _ _ E Q k => k _ _ _ (Gr.refl E.ex) (hd G)

/-! ### two operands -/
theorem e_bin {t : TE} {r : R2} {x : Expr} {res : Res} (p : PE X x (tOp r (rE X a) (rE X b))) (ha : Ew X a δ da) (hb : Ew X b δ db)
    (hr : ∀ v u G H, Dv X.K H v da → Dv X.K H u db → Ex G H → ∀ Q, Post X.K G H res Q → r v u H Q) : Er X x δ res :=
  e_of p fun Gb Hb G H σ E Q k => ha Gb Hb G H σ E _ fun v G1 H1 g1 q1 => hb Gb Hb G1 H1 σ (E.mono g1) _ fun u G2 H2 g2 q2 =>
    hr v u G2 H2 (q1.mono g2.h) q2 g2.i Q (k.mono (g1.trans g2))
theorem e_ii {r : R2} {x : Expr} {i j : Int} {g : Int → Int → V} {dz : Int → Int → D} {C : Int → Int → Prop} (p : PE X x (tOp (rI C g) (rE X a) (rE X b))) (ha : Ew X a δ (.int i)) (hb : Ew X b δ (.int j)) (hc : C i j)
    (hd : ∀ G, Dv X.K G (g i j) (dz i j)) : Ee X x δ (dz i j) :=
  e_bin (t := rE X a) p ha hb fun v u G H q1 q2 ex Q k => by
    cases q1
    cases q2
    exact ⟨i, j, rfl, rfl, hc, k _ _ _ (Gr.refl ex) (hd G)⟩
theorem e_ii0 {x : Expr} {i j : Int} {g : Int → Int → V} {dz : Int → Int → D} (p : PE X x (tOp (rI0 g) (rE X a) (rE X b))) (ha : Ew X a δ (.int i)) (hb : Ew X b δ (.int j))
    (hd : ∀ G, Dv X.K G (g i j) (dz i j)) : Ee X x δ (dz i j) :=
  e_bin (t := rE X a) p ha hb fun v u G H q1 q2 ex Q k => by
    cases q1
    cases q2
    exact ⟨i, j, rfl, rfl, k _ _ _ (Gr.refl ex) (hd G)⟩
variable {i j : Int}
theorem e_add (ha : Ee X a δ (.int i)) (hb : Ee X b δ (.int j)) : Ee X (.BinOp a .Add b pos) δ (.int (i + j)) := e_ii0 (dz := fun i j => .int (i + j)) (pe_op op_add (canE X a) (canE X b)) (e_wk ha) (e_wk hb) fun _ => .int _
theorem e_sub (ha : Ee X a δ (.int i)) (hb : Ee X b δ (.int j)) : Ee X (.BinOp a .Sub b pos) δ (.int (i - j)) := e_ii0 (dz := fun i j => .int (i - j)) (pe_op op_sub (canE X a) (canE X b)) (e_wk ha) (e_wk hb) fun _ => .int _
theorem e_mul (ha : Ee X a δ (.int i)) (hb : Ee X b δ (.int j)) (hc : CMul i j) : Ee X (.BinOp a .Mult b pos) δ (.int (i * j)) := e_ii (r := rI CMul fun i j => .int (i * j)) (dz := fun i j => .int (i * j)) (pe_op op_mul (canE X a) (canE X b)) (e_wk ha) (e_wk hb) hc fun _ => .int _
theorem e_mulW (ha : Ee X a δ (.int i)) (hb : Ee X b δ (.int j)) (hc : CMulW i j) : Ee X (.BinOp a .Mult b pos) δ (.int (i * j)) := e_ii (r := rI CMulW fun i j => .int (i * j)) (dz := fun i j => .int (i * j)) (pe_op op_mulW (canE X a) (canE X b)) (e_wk ha) (e_wk hb) hc fun _ => .int _
theorem e_fdiv (ha : Ee X a δ (.int i)) (hb : Ee X b δ (.int j)) (hc : CDivW i j) : Ee X (.BinOp a .FloorDiv b pos) δ (.int (i / j)) := e_ii (r := rI CDivW fun i j => .int (i / j)) (dz := fun i j => .int (i / j)) (pe_op op_fdivW (canE X a) (canE X b)) (e_wk ha) (e_wk hb) hc fun _ => .int _
theorem e_mod (ha : Ee X a δ (.int i)) (hb : Ee X b δ (.int j)) (hc : 0 < j) : Ee X (.BinOp a .Mod b pos) δ (.int (i % j)) := e_ii (r := rI (fun _ j => 0 < j) fun i j => .int (i % j)) (dz := fun i j => .int (i % j)) (pe_op op_mod (canE X a) (canE X b)) (e_wk ha) (e_wk hb) hc fun _ => .int _
theorem e_pow (ha : Ee X a δ (.int i)) (hb : Ee X b δ (.int j)) (hc : CPow i j) : Ee X (.BinOp a .Pow b pos) δ (.int (i ^ j.toNat)) := e_ii (r := rI CPow fun i j => .int (i ^ j.toNat)) (dz := fun i j => .int (i ^ j.toNat)) (pe_op op_pow (canE X a) (canE X b)) (e_wk ha) (e_wk hb) hc fun _ => .int _
theorem e_neg (ha : Ee X a δ (.int i)) : Ee X (.UnaryOp .USub a pos) δ (.int (-i)) := e_of (pe_un un_neg (canE X a)) fun Gb Hb G H σ E Q k => ha Gb Hb G H σ E _ fun v G1 H1 g1 q1 => by
  cases q1
  exact ⟨i, rfl, k _ _ _ g1 (.int _)⟩

/-! ### comparisons -/
structure Ec (X : Cx) (op : CmpOp) (a b : Expr) (δ : List Hold) (k : Bool) : Prop where
  run : ∀ Gb Hb G H σ, Nv X.K Gb Hb G H σ δ → ∀ Q : VK, (∀ G' H', Gr G H G' H' → Q (.bl k) H') → ∃ t, PC X op a b t ∧ t σ H Q
instance {X : Cx} {op : CmpOp} {a b : Expr} {δ : List Hold} {k : Bool} : CoeFun (Ec X op a b δ k) fun _ => ∀ Gb Hb G H σ, Nv X.K Gb Hb G H σ δ → ∀ Q : VK, (∀ G' H', Gr G H G' H' → Q (.bl k) H') → ∃ t, PC X op a b t ∧ t σ H Q := ⟨Ec.run⟩
theorem pc_of {op : CmpOp} {r : R2} {ta tb : TE} (ho : OpR X (compareOp op) r) (ha : PE X a ta) (hb : PE X b tb) : PC X op a b (tOp r ta tb) :=
  ⟨fun pins s σ H Q I h => binT ha hb I h fun v u s2 x y H2 I2 rx ry q => ho pins s2 σ H2 x y v u Q I2 rx ry q⟩
theorem e_cmp {op : CmpOp} {k : Bool} (h : Ec X op a b δ k) (h1 : behindInMarks op b = false := by first | exact nobehind _ (by decide) (by decide) | rfl) : Ee X (.Compare a [op] [b] pos) δ (.bl k) := .mk fun Gb Hb G H σ E Q q pins s I => by
  obtain ⟨t, p, ht⟩ := h Gb Hb G H σ E Q fun G' H' g => q _ _ _ g (.bl k)
  exact (pe_cmp p h1).run pins s σ H Q I ht
theorem t_cmp {op : CmpOp} {k : Bool} (h : Ec X op a b δ k) (h1 : behindInMarks op b = false := by first | exact nobehind _ (by decide) (by decide) | rfl) : Et X (.Compare a [op] [b] pos) δ k := .mk fun Gb Hb G H σ E Q q pins s I => by
  obtain ⟨t, p, ht⟩ := h Gb Hb G H σ E (fun x H1 => ∃ c, x = .bl c ∧ Q c H1) fun G' H' g => ⟨k, rfl, q _ _ g⟩
  exact (pt_cmp p h1).run pins s σ H Q I ht
theorem c_bin {op : CmpOp} {r : R2} {k : Bool} (ho : OpR X (compareOp op) r) (ha : Ew X a δ da) (hb : Ew X b δ db)
    (hr : ∀ v u (_ H : Hp), Dv X.K H v da → Dv X.K H u db → ∀ Q : VK, Q (.bl k) H → r v u H Q) : Ec X op a b δ k := .mk fun Gb Hb G H σ E Q q =>
  ⟨_, pc_of ho (canE X a) (canE X b), ha Gb Hb G H σ E _ fun v G1 H1 g1 q1 => hb Gb Hb G1 H1 σ (E.mono g1) _ fun u G2 H2 g2 q2 => hr v u G2 H2 (q1.mono g2.h) q2 Q (q _ _ (g1.trans g2))⟩
theorem c_ii {op : CmpOp} {p : Int → Int → Bool} (ho : OpR X (compareOp op) (rI0 fun i j => .bl (p i j))) (ha : Ee X a δ (.int i)) (hb : Ee X b δ (.int j)) : Ec X op a b δ (p i j) :=
  c_bin ho (e_wk ha) (e_wk hb) fun v u G H q1 q2 Q k => by
    cases q1
    cases q2
    exact ⟨i, j, rfl, rfl, k⟩
theorem c_lt (ha : Ee X a δ (.int i)) (hb : Ee X b δ (.int j)) : Ec X .Lt a b δ (decide (i < j)) := c_ii (p := fun i j => decide (i < j)) op_lt ha hb
theorem c_le (ha : Ee X a δ (.int i)) (hb : Ee X b δ (.int j)) : Ec X .LtE a b δ (decide (i ≤ j)) := c_ii (p := fun i j => decide (i ≤ j)) op_le ha hb
theorem c_gt (ha : Ee X a δ (.int i)) (hb : Ee X b δ (.int j)) : Ec X .Gt a b δ (decide (j < i)) := c_ii (p := fun i j => decide (j < i)) op_gt ha hb
theorem c_ge (ha : Ee X a δ (.int i)) (hb : Ee X b δ (.int j)) : Ec X .GtE a b δ (decide (j ≤ i)) := c_ii (p := fun i j => decide (j ≤ i)) op_ge ha hb
/-- a op b op' c -/
theorem e_chain {op op' : CmpOp} {c : Expr} {l : Int} {p p' : Int → Int → Bool} (ho : OpR X (compareOp op) (rI0 fun i j => .bl (p i j))) (ho' : OpR X (compareOp op') (rI0 fun i j => .bl (p' i j)))
    (ha : Ee X a δ (.int i)) (hb : Ee X b δ (.int j)) (hc : Ee X c δ (.int l)) (hm : lastMarks [op, op'] [b, c] = false := by with_unfolding_all rfl) : Ee X (.Compare a [op, op'] [b, c] pos) δ (.bl (p i j && p' j l)) :=
  e_of (pe_chain ho ho' (canE X a) (canE X b) (canE X c) hm) fun Gb Hb G H σ E Q k => ha Gb Hb G H σ E _ fun v G1 H1 g1 q1 => hb Gb Hb G1 H1 σ (E.mono g1) _ fun u G2 H2 g2 q2 => by
    cases q1
    cases q2
    refine ⟨i, j, rfl, rfl, _, rfl, ?_⟩
    cases hp : p i j with
    | true => exact iteT (hc Gb Hb G2 H2 σ ((E.mono g1).mono g2) _ fun w' G3 H3 g3 q3 => by
        cases q3
        refine ⟨j, l, rfl, rfl, ?_⟩
        have := k (.bl (p i j && p' j l)) _ _ ((g1.trans g2).trans g3) (.bl _)
        rw [hp] at this
        exact this)
    | false =>
      have := k (.bl (p i j && p' j l)) _ _ (g1.trans g2) (.bl _)
      rw [hp] at this
      exact iteF this
theorem t_chain {op op' : CmpOp} {c : Expr} {l : Int} {p p' : Int → Int → Bool} (ho : OpR X (compareOp op) (rI0 fun i j => .bl (p i j))) (ho' : OpR X (compareOp op') (rI0 fun i j => .bl (p' i j)))
    (ha : Ee X a δ (.int i)) (hb : Ee X b δ (.int j)) (hc : Ee X c δ (.int l)) (hm : lastMarks [op, op'] [b, c] = false := by with_unfolding_all rfl) : Et X (.Compare a [op, op'] [b, c] pos) δ (p i j && p' j l) := .mk fun Gb Hb G H σ E Q k pins s I => by
  refine (pt_chain ho ho' (canE X a) (canE X b) (canE X c) hm).run pins s σ H Q I ?_
  refine ha Gb Hb G H σ E _ fun v G1 H1 g1 q1 => hb Gb Hb G1 H1 σ (E.mono g1) _ fun u G2 H2 g2 q2 => ?_
  cases q1
  cases q2
  refine ⟨i, j, rfl, rfl, _, rfl, ?_⟩
  cases hp : p i j with
  | true => exact iteT (hc Gb Hb G2 H2 σ ((E.mono g1).mono g2) _ fun w' G3 H3 g3 q3 => by
      cases q3
      refine ⟨j, l, rfl, rfl, _, rfl, ?_⟩
      have := k _ _ ((g1.trans g2).trans g3)
      rw [hp] at this
      exact this)
  | false =>
    have := k _ _ (g1.trans g2)
    rw [hp] at this
    exact iteF ⟨_, rfl, this⟩
end
end DL

/-! DL2: the rest of the expressions. -/
namespace DL
open PySem L2 PySem.Spec PyProof.Rows
open Evl (Ex)

section
variable {X : Cx} {e a b c o : Expr} {es : List Expr} {δ : List Hold} {d da db dc : D} {ds : List D} {pos : Pos} {i j : Int}

/-! ### equality -/
abbrev eqD (d e : D) : Bool := PyData.eqv d.py e.py
abbrev okD (d : D) : Prop := d.flat = true ∧ SeqAt.shaped d.py = true
theorem c_eqW (hu : X.A.units + 64 < cLine) (ha : Ew X a δ da) (hb : Ew X b δ db) (oa : okD da) (ob : okD db) : Ec X .Eq a b δ (eqD da db) :=
  c_bin (op_eqD hu) ha hb fun v u G H q1 q2 Q k => ⟨da.py, db.py, q1.dp oa.1, q2.dp ob.1, oa.2, ob.2, k⟩
theorem c_neW (hu : X.A.units + 64 < cLine) (ha : Ew X a δ da) (hb : Ew X b δ db) (oa : okD da) (ob : okD db) : Ec X .NotEq a b δ (!eqD da db) :=
  c_bin (op_neD hu) ha hb fun v u G H q1 q2 Q k => ⟨da.py, db.py, q1.dp oa.1, q2.dp ob.1, oa.2, ob.2, k⟩
/-- ints, bools, texts -/
theorem dec_congr {α β : Type} [DecidableEq α] [DecidableEq β] {f : α → β} (hf : ∀ x y, f x = f y → x = y) {x y : α} : decide (f x = f y) = decide (x = y) := by
  by_cases h : x = y
  · subst h; simp
  · rw [decide_eq_false h, decide_eq_false fun z => h (hf _ _ z)]
theorem c_eqI (ha : Ee X a δ (.int i)) (hb : Ee X b δ (.int j)) : Ec X .Eq a b δ (decide (i = j)) :=
  c_bin op_eq (e_wk ha) (e_wk hb) fun v u G H q1 q2 Q k => by
    cases q1
    cases q2
    refine ⟨rfl, ?_⟩
    rw [dec_congr (f := V.int) (fun _ _ z => by injection z)]
    exact k
theorem c_neI (ha : Ee X a δ (.int i)) (hb : Ee X b δ (.int j)) : Ec X .NotEq a b δ (!decide (i = j)) :=
  c_bin op_ne (e_wk ha) (e_wk hb) fun v u G H q1 q2 Q k => by
    cases q1
    cases q2
    refine ⟨rfl, ?_⟩
    rw [dec_congr (f := V.int) (fun _ _ z => by injection z)]
    exact k
theorem c_eqS {x y : Str} (ha : Ee X a δ (.str x)) (hb : Ee X b δ (.str y)) : Ec X .Eq a b δ (decide (x = y)) :=
  c_bin op_eq (e_wk ha) (e_wk hb) fun v u G H q1 q2 Q k => by
    cases q1
    cases q2
    refine ⟨rfl, ?_⟩
    rw [dec_congr (f := V.str) (fun _ _ z => by injection z)]
    exact k
theorem c_eqB {x y : Bool} (ha : Ee X a δ (.bl x)) (hb : Ee X b δ (.bl y)) : Ec X .Eq a b δ (decide (x = y)) :=
  c_bin op_eq (e_wk ha) (e_wk hb) fun v u G H q1 q2 Q k => by
    cases q1
    cases q2
    refine ⟨rfl, ?_⟩
    rw [dec_congr (f := V.bl) (fun _ _ z => by injection z)]
    exact k
theorem c_neB {x y : Bool} (ha : Ee X a δ (.bl x)) (hb : Ee X b δ (.bl y)) : Ec X .NotEq a b δ (!decide (x = y)) :=
  c_bin op_ne (e_wk ha) (e_wk hb) fun v u G H q1 q2 Q k => by
    cases q1
    cases q2
    refine ⟨rfl, ?_⟩
    rw [dec_congr (f := V.bl) (fun _ _ z => by injection z)]
    exact k
/-- is None, is not None -/
def D.isNon : D → Bool | .non => true | _ => false
theorem Dv.isNon {K : PySem.W.Frag} {G : Hp} {v : V} {d : D} (h : Dv K G v d) : decide (v = .non) = d.isNon := by
  cases h <;> rfl
theorem c_isN {k0 p0} (ha : Ew X a δ da) : Ec X .Is a (.Constant .none k0 p0) δ da.isNon := .mk fun Gb Hb G H σ E Q k => ⟨_, pc_isN (canE X a), ha Gb Hb G H σ E _ fun v G1 H1 g1 q1 => by
    rw [q1.isNon]
    exact k _ _ g1⟩
theorem c_notN {k0 p0} (ha : Ew X a δ da) : Ec X .IsNot a (.Constant .none k0 p0) δ (!da.isNon) := .mk fun Gb Hb G H σ E Q k => ⟨_, pc_notN (canE X a), ha Gb Hb G H σ E _ fun v G1 H1 g1 q1 => by
    rw [q1.isNon]
    exact k _ _ g1⟩
theorem c_isB {x y : Bool} (ha : Ee X a δ (.bl x)) (hb : Ee X b δ (.bl y)) : Ec X .Is a b δ (decide (x = y)) :=
  c_bin op_is_bl (e_wk ha) (e_wk hb) fun v u G H q1 q2 Q k => by
    cases q1
    cases q2
    exact ⟨x, y, rfl, rfl, k⟩
theorem c_isnotB {x y : Bool} (ha : Ee X a δ (.bl x)) (hb : Ee X b δ (.bl y)) : Ec X .IsNot a b δ (!decide (x = y)) :=
  c_bin op_isnot_bl (e_wk ha) (e_wk hb) fun v u G H q1 q2 Q k => by
    cases q1
    cases q2
    exact ⟨x, y, rfl, rfl, k⟩
/-- tuples of ints: < -/
theorem c_ltT {ns ms : List Int} (hu : X.A.units < cLine) (ha : Ee X a δ (.tup (ns.map D.int))) (hb : Ee X b δ (.tup (ms.map D.int))) : Ec X .Lt a b δ (HT.lexLt ns ms) :=
  c_bin (op_ltT hu) (e_wk ha) (e_wk hb) fun v u G H q1 q2 Q k => by
    cases q1 with
    | tup h1 r1 =>
      cases q2 with
      | tup h2 r2 =>
        have e1 := DvAll.ints_inv r1
        have e2 := DvAll.ints_inv r2
        subst e1 e2
        exact ⟨_, _, ns, ms, rfl, rfl, SqT.of h1, SqT.of h2, k⟩
/-- x in xs, x not in xs: data in a list -/
theorem c_inL (hu : X.A.units + 65 < cLine) (ha : Ew X a δ da) (hb : Ew X b δ (.lst ds)) (oa : okD da) (ob : okD (.lst ds)) : Ec X .In a b δ ((D.pys ds).any fun z => PyData.eqv z da.py) :=
  c_bin (op_inD hu) ha hb fun v u G H q1 q2 Q k => ⟨da.py, D.pys ds, q1.dp oa.1, q2.dp ob.1, oa.2, ob.2, k⟩
theorem c_notinL (hu : X.A.units + 65 < cLine) (ha : Ew X a δ da) (hb : Ew X b δ (.lst ds)) (oa : okD da) (ob : okD (.lst ds)) : Ec X .NotIn a b δ (!((D.pys ds).any fun z => PyData.eqv z da.py)) :=
  c_bin (op_notInD hu) ha hb fun v u G H q1 q2 Q k => ⟨da.py, D.pys ds, q1.dp oa.1, q2.dp ob.1, oa.2, ob.2, k⟩
/-- a cell in a dict of cells -/
theorem valV_kvT {cs : List (Int × Int)} {x y : Int} : (valV (cs.map kvT) [Sum.inl x, Sum.inl y]).isSome = decide ((x, y) ∈ cs) := by
  unfold valV
  induction cs with
  | nil => rfl
  | cons c cs ih =>
    rw [List.map_cons, List.find?_cons]
    by_cases h : c = (x, y)
    · subst h
      have e : decide ((kvT (x, y)).1 = [Sum.inl x, Sum.inl y]) = true := decide_eq_true rfl
      rw [e]
      simp
    · have e : decide ((kvT c).1 = [Sum.inl x, Sum.inl y]) = false := decide_eq_false (fun z => h (by
        have z' : ([Sum.inl c.1, Sum.inl c.2] : List Key) = [Sum.inl x, Sum.inl y] := z
        injection z' with z1 z2
        injection z1 with z1
        injection z2 with z2
        injection z2 with z2
        exact Prod.ext z1 z2))
      rw [e]
      have e2 : decide ((x, y) ∈ c :: cs) = decide ((x, y) ∈ cs) := by
        have : ((x, y) ∈ c :: cs) ↔ ((x, y) ∈ cs) := by
          rw [List.mem_cons]
          exact ⟨fun z => z.elim (fun q => absurd q.symm h) id, .inr⟩
        simp only [this]
      rw [e2]
      exact ih
theorem dget_cell {K : PySem.W.Frag} {H : Hp} {v u : V} {x y : Int} {cs : List (Int × Int)} (h1 : Dv K H v (cell x y)) (h2 : Dv K H u (.dct cs)) :
    ∃ p, u = .ref p ∧ DGet H p v (valV (cs.map kvT) [Sum.inl x, Sum.inl y]) := by
  cases h2 with
  | dct h2 =>
    cases h1 with
    | tup h1 r =>
      cases r with
      | cons r1 r =>
        cases r with
        | cons r2 r =>
          cases r
          cases r1
          cases r2
          exact ⟨_, rfl, DGet.t (k := [Sum.inl x, Sum.inl y]) h2 h1⟩
theorem c_inD {x y : Int} {cs : List (Int × Int)} (hu : X.A.units + 1 < cLine) (ha : Ee X a δ (cell x y)) (hb : Ee X b δ (.dct cs)) : Ec X .In a b δ (decide ((x, y) ∈ cs)) := .mk fun Gb Hb G H σ E Q k =>
  ⟨_, pc_din hu (canE X a) (canE X b), ha Gb Hb G H σ E _ fun v G1 H1 g1 q1 => hb Gb Hb G1 H1 σ (E.mono g1) _ fun u G2 H2 g2 q2 => by
    obtain ⟨p, e1, g⟩ := dget_cell ((q1.mono g2.g).mono g2.i) (q2.mono g2.i)
    refine ⟨p, _, e1, g, ?_⟩
    rw [valV_kvT]
    exact k _ _ (g1.trans g2)⟩
theorem c_notinD {x y : Int} {cs : List (Int × Int)} (hu : X.A.units + 1 < cLine) (ha : Ee X a δ (cell x y)) (hb : Ee X b δ (.dct cs)) : Ec X .NotIn a b δ (!decide ((x, y) ∈ cs)) := .mk fun Gb Hb G H σ E Q k =>
  ⟨_, pc_dnotin hu (canE X a) (canE X b), ha Gb Hb G H σ E _ fun v G1 H1 g1 q1 => hb Gb Hb G1 H1 σ (E.mono g1) _ fun u G2 H2 g2 q2 => by
    obtain ⟨p, e1, g⟩ := dget_cell ((q1.mono g2.g).mono g2.i) (q2.mono g2.i)
    refine ⟨p, _, e1, g, ?_⟩
    rw [valV_kvT]
    exact k _ _ (g1.trans g2)⟩

/-! ### subscripts -/
def D.items : D → Option (List D)
  | .lst ds => some ds
  | .tup ds => some ds
  | .ktup ds => some ds
  | .scr ns => some (ns.map D.int)
  | _ => none
theorem atI_map {α β : Type} (f : α → β) {xs : List α} {i : Int} : atI (xs.map f) i = (atI xs i).map f := by
  unfold atI
  rw [List.length_map]
  cases ixN xs.length i with
  | none => rfl
  | some j => show (xs.map f)[j]? = _; rw [List.getElem?_map]; rfl
theorem DvAll.at {K : PySem.W.Frag} {G : Hp} {vs : List V} {ds : List D} {i : Int} {d : D} (h : DvAll K G vs ds) (e : atI ds i = some d) : ∃ v, atI vs i = some v ∧ Dv K G v d := by
  unfold atI at e ⊢
  rw [h.length]
  cases hn : ixN ds.length i with
  | none => rw [hn] at e; cases e
  | some j =>
    rw [hn] at e
    exact h.get (show ds[j]? = some d from e)
/-- what is to be read in a sequence -/
theorem Dv.seq {K : PySem.W.Frag} {G H : Hp} {v : V} {d : D} {ds : List D} (h : Dv K G v d) (ex : Ex G H) (e : d.items = some ds) : ∃ a vs, v = .ref a ∧ (SqL K H a vs ∨ SqT K H a vs) ∧ DvAll K G vs ds := by
  cases h with
  | lst h r => cases e; exact ⟨_, _, rfl, .inl (SqL.of (ex _ _ h)), r⟩
  | tup h r => cases e; exact ⟨_, _, rfl, .inr (SqT.of (ex _ _ h)), r⟩
  | ktup h r => cases e; exact ⟨_, _, rfl, .inr (h _), r⟩
  | scr h => cases e; exact ⟨_, _, rfl, .inl (Evl.ex_l ex h), DvAll.ints _⟩
  | _ => cases e
theorem e_ix (ha : Ee X a δ da) (hb : Ee X b δ (.int i)) (hi : da.items.bind (atI · i) = some d) (hs : PlainIx b := by intro _ _; rfl) : Ee X (.Subscript a b pos) δ d := by
  cases hd : da.items with
  | none => rw [hd] at hi; cases hi
  | some ds =>
    rw [hd] at hi
    have hi : atI ds i = some d := hi
    refine e_of (pe_ix ix_seq (canE X a) (canE X b) hs) fun Gb Hb G H σ E Q k => ha Gb Hb G H σ E _ fun v G1 H1 g1 q1 => hb Gb Hb G1 H1 σ (E.mono g1) _ fun u G2 H2 g2 q2 => ?_
    cases q2
    obtain ⟨p, vs, rfl, hsq, r⟩ := (q1.mono g2.g).seq g2.i hd
    obtain ⟨x, hx, rx⟩ := r.at hi
    rcases hsq with hsq | hsq
    · exact .inl ⟨p, vs, i, x, rfl, rfl, hsq, hx, k _ _ _ (g1.trans g2) rx⟩
    · exact .inr (.inl ⟨p, vs, i, x, rfl, rfl, hsq, hx, k _ _ _ (g1.trans g2) rx⟩)
/-- an item of a list that only this name holds -/
theorem e_ixO (n : Nat) {x : Str} {p : Pos} (hb : Ee X b δ (.int i)) (h : δ[n]? = some (.own ds) := by rfl) (hi : atI ds i = some d) (hs : PlainIx b := by intro _ _; rfl)
    (hN : X.N[n]? = some x := by rfl) (hv : Vis X.env.scope x := by first | exact Or.inl rfl | exact Or.inr (Or.inl rfl) | exact Or.inr (Or.inr rfl))
    (hd : (x == ("__debug__" : Str)) = false := by decide) (hcd : (x == ("__classdict__" : Str)) = false := by decide) : Ee X (.Subscript (.Name x p) b pos) δ d := by
  refine e_of (pe_ix ix_seq (pv n hN hv hd hcd) (canE X b) hs) fun Gb Hb G H σ E Q k => ?_
  obtain ⟨l, xs, h1, h2, h3, h4, h5⟩ := E.ow n ds h
  refine ⟨_, h1, hb Gb Hb G H σ E _ fun u G2 H2 g2 q2 => ?_⟩
  cases q2
  obtain ⟨y, hy, ry⟩ := h5.at hi
  exact .inl ⟨l, xs, i, y, rfl, rfl, SqL.of (g2.h _ _ h4), hy, k _ _ _ g2 (ry.mono g2.g)⟩

/-! ### displays -/
theorem a_nil : Ea X [] δ [] := .mk fun Gb Hb G H σ E Q k pos pins s I => (pa_nil (X := X)).run pos pins s σ H Q I (k [] G H (Gr.refl E.ex) .nil)
theorem a_cons (ha : Ee X e δ d) (hr : Ea X es δ ds) (hs : starEach (e :: es) X.env = (false, eval e X.env) :: starEach es X.env := by rfl) : Ea X (e :: es) δ (d :: ds) := .mk fun Gb Hb G H σ E Q k pos pins s I =>
  (pa_cons (canE X e) (canA X es) hs).run pos pins s σ H Q I (ha Gb Hb G H σ E _ fun v G1 H1 g1 q1 => hr Gb Hb G1 H1 σ (E.mono g1) _ fun vs G2 H2 g2 q2 => k _ _ _ (g1.trans g2) (.cons (q1.mono g2.g) q2))
theorem sz_ble {n : Nat} (h : Nat.ble n 1000 = true) : n ≤ sizeLine := Nat.le_trans (Nat.le_of_ble_eq_true h) (by decide)
theorem Gr.newO {G H : Hp} {p : Addr} {o : HO} (e : Ex G H) (n : H p = none) : Gr G H (upd G p o) (upd H p o) := Gr.new e n
theorem e_tup {x1} (h : Ea X es δ ds) (hl : Nat.ble ds.length 1000 = true := by rfl) : Ee X (.Tuple es x1 pos) δ (.tup ds) :=
  e_of (pe_tup (canA X es)) fun Gb Hb G H σ E Q k => h Gb Hb G H σ E _ fun vs G1 H1 g1 q1 => ⟨by rw [q1.length]; exact sz_ble hl, fun p np => by
    have g2 := Gr.new (o := .tup vs) g1.i np
    exact k _ _ _ (g1.trans g2) (.tup upd_same (q1.mono g2.g))⟩
theorem e_lst (h : Ea X es δ ds) (hl : Nat.ble ds.length 1000 = true := by rfl) : Er X (.List es pos) δ (.new ds) :=
  e_of (pe_lst (canA X es)) fun Gb Hb G H σ E Q k => h Gb Hb G H σ E _ fun vs G1 H1 g1 q1 => ⟨by rw [q1.length]; exact sz_ble hl, fun p np => by
    have g2 := Gr.own (o := .lst vs) g1.i np
    exact k p vs G1 _ (g1.trans g2) (Evl.fresh_back g1.h np) (Evl.fresh_back g1.i np) upd_same q1⟩
theorem e_lstV (h : Ea X es δ ds) (hl : Nat.ble ds.length 1000 = true := by rfl) : Ee X (.List es pos) δ (.lst ds) := e_frz (e_lst h hl)
/-- a new list, as a rule of the layer lays it -/
theorem post_new {K : PySem.W.Frag} {G H : Hp} {ds : List D} {Q : VK} (k : Post K G H (.new ds) Q) (ex : Ex G H) {vs : List V} (r : DvAll K G vs ds) : ∀ p, H p = none → Q (.ref p) (upd H p (.lst vs)) := fun p np =>
  k p vs G _ (Gr.own ex np) np (Evl.fresh_back ex np) upd_same r
theorem post_tup {K : PySem.W.Frag} {G H : Hp} {ds : List D} {Q : VK} (k : Post K G H (.val (.tup ds)) Q) (ex : Ex G H) {vs : List V} (r : DvAll K G vs ds) : ∀ p, H p = none → Q (.ref p) (upd H p (.tup vs)) := fun p np =>
  k _ _ _ (Gr.new ex np) (.tup upd_same (r.mono (Gr.new (o := .tup vs) ex np).g))

/-! ### slices (of the script, of lists) -/
def rO (X : Cx) (e : Option Expr) : TO := fun σ H Q => ∀ (pins : List (Addr × Obj)) (s : Shared), Inv X pins σ H s → wpAny (model X.prog X.w) X.A (evalPart e X.env) (fun u s' => ∃ o H', Inv X pins σ H' s' ∧ IsPart u o ∧ Q o H') X.xe s
theorem canO (X : Cx) (e : Option Expr) : PO X e (rO X e) := ⟨fun pins s _ _ _ I h => h pins s I⟩
structure Eo (X : Cx) (e : Option Expr) (δ : List Hold) (o : Option Int) : Prop where
  run : ∀ Gb Hb G H σ, Nv X.K Gb Hb G H σ δ → ∀ Q : Option Int → Hp → Prop, (∀ G' H', Gr G H G' H' → Q o H') → rO X e σ H Q
instance {X : Cx} {e : Option Expr} {δ : List Hold} {o : Option Int} : CoeFun (Eo X e δ o) fun _ => ∀ Gb Hb G H σ, Nv X.K Gb Hb G H σ δ → ∀ Q : Option Int → Hp → Prop, (∀ G' H', Gr G H G' H' → Q o H') → rO X e σ H Q := ⟨Eo.run⟩
theorem o_none : Eo X none δ none := .mk fun Gb Hb G H σ E Q k pins s I => po_none.run pins s σ H Q I (k _ _ (Gr.refl E.ex))
theorem o_some (h : Ee X e δ (.int i)) : Eo X (some e) δ (some i) := .mk fun Gb Hb G H σ E Q k pins s I => (po_some (canE X e)).run pins s σ H Q I (h Gb Hb G H σ E _ fun v G1 H1 g1 q1 => by
  cases q1
  exact ⟨i, rfl, k _ _ g1⟩)
theorem cutV_map {α : Type} (f : α → V) (xs : List α) (lo hi : Option Int) : cutV (xs.map f) lo hi = ((xs.drop (HT.sIx xs.length 0 lo)).take (HT.sIx xs.length xs.length hi - HT.sIx xs.length 0 lo)).map f := by
  unfold cutV
  rw [List.length_map, List.map_take, List.map_drop]
def cutL {α : Type} (xs : List α) (lo hi : Option Int) : List α := (xs.drop (HT.sIx xs.length 0 lo)).take (HT.sIx xs.length xs.length hi - HT.sIx xs.length 0 lo)
theorem DvAll.cut {K : PySem.W.Frag} {G : Hp} {vs : List V} {ds : List D} (h : DvAll K G vs ds) (lo hi : Option Int) : DvAll K G (cutV vs lo hi) (cutL ds lo hi) := by
  unfold cutV cutL
  rw [h.length]
  exact (h.drop _).take _
def D.litems : D → Option (List D)
  | .lst ds => some ds
  | .scr ns => some (ns.map D.int)
  | _ => none
theorem Dv.lsq {K : PySem.W.Frag} {G H : Hp} {v : V} {d : D} {ds : List D} (h : Dv K G v d) (ex : Ex G H) (e : d.litems = some ds) : ∃ a vs, v = .ref a ∧ SqL K H a vs ∧ DvAll K G vs ds := by
  cases h with
  | lst h r => cases e; exact ⟨_, _, rfl, SqL.of (ex _ _ h), r⟩
  | scr h => cases e; exact ⟨_, _, rfl, Evl.ex_l ex h, DvAll.ints _⟩
  | _ => cases e
theorem e_slice {lo hi : Option Expr} {p2 : Pos} {ol oh : Option Int} (ha : Ee X a δ da) (hl : Eo X lo δ ol) (hh : Eo X hi δ oh) (hda : da.litems = some ds := by rfl) :
    Er X (.Subscript a (.Slice lo hi none p2) pos) δ (.new (cutL ds ol oh)) :=
  e_of (pe_slice sl_list (canE X a) (canO X lo) (canO X hi)) fun Gb Hb G H σ E Q k => ha Gb Hb G H σ E _ fun v G1 H1 g1 q1 => hl Gb Hb G1 H1 σ (E.mono g1) _ fun G2 H2 g2 => hh Gb Hb G2 H2 σ ((E.mono g1).mono g2) _ fun G3 H3 g3 => by
    obtain ⟨p, vs, rfl, hsq, r⟩ := ((q1.mono g2.g).mono g3.g).lsq g3.i hda
    exact ⟨p, vs, rfl, hsq, post_new (k.mono ((g1.trans g2).trans g3)) g3.i (r.cut ol oh)⟩
end
end DL

/-! DL3: built-ins called, tests, statements. -/
namespace DL
open PySem L2 PySem.Spec PyProof.Rows
open Evl (Ex)

section
variable {X : Cx} {e a b c o : Expr} {es : List Expr} {δ : List Hold} {d da db dc : D} {ds : List D} {pos p : Pos} {i j : Int}

/-! ### weak arguments -/
structure Eaw (X : Cx) (es : List Expr) (δ : List Hold) (ds : List D) : Prop where
  run : ∀ Gb Hb G H σ, Nv X.K Gb Hb G H σ δ → ∀ Q : List V → Hp → Prop, (∀ vs G' H', Gr G H G' H' → DvAll X.K H' vs ds → Q vs H') → rA X es σ H Q
instance {X : Cx} {es : List Expr} {δ : List Hold} {ds : List D} : CoeFun (Eaw X es δ ds) fun _ => ∀ Gb Hb G H σ, Nv X.K Gb Hb G H σ δ → ∀ Q : List V → Hp → Prop, (∀ vs G' H', Gr G H G' H' → DvAll X.K H' vs ds → Q vs H') → rA X es σ H Q := ⟨Eaw.run⟩
theorem aw_of (h : Ea X es δ ds) : Eaw X es δ ds := .mk fun Gb Hb G H σ E Q k => h Gb Hb G H σ E Q fun vs G' H' g r => k vs G' H' g (r.mono g.i)
theorem aw_cons (ha : Ew X e δ d) (hr : Eaw X es δ ds) (hs : starEach (e :: es) X.env = (false, eval e X.env) :: starEach es X.env := by rfl) : Eaw X (e :: es) δ (d :: ds) := .mk fun Gb Hb G H σ E Q k pos pins s I =>
  (pa_cons (canE X e) (canA X es) hs).run pos pins s σ H Q I (ha Gb Hb G H σ E _ fun v G1 H1 g1 q1 => hr Gb Hb G1 H1 σ (E.mono g1) _ fun vs G2 H2 g2 q2 => k _ _ _ (g1.trans g2) (.cons (q1.mono g2.h) q2))
theorem aw_nil : Eaw X [] δ [] := aw_of a_nil

/-! ### f(e, ..), f a built-in -/
theorem e_cb {id : String} {x : Str} {r : List V → Hp → VK → Prop} {res : Res} (hc : CallR X (.builtin id) r) (hm : X.mg x = none) (ha : Eaw X (e :: es) δ ds) (hr : ∀ vs G H, Ex G H → DvAll X.K H vs ds → ∀ Q, Post X.K G H res Q → r vs H Q) (hv : bootBuiltins x = some (.builtin id) := by decide +kernel)
    (hg : Gl X x := by rfl) (hn : x ≠ "__name__" := by decide) (hdb : (x == ("__debug__" : Str)) = false := by decide)
    (he : starEach (e :: es) X.env = (false, eval e X.env) :: starEach es X.env := by rfl) (hpl : ((backTo pos (starEach es X.env)).any fun a => a.1) = false := by rfl) : Er X (.Call (.Name x p) (e :: es) [] pos) δ res :=
  e_of (pe_callB hc hg hm hv (canA X (e :: es)) hn hdb he hpl) fun Gb Hb G H σ E Q k => ha Gb Hb G H σ E _ fun vs G1 H1 g1 q1 => hr vs G1 H1 g1.i q1 Q (k.mono g1)
theorem e_cbs {id : String} {x : Str} {r : List V → Hp → VK → Prop} {res : Res} (hc : CallR X (.builtin id) r) (hm : X.mg x = none) (ha : Ea X (e :: es) δ ds) (hr : ∀ vs G H, Ex G H → DvAll X.K G vs ds → ∀ Q, Post X.K G H res Q → r vs H Q) (hv : bootBuiltins x = some (.builtin id) := by decide +kernel)
    (hg : Gl X x := by rfl) (hn : x ≠ "__name__" := by decide) (hdb : (x == ("__debug__" : Str)) = false := by decide)
    (he : starEach (e :: es) X.env = (false, eval e X.env) :: starEach es X.env := by rfl) (hpl : ((backTo pos (starEach es X.env)).any fun a => a.1) = false := by rfl) : Er X (.Call (.Name x p) (e :: es) [] pos) δ res :=
  e_of (pe_callB hc hg hm hv (canA X (e :: es)) hn hdb he hpl) fun Gb Hb G H σ E Q k => ha Gb Hb G H σ E _ fun vs G1 H1 g1 q1 => hr vs G1 H1 g1.i q1 Q (k.mono g1)
theorem e_cty {T : String} {x : Str} {r : List V → Hp → VK → Prop} {res : Res} (hc : CallR X (.type T) r) (hm : X.mg x = none) (ha : Ea X (e :: es) δ ds) (hr : ∀ vs G H, Ex G H → DvAll X.K G vs ds → ∀ Q, Post X.K G H res Q → r vs H Q) (hv : bootBuiltins x = some (.type T) := by decide +kernel)
    (hg : Gl X x := by rfl) (hn : x ≠ "__name__" := by decide) (hdb : (x == ("__debug__" : Str)) = false := by decide)
    (he : starEach (e :: es) X.env = (false, eval e X.env) :: starEach es X.env := by rfl) (hpl : ((backTo pos (starEach es X.env)).any fun a => a.1) = false := by rfl) : Er X (.Call (.Name x p) (e :: es) [] pos) δ res :=
  e_of (pe_callTy hc hg hm hv (canA X (e :: es)) hn hdb he hpl) fun Gb Hb G H σ E Q k => ha Gb Hb G H σ E _ fun vs G1 H1 g1 q1 => hr vs G1 H1 g1.i q1 Q (k.mono g1)

def absI (i : Int) : Int := if i < 0 then -i else i
theorem e_abs (hm : X.mg "abs" = none) (ha : Ea X [a] δ [.int i]) (hg : Gl X "abs" := by rfl) (he : starEach [a] X.env = [(false, eval a X.env)] := by rfl) : Ee X (.Call (.Name "abs" p) [a] [] pos) δ (.int (absI i)) :=
  e_cbs call_abs hm ha (fun vs G H ex r Q k => by
    cases r with
    | cons r1 r => cases r; cases r1; exact ⟨i, rfl, k _ _ _ (Gr.refl ex) (.int _)⟩) (hg := hg) (he := he)
def max2 (i j : Int) : Int := if i < j then j else i
def max3 (i j l : Int) : Int := max2 (max2 i j) l
theorem nu_max2 (i j : Int) : nuMax2 (.int i) (.int j) = some (.int (max2 i j)) := by
  show (some (decide (i < j))).map (fun c => if c = true then V.int j else V.int i) = some (V.int (if i < j then j else i))
  by_cases h : i < j
  · rw [decide_eq_true h, if_pos h]; rfl
  · rw [decide_eq_false h, if_neg h]; rfl
theorem e_max3 {l : Int} (hm : X.mg "max" = none) (hc : X.calm = true) (ha : Ea X [a, b, c] δ [.int i, .int j, .int l]) (hg : Gl X "max" := by rfl)
    (he : starEach [a, b, c] X.env = (false, eval a X.env) :: starEach [b, c] X.env := by rfl) (hpl : (backTo pos (starEach [b, c] X.env)).any (·.1) = false := by rfl) : Ee X (.Call (.Name "max" p) [a, b, c] [] pos) δ (.int (max3 i j l)) :=
  e_cbs (call_max3Nu hc) hm ha (fun vs G H ex r Q k => by
    cases r with
    | cons r1 r => cases r with
      | cons r2 r => cases r with
        | cons r3 r =>
          cases r; cases r1; cases r2; cases r3
          refine ⟨.int i, .int j, .int l, .int (max3 i j l), rfl, ?_, k _ _ _ (Gr.refl ex) (.int _)⟩
          show (nuMax2 _ _).bind _ = _
          rw [nu_max2]
          exact nu_max2 _ _) (hg := hg) (he := he) (hpl := hpl)
/-- max of a list: whatever is its greatest -/
theorem e_maxL {ns : List Int} {m : Int} (hm : X.mg "max" = none) (hc : X.calm = true) (ha : Ea X [a] δ [.lst (ns.map D.int)]) (h0 : m ∈ ns) (h1 : ∀ y, y ∈ ns → y ≤ m) (hg : Gl X "max" := by rfl) (he : starEach [a] X.env = [(false, eval a X.env)] := by rfl) :
    Ee X (.Call (.Name "max" p) [a] [] pos) δ (.int m) :=
  e_cbs (cr_max hc) hm ha (fun vs G H ex r Q k => by
    cases r with
    | cons r1 r => cases r; cases r1 with
      | lst h r =>
        have e1 := DvAll.ints_inv r
        subst e1
        refine ⟨_, ns, rfl, SqL.of (ex _ _ h), ?_, fun m' hm' hy => ?_⟩
        · cases ns with
          | nil => cases h0
          | cons n ns => exact Nat.succ_pos _
        · have e2 : m' = m := Int.le_antisymm (h1 _ hm') (hy _ h0)
          subst e2
          exact k _ _ _ (Gr.refl ex) (.int _)) (hg := hg) (he := he)
theorem e_sum {ns : List Int} (hm : X.mg "sum" = none) (hc : X.calm = true) (ha : Ea X [a] δ [.lst (ns.map D.int)]) (hg : Gl X "sum" := by rfl) (he : starEach [a] X.env = [(false, eval a X.env)] := by rfl) :
    Ee X (.Call (.Name "sum" p) [a] [] pos) δ (.int ns.sum) :=
  e_cbs (cr_sum hc) hm ha (fun vs G H ex r Q k => by
    cases r with
    | cons r1 r => cases r; cases r1 with
      | lst h r =>
        have e1 := DvAll.ints_inv r
        subst e1
        exact ⟨_, ns, rfl, SqL.of (ex _ _ h), k _ _ _ (Gr.refl ex) (.int _)⟩) (hg := hg) (he := he)
theorem e_len (hm : X.mg "len" = none) (ha : Eaw X [a] δ [da]) (hi : da.items = some ds := by rfl) (hg : Gl X "len" := by rfl) (he : starEach [a] X.env = [(false, eval a X.env)] := by rfl) : Ee X (.Call (.Name "len" p) [a] [] pos) δ (.int ds.length) :=
  e_cb call_len hm ha (fun vs G H ex r Q k => by
    cases r with
    | cons r1 r =>
      cases r
      obtain ⟨q, ws, rfl, hs, rr⟩ := r1.seq (Ex.refl _) hi
      refine ⟨_, ds.length, rfl, ?_, k _ _ _ (Gr.refl ex) (.int _)⟩
      rcases hs with hs | hs
      · exact .inl ⟨ws, hs, rr.length.symm⟩
      · exact .inr ⟨ws, hs, rr.length.symm⟩) (hg := hg) (he := he)
theorem e_divmod (hm : X.mg "divmod" = none) (ha : Ea X [a, b] δ [.int i, .int j]) (hc : CDivP i j) (hg : Gl X "divmod" := by rfl) (he : starEach [a, b] X.env = (false, eval a X.env) :: starEach [b] X.env := by rfl)
    (hpl : (backTo pos (starEach [b] X.env)).any (·.1) = false := by rfl) : Ee X (.Call (.Name "divmod" p) [a, b] [] pos) δ (.tup [.int (i / j), .int (i % j)]) :=
  e_cbs call_divmodW hm ha (fun vs G H ex r Q k => by
    cases r with
    | cons r1 r => cases r with
      | cons r2 r =>
        cases r; cases r1; cases r2
        exact ⟨i, j, rfl, hc, post_tup k ex (.cons (.int _) (.cons (.int _) .nil))⟩) (hg := hg) (he := he) (hpl := hpl)
/-- list(xs): a copy -/
theorem e_list (hm : X.mg "list" = none) (ha : Ea X [a] δ [da]) (hi : da.items = some ds := by rfl) (hg : Gl X "list" := by rfl) (he : starEach [a] X.env = [(false, eval a X.env)] := by rfl) : Er X (.Call (.Name "list" p) [a] [] pos) δ (.new ds) :=
  e_cty call_list_of hm ha (fun vs G H ex r Q k => by
    cases r with
    | cons r1 r =>
      cases r
      obtain ⟨q, ws, rfl, hs, rr⟩ := r1.seq ex hi
      exact ⟨q, ws, rfl, hs, post_new k ex rr⟩) (hg := hg) (he := he)
/-- isinstance(x, T) of a built-in type -/
def D.tyn : D → Option String
  | .non => some "NoneType"
  | .bl _ => some "bool"
  | .int _ => some "int"
  | .str _ => some "str"
  | .lst _ => some "list"
  | .tup _ => some "tuple"
  | _ => none
theorem Dv.ty {K : PySem.W.Frag} {G : Hp} {v : V} {d : D} {t : String} (h : Dv K G v d) (e : d.tyn = some t) : TyX K G v (.type t) := by
  cases h with
  | non => cases e; exact .base .non
  | bl b => cases e; exact .base (.bl b)
  | int i => cases e; exact .base (.int i)
  | str x => cases e; exact .base (.str x)
  | lst h r => cases e; exact .base (.lst h)
  | tup h r => cases e; exact .base (.tup h)
  | _ => cases e
theorem e_isi {T : Str} {U t : String} {k : Bool} (hm : X.mg "isinstance" = none) (hmT : X.mg T = none) (ha : Ew X a δ da) (ht : da.tyn = some t) (hk : kitB t U = some k) (hv : bootBuiltins T = some (.type U) := by decide +kernel)
    (hg : Gl X "isinstance" := by rfl) (hgT : Gl X T := by rfl) {p1 : Pos} (hn : T ≠ "__name__" := by decide) (hdb : (T == ("__debug__" : Str)) = false := by decide)
    (he : starEach [a, .Name T p1] X.env = (false, eval a X.env) :: starEach [.Name T p1] X.env := by rfl) (hpl : (backTo pos (starEach [.Name T p1] X.env)).any (·.1) = false := by rfl) : Ee X (.Call (.Name "isinstance" p) [a, .Name T p1] [] pos) δ (.bl k) :=
  e_of (pe_callB call_isi hg hm (by decide +kernel) (pa_cons (canE X a) (pa_cons (pe_bltn (v := .ty U) hgT hmT hv rfl hn hdb) pa_nil) he) (he := he) (hpl := hpl)) fun Gb Hb G H σ E Q q => ha Gb Hb G H σ E _ fun v G1 H1 g1 q1 =>
    ⟨v, .ty U, .type t, .type U, k, rfl, .ty U, q1.ty ht, kit_ty hk, q _ _ _ g1 (.bl k)⟩
theorem kb_int_int : kitB "int" "int" = some true := by decide +kernel
theorem kb_bool_int : kitB "bool" "int" = some true := by decide +kernel
theorem kb_str_int : kitB "str" "int" = some false := by decide +kernel
theorem kb_non_int : kitB "NoneType" "int" = some false := by decide +kernel
theorem kb_tup_int : kitB "tuple" "int" = some false := by decide +kernel
theorem kb_lst_int : kitB "list" "int" = some false := by decide +kernel
theorem kb_int_bool : kitB "int" "bool" = some false := by decide +kernel
theorem kb_bool_bool : kitB "bool" "bool" = some true := by decide +kernel
theorem kb_str_bool : kitB "str" "bool" = some false := by decide +kernel
theorem kb_non_bool : kitB "NoneType" "bool" = some false := by decide +kernel
theorem kb_tup_bool : kitB "tuple" "bool" = some false := by decide +kernel
theorem kb_lst_bool : kitB "list" "bool" = some false := by decide +kernel
theorem kb_int_tup : kitB "int" "tuple" = some false := by decide +kernel
theorem kb_bool_tup : kitB "bool" "tuple" = some false := by decide +kernel
theorem kb_str_tup : kitB "str" "tuple" = some false := by decide +kernel
theorem kb_non_tup : kitB "NoneType" "tuple" = some false := by decide +kernel
theorem kb_tup_tup : kitB "tuple" "tuple" = some true := by decide +kernel
theorem kb_lst_tup : kitB "list" "tuple" = some false := by decide +kernel
theorem kb_lst_lst : kitB "list" "list" = some true := by decide +kernel
theorem kb_non_lst : kitB "NoneType" "list" = some false := by decide +kernel
/-- int(flag), int(n) -/
theorem e_intB {k : Bool} (hm : X.mg "int" = none) (ha : Ea X [a] δ [.bl k]) (hg : Gl X "int" := by rfl) (he : starEach [a] X.env = [(false, eval a X.env)] := by rfl) : Ee X (.Call (.Name "int" p) [a] [] pos) δ (.int (if k then 1 else 0)) :=
  e_cty call_int1 hm ha (fun vs G H ex r Q q => by
    cases r with
    | cons r1 r =>
      cases r; cases r1
      refine .inr ⟨k, rfl, ?_⟩
      have := q _ _ _ (Gr.refl ex) (.int (if k then 1 else 0))
      cases k <;> exact this) (hg := hg) (he := he)

/-! ### tests -/
theorem t_val {k : Bool} (h : Ee X e δ (.bl k)) (he : ∀ whole, isTrue e X.env whole = (do let v ← whole; standAt e.pos; holding [v] (truthy v)) := by intro _; rfl) : Et X e δ k := .mk fun Gb Hb G H σ E Q q pins s I =>
  (pt_val (canE X e) he).run pins s σ H Q I (h Gb Hb G H σ E _ fun v G1 H1 g1 q1 => by
    cases q1
    exact ⟨k, rfl, q _ _ g1⟩)
theorem t_not {k : Bool} (h : Et X a δ k) : Et X (.UnaryOp .Not a pos) δ (!k) := .mk fun Gb Hb G H σ E Q q pins s I =>
  (pt_not (canT X a)).run pins s σ H Q I (h Gb Hb G H σ E _ fun G1 H1 g1 => q _ _ g1)
theorem t_w {k : Bool} (h : Etw X e δ k) : Et X e δ k := .mk fun Gb Hb G H σ E Q q pins s I => (canW X e).pt.run pins s σ H Q I (h Gb Hb G H σ E Q q)
variable {k l : Bool}
theorem w_and1 (h : Et X a δ k) : Etw X (.BoolOp .And [a] pos) δ k := .mk fun Gb Hb G H σ E Q q wh pins s I => (pw_and1 (canT X a)).run wh pins s σ H Q I (h Gb Hb G H σ E Q q)
theorem w_or1 (h : Et X a δ k) : Etw X (.BoolOp .Or [a] pos) δ k := .mk fun Gb Hb G H σ E Q q wh pins s I => (pw_or1 (canT X a)).run wh pins s σ H Q I (h Gb Hb G H σ E Q q)
theorem w_and (h : Et X a δ k) (h2 : k = true → Etw X (.BoolOp .And (b :: es) pos) δ l) : Etw X (.BoolOp .And (a :: b :: es) pos) δ (k && l) := .mk fun Gb Hb G H σ E Q q wh pins s I =>
  (pw_and (canT X a) (canW X _)).run wh pins s σ H Q I (h Gb Hb G H σ E _ fun G1 H1 g1 => by
    cases k with
    | true => exact iteT (h2 rfl Gb Hb G1 H1 σ (E.mono g1) Q fun G2 H2 g2 => q _ _ (g1.trans g2))
    | false => exact iteF (q _ _ g1))
theorem w_or (h : Et X a δ k) (h2 : k = false → Etw X (.BoolOp .Or (b :: es) pos) δ l) : Etw X (.BoolOp .Or (a :: b :: es) pos) δ (k || l) := .mk fun Gb Hb G H σ E Q q wh pins s I =>
  (pw_or (canT X a) (canW X _)).run wh pins s σ H Q I (h Gb Hb G H σ E _ fun G1 H1 g1 => by
    cases k with
    | true => exact iteT (q _ _ g1)
    | false => exact iteF (h2 rfl Gb Hb G1 H1 σ (E.mono g1) Q fun G2 H2 g2 => q _ _ (g1.trans g2)))
/-- as values -/
theorem e_one {op} (h : Ee X a δ d) : Ee X (.BoolOp op [a] pos) δ d := e_of (pe_one (canE X a)) fun Gb Hb G H σ E Q q => h Gb Hb G H σ E Q q
theorem e_and (h : Ee X a δ (.bl k)) (h2 : k = true → Ee X (.BoolOp .And (b :: es) pos) δ (.bl l)) : Ee X (.BoolOp .And (a :: b :: es) pos) δ (.bl (k && l)) :=
  e_of (pe_and (canE X a) (canE X _)) fun Gb Hb G H σ E Q q => h Gb Hb G H σ E _ fun v G1 H1 g1 q1 => by
    cases q1
    refine ⟨k, rfl, ?_⟩
    cases k with
    | true => exact iteT (h2 rfl Gb Hb G1 H1 σ (E.mono g1) Q fun v G2 H2 g2 q2 => q _ _ _ (g1.trans g2) q2)
    | false => exact iteF (q _ _ _ g1 (.bl _))
theorem e_or (h : Ee X a δ (.bl k)) (h2 : k = false → Ee X (.BoolOp .Or (b :: es) pos) δ (.bl l)) : Ee X (.BoolOp .Or (a :: b :: es) pos) δ (.bl (k || l)) :=
  e_of (pe_or (canE X a) (canE X _)) fun Gb Hb G H σ E Q q => h Gb Hb G H σ E _ fun v G1 H1 g1 q1 => by
    cases q1
    refine ⟨k, rfl, ?_⟩
    cases k with
    | true => exact iteT (q _ _ _ g1 (.bl _))
    | false => exact iteF (h2 rfl Gb Hb G1 H1 σ (E.mono g1) Q fun v G2 H2 g2 q2 => q _ _ _ (g1.trans g2) q2)
theorem e_not (h : Ee X a δ (.bl k)) : Ee X (.UnaryOp .Not a pos) δ (.bl (!k)) := e_of (pe_not (canE X a)) fun Gb Hb G H σ E Q q => h Gb Hb G H σ E _ fun v G1 H1 g1 q1 => by
  cases q1
  exact ⟨k, rfl, q _ _ _ g1 (.bl _)⟩
theorem e_ifx {d1 d2 : D} (h : Et X c δ k) (h1 : k = true → Ee X a δ d) (h2 : k = false → Ee X b δ d) : Ee X (.IfExp c a b pos) δ d := e_of (pe_ifExp (canT X c) (canE X a) (canE X b)) fun Gb Hb G H σ E Q q => h Gb Hb G H σ E _ fun G1 H1 g1 => by
  cases k with
  | true => exact iteT (h1 rfl Gb Hb G1 H1 σ (E.mono g1) Q (Post.mono q g1))
  | false => exact iteF (h2 rfl Gb Hb G1 H1 σ (E.mono g1) Q (Post.mono q g1))
end
end DL

/-! DL4: lists borrowed, targets, statements, loops. -/
namespace DL
open PySem L2 PySem.Spec PyProof.Rows
open Evl (Ex)

/-! ### reading what only a name holds -/
def Hold.frz : Hold → Hold
  | .own ds => .val (.lst ds)
  | h => h
def D.scal : D → Bool
  | .non => true
  | .bl _ => true
  | .int _ => true
  | .str _ => true
  | _ => false
section
variable {K : PySem.W.Frag} {Gb Hb G H G' H' : Hp} {σ : L2.St} {δ : List Hold}
open Classical in
/-- what stands still, and the lists that only names hold -/
noncomputable def both (G H : Hp) (σ : L2.St) (δ : List Hold) : Hp := fun b => match G b with
  | some o => some o
  | none => if ∃ (i : Nat) (ds : List D), δ[i]? = some (.own ds) ∧ σ[i]? = some (some (.ref b)) then H b else none
theorem both_g : Ex G (both G H σ δ) := fun a o h => by unfold both; rw [h]
theorem both_h (e : Ex G H) : Ex (both G H σ δ) H := fun a o h => by
  unfold both at h
  split at h
  · rename_i o' e'
    cases h
    exact e _ _ e'
  · split at h
    · exact h
    · cases h
open Classical in
theorem Nv.borrow (e : Nv K Gb Hb G H σ δ) : Nv K (both G H σ δ) H (both G H σ δ) H σ (δ.map Hold.frz) := ⟨Gr.refl (both_h e.ex), by simp [e.ln], fun i d h => by
    rw [List.getElem?_map] at h
    cases q : δ[i]? with
    | none => rw [q] at h; cases h
    | some s =>
      rw [q] at h
      cases s with
      | any => cases h
      | val d' =>
        cases h
        obtain ⟨v, h1, h2⟩ := e.vl i _ q
        exact ⟨v, h1, h2.mono both_g⟩
      | own ds =>
        cases h
        obtain ⟨l, xs, h1, h2, h3, h4, h5⟩ := e.ow i ds q
        refine ⟨_, h1, .lst ?_ (h5.mono both_g)⟩
        unfold both
        rw [h3]
        show (if _ then H l else none) = _
        rw [if_pos (show ∃ (i : Nat) (ds : List D), δ[i]? = some (.own ds) ∧ σ[i]? = some (some (.ref l)) from ⟨i, ds, q, h1⟩)]
        exact h4, fun i ds h => by
    rw [List.getElem?_map] at h
    cases q : δ[i]? with
    | none => rw [q] at h; cases h
    | some s =>
      rw [q] at h
      (cases s <;> (cases h)), fun i j ds es l h => by
    rw [List.getElem?_map] at h
    cases q : δ[i]? with
    | none => rw [q] at h; cases h
    | some s =>
      rw [q] at h
      cases s <;> cases h⟩
open Classical in
noncomputable def back (G H G' : Hp) : Hp := fun b => if H b = none then G' b else G b
theorem Gr.back {G1 : Hp} (ex : Ex G H) (e1 : Ex G G1) (g : Gr G1 H G' H') : Gr G H (back G H G') H' := ⟨fun a o h => by
    unfold DL.back
    rw [if_neg (by rw [ex _ _ h]; exact fun z => by cases z)]
    exact h, fun a o h => by
    unfold DL.back at h
    split at h
    · exact g.i _ _ h
    · exact g.h _ _ (ex _ _ h), g.h, fun b hb _ => by unfold DL.back; rw [if_neg hb]⟩
end
section
variable {X : Cx} {e : Expr} {δ : List Hold} {d : D}
theorem Dv.scal {K : PySem.W.Frag} {G G' : Hp} {v : V} {d : D} (h : Dv K G v d) (s : d.scal = true) : Dv K G' v d := by
  cases h with
  | non => exact .non
  | bl b => exact .bl b
  | int i => exact .int i
  | str x => exact .str x
  | _ => cases s
theorem e_bw (h : Ee X e (δ.map Hold.frz) d) (s : d.scal = true := by rfl) : Ee X e δ d := .mk fun Gb Hb G H σ E Q k =>
  h _ _ _ _ σ E.borrow Q fun v G' H' g q => k v _ H' (Gr.back E.ex both_g g) (q.scal s)
theorem t_bw {k : Bool} (h : Et X e (δ.map Hold.frz) k) : Et X e δ k := .mk fun Gb Hb G H σ E Q q =>
  h _ _ _ _ σ E.borrow Q fun G' H' g => q _ H' (Gr.back E.ex both_g g)
end

/-! ### targets -/
section
variable (X : Cx)
def rG (tg : Expr) : TG := fun v σ H Q => ∀ (pins : List (Addr × Obj)) (s : Shared) (u : Value), Inv X pins σ H s → RelV v u → wpAny (model X.prog X.w) X.A (assign tg X.env u) (fun _ s' => ∃ σ' H', Inv X pins σ' H' s' ∧ Q σ' H') X.xe s
theorem canG (tg : Expr) : PG X tg (rG X tg) := ⟨fun pins s _ _ _ u _ I r h => h pins s u I r⟩
def rGs (ts : List Expr) : TGs := fun vs σ H Q => ∀ (pins : List (Addr × Obj)) (s : Shared) (us : List Value), Inv X pins σ H s → Vals vs us → wpAny (model X.prog X.w) X.A (assignInOrder ((assignEach ts X.env).map (·.2)) us) (fun _ s' => ∃ σ' H', Inv X pins σ' H' s' ∧ Q σ' H') X.xe s
theorem canGs (ts : List Expr) : PGs X ts (rGs X ts) := ⟨fun pins s _ _ _ us _ I r h => h pins s us I r⟩
structure Eg (tg : Expr) (d : D) (δ δ' : List Hold) : Prop where
  run : ∀ Gb Hb G H σ v, Nv X.K Gb Hb G H σ δ → Dv X.K G v d → ∀ Q : L2.St → Hp → Prop, (∀ σ', Nv X.K Gb Hb G H σ' δ' → Q σ' H) → rG X tg v σ H Q
instance {tg : Expr} {d : D} {δ δ' : List Hold} : CoeFun (Eg X tg d δ δ') fun _ => ∀ Gb Hb G H σ v, Nv X.K Gb Hb G H σ δ → Dv X.K G v d → ∀ Q : L2.St → Hp → Prop, (∀ σ', Nv X.K Gb Hb G H σ' δ' → Q σ' H) → rG X tg v σ H Q := ⟨Eg.run⟩
structure Egs (ts : List Expr) (ds : List D) (δ δ' : List Hold) : Prop where
  run : ∀ Gb Hb G H σ vs, Nv X.K Gb Hb G H σ δ → DvAll X.K G vs ds → ∀ Q : L2.St → Hp → Prop, (∀ σ', Nv X.K Gb Hb G H σ' δ' → Q σ' H) → rGs X ts vs σ H Q
instance {ts : List Expr} {ds : List D} {δ δ' : List Hold} : CoeFun (Egs X ts ds δ δ') fun _ => ∀ Gb Hb G H σ vs, Nv X.K Gb Hb G H σ δ → DvAll X.K G vs ds → ∀ Q : L2.St → Hp → Prop, (∀ σ', Nv X.K Gb Hb G H σ' δ' → Q σ' H) → rGs X ts vs σ H Q := ⟨Egs.run⟩
end
section
variable {X : Cx} {t : Expr} {ts : List Expr} {d : D} {ds : List D} {δ δ' δ'' : List Hold} {pos : Pos}
theorem g_nm (i : Nat) {x : Str} (nd : X.N.Nodup) (hi : X.N[i]? = some x := by rfl) (hx : Loc X.env.scope x := by first | exact Or.inl rfl | exact Or.inr rfl) (hf : X.fn x = true ∨ X.env.scope.names.lookup x = some .local := by first | exact .inl rfl | exact .inr rfl) :
    Eg X (.Name x pos) d δ (δ.set i (.val d)) := .mk fun Gb Hb G H σ v E q Q k pins s u I r => (pg_name nd hi hx hf).run pins s σ H v u Q I r (k _ (E.set q))
theorem gs_nil : Egs X [] [] δ δ := .mk fun Gb Hb G H σ vs E q Q k pins s us I r => pgs_nil.run pins s σ H vs us Q I r (by cases q; exact ⟨rfl, k _ E⟩)
theorem gs_cons (h1 : Eg X t d δ δ') (h2 : Egs X ts ds δ' δ'') (hs : (assignEach (t :: ts) X.env).map (·.2) = assign t X.env :: (assignEach ts X.env).map (·.2) := by rfl) : Egs X (t :: ts) (d :: ds) δ δ'' := .mk fun Gb Hb G H σ vs E q Q k pins s us I r =>
  (pgs_cons (canG X t) (canGs X ts) hs).run pins s σ H vs us Q I r (by
    cases q with
    | cons q1 q2 => exact ⟨_, _, rfl, h1 Gb Hb G H σ _ E q1 _ fun σ1 E1 => h2 Gb Hb G H σ1 _ E1 q2 Q k⟩)
theorem g_tup {kk : Nat} (hc : X.calm = true) (h : Egs X ts ds δ δ') (hn : (assignEach ts X.env).length = ds.length := by rfl) (hst : (assignEach ts X.env).findIdx? (·.1) = none := by rfl) : Eg X (.Tuple ts kk pos) (.tup ds) δ δ' := .mk fun Gb Hb G H σ v E q Q k pins s u I r =>
  (pg_tup hc (canGs X ts) hn hst).run pins s σ H v u Q I r (by
    cases q with
    | tup h1 h2 => exact ⟨_, _, rfl, SqT.of (E.ex _ _ h1), h2.length, h Gb Hb G H σ _ E h2 Q k⟩)
end

/-! ### statements -/
inductive Out where
  | nx (δ : List Hold) | bk (δ : List Hold) | ct (δ : List Hold) | rt (r : Res)
structure Fits (K : PySem.W.Frag) (Gb Hb G : Hp) (D : Ends) (P : Out → Prop) : Prop where
  nx : ∀ δ, P (.nx δ) → ∀ σ G' H', Ex G G' → Nv K Gb Hb G' H' σ δ → D.nx σ H'
  bk : ∀ δ, P (.bk δ) → ∀ σ G' H', Ex G G' → Nv K Gb Hb G' H' σ δ → D.bk σ H'
  ct : ∀ δ, P (.ct δ) → ∀ σ G' H', Ex G G' → Nv K Gb Hb G' H' σ δ → D.ct σ H'
  rt : ∀ r, P (.rt r) → Post K Gb Hb r D.rt
theorem Fits.mono {K : PySem.W.Frag} {Gb Hb G G1 : Hp} {D : Ends} {P : Out → Prop} (f : Fits K Gb Hb G D P) (e : Ex G G1) : Fits K Gb Hb G1 D P :=
  ⟨fun δ p σ G' H' h => f.nx δ p σ G' H' (e.trans h), fun δ p σ G' H' h => f.bk δ p σ G' H' (e.trans h), fun δ p σ G' H' h => f.ct δ p σ G' H' (e.trans h), f.rt⟩
theorem Fits.imp {K : PySem.W.Frag} {Gb Hb G : Hp} {D : Ends} {P P' : Out → Prop} (f : Fits K Gb Hb G D P) (h : ∀ o, P' o → P o) : Fits K Gb Hb G D P' :=
  ⟨fun δ p => f.nx δ (h _ p), fun δ p => f.bk δ (h _ p), fun δ p => f.ct δ (h _ p), fun r p => f.rt r (h _ p)⟩
structure Ss (X : Cx) (sts : List Stmt) (δ : List Hold) (P : Out → Prop) : Prop where
  run : ∀ Gb Hb G H σ D, Nv X.K Gb Hb G H σ δ → Fits X.K Gb Hb G D P → rSs X sts D σ H
instance {X : Cx} {sts : List Stmt} {δ : List Hold} {P : Out → Prop} : CoeFun (Ss X sts δ P) fun _ => ∀ Gb Hb G H σ D, Nv X.K Gb Hb G H σ δ → Fits X.K Gb Hb G D P → rSs X sts D σ H := ⟨Ss.run⟩
structure S1 (X : Cx) (st : Stmt) (δ : List Hold) (P : Out → Prop) : Prop where
  run : ∀ Gb Hb G H σ D, Nv X.K Gb Hb G H σ δ → Fits X.K Gb Hb G D P → rS X st D σ H
instance {X : Cx} {st : Stmt} {δ : List Hold} {P : Out → Prop} : CoeFun (S1 X st δ P) fun _ => ∀ Gb Hb G H σ D, Nv X.K Gb Hb G H σ δ → Fits X.K Gb Hb G D P → rS X st D σ H := ⟨S1.run⟩
/-- behind a statement the rest -/
def Thn (X : Cx) (rest : List Stmt) (P : Out → Prop) : Out → Prop
  | .nx δ => Ss X rest δ P
  | o => P o
section
variable {X : Cx} {st : Stmt} {rest a b : List Stmt} {e c : Expr} {es : List Expr} {δ ε : List Hold} {d : D} {ds : List D} {pos p1 p2 : Pos} {P R : Out → Prop} {r : Res} {k : Bool} {x : Str}
theorem Ss.imp (h : Ss X rest δ P) (hi : ∀ o, P o → R o) : Ss X rest δ R := .mk fun Gb Hb G H σ D E F => h Gb Hb G H σ D E (F.imp hi)
theorem S1.imp (h : S1 X st δ P) (hi : ∀ o, P o → R o) : S1 X st δ R := .mk fun Gb Hb G H σ D E F => h Gb Hb G H σ D E (F.imp hi)
theorem Ss.le (h : Ss X rest ε P) (l : Le δ ε) : Ss X rest δ P := .mk fun Gb Hb G H σ D E F => h Gb Hb G H σ D (E.le l) F
theorem ss_nil (h : P (.nx δ)) : Ss X [] δ P := .mk fun Gb Hb G H σ D E F pins s I => pss_nil.run pins s σ H D I (F.nx δ h σ G H (Evl.Ex.refl _) E)
theorem ss_cons (h : S1 X st δ (Thn X rest P)) : Ss X (st :: rest) δ P := .mk fun Gb Hb G H σ D E F pins s I =>
  (pss_cons (canS X st) (canSs X rest)).run pins s σ H D I (h Gb Hb G H σ _ E ⟨fun δ' p σ' G' H' e E' => (show Ss X rest δ' P from p).run Gb Hb G' H' σ' D E' (F.mono e), F.bk, F.ct, F.rt⟩)
theorem s_of {t : TS} (p : PS X st t) (h : ∀ Gb Hb G H σ D, Nv X.K Gb Hb G H σ δ → Fits X.K Gb Hb G D P → t D σ H) : S1 X st δ P := .mk fun Gb Hb G H σ D E F pins s I => p.run pins s σ H D I (h Gb Hb G H σ D E F)

/-- x = e -/
theorem s_set (i : Nat) (nd : X.N.Nodup) (he : Ee X e δ d) (h : P (.nx (δ.set i (.val d)))) (hi : X.N[i]? = some x := by rfl) (hx : Loc X.env.scope x := by first | exact Or.inl rfl | exact Or.inr rfl) (hs : swapsWith e (some (.Name x p1)) pos.line X.env = pure false := by rfl)
    (hf : X.fn x = true ∨ X.env.scope.names.lookup x = some .local := by first | exact .inl rfl | exact .inr rfl) : S1 X (.Assign [.Name x p1] e pos) δ P :=
  s_of (ps_set nd hi hx (canE X e) hs hf) fun Gb Hb G H σ D E F => he Gb Hb G H σ E _ fun v G1 H1 g1 q1 => F.nx _ h _ G1 H1 g1.g ((E.mono g1).set q1)
theorem s_setN (i : Nat) (nd : X.N.Nodup) (he : Er X e δ (.new ds)) (h : P (.nx (δ.set i (.own ds)))) (hi : X.N[i]? = some x := by rfl) (hx : Loc X.env.scope x := by first | exact Or.inl rfl | exact Or.inr rfl) (hs : swapsWith e (some (.Name x p1)) pos.line X.env = pure false := by rfl)
    (hf : X.fn x = true ∨ X.env.scope.names.lookup x = some .local := by first | exact .inl rfl | exact .inr rfl) : S1 X (.Assign [.Name x p1] e pos) δ P :=
  s_of (ps_set nd hi hx (canE X e) hs hf) fun Gb Hb G H σ D E F => he Gb Hb G H σ E _ fun l xs G1 H1 g1 n1 n2 n3 q1 => F.nx _ h _ G1 H1 g1.g ((E.mono g1).setOwn (Evl.fresh_back E.gr.h n1) n2 n3 q1 fun j es hj h1 h2 => by
    obtain ⟨l', xs', f1, f2, f3, f4, f5⟩ := E.ow j es h1
    rw [f1] at h2
    cases h2
    rw [n1] at f4
    cases f4)
theorem ss_set (i : Nat) (nd : X.N.Nodup) (he : Ee X e δ d) (h : Ss X rest (δ.set i (.val d)) P) (hi : X.N[i]? = some x := by rfl) (hx : Loc X.env.scope x := by first | exact Or.inl rfl | exact Or.inr rfl) (hs : swapsWith e (some (.Name x p1)) pos.line X.env = pure false := by rfl)
    (hf : X.fn x = true ∨ X.env.scope.names.lookup x = some .local := by first | exact .inl rfl | exact .inr rfl) : Ss X (.Assign [.Name x p1] e pos :: rest) δ P := ss_cons (s_set i nd he h hi hx hs hf)
theorem ss_setN (i : Nat) (nd : X.N.Nodup) (he : Er X e δ (.new ds)) (h : Ss X rest (δ.set i (.own ds)) P) (hi : X.N[i]? = some x := by rfl) (hx : Loc X.env.scope x := by first | exact Or.inl rfl | exact Or.inr rfl) (hs : swapsWith e (some (.Name x p1)) pos.line X.env = pure false := by rfl)
    (hf : X.fn x = true ∨ X.env.scope.names.lookup x = some .local := by first | exact .inl rfl | exact .inr rfl) : Ss X (.Assign [.Name x p1] e pos :: rest) δ P := ss_cons (s_setN i nd he h hi hx hs hf)
/-- target = e -/
theorem ss_asg {tg : Expr} (he : Ee X e δ d) (hg : Eg X tg d δ ε) (h : Ss X rest ε P) (hs : swapsWithSole [tg] e pos.line X.env = pure false := by rfl) (hw : swappedStores [tg] e X.env = pure none := by rfl)
    (h1 : (assignEach [tg] X.env).map (·.2) = [assign tg X.env] := by rfl) : Ss X (.Assign [tg] e pos :: rest) δ P :=
  ss_cons (s_of (ps_asg (canE X e) (canG X tg) hs hw h1) fun Gb Hb G H σ D E F => he Gb Hb G H σ E _ fun v G1 H1 g1 q1 => hg Gb Hb G1 H1 σ v (E.mono g1) q1 _ fun σ' E' => F.nx _ h _ G1 H1 g1.g E')
/-- return -/
theorem ss_ret (he : Er X e δ r) (h : P (.rt r)) : Ss X (.Return (some e) pos :: rest) δ P :=
  ss_cons (s_of (ps_ret (canE X e)) fun Gb Hb G H σ D E F => he Gb Hb G H σ E _ (Post.mono (F.rt r h) E.gr))
theorem ss_retO (i : Nat) (h : P (.rt (.new ds))) (hi : δ[i]? = some (.own ds) := by rfl) (hN : X.N[i]? = some x := by rfl) (hv : Vis X.env.scope x := by first | exact Or.inl rfl | exact Or.inr (Or.inl rfl) | exact Or.inr (Or.inr rfl))
    (hd : (x == ("__debug__" : Str)) = false := by decide) (hcd : (x == ("__classdict__" : Str)) = false := by decide) : Ss X (.Return (some (.Name x p1)) pos :: rest) δ P :=
  ss_cons (s_of (ps_ret (pv i hN hv hd hcd)) fun Gb Hb G H σ D E F => by
    obtain ⟨l, xs, h1, h2, h3, h4, h5⟩ := E.ow i ds hi
    exact ⟨_, h1, F.rt _ h l xs G H E.gr h2 h3 h4 h5⟩)
/-- if -/
theorem s_if (hc : Et X c δ k) (h1 : k = true → Ss X a δ P) (h2 : k = false → Ss X b δ P) : S1 X (.If c a b pos) δ P :=
  s_of (ps_if (canT X c) (canSs X a) (canSs X b)) fun Gb Hb G H σ D E F => hc Gb Hb G H σ E _ fun G1 H1 g1 => by
    cases k with
    | true => exact iteT (h1 rfl Gb Hb G1 H1 σ D (E.mono g1) (F.mono g1.g))
    | false => exact iteF (h2 rfl Gb Hb G1 H1 σ D (E.mono g1) (F.mono g1.g))
theorem ss_if (hc : Et X c δ k) (h1 : k = true → Ss X a δ (Thn X rest P)) (h2 : k = false → Ss X b δ (Thn X rest P)) : Ss X (.If c a b pos :: rest) δ P := ss_cons (s_if hc h1 h2)
/-- if without else -/
theorem ss_when (hc : Et X c δ k) (h1 : k = true → Ss X a δ (Thn X rest P)) (h2 : k = false → Ss X rest δ P) : Ss X (.If c a [] pos :: rest) δ P := ss_if hc h1 fun q => ss_nil (h2 q)
theorem ss_skip (hc : Et X c δ k) (hk : k = false) (h2 : Ss X rest δ P) : Ss X (.If c a [] pos :: rest) δ P := ss_when hc (fun q => by rw [hk] at q; cases q) fun _ => h2
theorem ss_take (hc : Et X c δ k) (hk : k = true) (h1 : Ss X a δ (Thn X rest P)) : Ss X (.If c a b pos :: rest) δ P := ss_if hc (fun _ => h1) fun q => by rw [hk] at q; cases q
theorem ss_expr (he : Ee X e δ d) (h : Ss X rest δ P) (hs : swapsWith e none pos.line X.env = pure false := by rfl) : Ss X (.Expr e pos :: rest) δ P :=
  ss_cons (s_of (ps_expr (canE X e) hs) fun Gb Hb G H σ D E F => he Gb Hb G H σ E _ fun v G1 H1 g1 q1 => F.nx _ h _ G1 H1 g1.g (E.mono g1))
theorem ss_cont (h : P (.ct δ)) : Ss X (.Continue pos :: rest) δ P := ss_cons (s_of ps_continue fun Gb Hb G H σ D E F => F.ct δ h σ G H (Evl.Ex.refl _) E)
theorem ss_brk (h : P (.bk δ)) : Ss X (.Break pos :: rest) δ P := ss_cons (s_of ps_break fun Gb Hb G H σ D E F => F.bk δ h σ G H (Evl.Ex.refl _) E)
theorem ss_pass (h : Ss X rest δ P) : Ss X (.Pass pos :: rest) δ P := ss_cons (s_of ps_pass fun Gb Hb G H σ D E F => F.nx _ h σ G H (Evl.Ex.refl _) E)
/-- x += e, x -= e -/
theorem ss_aug {op : Operator} {f : Int → Int → Int} {i j : Int} (n : Nat) (ho : PIp X op (ipI f)) (nd : X.N.Nodup) (he : Ee X e δ (.int j)) (h : Ss X rest (δ.set n (.val (.int (f i j)))) P) (hv : δ[n]? = some (.val (.int i)) := by rfl) (hi : X.N[n]? = some x := by rfl)
    (hx : Loc X.env.scope x := by first | exact Or.inl rfl | exact Or.inr rfl) (hf : X.fn x = true ∨ X.env.scope.names.lookup x = some .local := by first | exact .inl rfl | exact .inr rfl) : Ss X (.AugAssign (.Name x p1) op e pos :: rest) δ P :=
  ss_cons (s_of (ps_aug nd hi hx (canE X e) ho hf) fun Gb Hb G H σ D E F => by
    obtain ⟨v, h1, h2⟩ := E.vl n _ hv
    cases h2
    refine ⟨_, h1, he Gb Hb G H σ E _ fun v G1 H1 g1 q1 => ?_⟩
    cases q1
    exact ⟨i, j, rfl, rfl, F.nx _ h _ G1 H1 g1.g ((E.mono g1).set (.int _))⟩)

/-! ### lists that only a name holds, changed -/
theorem own_ty {K : PySem.W.Frag} {H : Hp} {l : Addr} {xs : List V} (h : H l = some (.lst xs)) : tyV K "list" (.ref l) H := .inl ⟨rfl, xs, SqL.of h⟩
/-- one plain argument and no keyword: few enough for the quick road of a method's call -/
abbrev few1 (X : Cx) (cpos : Pos) (e : Expr) : Bool :=
  ((backTo cpos (starEach [e] X.env)).all (fun a => !a.1) && (backToKw cpos (keywordEach [] X.env)).all (fun k => k.1.isSome) &&
    decide (([e] : List Expr).length + ([] : List Keyword).length + (if ([] : List Keyword).isEmpty then 0 else 1) < 30))
/-- xs.append(e) -/
theorem s_app (i : Nat) {o : Str} {apos cpos : Pos} (he : Ee X e δ d) (h : P (.nx (δ.set i (.own (ds ++ [d]))))) (hz : ds.length < sizeLine) (hi : δ[i]? = some (.own ds) := by rfl)
    (hN : X.N[i]? = some o := by rfl) (hv : Vis X.env.scope o := by first | exact Or.inl rfl | exact Or.inr (Or.inl rfl) | exact Or.inr (Or.inr rfl)) (hd : (o == ("__debug__" : Str)) = false := by decide) (hcd : (o == ("__classdict__" : Str)) = false := by decide)
    (hbase : attributeBase (.Name o p1) "append" X.env (eval (.Name o p1) X.env) = eval (.Name o p1) X.env := by rfl) (hfew : few1 X cpos e = true := by rfl)
    (hline : (apos.endLine == cpos.line) = true := by rfl) (hs : starEach [e] X.env = (false, eval e X.env) :: starEach [] X.env := by rfl) (hplain : (backTo cpos (starEach [] X.env)).any (·.1) = false := by rfl)
    (hsw : swapsWith (.Call (.Attribute (.Name o p1) "append" apos) [e] [] cpos) none pos.line X.env = pure false := by rfl) : S1 X (.Expr (.Call (.Attribute (.Name o p1) "append" apos) [e] [] cpos) pos) δ P :=
  s_of (ps_expr (pe_bm PySem.F.plainAttrs_list PySem.F.slot_list_append PySem.F.type_list_append mt_append (pv i hN hv hd hcd) (pa_cons (canE X e) pa_nil hs) hbase hfew hline hs hplain) hsw) fun Gb Hb G H σ D E F => by
    obtain ⟨l, xs, h1, h2, h3, h4, h5⟩ := E.ow i ds hi
    refine ⟨_, h1, own_ty h4, he Gb Hb G H σ E _ fun v G1 H1 g1 q1 => ?_⟩
    have E1 := E.mono g1
    refine ⟨l, xs, v, rfl, rfl, g1.h _ _ h4, by rw [h5.length]; exact hz, ?_⟩
    exact F.nx _ h _ G1 _ g1.g (E1.put hi h1 ((h5.mono g1.g).append (.cons q1 .nil)))
theorem ss_app (i : Nat) {o : Str} {apos cpos : Pos} (he : Ee X e δ d) (h : Ss X rest (δ.set i (.own (ds ++ [d]))) P) (hz : ds.length < sizeLine) (hi : δ[i]? = some (.own ds) := by rfl)
    (hN : X.N[i]? = some o := by rfl) (hv : Vis X.env.scope o := by first | exact Or.inl rfl | exact Or.inr (Or.inl rfl) | exact Or.inr (Or.inr rfl)) (hd : (o == ("__debug__" : Str)) = false := by decide) (hcd : (o == ("__classdict__" : Str)) = false := by decide)
    (hbase : attributeBase (.Name o p1) "append" X.env (eval (.Name o p1) X.env) = eval (.Name o p1) X.env := by rfl) (hfew : few1 X cpos e = true := by rfl)
    (hline : (apos.endLine == cpos.line) = true := by rfl) (hs : starEach [e] X.env = (false, eval e X.env) :: starEach [] X.env := by rfl) (hplain : (backTo cpos (starEach [] X.env)).any (·.1) = false := by rfl)
    (hsw : swapsWith (.Call (.Attribute (.Name o p1) "append" apos) [e] [] cpos) none pos.line X.env = pure false := by rfl) : Ss X (.Expr (.Call (.Attribute (.Name o p1) "append" apos) [e] [] cpos) pos :: rest) δ P :=
  ss_cons (s_app i he h hz hi hN hv hd hcd hbase hfew hline hs hplain hsw)
end

/-! ### what a loop walks -/
structure Src (K : PySem.W.Frag) (J : It) (G0 : Hp) (n : Nat) (f : Nat → D) : Prop where
  stop : ∀ i G H, n ≤ i → Ex G0 G → Ex G H → J.stop i H
  go : ∀ i G H, i < n → Ex G0 G → Ex G H → J.go i H
  yld : ∀ i G H x H', i < n → Ex G0 G → Ex G H → J.yld i H x H' → ∃ G', Gr G H G' H' ∧ Dv K G' x (f i)
def rI (X : Cx) (tg iter : Expr) : TI := fun σ H R => ∀ (pins : List (Addr × Obj)) (s : Shared), Inv X pins σ H s →
    wpAny (model X.prog X.w) X.A (eval iter X.env)
      (fun v t => wpAny (model X.prog X.w) X.A (pyIter v) (PIE X pins σ tg R) X.xe t) X.xe s
theorem canI (X : Cx) (tg iter : Expr) : PI X tg iter (rI X tg iter) := ⟨fun pins s _ _ _ I h => h pins s I⟩
structure Sr (X : Cx) (tg iter : Expr) (δ : List Hold) (n : Nat) (f : Nat → D) : Prop where
  run : ∀ Gb Hb G H σ, Nv X.K Gb Hb G H σ δ → ∀ R : It → Hp → Prop, (∀ J G' H', Gr G H G' H' → Src X.K J G' n f → R J H') → rI X tg iter σ H R
instance {X : Cx} {tg iter : Expr} {δ : List Hold} {n : Nat} {f : Nat → D} : CoeFun (Sr X tg iter δ n f) fun _ => ∀ Gb Hb G H σ, Nv X.K Gb Hb G H σ δ → ∀ R : It → Hp → Prop, (∀ J G' H', Gr G H G' H' → Src X.K J G' n f → R J H') → rI X tg iter σ H R := ⟨Sr.run⟩
section
variable {X : Cx} {tg e a b : Expr} {δ : List Hold} {d : D} {ds : List D} {pos p : Pos} {i j : Int}
theorem src_list {K : PySem.W.Frag} {G : Hp} {l : Addr} {vs : List V} (h : SqL K G l vs) (r : DvAll K G vs ds) : Src K (Itl K l) G ds.length (fun i => ds.getD i .non) where
  stop := fun i G' H hi e1 e2 => ⟨vs, Evl.ex_l (e1.trans e2) h, by rw [r.length]; exact hi⟩
  go := fun i G' H hi e1 e2 => by
    have hv : i < vs.length := by rw [r.length]; exact hi
    exact ⟨vs, vs[i], Evl.ex_l (e1.trans e2) h, List.getElem?_eq_getElem hv⟩
  yld := fun i G' H x H' hi e1 e2 y => by
    obtain ⟨rfl, y⟩ := y
    obtain ⟨d, q1, q2⟩ := r.getV (y vs (Evl.ex_l (e1.trans e2) h))
    refine ⟨G', Gr.refl e2, ?_⟩
    rw [List.getD_eq_getElem?_getD, q1]
    exact q2.mono e1
theorem src_tup {K : PySem.W.Frag} {G : Hp} {l : Addr} {vs : List V} (h : SqT K G l vs) (r : DvAll K G vs ds) : Src K (Itt K l) G ds.length (fun i => ds.getD i .non) where
  stop := fun i G' H hi e1 e2 => ⟨vs, Evl.ex_t (e1.trans e2) h, by rw [r.length]; exact hi⟩
  go := fun i G' H hi e1 e2 => by
    have hv : i < vs.length := by rw [r.length]; exact hi
    exact ⟨vs, vs[i], Evl.ex_t (e1.trans e2) h, List.getElem?_eq_getElem hv⟩
  yld := fun i G' H x H' hi e1 e2 y => by
    obtain ⟨rfl, y⟩ := y
    obtain ⟨d, q1, q2⟩ := r.getV (y vs (Evl.ex_t (e1.trans e2) h))
    refine ⟨G', Gr.refl e2, ?_⟩
    rw [List.getD_eq_getElem?_getD, q1]
    exact q2.mono e1
theorem sr_of {wi : TI} {n : Nat} {f : Nat → D} (p : PI X tg e wi) (h : ∀ Gb Hb G H σ, Nv X.K Gb Hb G H σ δ → ∀ R : It → Hp → Prop, (∀ J G' H', Gr G H G' H' → Src X.K J G' n f → R J H') → wi σ H R) : Sr X tg e δ n f :=
  .mk fun Gb Hb G H σ E R k pins s I => p.run pins s σ H R I (h Gb Hb G H σ E R k)
theorem sr_list (ha : Ee X e δ d) (hi : d.litems = some ds := by rfl) : Sr X tg e δ ds.length (fun i => ds.getD i .non) :=
  sr_of (pi_list (canE X e)) fun Gb Hb G H σ E R k => ha Gb Hb G H σ E _ fun v G1 H1 g1 q1 => by
    obtain ⟨l, vs, rfl, h, r⟩ := q1.lsq (Evl.Ex.refl _) hi
    exact ⟨l, rfl, ⟨vs, Evl.ex_l g1.i h⟩, k _ G1 H1 g1 (src_list h r)⟩
theorem Dv.tsq {K : PySem.W.Frag} {G : Hp} {v : V} (h : Dv K G v (.tup ds) ∨ Dv K G v (.ktup ds)) : ∃ a vs, v = .ref a ∧ SqT K G a vs ∧ DvAll K G vs ds := by
  rcases h with h | h
  · cases h with
    | tup h r => exact ⟨_, _, rfl, SqT.of h, r⟩
  · cases h with
    | ktup h r => exact ⟨_, _, rfl, h _, r⟩
theorem sr_tup (ha : Ee X e δ (.tup ds)) : Sr X tg e δ ds.length (fun i => ds.getD i .non) :=
  sr_of (pi_tup (canE X e)) fun Gb Hb G H σ E R k => ha Gb Hb G H σ E _ fun v G1 H1 g1 q1 => by
    obtain ⟨l, vs, rfl, h, r⟩ := Dv.tsq (.inl q1)
    exact ⟨l, rfl, ⟨vs, Evl.ex_t g1.i h⟩, k _ G1 H1 g1 (src_tup h r)⟩
theorem sr_ktup (ha : Ee X e δ (.ktup ds)) : Sr X tg e δ ds.length (fun i => ds.getD i .non) :=
  sr_of (pi_tup (canE X e)) fun Gb Hb G H σ E R k => ha Gb Hb G H σ E _ fun v G1 H1 g1 q1 => by
    obtain ⟨l, vs, rfl, h, r⟩ := Dv.tsq (.inr q1)
    exact ⟨l, rfl, ⟨vs, Evl.ex_t g1.i h⟩, k _ G1 H1 g1 (src_tup h r)⟩
theorem src_rng {K : PySem.W.Frag} {G : Hp} {lo : Int} {n : Nat} : Src K (Itr lo n) G n (fun i => .int (lo + i)) where
  stop := fun i G' H hi _ _ => hi
  go := fun i G' H hi _ _ => hi
  yld := fun i G' H x H' hi e1 e2 y => by
    obtain ⟨rfl, rfl⟩ := y
    exact ⟨G', Gr.refl e2, .int _⟩
theorem sr_range1 (hm : X.mg "range" = none) (ha : Ea X [a] δ [.int j]) (h1 : -(2 ^ 62) ≤ j) (h2 : j < 2 ^ 62) (hg : Gl X "range" := by rfl) (hs : starEach [a] X.env = [(false, eval a X.env)] := by rfl) : Sr X tg (.Call (.Name "range" p) [a] [] pos) δ j.toNat (fun i => .int (0 + i)) :=
  sr_of (pi_range1 hg hm (canA X [a]) hs) fun Gb Hb G H σ E R k => ha Gb Hb G H σ E _ fun vs G1 H1 g1 q1 => by
    cases q1 with
    | cons q1 q2 => cases q2; cases q1; exact ⟨j, rfl, h1, h2, k _ G1 H1 g1 src_rng⟩
theorem src_enum {K : PySem.W.Frag} {G : Hp} {l : Addr} {vs : List V} (h : SqL K G l vs) (r : DvAll K G vs ds) : Src K (Ite K l) G ds.length (fun i => .tup [.int i, ds.getD i .non]) where
  stop := fun i G' H hi e1 e2 => ⟨vs, Evl.ex_l (e1.trans e2) h, by rw [r.length]; exact hi⟩
  go := fun i G' H hi e1 e2 => by
    have hv : i < vs.length := by rw [r.length]; exact hi
    exact ⟨vs, vs[i], Evl.ex_l (e1.trans e2) h, List.getElem?_eq_getElem hv⟩
  yld := fun i G' H x H' hi e1 e2 y => by
    obtain ⟨T, z, rfl, hT, rfl, y⟩ := y
    obtain ⟨d, q1, q2⟩ := r.getV (y vs (Evl.ex_l (e1.trans e2) h))
    have g := Gr.new (o := .tup [.int i, z]) e2 hT
    refine ⟨_, g, .tup upd_same (.cons (.int _) (.cons ?_ .nil))⟩
    rw [List.getD_eq_getElem?_getD, q1]
    exact (q2.mono e1).mono g.g
theorem sr_enum {elts : List Expr} {kk : Nat} {tpos : Pos} (hm : X.mg "enumerate" = none) (ha : Ea X [a] δ [d]) (hi : d.litems = some ds := by rfl) (hg : Gl X "enumerate" := by rfl) (hs : starEach [a] X.env = [(false, eval a X.env)] := by rfl) :
    Sr X (.Tuple elts kk tpos) (.Call (.Name "enumerate" p) [a] [] pos) δ ds.length (fun i => .tup [.int i, ds.getD i .non]) :=
  sr_of (pi_enum hg hm (canA X [a]) hs) fun Gb Hb G H σ E R k => ha Gb Hb G H σ E _ fun vs G1 H1 g1 q1 => by
    cases q1 with
    | cons q1 q2 =>
      cases q2
      obtain ⟨l, vs, rfl, h, r⟩ := q1.lsq (Evl.Ex.refl _) hi
      exact ⟨l, vs, rfl, Evl.ex_l g1.i h, k _ G1 H1 g1 (src_enum h r)⟩
theorem src_rev {K : PySem.W.Frag} {G : Hp} {l : Addr} {vs : List V} (h : SqL K G l vs) (r : DvAll K G vs ds) : Src K (Itv K l vs.length) G ds.length (fun i => ds.reverse.getD i .non) where
  stop := fun i G' H hi e1 e2 => by show vs.length ≤ i; rw [r.length]; exact hi
  go := fun i G' H hi e1 e2 => by
    have hv : i < vs.length := by rw [r.length]; exact hi
    have hv2 : vs.length - 1 - i < vs.length := by omega
    exact ⟨hv, vs, vs[vs.length - 1 - i], Evl.ex_l (e1.trans e2) h, List.getElem?_eq_getElem hv2⟩
  yld := fun i G' H x H' hi e1 e2 y => by
    obtain ⟨rfl, y⟩ := y
    obtain ⟨d, q1, q2⟩ := r.getV (y vs (Evl.ex_l (e1.trans e2) h))
    refine ⟨G', Gr.refl e2, ?_⟩
    have e3 : ds.reverse[i]? = some d := by
      rw [List.getElem?_reverse hi, ← r.length]
      exact q1
    rw [List.getD_eq_getElem?_getD, e3]
    exact q2.mono e1
theorem sr_rev (hm : X.mg "reversed" = none) (ha : Ea X [a] δ [d]) (hi : d.litems = some ds := by rfl) (hg : Gl X "reversed" := by rfl) (hs : starEach [a] X.env = [(false, eval a X.env)] := by rfl) :
    Sr X tg (.Call (.Name "reversed" p) [a] [] pos) δ ds.length (fun i => ds.reverse.getD i .non) :=
  sr_of (pi_reversed hg hm (canA X [a]) hs) fun Gb Hb G H σ E R k => ha Gb Hb G H σ E _ fun vs G1 H1 g1 q1 => by
    cases q1 with
    | cons q1 q2 =>
      cases q2
      obtain ⟨l, vs, rfl, h, r⟩ := q1.lsq (Evl.Ex.refl _) hi
      exact ⟨l, vs, rfl, Evl.ex_l g1.i h, k _ G1 H1 g1 (src_rev h r)⟩
end

/-! ### for, while -/
section
variable {X : Cx} {tg iter c : Expr} {body rest : List Stmt} {δ : List Hold} {pos : Pos} {P R : Out → Prop} {n : Nat} {f : Nat → D}
/-- what a turn is to reach -/
def Turned (I : Nat → List Hold → Prop) (i : Nat) (P : Out → Prop) : Out → Prop
  | .nx δ => I (i + 1) δ
  | .ct δ => I (i + 1) δ
  | .bk δ => P (.nx δ)
  | .rt r => P (.rt r)
theorem s_for (hx : X.xe = fun _ _ => False) (hc : X.calm = true) (hi : Sr X tg iter δ n f) (I : Nat → List Hold → Prop) (h0 : I 0 δ)
    (hs : ∀ i δ', i < n → I i δ' → ∃ δ'', Eg X tg (f i) δ' δ'' ∧ Ss X body δ'' (Turned I i P)) (hd : ∀ δ', I n δ' → P (.nx δ')) (hfs : ∀ x, foldedSetIterable iter X.env x = pure x := by intro _; rfl) :
    S1 X (.For tg iter body [] pos) δ P :=
  s_of (ps_for (by rw [hx]; exact PassesOwn.never) hc (canI X tg iter) (canG X tg) (canSs X body) hfs) fun Gb Hb G H σ D E F => hi Gb Hb G H σ E _ fun J G1 H1 g1 S => by
    refine ⟨fun i m σ' H' => m = n - i ∧ i ≤ n ∧ ∃ G' δ', Ex G1 G' ∧ Nv X.K Gb Hb G' H' σ' δ' ∧ I i δ', ⟨n, by simp, Nat.zero_le _, G1, δ, Evl.Ex.refl _, E.mono g1, h0⟩, ?_⟩
    rintro i m σ' H' ⟨rfl, hin, G', δ', e1, E', hI⟩
    by_cases hlt : i < n
    · refine .inr ⟨S.go i G' H' hlt e1 E'.ex, fun σ2 H2 => ∃ G2 δ2, Ex G1 G2 ∧ Nv X.K Gb Hb G2 H2 σ2 δ2 ∧ I (i + 1) δ2, fun σ2 H2 ⟨G2, δ2, a1, a2, a3⟩ => ⟨n - (i + 1), by omega, rfl, hlt, G2, δ2, a1, a2, a3⟩, fun x H2 y => ?_⟩
      obtain ⟨G2, g2, q2⟩ := S.yld i G' H' x H2 hlt e1 E'.ex y
      obtain ⟨δ2, hg, hb⟩ := hs i δ' hlt hI
      refine hg Gb Hb G2 H2 σ' x (E'.mono g2) q2 _ fun σ3 E3 => hb Gb Hb G2 H2 σ3 _ E3 ⟨?_, ?_, ?_, ?_⟩
      · exact fun δ3 p σ4 G4 H4 ex E4 => ⟨G4, δ3, (e1.trans g2.g).trans ex, E4, p⟩
      · exact fun δ3 p σ4 G4 H4 ex E4 => F.nx δ3 p σ4 G4 H4 (((g1.g.trans e1).trans g2.g).trans ex) E4
      · exact fun δ3 p σ4 G4 H4 ex E4 => ⟨G4, δ3, (e1.trans g2.g).trans ex, E4, p⟩
      · exact fun r p => F.rt r p
    · have hn : i = n := by omega
      subst hn
      exact .inl ⟨S.stop i G' H' (Nat.le_refl _) e1 E'.ex, F.nx δ' (hd δ' hI) σ' G' H' (g1.g.trans e1) E'⟩
theorem ss_for (hx : X.xe = fun _ _ => False) (hc : X.calm = true) (hi : Sr X tg iter δ n f) (I : Nat → List Hold → Prop) (h0 : I 0 δ)
    (hs : ∀ i δ', i < n → I i δ' → ∃ δ'', Eg X tg (f i) δ' δ'' ∧ Ss X body δ'' (Turned I i (Thn X rest P))) (hd : ∀ δ', I n δ' → Ss X rest δ' P) (hfs : ∀ x, foldedSetIterable iter X.env x = pure x := by intro _; rfl) :
    Ss X (.For tg iter body [] pos :: rest) δ P := ss_cons (s_for hx hc hi I h0 hs hd hfs)
def Whiled (I : Nat → List Hold → Prop) (m : Nat) (P : Out → Prop) : Out → Prop
  | .nx δ => ∃ m', m' < m ∧ I m' δ
  | .ct δ => ∃ m', m' < m ∧ I m' δ
  | .bk δ => P (.nx δ)
  | .rt r => P (.rt r)
theorem s_while (hx : X.xe = fun _ _ => False) (I : Nat → List Hold → Prop) (m0 : Nat) (h0 : I m0 δ)
    (hs : ∀ m δ', I m δ' → ∃ k, Et X c δ' k ∧ (k = true → Ss X body δ' (Whiled I m P)) ∧ (k = false → P (.nx δ'))) : S1 X (.While c body [] pos) δ P :=
  s_of (ps_while (by rw [hx]; exact PassesOwn.never) (canT X c) (canSs X body)) fun Gb Hb G H σ D E F => by
    refine ⟨fun m σ' H' => ∃ G' δ', Ex G G' ∧ Nv X.K Gb Hb G' H' σ' δ' ∧ I m δ', ⟨m0, G, δ, Evl.Ex.refl _, E, h0⟩, ?_⟩
    rintro m σ' H' ⟨G', δ', e1, E', hI⟩
    obtain ⟨k, ht, h1, h2⟩ := hs m δ' hI
    refine ht Gb Hb G' H' σ' E' _ fun G2 H2 g2 => ?_
    cases k with
    | false => exact iteF (F.nx δ' (h2 rfl) σ' G2 H2 (e1.trans g2.g) (E'.mono g2))
    | true =>
      refine iteT ⟨fun σ3 H3 => ∃ m', m' < m ∧ ∃ G3 δ3, Ex G G3 ∧ Nv X.K Gb Hb G3 H3 σ3 δ3 ∧ I m' δ3, fun σ3 H3 ⟨m', hm, q⟩ => ⟨m', hm, q⟩, h1 rfl Gb Hb G2 H2 σ' _ (E'.mono g2) ⟨?_, ?_, ?_, ?_⟩⟩
      · exact fun δ3 ⟨m', hm, p⟩ σ4 G4 H4 ex E4 => ⟨m', hm, G4, δ3, (e1.trans g2.g).trans ex, E4, p⟩
      · exact fun δ3 p σ4 G4 H4 ex E4 => F.nx δ3 p σ4 G4 H4 ((e1.trans g2.g).trans ex) E4
      · exact fun δ3 ⟨m', hm, p⟩ σ4 G4 H4 ex E4 => ⟨m', hm, G4, δ3, (e1.trans g2.g).trans ex, E4, p⟩
      · exact fun r p => F.rt r p
theorem ss_while (hx : X.xe = fun _ _ => False) (I : Nat → List Hold → Prop) (m0 : Nat) (h0 : I m0 δ)
    (hs : ∀ m δ', I m δ' → ∃ k, Et X c δ' k ∧ (k = true → Ss X body δ' (Whiled I m (Thn X rest P))) ∧ (k = false → Ss X rest δ' P)) : Ss X (.While c body [] pos :: rest) δ P := ss_cons (s_while hx I m0 h0 hs)
end
end DL

/-! DL5: defs and their calls, comprehensions. -/
namespace DL
open PySem L2 PySem.Spec PyProof.Rows
open Evl (Ex)

/-! ### a def's promise -/
/-- called with data ds it gives r -/
def spD (K : PySem.W.Frag) (R : List D → Res → Prop) : Sp := fun vs H Q _ => ∃ G ds r, Ex G H ∧ DvAll K G vs ds ∧ R ds r ∧ Post K G H r Q
structure Site where
  f : Addr
  cd : Value
  A : Around
  outer : List PySem.Env
  s : Shared
  H : Hp
  E : XK
/-- where a def's body runs -/
abbrev bx (P : Program) (w : World) (K : PySem.W.Frag) (mg : Str → Option Value) (base : Heap) (N : List Str) (qual : Str) (sc : Scope) (Z : Site) : Cx :=
  (cxOf CX0 P w K mg base N qual sc Z.f Z.cd Z.A Z.outer Z.s Z.H Z.E).nox
def FnEnd (r : Res) : Out → Prop
  | .rt r' => r' = r
  | .nx _ => r = .val .non
  | _ => False
section
variable {base : Heap} {mg : Str → Option Value} {K : PySem.W.Frag} {P : Program} {w : World}
theorem start_get {N : List Str} {vs : List V} {i : Nat} {v : V} (h : vs[i]? = some v) : (L2.start N vs)[i]? = some (some v) := by
  unfold L2.start
  have hi : i < vs.length := (List.getElem?_eq_some_iff.mp h).1
  rw [List.getElem?_append_left (by simpa using hi), List.getElem?_map, h]
  rfl
def startD (n : Nat) (ds : List D) : List Hold := ds.map Hold.val ++ List.replicate (n - ds.length) .any
theorem nv_start {N : List Str} {G H : Hp} {vs : List V} {ds : List D} (ex : Ex G H) (r : DvAll K G vs ds) (hl : vs.length ≤ N.length) : Nv K G H G H (L2.start N vs) (startD N.length ds) := ⟨Gr.refl ex, by
    unfold L2.start startD
    simp [r.length], fun i d h => by
    unfold startD at h
    by_cases hi : i < ds.length
    · rw [List.getElem?_append_left (by simpa using hi), List.getElem?_map] at h
      cases q : ds[i]? with
      | none => rw [q] at h; cases h
      | some d' =>
        rw [q] at h
        cases h
        obtain ⟨v, h1, h2⟩ := r.get q
        exact ⟨v, start_get h1, h2⟩
    · rw [List.getElem?_append_right (by simpa using hi), List.getElem?_replicate] at h
      split at h <;> (cases h), fun i es h => by
    unfold startD at h
    by_cases hi : i < ds.length
    · rw [List.getElem?_append_left (by simpa using hi), List.getElem?_map] at h
      cases q : ds[i]? with
      | none => rw [q] at h; cases h
      | some d' =>
        rw [q] at h
        cases h
    · rw [List.getElem?_append_right (by simpa using hi), List.getElem?_replicate] at h
      split at h <;> (cases h), fun i j es fs l h => by
    unfold startD at h
    by_cases hi : i < ds.length
    · rw [List.getElem?_append_left (by simpa using hi), List.getElem?_map] at h
      cases q : ds[i]? with
      | none => rw [q] at h; cases h
      | some d' =>
        rw [q] at h
        cases h
    · rw [List.getElem?_append_right (by simpa using hi), List.getElem?_replicate] at h
      split at h <;> cases h⟩
theorem body_run {N : List Str} {qual : Str} {sc : Scope} {body : List Stmt} {R : List D → Res → Prop} {k : Nat} (hb : ∀ Z : Site, Room k (bx P w K mg base N qual sc Z).A → ∀ ds r, R ds r → Ss (bx P w K mg base N qual sc Z) body (startD N.length ds) (FnEnd r))
    (hp : ∀ ds r, R ds r → ds.length ≤ N.length) {f : Addr} {cdv : Value} {A : Around} {outer : List PySem.Env} {s : Shared} {H : Hp} {vs : List V} {Q : VK} {E : XK} (hr : Room k (A.deeper (envOfC qual sc s.heap.objs.size f cdv))) (h : spD K R vs H Q E) :
    ∃ t, PSs (cxOf CX0 P w K mg base N qual sc f cdv A outer s H E).nox body t ∧ t { nx := fun _ H' => Q .non H', rt := Q } (L2.start N vs) H := by
  obtain ⟨G, ds, r, ex, rv, hR, po⟩ := h
  refine ⟨_, canSs _ body, hb ⟨f, cdv, A, outer, s, H, E⟩ hr ds r hR G H G H (L2.start N vs) _ (nv_start ex rv (by rw [rv.length]; exact hp ds r hR)) ⟨?_, ?_, ?_, ?_⟩⟩
  · intro δ p σ G' H' _ E'
    have p : r = .val .non := p
    subst p
    exact po .non G' H' E'.gr .non
  · intro δ p
    exact False.elim p
  · intro δ p
    exact False.elim p
  · intro r' p
    have p : r' = r := p
    subst p
    exact po
theorem few_ps {N ps : List Str} {sc : Scope} (S : FnScope N ps sc) : ps.length ≤ N.length := by
  have h := congrArg List.length S.pre
  simp at h
  omega
/-- THE RULE for a def without defaults -/
theorem fn_D {x qual : Str} {st : Stmt} {f : Addr} {fd : FuncData} {N ps : List Str} {k : Nat} {R : List D → Res → Prop} (F : Fun K x qual st f fd) (S : FnScope N ps (defScope st)) (hl : ∀ ds r, R ds r → ds.length = ps.length)
    (hb : ∀ Z : Site, Room k (bx P w K mg base N qual (defScope st) Z).A → ∀ ds r, R ds r → Ss (bx P w K mg base N qual (defScope st) Z) (defBody st) (startD N.length ds) (FnEnd r)) : FnOk P w K mg base CX0 (k + 1) f fd ps (spD K R) := by
  have hpl : ps.length ≤ N.length := few_ps S
  refine F.ok S (fun vs H Q E ⟨G, ds, r, ex, rv, hR, po⟩ => by rw [rv.length]; exact hl ds r hR) fun cdv A outer s H vs Q E hr h => ?_
  obtain ⟨t, h1, h2⟩ := body_run (w := w) (mg := mg) (base := base) hb (fun ds r q => by rw [hl ds r q]; exact hpl) hr h
  exact ⟨t, h1, h2⟩
/-- .. with defaults -/
theorem fn_DD {x qual : Str} {pa : Arguments} {body : List Stmt} {sc : Scope} {dvs : List V} {kws : List (Str × V)} {f : Addr} {fd : FuncData} {N ps : List Str} {k : Nat} {R : List D → Res → Prop} (F : FunD K x qual pa body sc dvs kws f fd) (S : FnScope N ps sc) (hl : ∀ ds r, R ds r → ds.length = ps.length)
    (hb : ∀ Z : Site, Room k (bx P w K mg base N qual sc Z).A → ∀ ds r, R ds r → Ss (bx P w K mg base N qual sc Z) body (startD N.length ds) (FnEnd r)) : FnOk P w K mg base CX0 (k + 1) f fd ps (spD K R) := by
  have hpl : ps.length ≤ N.length := few_ps S
  refine F.ok S (fun vs H Q E ⟨G, ds, r, ex, rv, hR, po⟩ => by rw [rv.length]; exact hl ds r hR) fun cdv A outer s H vs Q E hr h => ?_
  obtain ⟨t, h1, h2⟩ := body_run (w := w) (mg := mg) (base := base) hb (fun ds r q => by rw [hl ds r q]; exact hpl) hr h
  exact ⟨t, h1.nox, h2⟩
/-- a global name may be called so -/
structure Cal (P : Program) (w : World) (K : PySem.W.Frag) (mg : Str → Option Value) (base : Heap) (k : Nat) (x : Str) (R : List D → Res → Prop) : Prop where
  ex : ∃ (f : Addr) (fd : FuncData) (ps : List Str) (dvs : List V) (us : List Value) (dd : List D) (R0 : List D → Res → Prop), mg x = some (.ref f) ∧ PySem.W.keepIn K (.ref f) = true ∧ FnOk P w K mg base CX0 k f fd ps (spD K R0) ∧ Binds K fd ps us ∧ Vals dvs us ∧
    (∀ G, DvAll K G dvs dd) ∧ ∀ ds r, R ds r → R0 (ds ++ dd) r
theorem cal_of {k : Nat} {x : Str} {f : Addr} {fd : FuncData} {ps : List Str} {R : List D → Res → Prop} (m : mg x = some (.ref f)) (kp : PySem.W.keepIn K (.ref f) = true) (F : FnOk P w K mg base CX0 k f fd ps (spD K R)) (b : Binds K fd ps []) : Cal P w K mg base k x R :=
  ⟨f, fd, ps, [], [], [], R, m, kp, F, b, .nil, fun _ => .nil, fun ds r h => by rw [List.append_nil]; exact h⟩
end
section
variable {X : Cx} {e o : Expr} {es : List Expr} {δ : List Hold} {ds : List D} {pos p : Pos} {x : Str} {k : Nat} {R : List D → Res → Prop} {r : Res}
/-- f(e, ..) -/
theorem e_call (C : Cal X.prog X.w X.K X.mg X.base k x R) (hr : Room k X.A) (ha : Ea X (e :: es) δ ds) (hR : R ds r) (hg : Gl X x := by rfl)
    (hdb : (x == ("__debug__" : Str)) = false := by decide)
    (he : starEach (e :: es) X.env = (false, eval e X.env) :: starEach es X.env := by rfl) (hpl : ((backTo pos (starEach es X.env)).any fun a => a.1) = false := by rfl) :
    Er X (.Call (.Name x p) (e :: es) [] pos) δ r := by
  obtain ⟨f, fd, ps, dvs, us, dd, R0, hm, hk, F, hb, hd, hdd, h0⟩ := C.ex
  exact e_of (pe_call F hr hg hm hk hb hd pass0 (canA X (e :: es)) hdb he hpl) fun Gb Hb G H σ E Q q => ha Gb Hb G H σ E _ fun vs G1 H1 g1 q1 =>
    ⟨G1, ds ++ dd, r, g1.i, q1.append (hdd G1), h0 ds r hR, q.mono g1⟩
theorem e_call0 (C : Cal X.prog X.w X.K X.mg X.base k x R) (hr : Room k X.A) (hR : R [] r) (hg : Gl X x := by rfl)
    (hdb : (x == ("__debug__" : Str)) = false := by decide) :
    Er X (.Call (.Name x p) [] [] pos) δ r := by
  obtain ⟨f, fd, ps, dvs, us, dd, R0, hm, hk, F, hb, hd, hdd, h0⟩ := C.ex
  exact e_of (pe_call0 F hr hg hm hk hb hd pass0 hdb) fun Gb Hb G H σ E Q q =>
    ⟨G, [] ++ dd, r, E.ex, (show DvAll X.K G ([] ++ dvs) ([] ++ dd) from hdd G), h0 [] r hR, q⟩
/-- methods -/
structure Mcal (P : Program) (w : World) (K : PySem.W.Frag) (mg : Str → Option Value) (base : Heap) (k : Nat) (C : Addr) (m : Str) (R : List D → Res → Prop) : Prop where
  cl : Cls K C
  ex : ∃ (f : Addr) (fd : FuncData) (ps : List Str), Meth K C m f ∧ FnOk P w K mg base CX0 k f fd ps (spD K R) ∧ Binds K fd ps []
theorem e_meth {C : Addr} {m : Str} {fs : List (Str × D)} {apos : Pos} {pl : Sem Bool} (M : Mcal X.prog X.w X.K X.mg X.base k C m R) (hr : Room k X.A) (ho : Ee X o δ (.obj C fs)) (ha : Ea X (e :: es) δ ds) (hR : R (.obj C fs :: ds) r) (hf : fs.lookup m = none)
    (hst : starEach (e :: es) X.env = (false, eval e X.env) :: starEach es X.env := by rfl) (hpl : ((backTo pos (starEach es X.env)).any fun a => a.1) = false := by rfl)
    (tree : eval (.Call (.Attribute o m apos) (e :: es) [] pos) X.env = (do
      let it ← eval o X.env
      standAt apos.atName
      let (g, own) ← holding [it] (getMethod it m pl)
      callWith pos g own (backTo pos (starEach (e :: es) X.env)) (backToKw pos (keywordEach [] X.env))) := by rfl) : Er X (.Call (.Attribute o m apos) (e :: es) [] pos) δ r := by
  obtain ⟨f, fd, ps, hm, F, hb⟩ := M.ex
  refine e_of (pe_meth (pl := pl) (canE X o) M.cl hm F hr hb .nil pass0 (canA X (e :: es)) hst hpl tree) fun Gb Hb G H σ E Q q => ho Gb Hb G H σ E _ fun v G1 H1 g1 q1 => ?_
  cases q1 with
  | obj h1 h2 =>
    refine ⟨_, _, _, rfl, g1.i _ _ h1, h2.none hf, ha Gb Hb G1 H1 σ (E.mono g1) _ fun vs G2 H2 g2 q2 => ?_⟩
    rw [List.append_nil]
    exact ⟨G2, _, r, g2.i, .cons ((Dv.obj h1 h2).mono g2.g) q2, hR, q.mono (g1.trans g2)⟩
theorem e_meth0 {C : Addr} {m : Str} {fs : List (Str × D)} {apos : Pos} {pl : Sem Bool} (M : Mcal X.prog X.w X.K X.mg X.base k C m R) (hr : Room k X.A) (ho : Ee X o δ (.obj C fs)) (hR : R [.obj C fs] r) (hf : fs.lookup m = none)
    (tree : eval (.Call (.Attribute o m apos) [] [] pos) X.env = (do
      let it ← eval o X.env
      standAt apos.atName
      let (g, own) ← holding [it] (getMethod it m pl)
      callWith pos g own (backTo pos (starEach [] X.env)) (backToKw pos (keywordEach [] X.env))) := by rfl) : Er X (.Call (.Attribute o m apos) [] [] pos) δ r := by
  obtain ⟨f, fd, ps, hm, F, hb⟩ := M.ex
  refine e_of (pe_meth0 (pl := pl) (canE X o) M.cl hm F hr hb .nil pass0 tree) fun Gb Hb G H σ E Q q => ho Gb Hb G H σ E _ fun v G1 H1 g1 q1 => ?_
  cases q1 with
  | obj h1 h2 =>
    refine ⟨_, _, _, rfl, g1.i _ _ h1, h2.none hf, ?_⟩
    exact ⟨G1, _, r, g1.i, .cons (Dv.obj h1 h2) .nil, hR, q.mono g1⟩
/-- o.f -/
theorem e_fld {C : Addr} {m : Str} {fs : List (Str × D)} {d : D} (c : Cls X.K C) (nf : NoAttr X.K C m) (ho : Ee X o δ (.obj C fs)) (hf : fs.lookup m = some d) (hb : attributeBase o m X.env (eval o X.env) = eval o X.env := by rfl) : Ee X (.Attribute o m pos) δ d :=
  e_of (pe_fld (canE X o) hb) fun Gb Hb G H σ E Q q => ho Gb Hb G H σ E _ fun v G1 H1 g1 q1 => by
    cases q1 with
    | obj h1 h2 =>
      obtain ⟨v, l1, l2⟩ := h2.look hf
      exact ⟨_, C, _, _, v, rfl, g1.i _ _ h1, c, nf, l1, q _ _ _ g1 l2⟩
end

/-! ### comprehensions -/
def wipeD (δ : List Hold) : List Nat → List Hold
  | [] => δ
  | v :: vs => (wipeD δ vs).set v .any
theorem Nv.forget {K : PySem.W.Frag} {Gb Hb G H : Hp} {σ : L2.St} {δ : List Hold} (e : Nv K Gb Hb G H σ δ) (i : Nat) : Nv K Gb Hb G H (σ.set i none) (δ.set i .any) := ⟨e.gr, by simp [e.ln], fun j d h' => by
    rcases set_get h' with ⟨rfl, hl, q⟩ | ⟨ne, q⟩
    · cases q
    · rw [List.getElem?_set_ne (fun z => ne z.symm)]
      exact e.vl j d q, fun j ds h' => by
    rcases set_get h' with ⟨rfl, hl, q⟩ | ⟨ne, q⟩
    · cases q
    · rw [List.getElem?_set_ne (fun z => ne z.symm)]
      exact e.ow j ds q, fun j k ds es l h1 h2 h3 h4 => by
    rcases set_get h1 with ⟨rfl, hl, q⟩ | ⟨ne, q⟩
    · cases q
    rcases set_get h2 with ⟨rfl, hl, q'⟩ | ⟨ne', q'⟩
    · cases q'
    rw [List.getElem?_set_ne (fun z => ne z.symm)] at h3
    rw [List.getElem?_set_ne (fun z => ne' z.symm)] at h4
    exact e.di j k ds es l q q' h3 h4⟩
theorem Nv.wipe {K : PySem.W.Frag} {Gb Hb G H : Hp} {σ : L2.St} {δ : List Hold} (e : Nv K Gb Hb G H σ δ) : ∀ vs, Nv K Gb Hb G H (L2.wipe σ vs) (wipeD δ vs)
  | [] => e
  | v :: vs => (Nv.wipe e vs).forget v
def Ets (X : Cx) (ifs : List Expr) (δ : List Hold) (b : Bool) : Prop := ∃ t, PTs X ifs t ∧ ∀ Gb Hb G H σ, Nv X.K Gb Hb G H σ δ → ∀ Q : Bool → Hp → Prop, (∀ G' H', Gr G H G' H' → Q b H') → t σ H Q
theorem ts_nil {X : Cx} {δ : List Hold} : Ets X [] δ true := ⟨tYes, pts_nil, fun Gb Hb G H σ E Q k => k _ _ (Gr.refl E.ex)⟩
def rTs (X : Cx) (ifs : List Expr) : TT := fun σ H Q => ∀ (pins : List (Addr × Obj)) (s : Shared), Inv X pins σ H s →
    wpAny (model X.prog X.w) X.A
      (forIn ifs true fun c on => if on = true then do let yes ← isTrue c X.env (eval c X.env); pure (ForInStep.yield yes) else pure (ForInStep.yield on)) (TP X pins σ Q) X.xe s
theorem canTs (X : Cx) (ifs : List Expr) : PTs X ifs (rTs X ifs) := ⟨fun pins s _ _ _ I h => h pins s I⟩
structure Eif (X : Cx) (ifs : List Expr) (δ : List Hold) (b : Bool) : Prop where
  run : ∀ Gb Hb G H σ, Nv X.K Gb Hb G H σ δ → ∀ Q : Bool → Hp → Prop, (∀ G' H', Gr G H G' H' → Q b H') → rTs X ifs σ H Q
instance {X : Cx} {ifs : List Expr} {δ : List Hold} {b : Bool} : CoeFun (Eif X ifs δ b) fun _ => ∀ Gb Hb G H σ, Nv X.K Gb Hb G H σ δ → ∀ Q : Bool → Hp → Prop, (∀ G' H', Gr G H G' H' → Q b H') → rTs X ifs σ H Q := ⟨Eif.run⟩
theorem if_nil {X : Cx} {δ : List Hold} : Eif X [] δ true := .mk fun Gb Hb G H σ E Q k pins s I => pts_nil.run pins s σ H Q I (k _ _ (Gr.refl E.ex))
theorem if_one {X : Cx} {δ : List Hold} {c : Expr} {b : Bool} (h : Et X c δ b) : Eif X [c] δ b := .mk fun Gb Hb G H σ E Q k pins s I => (pts_one (canT X c)).run pins s σ H Q I (h Gb Hb G H σ E Q k)
/-- what a comprehension's turns have made -/
def made (n : Nat) (b : Nat → Bool) (g : Nat → D) : List D := ((List.range n).filter b).map g
theorem made_yes {n : Nat} {b : Nat → Bool} {g : Nat → D} (h : b n = true) : made (n + 1) b g = made n b g ++ [g n] := by
  unfold made
  rw [List.range_succ, List.filter_append, List.map_append]
  simp [h]
theorem made_no {n : Nat} {b : Nat → Bool} {g : Nat → D} (h : b n = false) : made (n + 1) b g = made n b g := by
  unfold made
  rw [List.range_succ, List.filter_append, List.map_append]
  simp [h]
theorem made_len (n : Nat) (b : Nat → Bool) (g : Nat → D) : (made n b g).length ≤ n := by
  unfold made
  rw [List.length_map]
  exact Nat.le_trans (List.length_filter_le _ _) (by simp)
/-- a reading of a target that ends where the block's names are forgotten -/
structure EgW (X : Cx) (vs : List Nat) (tg : Expr) (d : D) (δ δ' : List Hold) : Prop where
  run : ∀ Gb Hb G H σ v, Nv X.K Gb Hb G H (L2.wipe σ vs) δ → Dv X.K G v d → ∀ Q : L2.St → Hp → Prop, (∀ σ', L2.wipe σ' vs = L2.wipe σ vs → Nv X.K Gb Hb G H σ' δ' → Q σ' H) → rG X tg v (L2.wipe σ vs) H Q
instance {X : Cx} {vs : List Nat} {tg : Expr} {d : D} {δ δ' : List Hold} : CoeFun (EgW X vs tg d δ δ') fun _ => ∀ Gb Hb G H σ v, Nv X.K Gb Hb G H (L2.wipe σ vs) δ → Dv X.K G v d → ∀ Q : L2.St → Hp → Prop, (∀ σ', L2.wipe σ' vs = L2.wipe σ vs → Nv X.K Gb Hb G H σ' δ' → Q σ' H) → rG X tg v (L2.wipe σ vs) H Q := ⟨EgW.run⟩
theorem wipe_set1 (σ : L2.St) (j : Nat) (x : Option V) : L2.wipe ((L2.wipe σ [j]).set j x) [j] = L2.wipe σ [j] := by
  show ((σ.set j none).set j x).set j none = σ.set j none
  simp
theorem gw_nm {X : Cx} {x : Str} {pos : Pos} {d : D} {δ : List Hold} (j : Nat) (nd : X.N.Nodup) (hi : X.N[j]? = some x := by rfl) (hx : Loc X.env.scope x := by first | exact Or.inl rfl | exact Or.inr rfl) (hf : X.fn x = true ∨ X.env.scope.names.lookup x = some .local := by first | exact .inl rfl | exact .inr rfl) :
    EgW X [j] (.Name x pos) d δ (δ.set j (.val d)) := .mk fun Gb Hb G H σ v E q Q k pins s u I r => (pg_name nd hi hx hf).run pins s _ H v u Q I r (k _ (wipe_set1 σ j _) (E.set q))
section
variable {X : Cx} {tg iter elt : Expr} {ifs : List Expr} {scope : Scope} {own : List (Str × Nat)} {δ : List Hold} {pos : Pos} {n : Nat} {f g : Nat → D} {b : Nat → Bool}
theorem lc_read {Gb Hb G H : Hp} {σ : L2.St} {Q : VK} {vs : List Nat} {tG : TG} {tT : TT} {tE : TE} (hi : Sr X tg iter δ n f) (hn : n ≤ sizeLine) (E : Nv X.K Gb Hb G H σ δ) (q : Post X.K G H (.new (made n b g)) Q)
    (hs : ∀ i, i < n → ∃ δ', (∀ Gb Hb G H v, Nv X.K Gb Hb G H (L2.wipe σ vs) (wipeD δ vs) → Dv X.K G v (f i) → ∀ Q : L2.St → Hp → Prop, (∀ σ', L2.wipe σ' vs = L2.wipe σ vs → Nv X.K Gb Hb G H σ' δ' → Q σ' H) → tG v (L2.wipe σ vs) H Q) ∧
      (∀ Gb Hb G H σ, Nv X.K Gb Hb G H σ δ' → ∀ Q : Bool → Hp → Prop, (∀ G' H', Gr G H G' H' → Q (b i) H') → tT σ H Q) ∧ (b i = true → ∀ Gb Hb G H σ, Nv X.K Gb Hb G H σ δ' → ∀ Q, Post X.K G H (.val (g i)) Q → tE σ H Q)) :
    tLc (rI X tg iter) tG tT tE vs σ H Q := hi Gb Hb G H σ E _ fun J G1 H1 g1 S D hD => by
  refine ⟨fun i m H' => m = n - i ∧ i ≤ n ∧ ∃ G' acc, Gr G1 H1 G' H' ∧ H' D = some (.lst acc) ∧ G' D = none ∧ DvAll X.K G' acc (made i b g), ⟨n, by simp, Nat.zero_le _, G1, [], ?_, upd_same, Evl.fresh_back g1.i hD, .nil⟩, ?_⟩
  · exact Gr.own g1.i hD
  rintro i m H' ⟨rfl, hin, G', acc, gg, hacc, hGD, rv⟩
  by_cases hlt : i < n
  · refine .inr ⟨S.go i G' H' hlt gg.g gg.i, fun H2 => ∃ G2 acc2, Gr G1 H1 G2 H2 ∧ H2 D = some (.lst acc2) ∧ G2 D = none ∧ DvAll X.K G2 acc2 (made (i + 1) b g), fun H2 ⟨G2, acc2, a1, a2, a3, a4⟩ => ⟨n - (i + 1), by omega, rfl, hlt, G2, acc2, a1, a2, a3, a4⟩, fun x H2 y => ?_⟩
    obtain ⟨G2, g2, q2⟩ := S.yld i G' H' x H2 hlt gg.g gg.i y
    obtain ⟨δ', ht, hT, hE⟩ := hs i hlt
    have E2 := ((E.mono g1).mono gg).mono g2
    have hD' : H' D ≠ none := by rw [hacc]; exact fun z => by cases z
    have hD2 := g2.h _ _ hacc
    have hG2 : G2 D = none := (g2.f D hD' (fun _ z => by rw [hacc] at z; cases z)).trans hGD
    refine ht Gb Hb G2 H2 x (E2.wipe vs) q2 _ fun σ3 hw E3 => ⟨hw, hT Gb Hb G2 H2 σ3 E3 _ fun G3 H3 g3 => ?_⟩
    have hD3 := g3.h _ _ hD2
    have hG3 : G3 D = none := (g3.f D (by rw [hD2]; exact fun z => by cases z) (fun _ z => by rw [hD2] at z; cases z)).trans hG2
    cases hb : b i with
    | false =>
      refine iteF ⟨G3, acc, (gg.trans g2).trans g3, hD3, hG3, ?_⟩
      rw [made_no hb]
      exact (rv.mono g2.g).mono g3.g
    | true =>
      refine iteT (hE hb Gb Hb G3 H3 σ3 (E3.mono g3) _ fun z G4 H4 g4 q4 => ?_)
      have hD4 := g4.h _ _ hD3
      have hG4 : G4 D = none := (g4.f D (by rw [hD3]; exact fun z => by cases z) (fun _ z => by rw [hD3] at z; cases z)).trans hG3
      have hla : acc.length < sizeLine := by
        have h1 := rv.length
        have h2 := made_len i b g
        omega
      have gA := ((gg.trans g2).trans g3).trans g4
      refine ⟨acc, hD4, hla, G4, acc ++ [z], ⟨gA.g, fun a o h => ?_, fun a o h => ?_, gA.f⟩, upd_same, hG4, ?_⟩
      · rw [upd_ne (ne_of_none h hG4)]
        exact gA.i a o h
      · rw [upd_ne (ne_of_none h hD)]
        exact gA.h a o h
      · rw [made_yes hb]
        exact (((rv.mono g2.g).mono g3.g).mono g4.g).append (.cons q4 .nil)
  · have hn : i = n := by omega
    subst hn
    exact .inl ⟨S.stop i G' H' (Nat.le_refl _) gg.g gg.i, q D acc G' H' (g1.trans gg) (Evl.fresh_back g1.h hD) hGD hacc rv⟩
/-- [elt for tg in iter if ..]; dl: what the names hold in turn i -/
theorem e_lc (own : List (Str × Nat)) (b : Nat → Bool) (g : Nat → D) (dl : Nat → List Hold) (N0 : List Str) (sc0 : Scope) (hc : X.calm = true) (nd : X.N.Nodup) (hi : Sr X tg iter δ n f) (hn : n ≤ sizeLine) (ok : blkC N0 sc0 scope own = true)
    (hg : ∀ (s : Shared) (H : Hp) (C : Addr) (cl : List (Str × Addr)) (fp : List Addr) i, i < n → EgW (X.blk s H scope (compEnvC scope cl C X.env) fp) (own.map (·.2)) tg (f i) (wipeD δ (own.map (·.2))) (dl i))
    (ht : ∀ (s : Shared) (H : Hp) (C : Addr) (cl : List (Str × Addr)) (fp : List Addr) i, i < n → Eif (X.blk s H scope (compEnvC scope cl C X.env) fp) ifs (dl i) (b i))
    (he : ∀ (s : Shared) (H : Hp) (C : Addr) (cl : List (Str × Addr)) (fp : List Addr) i, i < n → b i = true → Ee (X.blk s H scope (compEnvC scope cl C X.env) fp) elt (dl i) (g i))
    (hf : ∀ x, foldedSetIterable iter X.env x = pure x := by intro _; rfl) (hN0 : X.N = N0 := by rfl) (hs0 : X.env.scope = sc0 := by rfl) : Er X (.ListComp elt [⟨tg, iter, ifs, 0⟩] scope pos) δ (.new (made n b g)) := .mk fun Gb Hb G H σ E Q q pins s I => by
  refine (pe_lc (own := own) (g := fun v σ H Q => ∀ (s : Shared) (H0 : Hp) (C : Addr) (cl : List (Str × Addr)) (fp : List Addr), rG (X.blk s H0 scope (compEnvC scope cl C X.env) fp) tg v σ H Q)
    (tt := fun σ H Q => ∀ (s : Shared) (H0 : Hp) (C : Addr) (cl : List (Str × Addr)) (fp : List Addr), rTs (X.blk s H0 scope (compEnvC scope cl C X.env) fp) ifs σ H Q)
    (te := fun σ H Q => ∀ (s : Shared) (H0 : Hp) (C : Addr) (cl : List (Str × Addr)) (fp : List Addr), rE (X.blk s H0 scope (compEnvC scope cl C X.env) fp) elt σ H Q) hc nd (canI X tg iter) (by rw [hN0, hs0]; exact blkOk_by ok)
    (fun s H C cl fp => ⟨fun pins s' σ' H' v u Q' I' r' h => h s H C cl fp pins s' u I' r'⟩) (fun s H C cl fp => ⟨fun pins s' σ' H' Q' I' h => h s H C cl fp pins s' I'⟩) (fun s H C cl fp => ⟨fun pins s' σ' H' Q' I' h => h s H C cl fp pins s' I'⟩) hf).run pins s σ H Q I ?_
  exact lc_read hi hn E q fun i hlt => ⟨dl i, fun Gb Hb G H v E' q' Q' k s H0 C cl fp => hg s H0 C cl fp i hlt Gb Hb G H σ v E' q' Q' k, fun Gb Hb G H σ' E' Q' k s H0 C cl fp => ht s H0 C cl fp i hlt Gb Hb G H σ' E' Q' k, fun hb Gb Hb G H σ' E' Q' k s H0 C cl fp => he s H0 C cl fp i hlt hb Gb Hb G H σ' E' Q' k⟩
/-- y = [elt for ..] on one line, y a local -/
theorem s_setLc {y : Str} {py spos : Pos} {P : Out → Prop} (j : Nat) (own : List (Str × Nat)) (b : Nat → Bool) (g : Nat → D) (dl : Nat → List Hold) (fz : Bool) (N0 : List Str) (sc0 : Scope) (hc : X.calm = true) (nd : X.N.Nodup) (hi : Sr X tg iter δ n f) (hn : n ≤ sizeLine) (ok : blkC N0 sc0 scope own = true)
    (hg : ∀ (s : Shared) (H : Hp) (C : Addr) (cl : List (Str × Addr)) (fp : List Addr) i, i < n → EgW (X.blk s H scope (compEnvC scope cl C X.env) fp) (own.map (·.2)) tg (f i) (wipeD δ (own.map (·.2))) (dl i))
    (ht : ∀ (s : Shared) (H : Hp) (C : Addr) (cl : List (Str × Addr)) (fp : List Addr) i, i < n → Eif (X.blk s H scope (compEnvC scope cl C X.env) fp) ifs (dl i) (b i))
    (he : ∀ (s : Shared) (H : Hp) (C : Addr) (cl : List (Str × Addr)) (fp : List Addr) i, i < n → b i = true → Ee (X.blk s H scope (compEnvC scope cl C X.env) fp) elt (dl i) (g i))
    (h : P (.nx (δ.set j (if fz then .val (.lst (made n b g)) else .own (made n b g))))) (hy : X.N[j]? = some y := by rfl) (hyl : X.env.scope.names.lookup y = some .local := by rfl)
    (hsw : swapsWith (.ListComp elt [⟨tg, iter, ifs, 0⟩] scope pos) (some (.Name y py)) spos.line X.env = pure true := by exact sw_true rfl rfl rfl (by decide +kernel))
    (hf : ∀ x, foldedSetIterable iter X.env x = pure x := by intro _; rfl) (hN0 : X.N = N0 := by rfl) (hs0 : X.env.scope = sc0 := by rfl) : S1 X (.Assign [.Name y py] (.ListComp elt [⟨tg, iter, ifs, 0⟩] scope pos) spos) δ P := .mk fun Gb Hb G H σ D E F pins s I => by
  refine (ps_setLc (own := own) (g := fun v σ H Q => ∀ (s : Shared) (H0 : Hp) (C : Addr) (cl : List (Str × Addr)) (fp : List Addr), rG (X.blk s H0 scope (compEnvC scope cl C X.env) fp) tg v σ H Q)
    (tt := fun σ H Q => ∀ (s : Shared) (H0 : Hp) (C : Addr) (cl : List (Str × Addr)) (fp : List Addr), rTs (X.blk s H0 scope (compEnvC scope cl C X.env) fp) ifs σ H Q)
    (te := fun σ H Q => ∀ (s : Shared) (H0 : Hp) (C : Addr) (cl : List (Str × Addr)) (fp : List Addr), rE (X.blk s H0 scope (compEnvC scope cl C X.env) fp) elt σ H Q) hc nd hy hyl hsw (canI X tg iter) (by rw [hN0, hs0]; exact blkOk_by ok)
    (fun s H C cl fp => ⟨fun pins s' σ' H' v u Q' I' r' h => h s H C cl fp pins s' u I' r'⟩) (fun s H C cl fp => ⟨fun pins s' σ' H' Q' I' h => h s H C cl fp pins s' I'⟩) (fun s H C cl fp => ⟨fun pins s' σ' H' Q' I' h => h s H C cl fp pins s' I'⟩) hf).run pins s σ H D I ?_
  refine lc_read (b := b) (g := g) hi hn E ?_ fun i hlt => ⟨dl i, fun Gb Hb G H v E' q' Q' k s H0 C cl fp => hg s H0 C cl fp i hlt Gb Hb G H σ v E' q' Q' k, fun Gb Hb G H σ' E' Q' k s H0 C cl fp => ht s H0 C cl fp i hlt Gb Hb G H σ' E' Q' k, fun hb Gb Hb G H σ' E' Q' k s H0 C cl fp => he s H0 C cl fp i hlt hb Gb Hb G H σ' E' Q' k⟩
  cases fz with
  | true => exact Post.freeze fun v G1 H1 g1 q1 => F.nx _ h _ G1 H1 g1.g ((E.mono g1).set q1)
  | false => exact fun l xs G1 H1 g1 n1 n2 n3 q1 => F.nx _ h _ G1 H1 g1.g ((E.mono g1).setOwn (Evl.fresh_back E.gr.h n1) n2 n3 q1 fun j es hj h1 h2 => by
    obtain ⟨l', xs', f1, f2, f3, f4, f5⟩ := E.ow j es h1
    rw [f1] at h2
    cases h2
    rw [n1] at f4
    cases f4)
end
end DL

/-! DL6: the defs of a text and their facts. -/
namespace DL
open PySem L2 PySem.Spec PyProof.Rows
open Evl (Ex)
section
variable {base : Heap} {mg : Str → Option Value} {K : PySem.W.Frag} {P : Program} {w : World}
/-- a def of the text, without defaults -/
structure DefT (K : PySem.W.Frag) (mg : Str → Option Value) (x : Str) (st : Stmt) (ps : List Str) : Prop where
  ex : ∃ f fd, mg x = some (.ref f) ∧ Fun K x x st f fd ∧ Binds K fd ps []
theorem cal_D {x : Str} {st : Stmt} {N ps : List Str} {k : Nat} {R : List D → Res → Prop} (T : DefT K mg x st ps) (S : FnScope N ps (defScope st)) (hl : ∀ ds r, R ds r → ds.length = ps.length)
    (hb : ∀ Z : Site, Room k (bx P w K mg base N x (defScope st) Z).A → ∀ ds r, R ds r → Ss (bx P w K mg base N x (defScope st) Z) (defBody st) (startD N.length ds) (FnEnd r)) : Cal P w K mg base (k + 1) x R := by
  obtain ⟨f, fd, h1, h2, h3⟩ := T.ex
  exact cal_of h1 h2.kp (fn_D h2 S hl hb) h3
theorem defT {x : Str} {st : Stmt} {ps : List Str} {f : Addr} {oc : Value} {od an : Option Addr} {osl : Array (Option Value)} {kV doc pm cdv ct : Value} (m : mg x = some (.ref f))
    (l : K.lookup f = some ⟨oc, od, .func (PySem.W.fnOf x x (defArgs st) (defBody st) (defScope st) .none kV doc pm an cdv ct), osl⟩) (c : PySem.W.codeIn K cdv x = true) (k : PySem.W.keepIn K (.ref f) = true)
    (b : ∀ (kV doc pm : Value) (an : Option Addr) (cdv ct : Value) (us : List Value), us.length = ps.length → bindArgs (PySem.W.fnOf x x (defArgs st) (defBody st) (defScope st) .none kV doc pm an cdv ct) ⟨us, []⟩ = pure (ps.zip us)) : DefT K mg x st ps :=
  ⟨f, _, m, fun_mk l c k, (fun_mk l c k).binds b⟩
/-- a def whose last parameter has a default -/
structure DefD (K : PySem.W.Frag) (mg : Str → Option Value) (x : Str) (st : Stmt) (ps : List Str) (dv : V) : Prop where
  ex : ∃ f fd us, mg x = some (.ref f) ∧ FunD K x x (defArgs st) (defBody st) (defScope st) [dv] [] f fd ∧ Binds K fd ps [] ∧ Vals [dv] us ∧ Binds K fd ps us
theorem cal_DD {x : Str} {st : Stmt} {N ps : List Str} {k : Nat} {R : List D → Res → Prop} {dv : V} (T : DefD K mg x st ps dv) (S : FnScope N ps (defScope st)) (hl : ∀ ds r, R ds r → ds.length = ps.length)
    (hb : ∀ Z : Site, Room k (bx P w K mg base N x (defScope st) Z).A → ∀ ds r, R ds r → Ss (bx P w K mg base N x (defScope st) Z) (defBody st) (startD N.length ds) (FnEnd r)) : Cal P w K mg base (k + 1) x R := by
  obtain ⟨f, fd, us, h1, h2, h3, h4, h5⟩ := T.ex
  exact cal_of h1 h2.kp (fn_DD h2 S hl hb) h3
theorem cal_DD1 {x : Str} {st : Stmt} {N ps : List Str} {k : Nat} {R : List D → Res → Prop} {dv : V} {d : D} (hd : ∀ G, Dv K G dv d) (T : DefD K mg x st ps dv) (S : FnScope N ps (defScope st)) (hl : ∀ ds r, R ds r → ds.length = ps.length)
    (hb : ∀ Z : Site, Room k (bx P w K mg base N x (defScope st) Z).A → ∀ ds r, R ds r → Ss (bx P w K mg base N x (defScope st) Z) (defBody st) (startD N.length ds) (FnEnd r)) : Cal P w K mg base (k + 1) x (fun ds r => R (ds ++ [d]) r) := by
  obtain ⟨f, fd, us, h1, h2, h3, h4, h5⟩ := T.ex
  exact ⟨f, fd, ps, [dv], us, [d], R, h1, h2.kp, fn_DD h2 S hl hb, h5, h4, fun G => .cons (hd G) .nil, fun ds r h => h⟩
theorem defD {x : Str} {st : Stmt} {ps : List Str} {f T : Addr} {oc : Value} {od an : Option Addr} {osl : Array (Option Value)} {kV doc pm cdv ct : Value} {dv : V} {o : Obj} {u : Value} {n : Nat} (m : mg x = some (.ref f))
    (l : K.lookup f = some ⟨oc, od, .func (PySem.W.fnOf x x (defArgs st) (defBody st) (defScope st) (.ref T) kV doc pm an cdv ct), osl⟩) (c : PySem.W.codeIn K cdv x = true) (k : PySem.W.keepIn K (.ref f) = true)
    (lT : K.lookup T = some o) (oT : o.data = .seq #[u] n) (ru : RelV dv u)
    (b : ∀ (T : Addr) (kV doc pm : Value) (an : Option Addr) (cdv ct : Value) (us its : List Value), us.length = ps.length → its.length = 1 →
      ∃ k, bindArgs (PySem.W.fnOf x x (defArgs st) (defBody st) (defScope st) (.ref T) kV doc pm an cdv ct) ⟨us, []⟩ = seqItems? (.ref T) >>= k ∧ k (some its.toArray) = pure (ps.zip (us ++ its.drop 1)))
    (b1 : ∀ (T : Addr) (kV doc pm : Value) (an : Option Addr) (cdv ct : Value) (us its : List Value), us.length + 1 = ps.length → its.length = 1 →
      ∃ k, bindArgs (PySem.W.fnOf x x (defArgs st) (defBody st) (defScope st) (.ref T) kV doc pm an cdv ct) ⟨us, []⟩ = seqItems? (.ref T) >>= k ∧ k (some its.toArray) = pure (ps.zip (us ++ its.drop 0))) (hp : 0 < ps.length) : DefD K mg x st ps dv := by
  have F : FunD K x x (defArgs st) (defBody st) (defScope st) [dv] [] f (PySem.W.fnOf x x (defArgs st) (defBody st) (defScope st) (.ref T) kV doc pm an cdv ct) :=
    ⟨⟨oc, od, .ref T, kV, doc, pm, an, cdv, ct, osl, rfl, l, c, .inr ⟨by simp, T, o, [u], n, rfl, lT, oT, .cons ru .nil⟩, .inl rfl⟩, k⟩
  obtain ⟨us, v, q⟩ := F.binds1 (ps := ps) (ps.length - 1) 0 (by simp) (by simp; omega) (fun T kV doc pm an cdv ct us its h1 h2 => b1 T kV doc pm an cdv ct us its (by omega) h2)
  obtain ⟨us', v', q'⟩ := F.binds1 (ps := ps) ps.length 1 (by simp) (by simp) (fun T kV doc pm an cdv ct us its h1 h2 => b T kV doc pm an cdv ct us its h1 h2)
  cases v'
  exact ⟨f, _, us, m, F, q', v, q⟩
/-- the law's own promise, from data -/
def spLaw (K : PySem.W.Frag) : Sp := fun args H Q _ => ∃ (a : Addr) (ns : List Int), args = [.ref a] ∧ SqL K H a (ns.map V.int) ∧ ns.length ≤ 63 ∧ ∀ H', Q (.bl true) H'
def R_law (ds : List D) (r : Res) : Prop := ∃ ns : List Int, ds = [.scr ns] ∧ ns.length ≤ 63 ∧ r = .val (.bl true)
theorem law_of {k : Nat} {f : Addr} {fd : FuncData} {ps : List Str} (F : FnOk P w K mg base CX0 k f fd ps (spD K R_law)) : FnOk P w K mg base CX0 k f fd ps (spLaw K) := F.imp fun vs H Q E ⟨a, ns, e, hs, hl, q⟩ =>
  ⟨H, [.scr ns], .val (.bl true), Evl.Ex.refl _, by rw [e]; exact .cons (.scr hs) .nil, ⟨ns, rfl, hl, rfl⟩, fun v G' H' g h => by cases h; exact q H'⟩
theorem walk {l : PySem.W.OpenLaw} {q : Program} {loose : List Str} {XP : (Str → Option Value) → Heap → Prop} {YP : World → Heap → Prop} {d : DefRec} {Kp : Params → PySem.W.Frag} {k : Nat} {x : Str} (hk : k ≤ 60) (hn : l.most = some 63) (hdf : d.params.defaults = [])
    (hY : ∀ (w : World) (h : Heap), YP w h → (Kp w.params).In h)
    (F : ∀ (w : World) (mg : Str → Option Value) (fa : Addr) (h : Heap), (Kp w.params).In h → h.Ns mainGlobals mg → mg d.name = some (.ref fa) →
      ∃ fd : FuncData, (∀ (s : Shared) (u : Value), BindsTo s fd ⟨[u], []⟩ [(x, u)]) ∧ ∀ base : Heap, (Kp w.params).In base → base.Ns mainGlobals mg → FnOk l.prog w (Kp w.params) mg base CX0 k fa fd [x] (spD (Kp w.params) R_law)) :
    PySem.W.WalkO q loose XP YP l.row.toRowW d [] (fun g us => PySem.call g us) :=
  L2.walk_of (n := 63) (k := k) (x := x) (CX := fun _ => CX0) (sp := fun w => spLaw (Kp w.params)) hn (by decide) hdf (Room.mono (k := 60) ⟨rfl, by decide, by decide⟩ hk) hY (fun w mg fa h a b c => by
    obtain ⟨fd, h1, h2⟩ := F w mg fa h a b c
    exact ⟨fd, h1, fun base i1 i2 => law_of (h2 base i1 i2)⟩) (fun _ _ a ns hl _ hS => ⟨a, ns, rfl, hS, hl, fun _ => rfl⟩) fun _ _ _ _ _ z => z
end
end DL

/-! DL7: ranges of great numbers. -/
namespace DL
open PySem L2 PySem.Spec PyProof.Rows
open Evl (Ex)
/-- the iterator over a range that is too great for the small kind: what it keeps, gives and how it ends -/
theorem turn_longrange {P : Program} {w : World} {K : PySem.W.Frag} {tg : Expr} (r : Addr) (lo : Int) (n : Nat) :
    Turn P w K tg (Itr lo n) [r] r (fun i h => IsLongIter h r (lo + (i : Nat) * 1) ((n : Int) - (i : Nat)) 1) := by
  constructor
  · exact List.mem_singleton.mpr rfl
  · intro i h here b isr
    cases List.mem_singleton.mp isr
    exact ⟨_, here, fun v bad => nomatch (show Data.fields _ = Data.cell v from bad)⟩
  · exact fun i h h' here same => same r (List.mem_singleton.mpr rfl) _ here
  · rintro X rfl rfl rfl calm i pins s σ H E I free here more
    have F := free r (List.mem_singleton.mpr rfl)
    refine (Walks.longrange (prog := X.prog) (w := X.w) (I.ok.hd calm) r lo 1 n).item i s _ _ more here ?_
    rintro _ g c ⟨t, rfl⟩ there kept
    have J := I.turned (h' := g) (t' := c) (fun b o ne at_b => kept b o (fun z => ne (List.mem_singleton.mp z)) at_b) F.1 F.2.1 F.2.2.2.1 F.2.2.2.2.1 F.2.2.2.2.2
    refine ⟨_, rfl, go_of (n := "longrange_iterator") (s := { s with heap := g, toks := c }) there rfl rfl (by decide) ?_⟩
    exact ⟨.int (lo + i), H, J, ⟨t, by rw [Int.mul_one]⟩, ⟨rfl, rfl⟩, there, fun b isr => (free b isr).1⟩
  · rintro X rfl rfl rfl calm i pins s σ H E I free here none_left
    have F := free r (List.mem_singleton.mpr rfl)
    have none_left : n ≤ i := none_left
    refine wpAny_pyNext_long_end (I.ok.hd calm) here (by omega) fun g kept => ?_
    exact ⟨rfl, I.turned (t' := s.toks) (fun b o ne at_b => kept b o ne at_b) F.1 F.2.1 F.2.2.2.1 F.2.2.2.2.1 F.2.2.2.2.2⟩
  · exact fun _ _ _ _ _ here go => wpAny_pyIter_longiter here go
section
variable {X : Cx} {tg : Expr}
/-- the object of range(lo, hi) -/
abbrev rngO (lo hi : Int) (t u v : Tok) : Obj := { cls := .type "range", data := .fields #[.int lo t, .int hi u, .int 1 v] }
theorem rng_size (lo hi : Int) : Builtin.Range.rangeSize lo hi 1 = ((hi - lo).toNat : Nat) - ((0 : Nat) : Int) := by
  rw [rangeSize_one]
  split <;> omega
/-- iter(range(lo, hi)) of a range laid just now, small or great -/
theorem range_itA {pins : List (Addr × Obj)} {σ : L2.St} {H : Hp} {s : Shared} {R : It → Hp → Prop} {E : Value → Shared → Prop} {lo hi : Int} {t u v : Tok} {c : Nat} (I : Inv X pins σ H s)
    (q : R (Itr lo (hi - lo).toNat) H) :
    wpAny (model X.prog X.w) X.A (pyIter (.ref s.heap.objs.size)) (PIE X pins σ tg R) E { s with heap := s.heap.push (rngO lo hi t u v), toks := c } := by
  have J : Inv X pins σ H { s with heap := s.heap.push (rngO lo hi t u v), toks := c } := I.kept fun _ _ => Heap.get?_push_of_some _
  have z : lo = lo + ((0 : Nat) : Int) * 1 := by simp
  have free : ∀ b ∈ [(s.heap.push (rngO lo hi t u v)).objs.size], FpOk X pins H b := fun b isr => by
    cases List.mem_singleton.mp isr
    exact J.fpOk (Nat.le_refl _) (J.hok.fresh (Nat.le_refl _))
  by_cases few : Builtin.Range.small lo hi 1 = true
  · refine wpAny_pyIter_range (IsRange.new ..) few ⟨_, _, _, _, H, rfl, J.kept (t' := c) fun _ _ => Heap.get?_push_of_some _, turn_range _ lo (hi - lo).toNat, ?_, free, q⟩
    unfold IsRangeIter
    rw [← z, ← rng_size]
    apply Heap.get?_push_size _ rfl
  · refine wpAny_pyIter_longrange (IsRange.new ..) (Bool.eq_false_iff.mpr few) ⟨_, _, _, _, H, rfl, J.kept (t' := c) fun _ _ => Heap.get?_push_of_some _, turn_longrange _ lo (hi - lo).toNat, ?_, free, q⟩
    unfold IsLongIter
    rw [← z, ← rng_size]
    apply Heap.get?_push_size _ rfl
def iRng2A (ta : TA) : TI := fun σ H R => ta σ H fun vs H1 => ∃ i j : Int, vs = [.int i, .int j] ∧ R (Itr i (j - i).toNat) H1
theorem pi_range2A {a b : Expr} {ta : TA} {p pos : Pos} (gl : Gl X "range") (mg : X.mg "range" = none) (two : PA X [a, b] ta) (st : starEach [a, b] X.env = [(false, eval a X.env), (false, eval b X.env)]) (st2 : starEach [b] X.env = [(false, eval b X.env)]) :
    PI X tg (.Call (.Name "range" p) [a, b] [] pos) (iRng2A ta) := by
  constructor
  intro pins s σ H R I h
  refine Call_ (ld_blt I gl mg boot_range ?_)
  refine PyProof.Rows.callWith_type1 ?_ (by rw [st, st2]) (by rw [st2]; rfl)
  refine thn (two.run pos pins s σ H _ I h) ?_
  rintro us s1 ⟨_, H1, J, rel, i, j, rfl, q⟩
  match us, rel with
  | [_, _], .cons ⟨_, rfl⟩ (.cons ⟨_, rfl⟩ .nil) => exact call_range_2 (range_itA J q)
theorem sr_range2 {δ : List Hold} {a b : Expr} {p pos : Pos} {i j : Int} (hm : X.mg "range" = none) (ha : Ea X [a, b] δ [.int i, .int j]) (hg : Gl X "range" := by rfl) (hs : starEach [a, b] X.env = [(false, eval a X.env), (false, eval b X.env)] := by rfl) (hs2 : starEach [b] X.env = [(false, eval b X.env)] := by rfl) :
    Sr X tg (.Call (.Name "range" p) [a, b] [] pos) δ (j - i).toNat (fun k => .int (i + k)) :=
  sr_of (pi_range2A hg hm (canA X [a, b]) hs hs2) fun Gb Hb G H σ E R k => ha Gb Hb G H σ E _ fun vs G1 H1 g1 q1 => by
    cases q1 with
    | cons q1 q2 => cases q2 with
      | cons q2 q3 => cases q3; cases q1; cases q2; exact ⟨i, j, rfl, k _ G1 H1 g1 src_rng⟩
/-- lists added, repeated -/
theorem e_cat {δ : List Hold} {a b : Expr} {pos : Pos} {ds es : List D} (ha : Ee X a δ (.lst ds)) (hb : Ee X b δ (.lst es)) (hz : ds.length + es.length ≤ sizeLine) : Er X (.BinOp a .Add b pos) δ (.new (ds ++ es)) :=
  e_of (pe_op op_cat (canE X a) (canE X b)) fun Gb Hb G H σ E Q k => ha Gb Hb G H σ E _ fun v G1 H1 g1 q1 => hb Gb Hb G1 H1 σ (E.mono g1) _ fun u G2 H2 g2 q2 => by
    have q1 := q1.mono g2.g
    cases q1 with
    | lst h1 r1 =>
      cases q2 with
      | lst h2 r2 => exact ⟨_, _, _, _, rfl, rfl, g2.i _ _ h1, g2.i _ _ h2, by rw [r1.length, r2.length]; exact hz, post_new (k.mono (g1.trans g2)) g2.i (r1.append r2)⟩
end
end DL

/-! DL8: list(reversed(a list)), lists repeated. -/
namespace DL
open PySem L2 PySem.Spec PyProof.Rows RT
open Evl (Ex)
section
variable {w : World} {prog : Program} {s : Shared} {A : Around} {E : Value → Shared → Prop}
/-- a list object: its values, its room -/
abbrev lobj (ys : Array Value) (c : Nat := 0) : Obj := ⟨.type "list", none, .seq ys c, #[]⟩
/-- what the list N holds once the list xs is gone through from behind -/
def Behind (N : Addr) (xs : Array Value) (g : Heap) (ys : Array Value) : Prop := (∃ c, g.get? N = some (lobj ys c)) ∧ ItemsOf (fun i v => xs[xs.size - 1 - i]? = some v) ys xs.size
theorem items_at {N : Addr} {ys : Array Value} {c : Nat} {Q : Array Value → Shared → Prop} (here : s.heap.get? N = some (lobj ys c)) (q : Q ys s) : wpAny (model prog w) A (Builtin.List.listItems (.ref N)) Q E s :=
  wpAny_bind (wpAny_seqItems here rfl (wpAny_pure q))
/-- an iterator from behind tells no length that would make room -/
theorem hint_behind {j l : Addr} {k : Int} {Q : Bool → Shared → Prop} (here : s.heap.IsRevIter j l k) (q : Q false s) : wpAny (model prog w) A (Builtin.List.listLengthHint (.ref j)) Q E s := by
  have T := here.typeIs
  apply wpAny_bind
  apply wpAny_specialOf T nolen_lri
  apply wpAny_bind (m := specialOf (Value.ref j) (Str.ofString "__length_hint__"))
  apply wpAny_specialOf T hint_lri
  generalize nm : ("list_reverseiterator.__length_hint__" : String) = id0
  wp_delta
  have cut : splitId id0 = some ("list_reverseiterator", "__length_hint__") := nm ▸ (by decide +kernel)
  rw [cut]
  cases nm
  exact wpAny_bind (wpAny_isInstance (b := true) T (by rw [isSubtype_type]; kernel_rfl) (wpAny_pure q))
/-- the loop of extend -/
theorem loop_behind {R : Result → Shared → Prop} {j l N : Addr} {xs : Array Value} {c : Nat} {back : Value} (calm : A.handled = none) (at_j : s.heap.IsRevIter j l ((xs.size : Int) - 1)) (at_l : s.heap.IsList l xs) (jl : l ≠ j) (few : xs.size ≤ sizeLine)
    (at_N : s.heap.get? N = some (lobj #[] c)) (Nj : N ≠ j) (Nl : N ≠ l)
    (go : ∀ g t ys, (∀ b o, b ≠ N → b ≠ j → s.heap.get? b = some o → g.get? b = some o) → Behind N xs g ys → R (.ok (.ret back)) { s with heap := g, toks := t }) :
    codeAny (model prog w) A (.builtin "list.extend.loop" ⟨[.ref N, .ref j, back], []⟩) R s := by
  have away : N ∉ [j, l] := fun z => (List.mem_cons.mp z).elim Nj fun y => Nl (List.mem_singleton.mp y)
  have first : s.heap.IsRevIter j l ((xs.size : Int) - 1 - ((0 : Nat) : Int)) := by simpa using at_j
  refine codeAny_extend_loopS (Walks.listRev (prog := prog) (w := w) (A := A.in1) calm j l jl xs).toS few N away back xs.size 0 s #[] c rfl (Nat.zero_le _) ⟨Nat.zero_le _, first, at_l⟩ at_N (ItemsOf.nil _) ?_
  intro t ys c' mv full all
  rw [Moved.eq_with mv]
  exact go t.heap t.toks ys (fun b o b1 b2 z => mv.heap b o (by simp [b1, b2]) z) ⟨⟨c', full⟩, all⟩
/-- list(an iterator from behind) -/
theorem call_list_behind {j l : Addr} {xs : Array Value} {Q : Value → Shared → Prop} (calm : A.handled = none) (at_j : s.heap.IsRevIter j l ((xs.size : Int) - 1)) (at_l : s.heap.IsList l xs) (jl : l ≠ j) (few : xs.size ≤ sizeLine)
    (go : ∀ g t ys, (∀ b o, b ≠ j → s.heap.get? b = some o → g.get? b = some o) → Behind s.heap.objs.size xs g ys → Q (.ref s.heap.objs.size) { s with heap := g, toks := t }) :
    wpAny (model prog w) A (call (.type "list") [.ref j]) Q E s := by
  have j_old : j < s.heap.objs.size := at_j.elim fun _ z => Heap.lt_size z.1
  have l_old : l < s.heap.objs.size := at_l.elim fun _ z => Heap.lt_size z.1
  apply callType_codes (Q₁ := fun o t => o = .ref s.heap.objs.size ∧ t = { s with heap := s.heap.push (lobj #[]) }) F.called_list (F.typeCall_list_1 _) F.entry_list_init (code_list_new _ (And.intro rfl rfl))
  rintro _ _ ⟨rfl, rfl⟩
  have born : (s.heap.push (lobj #[])).get? s.heap.objs.size = some (lobj #[]) := Heap.get?_push_size _ rfl
  refine ⟨⟨_, born, rfl⟩, F.args_list_init_2 _ _, ?_⟩
  show wpAny _ _ (Builtin.List.listItems (.ref s.heap.objs.size) >>= fun was => updateSeq s.heap.objs.size (fun _ => #[]) >>= fun _ => letGo was.toList.reverse >>= fun _ =>
    Builtin.List.listExtendWith (.ref s.heap.objs.size) (.ref j) .none) _ _ _
  apply wpAny_bind
  apply items_at born
  apply wpAny_bind
  apply wpAny_updateSeq born rfl
  apply wpAny_bind
  apply wpAny_letGo
  have bare := Heap.get?_update_self (Obj.mapSeq fun _ => (#[] : Array Value)) born rfl
  have old : ∀ b o, b ≠ s.heap.objs.size → s.heap.get? b = some o → ((s.heap.push (lobj #[])).update s.heap.objs.size (Obj.mapSeq fun _ => (#[] : Array Value))).get? b = some o := fun b o ne z =>
    (Heap.get?_update_other _ _ ne.symm).trans (Heap.get?_push_of_some _ z)
  generalize (s.heap.push (lobj #[])).update s.heap.objs.size (Obj.mapSeq fun _ => (#[] : Array Value)) = h at bare old
  have j_ne := Nat.ne_of_gt j_old
  have l_ne := Nat.ne_of_gt l_old
  have at_j' : h.IsRevIter j l ((xs.size : Int) - 1) := at_j.at fun o => old j o j_ne.symm
  have at_l' : h.IsList l xs := at_l.elim fun o z => ⟨o, old l o l_ne.symm z.1, z.2⟩
  have other : Builtin.List.listSameRef (.ref s.heap.objs.size) (.ref j) = false := by simpa [Builtin.List.listSameRef] using j_ne
  apply wpAny_bind
  apply wpAny_typeOf (T := "list_reverseiterator") (Heap.IsRevIter.typeIs (s := { s with heap := h }) at_j')
  rw [if_neg (other ▸ (by decide))]
  apply wpAny_bind
  apply wpAny_pyIter_revIter at_j'
  apply wpAny_bind
  apply wpAny_holding
  apply hint_behind at_j'
  rw [if_neg (by decide)]
  refine wpAny_pure ⟨plainId_quiet F.plain_extend_loop _, loop_behind (A := A.in1) (s := { s with heap := h }) calm at_j' at_l' jl few bare j_ne l_ne fun g t ys kept all => ⟨rfl, ?_⟩⟩
  exact go g t ys (fun b o b1 z => kept b o (Nat.ne_of_lt (Heap.lt_size z)) b1 (old b o (Nat.ne_of_lt (Heap.lt_size z)) z)) all
end
section
variable {X : Cx} {δ : List Hold} {e : Expr} {d : D} {ds : List D}
def tLstRev (K : PySem.W.Frag) (te : TE) : TE := fun σ H Q => te σ H fun v H1 => ∃ (a : Addr) (xs : List V), v = .ref a ∧ SqL K H1 a xs ∧ ∀ q, H1 q = none → Q (.ref q) (upd H1 q (.lst xs.reverse))
/-- list(reversed(e)) -/
theorem pe_lstRev {te : TE} {p p2 pos pos2 : Pos} (calm : X.calm = true) (gl : Gl X "list") (mg : X.mg "list" = none) (gr : Gl X "reversed") (mr : X.mg "reversed" = none) (run : PE X e te)
    (one : starEach [e] X.env = (false, eval e X.env) :: starEach [] X.env)
    (two : starEach [.Call (.Name "reversed" p2) [e] [] pos2] X.env = (false, eval (.Call (.Name "reversed" p2) [e] [] pos2) X.env) :: starEach [] X.env) :
    PE X (.Call (.Name "list" p) [.Call (.Name "reversed" p2) [e] [] pos2] [] pos) (tLstRev X.K te) := by
  constructor
  intro pins s σ H Q I h
  refine Call_ (ld_blt I gl mg boot_list ?_)
  refine PyProof.Rows.callWith_type1 ?_ two rfl
  refine args_cons ?_ two
  refine Call_ (ld_blt I gr mr PyProof.Rows.boot_reversed ?_)
  refine PyProof.Rows.callWith_type1 ?_ one rfl
  refine args_cons (thn (run.run pins s σ H _ I h) ?_) one
  rintro _ s1 ⟨_, H1, J, at_v, a, xs, rfl, ql, q⟩
  cases at_v
  apply args_nil
  obtain ⟨its, vs, at_a, small⟩ := J.list ql
  apply call_reversed_list at_a.isList
  apply args_nil
  have few : its.toArray.size ≤ sizeLine := by simpa [← vs.length] using small
  have a_old : a < s1.heap.objs.size := at_a.isList.elim fun _ z => Heap.lt_size z.1
  have free := J.fpOk (H' := H1) (Nat.le_refl s1.heap.objs.size) (J.hok.fresh (Nat.le_refl _))
  generalize it : revObj a ((its.toArray.size : Int) - 1) = ri
  have J2 : Inv X pins σ H1 { s1 with heap := s1.heap.push ri } := J.kept (t' := s1.toks) fun _ _ => Heap.get?_push_of_some _
  refine call_list_behind (s := { s1 with heap := s1.heap.push ri }) (J.ok.hd calm) (it ▸ ⟨_, Heap.get?_push_size _ rfl, rfl, rfl⟩) (at_a.isList.push _) (Nat.ne_of_lt a_old) few ?_
  intro g t ys kept all
  generalize end_ : (s1.heap.push ri).objs.size = N at all
  have born := Nat.le_of_eq end_
  obtain ⟨⟨c, at_N⟩, its_N⟩ := all
  have made : ObjOk X.prog X.w (upd H1 N (.lst xs.reverse)) g N (.lst xs.reverse) := ⟨by simpa using small, ys.toList, c, vals_rev vs its_N, by rw [Array.toArray_toList]; exact at_N⟩
  refine ⟨.ref N, _, J2.turnedNew (t' := t) (ch := [s1.heap.objs.size]) (fun b o out z => kept b o (fun y => out (y ▸ List.mem_singleton.mpr rfl)) z) (fun b isr => ?_) born made, rfl, q N (J2.hok.fresh born)⟩
  cases List.mem_singleton.mp isr
  exact free
theorem e_lstRev {p p2 pos pos2 : Pos} (hc : X.calm = true) (hm : X.mg "list" = none) (hm2 : X.mg "reversed" = none) (ha : Ee X e δ d) (hi : d.litems = some ds := by rfl) (hg : Gl X "list" := by rfl) (hg2 : Gl X "reversed" := by rfl) (one : starEach [e] X.env = (false, eval e X.env) :: starEach [] X.env := by rfl)
    (two : starEach [.Call (.Name "reversed" p2) [e] [] pos2] X.env = (false, eval (.Call (.Name "reversed" p2) [e] [] pos2) X.env) :: starEach [] X.env := by rfl) :
    Er X (.Call (.Name "list" p) [.Call (.Name "reversed" p2) [e] [] pos2] [] pos) δ (.new ds.reverse) :=
  e_of (pe_lstRev hc hg hm hg2 hm2 (canE X e) one two) fun Gb Hb G H σ E Q k => ha Gb Hb G H σ E _ fun v G1 H1 g1 q1 => by
    obtain ⟨a, xs, rfl, hq, r⟩ := q1.lsq g1.i hi
    exact ⟨a, xs, rfl, hq, post_new (k.mono g1) g1.i r.reverse⟩
/-- [x] * k -/
theorem DvAll.rep {K : PySem.W.Frag} {G : Hp} {vs : List V} (r : DvAll K G vs ds) : ∀ n : Nat, DvAll K G (List.replicate n vs).flatten (List.replicate n ds).flatten
  | 0 => .nil
  | n + 1 => r.append (DvAll.rep r n)
theorem e_rep {a b : Expr} {pos : Pos} {k : Int} (ha : Ee X a δ (.lst ds)) (hb : Ee X b δ (.int k)) (h1 : -(2 ^ 63) ≤ k) (h2 : k < 2 ^ 63) (hz : ds.length * k.toNat ≤ sizeLine) : Er X (.BinOp a .Mult b pos) δ (.new (List.replicate k.toNat ds).flatten) :=
  e_of (pe_op op_rep (canE X a) (canE X b)) fun Gb Hb G H σ E Q q => ha Gb Hb G H σ E _ fun v G1 H1 g1 q1 => hb Gb Hb G1 H1 σ (E.mono g1) _ fun u G2 H2 g2 q2 => by
    have q1 := q1.mono g2.g
    cases q2
    cases q1 with
    | lst h1' r1 => exact ⟨_, k, _, rfl, rfl, g2.i _ _ h1', h1, h2, by rw [r1.length]; exact hz, post_new (q.mono (g1.trans g2)) g2.i (r1.rep _)⟩
end
end DL

namespace DL
open PySem L2 PySem.Spec PyProof.Rows
open Evl (Ex)
section
variable {X : Cx} {a b rest : List Stmt} {c : Expr} {δ : List Hold} {pos : Pos} {P : Out → Prop} {k : Bool}
/-- if without else; both ways meet in J -/
theorem ss_whenJ (J : List Hold → Prop) (hc : Et X c δ k) (h1 : k = true → ∀ Q : Out → Prop, (∀ δ', J δ' → Q (.nx δ')) → Ss X a δ Q) (h2 : k = false → J δ) (h3 : ∀ δ', J δ' → Ss X rest δ' P) : Ss X (.If c a [] pos :: rest) δ P :=
  ss_when hc (fun q => h1 q (Thn X rest P) fun δ' j => h3 δ' j) fun q => h3 δ (h2 q)
theorem ss_ifJ (J : List Hold → Prop) (hc : Et X c δ k) (h1 : k = true → ∀ Q : Out → Prop, (∀ δ', J δ' → Q (.nx δ')) → Ss X a δ Q) (h2 : k = false → ∀ Q : Out → Prop, (∀ δ', J δ' → Q (.nx δ')) → Ss X b δ Q) (h3 : ∀ δ', J δ' → Ss X rest δ' P) : Ss X (.If c a b pos :: rest) δ P :=
  ss_if hc (fun q => h1 q (Thn X rest P) fun δ' j => h3 δ' j) fun q => h2 q (Thn X rest P) fun δ' j => h3 δ' j
end
end DL

/-! DL10: objects; tuple.index. -/
namespace DL
open PySem L2 PySem.Spec PyProof.Rows
open Evl (Ex)
/-! ### t.index(x), deep -/
section
variable {X : Cx}
/-- where the first of `ds` stands that equals `d` -/
structure FirstAt (ds : List PyData) (d : PyData) (j : Nat) : Prop where
  lt : j < ds.length
  hit : PyData.eqv ds[j] d = true
  miss : ∀ (m : Nat) (h : m < ds.length), m < j → PyData.eqv ds[m] d = false
theorem FirstAt.of {ds : List PyData} {d z : PyData} {j : Nat} (at_j : ds[j]? = some z) (same : PyData.eqv z d = true) (none_ahead : ∀ (m : Nat) (y : PyData), m < j → ds[m]? = some y → PyData.eqv y d = false) : FirstAt ds d j := by
  obtain ⟨lt, rfl⟩ := List.getElem?_eq_some_iff.mp at_j
  exact ⟨lt, same, fun m h mj => none_ahead m _ mj (List.getElem?_eq_getElem h)⟩
/-- t.index(y): t and y data, y's like stands at j first -/
def rIndexT (K : PySem.W.Frag) : V → List V → Hp → VK → Prop := fun x xs H Q => ∃ (a : Addr) (y : V) (d : PyData) (ds : List PyData) (j : Nat), (x = V.ref a ∧ xs = [y]) ∧ (Dp K H (V.ref a) (.tuple ds) ∧ SeqAt.shaped (.tuple ds) = true) ∧
  (Dp K H y d ∧ SeqAt.shaped d = true) ∧ FirstAt ds d j ∧ Q (.int (j : Nat)) H
theorem mt_tindexD (roomy : X.A.units + 65 < cLine) : MtR X "tuple.index" (rIndexT X.K) := by
  rintro pins s σ H _ _ u us Q I ru rus ⟨a, y, d, ds, j, ⟨rfl, rfl⟩, ⟨tp, fine⟩, ⟨dp, okd⟩, at_j, q⟩
  cases ru
  match us, rus with
  | [uy], .cons ry .nil =>
    cases tp with
    | tup sq all =>
      obtain ⟨its, vs, ⟨⟨c, dt, da, sl⟩, here, hc, n, hd⟩, _⟩ := I.tuple sq
      cases hc
      cases hd
      obtain ⟨as, rs⟩ := Dp.readsAll I ds _ its all vs
      have lay : PyData.canLayAll0 ds = true := SeqAt.canLay_of_shaped fine
      have seen := SeqAt.readsAll_map ds its as lay rs
      have lt : j < its.toArray.size := by simpa [← seen] using at_j.lt
      refine call_meets PySem.F.slot_tuple_index ⟨_, here, rfl⟩ PySem.F.entry_tuple_index (PySem.F.args_tuple_index_2 _ _)
        (TI.tuple_indexAt a its.toArray n dt sl uy (fun v => PyData.eqv (SeqAt.readOf s.heap v) d) j lt ?hit ?miss) ⟨here, ?like, .int (j : Nat), H, I.tok _, ⟨_, rfl⟩, q⟩
      case hit => simpa [← seen] using at_j.hit
      case miss => exact fun m lm mj => by simpa [← seen] using at_j.miss m (by simpa [← seen] using lm) mj
      case like =>
        obtain ⟨bs, rd⟩ := Dp.reads I d y uy dp ry
        exact SeqAt.items_eqAt (A := X.A) (vs := its.toArray) (by simpa using rs) rd lay (SeqAt.canLay_of_shaped okd) (room_in_shaped okd roomy)
/-- a tuple that the text has written -/
structure KTup (K : PySem.W.Frag) (mg : Str → Option Value) (x : Str) (d : D) : Prop where
  ex : ∃ a o, mg x = some (.ref a) ∧ K.lookup a = some o ∧ o.cls = .type "tuple" ∧ o.dict = none ∧ ∀ G, Dv K G (.ref a) d
/-- W.index(e), W a tuple of the text -/
theorem e_tindex {x : Str} {np apos cpos : Pos} {e : Expr} {δ : List Hold} {d dW : D} {pds : List PyData} {j : Nat} {z : PyData} (h : KTup X.K X.mg x dW) (roomy : X.A.units + 65 < cLine) (hW : dW.py = .tuple pds) (fW : dW.flat = true) (oW : SeqAt.shaped (.tuple pds) = true)
    (run : Ee X e δ d) (od : okD d) (at_j : pds[j]? = some z) (same : PyData.eqv z d.py = true) (none_ahead : ∀ (m : Nat) (y : PyData), m < j → pds[m]? = some y → PyData.eqv y d.py = false)
    (gl : Gl X x := by rfl) (nd : (x == ("__debug__" : Str)) = false := by decide) (base : attributeBase (.Name x np) "index" X.env (eval (.Name x np) X.env) = eval (.Name x np) X.env := by rfl) (few : few1 X cpos e = true := by rfl)
    (row : (apos.endLine == cpos.line) = true := by rfl) (one : starEach [e] X.env = (false, eval e X.env) :: starEach [] X.env := by rfl) :
    Ee X (.Call (.Attribute (.Name x np) "index" apos) [e] [] cpos) δ (.int (j : Nat)) := by
  obtain ⟨a, o, m, look, cls, dict, val⟩ := h.ex
  have P := pe_bm PySem.F.plainAttrs_tuple PySem.F.slot_tuple_index PySem.F.type_tuple_index (mt_tindexD roomy) (pe_glob (v := .ref a) gl m rfl nd) (canA X [e]) base few row one rfl
  refine e_of P fun Gb Hb G H σ E Q q => ⟨.inr (.inl ⟨rfl, o, look, cls, dict⟩), (a_cons run a_nil one : Ea X [e] δ [d]) Gb Hb G H σ E _ ?_⟩
  rintro _ G1 H1 g1 (_ | ⟨r, _ | _⟩)
  exact ⟨a, _, d.py, pds, j, ⟨rfl, rfl⟩, ⟨hW ▸ (val H1).dp fW, oW⟩, ⟨(r.mono g1.i).dp od.1, od.2⟩, .of at_j same none_ahead, q _ _ _ g1 (.int _)⟩
end
/-! ### classes -/
def adr (mg : Str → Option Value) (x : Str) : Addr := match mg x with
  | some (.ref a) => a
  | _ => 0
theorem adr_eq {mg : Str → Option Value} {x : Str} {C : Addr} (m : mg x = some (.ref C)) : adr mg x = C := by unfold adr; rw [m]
structure ClsT (K : PySem.W.Frag) (mg : Str → Option Value) (x : Str) : Prop where
  m : mg x = some (.ref (adr mg x))
  cl : Cls K (adr mg x)
theorem clsT {K : PySem.W.Frag} {mg : Str → Option Value} {x : Str} {C : Addr} (m : mg x = some (.ref C)) (pg : PySem.W.plainGet K C Str.empty = true) (hd : PySem.W.hasDictIn K C = true) (po : PySem.W.plainOver K C = true) (sa : PySem.W.findIn K (.ref C) "__setattr__" = some (some (.builtin "object.__setattr__"))) : ClsT K mg x := by
  have e := adr_eq m
  exact ⟨by rw [e]; exact m, by rw [e]; exact ⟨pg, hd, po, sa⟩⟩
def NoA (K : PySem.W.Frag) (mg : Str → Option Value) (x f : Str) : Prop := NoAttr K (adr mg x) f
theorem noA {K : PySem.W.Frag} {mg : Str → Option Value} {x f : Str} {C : Addr} (m : mg x = some (.ref C)) (n : PySem.W.findIn K (.ref C) f = some none) : NoA K mg x f := by
  unfold NoA
  rw [adr_eq m]
  exact n
/-- a method -/
structure MetT (K : PySem.W.Frag) (mg : Str → Option Value) (x m qual : Str) (st : Stmt) (ps : List Str) : Prop where
  ex : ∃ f fd, Meth K (adr mg x) m f ∧ Fun K m qual st f fd ∧ Binds K fd ps []
theorem metT {K : PySem.W.Frag} {mg : Str → Option Value} {x m qual : Str} {st : Stmt} {ps : List Str} {C f : Addr} {oc : Value} {od an : Option Addr} {osl : Array (Option Value)} {kV doc pm cdv ct : Value} (hm : mg x = some (.ref C))
    (a : PySem.W.findIn K (.ref C) m = some (some (.ref f))) (i : PySem.W.isFn K (.ref f) = true)
    (l : K.lookup f = some ⟨oc, od, .func (PySem.W.fnOf m qual (defArgs st) (defBody st) (defScope st) .none kV doc pm an cdv ct), osl⟩) (c : PySem.W.codeIn K cdv qual = true) (k : PySem.W.keepIn K (.ref f) = true)
    (b : ∀ (kV doc pm : Value) (an : Option Addr) (cdv ct : Value) (us : List Value), us.length = ps.length → bindArgs (PySem.W.fnOf m qual (defArgs st) (defBody st) (defScope st) .none kV doc pm an cdv ct) ⟨us, []⟩ = pure (ps.zip us)) : MetT K mg x m qual st ps :=
  ⟨f, _, by rw [adr_eq hm]; exact ⟨a, i, k⟩, fun_mk l c k, (fun_mk l c k).binds b⟩
section
variable {base : Heap} {mg : Str → Option Value} {K : PySem.W.Frag} {P : Program} {w : World}
theorem mcal_D {x m qual : Str} {st : Stmt} {N ps : List Str} {k : Nat} {R : List D → Res → Prop} (c : ClsT K mg x) (T : MetT K mg x m qual st ps) (S : FnScope N ps (defScope st)) (hl : ∀ ds r, R ds r → ds.length = ps.length)
    (hb : ∀ Z : Site, Room k (bx P w K mg base N qual (defScope st) Z).A → ∀ ds r, R ds r → Ss (bx P w K mg base N qual (defScope st) Z) (defBody st) (startD N.length ds) (FnEnd r)) : Mcal P w K mg base (k + 1) (adr mg x) m R := by
  obtain ⟨f, fd, h1, h2, h3⟩ := T.ex
  exact ⟨c.cl, f, fd, ps, h1, fn_D h2 S hl hb, h3⟩
theorem Mcal.mono {k j : Nat} {C : Addr} {m : Str} {R : List D → Res → Prop} (M : Mcal P w K mg base k C m R) (h : k ≤ j) : Mcal P w K mg base j C m R := by
  obtain ⟨cl, f, fd, ps, h1, h2, h3⟩ := M
  exact ⟨cl, f, fd, ps, h1, h2.mono h, h3⟩
theorem Mcal.imp {k : Nat} {C : Addr} {m : Str} {R R' : List D → Res → Prop} (M : Mcal P w K mg base k C m R) (h : ∀ ds r, R' ds r → R ds r) : Mcal P w K mg base k C m R' := by
  obtain ⟨cl, f, fd, ps, h1, h2, h3⟩ := M
  exact ⟨cl, f, fd, ps, h1, h2.imp fun vs H Q E ⟨G, ds, r, a, b, c, d⟩ => ⟨G, ds, r, a, b, h ds r c, d⟩, h3⟩
end
/-! ### C(..) -/
def Kept (G H G' H' : Hp) (p : Addr) : Prop := Ex G G' ∧ Ex G' H' ∧ (∀ a o, a ≠ p → H a = some o → H' a = some o) ∧ ∀ b, H b ≠ none → G' b = G b
def InV (K : PySem.W.Frag) : Hp → Hp → List V → List D → Prop := fun G _ ws ds => DvAll K G ws ds
def InL (K : PySem.W.Frag) : Hp → Hp → List V → List D → Prop := fun G H ws ds => ∃ l xs es, ws = [V.ref l] ∧ ds = [D.lst es] ∧ SqL K H l xs ∧ DvAll K G xs es
/-- what an __init__ does: from arguments to attributes -/
def spI (K : PySem.W.Frag) (C : Addr) (A : Hp → Hp → List V → List D → Prop) (R : List D → List (Str × D) → Prop) : Sp := fun vs H Q _ => ∃ G p dx ws ds fs, vs = V.ref p :: ws ∧ Ex G H ∧ G p = none ∧ H p = some (.ins C dx []) ∧ A G H ws ds ∧ R ds fs ∧
  ∀ G' H' vfs, Kept G H G' H' p → H' p = some (.ins C dx vfs) → DvFs K G' vfs fs → Q .non H'
structure Made (P : Program) (w : World) (K : PySem.W.Frag) (mg : Str → Option Value) (base : Heap) (k : Nat) (x : Str) (A : Hp → Hp → List V → List D → Prop) (R : List D → List (Str × D) → Prop) : Prop where
  ex : ∃ (fI : Addr) (fd : FuncData) (ps : List Str) (dvs : List V) (us : List Value) (dd : List D) (R0 : List D → List (Str × D) → Prop), mg x = some (.ref (adr mg x)) ∧ Mk K (adr mg x) fI ∧ FnOk P w K mg base CX0 k fI fd ps (spI K (adr mg x) A R0) ∧ Binds K fd ps us ∧ Vals dvs us ∧
    (∀ G H ws ds, A G H ws ds → A G H (ws ++ dvs) (ds ++ dd)) ∧ ∀ ds fs, R ds fs → R0 (ds ++ dd) fs
theorem made_gr {G1 H1 G2 H2 : Hp} {x dx C : Addr} {vfs : List (Str × V)} (ex : Ex G1 H1) (nx : H1 x = none) (ndx : H1 dx = none) (kp : Kept G1 (upd (upd H1 dx (.own x)) x (.ins C dx [])) G2 H2 x) (h2 : H2 x = some (.ins C dx vfs)) :
    Ex G2 (upd G2 x (.ins C dx vfs)) ∧ Gr G1 H1 (upd G2 x (.ins C dx vfs)) H2 := by
  obtain ⟨k1, k2, k3, k4⟩ := kp
  have gx : G2 x = none := by
    rw [k4 x (by rw [upd_same]; exact fun z => by cases z)]
    exact Evl.fresh_back ex nx
  have e1 : Ex G2 (upd G2 x (.ins C dx vfs)) := Ex.new gx
  refine ⟨e1, k1.trans e1, fun a o q => ?_, fun a o q => ?_, fun b hb _ => ?_⟩
  · by_cases z : a = x
    · subst z
      rw [upd_same] at q
      cases q
      exact h2
    · rw [upd_ne z] at q
      exact k2 a o q
  · have n1 : a ≠ x := ne_of_none q nx
    have n2 : a ≠ dx := ne_of_none q ndx
    exact k3 a o n1 (by rw [upd_ne n1, upd_ne n2]; exact q)
  · have n1 : b ≠ x := fun z => hb (by rw [z]; exact nx)
    have n2 : b ≠ dx := fun z => hb (by rw [z]; exact ndx)
    rw [upd_ne n1]
    exact k4 b (by rw [upd_ne n1, upd_ne n2]; exact hb)
theorem made_ex {G1 H1 : Hp} {x dx C : Addr} (ex : Ex G1 H1) (nx : H1 x = none) (ndx : H1 dx = none) (ne : dx ≠ x) : Ex H1 (upd (upd H1 dx (.own x)) x (.ins C dx [])) :=
  (Ex.new ndx).trans (Ex.new (by rw [upd_ne (Ne.symm ne)]; exact nx))
section
variable {X : Cx} {e a : Expr} {es : List Expr} {δ : List Hold} {d : D} {ds : List D} {pos p : Pos} {x : Str} {k : Nat} {R : List D → List (Str × D) → Prop} {fs : List (Str × D)}
theorem e_make (M : Made X.prog X.w X.K X.mg X.base k x (InV X.K) R) (hr : Room (k + 1) X.A) (ha : Ea X (e :: es) δ ds) (hR : R ds fs) (hg : Gl X x := by rfl)
    (hdb : (x == ("__debug__" : Str)) = false := by decide)
    (he : starEach (e :: es) X.env = (false, eval e X.env) :: starEach es X.env := by rfl) (hpl : ((backTo pos (starEach es X.env)).any fun a => a.1) = false := by rfl) :
    Ee X (.Call (.Name x p) (e :: es) [] pos) δ (.obj (adr X.mg x) fs) := by
  obtain ⟨fI, fd, ps, dvs, us, dd, R0, hm, hM, F, hb, hd, hA, h0⟩ := M.ex
  exact e_of (pe_make hM F hr hg hm hb hd pass0 (canA X (e :: es)) hdb he hpl) fun Gb Hb G H σ E Q q => ha Gb Hb G H σ E _ fun vs G1 H1 g1 q1 y dx ny ndx ne =>
    ⟨G1, y, dx, _, _, fs, rfl, g1.i.trans (made_ex g1.i ny ndx ne), Evl.fresh_back g1.i ny, upd_same, hA G1 _ vs ds q1, h0 ds fs hR, fun G2 H2 vfs kp h2 r2 => by
      obtain ⟨e1, g2⟩ := made_gr g1.i ny ndx kp h2
      exact ⟨rfl, q _ _ _ (g1.trans g2) (.obj upd_same (r2.mono e1))⟩⟩
theorem e_make0 (M : Made X.prog X.w X.K X.mg X.base k x (InV X.K) R) (hr : Room (k + 1) X.A) (hR : R [] fs) (hg : Gl X x := by rfl)
    (hdb : (x == ("__debug__" : Str)) = false := by decide) : Ee X (.Call (.Name x p) [] [] pos) δ (.obj (adr X.mg x) fs) := by
  obtain ⟨fI, fd, ps, dvs, us, dd, R0, hm, hM, F, hb, hd, hA, h0⟩ := M.ex
  exact e_of (pe_make0 hM F hr hg hm hb hd pass0 hdb) fun Gb Hb G H σ E Q q y dx ny ndx ne =>
    ⟨G, y, dx, _, _, fs, rfl, E.ex.trans (made_ex E.ex ny ndx ne), Evl.fresh_back E.ex ny, upd_same, hA G _ [] [] .nil, h0 [] fs hR, fun G2 H2 vfs kp h2 r2 => by
      obtain ⟨e1, g2⟩ := made_gr E.ex ny ndx kp h2
      exact ⟨rfl, q _ _ _ g2 (.obj upd_same (r2.mono e1))⟩⟩
/-- C(a list) -/
theorem e_makeL (M : Made X.prog X.w X.K X.mg X.base k x (InL X.K) R) (hr : Room (k + 1) X.A) (ha : Ee X e δ d) (hi : d.litems = some ds) (hR : R [.lst ds] fs) (hg : Gl X x := by rfl)
    (hdb : (x == ("__debug__" : Str)) = false := by decide) (he : starEach [e] X.env = (false, eval e X.env) :: starEach [] X.env := by rfl) (hpl : (backTo pos (starEach [] X.env)).any (·.1) = false := by rfl) :
    Ee X (.Call (.Name x p) [e] [] pos) δ (.obj (adr X.mg x) fs) := by
  obtain ⟨fI, fd, ps, dvs, us, dd, R0, hm, hM, F, hb, hd, hA, h0⟩ := M.ex
  refine e_of (pe_make hM F hr hg hm hb hd pass0 (canA X [e]) hdb he hpl) fun Gb Hb G H σ E Q q => (a_cons ha a_nil he) Gb Hb G H σ E _ fun vs G1 H1 g1 q1 y dx ny ndx ne => ?_
  cases q1 with
  | cons q1 q2 =>
    cases q2
    obtain ⟨l, xs, rfl, hs, rr⟩ := q1.lsq g1.i hi
    have ex2 := made_ex (C := adr X.mg x) g1.i ny ndx ne
    exact ⟨G1, y, dx, _, _, fs, rfl, g1.i.trans ex2, Evl.fresh_back g1.i ny, upd_same, hA G1 _ [V.ref l] [.lst ds] ⟨l, xs, ds, rfl, rfl, Evl.ex_l ex2 hs, rr⟩, h0 _ fs hR, fun G2 H2 vfs kp h2 r2 => by
      obtain ⟨e1, g2⟩ := made_gr g1.i ny ndx kp h2
      exact ⟨rfl, q _ _ _ (g1.trans g2) (.obj upd_same (r2.mono e1))⟩⟩
/-- C(own list) -/
theorem e_makeO (i : Nat) {y : Str} {np : Pos} (M : Made X.prog X.w X.K X.mg X.base k x (InL X.K) R) (hr : Room (k + 1) X.A) (hR : R [.lst ds] fs) (h : δ[i]? = some (.own ds) := by rfl) (hN : X.N[i]? = some y := by rfl)
    (hv : Vis X.env.scope y := by first | exact Or.inl rfl | exact Or.inr (Or.inl rfl) | exact Or.inr (Or.inr rfl))
    (hd : (y == ("__debug__" : Str)) = false := by decide) (hcd : (y == ("__classdict__" : Str)) = false := by decide) (hg : Gl X x := by rfl)
    (hdb : (x == ("__debug__" : Str)) = false := by decide) (he : starEach [.Name y np] X.env = (false, eval (.Name y np) X.env) :: starEach [] X.env := by rfl) (hpl : (backTo pos (starEach [] X.env)).any (·.1) = false := by rfl) :
    Ee X (.Call (.Name x p) [.Name y np] [] pos) δ (.obj (adr X.mg x) fs) := by
  obtain ⟨fI, fd, ps, dvs, us, dd, R0, hm, hM, F, hb, hd', hA, h0⟩ := M.ex
  refine e_of (pe_make hM F hr hg hm hb hd' pass0 (pa_cons (pv i hN hv hd hcd) pa_nil he) hdb he hpl) fun Gb Hb G H σ E Q q => ?_
  obtain ⟨l, xs, h1, h2, h3, h4, h5⟩ := E.ow i ds h
  refine ⟨_, h1, fun z dx nz ndx ne => ?_⟩
  have ex2 := made_ex (C := adr X.mg x) E.ex nz ndx ne
  exact ⟨G, z, dx, _, _, fs, rfl, E.ex.trans ex2, Evl.fresh_back E.ex nz, upd_same, hA G _ [V.ref l] [.lst ds] ⟨l, xs, ds, rfl, rfl, Evl.ex_l ex2 (SqL.of h4), h5⟩, h0 _ fs hR, fun G2 H2 vfs kp h2 r2 => by
    obtain ⟨e1, g2⟩ := made_gr E.ex nz ndx kp h2
    exact ⟨rfl, q _ _ _ g2 (.obj upd_same (r2.mono e1))⟩⟩
end
/-- a class whose __init__ is object's -/
structure Mk0 (K : PySem.W.Frag) (mg : Str → Option Value) (x : Str) : Prop where
  m : mg x = some (.ref (adr mg x))
  makes : PySem.W.makesIn K (adr mg x) = true
  init : PySem.W.findIn K (.ref (adr mg x)) "__init__" = some (some (.builtin "object.__init__"))
  kp : PySem.W.keepIn K (.ref (adr mg x)) = true
theorem mk0 {K : PySem.W.Frag} {mg : Str → Option Value} {x : Str} {C : Addr} (m : mg x = some (.ref C)) (mk : PySem.W.makesIn K C = true) (i : PySem.W.findIn K (.ref C) "__init__" = some (some (.builtin "object.__init__"))) (k : PySem.W.keepIn K (.ref C) = true) : Mk0 K mg x := by
  have e := adr_eq m
  exact ⟨by rw [e]; exact m, by rw [e]; exact mk, by rw [e]; exact i, by rw [e]; exact k⟩
section
open PySem.W
/-- C(), C without an __init__ of its own -/
theorem run_makeB {X : Cx} {pins : List (Addr × Obj)} {σ : L2.St} {H : Hp} {s : Shared} {Q : VK} {C : Addr} (makes : makesIn X.K C = true) (init : findIn X.K (.ref C) "__init__" = some (some (.builtin "object.__init__"))) (I : Inv X pins σ H s)
    (go : ∀ x dx, H x = none → H dx = none → dx ≠ x → Q (.ref x) (upd (upd H dx (.own x)) x (.ins C dx []))) : wpAny (model X.prog X.w) X.A (call (.ref C) []) (EP X pins σ Q) X.xe s := by
  have fin := go (s.heap.objs.size + 1) s.heap.objs.size (I.hok.fresh (by omega)) (I.hok.fresh (by omega)) (Nat.succ_ne_self _).symm
  have J := I.made (C := C)
  have at_x : ((s.heap.push emptyDict).push (instObj C s.heap.objs.size)).get? (s.heap.objs.size + 1) = some (instObj C s.heap.objs.size) :=
    Heap.size_push s.heap (o := emptyDict) ▸ Heap.get?_push_size (s.heap.push emptyDict) rfl
  refine wpAny_call (make_map0 I.kIn makes init (fun self => Looks.of_pure (oi_bind self)) ?_)
  have cls : Looks (model X.prog X.w) ((s.heap.push emptyDict).push (instObj C s.heap.objs.size)) (typeOf (.ref (s.heap.objs.size + 1))) (.ref C) := (Looks.ld at_x).andThen .now
  have obj : Looks (model X.prog X.w) _ (isInstance (.ref (s.heap.objs.size + 1)) (.type "object")) true := cls.andThen ((makes_of (M := model X.prog X.w) I.kIn makes).top.keeps fun b o z => Heap.get?_push_of_some _ (Heap.get?_push_of_some _ z))
  apply codeAny_call_builtin oi_plain entry_oi
  · exact @check_slot (model X.prog X.w) _ _ _ "object.__init__" "object" "__init__" (.ref (s.heap.objs.size + 1)) [] [] _ oi_kind oi_split obj (oi_args (.ref (s.heap.objs.size + 1))) (by
      rw [oi_run]
      exact wpAny_pure ⟨rfl, .ref (s.heap.objs.size + 1), _, J, rfl, fin⟩)
end
section
variable {X : Cx} {e a : Expr} {es : List Expr} {δ : List Hold} {d : D} {ds : List D} {pos p : Pos} {x : Str} {fs : List (Str × D)}
def tMakeB (C : Addr) : TE := fun _ H Q => ∀ x dx, H x = none → H dx = none → dx ≠ x → Q (.ref x) (upd (upd H dx (.own x)) x (.ins C dx []))
theorem pe_makeB (M : Mk0 X.K X.mg x) (hg : Gl X x) (hdb : (x == ("__debug__" : Str)) = false := by decide) : PE X (.Call (.Name x p) [] [] pos) (tMakeB (adr X.mg x)) := by
  exact .mk fun pins s σ H Q I h => wpAny_Call_Name_kw (ld_glob I hg M.m (PySem.W.callWith_K0 I.kIn M.kp (run_makeB M.makes M.init I h)) hdb)
theorem e_makeB (M : Mk0 X.K X.mg x) (hg : Gl X x := by rfl) (hdb : (x == ("__debug__" : Str)) = false := by decide) : Ee X (.Call (.Name x p) [] [] pos) δ (.obj (adr X.mg x) []) :=
  e_of (pe_makeB M hg hdb) fun Gb Hb G H σ E Q q y dx ny ndx ne => by
    have ex2 := made_ex (C := adr X.mg x) E.ex ny ndx ne
    obtain ⟨e1, g2⟩ := made_gr (C := adr X.mg x) (vfs := []) E.ex ny ndx (G2 := G) ⟨Ex.refl _, E.ex.trans ex2, fun a o _ h => h, fun _ _ => rfl⟩ upd_same
    exact q _ _ _ g2 (.obj upd_same .nil)
/-! ### isinstance(x, C) -/
structure IsC (K : PySem.W.Frag) (C M : Addr) : Prop where
  cl : Cls K C
  kl : PySem.W.findIn K (.ref C) "__class__" = some (some (.builtin "object.__class__"))
  gt : PySem.W.specialIn K (.builtin "object.__class__") "__get__" = some (some (.builtin "getset_descriptor.__get__"))
  tk : PySem.W.takesIn K (.builtin "object.__class__") = some true
  ob : PySem.W.mroIn K C (.type "object") = some true
  me : PySem.W.kitOne K (.ref C) (.ref M) = some true
structure IsT (K : PySem.W.Frag) (mg : Str → Option Value) (x y : Str) : Prop where
  m : mg y = some (.ref (adr mg y))
  is_ : IsC K (adr mg x) (adr mg y)
theorem isT {K : PySem.W.Frag} {mg : Str → Option Value} {x y : Str} {C M : Addr} (m : mg x = some (.ref C)) (m2 : mg y = some (.ref M)) (c : IsC K C M) : IsT K mg x y := by
  have e := adr_eq m
  have e2 := adr_eq m2
  exact ⟨by rw [e2]; exact m2, by rw [e, e2]; exact c⟩
theorem e_isC {T : Str} {p1 : Pos} (hm : X.mg "isinstance" = none) (c : IsT X.K X.mg x T) (ha : Ew X a δ (.obj (adr X.mg x) fs)) (hg : Gl X "isinstance" := by rfl) (hgT : Gl X T := by rfl) (hdb : (T == ("__debug__" : Str)) = false := by decide)
    (he : starEach [a, .Name T p1] X.env = (false, eval a X.env) :: starEach [.Name T p1] X.env := by rfl) (hpl : (backTo pos (starEach [.Name T p1] X.env)).any (·.1) = false := by rfl) : Ee X (.Call (.Name "isinstance" p) [a, .Name T p1] [] pos) δ (.bl true) :=
  e_of (pe_callB call_isi hg hm (by decide +kernel) (pa_cons (canE X a) (pa_cons (pe_glob (v := .ref (adr X.mg T)) hgT c.m rfl hdb) pa_nil) he) (he := he) (hpl := hpl)) fun Gb Hb G H σ E Q q => ha Gb Hb G H σ E _ fun v G1 H1 g1 q1 => by
    cases q1 with
    | obj h1 h2 => exact ⟨_, .ref (adr X.mg T), .ref (adr X.mg x), .ref (adr X.mg T), true, rfl, .own _, .base (.ins h1 c.is_.cl c.is_.kl c.is_.gt c.is_.tk c.is_.ob), c.is_.me, q _ _ _ g1 (.bl true)⟩
end
theorem kit_of_mro {K : PySem.W.Frag} {C M : Addr} (hm : PySem.W.mroIn K M (.type "object") = some true) (ht : PySem.W.typeIn K (.ref M) = some (.type "type")) (hs : PySem.W.mroIn K C (.ref M) = some true) : PySem.W.kitOne K (.ref C) (.ref M) = some true := by
  unfold PySem.W.kitOne
  split
  · rfl
  · show PySem.W.kitCls K (.ref C) (.ref M) = some true
    obtain ⟨cd, a, b⟩ := Option.bind_eq_some_iff.mp hm
    show (if ((PySem.W.clsIn K M).isSome && PySem.W.typeIn K (.ref M) == some (.type "type")) = true then PySem.W.subIn K (.ref C) (.ref M) else none) = some true
    rw [a, ht, if_pos (by rfl)]
    exact hs
/-! ### an __init__'s facts -/
structure IniT (K : PySem.W.Frag) (mg : Str → Option Value) (x qual : Str) (st : Stmt) (ps : List Str) : Prop where
  m : mg x = some (.ref (adr mg x))
  ex : ∃ f fd, Mk K (adr mg x) f ∧ Fun K "__init__" qual st f fd ∧ Binds K fd ps []
theorem iniT {K : PySem.W.Frag} {mg : Str → Option Value} {x qual : Str} {st : Stmt} {ps : List Str} {C f : Addr} {oc : Value} {od an : Option Addr} {osl : Array (Option Value)} {kV doc pm cdv ct : Value} (hm : mg x = some (.ref C)) (mk : PySem.W.makesIn K C = true) (kc : PySem.W.keepIn K (.ref C) = true)
    (a : PySem.W.findIn K (.ref C) "__init__" = some (some (.ref f))) (i : PySem.W.isFn K (.ref f) = true)
    (l : K.lookup f = some ⟨oc, od, .func (PySem.W.fnOf "__init__" qual (defArgs st) (defBody st) (defScope st) .none kV doc pm an cdv ct), osl⟩) (c : PySem.W.codeIn K cdv qual = true) (k : PySem.W.keepIn K (.ref f) = true)
    (b : ∀ (kV doc pm : Value) (an : Option Addr) (cdv ct : Value) (us : List Value), us.length = ps.length → bindArgs (PySem.W.fnOf "__init__" qual (defArgs st) (defBody st) (defScope st) .none kV doc pm an cdv ct) ⟨us, []⟩ = pure (ps.zip us)) : IniT K mg x qual st ps :=
  ⟨by rw [adr_eq hm]; exact hm, f, _, by rw [adr_eq hm]; exact ⟨mk, a, i, kc⟩, fun_mk l c k, (fun_mk l c k).binds b⟩
/-- .. whose last parameter has a default -/
structure IniD (K : PySem.W.Frag) (mg : Str → Option Value) (x qual : Str) (st : Stmt) (ps : List Str) (dv : V) : Prop where
  m : mg x = some (.ref (adr mg x))
  ex : ∃ f fd us, Mk K (adr mg x) f ∧ FunD K "__init__" qual (defArgs st) (defBody st) (defScope st) [dv] [] f fd ∧ Binds K fd ps [] ∧ Vals [dv] us ∧ Binds K fd ps us
theorem iniD {K : PySem.W.Frag} {mg : Str → Option Value} {x qual : Str} {st : Stmt} {ps : List Str} {C f T : Addr} {oc : Value} {od an : Option Addr} {osl : Array (Option Value)} {kV doc pm cdv ct : Value} {dv : V} {o : Obj} {u : Value} {n : Nat} (hm : mg x = some (.ref C)) (mk : PySem.W.makesIn K C = true) (kc : PySem.W.keepIn K (.ref C) = true)
    (a : PySem.W.findIn K (.ref C) "__init__" = some (some (.ref f))) (i : PySem.W.isFn K (.ref f) = true)
    (l : K.lookup f = some ⟨oc, od, .func (PySem.W.fnOf "__init__" qual (defArgs st) (defBody st) (defScope st) (.ref T) kV doc pm an cdv ct), osl⟩) (c : PySem.W.codeIn K cdv qual = true) (k : PySem.W.keepIn K (.ref f) = true)
    (lT : K.lookup T = some o) (oT : o.data = .seq #[u] n) (ru : RelV dv u)
    (b : ∀ (T : Addr) (kV doc pm : Value) (an : Option Addr) (cdv ct : Value) (us its : List Value), us.length = ps.length → its.length = 1 →
      ∃ k, bindArgs (PySem.W.fnOf "__init__" qual (defArgs st) (defBody st) (defScope st) (.ref T) kV doc pm an cdv ct) ⟨us, []⟩ = seqItems? (.ref T) >>= k ∧ k (some its.toArray) = pure (ps.zip (us ++ its.drop 1)))
    (b1 : ∀ (T : Addr) (kV doc pm : Value) (an : Option Addr) (cdv ct : Value) (us its : List Value), us.length + 1 = ps.length → its.length = 1 →
      ∃ k, bindArgs (PySem.W.fnOf "__init__" qual (defArgs st) (defBody st) (defScope st) (.ref T) kV doc pm an cdv ct) ⟨us, []⟩ = seqItems? (.ref T) >>= k ∧ k (some its.toArray) = pure (ps.zip (us ++ its.drop 0))) (hp : 0 < ps.length) : IniD K mg x qual st ps dv := by
  have F : FunD K "__init__" qual (defArgs st) (defBody st) (defScope st) [dv] [] f (PySem.W.fnOf "__init__" qual (defArgs st) (defBody st) (defScope st) (.ref T) kV doc pm an cdv ct) :=
    ⟨⟨oc, od, .ref T, kV, doc, pm, an, cdv, ct, osl, rfl, l, c, .inr ⟨by simp, T, o, [u], n, rfl, lT, oT, .cons ru .nil⟩, .inl rfl⟩, k⟩
  obtain ⟨us, v, q⟩ := F.binds1 (ps := ps) (ps.length - 1) 0 (by simp) (by simp; omega) (fun T kV doc pm an cdv ct us its h1 h2 => b1 T kV doc pm an cdv ct us its (by omega) h2)
  obtain ⟨us', v', q'⟩ := F.binds1 (ps := ps) ps.length 1 (by simp) (by simp) (fun T kV doc pm an cdv ct us its h1 h2 => b T kV doc pm an cdv ct us its h1 h2)
  cases v'
  exact ⟨by rw [adr_eq hm]; exact hm, f, _, us, by rw [adr_eq hm]; exact ⟨mk, a, i, kc⟩, F, q', v, q⟩
/-- self.f = the argument -/
theorem fld_kept {K : PySem.W.Frag} {G H : Hp} {p C dx : Addr} {f : Str} {v : V} {d : D} (ex : Ex G H) (gp : G p = none) (r : Dv K G v d) :
    Kept G H G (upd H p (.ins C dx [(f, v)])) p ∧ DvFs K G [(f, v)] [(f, d)] :=
  ⟨⟨Ex.refl _, fun a o q => by rw [upd_ne (ne_of_none q gp)]; exact ex a o q, fun a o n q => by rw [upd_ne n]; exact q, fun _ _ => rfl⟩, .cons r .nil⟩
end DL

/-! DL11: dicts of cells, sorted cells, own lists. -/
namespace DL
open PySem L2 PySem.Spec PyProof.Rows
open Evl (Ex)
/-! ### list(a dict of cells) -/
open Classical in
noncomputable def promote (G H : Hp) (bs : List Addr) : Hp := fun b => if b ∈ bs then H b else G b
theorem keys_cells {H : Hp} : ∀ {cs : List (Int × Int)} {bs : List Addr}, IsKeys H (cs.map kvT) bs → ∀ b ∈ bs, ∃ c : Int × Int, H b = some (.tup [.int c.1, .int c.2])
  | [], bs, h => by cases h; intro b hb; cases hb
  | c :: cs, bs, h => by
    cases h with
    | cons h1 h2 =>
      intro b hb
      rcases List.mem_cons.mp hb with rfl | later
      · exact ⟨c, h1⟩
      · exact keys_cells h2 b later
theorem promote_gr {G H : Hp} {bs : List Addr} {p : Addr} {o : HO} (ex : Ex G H) (np : H p = none) (hb : ∀ b ∈ bs, ∃ xs, H b = some (.tup xs)) : Gr G H (promote G H bs) (upd H p o) := by
  refine ⟨fun a u q => ?_, fun a u q => ?_, Ex.new np, fun b h1 h2 => ?_⟩
  · unfold promote
    split
    · exact ex _ _ q
    · exact q
  · unfold promote at q
    have : H a = some u := by
      split at q
      · exact q
      · exact ex _ _ q
    rw [upd_ne (ne_of_none this np)]
    exact this
  · unfold promote
    rw [if_neg]
    intro z
    obtain ⟨xs, e⟩ := hb b z
    exact h2 xs e
theorem keys_dv {K : PySem.W.Frag} {G H : Hp} {b0 : List Addr} : ∀ {cs : List (Int × Int)} {bs : List Addr}, IsKeys H (cs.map kvT) bs → (∀ b ∈ bs, b ∈ b0) → DvAll K (promote G H b0) (bs.map V.ref) (cs.map fun c => cell c.1 c.2)
  | [], bs, h, _ => by cases h; exact .nil
  | c :: cs, bs, h, m => by
    cases h with
    | cons h1 h2 =>
      refine .cons (.tup (xs := [.int c.1, .int c.2]) ?_ (.cons (.int _) (.cons (.int _) .nil))) (keys_dv h2 fun b hb => m b (List.mem_cons_of_mem _ hb))
      unfold promote
      rw [if_pos (m _ List.mem_cons_self)]
      exact h1
section
variable {X : Cx} {a : Expr} {δ : List Hold} {cs : List (Int × Int)} {pos p : Pos}
theorem e_listD (hc : X.calm = true) (hm : X.mg "list" = none) (ha : Ee X a δ (.dct cs)) (hg : Gl X "list" := by rfl) (he : starEach [a] X.env = (false, eval a X.env) :: starEach [] X.env := by rfl) (hpl : (backTo pos (starEach [] X.env)).any (·.1) = false := by rfl) :
    Er X (.Call (.Name "list" p) [a] [] pos) δ (.new (cs.map fun c => cell c.1 c.2)) :=
  e_of (pe_callTy (call_list_dT hc) hg hm (by decide +kernel) (canA X [a]) (he := he) (hpl := hpl)) fun Gb Hb G H σ E Q k => (a_cons ha a_nil he) Gb Hb G H σ E _ fun vs G1 H1 g1 q1 => by
    cases q1 with
    | cons q1 q2 =>
      cases q2
      cases q1 with
      | dct h1 =>
        refine ⟨_, _, rfl, .inl (g1.i _ _ h1), fun q bs nq kb => ?_⟩
        have g2 := promote_gr (o := .lst (bs.map V.ref)) g1.i nq fun b hb => by
          obtain ⟨c, e⟩ := keys_cells kb b hb
          exact ⟨_, e⟩
        refine k q (bs.map V.ref) _ _ (g1.trans g2) (Evl.fresh_back g1.h nq) ?_ upd_same (keys_dv kb fun b h => h)
        unfold promote
        rw [if_neg (fun z => by
          obtain ⟨c, e⟩ := keys_cells kb q z
          rw [nq] at e
          cases e)]
        exact Evl.fresh_back g1.i nq
end
/-! ### sorted cells -/
def cleB (p q : Int × Int) : Bool := !SrtO.lexB q p
def sortC (cs : List (Int × Int)) : List (Int × Int) := cs.mergeSort cleB
theorem cleB_iff {p q : Int × Int} : cleB p q = true ↔ p.1 < q.1 ∨ (p.1 = q.1 ∧ p.2 ≤ q.2) := by
  unfold cleB
  rw [Bool.not_eq_true', SrtO.lexB_no]
  omega
theorem sortC_perm (cs : List (Int × Int)) : (sortC cs).Perm cs := List.mergeSort_perm _ _
theorem sortC_sorted (cs : List (Int × Int)) : (sortC cs).Pairwise fun a b => cleB a b = true := by
  refine List.pairwise_mergeSort (fun a b c h1 h2 => ?_) (fun a b => ?_) cs
  · rw [cleB_iff] at *
    omega
  · rw [Bool.or_eq_true, cleB_iff, cleB_iff]
    omega
theorem sortC_of {cs l : List (Int × Int)} (hp : l.Perm cs) (hs : l.Pairwise fun a b => cleB a b = true) : l = sortC cs := by
  refine List.Perm.eq_of_pairwise (fun a b _ _ h1 h2 => ?_) hs (sortC_sorted cs) (hp.trans (sortC_perm cs).symm)
  rw [cleB_iff] at *
  refine Prod.ext ?_ ?_ <;> omega
open Classical in
noncomputable def kOf (H : Hp) (x : V) : Int × Int := match x with
  | .ref t => (match H t with
    | some (.tup [.int a, .int b]) => (a, b)
    | _ => (0, 0))
  | _ => (0, 0)
theorem kOf_ref {H : Hp} {t : Addr} {a b : Int} (h : H t = some (.tup [.int a, .int b])) : kOf H (.ref t) = (a, b) := by
  unfold kOf
  simp only [h]
theorem cells_kOf {K : PySem.W.Frag} {G H : Hp} (ex : Ex G H) : ∀ {xs : List V} {cs : List (Int × Int)}, DvAll K G xs (cs.map fun c => cell c.1 c.2) → xs.map (kOf H) = cs ∧ ∀ x ∈ xs, (∃ t, x = V.ref t ∧ H t = some (.tup [.int (kOf H x).1, .int (kOf H x).2])) ∧ Dv K G x (cell (kOf H x).1 (kOf H x).2)
  | [], cs, h => by
    cases cs with
    | nil => exact ⟨rfl, fun x hx => by cases hx⟩
    | cons c cs => cases h
  | x :: xs, cs, h => by
    cases cs with
    | nil => cases h
    | cons c cs =>
      cases h with
      | cons h1 h2 =>
        obtain ⟨i1, i2⟩ := cells_kOf ex h2
        cases h1 with
        | @tup t ys _ g r =>
          cases r with
          | cons r1 r =>
            cases r with
            | cons r2 r =>
              cases r
              cases r1
              cases r2
              have hk := kOf_ref (ex _ _ g)
              refine ⟨by rw [List.map_cons, hk, i1], fun z hz => ?_⟩
              rcases List.mem_cons.mp hz with rfl | later
              · rw [hk]
                exact ⟨⟨t, rfl, ex _ _ g⟩, .tup g (.cons (.int _) (.cons (.int _) .nil))⟩
              · exact i2 z later
theorem dvAll_of {K : PySem.W.Frag} {G : Hp} {f : V → Int × Int} : ∀ {ys : List V}, (∀ y ∈ ys, Dv K G y (cell (f y).1 (f y).2)) → DvAll K G ys ((ys.map f).map fun c => cell c.1 c.2)
  | [], _ => .nil
  | y :: ys, h => .cons (h y List.mem_cons_self) (dvAll_of fun z hz => h z (List.mem_cons_of_mem _ hz))
section
variable {X : Cx} {a : Expr} {δ : List Hold} {cs : List (Int × Int)} {d : D} {pos p : Pos}
theorem e_sortedC (hm : X.mg "sorted" = none) (ha : Ee X a δ (.lst (cs.map fun c => cell c.1 c.2))) (hg : Gl X "sorted" := by rfl) (he : starEach [a] X.env = (false, eval a X.env) :: starEach [] X.env := by rfl) (hpl : (backTo pos (starEach [] X.env)).any (·.1) = false := by rfl) :
    Er X (.Call (.Name "sorted" p) [a] [] pos) δ (.new ((sortC cs).map fun c => cell c.1 c.2)) :=
  e_of (pe_callB cr_sortedPO hg hm (by decide +kernel) (canA X [a]) (he := he) (hpl := hpl)) fun Gb Hb G H σ E Q k => (a_cons ha a_nil he) Gb Hb G H σ E _ fun vs G1 H1 g1 q1 => by
    cases q1 with
    | cons q1 q2 =>
      cases q2
      cases q1 with
      | lst h1 r1 =>
        obtain ⟨i1, i2⟩ := cells_kOf g1.i r1
        refine ⟨_, _, kOf H1, rfl, SqL.of (g1.i _ _ h1), fun x hx => (i2 x hx).1, fun ys q s1 s2 nq => ?_⟩
        have hs : ys.map (kOf H1) = sortC cs := by
          refine sortC_of (by rw [← i1]; exact s2.perm.map _) ?_
          refine List.pairwise_map.mpr (List.Pairwise.imp (fun {x y} h => ?_) s1)
          unfold cleB
          rw [show SrtO.lexB (kOf H1 y) (kOf H1 x) = false from h]
          rfl
        have hd := dvAll_of (K := X.K) (G := G1) (f := kOf H1) (ys := ys) fun y hy => (i2 y (s2.perm.mem_iff.mp hy)).2
        rw [hs] at hd
        exact post_new (k.mono g1) g1.i hd q nq
/-! ### own lists -/
theorem nv_blank {K : PySem.W.Frag} {G H : Hp} (ex : Ex G H) (σ : L2.St) (n : Nat) (hn : σ.length = n) : Nv K G H G H σ (List.replicate n .any) := ⟨Gr.refl ex, by simp [hn], fun j d h => by
    rw [List.getElem?_replicate] at h
    split at h <;> (cases h), fun j d h => by
    rw [List.getElem?_replicate] at h
    split at h <;> (cases h), fun j k d e l h => by
    rw [List.getElem?_replicate] at h
    split at h <;> cases h⟩
theorem dv_cell {K : PySem.W.Frag} {G : Hp} {z : V} {x y : Int} (h : Dv K G z (cell x y)) : ∃ b, z = .ref b ∧ G b = some (.tup [.int x, .int y]) := by
  cases h with
  | @tup b ys _ g r =>
    cases r with
    | cons r1 r => cases r with
      | cons r2 r =>
        cases r
        cases r1
        cases r2
        exact ⟨b, rfl, g⟩
theorem Nv.junk {K : PySem.W.Frag} {Gb Hb G H : Hp} {σ : L2.St} {δ : List Hold} (e : Nv K Gb Hb G H σ δ) (i : Nat) (x : Option V) : Nv K Gb Hb G H (σ.set i x) (δ.set i .any) := ⟨e.gr, by simp [e.ln], fun j d h' => by
    rcases set_get h' with ⟨rfl, hl, q⟩ | ⟨ne, q⟩
    · cases q
    · rw [List.getElem?_set_ne (fun z => ne z.symm)]
      exact e.vl j d q, fun j ds h' => by
    rcases set_get h' with ⟨rfl, hl, q⟩ | ⟨ne, q⟩
    · cases q
    · rw [List.getElem?_set_ne (fun z => ne z.symm)]
      exact e.ow j ds q, fun j k ds es l h1 h2 h3 h4 => by
    rcases set_get h1 with ⟨rfl, hl, q⟩ | ⟨ne, q⟩
    · cases q
    rcases set_get h2 with ⟨rfl, hl, q'⟩ | ⟨ne', q'⟩
    · cases q'
    rw [List.getElem?_set_ne (fun z => ne z.symm)] at h3
    rw [List.getElem?_set_ne (fun z => ne' z.symm)] at h4
    exact e.di j k ds es l q q' h3 h4⟩
theorem le_set : ∀ (δ : List Hold) (k : Nat), Le δ (δ.set k .any)
  | [], _ => .nil
  | s :: δ, 0 => .cons (.inl rfl) (Le.refl δ)
  | s :: δ, k + 1 => .cons (.inr rfl) (le_set δ k)
/-- xs.clear() -/
theorem ss_clear {rest : List Stmt} {P : Out → Prop} {ds : List D} (i : Nat) {o : Str} {p1 apos cpos : Pos} (h : Ss X rest (δ.set i (.own [])) P) (hi : δ[i]? = some (.own ds) := by rfl)
    (hN : X.N[i]? = some o := by rfl) (hv : Vis X.env.scope o := by first | exact Or.inl rfl | exact Or.inr (Or.inl rfl) | exact Or.inr (Or.inr rfl)) (hd : (o == ("__debug__" : Str)) = false := by decide) (hcd : (o == ("__classdict__" : Str)) = false := by decide)
    (hbase : attributeBase (.Name o p1) "clear" X.env (eval (.Name o p1) X.env) = eval (.Name o p1) X.env := by rfl) (hline : (apos.endLine == cpos.line) = true := by rfl)
    (hsw : swapsWith (.Call (.Attribute (.Name o p1) "clear" apos) [] [] cpos) none pos.line X.env = pure false := by rfl) : Ss X (.Expr (.Call (.Attribute (.Name o p1) "clear" apos) [] [] cpos) pos :: rest) δ P :=
  ss_cons (s_of (ps_expr (pe_bm0 PySem.F.plainAttrs_list PySem.F.slot_list_clear PySem.F.type_list_clear mt_clear (pv i hN hv hd hcd) hbase hline) hsw) fun Gb Hb G H σ D E F => by
    obtain ⟨l, xs, h1, h2, h3, h4, h5⟩ := E.ow i ds hi
    exact ⟨_, h1, own_ty h4, l, xs, rfl, rfl, h4, F.nx _ h _ G _ (Evl.Ex.refl _) (E.put hi h1 .nil)⟩)
/-- for y in xs: if c: ..  -- nothing of it is met -/
theorem ss_scan {rest : List Stmt} {P : Out → Prop} {ds : List D} {c : Expr} {aa : List Stmt} (j k : Nat) {o y : Str} {p1 p2 p3 : Pos} (nd : X.N.Nodup) (hx : X.xe = fun _ _ => False) (hc : X.calm = true) (ht : ∀ i, i < ds.length → Et X c (δ.set k (.val (ds.getD i .non))) false) (h : Ss X rest (δ.set k .any) P) (hjk : j ≠ k)
    (hi : δ[j]? = some (.own ds) := by rfl) (hN : X.N[j]? = some o := by rfl) (hv : Vis X.env.scope o := by first | exact Or.inl rfl | exact Or.inr (Or.inl rfl) | exact Or.inr (Or.inr rfl)) (hd : (o == ("__debug__" : Str)) = false := by decide) (hcd : (o == ("__classdict__" : Str)) = false := by decide)
    (hk2 : X.N[k]? = some y := by rfl) (hyl : Loc X.env.scope y := by first | exact Or.inl rfl | exact Or.inr rfl) (hf : X.fn y = true ∨ X.env.scope.names.lookup y = some .local := by first | exact .inl rfl | exact .inr rfl)
    (hfs : ∀ x, foldedSetIterable (.Name o p2) X.env x = pure x := by intro _; rfl) : Ss X (.For (.Name y p1) (.Name o p2) [.If c aa [] p3] [] pos :: rest) δ P :=
  ss_cons (s_of (ps_for (by rw [hx]; exact PassesOwn.never) hc (pi_list (pv j hN hv hd hcd)) (pg_name nd hk2 hyl hf) (pss_one (ps_if (canT X c) (canSs X aa) pss_nil)) hfs) fun Gb Hb G H σ D E F => by
    obtain ⟨l, xs, h1, h2, h3, h4, h5⟩ := E.ow j ds hi
    refine ⟨_, h1, l, rfl, ⟨xs, SqL.of h4⟩, for_list (K := X.K) (a := l) (xs := xs) (fun i σ' H' => ∃ G', Gr G H G' H' ∧ (σ' = σ ∨ ∃ v, σ' = σ.set k (some v))) ⟨G, Gr.refl E.ex, .inl rfl⟩ (fun i σ' H' _ ⟨G', g, _⟩ => SqL.of (g.h _ _ h4)) ?_ ?_⟩
    · rintro i x σ' H' hx' ⟨G', g, hs⟩
      obtain ⟨d, q1, q2⟩ := h5.getV hx'
      have hlt : i < ds.length := (List.getElem?_eq_some_iff.mp q1).1
      have e0 : ds.getD i .non = d := by rw [List.getD_eq_getElem?_getD, q1]; rfl
      have es : σ'.set k (some x) = σ.set k (some x) := by
        rcases hs with rfl | ⟨v, rfl⟩
        · rfl
        · rw [List.set_set]
      have E2 : Nv X.K Gb Hb G' H' (σ.set k (some x)) (δ.set k (.val d)) := (E.mono g).set (q2.mono g.g)
      have hT := ht i hlt
      rw [e0] at hT
      show rT X c (σ'.set k (some x)) H' _
      rw [es]
      refine hT Gb Hb G' H' _ E2 _ fun G2 H2 g2 => iteF ?_
      exact ⟨G2, g.trans g2, .inr ⟨x, rfl⟩⟩
    · rintro σ' H' ⟨G', g, hs⟩
      have E1 := E.mono g
      have E2 : Nv X.K Gb Hb G' H' σ' (δ.set k .any) := by
        rcases hs with rfl | ⟨v, rfl⟩
        · exact E1.le (le_set δ k)
        · exact E1.junk k (some v)
      exact F.nx _ h _ G' H' g.g E2)
end
end DL

/-! DL12: a comprehension over the keys of a dict of cells that an object keeps. -/
namespace DL
open PySem L2 PySem.Spec PyProof.Rows
open Evl (Ex)
mutual
def D.nodct : D → Bool
  | .non => true
  | .bl _ => true
  | .int _ => true
  | .str _ => true
  | .lst ds => D.nodcts ds
  | .tup ds => D.nodcts ds
  | .ktup ds => D.nodcts ds
  | .scr _ => false
  | .obj _ fs => D.nodctf fs
  | .dct _ => false
def D.nodcts : List D → Bool
  | [] => true
  | d :: ds => d.nodct && D.nodcts ds
def D.nodctf : List (Str × D) → Bool
  | [] => true
  | (_, d) :: fs => d.nodct && D.nodctf fs
end
section
variable {K : PySem.W.Frag} {G G' : Hp}
mutual
theorem Dv.swap (h : ∀ a o, (∀ kvs, o ≠ .dT kvs) → (∀ ob u, o ≠ .frz ob u) → G a = some o → G' a = some o) : ∀ {v : V} {d : D}, Dv K G v d → d.nodct = true → Dv K G' v d
  | _, _, .non, _ => .non
  | _, _, .bl b, _ => .bl b
  | _, _, .int i, _ => .int i
  | _, _, .str x, _ => .str x
  | _, _, .lst e r, f => .lst (h _ _ (fun _ z => by cases z) (fun _ _ z => by cases z) e) (DvAll.swap h r f)
  | _, _, .tup e r, f => .tup (h _ _ (fun _ z => by cases z) (fun _ _ z => by cases z) e) (DvAll.swap h r f)
  | _, _, .ktup e r, f => .ktup e (DvAll.swap h r f)
  | _, _, .scr _, f => by cases f
  | _, _, .obj e r, f => .obj (h _ _ (fun _ z => by cases z) (fun _ _ z => by cases z) e) (DvFs.swap h r f)
  | _, _, .dct _, f => by cases f
theorem DvAll.swap (h : ∀ a o, (∀ kvs, o ≠ .dT kvs) → (∀ ob u, o ≠ .frz ob u) → G a = some o → G' a = some o) : ∀ {vs : List V} {ds : List D}, DvAll K G vs ds → D.nodcts ds = true → DvAll K G' vs ds
  | _, _, .nil, _ => .nil
  | _, _, .cons a b, f => .cons (Dv.swap h a (by have f' : (_ && _) = true := f; exact (Bool.and_eq_true _ _ ▸ f').1)) (DvAll.swap h b (by have f' : (_ && _) = true := f; exact (Bool.and_eq_true _ _ ▸ f').2))
theorem DvFs.swap (h : ∀ a o, (∀ kvs, o ≠ .dT kvs) → (∀ ob u, o ≠ .frz ob u) → G a = some o → G' a = some o) : ∀ {vs : List (Str × V)} {fs : List (Str × D)}, DvFs K G vs fs → D.nodctf fs = true → DvFs K G' vs fs
  | _, _, .nil, _ => .nil
  | _, _, .cons a b, f => .cons (Dv.swap h a (by have f' : (_ && _) = true := f; exact (Bool.and_eq_true _ _ ▸ f').1)) (DvFs.swap h b (by have f' : (_ && _) = true := f; exact (Bool.and_eq_true _ _ ▸ f').2))
end
end
section
variable {X : Cx} {tg iter elt : Expr} {ifs : List Expr} {scope : Scope} {own : List (Str × Nat)} {δ : List Hold} {pos : Pos} {n : Nat} {f g : Nat → D} {b : Nat → Bool}
theorem lc_read2 {wi : TI} {Gb Hb G H : Hp} {σ : L2.St} {Q : VK} {vs : List Nat} {tG : TG} {tT : TT} {tE : TE} (hw : ∀ R : It → Hp → Prop, (∀ J G' H', Gr G H G' H' → Src X.K J G' n f → R J H') → wi σ H R) (hn : n ≤ sizeLine) (E : Nv X.K Gb Hb G H σ δ) (q : Post X.K G H (.new (made n b g)) Q)
    (hs : ∀ i, i < n → ∃ δ', (∀ Gb Hb G H v, Nv X.K Gb Hb G H (L2.wipe σ vs) (wipeD δ vs) → Dv X.K G v (f i) → ∀ Q : L2.St → Hp → Prop, (∀ σ', L2.wipe σ' vs = L2.wipe σ vs → Nv X.K Gb Hb G H σ' δ' → Q σ' H) → tG v (L2.wipe σ vs) H Q) ∧
      (∀ Gb Hb G H σ, Nv X.K Gb Hb G H σ δ' → ∀ Q : Bool → Hp → Prop, (∀ G' H', Gr G H G' H' → Q (b i) H') → tT σ H Q) ∧ (b i = true → ∀ Gb Hb G H σ, Nv X.K Gb Hb G H σ δ' → ∀ Q, Post X.K G H (.val (g i)) Q → tE σ H Q)) :
    tLc wi tG tT tE vs σ H Q := hw _ fun J G1 H1 g1 S D hD => by
  refine ⟨fun i m H' => m = n - i ∧ i ≤ n ∧ ∃ G' acc, Gr G1 H1 G' H' ∧ H' D = some (.lst acc) ∧ G' D = none ∧ DvAll X.K G' acc (made i b g), ⟨n, by simp, Nat.zero_le _, G1, [], ?_, upd_same, Evl.fresh_back g1.i hD, .nil⟩, ?_⟩
  · exact Gr.own g1.i hD
  rintro i m H' ⟨rfl, hin, G', acc, gg, hacc, hGD, rv⟩
  by_cases hlt : i < n
  · refine .inr ⟨S.go i G' H' hlt gg.g gg.i, fun H2 => ∃ G2 acc2, Gr G1 H1 G2 H2 ∧ H2 D = some (.lst acc2) ∧ G2 D = none ∧ DvAll X.K G2 acc2 (made (i + 1) b g), fun H2 ⟨G2, acc2, a1, a2, a3, a4⟩ => ⟨n - (i + 1), by omega, rfl, hlt, G2, acc2, a1, a2, a3, a4⟩, fun x H2 y => ?_⟩
    obtain ⟨G2, g2, q2⟩ := S.yld i G' H' x H2 hlt gg.g gg.i y
    obtain ⟨δ', ht, hT, hE⟩ := hs i hlt
    have E2 := ((E.mono g1).mono gg).mono g2
    have hD' : H' D ≠ none := by rw [hacc]; exact fun z => by cases z
    have hD2 := g2.h _ _ hacc
    have hG2 : G2 D = none := (g2.f D hD' (fun _ z => by rw [hacc] at z; cases z)).trans hGD
    refine ht Gb Hb G2 H2 x (E2.wipe vs) q2 _ fun σ3 hw E3 => ⟨hw, hT Gb Hb G2 H2 σ3 E3 _ fun G3 H3 g3 => ?_⟩
    have hD3 := g3.h _ _ hD2
    have hG3 : G3 D = none := (g3.f D (by rw [hD2]; exact fun z => by cases z) (fun _ z => by rw [hD2] at z; cases z)).trans hG2
    cases hb : b i with
    | false =>
      refine iteF ⟨G3, acc, (gg.trans g2).trans g3, hD3, hG3, ?_⟩
      rw [made_no hb]
      exact (rv.mono g2.g).mono g3.g
    | true =>
      refine iteT (hE hb Gb Hb G3 H3 σ3 (E3.mono g3) _ fun z G4 H4 g4 q4 => ?_)
      have hD4 := g4.h _ _ hD3
      have hG4 : G4 D = none := (g4.f D (by rw [hD3]; exact fun z => by cases z) (fun _ z => by rw [hD3] at z; cases z)).trans hG3
      have hla : acc.length < sizeLine := by
        have h1 := rv.length
        have h2 := made_len i b g
        omega
      have gA := ((gg.trans g2).trans g3).trans g4
      refine ⟨acc, hD4, hla, G4, acc ++ [z], ⟨gA.g, fun a o h => ?_, fun a o h => ?_, gA.f⟩, upd_same, hG4, ?_⟩
      · rw [upd_ne (ne_of_none h hG4)]
        exact gA.i a o h
      · rw [upd_ne (ne_of_none h hD)]
        exact gA.h a o h
      · rw [made_yes hb]
        exact (((rv.mono g2.g).mono g3.g).mono g4.g).append (.cons q4 .nil)
  · have hn : i = n := by omega
    subst hn
    exact .inl ⟨S.stop i G' H' (Nat.le_refl _) gg.g gg.i, q D acc G' H' (g1.trans gg) (Evl.fresh_back g1.h hD) hGD hacc rv⟩

theorem src_keys {K : PySem.W.Frag} {G : Hp} {d : Addr} {o : Obj} {cs : List (Int × Int)} (h : G d = some (.frz o (.dT (cs.map kvT)))) : Src K (Itkt d o (cs.map kvT)) G cs.length (fun i => cell (cs.getD i (0, 0)).1 (cs.getD i (0, 0)).2) where
  stop := fun i G' H hi e1 e2 => ⟨e2 _ _ (e1 _ _ h), by rw [List.length_map]; exact hi⟩
  go := fun i G' H hi e1 e2 => ⟨e2 _ _ (e1 _ _ h), by rw [List.length_map]; exact hi⟩
  yld := fun i G' H x H' hi e1 e2 y => by
    obtain ⟨rfl, k, v, q, hk, rfl, hq⟩ := y
    rw [List.getElem?_map, List.getElem?_eq_getElem hi] at hk
    cases hk
    have eg : cs.getD i (0, 0) = cs[i] := by rw [List.getD_eq_getElem?_getD, List.getElem?_eq_getElem hi]; rfl
    rw [eg]
    refine ⟨promote G' H' [q], ⟨fun a u z => ?_, fun a u z => ?_, Ex.refl _, fun b h1 h2 => ?_⟩, ?_⟩
    · unfold promote
      split
      · exact e2 _ _ z
      · exact z
    · unfold promote at z
      split at z
      · exact z
      · exact e2 _ _ z
    · unfold promote
      rw [if_neg]
      intro z
      rw [List.mem_singleton] at z
      rw [z] at h2
      exact h2 _ hq
    · refine .tup (xs := [.int cs[i].1, .int cs[i].2]) ?_ (.cons (.int _) (.cons (.int _) .nil))
      unfold promote
      rw [if_pos (List.mem_singleton.mpr rfl)]
      exact hq
/-- [elt for tg in self.kept], self an object that keeps a dict of cells; δ': what the names hold while the dict is walked -/
theorem e_lcKept {C : Addr} {cs : List (Int × Int)} {m y : Str} {np ap : Pos} (own : List (Str × Nat)) (g : Nat → D) (dl : Nat → List Hold) (δ' : List Hold) (N0 : List Str) (sc0 : Scope) (c : Cls X.K C) (nf : NoAttr X.K C m) (hc : X.calm = true) (nd : X.N.Nodup) (hn : cs.length ≤ sizeLine) (ok : blkC N0 sc0 scope own = true)
    (h0 : δ[0]? = some (.val (.obj C [(m, .dct cs)]))) (hln : δ'.length = δ.length) (hv' : ∀ (i : Nat) (d : DL.D), δ'[i]? = some (Hold.val d) → δ[i]? = some (Hold.val d) ∧ d.nodct = true) (ho' : ∀ (i : Nat) (ds : List DL.D), δ'[i]? ≠ some (Hold.own ds)) (hgd : ∀ i, (g i).nodct = true)
    (hg : ∀ (s : Shared) (H : Hp) (C : Addr) (cl : List (Str × Addr)) (fp : List Addr) i, i < cs.length → EgW (X.blk s H scope (compEnvC scope cl C X.env) fp) (own.map (·.2)) tg (cell (cs.getD i (0, 0)).1 (cs.getD i (0, 0)).2) (wipeD δ' (own.map (·.2))) (dl i))
    (he : ∀ (s : Shared) (H : Hp) (C : Addr) (cl : List (Str × Addr)) (fp : List Addr) i, i < cs.length → Ee (X.blk s H scope (compEnvC scope cl C X.env) fp) elt (dl i) (g i))
    (hN : X.N[0]? = some y := by rfl) (hvis : Vis X.env.scope y := by first | exact Or.inl rfl | exact Or.inr (Or.inl rfl) | exact Or.inr (Or.inr rfl)) (hd : (y == ("__debug__" : Str)) = false := by decide) (hcd : (y == ("__classdict__" : Str)) = false := by decide)
    (hbase : attributeBase (.Name y np) m X.env (eval (.Name y np) X.env) = eval (.Name y np) X.env := by rfl)
    (hf : ∀ x, foldedSetIterable (.Attribute (.Name y np) m ap) X.env x = pure x := by intro _; rfl) (hN0 : X.N = N0 := by rfl) (hs0 : X.env.scope = sc0 := by rfl) : Er X (.ListComp elt [⟨tg, .Attribute (.Name y np) m ap, [], 0⟩] scope pos) δ (.new (made cs.length (fun _ => true) g)) := .mk fun Gb Hb G H σ E Q q pins s I => by
  obtain ⟨v0, hs, hdv⟩ := E.vl 0 _ h0
  cases hdv with
  | @obj p _ dx vs _ hp hfs =>
    cases hfs with
    | @cons _ w _ _ _ hw hnil =>
      cases hnil
      cases hw with
      | @dct d _ hd0 =>
        have npd : p ≠ d := ne_of hp hd0 (by intro z; cases z)
        have hHd : H d = some (.dT (cs.map kvT)) := E.ex _ _ hd0
        refine (pe_lock (pe_lc (own := own) (g := fun v σ H Q => ∀ (s : Shared) (H0 : Hp) (C : Addr) (cl : List (Str × Addr)) (fp : List Addr), rG (X.blk s H0 scope (compEnvC scope cl C X.env) fp) tg v σ H Q)
          (tt := fun σ H Q => ∀ (s : Shared) (H0 : Hp) (C : Addr) (cl : List (Str × Addr)) (fp : List Addr), rTs (X.blk s H0 scope (compEnvC scope cl C X.env) fp) [] σ H Q)
          (te := fun σ H Q => ∀ (s : Shared) (H0 : Hp) (C : Addr) (cl : List (Str × Addr)) (fp : List Addr), rE (X.blk s H0 scope (compEnvC scope cl C X.env) fp) elt σ H Q) hc nd (pi_keys (pe_fld (pv 0 hN hvis hd hcd) hbase)) (by rw [hN0, hs0]; exact blkOk_by ok)
          (fun s H C cl fp => ⟨fun pins s' σ' H' v u Q' I' r' h => h s H C cl fp pins s' u I' r'⟩) (fun s H C cl fp => ⟨fun pins s' σ' H' Q' I' h => h s H C cl fp pins s' I'⟩) (fun s H C cl fp => ⟨fun pins s' σ' H' Q' I' h => h s H C cl fp pins s' I'⟩) hf)).run pins s σ H Q I ?_
        refine ⟨d, .dT (cs.map kvT), hHd, True.intro, fun od => ?_⟩
        have exl : Ex (upd G d (.frz od (.dT (cs.map kvT)))) (upd H d (.frz od (.dT (cs.map kvT)))) := fun a o z => by
          by_cases y : a = d
          · subst y
            rw [upd_same] at z ⊢
            exact z
          · rw [upd_ne y] at z ⊢
            exact E.ex _ _ z
        have El : Nv X.K (upd G d (.frz od (.dT (cs.map kvT)))) (upd H d (.frz od (.dT (cs.map kvT)))) (upd G d (.frz od (.dT (cs.map kvT)))) (upd H d (.frz od (.dT (cs.map kvT)))) σ δ' := ⟨Gr.refl exl, by rw [hln]; exact E.ln, fun i dd z => by
          obtain ⟨z1, z2⟩ := hv' i dd z
          obtain ⟨v, a1, a2⟩ := E.vl i dd z1
          refine ⟨v, a1, a2.swap (fun a o k1 k2 e => ?_) z2⟩
          have y : a ≠ d := fun y => by
            rw [y, hd0] at e
            cases e
            exact k1 _ rfl
          rw [upd_ne y]
          exact e, fun i ds z => absurd z (ho' i ds), fun i j ds es l z => absurd z (ho' i ds)⟩
        refine lc_read2 (b := fun _ => true) (g := g) (n := cs.length) (f := fun i => cell (cs.getD i (0, 0)).1 (cs.getD i (0, 0)).2) (fun R k => ?_) hn El ?_ fun i hlt => ⟨dl i, fun Gb Hb G H v E' q' Q' k s H0 C cl fp => hg s H0 C cl fp i hlt Gb Hb G H σ v E' q' Q' k, fun Gb Hb G H σ' E' Q' k s H0 C cl fp => (if_nil (X := X.blk s H0 scope (compEnvC scope cl C X.env) fp)).run Gb Hb G H σ' E' Q' k, fun hb Gb Hb G H σ' E' Q' k s H0 C cl fp => he s H0 C cl fp i hlt Gb Hb G H σ' E' Q' k⟩
        · refine ⟨_, hs, p, C, dx, [(m, .ref d)], .ref d, rfl, (by rw [upd_ne npd]; exact E.ex _ _ hp), c, nf, (by simp [List.lookup]), d, od, rfl, .inr ⟨_, upd_same, k _ _ _ (Gr.refl exl) (src_keys upd_same)⟩⟩
        · refine fun l xs G' H' g1 n1 n2 n3 r => ?_
          have ld : l ≠ d := fun z => by
            rw [z, upd_same] at n1
            cases n1
          have hd' : H' d = some (.frz od (.dT (cs.map kvT))) := g1.h _ _ upd_same
          have gd' : G' d = some (.frz od (.dT (cs.map kvT))) := g1.g _ _ upd_same
          refine ⟨hd', q l xs (upd G' d (.dT (cs.map kvT))) (upd H' d (.dT (cs.map kvT))) ⟨fun a o z => ?_, fun a o z => ?_, fun a o z => ?_, fun b h1 h2 => ?_⟩ (by rw [upd_ne ld] at n1; exact n1) (by rw [upd_ne ld]; exact n2) (by rw [upd_ne ld]; exact n3) (r.swap (fun a o k1 k2 e => ?_) ?_)⟩
          · by_cases y : a = d
            · subst y
              rw [hd0] at z
              rw [upd_same]
              exact z
            · rw [upd_ne y]
              exact g1.g _ _ (by rw [upd_ne y]; exact z)
          · by_cases y : a = d
            · subst y
              rw [upd_same] at z ⊢
              exact z
            · rw [upd_ne y] at z ⊢
              exact g1.i _ _ z
          · by_cases y : a = d
            · subst y
              rw [hHd] at z
              rw [upd_same]
              exact z
            · rw [upd_ne y]
              exact g1.h _ _ (by rw [upd_ne y]; exact z)
          · by_cases y : b = d
            · subst y
              rw [upd_same, hd0]
            · rw [upd_ne y, g1.f b (by rw [upd_ne y]; exact h1) (by rw [upd_ne y]; exact h2), upd_ne y]
          · have y : a ≠ d := fun y => by
              rw [y, gd'] at e
              cases e
              exact k2 _ _ rfl
            rw [upd_ne y]
            exact e
          · unfold made
            generalize (List.range cs.length).filter (fun _ => true) = is
            induction is with
            | nil => rfl
            | cons i is ih =>
              show (_ && _) = true
              rw [hgd i]
              exact ih
end
end DL

/-! DL13: own lists: the last item taken, an item stored; a comprehension's pair of names. -/
namespace DL
open PySem L2 PySem.Spec PyProof.Rows
open Evl (Ex)
section
variable {X : Cx} {e b : Expr} {rest : List Stmt} {P : Out → Prop} {δ : List Hold} {ds : List D} {d : D} {pos : Pos} {i : Int}
/-- xs[i] = e -/
theorem ss_setAt (j n : Nat) {o : Str} {p1 sp : Pos} (he : Ee X e δ d) (hb : ∀ (δ : List Hold), Ee X b δ (.int i)) (hix : ixN ds.length i = some n) (h : Ss X rest (δ.set j (.own (ds.set n d))) P) (hj : δ[j]? = some (.own ds) := by rfl)
    (hN : X.N[j]? = some o := by rfl) (hv : Vis X.env.scope o := by first | exact Or.inl rfl | exact Or.inr (Or.inl rfl) | exact Or.inr (Or.inr rfl)) (hd : (o == ("__debug__" : Str)) = false := by decide) (hcd : (o == ("__classdict__" : Str)) = false := by decide)
    (ha : ∀ v, assign (.Subscript (.Name o p1) b sp) X.env v = (do
      let l ← holding [v] (eval (.Name o p1) X.env)
      let k ← holding [v, l] (eval b X.env)
      standAt sp
      holding [v, l, k] (setItem l k v)
      release [v, l, k] []) := by intro _; rfl)
    (hs : swapsWithSole [.Subscript (.Name o p1) b sp] e pos.line X.env = pure false := by rfl) (hw : swappedStores [.Subscript (.Name o p1) b sp] e X.env = pure none := by rfl)
    (h1 : (assignEach [.Subscript (.Name o p1) b sp] X.env).map (·.2) = [assign (.Subscript (.Name o p1) b sp) X.env] := by rfl) : Ss X (.Assign [.Subscript (.Name o p1) b sp] e pos :: rest) δ P :=
  ss_cons (s_of (ps_asg (canE X e) (pg_sub (pv j hN hv hd hcd) (canE X b) set_list ha) hs hw h1) fun Gb Hb G H σ D E F => he Gb Hb G H σ E _ fun v G1 H1 g1 q1 => by
    have E1 := E.mono g1
    obtain ⟨l, xs, a1, a2, a3, a4, a5⟩ := E1.ow j ds hj
    refine ⟨_, a1, hb δ Gb Hb G1 H1 σ E1 _ fun u G2 H2 g2 q2 => ?_⟩
    cases q2
    have E2 := E1.mono g2
    refine ⟨l, xs, i, n, rfl, rfl, g2.h _ _ a4, by rw [a5.length]; exact hix, ?_⟩
    exact F.nx _ h _ G2 _ (g1.g.trans g2.g) (E2.put hj a1 ((a5.mono g2.g).set (q1.mono g2.g) n)))
/-- y = xs.pop()[i] -/
theorem ss_popIx (j k : Nat) {o y : Str} {p1 p2 apos cpos sp : Pos} {es : List D} {dl : D} (nd : X.N.Nodup) (hb : ∀ (δ : List Hold), Ee X b δ (.int i)) (hdl : ds = es ++ [dl]) (hi : dl.items.bind (atI · i) = some d) (hcal : PlainIx b := by intro _ _; rfl)
    (h : Ss X rest ((δ.set j (.own es)).set k (.val d)) P) (hj : δ[j]? = some (.own ds) := by rfl)
    (hN : X.N[j]? = some o := by rfl) (hv : Vis X.env.scope o := by first | exact Or.inl rfl | exact Or.inr (Or.inl rfl) | exact Or.inr (Or.inr rfl)) (hd : (o == ("__debug__" : Str)) = false := by decide) (hcd : (o == ("__classdict__" : Str)) = false := by decide)
    (hk : X.N[k]? = some y := by rfl) (hyl : Loc X.env.scope y := by first | exact Or.inl rfl | exact Or.inr rfl) (hf : X.fn y = true ∨ X.env.scope.names.lookup y = some .local := by first | exact .inl rfl | exact .inr rfl)
    (hbase : attributeBase (.Name o p1) "pop" X.env (eval (.Name o p1) X.env) = eval (.Name o p1) X.env := by rfl) (hline : (apos.endLine == cpos.line) = true := by rfl)
    (hs : swapsWith (.Subscript (.Call (.Attribute (.Name o p1) "pop" apos) [] [] cpos) b sp) (some (.Name y p2)) pos.line X.env = pure false := by rfl) :
    Ss X (.Assign [.Name y p2] (.Subscript (.Call (.Attribute (.Name o p1) "pop" apos) [] [] cpos) b sp) pos :: rest) δ P :=
  ss_cons (s_of (ps_set nd hk hyl (pe_ix ix_seq (pe_bm0 PySem.F.plainAttrs_list PySem.F.slot_list_pop PySem.F.type_list_pop mt_pop (pv j hN hv hd hcd) hbase hline) (canE X b) hcal) hs hf) fun Gb Hb G H σ D E F => by
    obtain ⟨l, xs, a1, a2, a3, a4, a5⟩ := E.ow j ds hj
    subst hdl
    have hln : xs.length = es.length + 1 := by rw [a5.length]; simp
    have hlast : (es ++ [dl])[xs.length - 1]? = some dl := by rw [hln]; simp
    obtain ⟨x, x1, x2⟩ := a5.get hlast
    have hdr : DvAll X.K G xs.dropLast es := by
      have := a5.dropLast
      rwa [List.dropLast_concat] at this
    have E1 := E.put hj a1 hdr
    refine ⟨_, a1, own_ty a4, l, xs, x, rfl, rfl, a4, x1, hb (δ.set j (.own es)) Gb Hb G _ σ E1 _ fun u G2 H2 g2 q2 => ?_⟩
    cases q2
    cases hd' : dl.items with
    | none => rw [hd'] at hi; cases hi
    | some dss =>
      rw [hd'] at hi
      have hi : atI dss i = some d := hi
      obtain ⟨p, vs, rfl, hsq, r⟩ := (x2.mono g2.g).seq g2.i hd'
      obtain ⟨z, hx, rx⟩ := r.at hi
      rcases hsq with hsq | hsq
      · exact .inl ⟨p, vs, i, z, rfl, rfl, hsq, hx, F.nx _ h _ G2 H2 g2.g ((E1.mono g2).set rx)⟩
      · exact .inr (.inl ⟨p, vs, i, z, rfl, rfl, hsq, hx, F.nx _ h _ G2 H2 g2.g ((E1.mono g2).set rx)⟩))
/-- an own list is held as it stands from here on -/
theorem Nv.freeze {K : PySem.W.Frag} {Gb Hb G H : Hp} {σ : L2.St} {δ : List Hold} {i : Nat} {ds : List DL.D} (e : Nv K Gb Hb G H σ δ) (hi : δ[i]? = some (.own ds)) : ∃ G', Ex G G' ∧ Nv K Gb Hb G' H σ (δ.set i (.val (.lst ds))) := by
  obtain ⟨l, xs, h1, h2, h3, h4, h5⟩ := e.ow i ds hi
  have ex : Ex G (upd G l (.lst xs)) := Ex.new h3
  refine ⟨_, ex, ⟨e.gr.g.trans ex, fun a o q => ?_, e.gr.h, fun b hb ht => ?_⟩, by simp [e.ln], fun j d h' => ?_, fun j es h' => ?_, fun j k es fs m g1 g2 q1 q2 => ?_⟩
  · by_cases z : a = l
    · subst z
      rw [upd_same] at q
      rw [h4, q]
    · rw [upd_ne z] at q
      exact e.gr.i a o q
  · rw [upd_ne (fun z => hb (by rw [z]; exact h2))]
    exact e.gr.f b hb ht
  · rcases set_get h' with ⟨rfl, hl, q⟩ | ⟨ne, q⟩
    · cases q
      exact ⟨_, h1, .lst upd_same (h5.mono ex)⟩
    · obtain ⟨v, r1, r2⟩ := e.vl j d q
      exact ⟨v, r1, r2.mono ex⟩
  · rcases set_get h' with ⟨rfl, hl, q⟩ | ⟨ne, q⟩
    · cases q
    · obtain ⟨m, ys, r1, r2, r3, r4, r5⟩ := e.ow j es q
      have nm : m ≠ l := fun z => by
        subst z
        exact ne (e.di j i es ds m q hi r1 h1)
      exact ⟨m, ys, r1, r2, by rw [upd_ne nm]; exact r3, r4, r5.mono ex⟩
  · rcases set_get g1 with ⟨rfl, hl, q⟩ | ⟨ne, q⟩
    · cases q
    rcases set_get g2 with ⟨rfl, hl, q'⟩ | ⟨ne', q'⟩
    · cases q'
    exact e.di j k es fs m q q' q1 q2
theorem ss_frz {sts : List Stmt} (j : Nat) (h : Ss X sts (δ.set j (.val (.lst ds))) P) (hj : δ[j]? = some (.own ds) := by rfl) : Ss X sts δ P := .mk fun Gb Hb G H σ D E F => by
  obtain ⟨G', ex, E'⟩ := E.freeze hj
  exact h.run Gb Hb G' H σ D E' (F.mono ex)
/-- a comprehension's names y, z -/
theorem wipe2 (σ : L2.St) (j k : Nat) (x y : Option V) : L2.wipe (((L2.wipe σ [j, k]).set j x).set k y) [j, k] = L2.wipe σ [j, k] := by
  unfold L2.wipe
  apply List.ext_getElem?
  intro m
  simp only [L2.wipe, List.foldl_cons, List.foldl_nil, List.getElem?_set]
  by_cases h1 : k = m <;> by_cases h2 : j = m <;> simp [h1, h2]
theorem gw_two {x y : Str} {p1 p2 tp : Pos} {kk : Nat} {d1 d2 : D} (j k : Nat) (nd : X.N.Nodup) (hc : X.calm = true) (hi : X.N[j]? = some x := by rfl) (hk : X.N[k]? = some y := by rfl) (hx : Loc X.env.scope x := by first | exact Or.inl rfl | exact Or.inr rfl) (hy : Loc X.env.scope y := by first | exact Or.inl rfl | exact Or.inr rfl)
    (hf : X.fn x = true ∨ X.env.scope.names.lookup x = some .local := by first | exact .inl rfl | exact .inr rfl) (hf2 : X.fn y = true ∨ X.env.scope.names.lookup y = some .local := by first | exact .inl rfl | exact .inr rfl)
    (hn : (assignEach [.Name x p1, .Name y p2] X.env).length = 2 := by rfl) (hst : (assignEach [.Name x p1, .Name y p2] X.env).findIdx? (·.1) = none := by rfl)
    (hs1 : (assignEach ([.Name x p1, .Name y p2] : List Expr) X.env).map (·.2) = assign (.Name x p1) X.env :: (assignEach [.Name y p2] X.env).map (·.2) := by rfl) (hs2 : (assignEach ([.Name y p2] : List Expr) X.env).map (·.2) = assign (.Name y p2) X.env :: (assignEach [] X.env).map (·.2) := by rfl) :
    EgW X [j, k] (.Tuple [.Name x p1, .Name y p2] kk tp) (.tup [d1, d2]) δ ((δ.set j (.val d1)).set k (.val d2)) := .mk fun Gb Hb G H σ v E q Q kk pins s u I r =>
  (pg_tup hc (pgs_cons (pg_name nd hi hx hf) (pgs_cons (pg_name nd hk hy hf2) pgs_nil hs2) hs1) hn hst).run pins s _ H v u Q I r (by
    cases q with
    | tup g1 g2 =>
      cases g2 with
      | cons r1 g2 => cases g2 with
        | cons r2 g2 =>
          cases g2
          exact ⟨_, _, rfl, SqT.of (E.ex _ _ g1), rfl, _, _, rfl, _, _, rfl, rfl, kk _ (wipe2 σ j k _ _) ((E.set r1).set r2)⟩)
end
end DL

/-! DL14: what raises. -/
namespace DL
open PySem L2 PySem.Spec PyProof.Rows
open Evl (Ex)
/-! ### exception classes of the text -/
structure ExT (K : PySem.W.Frag) (mg : Str → Option Value) (x : Str) : Prop where
  m : mg x = some (.ref (adr mg x))
  kC : PySem.W.keepIn K (.ref (adr mg x)) = true
  exC : PySem.W.subIn K (.ref (adr mg x)) (.type "BaseException") = some true
  tyC : PySem.W.typeIn K (.ref (adr mg x)) = some (.type "type")
  hdC : PySem.W.hasDictIn K (adr mg x) = true
  ga : PySem.W.findIn K (.ref (adr mg x)) "__getattribute__" = some (some (.builtin "BaseException.__getattribute__"))
  gg : PySem.W.findIn K (.ref (adr mg x)) "__getattr__" = some none
  kl : PySem.W.findIn K (.ref (adr mg x)) "__class__" = some (some (.builtin "object.__class__"))
  gt : PySem.W.specialIn K (.builtin "object.__class__") "__get__" = some (some (.builtin "getset_descriptor.__get__"))
  tk : PySem.W.takesIn K (.builtin "object.__class__") = some true
  ob : PySem.W.mroIn K (adr mg x) (.type "object") = some true
section
variable {K : PySem.W.Frag} {mg : Str → Option Value} {x y : Str} {C : Addr}
theorem exT (m : mg x = some (.ref C)) (h1 : PySem.W.keepIn K (.ref C) = true) (h2 : PySem.W.subIn K (.ref C) (.type "BaseException") = some true) (h3 : PySem.W.typeIn K (.ref C) = some (.type "type")) (h4 : PySem.W.hasDictIn K C = true)
    (h5 : PySem.W.findIn K (.ref C) "__getattribute__" = some (some (.builtin "BaseException.__getattribute__"))) (h6 : PySem.W.findIn K (.ref C) "__getattr__" = some none) (h7 : PySem.W.findIn K (.ref C) "__class__" = some (some (.builtin "object.__class__")))
    (h8 : PySem.W.specialIn K (.builtin "object.__class__") "__get__" = some (some (.builtin "getset_descriptor.__get__"))) (h9 : PySem.W.takesIn K (.builtin "object.__class__") = some true) (h10 : PySem.W.mroIn K C (.type "object") = some true) : ExT K mg x := by
  obtain rfl : adr mg x = C := adr_eq m
  exact ⟨m, h1, h2, h3, h4, h5, h6, h7, h8, h9, h10⟩
/-- is x's class under y's -/
structure SubE (K : PySem.W.Frag) (mg : Str → Option Value) (x y : Str) (b : Bool) : Prop where
  s : PySem.W.subIn K (.ref (adr mg x)) (.ref (adr mg y)) = some b
theorem subE {D : Addr} {b : Bool} (m : mg x = some (.ref C)) (m2 : mg y = some (.ref D)) (h : PySem.W.mroIn K C (.ref D) = some b) : SubE K mg x y b := by
  obtain rfl : adr mg x = C := adr_eq m
  obtain rfl : adr mg y = D := adr_eq m2
  exact ⟨h⟩
structure SubV (K : PySem.W.Frag) (mg : Str → Option Value) (x : Str) : Prop where
  s : PySem.W.subIn K (.ref (adr mg x)) (.type "ValueError") = some true
theorem subV (m : mg x = some (.ref C)) (h : PySem.W.mroIn K C (.type "ValueError") = some true) : SubV K mg x := by
  obtain rfl : adr mg x = C := adr_eq m
  exact ⟨h⟩
/-- a class without own __init__ -/
structure ExO (K : PySem.W.Frag) (mg : Str → Option Value) (x : Str) : Prop where
  q : PySem.W.excIn K (adr mg x) [.type "ValueError", .type "Exception", .type "BaseException", .type "object"] "ValueError.__new__" = true
theorem exO (m : mg x = some (.ref C)) (h : PySem.W.excIn K C [.type "ValueError", .type "Exception", .type "BaseException", .type "object"] "ValueError.__new__" = true) : ExO K mg x := by
  obtain rfl : adr mg x = C := adr_eq m
  exact ⟨h⟩
/-- the base: its __init__ is ValueError's -/
structure ExB (K : PySem.W.Frag) (mg : Str → Option Value) (x : Str) : Prop where
  rd : PySem.W.readsIn K (adr mg x) (.type "type") = true
  ga : PySem.W.specialIn K (.ref (adr mg x)) "__getattribute__" = some (some (.builtin "type.__getattribute__"))
  at_ : PySem.W.findCls K (.ref (adr mg x)) (.type "type") "__init__" = some (.val (.builtin "ValueError.__init__"))
theorem exB (m : mg x = some (.ref C)) (h1 : PySem.W.readsIn K C (.type "type") = true) (h2 : PySem.W.specialIn K (.ref C) "__getattribute__" = some (some (.builtin "type.__getattribute__")))
    (h3 : PySem.W.findCls K (.ref C) (.type "type") "__init__" = some (.val (.builtin "ValueError.__init__"))) : ExB K mg x := by
  obtain rfl : adr mg x = C := adr_eq m
  exact ⟨h1, h2, h3⟩
/-- a class whose __init__(self, at) is a def of the text -/
structure ExI (K : PySem.W.Frag) (mg : Str → Option Value) (x qual : Str) (st : Stmt) (ps : List Str) : Prop where
  cls : OexC K (adr mg x)
  noAt : PySem.W.findIn K (.ref (adr mg x)) "at" = some none
  ex : ∃ f fd, PySem.W.findIn K (.ref (adr mg x)) "__init__" = some (some (.ref f)) ∧ PySem.W.typeIn K (.ref f) = some (.type "function") ∧ Fun K "__init__" qual st f fd ∧ Binds K fd ps []
theorem exI {qual : Str} {st : Stmt} {ps : List Str} {f : Addr} {oc : Value} {od an : Option Addr} {osl : Array (Option Value)} {kV doc pm cdv ct : Value} (m : mg x = some (.ref C)) (o : OexC K C) (n : PySem.W.findIn K (.ref C) "at" = some none)
    (a : PySem.W.findIn K (.ref C) "__init__" = some (some (.ref f))) (t : PySem.W.typeIn K (.ref f) = some (.type "function"))
    (l : K.lookup f = some ⟨oc, od, .func (PySem.W.fnOf "__init__" qual (defArgs st) (defBody st) (defScope st) .none kV doc pm an cdv ct), osl⟩) (c : PySem.W.codeIn K cdv qual = true) (k : PySem.W.keepIn K (.ref f) = true)
    (b : ∀ (kV doc pm : Value) (an : Option Addr) (cdv ct : Value) (us : List Value), us.length = ps.length → bindArgs (PySem.W.fnOf "__init__" qual (defArgs st) (defBody st) (defScope st) .none kV doc pm an cdv ct) ⟨us, []⟩ = pure (ps.zip us)) : ExI K mg x qual st ps := by
  obtain rfl : adr mg x = C := adr_eq m
  exact ⟨o, n, f, _, a, t, fun_mk l c k, (fun_mk l c k).binds b⟩
theorem kit_sub {b : Bool} (ex : ExT K mg y) (s : SubE K mg x y b) (sx : SubE K mg x x true) : PySem.W.kitOne K (.ref (adr mg x)) (.ref (adr mg y)) = some b := by
  unfold PySem.W.kitOne
  split
  · rename_i h
    have e : adr mg x = adr mg y := by simpa using h
    have h1 := s.s
    rw [← e, sx.s] at h1
    exact h1
  · obtain ⟨cd, hc, _⟩ := PySem.W.any_some ex.hdC
    show (if ((PySem.W.clsIn K (adr mg y)).isSome && PySem.W.typeIn K (.ref (adr mg y)) == some (.type "type")) = true then PySem.W.subIn K (.ref (adr mg x)) (.ref (adr mg y)) else none) = some b
    rw [hc, ex.tyC, if_pos (by rfl)]
    exact s.s
theorem kit_val (s : SubV K mg x) : PySem.W.kitOne K (.ref (adr mg x)) (.type "ValueError") = some true := by
  unfold PySem.W.kitOne
  split
  · rfl
  · show (if PySem.W.kitMeta "ValueError" = true then PySem.W.subIn K (.ref (adr mg x)) (.type "ValueError") else none) = some true
    rw [if_pos (by decide +kernel)]
    exact s.s
theorem exm_sub {b : Bool} (ex : ExT K mg y) (s : SubE K mg x y b) : PySem.W.exmOne K (.ref (adr mg x)) (.ref (adr mg y)) = some b := PySem.W.exm_ref ex.exC ex.hdC ex.tyC s.s
end

/-! ### what is raised -/
structure Exn where
  x : Str
  at? : Option Int
def ExF (x : Exn) (d : Option Addr) (H : Hp) : Prop := match x.at? with
  | none => d = none
  | some k => ∃ dd fs, d = some dd ∧ H dd = some (.xd fs) ∧ fs.lookup ("at" : Str) = some (V.int k)
def ExP (mg : Str → Option Value) (H : Hp) (x : Exn) (E : XK) : Prop := ∀ d H', Ex H H' → ExF x d H' → E (.ref (adr mg x.x)) d H'
theorem ExP.mono {mg : Str → Option Value} {H H1 : Hp} {x : Exn} {E : XK} (p : ExP mg H x E) (e : Ex H H1) : ExP mg H1 x E := fun d H' h f => p d H' (e.trans h) f
/-- called with data ds it raises x -/
def spX (K : PySem.W.Frag) (mg : Str → Option Value) (R : List D → Exn → Prop) : Sp := fun vs H _ E => ∃ G ds x, Ex G H ∧ DvAll K G vs ds ∧ R ds x ∧ ExP mg H x E
/-- X lets x out, from what stood at Hb -/
structure LetX (X : Cx) (Hb : Hp) (x : Exn) : Prop where
  ex : ∃ E : XK, Takes X (fun cls d _ H => E cls d H) ∧ ExP X.mg Hb x E
/-- statements that end by raising -/
structure Sx (X : Cx) (Hb : Hp) (sts : List Stmt) (δ : List Hold) : Prop where
  run : ∀ Gb G H σ D, Nv X.K Gb Hb G H σ δ → rSs X sts D σ H
/-- an expression that raises -/
structure Xe (X : Cx) (Hb : Hp) (e : Expr) (δ : List Hold) : Prop where
  run : ∀ Gb G H σ Q, Nv X.K Gb Hb G H σ δ → rE X e σ H Q
section
variable {X : Cx} {Hb : Hp} {st : Stmt} {rest a b body : List Stmt} {e c o tg iter : Expr} {es : List Expr} {δ : List Hold} {d : D} {ds : List D} {pos p p2 pos' : Pos} {k : Bool} {x : Exn} {n : Nat} {f : Nat → D}
theorem sx_cons (h : S1 X st δ (fun o => ∃ δ', o = .nx δ' ∧ Sx X Hb rest δ')) : Sx X Hb (st :: rest) δ := .mk fun Gb G H σ D E pins s I =>
  (pss_cons (canS X st) (canSs X rest)).run pins s σ H D I (h.run Gb Hb G H σ _ E ⟨fun δ' ⟨_, q, p⟩ σ' G' H' _ E' => by cases q; exact p.run Gb G' H' σ' D E', (fun δ' ⟨_, q, _⟩ => by cases q), (fun δ' ⟨_, q, _⟩ => by cases q), (fun r ⟨_, q, _⟩ => by cases q)⟩)
theorem sx_set (i : Nat) {y : Str} {p1 : Pos} (nd : X.N.Nodup) (he : Ee X e δ d) (h : Sx X Hb rest (δ.set i (.val d))) (hi : X.N[i]? = some y := by rfl) (hx : Loc X.env.scope y := by first | exact Or.inl rfl | exact Or.inr rfl) (hs : swapsWith e (some (.Name y p1)) pos.line X.env = pure false := by rfl)
    (hf : X.fn y = true ∨ X.env.scope.names.lookup y = some .local := by first | exact .inl rfl | exact .inr rfl) : Sx X Hb (.Assign [.Name y p1] e pos :: rest) δ := sx_cons (s_set i nd he ⟨_, rfl, h⟩ hi hx hs hf)
theorem sx_if (hc : Et X c δ k) (h1 : k = true → Sx X Hb a δ) (h2 : k = false → ∀ R : Out → Prop, (∀ δ', Sx X Hb rest δ' → R (.nx δ')) → True) (hk : k = true) : Sx X Hb (.If c a b pos :: rest) δ := .mk fun Gb G H σ D E pins s I =>
  (pss_cons (ps_if (canT X c) (canSs X a) (canSs X b)) (canSs X rest)).run pins s σ H D I (hc.run Gb Hb G H σ E _ fun G1 H1 g1 => by
    subst hk
    exact iteT ((h1 rfl).run Gb G1 H1 σ _ (E.mono g1)))
theorem sx_take (hc : Et X c δ k) (hk : k = true) (h1 : Sx X Hb a δ) : Sx X Hb (.If c a b pos :: rest) δ := sx_if hc (fun _ => h1) (fun _ _ _ => True.intro) hk
theorem sx_skip (hc : Et X c δ k) (hk : k = false) (h2 : Sx X Hb rest δ) : Sx X Hb (.If c a [] pos :: rest) δ := .mk fun Gb G H σ D E pins s I =>
  (pss_cons (ps_if (canT X c) (canSs X a) pss_nil) (canSs X rest)).run pins s σ H D I (hc.run Gb Hb G H σ E _ fun G1 H1 g1 => by
    subst hk
    exact iteF (h2.run Gb G1 H1 σ D (E.mono g1)))
theorem sx_ret (h : Xe X Hb e δ) : Sx X Hb (.Return (some e) pos :: rest) δ := .mk fun Gb G H σ D E pins s I =>
  (pss_cons (ps_ret (canE X e)) (canSs X rest)).run pins s σ H D I (h.run Gb G H σ _ E)
theorem sx_for (hp : PassesOwn (model X.prog X.w) X.A X.env X.xe) (hc : X.calm = true) (hi : Sr X tg iter δ n f) (I : Nat → List Hold → Prop) (m : Nat) (hm : m < n) (h0 : I 0 δ)
    (hs : ∀ i δ', i < m → I i δ' → ∃ δ'', Eg X tg (f i) δ' δ'' ∧ Ss X body δ'' (Turned I i (fun _ => False))) (hd : ∀ δ', I m δ' → ∃ δ'', Eg X tg (f m) δ' δ'' ∧ Sx X Hb body δ'') (hfs : ∀ x, foldedSetIterable iter X.env x = pure x := by intro _; rfl) :
    Sx X Hb (.For tg iter body [] pos :: rest) δ := .mk fun Gb G H σ D E pins s II =>
  (pss_cons (ps_for hp hc (canI X tg iter) (canG X tg) (canSs X body) hfs) (canSs X rest)).run pins s σ H D II (hi.run Gb Hb G H σ E _ fun J G1 H1 g1 S => by
    refine ⟨fun i q σ' H' => q = n - i ∧ i ≤ m ∧ ∃ G' δ', Ex G1 G' ∧ Nv X.K Gb Hb G' H' σ' δ' ∧ I i δ', ⟨n, by simp, Nat.zero_le _, G1, δ, Evl.Ex.refl _, E.mono g1, h0⟩, ?_⟩
    rintro i q σ' H' ⟨rfl, hin, G', δ', e1, E', hI⟩
    have hlt : i < n := by omega
    refine .inr ⟨S.go i G' H' hlt e1 E'.ex, fun σ2 H2 => i + 1 ≤ m ∧ ∃ G2 δ2, Ex G1 G2 ∧ Nv X.K Gb Hb G2 H2 σ2 δ2 ∧ I (i + 1) δ2, fun σ2 H2 ⟨hm2, G2, δ2, a1, a2, a3⟩ => ⟨n - (i + 1), by omega, rfl, hm2, G2, δ2, a1, a2, a3⟩, fun x H2 y => ?_⟩
    obtain ⟨G2, g2, q2⟩ := S.yld i G' H' x H2 hlt e1 E'.ex y
    by_cases him : i < m
    · obtain ⟨δ2, hg, hb⟩ := hs i δ' him hI
      refine hg Gb Hb G2 H2 σ' x (E'.mono g2) q2 _ fun σ3 E3 => hb.run Gb Hb G2 H2 σ3 _ E3 ⟨?_, ?_, ?_, ?_⟩
      · exact fun δ3 p σ4 G4 H4 ex E4 => ⟨him, G4, δ3, (e1.trans g2.g).trans ex, E4, p⟩
      · exact fun δ3 p => False.elim p
      · exact fun δ3 p σ4 G4 H4 ex E4 => ⟨him, G4, δ3, (e1.trans g2.g).trans ex, E4, p⟩
      · exact fun r p => False.elim p
    · have e : i = m := by omega
      subst e
      obtain ⟨δ2, hg, hb⟩ := hd δ' hI
      exact hg Gb Hb G2 H2 σ' x (E'.mono g2) q2 _ fun σ3 E3 => hb.run Gb G2 H2 σ3 _ E3)
/-! ### raise -/
/-- raise X('..'), X without own __init__ -/
theorem sx_raise {y m : Str} {j : Nat} (hc : X.calm = true) (L : LetX X Hb ⟨y, none⟩) (T : ExT X.K X.mg y) (o : ExO X.K X.mg y) (hg : Gl X y := by rfl) (hdb : (y == ("__debug__" : Str)) = false := by decide) :
    Sx X Hb (.Raise (some (.Call (.Name y p) [.Constant (.str m) j p2] [] pos)) none pos' :: rest) δ := .mk fun Gb G H σ D E pins s I => by
  obtain ⟨W, tk, po⟩ := L.ex
  exact (pss_cons (ps_raise hc tk (pmk_own PySem.F.excBase_ValueError o.q T.m T.kC (raises_own T.exC T.tyC) hg hdb)) (canSs X rest)).run pins s σ H D I (po none H E.gr.h rfl)
/-- what such an __init__ does -/
def spEI (C : Addr) : Sp := fun vs H Q _ => ∃ a k, vs = [.ref a, .int k] ∧ H a = some (exo a C none) ∧ ∀ dx, H dx = none → dx ≠ a → Q .non (upd (upd H dx (exd dx [(("at" : Str), V.int k)])) a (exo a C (some dx)))
structure EIni (P : Program) (w : World) (K : PySem.W.Frag) (mg : Str → Option Value) (base : Heap) (k : Nat) (x : Str) : Prop where
  ex : ∃ f fd ps, PySem.W.findIn K (.ref (adr mg x)) "__init__" = some (some (.ref f)) ∧ PySem.W.typeIn K (.ref f) = some (.type "function") ∧ FnOk P w K mg base CX0 k f fd ps (spEI (adr mg x)) ∧ Binds K fd ps []
theorem sx_raiseAt {y : Str} {kk : Nat} {i : Int} (hc : X.calm = true) (L : LetX X Hb ⟨y, some i⟩) (T : ExT X.K X.mg y) (o : OexC X.K (adr X.mg y)) (M : EIni X.prog X.w X.K X.mg X.base kk y) (hr : Room (kk + 1) X.A) (he : Ee X e δ (.int i)) (hg : Gl X y := by rfl)
    (hdb : (y == ("__debug__" : Str)) = false := by decide) (hst : starEach [e] X.env = (false, eval e X.env) :: starEach [] X.env := by rfl) (hpl : (backTo pos (starEach [] X.env)).any (·.1) = false := by rfl) :
    Sx X Hb (.Raise (some (.Call (.Name y p) [e] [] pos)) none pos' :: rest) δ := .mk fun Gb G H σ D E pins s I => by
  obtain ⟨W, tk, po⟩ := L.ex
  obtain ⟨f, fd, ps, h1, h2, F, hb⟩ := M.ex
  refine (pss_cons (ps_raise hc tk (pmk_oex (dvs := []) o h1 h2 F hr hb .nil pass0 hg T.m (canA X [e]) hdb hst hpl)) (canSs X rest)).run pins s σ H D I ?_
  refine (a_cons he a_nil hst).run Gb Hb G H σ E _ fun vs G1 H1 g1 q1 => ?_
  cases q1 with
  | cons q1 q2 =>
    cases q2
    cases q1
    refine ⟨by show 1 ≤ 1000; decide, fun a na => ⟨a, i, rfl, upd_same, fun dx nd ne => ⟨rfl, dx, _, upd_same, by rw [upd_ne ne, upd_same], by rw [upd_ne ne] at nd; exact nd, ?_⟩⟩⟩
    rw [upd_ne ne] at nd
    refine po (some dx) _ (fun b u hb => ?_) ⟨dx, _, rfl, upd_same, rfl⟩
    have z := g1.h _ _ (E.gr.h _ _ hb)
    have n1 : b ≠ a := ne_of_none z na
    have n2 : b ≠ dx := ne_of_none z nd
    rw [upd_ne n2, del_ne n1, upd_ne n1, upd_ne n2, upd_ne n1]
    exact z
end
/-- FloorError.__init__(self, ..) -/
theorem pe_clsinit {X : Cx} {x : Str} {e : Expr} {es : List Expr} {ta : TA} {p1 p2 pos : Pos} {pl : Sem Bool} (hg : Gl X x) (T : ExT X.K X.mg x) (B : ExB X.K X.mg x) (ha : PA X (e :: es) ta) (hdb : (x == ("__debug__" : Str)) = false := by decide)
    (hc : eval (.Call (.Attribute (.Name x p1) "__init__" p2) (e :: es) [] pos) X.env = (do
      let it ← eval (.Name x p1) X.env
      standAt p2.atName
      let (g, own) ← holding [it] (getMethod it "__init__" pl)
      callWith pos g own (backTo pos (starEach (e :: es) X.env)) (backToKw pos (keywordEach [] X.env))) := by rfl)
    (he : starEach (e :: es) X.env = (false, eval e X.env) :: starEach es X.env := by rfl)
    (hpl : ((backTo pos (starEach es X.env)).any fun a => a.1) = false := by rfl) :
    PE X (.Call (.Attribute (.Name x p1) "__init__" p2) (e :: es) [] pos) (tVeI X.K ta) := by
  constructor
  intro pins s σ H Q I h
  refine PySem.W.methodCall_KW (ld_glob I hg T.m (PySem.W.method_cls I.kIn B.ga (PySem.W.cls_value I.kIn B.rd B.at_ rfl ?_)) hdb) hc
  refine (PyProof.Rows.callWith_method1 ?_ he hpl : wpAny _ _ (callWith pos (.builtin "ValueError.__init__") [] _ []) _ _ _)
  refine thn (ha.run pos pins _ σ H _ (I.tok _) h) ?_
  rintro us t ⟨_, H1, J, rel, self, C, ws, rfl, many, cls, at_self, q⟩
  match us, rel with
  | _ :: others, .cons me tail =>
    cases me
    have n := Paired.length tail
    exact oinit_ok cls J at_self (by rw [sizeLine_eq]; omega) fun _ J => ⟨.non, H1, J, rfl, q⟩
/-! ### defs that raise -/
abbrev bxx (P : Program) (w : World) (K : PySem.W.Frag) (mg : Str → Option Value) (base : Heap) (N : List Str) (qual : Str) (sc : Scope) (Z : Site) : Cx :=
  cxOf (L2.CX P w) P w K mg base N qual sc Z.f Z.cd Z.A Z.outer Z.s Z.H Z.E
section
variable {base : Heap} {mg : Str → Option Value} {K : PySem.W.Frag} {P : Program} {w : World}
theorem letx {N : List Str} {qual : Str} {sc : Scope} {Z : Site} {H : Hp} {x : Exn} (p : ExP mg H x Z.E) : LetX (bxx P w K mg base N qual sc Z) H x := ⟨Z.E, takes_of rfl rfl rfl rfl, p⟩
theorem passx {N : List Str} {qual : Str} {sc : Scope} {Z : Site} : PassesOwn (model P w) (bxx P w K mg base N qual sc Z).A (bxx P w K mg base N qual sc Z).env (bxx P w K mg base N qual sc Z).xe :=
  passes_of (X := bxx P w K mg base N qual sc Z) rfl
theorem fn_X {x qual : Str} {st : Stmt} {f : Addr} {fd : FuncData} {N ps : List Str} {k : Nat} {R : List D → Exn → Prop} (F : Fun K x qual st f fd) (S : FnScope N ps (defScope st)) (hl : ∀ ds r, R ds r → ds.length = ps.length)
    (hb : ∀ Z : Site, Room k (bxx P w K mg base N qual (defScope st) Z).A → ∀ ds x Hb, R ds x → LetX (bxx P w K mg base N qual (defScope st) Z) Hb x → Sx (bxx P w K mg base N qual (defScope st) Z) Hb (defBody st) (startD N.length ds)) : FnOk P w K mg base (L2.CX P w) (k + 1) f fd ps (spX K mg R) := by
  have hpl : ps.length ≤ N.length := few_ps S
  refine F.okX S (fun vs H Q E ⟨G, ds, r, ex, rv, hR, po⟩ => by rw [rv.length]; exact hl ds r hR) fun cdv A outer s H vs Q E hr h => ?_
  obtain ⟨G, ds, r, ex, rv, hR, po⟩ := h
  exact ⟨_, canSs _ _, (hb ⟨f, cdv, A, outer, s, H, E⟩ hr ds r H hR (letx (Z := ⟨f, cdv, A, outer, s, H, E⟩) po)).run G G H (L2.start N vs) _ (nv_start ex rv (by rw [rv.length, hl ds r hR]; exact hpl))⟩
/-- a global name, called so, raises -/
structure XCal (P : Program) (w : World) (K : PySem.W.Frag) (mg : Str → Option Value) (base : Heap) (k : Nat) (x : Str) (R : List D → Exn → Prop) : Prop where
  ex : ∃ (f : Addr) (fd : FuncData) (ps : List Str), mg x = some (.ref f) ∧ PySem.W.keepIn K (.ref f) = true ∧ FnOk P w K mg base (L2.CX P w) k f fd ps (spX K mg R) ∧ Binds K fd ps []
theorem cal_X {x : Str} {st : Stmt} {N ps : List Str} {k : Nat} {R : List D → Exn → Prop} (T : DefT K mg x st ps) (S : FnScope N ps (defScope st)) (hl : ∀ ds r, R ds r → ds.length = ps.length)
    (hb : ∀ Z : Site, Room k (bxx P w K mg base N x (defScope st) Z).A → ∀ ds e Hb, R ds e → LetX (bxx P w K mg base N x (defScope st) Z) Hb e → Sx (bxx P w K mg base N x (defScope st) Z) Hb (defBody st) (startD N.length ds)) : XCal P w K mg base (k + 1) x R := by
  obtain ⟨f, fd, h1, h2, h3⟩ := T.ex
  exact ⟨f, fd, ps, h1, h2.kp, fn_X h2 S hl hb, h3⟩
structure XMcal (P : Program) (w : World) (K : PySem.W.Frag) (mg : Str → Option Value) (base : Heap) (k : Nat) (C : Addr) (m : Str) (R : List D → Exn → Prop) : Prop where
  cl : Cls K C
  ex : ∃ (f : Addr) (fd : FuncData) (ps : List Str), Meth K C m f ∧ FnOk P w K mg base (L2.CX P w) k f fd ps (spX K mg R) ∧ Binds K fd ps []
theorem mcal_X {x m qual : Str} {st : Stmt} {N ps : List Str} {k : Nat} {R : List D → Exn → Prop} (c : ClsT K mg x) (T : MetT K mg x m qual st ps) (S : FnScope N ps (defScope st)) (hl : ∀ ds r, R ds r → ds.length = ps.length)
    (hb : ∀ Z : Site, Room k (bxx P w K mg base N qual (defScope st) Z).A → ∀ ds e Hb, R ds e → LetX (bxx P w K mg base N qual (defScope st) Z) Hb e → Sx (bxx P w K mg base N qual (defScope st) Z) Hb (defBody st) (startD N.length ds)) : XMcal P w K mg base (k + 1) (adr mg x) m R := by
  obtain ⟨f, fd, h1, h2, h3⟩ := T.ex
  exact ⟨c.cl, f, fd, ps, h1, fn_X h2 S hl hb, h3⟩
end
section
variable {X : Cx} {Hb : Hp} {e o : Expr} {es : List Expr} {δ : List Hold} {ds : List D} {pos p apos : Pos} {y : Str} {k : Nat} {R : List D → Exn → Prop} {x : Exn}
theorem xe_call (C : XCal X.prog X.w X.K X.mg X.base k y R) (hr : Room k X.A) (L : LetX X Hb x) (ha : Ea X (e :: es) δ ds) (hR : R ds x) (hg : Gl X y := by rfl)
    (hdb : (y == ("__debug__" : Str)) = false := by decide) (he : starEach (e :: es) X.env = (false, eval e X.env) :: starEach es X.env := by rfl)
    (hpl : ((backTo pos (starEach es X.env)).any fun a => a.1) = false := by rfl) :
    Xe X Hb (.Call (.Name y p) (e :: es) [] pos) δ := .mk fun Gb G H σ Q E pins s I => by
  obtain ⟨W, tk, po⟩ := L.ex
  obtain ⟨f, fd, ps, hm, hk, F, hb⟩ := C.ex
  refine (pe_callS (E := fun _ => W) F hr hg hm hk hb (fun σ => passAt tk σ) (canA X (e :: es)) hdb he hpl).run pins s σ H Q I ?_
  exact ha.run Gb Hb G H σ E _ fun vs G1 H1 g1 q1 => ⟨G1, ds, x, g1.i, q1, hR, po.mono (E.gr.h.trans g1.h)⟩
theorem xe_meth {C : Addr} {m : Str} {fs : List (Str × D)} {pl : Sem Bool} (M : XMcal X.prog X.w X.K X.mg X.base k C m R) (hr : Room k X.A) (L : LetX X Hb x) (ho : Ee X o δ (.obj C fs)) (ha : Ea X (e :: es) δ ds) (hR : R (.obj C fs :: ds) x) (hf : fs.lookup m = none)
    (hst : starEach (e :: es) X.env = (false, eval e X.env) :: starEach es X.env := by rfl) (hpl : ((backTo pos (starEach es X.env)).any fun a => a.1) = false := by rfl)
    (tree : eval (.Call (.Attribute o m apos) (e :: es) [] pos) X.env = (do
      let it ← eval o X.env
      standAt apos.atName
      let (g, own) ← holding [it] (getMethod it m pl)
      callWith pos g own (backTo pos (starEach (e :: es) X.env)) (backToKw pos (keywordEach [] X.env))) := by rfl) : Xe X Hb (.Call (.Attribute o m apos) (e :: es) [] pos) δ := .mk fun Gb G H σ Q E pins s I => by
  obtain ⟨W, tk, po⟩ := L.ex
  obtain ⟨f, fd, ps, hm, F, hb⟩ := M.ex
  refine (pe_meth (E := W) (dvs := []) (canE X o) M.cl hm F hr hb .nil (passes_call tk fun _ _ _ _ h => h) (canA X (e :: es)) hst hpl tree).run pins s σ H Q I ?_
  refine ho.run Gb Hb G H σ E _ fun v G1 H1 g1 q1 => ?_
  have E1 := E.mono g1
  cases q1 with
  | obj h1 h2 =>
    refine ⟨_, _, _, rfl, g1.i _ _ h1, h2.none hf, ha.run Gb Hb G1 H1 σ (E.mono g1) _ fun vs G2 H2 g2 q2 => ?_⟩
    rw [List.append_nil]
    exact ⟨G2, _, x, g2.i, .cons ((Dv.obj h1 h2).mono g2.g) q2, hR, po.mono ((E.gr.h.trans g1.h).trans g2.h)⟩
/-- an __init__ that raises -/
def spIX (K : PySem.W.Frag) (mg : Str → Option Value) (C : Addr) (R : List D → Exn → Prop) : Sp := fun vs H _ E => ∃ H0 G p dx ws ds x, vs = V.ref p :: ws ∧ Ex G H ∧ G p = none ∧ H p = some (.ins C dx []) ∧ InL K G H ws ds ∧ R ds x ∧ Ex H0 H ∧ H0 p = none ∧ ExP mg H0 x E
structure XMade (P : Program) (w : World) (K : PySem.W.Frag) (mg : Str → Option Value) (base : Heap) (k : Nat) (x : Str) (R : List D → Exn → Prop) : Prop where
  ex : ∃ (fI : Addr) (fd : FuncData) (ps : List Str), mg x = some (.ref (adr mg x)) ∧ Mk K (adr mg x) fI ∧ FnOk P w K mg base (L2.CX P w) k fI fd ps (spIX K mg (adr mg x) R) ∧ Binds K fd ps []
theorem xe_make {d : D} (M : XMade X.prog X.w X.K X.mg X.base k y R) (hr : Room (k + 1) X.A) (L : LetX X Hb x) (ha : Ee X e δ d) (hi : d.litems = some ds) (hR : R [.lst ds] x) (hg : Gl X y := by rfl)
    (hdb : (y == ("__debug__" : Str)) = false := by decide) (he : starEach [e] X.env = (false, eval e X.env) :: starEach [] X.env := by rfl) (hpl : (backTo pos (starEach [] X.env)).any (·.1) = false := by rfl) :
    Xe X Hb (.Call (.Name y p) [e] [] pos) δ := .mk fun Gb G H σ Q E pins s I => by
  obtain ⟨W, tk, po⟩ := L.ex
  obtain ⟨fI, fd, ps, hm, hM, F, hb⟩ := M.ex
  refine (pe_make (E := W) (dvs := []) hM F hr hg hm hb .nil (passes_call tk fun _ _ _ _ h => h) (canA X [e]) hdb he hpl).run pins s σ H Q I ?_
  refine (a_cons ha a_nil he).run Gb Hb G H σ E _ fun vs G1 H1 g1 q1 z dx nz ndx ne => ?_
  cases q1 with
  | cons q1 q2 =>
    cases q2
    obtain ⟨l, xs, rfl, hs, rr⟩ := q1.lsq g1.i hi
    have ex2 := made_ex (C := adr X.mg y) g1.i nz ndx ne
    exact ⟨H1, G1, z, dx, [V.ref l], [.lst ds], x, rfl, g1.i.trans ex2, Evl.fresh_back g1.i nz, upd_same, ⟨l, xs, ds, rfl, rfl, Evl.ex_l ex2 hs, rr⟩, hR, ex2, nz, po.mono (E.gr.h.trans g1.h)⟩
end
end DL

/-! DL15: several except clauses with a name; a def called in an except suite with the exception as its argument. -/
namespace DL
open PySem L2 PySem.Spec PyProof.Rows
open Evl (Ex)
/-! ### try: .. except A as n: .. except B as n: .. -/
/-- what the clauses wish, slot i is the name's -/
def wManyA (K : PySem.W.Frag) (i : Nat) (Wout : WX) (D : Ends) : List (Value × (Addr → Value → Option Addr → TS)) → WX
  | [] => Wout
  | (c, ts) :: r => fun cls d σ H => ∃ b, PySem.W.exmOne K cls c = some b ∧
      (b = true → ∀ a, H a = none → ts a cls d { nx := fun σ' H' => D.nx (σ'.set i none) H', rt := D.rt, bk := fun σ' H' => D.bk (σ'.set i none) H', ct := fun σ' H' => D.ct (σ'.set i none) H' } (σ.set i (some (.ref a))) H) ∧
      (b = false → wManyA K i Wout D r cls d σ H)
/-- the clauses, each with the class that its name tells and what its suite does -/
inductive HdsA (X : Cx) (n : Str) : List ExceptHandler → List (Value × (Addr → Value → Option Addr → TS)) → Prop
  | nil : HdsA X n [] []
  | cons {x : Str} {c : Value} {ts : Addr → Value → Option Addr → TS} {first : Stmt} {more : List Stmt} {np pos' : Pos} {others : List ExceptHandler} {l : List (Value × (Addr → Value → Option Addr → TS))} (nm : Names X x c)
      (run : ∀ (a : Addr) (o : Obj) (cls : Value) (d : Option Addr) (pn : List (Addr × Obj)), Zc cls d o → (∃ vs, o.data = .fields vs) → PSs (X.suite a ((a, o) :: pn)) (first :: more) (ts a cls d)) (r : HdsA X n others l) :
      HdsA X n (.ExceptHandler (some (.Name x np)) (some n) (first :: more) pos' :: others) ((c, ts) :: l)
/-- an exception that the frame has caught and that no clause has taken yet; sI is the state without it -/
structure Landed (X : Cx) (pins : List (Addr × Obj)) (B : Heap) (sI : Shared) (a : Addr) (cls : Value) (d : Option Addr) (σ : L2.St) (H : Hp) (s : Shared) : Prop where
  inv : Inv X pins σ H sI
  old : ∀ b o, sI.heap.get? b = some o → b ∉ frs X.stack → B.get? b = some o
  up : sI.heap.UpToSlots s.heap
  fly : HandSPX.FlyingZ B (X.env :: X.outer) a (Zc cls d) s.heap
  na : H a = none
  os : s.os = sI.os
  bare : AllBare s.gens
section
variable {X : Cx} {pins : List (Addr × Obj)} {B : Heap} {sI s : Shared} {a : Addr} {cls c : Value} {d : Option Addr} {σ : L2.St} {H : Hp} {Wout : WX} {n x : Str} {i : Nat} {D : Ends} {np pos : Pos} {l : List (Value × (Addr → Value → Option Addr → TS))}
theorem Landed.here (L : Landed X pins B sI a cls d σ H s) : Inv X pins σ H s := L.inv.landed L.old L.fly.1 L.up L.os L.bare
/-- it is none of the frames -/
theorem Landed.off (L : Landed X pins B sI a cls d σ H s) (hf : X.env.frame = some X.env.locals) : a ≠ X.env.locals ∧ a ∉ X.fs := by
  obtain ⟨o, vs, at_a, _, fields⟩ := L.fly.there
  have out : a ∉ frs (X.env :: X.outer) := fun isf => by
    obtain ⟨_, o', at_a', no_fields⟩ := L.fly.2.2.1.mem isf
    cases at_a.symm.trans at_a'
    exact no_fields _ fields
  refine ⟨fun e => out ?_, fun isf => out ?_⟩
  · exact List.mem_filterMap.mpr ⟨X.env, .head _, e ▸ hf⟩
  · exact (List.mem_filterMap.mp isf).elim fun e z => List.mem_filterMap.mpr ⟨e, .tail _ z.1, z.2⟩
/-- the flight's number is set back: all stays -/
theorem Landed.again {M : Model} {A : Around} {Q : Unit → Shared → Prop} {E : Value → Shared → Prop} (L : Landed X pins B sI a cls d σ H s) (go : ∀ g, Landed X pins B sI a cls d σ H { s with heap := g } → Q () { s with heap := g }) :
    wpAny M A (setFlight (.ref a) none) Q E s :=
  HandSPX.lands_againZ L.fly fun g fl slots => go g ⟨L.inv, L.old, L.up.trans slots, fl, L.na, L.os, L.bare⟩
/-- no clause is left: it flies on -/
theorem Landed.out {Q : Flow → Shared → Prop} (L : Landed X pins B sI a cls d σ H s) (hs : X.stack = X.env :: X.outer) (hf : X.env.frame = some X.env.locals) (tk : Takes X Wout) (w : Wout cls d σ H) :
    wpAny (model X.prog X.w) X.A (handleBy (.ref a) X.env []) Q X.xe s := by
  have throws : wpAny (model X.prog X.w) X.A (setFlight (.ref a) X.env.frame) (fun _ t => wpAny (model X.prog X.w) X.A (throw (.ref a) : Sem Flow) Q X.xe t) X.xe s :=
    hf ▸ HandSPX.setFlight_upZ L.fly fun g held slots => wpAny_throw (tk _ _ ⟨a, B, sI, pins, σ, H, cls, d, rfl, L.inv, L.old, L.up.trans slots, .inr (.inr (hs ▸ held)), L.na, L.os, L.bare, w⟩)
  obtain ⟨_, _, _, o, vs, T, _, _, at_a, _, fields, at_1, _⟩ := L.fly
  apply wpAny_handleBy_nil
  unfold PySem.passOn
  apply wpAny_bind
  apply wpAny_field at_a fields at_1
  rw [if_neg (by simp)]
  first
    | exact wpAny_bind throws
    | exact wpAny_bind (wpAny_pure (wpAny_bind throws))
/-- the class that a clause names is read -/
theorem Landed.asked {Q E : Value → Shared → Prop} (L : Landed X pins B sI a cls d σ H s) (hf : X.env.frame = some X.env.locals) (nm : Names X x c) (q : Q c s) : wpAny (model X.prog X.w) (X.A.mark (some (.ref a))) (eval (.Name x np) X.env) Q E s := by
  obtain ⟨o, vs, at_a, _, fields⟩ := L.fly.there
  have J := L.here.suite at_a fields L.na (L.off hf).1 (L.off hf).2
  obtain ⟨gl, nd, m | ⟨m, v, nn⟩⟩ := nm
  · exact ld_glob (X := X.suite a ((a, o) :: (X.pn ++ pins))) J gl m q nd
  · exact ld_blt (X := X.suite a ((a, o) :: (X.pn ++ pins))) J gl m v q nn nd
/-- the clauses one by one -/
theorem Landed.clauses (ok : X.Ok) (hs : X.stack = X.env :: X.outer) (hf : X.env.frame = some X.env.locals) (hN : X.N.Nodup) (hi : X.N[i]? = some n) (hln : X.env.kindOf n = some .local) (tk : Takes X Wout) {hds : List ExceptHandler} (hh : HdsA X n hds l) :
    ∀ {s : Shared}, Landed X pins B sI a cls d σ H s → wManyA X.K i Wout D l cls d σ H → wpAny (model X.prog X.w) X.A (handleBy (.ref a) X.env hds) (SP X pins D) X.xe s := by
  induction hh with
  | nil => exact fun L w => L.out hs hf tk w
  | cons nm run _ next =>
    rintro s L ⟨b, mat, yes, no⟩
    obtain ⟨o, _, at_a, z, _⟩ := L.fly.there
    have ty : PySem.W.Looks (model X.prog X.w) s.heap (typeOf (.ref a)) cls := fun A Q E t k q => wpAny_typeOf_ref (k _ _ at_a) (z.1.symm ▸ q)
    refine wpAny_handleBy_cons (codeAny_handlers_test (L.asked hf nm ((PySem.W.exm_one (M := model X.prog X.w) L.here.kIn ty mat).here ?_))) (fun h => nomatch h)
    cases b with
    | false => exact next L (no rfl)
    | true =>
      apply codeAny_handlers_suite_as
      apply L.again
      intro g L
      obtain ⟨o, vs, at_a, z, fields⟩ := L.fly.there
      have J := L.here.suite at_a fields L.na (L.off hf).1 (L.off hf).2
      refine store_ok (X := X.suite a ((a, o) :: (X.pn ++ pins))) (v := .ref a) J hN hi (.inl hln) rfl (fun t J => ?_) (.inr hln)
      refine wpAny_mono ((run a o cls d (X.pn ++ pins) z ⟨vs, fields⟩).run [] t _ H _ J (yes rfl a L.na)) (fun f t fin => ?_) (fun _ _ => False.elim)
      cases f with
      | ret u =>
        obtain ⟨_, _, _, J, r, q⟩ := fin
        exact gone_ok (J.unsuite ok) hN hi hln fun _ J => ⟨_, _, _, J, r, q⟩
      | _ =>
        obtain ⟨_, _, J, q⟩ := fin
        exact gone_ok (J.unsuite ok) hN hi hln fun _ J => ⟨_, _, J, q⟩
/-- what the body lets out is caught -/
theorem Landed.caught (ok : X.Ok) (hs : X.stack = X.env :: X.outer) (hf : X.env.frame = some X.env.locals) (hN : X.N.Nodup) (hi : X.N[i]? = some n) (hln : X.env.kindOf n = some .local) (tk : Takes X Wout) {hds : List ExceptHandler} (hh : HdsA X n hds l) :
    Takes (X.tr (X.pn ++ pins) fun e t => wpAny (model X.prog X.w) X.A (noteFrame e X.env) (fun _ t => wpAny (model X.prog X.w) X.A (setFlight e none) (fun _ t => wpAny (model X.prog X.w) X.A (handleBy e X.env hds) (SP X pins D) X.xe t) X.xe t) X.xe t)
      (wManyA X.K i Wout D l) := by
  rintro _ t ⟨a, B, sI, _, σ, H, cls, d, rfl, J, old, up, sky, na, os, bare, w⟩
  have frames : X.A.frames = some (X.env :: X.outer) := ok.frames.trans (congrArg some hs)
  have sky : Sky B X.stack a (Zc cls d) X.env.locals t.heap := sky
  exact Sky.land Zc.steady frames hf (hs ▸ sky) fun g fly slots => Landed.clauses ok hs hf hN hi hln tk hh ⟨J.ofTry ok, old, up.trans slots, fly, na, os, bare⟩ w
/-- try: body, with clauses that name what they catch -/
theorem ps_try_manyA {body : List Stmt} {h₀ : ExceptHandler} {hds : List ExceptHandler} {tb : WX → TS} (hs : X.stack = X.env :: X.outer) (hf : X.env.frame = some X.env.locals) (hN : X.N.Nodup) (hi : X.N[i]? = some n) (hln : X.env.kindOf n = some .local) (tk : Takes X Wout)
    (run : ∀ (W : WX) (pn : List (Addr × Obj)) (xe : Value → Shared → Prop), Takes (X.tr pn xe) W → PSs (X.tr pn xe) body (tb W)) (hh : HdsA X n (h₀ :: hds) l) :
    PS X (.Try body (h₀ :: hds) [] [] pos) (fun D σ H => tb (wManyA X.K i Wout D l) D σ H) := by
  constructor
  intro pins s σ H D I h
  apply wpAny_Try_except
  refine wpAny_mono ((run _ _ _ (Landed.caught I.ok hs hf hN hi hln tk hh)).run [] s σ H D (I.toTry _) h) (fun f t fin => ?_) (fun _ _ z => z)
  cases f with
  | next => exact wpAny_execs_nil (fin.elim fun σ z => z.elim fun H z => ⟨σ, H, z.1.ofTry I.ok, z.2⟩)
  | ret u =>
    obtain ⟨v, σ, H, J, both⟩ := fin
    exact ⟨v, σ, H, J.ofTry I.ok, both⟩
  | _ =>
    obtain ⟨σ, H, J, q⟩ := fin
    exact ⟨σ, H, J.ofTry I.ok, q⟩
end
/-- a try whose body raises nothing -/
theorem ss_tryN {X : Cx} {body rest : List Stmt} {h₀ : ExceptHandler} {hds : List ExceptHandler} {pos : Pos} {δ : List Hold} {P : Out → Prop} (hx : X.xe = fun _ _ => False) (h : Ss X body δ (Thn X rest P)) : Ss X (.Try body (h₀ :: hds) [] [] pos :: rest) δ P :=
  ss_cons (s_of (ps_try_never (fun e s z => by rw [hx] at z; exact z) (canSs X body) pss_nil) fun Gb Hb G H σ D E F => h.run Gb Hb G H σ _ E ⟨F.nx, F.bk, F.ct, F.rt⟩)

/-! ### isinstance of the exception that is pinned -/
def rIsZ (K : PySem.W.Frag) (D a : Addr) (d : Option Addr) : List V → Hp → VK → Prop := fun xs H Q => ∃ (c : V) (cv : Value) (b : Bool), xs = [.ref a, c] ∧ (∀ u, RelV c u → u = cv) ∧ PySem.W.kitOne K (.ref D) cv = some b ∧ (∀ dx, d = some dx → ∃ fs, H dx = some (.xd fs)) ∧ Q (.bl b) H
theorem call_isZ {X : Cx} {y : Str} {a : Addr} {oe : Obj} {d : Option Addr} (C : ExT X.K X.mg y) (hp : (a, oe) ∈ X.pn) (hz : Zc (.ref (adr X.mg y)) d oe) (hf : ∃ vs, oe.data = .fields vs) : CallR X (.builtin "isinstance") (rIsZ X.K (adr X.mg y) a d) := by
  rintro pins s σ H _ us Q I r ⟨c, cv, b, rfl, hcv, e, hdd, q⟩
  cases r with
  | cons rx rr =>
    cases rr with
    | cons rt rr =>
      cases rr
      cases rx
      have ec := hcv _ rt
      subst ec
      obtain ⟨hget, _⟩ := I.pin (a, oe) (List.mem_append.mpr (.inl hp))
      obtain ⟨vs, hv⟩ := hf
      have J : ∃ od, PySem.W.InstAt s.heap a oe (adr X.mg y) od := by
        cases d with
        | none => exact ⟨none, hget, hz.1, by unfold PySem.W.notCls; rw [hv] <;> rfl, by rw [hz.2]; trivial⟩
        | some dx =>
          obtain ⟨fs, hx⟩ := hdd dx rfl
          obtain ⟨od, ho⟩ := objOk_get (I.hok dx _ hx)
          exact ⟨some od, hget, hz.1, by unfold PySem.W.notCls; rw [hv] <;> rfl, by rw [hz.2]; exact ho⟩
      obtain ⟨od, J⟩ := J
      obtain ⟨cd, hc, _⟩ := PySem.W.any_some C.hdC
      exact PySem.W.kia_one (PySem.W.kitx_exc (by rw [hc]; rfl) C.ga C.gg C.exC C.kl C.gt C.tk C.ob) I.kIn J e (fun z => nomatch z) fun tk => ⟨.bl b, H, I.kept (t' := tk) fun _ _ z => z, rfl, q⟩
/-! ### a def called in a suite, with the exception alone -/
structure FnZ (P : Program) (w : World) (K : PySem.W.Frag) (mg : Str → Option Value) (base : Heap) (k : Nat) (f : Addr) (fd : FuncData) (ps : List Str) (C : Addr) (sp : Addr → Option Addr → Hp → VK → Prop) : Prop where
  len : ps.length = 1
  run : ∀ (A : Around) (outer : List PySem.Env) (s : Shared) (H : Hp) (args : Args) (us : List Value) (Q : VK) (p : Addr × Obj) (d : Option Addr), L2H.RoomH k A → L2H.PinOk outer H s p → Zc (.ref C) d p.2 → (∃ vs, p.2.data = .fields vs) → Env0 P w K mg base A outer s H → BindsTo s fd args (ps.zip us) →
    Vals [V.ref p.1] us → sp p.1 d H Q → codeAny (model P w) A (.call (.ref f) args) (CR CX0 outer P w H s Q E0) s
theorem fn_ofZ {P : Program} {w : World} {K : PySem.W.Frag} {mg : Str → Option Value} {base : Heap} {k : Nat} {f C : Addr} {name qual : Str} {params : Arguments} {body : List Stmt} {scope : Scope} {dV kV doc pm cdv ct oc : Value} {an od : Option Addr}
    {osl : Array (Option Value)} {N ps : List Str} {sp : Addr → Option Addr → Hp → VK → Prop} (lk : K.lookup f = some ⟨oc, od, .func (PySem.W.fnOf name qual params body scope dV kV doc pm an cdv ct), osl⟩) (hcd : PySem.W.codeIn K cdv qual = true) (S : FnScope N ps scope)
    (len : ps.length = 1)
    (hbody : ∀ (A : Around) (outer : List PySem.Env) (s : Shared) (H : Hp) (Q : VK) (p : Addr × Obj) (d : Option Addr), Zc (.ref C) d p.2 → (∃ vs, p.2.data = .fields vs) → L2H.RoomH k (A.deeper (envOfC qual scope s.heap.objs.size f cdv)) → sp p.1 d H Q →
      rSs (L2H.cxH CX0 P w K mg base N qual scope f cdv A outer s H E0 p) body { nx := fun _ H' => Q .non H', rt := Q } (L2.start N [V.ref p.1]) H) :
    FnZ P w K mg base (k + 1) f (PySem.W.fnOf name qual params body scope dV kV doc pm an cdv ct) ps C sp := by
  refine ⟨len, ?_⟩
  intro A outer s H args us Q p d room pin z fields e0 binds rel want
  have now : K.In s.heap := e0.mod.kin.keeps fun b o q => (e0.bs b o q).1
  have free : s.heap.NoLimit := e0.mod.nolimit.keeps fun b o q => (e0.bs b o q).1
  refine codeAny_call_function room.depth (now _ _ lk) rfl S.co S.gen rfl (PySem.W.codeRec_of now hcd) (binds _ _ _ _ (wpAny_newFunctionEnv_cells S.kind (fun y isy => ?_) ?_))
  · exact (S.par y.1 (List.of_mem_zip isy).1).imp id fun c => ⟨c, PySem.W.cellsFrom_some _ _ _ (.inl c)⟩
  rintro _ rfl t born
  refine ⟨free.keeps born.toInCall.keep, codeAny_func ?_⟩
  have J : Inv (L2H.cxH CX0 P w K mg base N qual scope f cdv A outer s H E0 p) [] (L2.start N [V.ref p.1]) H t := L2H.inv_startH S pin e0 len.symm rel born
  refine wpAny_mono (hbody A outer s H Q p d z fields (room.deeper _) want [] t J) (fun fl t' fin => ?_) (fun _ _ q => q)
  cases fl with
  | next =>
    obtain ⟨_, H', J, q⟩ := fin
    exact ⟨V.non, H', J.os, J.bare, J.base, J.hok, rfl, q⟩
  | ret u =>
    obtain ⟨v, _, H', J, r, q⟩ := fin
    exact ⟨v, H', J.os, J.bare, J.base, J.hok, r, q⟩
  | _ => exact fin.elim fun _ z => z.elim fun _ z => z.2.elim
/-- f(e) in the suite, e the exception -/
theorem pe_callZ {X : Cx} {a C f : Addr} {oe : Obj} {cls : Value} {d : Option Addr} {pn : List (Addr × Obj)} {k i : Nat} {fd : FuncData} {ps : List Str} {sp : Addr → Option Addr → Hp → VK → Prop} {x y : Str} {p1 p2 pos : Pos}
    (F : FnZ X.prog X.w X.K X.mg X.base k f fd ps C sp) (hr : L2H.RoomH k X.A) (hz : Zc cls d oe) (hf : ∃ vs, oe.data = .fields vs) (hg : Gl X x) (hm : X.mg x = some (.ref f)) (hk : PySem.W.keepIn X.K (.ref f) = true) (hb : Binds X.K fd ps [])
    (hN : X.N[i]? = some y := by rfl) (hv : Vis X.env.scope y := by first | exact Or.inl rfl | exact Or.inr (Or.inl rfl) | exact Or.inr (Or.inr rfl)) (hd : (y == ("__debug__" : Str)) = false := by decide) (hcd : (y == ("__classdict__" : Str)) = false := by decide)
    (hdb : (x == ("__debug__" : Str)) = false := by decide) (he : starEach [.Name y p2] X.env = (false, eval (.Name y p2) X.env) :: starEach [] X.env := by rfl) (hpl : (backTo pos (starEach [] X.env)).any (·.1) = false := by rfl) :
    PE (X.suite a ((a, oe) :: pn)) (.Call (.Name x p1) [.Name y p2] [] pos) (fun σ H Q => cls = .ref C ∧ σ[i]? = some (some (V.ref a)) ∧ sp a d H Q) := by
  constructor
  rintro pins s σ H Q I ⟨rfl, here, want⟩
  have args : PA (X.suite a ((a, oe) :: pn)) [.Name y p2] (tCons (tVar i) tNil) := pa_cons (pv (X := X.suite a ((a, oe) :: pn)) i hN hv hd hcd) pa_nil he
  refine wpAny_Call_Name_kw (ld_glob I hg hm (PySem.W.callWith_K (h₀ := X.base) I.ok.mod.kin hk (thn (args.run pos pins s σ H (fun vs H1 => vs = [V.ref a] ∧ H1 = H) I ⟨_, here, rfl, rfl⟩) ?_) he hpl) hdb)
  rintro us t ⟨_, _, J, rel, rfl, rfl⟩
  refine ⟨J.kIn, ?_⟩
  have many : us.length = ps.length := rel.length.symm.trans F.len.symm
  have binds := hb t us J.kIn (by simpa using many)
  rw [List.append_nil] at binds
  have P1 := J.pin (a, oe) (.head _)
  have pin : L2H.PinOk X.stack _ t (a, oe) := ⟨P1.1, P1.2.1, fun m => (List.mem_cons.mp (J.stkSub a m)).elim P1.2.2.1 P1.2.2.2.1, P1.2.2.2.2⟩
  refine wpAny_call (codeAny_mono (F.run (X.A.mark (some (.ref a))) X.stack t _ ⟨us, []⟩ us Q (a, oe) d ⟨hr.dp, hr.un⟩ pin hz hf J.env0 binds rel want) fun r t' fin => ?_)
  match r with
  | .ok (.ret u) => exact J.after fin
  | .ok .next => exact fin.elim
  | .ok .brk => exact fin.elim
  | .ok .cont => exact fin.elim
  | .error e => exact fin.elim
end DL

/-! DL16: a chain of tests of the exception in a hot def. -/
namespace DL
open PySem L2 PySem.Spec PyProof.Rows
open Evl (Ex)
theorem zs_cons {X : Cx} {st : Stmt} {rest : List Stmt} {D : Ends} {σ : L2.St} {H : Hp} (h : rS X st { D with nx := rSs X rest D } σ H) : rSs X (st :: rest) D σ H := fun pins s I => (pss_cons (canS X st) (canSs X rest)).run pins s σ H D I h
theorem zs_nil {X : Cx} {D : Ends} {σ : L2.St} {H : Hp} (h : D.nx σ H) : rSs X [] D σ H := fun pins s I => pss_nil.run pins s σ H D I h
theorem upd_upd {H : Hp} {l : Addr} {x y : HO} : upd (upd H l x) l y = upd H l y := by
  funext b
  by_cases h : b = l
  · rw [h, upd_same, upd_same]
  · rw [upd_ne h, upd_ne h, upd_ne h]
/-- if isinstance(e, T): names.append('c') -/
theorem z_if {X : Cx} {x y z T c : Str} {a l : Addr} {oe : Obj} {d : Option Addr} {cv : Value} {v : V} {b : Bool} {xs : List V} {H0 : Hp} {σ : L2.St} {D : Ends} {p1 p2 p3 p4 p5 p6 p7 p8 p9 p10 : Pos} {j : Nat}
    (C : ExT X.K X.mg x) (hp : (a, oe) ∈ X.pn) (hz : Zc (.ref (adr X.mg x)) d oe) (hf : ∃ vs, oe.data = .fields vs) (hm : X.mg "isinstance" = none)
    (pT : PE X (.Name T p3) (tC v)) (hcv : ∀ u, RelV v u → u = cv) (hk : PySem.W.kitOne X.K (.ref (adr X.mg x)) cv = some b) (hdd : ∀ dx, d = some dx → ∃ fs, H0 dx = some (.xd fs)) (nl : H0 l = none)
    (h0 : σ[0]? = some (some (.ref a))) (h1 : σ[1]? = some (some (.ref l))) (hl : xs.length ≤ 100) (h : D.nx σ (upd H0 l (.lst (xs ++ if b = true then [V.str c] else []))))
    (hg : Gl X "isinstance" := by rfl) (hN0 : X.N[0]? = some y := by rfl) (hN1 : X.N[1]? = some z := by rfl)
    (hv0 : Vis X.env.scope y := by first | exact Or.inl rfl | exact Or.inr (Or.inl rfl) | exact Or.inr (Or.inr rfl)) (hv1 : Vis X.env.scope z := by first | exact Or.inl rfl | exact Or.inr (Or.inl rfl) | exact Or.inr (Or.inr rfl))
    (hd0 : (y == ("__debug__" : Str)) = false := by decide) (hc0 : (y == ("__classdict__" : Str)) = false := by decide) (hd1 : (z == ("__debug__" : Str)) = false := by decide) (hc1 : (z == ("__classdict__" : Str)) = false := by decide)
    (he : starEach [.Name y p2, .Name T p3] X.env = (false, eval (.Name y p2) X.env) :: starEach [.Name T p3] X.env := by rfl) (he2 : starEach [.Name T p3] X.env = (false, eval (.Name T p3) X.env) :: starEach [] X.env := by rfl) (hpl : (backTo p4 (starEach [.Name T p3] X.env)).any (·.1) = false := by rfl)
    (hbase : attributeBase (.Name z p5) "append" X.env (eval (.Name z p5) X.env) = eval (.Name z p5) X.env := by rfl)
    (hfew : ((backTo p8 (starEach [.Constant (.str c) j p7] X.env)).all (fun x => !x.1) && (backToKw p8 (keywordEach [] X.env)).all (fun x => x.1.isSome)
      && decide (([.Constant (.str c) j p7] : List Expr).length + ([] : List Keyword).length + (if ([] : List Keyword).isEmpty then 0 else 1) < 30)) = true := by rfl)
    (hline : (p6.endLine == p8.line) = true := by rfl) (hs : starEach [.Constant (.str c) j p7] X.env = (false, eval (.Constant (.str c) j p7) X.env) :: starEach [] X.env := by rfl) (hplain : (backTo p8 (starEach [] X.env)).any (·.1) = false := by rfl)
    (hsw : swapsWith (.Call (.Attribute (.Name z p5) "append" p6) [.Constant (.str c) j p7] [] p8) none p9.line X.env = pure false := by rfl)
    (ht : ∀ whole, isTrue (.Call (.Name "isinstance" p1) [.Name y p2, .Name T p3] [] p4) X.env whole = (do let v ← whole; standAt (Expr.Call (.Name "isinstance" p1) [.Name y p2, .Name T p3] [] p4).pos; holding [v] (truthy v)) := by intro _; rfl) :
    rS X (.If (.Call (.Name "isinstance" p1) [.Name y p2, .Name T p3] [] p4) [.Expr (.Call (.Attribute (.Name z p5) "append" p6) [.Constant (.str c) j p7] [] p8) p9] [] p10) D σ (upd H0 l (.lst xs)) := fun pins s I =>
  (ps_if (pt_val (pe_callB (call_isZ C hp hz hf) hg hm (by decide +kernel) (pa_cons (pv 0 hN0 hv0 hd0 hc0) (pa_cons pT pa_nil he2) he) (he := he) (hpl := hpl)) ht)
    (pss_one (ps_expr (pe_bm PySem.F.plainAttrs_list PySem.F.slot_list_append PySem.F.type_list_append mt_append (pv 1 hN1 hv1 hd1 hc1) (pa_cons pe_str pa_nil hs) hbase hfew hline hs hplain) hsw)) pss_nil).run pins s σ _ D I (by
      refine ⟨_, h0, v, cv, b, rfl, hcv, hk, fun dx e => ?_, b, rfl, ?_⟩
      · obtain ⟨fs, q⟩ := hdd dx e
        exact ⟨fs, by rw [upd_ne (ne_of_none q nl)]; exact q⟩
      cases b with
      | true =>
        refine iteT ⟨_, h1, own_ty upd_same, l, xs, _, rfl, rfl, upd_same, Nat.lt_of_le_of_lt hl (by decide), ?_⟩
        rw [upd_upd]
        exact h
      | false =>
        refine iteF ?_
        have e : xs ++ (if false = true then [V.str c] else []) = xs := by simp
        rw [e] at h
        exact h)
end DL

namespace K
open PySem PySem.Spec PyProof.Rows L2 DL
open Evl (Ex)
def topS (i : Nat) : Stmt := PySem.Challenge.pw_sixcells_k09_whole_sight_moved.main.body.getD i (.Pass ⟨0, 0, 0, 0⟩)
/-! ### plain: numbers, cells -/
set_option exponentiation.threshold 2000
def reach (a b : Int) : Int := max3 (absI a) (absI b) (absI (a + b))
theorem reach_mem (a b : Int) : reach a b ∈ [a, -a, b, -b, a + b, -a - b] := by
  unfold reach max3 max2 absI
  simp only [List.mem_cons, List.not_mem_nil, or_false]
  repeat' split
  all_goals omega
theorem reach_ub {a b y : Int} (h : y ∈ [a, -a, b, -b, a + b, -a - b]) : y ≤ reach a b := by
  unfold reach max3 max2 absI
  simp only [List.mem_cons, List.not_mem_nil, or_false] at h
  repeat' split
  all_goals omega
theorem reach_le {a b k : Int} : reach a b ≤ k ↔ a ≤ k ∧ -a ≤ k ∧ b ≤ k ∧ -b ≤ k ∧ a + b ≤ k ∧ -a - b ≤ k := by
  unfold reach max3 max2 absI
  constructor
  · intro h
    repeat' split at h
    all_goals omega
  · intro h
    repeat' split
    all_goals omega
theorem reach_cases (a b : Int) : reach a b = a ∨ reach a b = -a ∨ reach a b = b ∨ reach a b = -b ∨ reach a b = a + b ∨ reach a b = -a - b := by
  unfold reach max3 max2 absI
  repeat' split
  all_goals omega
theorem reach_ge (a b : Int) : a ≤ reach a b ∧ -a ≤ reach a b ∧ b ≤ reach a b ∧ -b ≤ reach a b ∧ a + b ≤ reach a b ∧ -a - b ≤ reach a b := reach_le.mp (Int.le_refl _)
theorem reach_nn (a b : Int) : 0 ≤ reach a b := by have := reach_ge a b; omega
theorem reach_neg (a b : Int) : reach (-a) (-b) = reach a b := by
  have h1 := reach_ge a b
  have h2 := reach_ge (-a) (-b)
  have h3 := reach_cases a b
  have h4 := reach_cases (-a) (-b)
  omega
def getI (ns : List Int) (k : Int) : Int := ns.getD k.toNat 0
def numBy (c : Int) : Int := if c % 2 = 0 then c / 2 % 41 - 20 else c / 2 * 982451653 % (2 * 10 ^ 60 - 1) - 10 ^ 60 + 1
theorem numBy_bd (c : Int) : -(10 ^ 60) < numBy c ∧ numBy c < 10 ^ 60 := by
  unfold numBy
  split
  · omega
  · omega
def wayA (k : Int) : Int := if k = 0 then 1 else if k = 1 then 0 else if k = 2 then -1 else if k = 3 then -1 else if k = 4 then 0 else 1
def wayB (k : Int) : Int := if k = 0 then 0 else if k = 1 then 1 else if k = 2 then 1 else if k = 3 then 0 else if k = 4 then -1 else -1
def wayD (k : Int) : D := .ktup [.int (wayA k), .int (wayB k)]
def waysD : D := .ktup [.ktup [.int 1, .int 0], .ktup [.int 0, .int 1], .ktup [.int (-1), .int 1], .ktup [.int (-1), .int 0], .ktup [.int 0, .int (-1)], .ktup [.int 1, .int (-1)]]
theorem six {k : Int} (h0 : 0 ≤ k) (h1 : k < 6) : k = 0 ∨ k = 1 ∨ k = 2 ∨ k = 3 ∨ k = 4 ∨ k = 5 := by omega
theorem ways_at {k : Int} (h0 : 0 ≤ k) (h1 : k < 6) : waysD.items.bind (atI · k) = some (wayD k) := by
  rcases six h0 h1 with rfl | rfl | rfl | rfl | rfl | rfl <;> rfl
theorem ways_at' {k : Int} (h0 : 0 ≤ k) (h1 : k < 6) : (D.lst [cell 1 0, cell 0 1, cell (-1) 1, cell (-1) 0, cell 0 (-1), cell 1 (-1)]).items.bind (atI · k) = some (cell (wayA k) (wayB k)) := by
  rcases six h0 h1 with rfl | rfl | rfl | rfl | rfl | rfl <;> rfl
/-- * is asked for -/
def MulOk (i j : Int) : Prop := CMul i j ∨ CMulW i j
theorem mulOk_of {i j : Int} (hi : i.natAbs ≤ 10 ^ 250) (hj : j.natAbs ≤ 10 ^ 250) : MulOk i j :=
  .inr (wide_mul (a := 900) (b := 900) (Nat.lt_of_le_of_lt hi (by decide)) (Nat.lt_of_le_of_lt hj (by decide)) (by decide) (by decide) (by decide))
theorem mulOk_l {i j : Int} (hi : -(2 ^ 64) < i ∧ i < 2 ^ 64) : MulOk i j := .inl (.inl hi)
theorem mulOk_r {i j : Int} (hj : -(2 ^ 64) < j ∧ j < 2 ^ 64) : MulOk i j := .inl (.inr hj)
theorem divOk_of {i j : Int} (h0 : 0 < j) (hj : j.natAbs ≤ 10 ^ 250) : CDivW i j := wide_div h0 (b := 900) (Nat.lt_of_le_of_lt hj (by decide)) (by decide) (by decide)
theorem e_mulO {X : Cx} {a b : Expr} {δ : List Hold} {pos : Pos} {i j : Int} (ha : Ee X a δ (.int i)) (hb : Ee X b δ (.int j)) (hc : MulOk i j) : Ee X (.BinOp a .Mult b pos) δ (.int (i * j)) := by
  rcases hc with hc | hc
  · exact e_mul ha hb hc
  · exact e_mulW ha hb hc
theorem e_gv {X : Cx} {x : Str} {δ : List Hold} {pos : Pos} {d : D} (h : ∃ a, X.mg x = some (.ref a) ∧ ∀ G, Dv X.K G (.ref a) d) (hg : Gl X x := by rfl) (hdb : (x == ("__debug__" : Str)) = false := by decide) : Ee X (.Name x pos) δ d := by
  obtain ⟨a, h1, h2⟩ := h
  exact e_glob (v := .ref a) h1 rfl h2 hg hdb
theorem atI_get0 {α : Type} {xs : List α} {i : Int} (h0 : 0 ≤ i) (h1 : i < xs.length) : atI xs i = xs[i.toNat]? := by
  unfold atI ixN
  rw [if_pos h0, if_pos h1]
  rfl
theorem eqD_cell (a b c d : Int) : eqD (cell a b) (cell c d) = decide (a = c ∧ b = d) := by
  show PyData.eqv (.tuple [.int a, .int b]) (.tuple [.int c, .int d]) = _
  simp only [PyData.eqv, PyData.eqvAll]
  by_cases h1 : a = c <;> by_cases h2 : b = d <;> simp [h1, h2]
theorem okD_cell (a b : Int) : okD (cell a b) := ⟨rfl, rfl⟩
/-- data that are lists of ints, of cells -/
abbrev intsD (ns : List Int) : List D := ns.map D.int
abbrev cellsD (cs : List (Int × Int)) : List D := cs.map fun c => cell c.1 c.2
theorem flats_ints (ns : List Int) : D.flats (intsD ns) = true := by
  induction ns with
  | nil => rfl
  | cons n ns ih => show (true && D.flats (intsD ns)) = true; rw [ih]; rfl
theorem flats_cells (cs : List (Int × Int)) : D.flats (cellsD cs) = true := by
  induction cs with
  | nil => rfl
  | cons n ns ih => show (true && D.flats (cellsD ns)) = true; rw [ih]; rfl
theorem pys_ints (ns : List Int) : D.pys (intsD ns) = ns.map PyData.int := by
  induction ns with
  | nil => rfl
  | cons n ns ih => show _ :: D.pys (intsD ns) = _; rw [ih]; rfl
theorem pys_cells (cs : List (Int × Int)) : D.pys (cellsD cs) = cs.map fun c => PyData.tuple [.int c.1, .int c.2] := by
  induction cs with
  | nil => rfl
  | cons n ns ih => show _ :: D.pys (cellsD ns) = _; rw [ih]; rfl
theorem lay_ints : ∀ ns : List Int, PyData.canLayAll0 (ns.map PyData.int) = true
  | [] => by simp [PyData.canLayAll0]
  | n :: ns => by simp [PyData.canLayAll0, PyData.canLay0, lay_ints ns]
theorem dep_ints : ∀ ns : List Int, PyData.depthAll (ns.map PyData.int) = 0
  | [] => by simp [PyData.depthAll]
  | n :: ns => by simp [PyData.depthAll, PyData.depth, dep_ints ns]
theorem lay_cells : ∀ cs : List (Int × Int), PyData.canLayAll0 (cs.map fun c => PyData.tuple [.int c.1, .int c.2]) = true
  | [] => by simp [PyData.canLayAll0]
  | n :: ns => by simp [PyData.canLayAll0, PyData.canLay0, lay_cells ns]
theorem dep_cells : ∀ cs : List (Int × Int), PyData.depthAll (cs.map fun c => PyData.tuple [.int c.1, .int c.2]) ≤ 1
  | [] => by simp [PyData.depthAll]
  | n :: ns => by
    have := dep_cells ns
    simp [PyData.depthAll, PyData.depth]
    omega
theorem okD_ints (ns : List Int) : okD (.lst (intsD ns)) := by
  refine ⟨flats_ints ns, ?_⟩
  show SeqAt.shaped (.list (D.pys (intsD ns))) = true
  rw [pys_ints]
  show (PyData.canLay0 _ && decide (PyData.depth _ ≤ 64)) = true
  simp only [PyData.canLay0, PyData.depth, lay_ints, dep_ints]
  decide
theorem okD_cells (cs : List (Int × Int)) : okD (.lst (cellsD cs)) := by
  refine ⟨flats_cells cs, ?_⟩
  show SeqAt.shaped (.list (D.pys (cellsD cs))) = true
  rw [pys_cells]
  show (PyData.canLay0 _ && decide (PyData.depth _ ≤ 64)) = true
  have h := dep_cells cs
  rw [Bool.and_eq_true]
  refine ⟨?_, decide_eq_true ?_⟩
  · simp only [PyData.canLay0]
    exact lay_cells cs
  · simp only [PyData.depth]
    omega
theorem eqv_ints : ∀ ns ms : List Int, PyData.eqvAll (ns.map PyData.int) (ms.map PyData.int) = decide (ns = ms)
  | [], [] => by simp [PyData.eqvAll]
  | [], m :: ms => by simp [PyData.eqvAll]
  | n :: ns, [] => by simp [PyData.eqvAll]
  | n :: ns, m :: ms => by
    simp only [List.map_cons, PyData.eqvAll, PyData.eqv, eqv_ints ns ms]
    by_cases h1 : n = m <;> by_cases h2 : ns = ms <;> simp [h1, h2]
theorem eqv_cells : ∀ ns ms : List (Int × Int), PyData.eqvAll (ns.map fun c => PyData.tuple [.int c.1, .int c.2]) (ms.map fun c => PyData.tuple [.int c.1, .int c.2]) = decide (ns = ms)
  | [], [] => by simp [PyData.eqvAll]
  | [], m :: ms => by simp [PyData.eqvAll]
  | n :: ns, [] => by simp [PyData.eqvAll]
  | (a, b) :: ns, (c, d) :: ms => by
    simp only [List.map_cons, PyData.eqvAll, PyData.eqv, eqv_cells ns ms]
    by_cases h1 : a = c <;> by_cases h3 : b = d <;> by_cases h2 : ns = ms <;> simp [h1, h2, h3]
theorem eqD_ints (ns ms : List Int) : eqD (.lst (intsD ns)) (.lst (intsD ms)) = decide (ns = ms) := by
  show PyData.eqv (.list (D.pys _)) (.list (D.pys _)) = _
  rw [pys_ints, pys_ints]
  simp only [PyData.eqv, eqv_ints]
theorem eqD_cells (ns ms : List (Int × Int)) : eqD (.lst (cellsD ns)) (.lst (cellsD ms)) = decide (ns = ms) := by
  show PyData.eqv (.list (D.pys _)) (.list (D.pys _)) = _
  rw [pys_cells, pys_cells]
  simp only [PyData.eqv, eqv_cells]
abbrev cellP (c : Int × Int) : D := cell c.1 c.2
def step1 (c : Int × Int) (k : Int) : Int × Int := (c.1 + wayA k, c.2 + wayB k)
def stepF (c : Int × Int) (ks : List Int) : Int × Int := ks.foldl step1 c
theorem ints_getD {ns : List Int} {i : Nat} (h : i < ns.length) : (intsD ns).getD i .non = .int (ns.getD i 0) := by
  rw [List.getD_eq_getElem?_getD, List.getD_eq_getElem?_getD, List.getElem?_map, List.getElem?_eq_getElem h]
  rfl
theorem cells_getD {cs : List (Int × Int)} {i : Nat} (h : i < cs.length) : (cellsD cs).getD i .non = cellP (cs.getD i (0, 0)) := by
  rw [List.getD_eq_getElem?_getD, List.getD_eq_getElem?_getD, List.getElem?_map, List.getElem?_eq_getElem h]
  rfl
theorem getD_mem {α : Type} {l : List α} {i : Nat} {d : α} (h : i < l.length) : l.getD i d ∈ l := by
  rw [List.getD_eq_getElem?_getD, List.getElem?_eq_getElem h]
  exact List.getElem_mem h
theorem take_succ_getD {α : Type} {l : List α} {i : Nat} {d : α} (h : i < l.length) : l.take (i + 1) = l.take i ++ [l.getD i d] := by
  rw [List.take_add_one, List.getD_eq_getElem?_getD, List.getElem?_eq_getElem h]
  rfl
theorem stepF_take {c : Int × Int} {ks : List Int} {i : Nat} (h : i < ks.length) : stepF c (ks.take (i + 1)) = step1 (stepF c (ks.take i)) (ks.getD i 0) := by
  unfold stepF
  rw [take_succ_getD (d := 0) h, List.foldl_append]
  rfl
theorem divL {i j : Int} (h : decide (0 < j ∧ j.natAbs.log2 < 9000) = true) : CDivW i j := (of_decide_eq_true h : 0 < j ∧ j.natAbs.log2 < 9000)
theorem powL {i j : Int} (h : decide (0 ≤ j ∧ j ≤ 1000000 ∧ i.natAbs < 2 ^ 64) = true) : CPow i j := (of_decide_eq_true h : 0 ≤ j ∧ j ≤ 1000000 ∧ i.natAbs < 2 ^ 64)
theorem cutL_drop {α : Type} (xs : List α) (a b : Int) (h0 : 0 ≤ a) (hb : (xs.length : Int) ≤ b) : cutL xs (some a) (some b) = xs.drop a.toNat := by
  have h1 : HT.sIx xs.length 0 (some a) = min a.toNat xs.length := by
    show (if a < 0 then (a + (xs.length : Int)).toNat else min a.toNat xs.length) = _
    rw [if_neg (by omega)]
  have h2 : HT.sIx xs.length xs.length (some b) = xs.length := by
    show (if b < 0 then (b + (xs.length : Int)).toNat else min b.toNat xs.length) = _
    rw [if_neg (by omega), Nat.min_eq_right (by omega)]
  unfold cutL
  rw [h1, h2]
  by_cases h : a.toNat ≤ xs.length
  · rw [Nat.min_eq_left h, List.take_of_length_le (by rw [List.length_drop]; exact Nat.le_refl _)]
  · rw [Nat.min_eq_right (by omega), List.drop_of_length_le (Nat.le_refl _), List.drop_of_length_le (by omega), List.take_nil]
theorem small_ln {n : Nat} (h : n ≤ 1000) : n < sizeLine := Nat.lt_of_le_of_lt h (by decide)
theorem intsD_app (a b : List Int) : intsD (a ++ b) = intsD a ++ intsD b := List.map_append
theorem cellsD_app (a b : List (Int × Int)) : cellsD (a ++ b) = cellsD a ++ cellsD b := List.map_append

def sA (ks : List Int) : Int := (ks.map wayA).sum
def sB (ks : List Int) : Int := (ks.map wayB).sum
theorem stepF_eq : ∀ (ks : List Int) (c : Int × Int), stepF c ks = (c.1 + sA ks, c.2 + sB ks)
  | [], c => by simp [stepF, sA, sB]
  | k :: ks, c => by
    show stepF (step1 c k) ks = _
    rw [stepF_eq ks]
    simp only [step1, sA, sB, List.map_cons, List.sum_cons]
    exact Prod.ext (by show c.1 + wayA k + _ = _; omega) (by show c.2 + wayB k + _ = _; omega)
theorem sAB_bd : ∀ {ks : List Int}, (∀ k ∈ ks, 0 ≤ k ∧ k < 6) → sA ks ≤ ks.length ∧ -sA ks ≤ ks.length ∧ sB ks ≤ ks.length ∧ -sB ks ≤ ks.length ∧ sA ks + sB ks ≤ ks.length ∧ -sA ks - sB ks ≤ ks.length
  | [], _ => by decide
  | k :: ks, h => by
    have ih := sAB_bd (ks := ks) fun x hx => h x (List.mem_cons_of_mem _ hx)
    obtain ⟨h0, h1⟩ := h k List.mem_cons_self
    have e1 : sA (k :: ks) = wayA k + sA ks := rfl
    have e2 : sB (k :: ks) = wayB k + sB ks := rfl
    have e3 : (((k :: ks).length : Nat) : Int) = (ks.length : Int) + 1 := by simp
    rw [e1, e2, e3]
    rcases six h0 h1 with rfl | rfl | rfl | rfl | rfl | rfl <;> simp only [wayA, wayB] <;> simp <;> omega
/-- steps of two neighbouring ways -/
def fwd (b x y : Int) : Int := if b = 0 then x + y else if b = 1 then y else if b = 2 then -x else if b = 3 then -x - y else if b = 4 then -y else x
theorem fwd_sum {b : Int} (hb0 : 0 ≤ b) (hb1 : b < 6) : ∀ {ks : List Int}, (∀ k ∈ ks, k = b ∨ k = (b + 1) % 6) → fwd b (sA ks) (sB ks) = ks.length
  | [], _ => by rcases six hb0 hb1 with rfl | rfl | rfl | rfl | rfl | rfl <;> rfl
  | k :: ks, h => by
    have ih := fwd_sum hb0 hb1 (ks := ks) fun x hx => h x (List.mem_cons_of_mem _ hx)
    have hk := h k List.mem_cons_self
    have e1 : sA (k :: ks) = wayA k + sA ks := rfl
    have e2 : sB (k :: ks) = wayB k + sB ks := rfl
    have e3 : (((k :: ks).length : Nat) : Int) = (ks.length : Int) + 1 := by simp
    rw [e1, e2, e3]
    rcases six hb0 hb1 with rfl | rfl | rfl | rfl | rfl | rfl <;> (rcases hk with rfl | rfl) <;> simp [fwd, wayA, wayB] at ih ⊢ <;> omega
theorem fwd_le {b x y : Int} (hb0 : 0 ≤ b) (hb1 : b < 6) : fwd b x y ≤ reach x y := by
  have h := reach_ge x y
  rcases six hb0 hb1 with rfl | rfl | rfl | rfl | rfl | rfl <;> simp [fwd] <;> omega
theorem reach_steps {ks : List Int} (h : ∀ k ∈ ks, 0 ≤ k ∧ k < 6) : reach (sA ks) (sB ks) ≤ ks.length := reach_le.mpr (sAB_bd h)
theorem reach_two {b : Int} {ks : List Int} (hb0 : 0 ≤ b) (hb1 : b < 6) (h : ∀ k ∈ ks, k = b ∨ k = (b + 1) % 6) : reach (sA ks) (sB ks) = ks.length := by
  have h1 : reach (sA ks) (sB ks) ≤ ks.length := reach_steps fun k hk => by
    rcases h k hk with rfl | rfl <;> omega
  have h2 := fwd_le (x := sA ks) (y := sB ks) hb0 hb1
  rw [fwd_sum hb0 hb1 h] at h2
  omega

/-! ### plain: the nearest cells -/
theorem two_reach_le {x y f : Int} : 2 * reach x y ≤ f ↔ 2 * x ≤ f ∧ -(2 * x) ≤ f ∧ 2 * y ≤ f ∧ -(2 * y) ≤ f ∧ 2 * (x + y) ≤ f ∧ -(2 * (x + y)) ≤ f := by
  have h := reach_ge x y
  have h2 := reach_cases x y
  constructor
  · intro q
    omega
  · intro q
    omega
def nearOk (a b far : Int) (c : Int × Int) : Bool := decide (2 * reach (a - c.1 * far) (b - c.2 * far) ≤ far)
def cands (a b far : Int) : List (Int × Int) := [(a / far, b / far), (a / far, b / far + 1), (a / far + 1, b / far), (a / far + 1, b / far + 1)]
def nearL (a b far : Int) : List (Int × Int) := (cands a b far).filter (nearOk a b far)
abbrev ptA (o p : Int × Int) (k far : Int) : Int := o.1 * far + k * (p.1 - o.1)
abbrev ptB (o p : Int × Int) (k far : Int) : Int := o.2 * far + k * (p.2 - o.2)
abbrev farOf (o p : Int × Int) : Int := reach (p.1 - o.1) (p.2 - o.2)
def nearC (o p : Int × Int) (k : Int) : List (Int × Int) := if farOf o p = 0 then [o] else nearL (ptA o p k (farOf o p)) (ptB o p k (farOf o p)) (farOf o p)
def lexP (c d : Int × Int) : Prop := c.1 < d.1 ∨ (c.1 = d.1 ∧ c.2 < d.2)
/-- one nearest cell, or two just so far -/
def NearS (a b far : Int) (l : List (Int × Int)) : Prop :=
  (∃ c, l = [c] ∧ 2 * reach (a - c.1 * far) (b - c.2 * far) < far) ∨
    ∃ c d, l = [c, d] ∧ lexP c d ∧ 2 * reach (a - c.1 * far) (b - c.2 * far) = far ∧ 2 * reach (a - d.1 * far) (b - d.2 * far) = far ∧ (c.1 + d.1) * far = 2 * a ∧ (c.2 + d.2) * far = 2 * b
theorem nearL_spec {a b far : Int} (hf : 0 < far) (hl : a % far = 0 ∨ b % far = 0 ∨ (a + b) % far = 0) : NearS a b far (nearL a b far) := by
  have ea : a - a / far * far = a % far := by rw [Int.emod_def, Int.mul_comm]
  have eb : b - b / far * far = b % far := by rw [Int.emod_def, Int.mul_comm]
  have ea1 : a - (a / far + 1) * far = a % far - far := by rw [Int.add_mul]; omega
  have eb1 : b - (b / far + 1) * far = b % far - far := by rw [Int.add_mul]; omega
  have r0 := Int.emod_nonneg a (b := far) (by omega)
  have s0 := Int.emod_nonneg b (b := far) (by omega)
  have r1 := Int.emod_lt_of_pos a hf
  have s1 := Int.emod_lt_of_pos b hf
  have hs : (a % far = 0 ∨ b % far = 0) ∨ a % far + b % far = far := by
    rcases hl with h | h | h
    · exact .inl (.inl h)
    · exact .inl (.inr h)
    · rw [Int.add_emod] at h
      by_cases hlt : a % far + b % far < far
      · rw [Int.emod_eq_of_lt (by omega) hlt] at h
        exact .inl (.inl (by omega))
      · have : (a % far + b % far) % far = a % far + b % far - far := by
          rw [← Int.sub_emod_right, Int.emod_eq_of_lt (by omega) (by omega)]
        exact .inr (by omega)
  have k00 : nearOk a b far (a / far, b / far) = decide (2 * reach (a % far) (b % far) ≤ far) := by unfold nearOk; rw [ea, eb]
  have k01 : nearOk a b far (a / far, b / far + 1) = decide (2 * reach (a % far) (b % far - far) ≤ far) := by unfold nearOk; rw [ea, eb1]
  have k10 : nearOk a b far (a / far + 1, b / far) = decide (2 * reach (a % far - far) (b % far) ≤ far) := by unfold nearOk; rw [ea1, eb]
  have k11 : nearOk a b far (a / far + 1, b / far + 1) = decide (2 * reach (a % far - far) (b % far - far) ≤ far) := by unfold nearOk; rw [ea1, eb1]
  have L : nearL a b far = (if 2 * reach (a % far) (b % far) ≤ far then [(a / far, b / far)] else []) ++ (if 2 * reach (a % far) (b % far - far) ≤ far then [(a / far, b / far + 1)] else []) ++
      (if 2 * reach (a % far - far) (b % far) ≤ far then [(a / far + 1, b / far)] else []) ++ (if 2 * reach (a % far - far) (b % far - far) ≤ far then [(a / far + 1, b / far + 1)] else []) := by
    unfold nearL cands
    simp only [List.filter_cons, k00, k01, k10, k11, List.filter_nil, decide_eq_true_eq]
    split <;> split <;> split <;> split <;> rfl
  rw [L]
  have n11 : ¬ 2 * reach (a % far - far) (b % far - far) ≤ far := by rw [two_reach_le]; omega
  rw [if_neg n11]
  unfold NearS lexP
  generalize a % far = r at *
  generalize b % far = s at *
  have g00 := reach_ge r s
  have c00 := reach_cases r s
  have g01 := reach_ge r (s - far)
  have c01 := reach_cases r (s - far)
  have g10 := reach_ge (r - far) s
  have c10 := reach_cases (r - far) s
  rcases hs with (h | h) | h
  · subst h
    rw [if_neg (show ¬ 2 * reach (0 - far) s ≤ far by omega)]
    rcases Int.lt_trichotomy (2 * s) far with q | q | q
    · rw [if_pos (by omega), if_neg (by omega)]
      exact .inl ⟨_, rfl, by rw [ea, eb]; omega⟩
    · rw [if_pos (by omega), if_pos (by omega)]
      exact .inr ⟨_, _, rfl, .inr ⟨rfl, by omega⟩, by rw [ea, eb]; omega, by rw [ea, eb1]; omega, by show (a / far + a / far) * far = 2 * a; rw [Int.add_mul]; omega, by show (b / far + (b / far + 1)) * far = 2 * b; rw [Int.add_mul]; omega⟩
    · rw [if_neg (by omega), if_pos (by omega)]
      exact .inl ⟨_, rfl, by rw [ea, eb1]; omega⟩
  · subst h
    rw [if_neg (show ¬ 2 * reach r (0 - far) ≤ far by omega)]
    rcases Int.lt_trichotomy (2 * r) far with q | q | q
    · rw [if_pos (by omega), if_neg (by omega)]
      exact .inl ⟨_, rfl, by rw [ea, eb]; omega⟩
    · rw [if_pos (by omega), if_pos (by omega)]
      exact .inr ⟨_, _, rfl, .inl (by omega), by rw [ea, eb]; omega, by rw [ea1, eb]; omega, by show (a / far + (a / far + 1)) * far = 2 * a; rw [Int.add_mul]; omega, by show (b / far + b / far) * far = 2 * b; rw [Int.add_mul]; omega⟩
    · rw [if_neg (by omega), if_pos (by omega)]
      exact .inl ⟨_, rfl, by rw [ea1, eb]; omega⟩
  · rw [if_neg (show ¬ 2 * reach r s ≤ far by omega)]
    rcases Int.lt_trichotomy (2 * r) far with q | q | q
    · rw [if_pos (by omega), if_neg (by omega)]
      exact .inl ⟨_, rfl, by rw [ea, eb1]; omega⟩
    · rw [if_pos (by omega), if_pos (by omega)]
      exact .inr ⟨_, _, rfl, .inl (by omega), by rw [ea, eb1]; omega, by rw [ea1, eb]; omega, by show (a / far + (a / far + 1)) * far = 2 * a; rw [Int.add_mul]; omega, by show (b / far + 1 + b / far) * far = 2 * b; rw [Int.add_mul]; omega⟩
    · rw [if_neg (by omega), if_pos (by omega)]
      exact .inl ⟨_, rfl, by rw [ea1, eb]; omega⟩
/-- the points of a row lie on a line -/
theorem pt_line (o p : Int × Int) (k : Int) : ptA o p k (farOf o p) % farOf o p = 0 ∨ ptB o p k (farOf o p) % farOf o p = 0 ∨ (ptA o p k (farOf o p) + ptB o p k (farOf o p)) % farOf o p = 0 := by
  unfold farOf ptA ptB
  have h := reach_cases (p.1 - o.1) (p.2 - o.2)
  generalize hf : reach (p.1 - o.1) (p.2 - o.2) = f at h ⊢
  have m : ∀ z : Int, (z * f) % f = 0 := fun z => Int.mul_emod_left z f
  rcases h with h | h | h | h | h | h
  · left
    rw [← h, ← Int.add_mul]
    exact m _
  · left
    have e : p.1 - o.1 = -f := by omega
    rw [e, Int.mul_neg, ← Int.neg_mul, ← Int.add_mul]
    exact m _
  · right; left
    rw [← h, ← Int.add_mul]
    exact m _
  · right; left
    have e : p.2 - o.2 = -f := by omega
    rw [e, Int.mul_neg, ← Int.neg_mul, ← Int.add_mul]
    exact m _
  · right; right
    have e : o.1 * f + k * (p.1 - o.1) + (o.2 * f + k * (p.2 - o.2)) = (o.1 + o.2 + k) * f := by
      have e1 : k * (p.1 - o.1) + k * (p.2 - o.2) = k * f := by rw [← Int.mul_add, ← h]
      rw [Int.add_mul, Int.add_mul]
      omega
    rw [e]
    exact m _
  · right; right
    have e : o.1 * f + k * (p.1 - o.1) + (o.2 * f + k * (p.2 - o.2)) = (o.1 + o.2 - k) * f := by
      have e1 : k * (p.1 - o.1) + k * (p.2 - o.2) = -(k * f) := by
        rw [← Int.mul_add, ← Int.mul_neg]
        congr 1
        omega
      rw [Int.sub_mul, Int.add_mul]
      omega
    rw [e]
    exact m _
theorem nearC_spec {o p : Int × Int} {k : Int} (h : farOf o p ≠ 0) : NearS (ptA o p k (farOf o p)) (ptB o p k (farOf o p)) (farOf o p) (nearC o p k) := by
  unfold nearC
  rw [if_neg h]
  exact nearL_spec (by have h2 : 0 ≤ farOf o p := reach_nn _ _; omega) (pt_line o p k)
theorem farOf_comm (o p : Int × Int) : farOf p o = farOf o p := by
  unfold farOf
  rw [← reach_neg (p.1 - o.1) (p.2 - o.2)]
  congr 1 <;> omega
theorem pt_back (x y k f : Int) : y * f + (f - k) * (x - y) = x * f + k * (y - x) := by
  rw [Int.sub_mul, Int.mul_sub, Int.mul_sub, Int.mul_sub, Int.mul_comm f x, Int.mul_comm f y]
  omega
theorem farOf_zero {o p : Int × Int} (h : farOf o p = 0) : o = p := by
  have h2 := reach_ge (p.1 - o.1) (p.2 - o.2)
  have h : reach (p.1 - o.1) (p.2 - o.2) = 0 := h
  exact Prod.ext (by omega) (by omega)
/-- told from the other end -/
theorem nearC_back (o p : Int × Int) (k : Int) : nearC p o (farOf o p - k) = nearC o p k := by
  unfold nearC
  rw [farOf_comm o p]
  by_cases h : farOf o p = 0
  · rw [if_pos h, if_pos h, farOf_zero h]
  · rw [if_neg h, if_neg h]
    unfold ptA ptB
    rw [pt_back, pt_back]
theorem reach_mul (x y : Int) {m : Int} (hm : 0 ≤ m) : reach (x * m) (y * m) = reach x y * m := by
  have g := reach_ge x y
  have le : ∀ z : Int, z ≤ reach x y → z * m ≤ reach x y * m := fun z hz => Int.mul_le_mul_of_nonneg_right hz hm
  have h1 : reach (x * m) (y * m) ≤ reach x y * m := by
    refine reach_le.mpr ⟨le _ g.1, ?_, le _ g.2.2.1, ?_, ?_, ?_⟩
    · rw [← Int.neg_mul]; exact le _ g.2.1
    · rw [← Int.neg_mul]; exact le _ g.2.2.2.1
    · rw [← Int.add_mul]; exact le _ g.2.2.2.2.1
    · have := le _ g.2.2.2.2.2
      rw [Int.sub_mul, Int.neg_mul] at this
      exact this
  have h2 : reach x y * m ≤ reach (x * m) (y * m) := by
    have q := reach_ge (x * m) (y * m)
    rcases reach_cases x y with h | h | h | h | h | h
    · rw [h]; exact q.1
    · rw [h, Int.neg_mul]; exact q.2.1
    · rw [h]; exact q.2.2.1
    · rw [h, Int.neg_mul]; exact q.2.2.2.1
    · rw [h, Int.add_mul]; exact q.2.2.2.2.1
    · rw [h, Int.sub_mul, Int.neg_mul]; exact q.2.2.2.2.2
  omega
theorem lexLt_of {c d : Int × Int} (h : lexP c d) : HT.lexLt [c.1, c.2] [d.1, d.2] = true := by
  unfold lexP at h
  unfold HT.lexLt
  by_cases h1 : c.1 = d.1
  · rw [if_pos h1]
    unfold HT.lexLt
    by_cases h2 : c.2 = d.2
    · exact absurd h (by omega)
    · rw [if_neg h2]
      exact decide_eq_true (by omega)
  · rw [if_neg h1]
    exact decide_eq_true (by omega)
theorem nearS_len {a b f : Int} {l : List (Int × Int)} (h : NearS a b f l) : l.length = 1 ∨ l.length = 2 := by
  rcases h with ⟨c, rfl, _⟩ | ⟨c, d, rfl, _⟩
  · exact .inl rfl
  · exact .inr rfl
theorem nearC_len (o p : Int × Int) (k : Int) : (nearC o p k).length = 1 ∨ (nearC o p k).length = 2 := by
  by_cases h : farOf o p = 0
  · unfold nearC
    rw [if_pos h]
    exact .inl rfl
  · exact nearS_len (nearC_spec h)

/-! ### plain: rows -/
def hdC (l : List (Int × Int)) : Int × Int := l.headD (0, 0)
def rowC (o p : Int × Int) : List (Int × Int) := (List.range ((farOf o p).toNat + 1)).map fun k : Nat => hdC (nearC o p (k : Int))
theorem mul_lt_one {f e n : Int} (hf : 0 < f) (h : f * e < f * n) : e < n := Int.lt_of_mul_lt_mul_left h (by omega)
theorem mult_zero {r m f : Int} (hf : 0 < f) (e : r = m * f) (h1 : 2 * r ≤ f) (h2 : -(2 * r) ≤ f) : r = 0 := by
  have a1 : f * m < f * 1 := by rw [Int.mul_comm, ← e]; omega
  have a2 : f * (-1) < f * m := by rw [Int.mul_comm f m, ← e]; omega
  have b1 := mul_lt_one hf a1
  have b2 := mul_lt_one hf a2
  have : m = 0 := by omega
  rw [e, this, Int.zero_mul]
theorem pt_zero {o k d c f r : Int} (hf : 0 < f) (e : r = o * f + k * d - c * f) (h1 : 2 * r ≤ f) (h2 : -(2 * r) ≤ f) (hd : d = 0 ∨ d = f ∨ d = -f) : r = 0 := by
  rcases hd with rfl | rfl | rfl
  · refine mult_zero (m := o - c) hf ?_ h1 h2
    rw [e, Int.sub_mul]
    omega
  · refine mult_zero (m := o + k - c) hf ?_ h1 h2
    rw [e, Int.sub_mul, Int.add_mul]
  · refine mult_zero (m := o - k - c) hf ?_ h1 h2
    rw [e, Int.sub_mul, Int.sub_mul, Int.mul_neg]
    omega
theorem coord {f d e r r' : Int} (hf : 0 < f) (d1 : d ≤ f) (d2 : -d ≤ f) (h : f * e = d - (r' - r)) (a1 : 2 * r ≤ f) (a2 : -(2 * r) ≤ f) (b1 : 2 * r' ≤ f) (b2 : -(2 * r') ≤ f)
    (hz : d = 0 ∨ d = f ∨ d = -f → r = 0 ∧ r' = 0) : (d = f → e = 1) ∧ (d = -f → e = -1) ∧ -1 ≤ e ∧ e ≤ 1 := by
  by_cases hd : d = 0 ∨ d = f ∨ d = -f
  · obtain ⟨rfl, rfl⟩ := hz hd
    have c1 : f * e < f * 2 := by omega
    have c2 : f * (-2) < f * e := by omega
    have b1 := mul_lt_one hf c1
    have b2 := mul_lt_one hf c2
    have he : e = -1 ∨ e = 0 ∨ e = 1 := by omega
    rcases he with rfl | rfl | rfl <;> simp at h <;> omega
  · have c1 : f * e < f * 2 := by omega
    have c2 : f * (-2) < f * e := by omega
    have b1 := mul_lt_one hf c1
    have b2 := mul_lt_one hf c2
    omega
theorem nearC_mem {o p : Int × Int} {k : Int} {c : Int × Int} (h : farOf o p ≠ 0) (hc : c ∈ nearC o p k) :
    2 * reach (ptA o p k (farOf o p) - c.1 * farOf o p) (ptB o p k (farOf o p) - c.2 * farOf o p) ≤ farOf o p := by
  unfold nearC at hc
  rw [if_neg h] at hc
  exact of_decide_eq_true (List.mem_filter.mp hc).2
/-- whichever nearest cells are taken, the next is a neighbour -/
theorem near_adj {o p : Int × Int} {k : Int} {c c' : Int × Int} (h : farOf o p ≠ 0) (hc : c ∈ nearC o p k) (hc' : c' ∈ nearC o p (k + 1)) : reach (c'.1 - c.1) (c'.2 - c.2) = 1 := by
  have q := nearC_mem h hc
  have q' := nearC_mem h hc'
  unfold ptA ptB at q q'
  have hf : 0 < farOf o p := by have : 0 ≤ farOf o p := reach_nn _ _; omega
  have g := reach_ge (p.1 - o.1) (p.2 - o.2)
  have cs := reach_cases (p.1 - o.1) (p.2 - o.2)
  have eF : farOf o p = reach (p.1 - o.1) (p.2 - o.2) := rfl
  rw [← eF] at g cs
  generalize farOf o p = f at *
  generalize hdx : p.1 - o.1 = dx at *
  generalize hdy : p.2 - o.2 = dy at *
  rw [two_reach_le] at q q'
  generalize hr1 : o.1 * f + k * dx - c.1 * f = r1 at q
  generalize hr2 : o.2 * f + k * dy - c.2 * f = r2 at q
  generalize hs1 : o.1 * f + (k + 1) * dx - c'.1 * f = s1 at q'
  generalize hs2 : o.2 * f + (k + 1) * dy - c'.2 * f = s2 at q'
  have e1 : f * (c'.1 - c.1) = dx - (s1 - r1) := by
    rw [← hr1, ← hs1, Int.mul_sub, Int.add_mul, Int.one_mul, Int.mul_comm f c'.1, Int.mul_comm f c.1]
    omega
  have e2 : f * (c'.2 - c.2) = dy - (s2 - r2) := by
    rw [← hr2, ← hs2, Int.mul_sub, Int.add_mul, Int.one_mul, Int.mul_comm f c'.2, Int.mul_comm f c.2]
    omega
  have e3 : f * (c'.1 - c.1 + (c'.2 - c.2)) = dx + dy - ((s1 + s2) - (r1 + r2)) := by
    rw [Int.mul_add, e1, e2]
    omega
  have z3 : ∀ (kk : Int) (cc : Int × Int), o.1 * f + kk * dx - cc.1 * f + (o.2 * f + kk * dy - cc.2 * f) = (o.1 + o.2) * f + kk * (dx + dy) - (cc.1 + cc.2) * f := fun kk cc => by
    rw [Int.add_mul, Int.add_mul, Int.mul_add]
    omega
  have t1 := coord hf (d := dx) (by omega) (by omega) e1 (by omega) (by omega) (by omega) (by omega) fun hd => ⟨pt_zero hf hr1.symm (by omega) (by omega) hd, pt_zero hf hs1.symm (by omega) (by omega) hd⟩
  have t2 := coord hf (d := dy) (by omega) (by omega) e2 (by omega) (by omega) (by omega) (by omega) fun hd => ⟨pt_zero hf hr2.symm (by omega) (by omega) hd, pt_zero hf hs2.symm (by omega) (by omega) hd⟩
  have t3 := coord hf (d := dx + dy) (by omega) (by omega) e3 (by omega) (by omega) (by omega) (by omega) fun hd =>
    ⟨pt_zero (o := o.1 + o.2) (k := k) (c := c.1 + c.2) hf (by rw [← z3, hr1, hr2]) (by omega) (by omega) hd, pt_zero (o := o.1 + o.2) (k := k + 1) (c := c'.1 + c'.2) hf (by rw [← z3, hs1, hs2]) (by omega) (by omega) hd⟩
  generalize c'.1 - c.1 = x at *
  generalize c'.2 - c.2 = y at *
  have u := reach_ge x y
  have v := reach_cases x y
  omega
theorem nearL_at {x y f : Int} (hf : 0 < f) : nearL (x * f) (y * f) f = [(x, y)] := by
  have e1 : x * f / f = x := Int.mul_ediv_cancel x (by omega)
  have e2 : y * f / f = y := Int.mul_ediv_cancel y (by omega)
  have s0 : ∀ z : Int, z * f - z * f = 0 := fun z => Int.sub_self _
  have s1 : ∀ z : Int, z * f - (z + 1) * f = -f := fun z => by rw [Int.add_mul]; omega
  unfold nearL cands
  rw [e1, e2]
  have k00 : nearOk (x * f) (y * f) f (x, y) = true := by
    refine decide_eq_true ?_
    show 2 * reach (x * f - x * f) (y * f - y * f) ≤ f
    rw [s0, s0, two_reach_le]
    omega
  have k01 : nearOk (x * f) (y * f) f (x, y + 1) = false := by
    refine decide_eq_false ?_
    show ¬ 2 * reach (x * f - x * f) (y * f - (y + 1) * f) ≤ f
    rw [s0, s1, two_reach_le]
    omega
  have k10 : nearOk (x * f) (y * f) f (x + 1, y) = false := by
    refine decide_eq_false ?_
    show ¬ 2 * reach (x * f - (x + 1) * f) (y * f - y * f) ≤ f
    rw [s0, s1, two_reach_le]
    omega
  have k11 : nearOk (x * f) (y * f) f (x + 1, y + 1) = false := by
    refine decide_eq_false ?_
    show ¬ 2 * reach (x * f - (x + 1) * f) (y * f - (y + 1) * f) ≤ f
    rw [s1, s1, two_reach_le]
    omega
  simp only [List.filter_cons, k00, k01, k10, k11, List.filter_nil, if_true, Bool.false_eq_true, if_false]
theorem nearC_first (o p : Int × Int) : nearC o p 0 = [o] := by
  unfold nearC
  by_cases h : farOf o p = 0
  · rw [if_pos h]
  · rw [if_neg h]
    unfold ptA ptB
    rw [Int.zero_mul, Int.zero_mul, Int.add_zero, Int.add_zero]
    exact nearL_at (by have : 0 ≤ farOf o p := reach_nn _ _; omega)
theorem nearC_last (o p : Int × Int) : nearC o p (farOf o p) = [p] := by
  have h := nearC_back p o 0
  rw [farOf_comm, Int.sub_zero] at h
  rw [h]
  exact nearC_first p o
theorem nearC_ne (o p : Int × Int) (k : Int) : nearC o p k ≠ [] := fun h => by
  have := nearC_len o p k
  rw [h] at this
  simp at this
theorem hdC_mem {l : List (Int × Int)} (h : l ≠ []) : hdC l ∈ l := by
  cases l with
  | nil => exact absurd rfl h
  | cons a l => exact List.mem_cons_self
theorem rowC_len (o p : Int × Int) : (rowC o p).length = (farOf o p).toNat + 1 := by
  unfold rowC
  rw [List.length_map, List.length_range]
theorem rowC_at (o p : Int × Int) {k : Nat} (h : k < (farOf o p).toNat + 1) : (rowC o p)[k]? = some (hdC (nearC o p (k : Int))) := by
  unfold rowC
  rw [List.getElem?_map, List.getElem?_range h]
  rfl
theorem rowC_back (o p : Int × Int) : rowC p o = (rowC o p).reverse := by
  apply List.ext_getElem?
  intro i
  by_cases hi : i < (farOf o p).toNat + 1
  · rw [rowC_at p o (by rw [farOf_comm]; exact hi), List.getElem?_reverse (by rw [rowC_len]; exact hi), rowC_len, rowC_at o p (by omega)]
    have nn : 0 ≤ farOf o p := reach_nn _ _
    have h := nearC_back o p (((farOf o p).toNat + 1 - 1 - i : Nat) : Int)
    have e : farOf o p - (((farOf o p).toNat + 1 - 1 - i : Nat) : Int) = (i : Int) := by omega
    rw [e] at h
    rw [h]
  · rw [List.getElem?_eq_none (by rw [rowC_len, farOf_comm]; omega), List.getElem?_eq_none (by rw [List.length_reverse, rowC_len]; omega)]

/-! ### plain: floors -/
def putC (acc : List (Int × Int)) (c : Int × Int) : List (Int × Int) := if c ∈ acc then acc else acc ++ [c]
def dedC (cs : List (Int × Int)) : List (Int × Int) := cs.foldl putC []
theorem mem_putC {acc : List (Int × Int)} {c x : Int × Int} : x ∈ putC acc c ↔ x ∈ acc ∨ x = c := by
  unfold putC
  split
  · rename_i h
    exact ⟨.inl, fun q => q.elim id fun e => e ▸ h⟩
  · rw [List.mem_append, List.mem_singleton]
theorem mem_fold : ∀ (cs acc : List (Int × Int)) (x : Int × Int), x ∈ cs.foldl putC acc ↔ x ∈ acc ∨ x ∈ cs
  | [], acc, x => by simp
  | c :: cs, acc, x => by
    rw [List.foldl_cons, mem_fold cs (putC acc c) x, mem_putC, List.mem_cons]
    constructor
    · rintro ((h | h) | h)
      · exact .inl h
      · exact .inr (.inl h)
      · exact .inr (.inr h)
    · rintro (h | h | h)
      · exact .inl (.inl h)
      · exact .inl (.inr h)
      · exact .inr h
theorem mem_dedC {cs : List (Int × Int)} {x : Int × Int} : x ∈ dedC cs ↔ x ∈ cs := by
  unfold dedC
  rw [mem_fold]
  simp
theorem dedC_len : ∀ (cs acc : List (Int × Int)), (cs.foldl putC acc).length ≤ acc.length + cs.length
  | [], acc => by simp
  | c :: cs, acc => by
    have h := dedC_len cs (putC acc c)
    have h2 : (putC acc c).length ≤ acc.length + 1 := by unfold putC; split <;> simp
    rw [List.foldl_cons, List.length_cons]
    omega
theorem dedC_take {cs : List (Int × Int)} {i : Nat} (h : i < cs.length) : dedC (cs.take (i + 1)) = putC (dedC (cs.take i)) (cs.getD i (0, 0)) := by
  unfold dedC
  rw [take_succ_getD (d := ((0, 0) : Int × Int)) h, List.foldl_append]
  rfl
def freeC (kept cs : List (Int × Int)) : List (Int × Int) := cs.filter fun c => !decide (c ∈ kept)
theorem freeC_ded (shuts cs : List (Int × Int)) : freeC (dedC shuts) cs = freeC shuts cs := by
  unfold freeC
  congr 1
  funext c
  have : (c ∈ dedC shuts) ↔ (c ∈ shuts) := mem_dedC
  simp only [this]
/-- the law's own order of the candidates -/
def candsL (a b far : Int) : List (Int × Int) := [(a / far, b / far), (a / far + 1, b / far), (a / far, b / far + 1), (a / far + 1, b / far + 1)]
def lawC (o p : Int × Int) (k : Int) : List (Int × Int) := if farOf o p = 0 then [o] else (candsL (ptA o p k (farOf o p)) (ptB o p k (farOf o p)) (farOf o p)).filter (nearOk (ptA o p k (farOf o p)) (ptB o p k (farOf o p)) (farOf o p))
theorem mem_lawC {o p : Int × Int} {k : Int} {c : Int × Int} : c ∈ lawC o p k ↔ c ∈ nearC o p k := by
  unfold lawC nearC
  split
  · rfl
  · unfold nearL
    rw [List.mem_filter, List.mem_filter]
    have : c ∈ candsL (ptA o p k (farOf o p)) (ptB o p k (farOf o p)) (farOf o p) ↔ c ∈ cands (ptA o p k (farOf o p)) (ptB o p k (farOf o p)) (farOf o p) := by
      unfold candsL cands
      simp only [List.mem_cons, List.not_mem_nil, or_false]
      constructor
      · rintro (h | h | h | h) <;> simp [h]
      · rintro (h | h | h | h) <;> simp [h]
    rw [this]
theorem lawC_len (o p : Int × Int) (k : Int) : (lawC o p k).length ≤ 4 := by
  unfold lawC
  split
  · show 1 ≤ 4
    decide
  · exact List.length_filter_le _ _
theorem lawC_ne (o p : Int × Int) (k : Int) : lawC o p k ≠ [] := fun h => by
  have hm := hdC_mem (nearC_ne o p k)
  rw [← mem_lawC, h] at hm
  cases hm
theorem free_nil {kept : List (Int × Int)} {o p : Int × Int} {k : Int} : freeC kept (lawC o p k) = [] ↔ freeC kept (nearC o p k) = [] := by
  unfold freeC
  rw [List.filter_eq_nil_iff, List.filter_eq_nil_iff]
  exact ⟨fun h c hc => h c (mem_lawC.mpr hc), fun h c hc => h c (mem_lawC.mp hc)⟩
/-- the point where the view is barred -/
def barN (kept : List (Int × Int)) (o p : Int × Int) : Option Nat := (List.range (farOf o p - 1).toNat).find? fun i => decide (freeC kept (nearC o p (1 + (i : Nat))) = [])
theorem barN_some {kept : List (Int × Int)} {o p : Int × Int} {i : Nat} (h : barN kept o p = some i) : i < (farOf o p - 1).toNat ∧ freeC kept (nearC o p (1 + (i : Nat))) = [] ∧ ∀ j : Nat, j < i → freeC kept (nearC o p (1 + (j : Nat))) ≠ [] := by
  unfold barN at h
  rw [List.find?_range_eq_some] at h
  refine ⟨by have := h.2.1; rw [List.mem_range] at this; exact this, of_decide_eq_true h.1, fun j hj => ?_⟩
  have := h.2.2 j hj
  simpa using this
theorem barN_none {kept : List (Int × Int)} {o p : Int × Int} (h : barN kept o p = none) {i : Nat} (hi : i < (farOf o p - 1).toNat) : freeC kept (nearC o p (1 + (i : Nat))) ≠ [] := by
  unfold barN at h
  rw [List.find?_eq_none] at h
  have := h i (by rw [List.mem_range]; exact hi)
  simpa using this
theorem barN_at {kept : List (Int × Int)} {o p : Int × Int} {i : Nat} (hi : i < (farOf o p - 1).toNat) (h0 : freeC kept (nearC o p (1 + (i : Nat))) = []) (h : ∀ j : Nat, j < i → freeC kept (nearC o p (1 + (j : Nat))) ≠ []) : barN kept o p = some i := by
  unfold barN
  rw [List.find?_range_eq_some]
  exact ⟨decide_eq_true h0, by rw [List.mem_range]; exact hi, fun j hj => by simpa using h j hj⟩
theorem barN_no {kept : List (Int × Int)} {o p : Int × Int} (h : ∀ i : Nat, i < (farOf o p - 1).toNat → freeC kept (nearC o p (1 + (i : Nat))) ≠ []) : barN kept o p = none := by
  unfold barN
  rw [List.find?_eq_none]
  intro i hi
  rw [List.mem_range] at hi
  simpa using h i hi
theorem barN_bare (o p : Int × Int) : barN [] o p = none := barN_no fun i _ h => by
  unfold freeC at h
  rw [List.filter_eq_nil_iff] at h
  have := h _ (hdC_mem (nearC_ne o p (1 + (i : Nat))))
  simp at this
theorem barN_ded (shuts : List (Int × Int)) (o p : Int × Int) : barN (dedC shuts) o p = barN shuts o p := by
  unfold barN
  simp only [freeC_ded]
/-- a free row -/
def midC (kept : List (Int × Int)) (o p : Int × Int) (n : Nat) : List (Int × Int) := (List.range n).map fun i : Nat => hdC (freeC kept (nearC o p (1 + (i : Nat))))
theorem midC_succ (kept : List (Int × Int)) (o p : Int × Int) (n : Nat) : midC kept o p (n + 1) = midC kept o p n ++ [hdC (freeC kept (nearC o p (1 + (n : Nat))))] := by
  unfold midC
  rw [List.range_succ, List.map_append]
  rfl
theorem midC_len (kept : List (Int × Int)) (o p : Int × Int) (n : Nat) : (midC kept o p n).length = n := by
  unfold midC
  rw [List.length_map, List.length_range]
def freeRow (kept : List (Int × Int)) (o p : Int × Int) : List (Int × Int) := o :: midC kept o p (farOf o p - 1).toNat ++ (if o = p then [] else [p])
theorem farOf_self (o : Int × Int) : farOf o o = 0 := by
  unfold farOf
  rw [Int.sub_self, Int.sub_self]
  rfl
theorem farOf_nn (o p : Int × Int) : 0 ≤ farOf o p := reach_nn _ _
theorem freeRow_len (kept : List (Int × Int)) (o p : Int × Int) : ((freeRow kept o p).length : Int) = farOf o p + 1 := by
  have nn := farOf_nn o p
  unfold freeRow
  by_cases h : o = p
  · subst h
    rw [if_pos rfl, farOf_self]
    rfl
  · have : farOf o p ≠ 0 := fun z => h (farOf_zero z)
    rw [if_neg h, List.cons_append, List.length_cons, List.length_append, midC_len]
    simp
    omega
/-- what stands at each point of a free row -/
theorem freeRow_at {kept : List (Int × Int)} {o p : Int × Int} (hb : barN kept o p = none) {i : Nat} (hi : (i : Int) ≤ farOf o p) : ∃ c, (freeRow kept o p)[i]? = some c ∧ c ∈ nearC o p i ∧ (0 < (i : Int) → (i : Int) < farOf o p → c ∉ kept) := by
  have nn := farOf_nn o p
  by_cases h0 : i = 0
  · subst h0
    refine ⟨o, rfl, ?_, fun h => absurd h (by decide)⟩
    show o ∈ nearC o p 0
    rw [nearC_first]
    exact List.mem_singleton.mpr rfl
  · have hop : o ≠ p := fun z => by
      subst z
      rw [farOf_self] at hi
      omega
    obtain ⟨j, rfl⟩ : ∃ j, i = j + 1 := ⟨i - 1, by omega⟩
    unfold freeRow
    rw [if_neg hop, List.cons_append, List.getElem?_cons_succ]
    by_cases hl : j < (farOf o p - 1).toNat
    · rw [List.getElem?_append_left (by rw [midC_len]; exact hl)]
      have hf := hdC_mem (barN_none hb hl)
      refine ⟨hdC (freeC kept (nearC o p (1 + (j : Nat)))), ?_, ?_, fun _ _ => ?_⟩
      · unfold midC
        rw [List.getElem?_map, List.getElem?_range hl]
        rfl
      · have := (List.mem_filter.mp hf).1
        rw [show ((j + 1 : Nat) : Int) = 1 + (j : Nat) by omega]
        exact this
      · have := (List.mem_filter.mp hf).2
        simpa using this
    · have hj : j = (farOf o p - 1).toNat := by omega
      rw [List.getElem?_append_right (by rw [midC_len]; omega), midC_len, hj, Nat.sub_self]
      refine ⟨p, rfl, ?_, fun _ h => ?_⟩
      · rw [show (((farOf o p - 1).toNat + 1 : Nat) : Int) = farOf o p by omega, nearC_last]
        exact List.mem_singleton.mpr rfl
      · omega

/-! ### plain: the spiral -/
def ringN : Nat → Nat
  | 0 => 0
  | p + 1 => if p + 1 ≤ 3 * ringN p * (ringN p + 1) then ringN p else ringN p + 1
def ringOf (p : Int) : Int := (ringN p.toNat : Nat)
def RingIs (p n : Int) : Prop := 0 ≤ n ∧ p ≤ 3 * n * (n + 1) ∧ (n = 0 ∨ 3 * n * (n - 1) < p)
theorem tri_mono {n m : Int} (h0 : 0 ≤ n) (h : n ≤ m) : 3 * n * (n + 1) ≤ 3 * m * (m + 1) := by
  have : 0 ≤ (m - n) * (m + n + 1) := Int.mul_nonneg (by omega) (by omega)
  grind
theorem tri_up {n m : Int} (h0 : 0 ≤ n) (h : n < m) : 3 * n * (n + 1) ≤ 3 * m * (m - 1) := by
  have : 0 ≤ (m - 1 - n) * (m + n) := Int.mul_nonneg (by omega) (by omega)
  grind
theorem ringN_is : ∀ p : Nat, RingIs (p : Int) (ringN p : Nat)
  | 0 => ⟨by decide, by decide, .inl rfl⟩
  | p + 1 => by
    have ih := ringN_is p
    unfold RingIs at *
    unfold ringN
    have e : ((3 * ringN p * (ringN p + 1) : Nat) : Int) = 3 * (ringN p : Int) * ((ringN p : Int) + 1) := by simp
    obtain ⟨h1, h2, h3⟩ := ih
    split
    · have : ((p + 1 : Nat) : Int) ≤ 3 * (ringN p : Int) * ((ringN p : Int) + 1) := by omega
      refine ⟨h1, this, ?_⟩
      rcases h3 with h3 | h3
      · exact .inl h3
      · exact .inr (by omega)
    · have : 3 * (ringN p : Int) * ((ringN p : Int) + 1) < ((p + 1 : Nat) : Int) := by omega
      generalize (ringN p : Nat) = n at *
      refine ⟨by omega, ?_, .inr ?_⟩
      · have : 3 * ((n + 1 : Nat) : Int) * (((n + 1 : Nat) : Int) + 1) = 3 * (n : Int) * ((n : Int) + 1) + 6 * ((n : Int) + 1) := by
          rw [Int.natCast_add]
          grind
        omega
      · have : 3 * ((n + 1 : Nat) : Int) * (((n + 1 : Nat) : Int) - 1) = 3 * (n : Int) * ((n : Int) + 1) := by
          rw [Int.natCast_add]
          grind
        omega
theorem ringOf_is {p : Int} (h : 0 ≤ p) : RingIs p (ringOf p) := by
  have := ringN_is p.toNat
  rwa [Int.toNat_of_nonneg h] at this
theorem ringIs_uniq {p n m : Int} (h : RingIs p n) (g : RingIs p m) : n = m := by
  obtain ⟨h1, h2, h3⟩ := h
  obtain ⟨g1, g2, g3⟩ := g
  rcases Int.lt_trichotomy n m with q | q | q
  · have := tri_up h1 q
    rcases g3 with g3 | g3
    · omega
    · omega
  · exact q
  · have := tri_up g1 q
    rcases h3 with h3 | h3
    · omega
    · omega
theorem ringOf_eq {p n : Int} (h0 : 0 ≤ p) (h : RingIs p n) : ringOf p = n := ringIs_uniq (ringOf_is h0) h
theorem ringOf_pos {p : Int} (h : 0 < p) : 1 ≤ ringOf p := by
  have ⟨h1, h2, _⟩ := ringOf_is (p := p) (by omega)
  rcases Int.lt_or_eq_of_le h1 with q | q
  · omega
  · rw [← q] at h2
    omega
theorem ringOf_le {p : Int} (h : 0 ≤ p) : ringOf p ≤ p := by
  have ⟨h1, h2, h3⟩ := ringOf_is h
  rcases h3 with h3 | h3
  · omega
  · by_cases q : ringOf p = 0
    · omega
    · have : 0 ≤ (ringOf p - 1) * (3 * ringOf p - 1) := Int.mul_nonneg (by omega) (by omega)
      grind
/-- the cell d steps along the ring of size n (1 ≤ d ≤ 6 n), n and d being numbers -/
def wA (k : Int) : Int := wayA (k % 6)
def wB (k : Int) : Int := wayB (k % 6)
def cellS (n s r : Int) : Int × Int := (n * wA (s + 5) + r * wA (s + 1), n * wB (s + 5) + r * wB (s + 1))
def ringC (n d : Int) : Int × Int := cellS n (d / n) (d % n)
def cellAtC (p : Int) : Int × Int := if p = 0 then (0, 0) else ringC (ringOf p) (p - 3 * ringOf p * (ringOf p - 1))
theorem seven {s : Int} (h0 : 0 ≤ s) (h1 : s ≤ 6) : s = 0 ∨ s = 1 ∨ s = 2 ∨ s = 3 ∨ s = 4 ∨ s = 5 ∨ s = 6 := by omega
theorem cellS_0 (n r : Int) : cellS n 0 r = (n, -n + r) := by unfold cellS wA wB wayA wayB; simp
theorem cellS_1 (n r : Int) : cellS n 1 r = (n - r, r) := by unfold cellS wA wB wayA wayB; simp; omega
theorem cellS_2 (n r : Int) : cellS n 2 r = (-r, n) := by unfold cellS wA wB wayA wayB; simp
theorem cellS_3 (n r : Int) : cellS n 3 r = (-n, n - r) := by unfold cellS wA wB wayA wayB; simp; omega
theorem cellS_4 (n r : Int) : cellS n 4 r = (-n + r, -r) := by unfold cellS wA wB wayA wayB; simp
theorem cellS_5 (n r : Int) : cellS n 5 r = (r, -n) := by unfold cellS wA wB wayA wayB; simp
theorem cellS_6 (n r : Int) : cellS n 6 r = (n, -n + r) := by unfold cellS wA wB wayA wayB; simp
/-- a side and a rest that stand on the ring -/
def Sr6 (n s r : Int) : Prop := 1 ≤ n ∧ 0 ≤ s ∧ 0 ≤ r ∧ (s ≤ 5 ∧ r < n ∧ ¬ (s = 0 ∧ r = 0) ∨ s = 6 ∧ r = 0)
theorem reach_eq {a b k : Int} (h1 : a ≤ k ∧ -a ≤ k ∧ b ≤ k ∧ -b ≤ k ∧ a + b ≤ k ∧ -a - b ≤ k) (h2 : k = a ∨ k = -a ∨ k = b ∨ k = -b ∨ k = a + b ∨ k = -a - b) : reach a b = k := by
  have g := reach_ge a b
  have c := reach_cases a b
  omega
theorem cellS_reach {n s r : Int} (h : Sr6 n s r) : reach (cellS n s r).1 (cellS n s r).2 = n := by
  obtain ⟨h1, h2, h3, h4⟩ := h
  rcases seven h2 (by omega) with rfl | rfl | rfl | rfl | rfl | rfl | rfl
  · rw [cellS_0]; exact reach_eq (by simp only; omega) (by first | (simp; done) | (simp only; omega))
  · rw [cellS_1]; exact reach_eq (by simp only; omega) (by first | (simp; done) | (simp only; omega))
  · rw [cellS_2]; exact reach_eq (by simp only; omega) (by first | (simp; done) | (simp only; omega))
  · rw [cellS_3]; exact reach_eq (by simp only; omega) (by first | (simp; done) | (simp only; omega))
  · rw [cellS_4]; exact reach_eq (by simp only; omega) (by first | (simp; done) | (simp only; omega))
  · rw [cellS_5]; exact reach_eq (by simp only; omega) (by first | (simp; done) | (simp only; omega))
  · rw [cellS_6]; exact reach_eq (by simp only; omega) (by first | (simp; done) | (simp only; omega))
theorem cellS_all {c : Int × Int} {n : Int} (h : reach c.1 c.2 = n) (hn : 1 ≤ n) : ∃ s r, Sr6 n s r ∧ c = cellS n s r := by
  obtain ⟨a, b⟩ := c
  have g := reach_ge a b
  have k := reach_cases a b
  have h : reach a b = n := h
  rw [h] at g k
  unfold Sr6
  by_cases h0 : a = n ∧ b < 0 ∧ -n < b
  · exact ⟨0, b + n, by omega, by rw [cellS_0]; refine Prod.ext ?_ ?_ <;> simp only <;> omega⟩
  by_cases h1 : a + b = n ∧ 0 ≤ b ∧ b < n
  · exact ⟨1, b, by omega, by rw [cellS_1]; refine Prod.ext ?_ ?_ <;> simp only <;> omega⟩
  by_cases h2 : b = n ∧ a ≤ 0 ∧ -n < a
  · exact ⟨2, -a, by omega, by rw [cellS_2]; refine Prod.ext ?_ ?_ <;> simp only <;> omega⟩
  by_cases h3 : a = -n ∧ 0 < b ∧ b ≤ n
  · exact ⟨3, n - b, by omega, by rw [cellS_3]; refine Prod.ext ?_ ?_ <;> simp only <;> omega⟩
  by_cases h4 : a + b = -n ∧ b ≤ 0 ∧ -n < b
  · exact ⟨4, -b, by omega, by rw [cellS_4]; refine Prod.ext ?_ ?_ <;> simp only <;> omega⟩
  by_cases h5 : b = -n ∧ 0 ≤ a ∧ a < n
  · exact ⟨5, a, by omega, by rw [cellS_5]; refine Prod.ext ?_ ?_ <;> simp only <;> omega⟩
  exact ⟨6, 0, by omega, by rw [cellS_6]; refine Prod.ext ?_ ?_ <;> simp only <;> omega⟩
/-- what place_of asks of a side -/
def spotRest (c : Int × Int) (n s : Int) : Int := reach (c.1 - n * wayA (s - 1)) (c.2 - n * wayB (s - 1))
def spotOk (c : Int × Int) (n s : Int) : Bool := decide (spotRest c n s < n) && decide (n * wayA (s - 1) + spotRest c n s * wA (s + 1) = c.1 ∧ n * wayB (s - 1) + spotRest c n s * wB (s + 1) = c.2)
def placeC (c : Int × Int) : Int :=
  match (List.range 5).find? (fun i => spotOk c (reach c.1 c.2) (1 + (i : Nat))) with
  | some i => 3 * reach c.1 c.2 * (reach c.1 c.2 - 1) + (1 + (i : Nat)) * reach c.1 c.2 + spotRest c (reach c.1 c.2) (1 + (i : Nat))
  | none => if c = (reach c.1 c.2, -reach c.1 c.2) then 3 * reach c.1 c.2 * (reach c.1 c.2 + 1) else 3 * reach c.1 c.2 * (reach c.1 c.2 - 1) + reach (c.1 - reach c.1 c.2) (c.2 - -reach c.1 c.2)
theorem spot_corner {s : Int} (h0 : 1 ≤ s) (h1 : s ≤ 5) (n : Int) : (n * wayA (s - 1), n * wayB (s - 1)) = cellS n s 0 := by
  have : s = 1 ∨ s = 2 ∨ s = 3 ∨ s = 4 ∨ s = 5 := by omega
  rcases this with rfl | rfl | rfl | rfl | rfl <;> simp [cellS, wA, wB, wayA, wayB]
theorem spot_eq {c : Int × Int} {n s : Int} (h0 : 1 ≤ s) (h1 : s ≤ 5) : spotOk c n s = decide (spotRest c n s < n ∧ cellS n s (spotRest c n s) = c) := by
  have h := spot_corner h0 h1 n
  have e1 : n * wayA (s - 1) = n * wA (s + 5) := by have := congrArg Prod.fst h; simpa [cellS] using this
  have e2 : n * wayB (s - 1) = n * wB (s + 5) := by have := congrArg Prod.snd h; simpa [cellS] using this
  unfold spotOk cellS
  rw [e1, e2, Bool.eq_iff_iff]
  simp only [Bool.and_eq_true, decide_eq_true_eq, Prod.ext_iff]
theorem spotRest_nn (c : Int × Int) (n s : Int) : 0 ≤ spotRest c n s := reach_nn _ _
/-- a cell stands on one side alone -/
theorem cellS_inj {n s r s' r' : Int} (h : Sr6 n s r) (h' : Sr6 n s' r') (e : cellS n s r = cellS n s' r') : s = s' ∧ r = r' := by
  obtain ⟨h1, h2, h3, h4⟩ := h
  obtain ⟨g1, g2, g3, g4⟩ := h'
  rcases seven h2 (by omega) with rfl | rfl | rfl | rfl | rfl | rfl | rfl <;>
    rcases seven g2 (by omega) with rfl | rfl | rfl | rfl | rfl | rfl | rfl <;>
    simp only [cellS_0, cellS_1, cellS_2, cellS_3, cellS_4, cellS_5, cellS_6, Prod.mk.injEq] at e <;> omega
theorem spotRest_at {n s r : Int} (h0 : 1 ≤ s) (h1 : s ≤ 5) (hr : 0 ≤ r) : spotRest (cellS n s r) n s = r := by
  have : s = 1 ∨ s = 2 ∨ s = 3 ∨ s = 4 ∨ s = 5 := by omega
  unfold spotRest
  rcases this with rfl | rfl | rfl | rfl | rfl
  · rw [cellS_1]; refine reach_eq ?_ ?_ <;> simp [wayA, wayB] <;> omega
  · rw [cellS_2]; refine reach_eq ?_ ?_ <;> simp [wayA, wayB] <;> omega
  · rw [cellS_3]; refine reach_eq ?_ ?_ <;> simp [wayA, wayB] <;> omega
  · rw [cellS_4]; refine reach_eq ?_ ?_ <;> simp [wayA, wayB] <;> omega
  · rw [cellS_5]; refine reach_eq ?_ ?_ <;> simp [wayA, wayB] <;> omega
theorem spot_is {n s r t : Int} (h : Sr6 n s r) (h0 : 1 ≤ t) (h1 : t ≤ 5) : spotOk (cellS n s r) n t = decide (t = s) := by
  rw [spot_eq h0 h1, decide_eq_decide]
  constructor
  · rintro ⟨q1, q2⟩
    have nn := spotRest_nn (cellS n s r) n t
    have := cellS_inj (n := n) (s := t) (r := spotRest (cellS n s r) n t) (s' := s) (r' := r) ⟨h.1, by omega, nn, .inl ⟨h1, q1, by omega⟩⟩ h q2
    exact this.1
  · rintro rfl
    rw [spotRest_at h0 h1 h.2.2.1]
    refine ⟨?_, rfl⟩
    have := h.2.2.2
    omega
theorem place_at {n s r : Int} (h : Sr6 n s r) : placeC (cellS n s r) = 3 * n * (n - 1) + s * n + r := by
  have hR := cellS_reach h
  obtain ⟨h1, h2, h3, h4⟩ := id h
  unfold placeC
  rw [hR]
  by_cases hs : 1 ≤ s ∧ s ≤ 5
  · have hf : (List.range 5).find? (fun i => spotOk (cellS n s r) n (1 + (i : Nat))) = some (s - 1).toNat := by
      rw [List.find?_range_eq_some]
      refine ⟨?_, ?_, ?_⟩
      · rw [spot_is h (by omega) (by omega)]
        exact decide_eq_true (by omega)
      · rw [List.mem_range]
        omega
      · intro j hj
        rw [spot_is h (by omega) (by omega)]
        simp
        omega
    rw [hf]
    have e : (1 + ((s - 1).toNat : Int)) = s := by omega
    simp only [e, spotRest_at hs.1 hs.2 h3]
  · have hf : (List.range 5).find? (fun i => spotOk (cellS n s r) n (1 + (i : Nat))) = none := by
      rw [List.find?_eq_none]
      intro i hi
      rw [List.mem_range] at hi
      rw [spot_is h (by omega) (by omega)]
      simp
      omega
    rw [hf]
    have : s = 0 ∨ s = 6 := by omega
    rcases this with rfl | rfl
    · rw [cellS_0]
      simp only [Prod.mk.injEq, true_and]
      rw [if_neg (by omega)]
      have : reach (n - n) (-n + r - -n) = r := reach_eq (by omega) (by omega)
      rw [this]
      omega
    · have : r = 0 := by omega
      subst this
      rw [cellS_6]
      simp only [Prod.mk.injEq, true_and, Int.add_zero]
      rw [if_pos trivial]
      grind
theorem sr6_of {n d : Int} (hn : 1 ≤ n) (h0 : 1 ≤ d) (h1 : d ≤ 6 * n) : Sr6 n (d / n) (d % n) := by
  have e := Int.mul_ediv_add_emod d n
  have m0 := Int.emod_nonneg d (b := n) (by omega)
  have m1 := Int.emod_lt_of_pos d (show (0 : Int) < n by omega)
  have q0 : 0 ≤ d / n := Int.ediv_nonneg (by omega) (by omega)
  have q6 : d / n ≤ 6 := by
    have := Int.ediv_le_ediv (show (0 : Int) < n by omega) h1
    rw [Int.mul_ediv_cancel _ (by omega)] at this
    exact this
  refine ⟨hn, q0, m0, ?_⟩
  by_cases h6 : d / n = 6
  · rw [h6] at e ⊢
    right
    exact ⟨rfl, by omega⟩
  · left
    refine ⟨by omega, m1, ?_⟩
    rintro ⟨z1, z2⟩
    rw [z1, z2] at e
    omega
theorem ringC_reach {n d : Int} (hn : 1 ≤ n) (h0 : 1 ≤ d) (h1 : d ≤ 6 * n) : reach (ringC n d).1 (ringC n d).2 = n := cellS_reach (sr6_of hn h0 h1)
theorem ringC_place {n d : Int} (hn : 1 ≤ n) (h0 : 1 ≤ d) (h1 : d ≤ 6 * n) : placeC (ringC n d) = 3 * n * (n - 1) + d := by
  unfold ringC
  rw [place_at (sr6_of hn h0 h1)]
  have e := Int.mul_ediv_add_emod d n
  rw [Int.mul_comm (d / n) n]
  omega
theorem ringC_all {c : Int × Int} {n : Int} (h : reach c.1 c.2 = n) (hn : 1 ≤ n) : ∃ d, 1 ≤ d ∧ d ≤ 6 * n ∧ c = ringC n d := by
  obtain ⟨s, r, q, e⟩ := cellS_all h hn
  obtain ⟨_, q2, q3, q4⟩ := id q
  have hr : r < n := by omega
  have e1 : (s * n + r) / n = s := by
    rw [Int.add_comm, Int.add_mul_ediv_right _ _ (by omega), Int.ediv_eq_zero_of_lt q3 hr]
    omega
  have e2 : (s * n + r) % n = r := by
    rw [Int.add_comm, Int.add_mul_emod_self_right, Int.emod_eq_of_lt q3 hr]
  refine ⟨s * n + r, ?_, ?_, ?_⟩
  · rcases seven q2 (by omega) with rfl | rfl | rfl | rfl | rfl | rfl | rfl <;> omega
  · rcases seven q2 (by omega) with rfl | rfl | rfl | rfl | rfl | rfl | rfl <;> omega
  · unfold ringC
    rw [e1, e2]
    exact e
theorem place_d {p : Int} (h : 0 < p) : 1 ≤ ringOf p ∧ 1 ≤ p - 3 * ringOf p * (ringOf p - 1) ∧ p - 3 * ringOf p * (ringOf p - 1) ≤ 6 * ringOf p := by
  have h1 := ringOf_pos h
  have ⟨g1, g2, g3⟩ := ringOf_is (p := p) (by omega)
  refine ⟨h1, by omega, ?_⟩
  have : 3 * ringOf p * (ringOf p + 1) = 3 * ringOf p * (ringOf p - 1) + 6 * ringOf p := by grind
  omega
theorem reach_zero {a b : Int} (h : reach a b = 0) : a = 0 ∧ b = 0 := by
  have g := reach_ge a b
  omega
theorem cellAt_reach {p : Int} (h : 0 ≤ p) : reach (cellAtC p).1 (cellAtC p).2 = ringOf p := by
  unfold cellAtC
  by_cases h0 : p = 0
  · subst h0
    rfl
  · rw [if_neg h0]
    have ⟨a, b, c⟩ := place_d (p := p) (by omega)
    exact ringC_reach a b c
theorem place_cell {p : Int} (h : 0 ≤ p) : placeC (cellAtC p) = p := by
  unfold cellAtC
  by_cases h0 : p = 0
  · subst h0
    decide
  · rw [if_neg h0]
    have ⟨a, b, c⟩ := place_d (p := p) (by omega)
    rw [ringC_place a b c]
    omega
theorem ring_d {n d : Int} (hn : 1 ≤ n) (h0 : 1 ≤ d) (h1 : d ≤ 6 * n) : 0 < 3 * n * (n - 1) + d ∧ ringOf (3 * n * (n - 1) + d) = n := by
  have h2 : 0 ≤ 3 * n * (n - 1) := Int.mul_nonneg (by omega) (by omega)
  refine ⟨by omega, ringOf_eq (by omega) ⟨by omega, ?_, .inr (by omega)⟩⟩
  have : 3 * n * (n + 1) = 3 * n * (n - 1) + 6 * n := by grind
  omega
theorem cellAt_ring {n d : Int} (hn : 1 ≤ n) (h0 : 1 ≤ d) (h1 : d ≤ 6 * n) : cellAtC (3 * n * (n - 1) + d) = ringC n d := by
  have ⟨a, b⟩ := ring_d hn h0 h1
  unfold cellAtC
  rw [if_neg (by omega), b]
  congr 1
  omega
theorem cell_place (c : Int × Int) : cellAtC (placeC c) = c ∧ 0 ≤ placeC c ∧ ringOf (placeC c) = reach c.1 c.2 := by
  have nn := reach_nn c.1 c.2
  by_cases h0 : reach c.1 c.2 = 0
  · obtain ⟨a, b⟩ := c
    have ⟨h1, h2⟩ := reach_zero h0
    simp only at h1 h2
    subst h1 h2
    decide
  · obtain ⟨d, h1, h2, e⟩ := ringC_all (c := c) rfl (show 1 ≤ reach c.1 c.2 by omega)
    have hp : placeC c = 3 * reach c.1 c.2 * (reach c.1 c.2 - 1) + d := by
      conv => lhs; rw [e]
      exact ringC_place (by omega) h1 h2
    have ⟨a, b⟩ := ring_d (show 1 ≤ reach c.1 c.2 by omega) h1 h2
    rw [hp]
    refine ⟨?_, by omega, b⟩
    rw [cellAt_ring (by omega) h1 h2]
    exact e.symm
/-- the law's own words -/
def inRing (c : Int × Int) (p : Int) : Bool := if reach c.1 c.2 = 0 then decide (p = 0) else decide (3 * reach c.1 c.2 * (reach c.1 c.2 - 1) < p) && decide (p ≤ 3 * reach c.1 c.2 * (reach c.1 c.2 + 1))
theorem inRing_of {c : Int × Int} {p : Int} (h0 : 0 ≤ p) (h : ringOf p = reach c.1 c.2) : inRing c p = true := by
  have ⟨g1, g2, g3⟩ := ringOf_is h0
  rw [h] at g1 g2 g3
  unfold inRing
  by_cases q : reach c.1 c.2 = 0
  · rw [if_pos q]
    rw [q] at g2
    exact decide_eq_true (by omega)
  · rw [if_neg q, decide_eq_true (by omega), decide_eq_true g2]
    rfl

/-! ### plain: going along the spiral -/
def nextWay (n h : Int) : Int := if h = 0 then 0 else (h / n + 1) % 6
theorem nextWay_ok (n h : Int) : 0 ≤ nextWay n h ∧ nextWay n h < 6 := by
  unfold nextWay
  split <;> omega
theorem cellS_next {n s r : Int} (h0 : 0 ≤ s) (h1 : s ≤ 5) : cellS n s (r + 1) = step1 (cellS n s r) ((s + 1) % 6) := by
  have : s = 0 ∨ s = 1 ∨ s = 2 ∨ s = 3 ∨ s = 4 ∨ s = 5 := by omega
  unfold step1
  rcases this with rfl | rfl | rfl | rfl | rfl | rfl
  · rw [cellS_0, cellS_0]; refine Prod.ext ?_ ?_ <;> simp [wayA, wayB] <;> omega
  · rw [cellS_1, cellS_1]; refine Prod.ext ?_ ?_ <;> simp [wayA, wayB] <;> omega
  · rw [cellS_2, cellS_2]; refine Prod.ext ?_ ?_ <;> simp [wayA, wayB] <;> omega
  · rw [cellS_3, cellS_3]; refine Prod.ext ?_ ?_ <;> simp [wayA, wayB] <;> omega
  · rw [cellS_4, cellS_4]; refine Prod.ext ?_ ?_ <;> simp [wayA, wayB] <;> omega
  · rw [cellS_5, cellS_5]; refine Prod.ext ?_ ?_ <;> simp [wayA, wayB] <;> omega
theorem cellS_turn {n s : Int} (h0 : 0 ≤ s) (h1 : s ≤ 5) : cellS n (s + 1) 0 = cellS n s n := by
  have : s = 0 ∨ s = 1 ∨ s = 2 ∨ s = 3 ∨ s = 4 ∨ s = 5 := by omega
  rcases this with rfl | rfl | rfl | rfl | rfl | rfl
  · show cellS n 1 0 = _; rw [cellS_0, cellS_1]; refine Prod.ext ?_ ?_ <;> simp only <;> omega
  · show cellS n 2 0 = _; rw [cellS_1, cellS_2]; refine Prod.ext ?_ ?_ <;> simp only <;> omega
  · show cellS n 3 0 = _; rw [cellS_2, cellS_3]; refine Prod.ext ?_ ?_ <;> simp only <;> omega
  · show cellS n 4 0 = _; rw [cellS_3, cellS_4]; refine Prod.ext ?_ ?_ <;> simp only <;> omega
  · show cellS n 5 0 = _; rw [cellS_4, cellS_5]; refine Prod.ext ?_ ?_ <;> simp only <;> omega
  · show cellS n 6 0 = _; rw [cellS_5, cellS_6]; refine Prod.ext ?_ ?_ <;> simp only <;> omega
theorem side_bd {n h : Int} (hn : 1 ≤ n) (h0 : 0 ≤ h) (h1 : h < 6 * n) : 0 ≤ h / n ∧ h / n ≤ 5 := by
  refine ⟨Int.ediv_nonneg h0 (by omega), ?_⟩
  have := (Int.ediv_lt_iff_lt_mul (show (0 : Int) < n by omega) (a := h) (b := 6)).mpr h1
  omega
theorem ringC_next {n h : Int} (hn : 1 ≤ n) (h0 : 0 ≤ h) (h1 : h < 6 * n) : ringC n (h + 1) = step1 (ringC n h) ((h / n + 1) % 6) := by
  have ⟨s0, s5⟩ := side_bd hn h0 h1
  have e := Int.mul_ediv_add_emod h n
  have m0 := Int.emod_nonneg h (b := n) (by omega)
  have m1 := Int.emod_lt_of_pos h (show (0 : Int) < n by omega)
  unfold ringC
  rw [← cellS_next s0 s5]
  by_cases q : h % n + 1 < n
  · have e1 : (h + 1) / n = h / n := by
      refine (Int.ediv_emod_unique (show (0 : Int) < n by omega) (r := h % n + 1)).mpr ⟨by omega, by omega, q⟩ |>.1
    have e2 : (h + 1) % n = h % n + 1 := by
      refine (Int.ediv_emod_unique (show (0 : Int) < n by omega) (q := h / n)).mpr ⟨by omega, by omega, q⟩ |>.2
    rw [e1, e2]
  · have qe : h % n + 1 = n := by omega
    have x : n * (h / n + 1) = h + 1 := by rw [Int.mul_add]; omega
    have e1 : (h + 1) / n = h / n + 1 := (Int.ediv_emod_unique (show (0 : Int) < n by omega) (r := 0)).mpr ⟨by omega, by omega, by omega⟩ |>.1
    have e2 : (h + 1) % n = 0 := (Int.ediv_emod_unique (show (0 : Int) < n by omega) (q := h / n + 1)).mpr ⟨by omega, by omega, by omega⟩ |>.2
    rw [e1, e2, qe]
    exact cellS_turn s0 s5
theorem ringC_one {n : Int} (hn : 1 ≤ n) : ringC n 1 = (n, 1 - n) := by
  unfold ringC
  by_cases h : n = 1
  · subst h
    decide
  · rw [Int.ediv_eq_zero_of_lt (by omega) (by omega), Int.emod_eq_of_lt (by omega) (by omega), cellS_0]
    refine Prod.ext ?_ ?_ <;> simp only
    omega
theorem ringC_last {n : Int} (hn : 1 ≤ n) : ringC n (6 * n) = (n, -n) := by
  unfold ringC
  rw [Int.mul_ediv_cancel _ (by omega), Int.mul_emod_left, cellS_6]
  refine Prod.ext ?_ ?_ <;> simp only
  omega
theorem cellAt_last {n : Int} (hn : 0 ≤ n) : cellAtC (3 * n * (n + 1)) = (n, -n) := by
  by_cases h : n = 0
  · subst h
    rfl
  · have e : 3 * n * (n + 1) = 3 * n * (n - 1) + 6 * n := by grind
    rw [e, cellAt_ring (by omega) (by omega) (by omega)]
    exact ringC_last (by omega)
/-- from place to place -/
theorem spiral_next {n h : Int} (hn : 1 ≤ n) (h0 : 0 ≤ h) (h1 : h < 6 * n) :
    cellAtC (3 * n * (n - 1) + 1 + h) = ringC n (h + 1) ∧ cellAtC (3 * n * (n - 1) + 1 + h) = step1 (cellAtC (3 * n * (n - 1) + 1 + h - 1)) (nextWay n h) := by
  have e1 : 3 * n * (n - 1) + 1 + h = 3 * n * (n - 1) + (h + 1) := by omega
  have e2 : 3 * n * (n - 1) + 1 + h - 1 = 3 * n * (n - 1) + h := by omega
  have c1 : cellAtC (3 * n * (n - 1) + 1 + h) = ringC n (h + 1) := by rw [e1]; exact cellAt_ring hn (by omega) (by omega)
  refine ⟨c1, ?_⟩
  rw [c1, e2]
  unfold nextWay
  by_cases h0' : h = 0
  · rw [if_pos h0', h0']
    have e3 : 3 * n * (n - 1) + 0 = 3 * (n - 1) * (n - 1 + 1) := by grind
    rw [e3, cellAt_last (by omega)]
    show ringC n 1 = _
    rw [ringC_one hn]
    unfold step1 wayA wayB
    refine Prod.ext ?_ ?_ <;> simp
    omega
  · rw [if_neg h0', cellAt_ring hn (by omega) (by omega)]
    exact ringC_next hn (by omega) h1
/-- the ring about m -/
def addP (m c : Int × Int) : Int × Int := (m.1 + c.1, m.2 + c.2)
def ringT (m : Int × Int) (n : Int) (k : Nat) : List (Int × Int) := (List.range k).map fun j : Nat => addP m (ringC n ((j : Int) + 1))
def ringL (m : Int × Int) (n : Int) : List (Int × Int) := if n = 0 then [m] else ringT m n (6 * n).toNat
theorem ringT_succ (m : Int × Int) (n : Int) (k : Nat) : ringT m n (k + 1) = ringT m n k ++ [addP m (ringC n ((k : Int) + 1))] := by
  unfold ringT
  rw [List.range_succ, List.map_append]
  rfl
theorem ringT_len (m : Int × Int) (n : Int) (k : Nat) : (ringT m n k).length = k := by
  unfold ringT
  rw [List.length_map, List.length_range]
theorem addP_step (m c : Int × Int) (k : Int) : addP m (step1 c k) = step1 (addP m c) k := by
  unfold addP step1
  refine Prod.ext ?_ ?_ <;> simp only <;> omega
theorem ringT_at (m : Int × Int) (n : Int) {k i : Nat} (h : i < k) : (ringT m n k)[i]? = some (addP m (ringC n ((i : Int) + 1))) := by
  unfold ringT
  rw [List.getElem?_map, List.getElem?_range h]
  rfl

/-! ### plain: motions -/
inductive Mo where
  | turn (k : Int) | mirror | shift (c : Int × Int) | plain | chain (l : List Mo)
def rot (c : Int × Int) : Int × Int := (-c.2, c.1 + c.2)
def swp (c : Int × Int) : Int × Int := (c.2, c.1)
def rotN : Nat → Int × Int → Int × Int
  | 0, c => c
  | n + 1, c => rot (rotN n c)
mutual
def img : Mo → Int × Int → Int × Int
  | .turn k, c => rotN (k % 6).toNat c
  | .mirror, c => swp c
  | .shift s, c => (c.1 + s.1, c.2 + s.2)
  | .plain, c => c
  | .chain l, c => imgs l c
def imgs : List Mo → Int × Int → Int × Int
  | [], c => c
  | m :: l, c => imgs l (img m c)
end
mutual
def bk : Mo → Mo
  | .turn k => .turn (-k)
  | .mirror => .mirror
  | .shift s => .shift (-s.1, -s.2)
  | .plain => .plain
  | .chain l => .chain (bks l).reverse
def bks : List Mo → List Mo
  | [] => []
  | m :: l => bk m :: bks l
end
mutual
def mok : Nat → Mo → Prop
  | 0, .chain _ => False
  | n + 1, .chain l => l.length ≤ 1000 ∧ moks n l
  | _, _ => True
def moks : Nat → List Mo → Prop
  | _, [] => True
  | n, m :: l => mok n m ∧ moks n l
end
theorem moks_mem : ∀ {n : Nat} {l : List Mo} {m : Mo}, moks n l → m ∈ l → mok n m
  | _, [], _, _, h => by cases h
  | n, x :: l, m, h, q => by
    have h : mok n x ∧ moks n l := by unfold moks at h; exact h
    rcases List.mem_cons.mp q with rfl | q
    · exact h.1
    · exact moks_mem h.2 q
theorem moks_of : ∀ {n : Nat} {l : List Mo}, (∀ m ∈ l, mok n m) → moks n l
  | _, [], _ => by unfold moks; trivial
  | n, x :: l, h => by
    unfold moks
    exact ⟨h x (by simp), moks_of fun m q => h m (by simp [q])⟩
theorem bks_map : ∀ l : List Mo, bks l = l.map bk
  | [] => by unfold bks; rfl
  | m :: l => by unfold bks; rw [bks_map l]; rfl
theorem bks_len (l : List Mo) : (bks l).length = l.length := by rw [bks_map, List.length_map]
mutual
theorem mok_bk : ∀ (m : Mo) (n : Nat), mok n m → mok n (bk m)
  | .turn _, n, _ => by unfold bk; cases n <;> simp [mok]
  | .mirror, n, _ => by unfold bk; cases n <;> simp [mok]
  | .shift _, n, _ => by unfold bk; cases n <;> simp [mok]
  | .plain, n, _ => by unfold bk; cases n <;> simp [mok]
  | .chain l, 0, h => by simp [mok] at h
  | .chain l, n + 1, h => by
    unfold bk
    simp only [mok] at h ⊢
    refine ⟨by rw [List.length_reverse, bks_len]; exact h.1, moks_of fun m q => ?_⟩
    exact mok_bks l n h.2 m (List.mem_reverse.mp q)
theorem mok_bks : ∀ (l : List Mo) (n : Nat), moks n l → ∀ m ∈ bks l, mok n m
  | [], _, _, m, q => by unfold bks at q; cases q
  | x :: l, n, h, m, q => by
    have h : mok n x ∧ moks n l := by unfold moks at h; exact h
    unfold bks at q
    rcases List.mem_cons.mp q with rfl | q
    · exact mok_bk x n h.1
    · exact mok_bks l n h.2 m q
end
theorem imgs_app : ∀ (l r : List Mo) (c : Int × Int), imgs (l ++ r) c = imgs r (imgs l c)
  | [], r, c => by simp [imgs]
  | m :: l, r, c => by simp only [List.cons_append, imgs]; exact imgs_app l r _
theorem rotN_add : ∀ (a b : Nat) (c : Int × Int), rotN (a + b) c = rotN a (rotN b c)
  | 0, b, c => by rw [Nat.zero_add]; rfl
  | a + 1, b, c => by
    rw [Nat.add_right_comm]
    show rot (rotN (a + b) c) = rot (rotN a (rotN b c))
    rw [rotN_add a b c]
theorem rotN6 (c : Int × Int) : rotN 6 c = c := by
  obtain ⟨x, y⟩ := c
  unfold rotN rotN rotN rotN rotN rotN rotN rot
  refine Prod.ext ?_ ?_ <;> simp only <;> omega
theorem swp_swp (c : Int × Int) : swp (swp c) = c := rfl
mutual
theorem img_bk : ∀ (m : Mo) (c : Int × Int), img (bk m) (img m c) = c
  | .turn k, c => by
    simp only [bk, img]
    rw [← rotN_add]
    have h : ((-k) % 6).toNat + (k % 6).toNat = 0 ∨ ((-k) % 6).toNat + (k % 6).toNat = 6 := by omega
    rcases h with h | h <;> rw [h]
    · rfl
    · exact rotN6 c
  | .mirror, c => by simp only [bk, img]; exact swp_swp c
  | .shift s, c => by
    simp only [bk, img]
    refine Prod.ext ?_ ?_ <;> simp only <;> omega
  | .plain, c => by simp only [bk, img]
  | .chain l, c => by simp only [bk, img]; exact imgs_bk l c
theorem imgs_bk : ∀ (l : List Mo) (c : Int × Int), imgs (bks l).reverse (imgs l c) = c
  | [], c => by simp [bks, imgs]
  | m :: l, c => by
    simp only [bks, imgs, List.reverse_cons]
    rw [imgs_app, imgs_bk l (img m c)]
    simp only [imgs]
    exact img_bk m c
end
/-- what a form says -/
def act (f : Bool) (t : Nat) (b c : Int × Int) : Int × Int := ((rotN t (if f = true then swp c else c)).1 + b.1, (rotN t (if f = true then swp c else c)).2 + b.2)
def IsAct (φ : Int × Int → Int × Int) : Prop := ∃ f t b, t < 6 ∧ ∀ c, φ c = act f t b c
theorem rot_add (c b : Int × Int) : rot (c.1 + b.1, c.2 + b.2) = ((rot c).1 + (rot b).1, (rot c).2 + (rot b).2) := by
  unfold rot
  refine Prod.ext ?_ ?_ <;> simp only <;> omega
theorem isAct_rot {φ : Int × Int → Int × Int} (h : IsAct φ) : IsAct fun c => rot (φ c) := by
  obtain ⟨f, t, b, ht, h⟩ := h
  by_cases q : t = 5
  · refine ⟨f, 0, rot b, by decide, fun c => ?_⟩
    show rot (φ c) = _
    rw [h c]
    unfold act
    rw [rot_add, q]
    have : rot (rotN 5 (if f = true then swp c else c)) = rotN 0 (if f = true then swp c else c) := rotN6 _
    rw [this]
  · refine ⟨f, t + 1, rot b, by omega, fun c => ?_⟩
    show rot (φ c) = _
    rw [h c]
    unfold act
    rw [rot_add]
    rfl
theorem isAct_rotN {φ : Int × Int → Int × Int} (h : IsAct φ) : ∀ n : Nat, IsAct fun c => rotN n (φ c)
  | 0 => h
  | n + 1 => isAct_rot (isAct_rotN h n)
theorem swp_rotN {t : Nat} (ht : t < 6) (c : Int × Int) : swp (rotN t c) = rotN ((6 - t) % 6) (swp c) := by
  have : t = 0 ∨ t = 1 ∨ t = 2 ∨ t = 3 ∨ t = 4 ∨ t = 5 := by omega
  obtain ⟨x, y⟩ := c
  rcases this with rfl | rfl | rfl | rfl | rfl | rfl <;> simp [rotN, rot, swp] <;> omega
theorem isAct_swp {φ : Int × Int → Int × Int} (h : IsAct φ) : IsAct fun c => swp (φ c) := by
  obtain ⟨f, t, b, ht, h⟩ := h
  refine ⟨!f, (6 - t) % 6, swp b, Nat.mod_lt _ (by decide), fun c => ?_⟩
  show swp (φ c) = _
  rw [h c]
  unfold act
  have e : swp ((rotN t (if f = true then swp c else c)).1 + b.1, (rotN t (if f = true then swp c else c)).2 + b.2) = ((swp (rotN t (if f = true then swp c else c))).1 + (swp b).1, (swp (rotN t (if f = true then swp c else c))).2 + (swp b).2) := rfl
  rw [e, swp_rotN ht]
  cases f <;> rfl
theorem isAct_shift {φ : Int × Int → Int × Int} (h : IsAct φ) (s : Int × Int) : IsAct fun c => ((φ c).1 + s.1, (φ c).2 + s.2) := by
  obtain ⟨f, t, b, ht, h⟩ := h
  refine ⟨f, t, (b.1 + s.1, b.2 + s.2), ht, fun c => ?_⟩
  show ((φ c).1 + s.1, (φ c).2 + s.2) = _
  rw [h c]
  unfold act
  refine Prod.ext ?_ ?_ <;> simp only <;> omega
mutual
theorem isAct_img : ∀ (m : Mo) (φ : Int × Int → Int × Int), IsAct φ → IsAct fun c => img m (φ c)
  | .turn k, φ, h => by simp only [img]; exact isAct_rotN h _
  | .mirror, φ, h => by simp only [img]; exact isAct_swp h
  | .shift s, φ, h => by simp only [img]; exact isAct_shift h s
  | .plain, φ, h => by simp only [img]; exact h
  | .chain l, φ, h => by simp only [img]; exact isAct_imgs l φ h
theorem isAct_imgs : ∀ (l : List Mo) (φ : Int × Int → Int × Int), IsAct φ → IsAct fun c => imgs l (φ c)
  | [], φ, h => by simp only [imgs]; exact h
  | m :: l, φ, h => by simp only [imgs]; exact isAct_imgs l _ (isAct_img m φ h)
end
theorem act_id (c : Int × Int) : act false 0 (0, 0) c = c := by
  unfold act rotN
  refine Prod.ext ?_ ?_ <;> simp
theorem img_act (m : Mo) : ∃ f t b, t < 6 ∧ ∀ c, img m c = act f t b c := isAct_img m (fun c => c) ⟨false, 0, (0, 0), by decide, fun c => (act_id c).symm⟩
/-- the places of the two images in the ways -/
def idx1 (f : Bool) (t : Nat) : Nat := if f = true then (t + 1) % 6 else t
def idx2 (f : Bool) (t : Nat) : Nat := if f = true then t else (t + 1) % 6
theorem act_0 (f : Bool) (t : Nat) (b : Int × Int) (ht : t < 6) : act f t b (0, 0) = b := by
  have : t = 0 ∨ t = 1 ∨ t = 2 ∨ t = 3 ∨ t = 4 ∨ t = 5 := by omega
  obtain ⟨x, y⟩ := b
  cases f <;> rcases this with rfl | rfl | rfl | rfl | rfl | rfl <;> simp [act, rotN, rot, swp]
theorem act_1 (f : Bool) (t : Nat) (b : Int × Int) (ht : t < 6) : (act f t b (1, 0)).1 + -1 * b.1 = wayA (idx1 f t) ∧ (act f t b (1, 0)).2 + -1 * b.2 = wayB (idx1 f t) := by
  have : t = 0 ∨ t = 1 ∨ t = 2 ∨ t = 3 ∨ t = 4 ∨ t = 5 := by omega
  obtain ⟨x, y⟩ := b
  cases f <;> rcases this with rfl | rfl | rfl | rfl | rfl | rfl <;> simp [act, rotN, rot, swp, idx1, wayA, wayB] <;> omega
theorem act_2 (f : Bool) (t : Nat) (b : Int × Int) (ht : t < 6) : (act f t b (0, 1)).1 + -1 * b.1 = wayA (idx2 f t) ∧ (act f t b (0, 1)).2 + -1 * b.2 = wayB (idx2 f t) := by
  have : t = 0 ∨ t = 1 ∨ t = 2 ∨ t = 3 ∨ t = 4 ∨ t = 5 := by omega
  obtain ⟨x, y⟩ := b
  cases f <;> rcases this with rfl | rfl | rfl | rfl | rfl | rfl <;> simp [act, rotN, rot, swp, idx2, wayA, wayB] <;> omega
theorem idx_lt (f : Bool) (t : Nat) (ht : t < 6) : idx1 f t < 6 ∧ idx2 f t < 6 := by
  unfold idx1 idx2
  cases f <;> simp <;> omega
theorem idx_turn (f : Bool) (t : Nat) (ht : t < 6) : decide (((idx2 f t : Nat) : Int) = (((idx1 f t : Nat) : Int) + 1) % 6) = !f := by
  unfold idx1 idx2
  cases f <;> simp <;> omega
theorem reach_rot (c : Int × Int) : reach (rot c).1 (rot c).2 = reach c.1 c.2 := by
  have g := reach_ge c.1 c.2
  have k := reach_cases c.1 c.2
  have g2 := reach_ge (-c.2) (c.1 + c.2)
  have k2 := reach_cases (-c.2) (c.1 + c.2)
  show reach (-c.2) (c.1 + c.2) = _
  omega
theorem rot_sub (c d : Int × Int) : ((rot d).1 - (rot c).1, (rot d).2 - (rot c).2) = rot (d.1 - c.1, d.2 - c.2) := by
  unfold rot
  refine Prod.ext ?_ ?_ <;> simp only <;> omega
theorem reach_rotN : ∀ (n : Nat) (c d : Int × Int), reach ((rotN n d).1 - (rotN n c).1) ((rotN n d).2 - (rotN n c).2) = reach (d.1 - c.1) (d.2 - c.2)
  | 0, c, d => rfl
  | n + 1, c, d => by
    have e := rot_sub (rotN n c) (rotN n d)
    have e1 := congrArg Prod.fst e
    have e2 := congrArg Prod.snd e
    show reach ((rot (rotN n d)).1 - (rot (rotN n c)).1) ((rot (rotN n d)).2 - (rot (rotN n c)).2) = _
    rw [show (rot (rotN n d)).1 - (rot (rotN n c)).1 = _ from e1, show (rot (rotN n d)).2 - (rot (rotN n c)).2 = _ from e2, reach_rot]
    exact reach_rotN n c d
theorem reach_swp (a b : Int) : reach b a = reach a b := by
  have g := reach_ge a b
  have k := reach_cases a b
  have g2 := reach_ge b a
  have k2 := reach_cases b a
  omega
theorem reach_act (f : Bool) (t : Nat) (b c d : Int × Int) : reach ((act f t b d).1 - (act f t b c).1) ((act f t b d).2 - (act f t b c).2) = reach (d.1 - c.1) (d.2 - c.2) := by
  have h := reach_rotN t (if f = true then swp c else c) (if f = true then swp d else d)
  unfold act
  simp only
  rw [show ∀ x y z : Int, x + z - (y + z) = x - y from fun x y z => by omega, show ∀ x y z : Int, x + z - (y + z) = x - y from fun x y z => by omega, h]
  cases f
  · rfl
  · exact reach_swp _ _
theorem reach_img (m : Mo) (c d : Int × Int) : reach ((img m d).1 - (img m c).1) ((img m d).2 - (img m c).2) = reach (d.1 - c.1) (d.2 - c.2) := by
  obtain ⟨f, t, b, _, h⟩ := img_act m
  rw [h d, h c]
  exact reach_act f t b c d

/-! ### plain: sight under motions -/
def vec (o p c : Int × Int) (f k : Int) : Int × Int := (f * (o.1 - c.1) + k * (p.1 - o.1), f * (o.2 - c.2) + k * (p.2 - o.2))
def Iso (φ : Int × Int → Int × Int) : Prop := ∀ o p c f k, reach (vec (φ o) (φ p) (φ c) f k).1 (vec (φ o) (φ p) (φ c) f k).2 = reach (vec o p c f k).1 (vec o p c f k).2
theorem iso_rot : Iso rot := fun o p c f k => by
  have e : vec (rot o) (rot p) (rot c) f k = rot (vec o p c f k) := by
    unfold vec rot
    refine Prod.ext ?_ ?_ <;> simp only <;> grind
  rw [e]
  exact reach_rot _
theorem iso_swp : Iso swp := fun o p c f k => reach_swp _ _
theorem iso_shift (s : Int × Int) : Iso fun c => (c.1 + s.1, c.2 + s.2) := fun o p c f k => by
  have e : vec (o.1 + s.1, o.2 + s.2) (p.1 + s.1, p.2 + s.2) (c.1 + s.1, c.2 + s.2) f k = vec o p c f k := by
    unfold vec
    refine Prod.ext ?_ ?_ <;> simp only <;> grind
  rw [e]
theorem iso_comp {φ ψ : Int × Int → Int × Int} (h : Iso φ) (g : Iso ψ) : Iso fun c => ψ (φ c) := fun o p c f k => (g (φ o) (φ p) (φ c) f k).trans (h o p c f k)
theorem iso_id : Iso fun c => c := fun _ _ _ _ _ => rfl
theorem iso_rotN : ∀ n : Nat, Iso (rotN n)
  | 0 => iso_id
  | n + 1 => (iso_comp (φ := rotN n) (ψ := rot) (iso_rotN n) iso_rot : Iso fun c => rot (rotN n c))
mutual
theorem iso_img : ∀ m : Mo, Iso (img m)
  | .turn k => by
    have : img (.turn k) = rotN (k % 6).toNat := by funext c; simp only [img]
    rw [this]; exact iso_rotN _
  | .mirror => by
    have : img .mirror = swp := by funext c; simp only [img]
    rw [this]; exact iso_swp
  | .shift s => by
    have : img (.shift s) = fun c => (c.1 + s.1, c.2 + s.2) := by funext c; simp only [img]
    rw [this]; exact iso_shift s
  | .plain => by
    have : img .plain = fun c => c := by funext c; simp only [img]
    rw [this]; exact iso_id
  | .chain l => by
    have : img (.chain l) = imgs l := by funext c; simp only [img]
    rw [this]; exact iso_imgs l
theorem iso_imgs : ∀ l : List Mo, Iso (imgs l)
  | [] => by
    have : imgs [] = fun c => c := by funext c; simp only [imgs]
    rw [this]; exact iso_id
  | m :: l => by
    have : imgs (m :: l) = fun c => imgs l (img m c) := by funext c; simp only [imgs]
    rw [this]; exact iso_comp (iso_img m) (iso_imgs l)
end
mutual
theorem bk_bk : ∀ m : Mo, bk (bk m) = m
  | .turn k => by simp only [bk, Int.neg_neg]
  | .mirror => by simp only [bk]
  | .shift s => by simp only [bk, Int.neg_neg]
  | .plain => by simp only [bk]
  | .chain l => by
    simp only [bk]
    rw [bks_map, List.map_reverse, ← bks_map, bks_bks l, List.reverse_reverse]
theorem bks_bks : ∀ l : List Mo, bks (bks l) = l
  | [] => by simp only [bks]
  | m :: l => by simp only [bks]; rw [bk_bk m, bks_bks l]
end
theorem img_bk' (m : Mo) (c : Int × Int) : img m (img (bk m) c) = c := by
  have := img_bk (bk m) c
  rw [bk_bk] at this
  exact this
theorem img_inj {m : Mo} {c d : Int × Int} (h : img m c = img m d) : c = d := by
  have := congrArg (img (bk m)) h
  rwa [img_bk, img_bk] at this
theorem farOf_img (m : Mo) (o p : Int × Int) : farOf (img m o) (img m p) = farOf o p := reach_img m o p
/-- nearest cells by their lack alone -/
theorem mem_nearC {o p c : Int × Int} {k : Int} (h : farOf o p ≠ 0) : c ∈ nearC o p k ↔ 2 * reach (vec o p c (farOf o p) k).1 (vec o p c (farOf o p) k).2 ≤ farOf o p := by
  have nn := farOf_nn o p
  have hf : 0 < farOf o p := by omega
  unfold nearC
  rw [if_neg h]
  unfold nearL
  rw [List.mem_filter]
  have e1 : ptA o p k (farOf o p) - c.1 * farOf o p = (vec o p c (farOf o p) k).1 := by unfold ptA vec; simp only; grind
  have e2 : ptB o p k (farOf o p) - c.2 * farOf o p = (vec o p c (farOf o p) k).2 := by unfold ptB vec; simp only; grind
  have hk : nearOk (ptA o p k (farOf o p)) (ptB o p k (farOf o p)) (farOf o p) c = decide (2 * reach (vec o p c (farOf o p) k).1 (vec o p c (farOf o p) k).2 ≤ farOf o p) := by
    unfold nearOk
    rw [e1, e2]
  rw [hk, decide_eq_true_eq]
  constructor
  · exact fun q => q.2
  · intro q
    refine ⟨?_, q⟩
    rw [← e1, ← e2, two_reach_le] at q
    generalize ptA o p k (farOf o p) = a at *
    generalize ptB o p k (farOf o p) = b at *
    generalize farOf o p = f at *
    have da := Int.mul_ediv_add_emod a f
    have db := Int.mul_ediv_add_emod b f
    have ma := Int.emod_nonneg a (b := f) (by omega)
    have mb := Int.emod_nonneg b (b := f) (by omega)
    have la := Int.emod_lt_of_pos a hf
    have lb := Int.emod_lt_of_pos b hf
    have ca : c.1 = a / f ∨ c.1 = a / f + 1 := by
      rcases Int.lt_trichotomy c.1 (a / f) with z | z | z
      · have := Int.mul_le_mul_of_nonneg_right (show c.1 + 1 ≤ a / f by omega) (show 0 ≤ f by omega)
        rw [Int.add_mul] at this
        rw [Int.mul_comm f] at da
        omega
      · exact .inl z
      · by_cases y : c.1 = a / f + 1
        · exact .inr y
        · have := Int.mul_le_mul_of_nonneg_right (show a / f + 2 ≤ c.1 by omega) (show 0 ≤ f by omega)
          rw [Int.add_mul] at this
          rw [Int.mul_comm f] at da
          omega
    have cb : c.2 = b / f ∨ c.2 = b / f + 1 := by
      rcases Int.lt_trichotomy c.2 (b / f) with z | z | z
      · have := Int.mul_le_mul_of_nonneg_right (show c.2 + 1 ≤ b / f by omega) (show 0 ≤ f by omega)
        rw [Int.add_mul] at this
        rw [Int.mul_comm f] at db
        omega
      · exact .inl z
      · by_cases y : c.2 = b / f + 1
        · exact .inr y
        · have := Int.mul_le_mul_of_nonneg_right (show b / f + 2 ≤ c.2 by omega) (show 0 ≤ f by omega)
          rw [Int.add_mul] at this
          rw [Int.mul_comm f] at db
          omega
    obtain ⟨x, y⟩ := c
    unfold cands
    simp only at ca cb
    rcases ca with rfl | rfl <;> rcases cb with rfl | rfl <;> simp
theorem near_img (m : Mo) {o p c : Int × Int} {k : Int} : img m c ∈ nearC (img m o) (img m p) k ↔ c ∈ nearC o p k := by
  by_cases h : farOf o p = 0
  · unfold nearC
    rw [if_pos h, if_pos (by rw [farOf_img]; exact h), List.mem_singleton, List.mem_singleton]
    exact ⟨fun q => img_inj q, fun q => by rw [q]⟩
  · rw [mem_nearC h, mem_nearC (by rw [farOf_img]; exact h), farOf_img, iso_img m o p c _ k]
theorem free_img (m : Mo) (kept : List (Int × Int)) (o p : Int × Int) (k : Int) : freeC (kept.map (img m)) (nearC (img m o) (img m p) k) = [] ↔ freeC kept (nearC o p k) = [] := by
  unfold freeC
  rw [List.filter_eq_nil_iff, List.filter_eq_nil_iff]
  have hm : ∀ c, img m c ∈ kept.map (img m) ↔ c ∈ kept := fun c => by
    rw [List.mem_map]
    exact ⟨fun ⟨d, h1, h2⟩ => img_inj h2 ▸ h1, fun h => ⟨c, h, rfl⟩⟩
  constructor
  · intro h c hc
    have := h (img m c) ((near_img m).mpr hc)
    simpa [hm] using this
  · intro h c hc
    have e : img m (img (bk m) c) = c := img_bk' m c
    rw [← e] at hc ⊢
    have := h _ ((near_img m).mp hc)
    have h2 := hm (img (bk m) c)
    simp only [h2]
    exact this
theorem bar_img (m : Mo) (kept : List (Int × Int)) (o p : Int × Int) : barN (kept.map (img m)) (img m o) (img m p) = barN kept o p := by
  unfold barN
  rw [farOf_img]
  congr 1
  funext i
  rw [decide_eq_decide]
  exact free_img m kept o p _
theorem bar_back (kept : List (Int × Int)) (o p : Int × Int) : (barN kept p o).isNone = (barN kept o p).isNone := by
  have h : ∀ o p : Int × Int, barN kept o p = none → barN kept p o = none := fun o p h => by
    refine barN_no fun i hi => ?_
    rw [farOf_comm] at hi
    have := barN_none h (i := (farOf o p - 1).toNat - 1 - i) (by omega)
    have e := nearC_back o p (farOf o p - (1 + (i : Int)))
    rw [show farOf o p - (farOf o p - (1 + (i : Int))) = 1 + (i : Int) by omega] at e
    rw [e]
    rw [show (1 : Int) + (((farOf o p - 1).toNat - 1 - i : Nat) : Int) = farOf o p - (1 + (i : Int)) by omega] at this
    exact this
  cases q : barN kept o p with
  | none => rw [h o p q]
  | some n =>
    cases q2 : barN kept p o with
    | none => rw [h p o q2] at q; cases q
    | some n2 => rfl
/-- walls that are moved -/
theorem fold_map {f : Int × Int → Int × Int} (hf : ∀ a b, f a = f b → a = b) : ∀ (cs acc : List (Int × Int)), (cs.foldl putC acc).map f = (cs.map f).foldl putC (acc.map f)
  | [], acc => rfl
  | c :: cs, acc => by
    rw [List.foldl_cons, fold_map hf cs (putC acc c), List.map_cons, List.foldl_cons]
    congr 1
    unfold putC
    have hm : f c ∈ acc.map f ↔ c ∈ acc := by
      rw [List.mem_map]
      exact ⟨fun ⟨d, h1, h2⟩ => hf _ _ h2 ▸ h1, fun h => ⟨c, h, rfl⟩⟩
    by_cases h : c ∈ acc
    · rw [if_pos h, if_pos (hm.mpr h)]
    · rw [if_neg h, if_neg (fun z => h (hm.mp z)), List.map_append]
      rfl
theorem ded_map (m : Mo) (cs : List (Int × Int)) : (dedC cs).map (img m) = dedC (cs.map (img m)) := fold_map (fun _ _ h => img_inj h) cs []
theorem fold_nodup : ∀ (cs acc : List (Int × Int)), acc.Nodup → (cs.foldl putC acc).Nodup
  | [], acc, h => h
  | c :: cs, acc, h => by
    rw [List.foldl_cons]
    refine fold_nodup cs _ ?_
    unfold putC
    split
    · exact h
    · rename_i hc
      rw [List.nodup_append]
      refine ⟨h, by simp, fun a ha b hb => ?_⟩
      rw [List.mem_singleton] at hb
      rw [hb]
      exact fun z => hc (z ▸ ha)
theorem fold_new : ∀ (cs acc : List (Int × Int)), (acc ++ cs).Nodup → cs.foldl putC acc = acc ++ cs
  | [], acc, _ => by simp
  | c :: cs, acc, h => by
    have hc : c ∉ acc := fun z => by
      rw [List.nodup_append] at h
      exact h.2.2 c z c (by simp) rfl
    rw [List.foldl_cons]
    have e : putC acc c = acc ++ [c] := by unfold putC; rw [if_neg hc]
    rw [e, fold_new cs (acc ++ [c]) (by simpa using h)]
    simp
theorem ded_ded (cs : List (Int × Int)) : dedC (dedC cs) = dedC cs := by
  have h := fold_nodup cs [] List.nodup_nil
  have := fold_new (dedC cs) [] (by simpa [dedC] using h)
  simpa [dedC] using this
theorem ded_moved (m : Mo) (cs : List (Int × Int)) : dedC ((dedC cs).map (img m)) = dedC (cs.map (img m)) := by
  rw [ded_map, ded_ded]
theorem bar_moved (m : Mo) (cs : List (Int × Int)) (o p : Int × Int) : barN (dedC (cs.map (img m))) (img m o) (img m p) = barN (dedC cs) o p := by
  rw [barN_ded, barN_ded, bar_img]
theorem map_back (m : Mo) (cs : List (Int × Int)) : (cs.map (img m)).map (img (bk m)) = cs := by
  rw [List.map_map]
  have : (img (bk m)) ∘ (img m) = id := by funext c; exact img_bk m c
  rw [this, List.map_id]
/-! stretches -/
def addRun (l : List (Int × Int)) (p : Int) : List (Int × Int) := if l ≠ [] ∧ (l.getLastD (0, 0)).2 = p - 1 then l.dropLast ++ [((l.getLastD (0, 0)).1, p)] else l ++ [(p, p)]
def runs (b : Nat → Bool) : Nat → List (Int × Int)
  | 0 => []
  | n + 1 => if b n = true then addRun (runs b n) n else runs b n
theorem runs_len (b : Nat → Bool) : ∀ n, (runs b n).length ≤ n
  | 0 => by simp [runs]
  | n + 1 => by
    have ih := runs_len b n
    unfold runs addRun
    split
    · split
      · rw [List.length_append, List.length_dropLast, List.length_singleton]; omega
      · rw [List.length_append, List.length_singleton]; omega
    · omega
theorem runs_le (b : Nat → Bool) : ∀ n, ∀ q ∈ runs b n, q.1 ≤ q.2 ∧ q.2 < n
  | 0, q, h => by simp [runs] at h
  | n + 1, q, h => by
    have ih := runs_le b n
    unfold runs at h
    split at h
    · unfold addRun at h
      split at h
      · rename_i hc
        rw [List.mem_append, List.mem_singleton] at h
        rcases h with h | h
        · have := ih q (List.dropLast_subset _ h)
          omega
        · have hl : (runs b n).getLastD (0, 0) ∈ runs b n := by
            rw [List.getLastD_eq_getLast?, List.getLast?_eq_some_getLast hc.1]
            exact List.getLast_mem hc.1
          have := ih _ hl
          rw [h]
          simp only
          omega
      · rw [List.mem_append, List.mem_singleton] at h
        rcases h with h | h
        · have := ih q h
          omega
        · rw [h]
          simp only
          omega
    · have := ih q h
      omega
def manyC (l : List (Int × Int)) : Int := (l.map fun q => q.2 + 1 - q.1).sum
theorem sum_app (l r : List Int) : (l ++ r).sum = l.sum + r.sum := by
  induction l with
  | nil => simp
  | cons x l ih => rw [List.cons_append, List.sum_cons, List.sum_cons, ih]; omega
theorem many_app (l r : List (Int × Int)) : manyC (l ++ r) = manyC l + manyC r := by
  unfold manyC
  rw [List.map_append, sum_app]
theorem runs_many (b : Nat → Bool) : ∀ n, manyC (runs b n) = ((List.range n).countP b : Nat)
  | 0 => by simp [runs, manyC]
  | n + 1 => by
    have ih := runs_many b n
    rw [List.range_succ, List.countP_append, List.countP_singleton]
    unfold runs
    by_cases h : b n = true
    · rw [if_pos h, if_pos h]
      have : manyC (addRun (runs b n) n) = manyC (runs b n) + 1 := by
        unfold addRun
        split
        · rename_i hc
          have e : runs b n = (runs b n).dropLast ++ [(runs b n).getLastD (0, 0)] := by
            rw [List.getLastD_eq_getLast?, List.getLast?_eq_some_getLast hc.1]
            exact (List.dropLast_concat_getLast hc.1).symm
          rw [many_app]
          conv => rhs; rw [e]
          rw [many_app]
          simp only [manyC, List.map_cons, List.map_nil, List.sum_cons, List.sum_nil]
          omega
        · rw [many_app]
          simp only [manyC, List.map_cons, List.map_nil, List.sum_cons, List.sum_nil]
          omega
      rw [this, ih]
      omega
    · rw [if_neg h, if_neg h, ih]
      rfl
theorem runs_congr {b b' : Nat → Bool} : ∀ n, (∀ i, i < n → b i = b' i) → runs b n = runs b' n
  | 0, _ => rfl
  | n + 1, h => by
    unfold runs
    rw [h n (by omega), runs_congr n fun i hi => h i (by omega)]
/-! the ball -/
def ballN (n : Int) : Nat := (3 * n * (n + 1) + 1).toNat
def ballC (k : Nat) : List (Int × Int) := (List.range k).map fun i : Nat => cellAtC (i : Int)
theorem ball_mem {n : Int} (hn : 0 ≤ n) (c : Int × Int) : c ∈ ballC (ballN n) ↔ reach c.1 c.2 ≤ n := by
  have t0 : 0 ≤ 3 * n * (n + 1) := Int.mul_nonneg (by omega) (by omega)
  unfold ballC ballN
  rw [List.mem_map]
  constructor
  · rintro ⟨i, hi, rfl⟩
    rw [List.mem_range] at hi
    rw [cellAt_reach (by omega)]
    have ⟨g1, g2, g3⟩ := ringOf_is (p := (i : Int)) (by omega)
    by_cases z : ringOf (i : Int) ≤ n
    · exact z
    · have := tri_up (n := n) (m := ringOf (i : Int)) hn (by omega)
      omega
  · intro h
    have ⟨k1, k2, k3⟩ := cell_place c
    refine ⟨(placeC c).toNat, ?_, ?_⟩
    · rw [List.mem_range]
      have ⟨g1, g2, g3⟩ := ringOf_is k2
      rw [k3] at g1 g2
      have := tri_mono g1 h
      omega
    · rw [Int.toNat_of_nonneg k2]
      exact k1
theorem ball_nodup (k : Nat) : (ballC k).Nodup := by
  unfold ballC
  refine List.pairwise_map.mpr (List.Pairwise.imp (fun {i j} h z => ?_) List.nodup_range)
  have h1 := place_cell (p := (i : Int)) (by omega)
  have h2 := place_cell (p := (j : Int)) (by omega)
  rw [z] at h1
  exact h (by omega)
theorem ball_count (m : Mo) (cs : List (Int × Int)) (o : Int × Int) {n : Int} (hn : 0 ≤ n) :
    (List.range (ballN n)).countP (fun i : Nat => (barN (dedC (cs.map (img m))) (img m o) (addP (img m o) (cellAtC (i : Int)))).isNone) = (List.range (ballN n)).countP (fun i : Nat => (barN (dedC cs) o (addP o (cellAtC (i : Int)))).isNone) := by
  have hc : ∀ q : (Int × Int) → Bool, (List.range (ballN n)).countP (fun i : Nat => q (cellAtC (i : Int))) = (ballC (ballN n)).countP q := fun q => by
    unfold ballC
    rw [List.countP_map]
    rfl
  rw [hc fun c => (barN (dedC (cs.map (img m))) (img m o) (addP (img m o) c)).isNone, hc fun c => (barN (dedC cs) o (addP o c)).isNone]
  -- the linear part
  let L : Int × Int → Int × Int := fun c => ((img m (addP o c)).1 - (img m o).1, (img m (addP o c)).2 - (img m o).2)
  have hL : ∀ c, addP (img m o) (L c) = img m (addP o c) := fun c => by
    unfold addP
    refine Prod.ext ?_ ?_ <;> simp only [L, addP] <;> omega
  have hr : ∀ c, reach (L c).1 (L c).2 = reach c.1 c.2 := fun c => by
    have := reach_img m o (addP o c)
    rw [show reach (L c).1 (L c).2 = reach ((img m (addP o c)).1 - (img m o).1) ((img m (addP o c)).2 - (img m o).2) from rfl, this]
    congr 1 <;> (unfold addP; simp only; omega)
  have hinj : ∀ c d, L c = L d → c = d := fun c d h => by
    have e : img m (addP o c) = img m (addP o d) := by rw [← hL c, ← hL d, h]
    have e := img_inj e
    have e1 := congrArg Prod.fst e
    have e2 := congrArg Prod.snd e
    unfold addP at e1 e2
    simp only at e1 e2
    exact Prod.ext (by omega) (by omega)
  have hsub : ∀ c, c ∈ (ballC (ballN n)).map L ↔ c ∈ ballC (ballN n) := fun c => by
    rw [List.mem_map]
    constructor
    · rintro ⟨d, hd, rfl⟩
      rw [ball_mem hn] at hd ⊢
      rw [hr]
      exact hd
    · intro h
      have hs : ∃ d, L d = c := by
        refine ⟨((img (bk m) (addP (img m o) c)).1 - o.1, (img (bk m) (addP (img m o) c)).2 - o.2), ?_⟩
        have e : addP o ((img (bk m) (addP (img m o) c)).1 - o.1, (img (bk m) (addP (img m o) c)).2 - o.2) = img (bk m) (addP (img m o) c) := by
          unfold addP
          refine Prod.ext ?_ ?_ <;> simp only <;> omega
        have e2 := hL ((img (bk m) (addP (img m o) c)).1 - o.1, (img (bk m) (addP (img m o) c)).2 - o.2)
        rw [e, img_bk'] at e2
        have e3 : (img m o).1 + (L ((img (bk m) (addP (img m o) c)).1 - o.1, (img (bk m) (addP (img m o) c)).2 - o.2)).1 = (img m o).1 + c.1 := congrArg Prod.fst e2
        have e4 : (img m o).2 + (L ((img (bk m) (addP (img m o) c)).1 - o.1, (img (bk m) (addP (img m o) c)).2 - o.2)).2 = (img m o).2 + c.2 := congrArg Prod.snd e2
        exact Prod.ext (by omega) (by omega)
      obtain ⟨d, hd⟩ := hs
      refine ⟨d, ?_, hd⟩
      rw [ball_mem hn] at h ⊢
      rw [← hr d, hd]
      exact h
  have hnd : ((ballC (ballN n)).map L).Nodup := List.pairwise_map.mpr (List.Pairwise.imp (fun {a b} h z => h (hinj a b z)) (ball_nodup _))
  have hp := (List.perm_ext_iff_of_nodup hnd (ball_nodup (ballN n))).mpr hsub
  rw [← hp.countP_eq, List.countP_map]
  congr 1
  funext c
  show (barN (dedC (cs.map (img m))) (img m o) (addP (img m o) (L c))).isNone = _
  rw [hL, bar_moved]

section
variable {base : Heap} {mg : Str → Option Value} {K : PySem.W.Frag} {P : Program} {w : World}
abbrev s_is_whole : Stmt := topS 9
theorem sc_is_whole : FnScope ["thing"] ["thing"] (defScope s_is_whole) := ⟨rfl, rfl, rfl, by decide +kernel, rfl, by decide +kernel, by decide +kernel⟩
abbrev s_is_cell : Stmt := topS 10
theorem sc_is_cell : FnScope ["thing"] ["thing"] (defScope s_is_cell) := ⟨rfl, rfl, rfl, by decide +kernel, rfl, by decide +kernel, by decide +kernel⟩
abbrev s_plus : Stmt := topS 11
theorem sc_plus : FnScope ["one", "other", "times"] ["one", "other", "times"] (defScope s_plus) := ⟨rfl, rfl, rfl, by decide +kernel, rfl, by decide +kernel, by decide +kernel⟩
abbrev s_reach : Stmt := topS 12
theorem sc_reach : FnScope ["a", "b"] ["a", "b"] (defScope s_reach) := ⟨rfl, rfl, rfl, by decide +kernel, rfl, by decide +kernel, by decide +kernel⟩
abbrev s_distance : Stmt := topS 13
theorem sc_distance : FnScope ["one", "other"] ["one", "other"] (defScope s_distance) := ⟨rfl, rfl, rfl, by decide +kernel, rfl, by decide +kernel, by decide +kernel⟩
abbrev s_nearest : Stmt := topS 15
theorem sc_nearest : FnScope ["one", "other", "at", "far", "a", "b", "found", "x", "y"] ["one", "other", "at"] (defScope s_nearest) := ⟨rfl, rfl, rfl, by decide +kernel, rfl, by decide +kernel, by decide +kernel⟩
abbrev s_ring_of : Stmt := topS 17
theorem sc_ring_of : FnScope ["place", "low", "high", "half"] ["place"] (defScope s_ring_of) := ⟨rfl, rfl, rfl, by decide +kernel, rfl, by decide +kernel, by decide +kernel⟩
abbrev s_cell_at : Stmt := topS 18
theorem sc_cell_at : FnScope ["place", "size", "side", "rest", "corner"] ["place"] (defScope s_cell_at) := ⟨rfl, rfl, rfl, by decide +kernel, rfl, by decide +kernel, by decide +kernel⟩
abbrev s_law_cell_at : Stmt := topS 28
theorem sc_law_cell_at : FnScope ["_law_script", "_law_k"] ["_law_script", "_law_k"] (defScope s_law_cell_at) := ⟨rfl, rfl, rfl, by decide +kernel, rfl, by decide +kernel, by decide +kernel⟩
abbrev s_law_whole : Stmt := topS 29
theorem sc_law_whole : FnScope ["_law_found"] ["_law_found"] (defScope s_law_whole) := ⟨rfl, rfl, rfl, by decide +kernel, rfl, by decide +kernel, by decide +kernel⟩
abbrev s_law_cell : Stmt := topS 30
theorem sc_law_cell : FnScope ["_law_found"] ["_law_found"] (defScope s_law_cell) := ⟨rfl, rfl, rfl, by decide +kernel, rfl, by decide +kernel, by decide +kernel⟩
abbrev s_law_number_by : Stmt := topS 31
theorem sc_law_number_by : FnScope ["_law_cell_here"] ["_law_cell_here"] (defScope s_law_number_by) := ⟨rfl, rfl, rfl, by decide +kernel, rfl, by decide +kernel, by decide +kernel⟩
abbrev s_law_reach : Stmt := topS 32
theorem sc_law_reach : FnScope ["_law_one", "_law_other", "_law_a", "_law_b"] ["_law_one", "_law_other"] (defScope s_law_reach) := ⟨rfl, rfl, rfl, by decide +kernel, rfl, by decide +kernel, by decide +kernel⟩
abbrev s_law_deed : Stmt := topS 33
theorem sc_law_deed : FnScope ["_law_cell_here", "_law_number"] ["_law_cell_here"] (defScope s_law_deed) := ⟨rfl, rfl, rfl, by decide +kernel, rfl, by decide +kernel, by decide +kernel⟩
abbrev s_law_motion : Stmt := topS 34
theorem sc_law_motion : FnScope ["_law_deed_here"] ["_law_deed_here"] (defScope s_law_motion) := ⟨rfl, rfl, rfl, by decide +kernel, rfl, by decide +kernel, by decide +kernel⟩
abbrev s_law_image : Stmt := topS 35
theorem sc_law_image : FnScope ["_law_spot", "_law_deeds", "_law_deed_here", "_law_k"] ["_law_spot", "_law_deeds"] (defScope s_law_image) := ⟨rfl, rfl, rfl, by decide +kernel, rfl, by decide +kernel, by decide +kernel⟩
abbrev s_law_sorted_once : Stmt := topS 36
theorem sc_law_sorted_once : FnScope ["_law_floor", "_law_shuts", "_law_found", "_law_due_here", "_law_cell_here"] ["_law_floor", "_law_shuts"] (defScope s_law_sorted_once) := ⟨rfl, rfl, rfl, by decide +kernel, rfl, by decide +kernel, by decide +kernel⟩
abbrev s_law_free_at : Stmt := topS 37
theorem sc_law_free_at : FnScope ["_law_one", "_law_other", "_law_at", "_law_shuts", "_law_far", "_law_a", "_law_b", "_law_k", "_law_cell_here", "_law_lack"] ["_law_one", "_law_other", "_law_at", "_law_shuts"] (defScope s_law_free_at) := ⟨rfl, rfl, rfl, by decide +kernel, rfl, by decide +kernel, by decide +kernel⟩
abbrev s_law_seen : Stmt := topS 38
theorem sc_law_seen : FnScope ["_law_one", "_law_other", "_law_shuts", "_law_at"] ["_law_one", "_law_other", "_law_shuts"] (defScope s_law_seen) := ⟨rfl, rfl, rfl, by decide +kernel, rfl, by decide +kernel, by decide +kernel⟩
abbrev s_law_cells : Stmt := topS 39
theorem sc_law_cells : FnScope ["_law_middle", "_law_size", "_law_cells_here", "_law_near", "_law_cell_here", "_law_ahead", "_law_way", "_law_step"] ["_law_middle", "_law_size"] (defScope s_law_cells) := ⟨rfl, rfl, rfl, by decide +kernel, rfl, by decide +kernel, by decide +kernel⟩
abbrev s_law_stretches : Stmt := topS 40
theorem sc_law_stretches : FnScope ["_law_found", "_law_pair"] ["_law_found"] (defScope s_law_stretches) := ⟨rfl, rfl, rfl, by decide +kernel, rfl, by decide +kernel, by decide +kernel⟩
abbrev s_law_due : Stmt := topS 41
theorem sc_law_due : FnScope ["_law_middle", "_law_size", "_law_shuts", "_law_due_here", "_law_cells_here", "_law_place"] ["_law_middle", "_law_size", "_law_shuts"] (defScope s_law_due) := ⟨rfl, rfl, rfl, by decide +kernel, rfl, by decide +kernel, by decide +kernel⟩
abbrev s_law_many : Stmt := topS 42
theorem sc_law_many : FnScope ["_law_stretches_here", "_law_first", "_law_last"] ["_law_stretches_here"] (defScope s_law_many) := ⟨rfl, rfl, rfl, by decide +kernel, rfl, by decide +kernel, by decide +kernel⟩
abbrev s_law_meets : Stmt := topS 43
theorem sc_law_meets : FnScope ["_law_floor", "_law_one", "_law_other", "_law_there", "_law_deeds", "_law_seen_here", "_law_back", "_law_at"] ["_law_floor", "_law_one", "_law_other", "_law_there", "_law_deeds"] (defScope s_law_meets) := ⟨rfl, rfl, rfl, by decide +kernel, rfl, by decide +kernel, by decide +kernel⟩
abbrev s_law_balls : Stmt := topS 44
theorem sc_law_balls : FnScope ["_law_floor", "_law_one", "_law_other", "_law_size", "_law_shuts", "_law_found", "_law_due_here", "_law_middle", "_law_near", "_law_more", "_law_again"] ["_law_floor", "_law_one", "_law_other", "_law_size", "_law_shuts"] (defScope s_law_balls) := ⟨rfl, rfl, rfl, by decide +kernel, rfl, by decide +kernel, by decide +kernel⟩
abbrev s_law : Stmt := topS 45
theorem sc_law : FnScope ["_law_script", "_law_one", "_law_other", "_law_size", "_law_wide", "_law_shuts", "_law_cell_here", "_law_deeds", "_law_k", "_law_motion_here", "_law_deed_here", "_law_floor", "_law_there", "_law_images", "_law_found", "_law_moved", "_law_by", "_law_shifted"] ["_law_script"] (defScope s_law) := ⟨rfl, rfl, rfl, by decide +kernel, rfl, by decide +kernel, by decide +kernel⟩
abbrev s_Floor_init : Stmt := inClass (topS 20) 0
theorem sc_Floor_init : FnScope ["self", "walls", "at", "cell"] ["self", "walls"] (defScope s_Floor_init) := ⟨rfl, rfl, rfl, by decide +kernel, rfl, by decide +kernel, by decide +kernel⟩
abbrev s_Floor_walls : Stmt := inClass (topS 20) 1
theorem sc_Floor_walls : FnScope ["self"] ["self"] (defScope s_Floor_walls) := ⟨rfl, rfl, rfl, by decide +kernel, rfl, by decide +kernel, by decide +kernel⟩
abbrev s_Floor_free : Stmt := inClass (topS 20) 2
theorem sc_Floor_free : FnScope ["self", "cells", "cell"] ["self", "cells"] (defScope s_Floor_free) := ⟨rfl, rfl, rfl, by decide +kernel, rfl, by decide +kernel, by decide +kernel⟩
abbrev s_Floor_barred : Stmt := inClass (topS 20) 3
theorem sc_Floor_barred : FnScope ["self", "one", "other", "at"] ["self", "one", "other"] (defScope s_Floor_barred) := ⟨rfl, rfl, rfl, by decide +kernel, rfl, by decide +kernel, by decide +kernel⟩
abbrev s_Floor_sees : Stmt := inClass (topS 20) 4
theorem sc_Floor_sees : FnScope ["self", "one", "other"] ["self", "one", "other"] (defScope s_Floor_sees) := ⟨rfl, rfl, rfl, by decide +kernel, rfl, by decide +kernel, by decide +kernel⟩
abbrev s_Floor_stretches : Stmt := inClass (topS 20) 6
theorem sc_Floor_stretches : FnScope ["self", "middle", "size", "found", "place", "first"] ["self", "middle", "size"] (defScope s_Floor_stretches) := ⟨rfl, rfl, rfl, by decide +kernel, rfl, by decide +kernel, by decide +kernel⟩
abbrev s_Floor_moved : Stmt := inClass (topS 20) 7
theorem sc_Floor_moved : FnScope ["self", "motion", "cell"] ["self", "motion"] (defScope s_Floor_moved) := ⟨rfl, rfl, rfl, by decide +kernel, rfl, by decide +kernel, by decide +kernel⟩
abbrev s_Motion_image : Stmt := inClass (topS 22) 0
theorem sc_Motion_image : FnScope ["self", "cell"] ["self", "cell"] (defScope s_Motion_image) := ⟨rfl, rfl, rfl, by decide +kernel, rfl, by decide +kernel, by decide +kernel⟩
abbrev s_Motion_back : Stmt := inClass (topS 22) 1
theorem sc_Motion_back : FnScope ["self"] ["self"] (defScope s_Motion_back) := ⟨rfl, rfl, rfl, by decide +kernel, rfl, by decide +kernel, by decide +kernel⟩
abbrev s_Turn_init : Stmt := inClass (topS 23) 0
theorem sc_Turn_init : FnScope ["self", "times"] ["self", "times"] (defScope s_Turn_init) := ⟨rfl, rfl, rfl, by decide +kernel, rfl, by decide +kernel, by decide +kernel⟩
abbrev s_Turn_image : Stmt := inClass (topS 23) 1
theorem sc_Turn_image : FnScope ["self", "cell", "done"] ["self", "cell"] (defScope s_Turn_image) := ⟨rfl, rfl, rfl, by decide +kernel, rfl, by decide +kernel, by decide +kernel⟩
abbrev s_Turn_back : Stmt := inClass (topS 23) 2
theorem sc_Turn_back : FnScope ["self"] ["self"] (defScope s_Turn_back) := ⟨rfl, rfl, rfl, by decide +kernel, rfl, by decide +kernel, by decide +kernel⟩
abbrev s_Mirror_image : Stmt := inClass (topS 24) 0
theorem sc_Mirror_image : FnScope ["self", "cell"] ["self", "cell"] (defScope s_Mirror_image) := ⟨rfl, rfl, rfl, by decide +kernel, rfl, by decide +kernel, by decide +kernel⟩
abbrev s_Mirror_back : Stmt := inClass (topS 24) 1
theorem sc_Mirror_back : FnScope ["self"] ["self"] (defScope s_Mirror_back) := ⟨rfl, rfl, rfl, by decide +kernel, rfl, by decide +kernel, by decide +kernel⟩
abbrev s_Shift_init : Stmt := inClass (topS 25) 0
theorem sc_Shift_init : FnScope ["self", "by"] ["self", "by"] (defScope s_Shift_init) := ⟨rfl, rfl, rfl, by decide +kernel, rfl, by decide +kernel, by decide +kernel⟩
abbrev s_Shift_image : Stmt := inClass (topS 25) 1
theorem sc_Shift_image : FnScope ["self", "cell"] ["self", "cell"] (defScope s_Shift_image) := ⟨rfl, rfl, rfl, by decide +kernel, rfl, by decide +kernel, by decide +kernel⟩
abbrev s_Shift_back : Stmt := inClass (topS 25) 2
theorem sc_Shift_back : FnScope ["self"] ["self"] (defScope s_Shift_back) := ⟨rfl, rfl, rfl, by decide +kernel, rfl, by decide +kernel, by decide +kernel⟩
abbrev s_Chain_init : Stmt := inClass (topS 26) 0
theorem sc_Chain_init : FnScope ["self", "motions"] ["self", "motions"] (defScope s_Chain_init) := ⟨rfl, rfl, rfl, by decide +kernel, rfl, by decide +kernel, by decide +kernel⟩
abbrev s_Chain_image : Stmt := inClass (topS 26) 1
theorem sc_Chain_image : FnScope ["self", "cell", "one"] ["self", "cell"] (defScope s_Chain_image) := ⟨rfl, rfl, rfl, by decide +kernel, rfl, by decide +kernel, by decide +kernel⟩
abbrev s_Chain_back : Stmt := inClass (topS 26) 2
theorem sc_Chain_back : FnScope ["self", "one"] ["self"] (defScope s_Chain_back) := ⟨rfl, rfl, rfl, by decide +kernel, rfl, by decide +kernel, by decide +kernel⟩
structure Txt (K : PySem.W.Frag) (mg : Str → Option Value) : Prop where
  f_is_whole : DefT K mg "is_whole" s_is_whole ["thing"]
  f_is_cell : DefT K mg "is_cell" s_is_cell ["thing"]
  f_plus : DefD K mg "plus" s_plus ["one", "other", "times"] (.int 1)
  f_reach : DefT K mg "reach" s_reach ["a", "b"]
  f_distance : DefT K mg "distance" s_distance ["one", "other"]
  f_nearest : DefT K mg "nearest" s_nearest ["one", "other", "at"]
  f_ring_of : DefT K mg "ring_of" s_ring_of ["place"]
  f_cell_at : DefT K mg "cell_at" s_cell_at ["place"]
  f_law_cell_at : DefT K mg "_law_cell_at" s_law_cell_at ["_law_script", "_law_k"]
  f_law_whole : DefT K mg "_law_whole" s_law_whole ["_law_found"]
  f_law_cell : DefT K mg "_law_cell" s_law_cell ["_law_found"]
  f_law_number_by : DefT K mg "_law_number_by" s_law_number_by ["_law_cell_here"]
  f_law_reach : DefT K mg "_law_reach" s_law_reach ["_law_one", "_law_other"]
  f_law_deed : DefT K mg "_law_deed" s_law_deed ["_law_cell_here"]
  f_law_motion : DefT K mg "_law_motion" s_law_motion ["_law_deed_here"]
  f_law_image : DefT K mg "_law_image" s_law_image ["_law_spot", "_law_deeds"]
  f_law_sorted_once : DefT K mg "_law_sorted_once" s_law_sorted_once ["_law_floor", "_law_shuts"]
  f_law_free_at : DefT K mg "_law_free_at" s_law_free_at ["_law_one", "_law_other", "_law_at", "_law_shuts"]
  f_law_seen : DefT K mg "_law_seen" s_law_seen ["_law_one", "_law_other", "_law_shuts"]
  f_law_cells : DefT K mg "_law_cells" s_law_cells ["_law_middle", "_law_size"]
  f_law_stretches : DefT K mg "_law_stretches" s_law_stretches ["_law_found"]
  f_law_due : DefT K mg "_law_due" s_law_due ["_law_middle", "_law_size", "_law_shuts"]
  f_law_many : DefT K mg "_law_many" s_law_many ["_law_stretches_here"]
  f_law_meets : DefT K mg "_law_meets" s_law_meets ["_law_floor", "_law_one", "_law_other", "_law_there", "_law_deeds"]
  f_law_balls : DefT K mg "_law_balls" s_law_balls ["_law_floor", "_law_one", "_law_other", "_law_size", "_law_shuts"]
  f_law : DefT K mg "law" s_law ["_law_script"]
  k_Floor : ClsT K mg "Floor"
  n_Floor : IniT K mg "Floor" "Floor.__init__" s_Floor_init ["self", "walls"]
  m_Floor_walls : MetT K mg "Floor" "walls" "Floor.walls" s_Floor_walls ["self"]
  m_Floor_free : MetT K mg "Floor" "free" "Floor.free" s_Floor_free ["self", "cells"]
  m_Floor_barred : MetT K mg "Floor" "barred" "Floor.barred" s_Floor_barred ["self", "one", "other"]
  m_Floor_sees : MetT K mg "Floor" "sees" "Floor.sees" s_Floor_sees ["self", "one", "other"]
  m_Floor_stretches : MetT K mg "Floor" "stretches" "Floor.stretches" s_Floor_stretches ["self", "middle", "size"]
  m_Floor_moved : MetT K mg "Floor" "moved" "Floor.moved" s_Floor_moved ["self", "motion"]
  t_Floor_kept : NoA K mg "Floor" "kept"
  k_Motion : ClsT K mg "Motion"
  b_Motion : Mk0 K mg "Motion"
  m_Motion_image : MetT K mg "Motion" "image" "Motion.image" s_Motion_image ["self", "cell"]
  m_Motion_back : MetT K mg "Motion" "back" "Motion.back" s_Motion_back ["self"]
  k_Turn : ClsT K mg "Turn"
  n_Turn : IniD K mg "Turn" "Turn.__init__" s_Turn_init ["self", "times"] (.int 1)
  m_Turn_image : MetT K mg "Turn" "image" "Turn.image" s_Turn_image ["self", "cell"]
  m_Turn_back : MetT K mg "Turn" "back" "Turn.back" s_Turn_back ["self"]
  t_Turn_times : NoA K mg "Turn" "times"
  k_Mirror : ClsT K mg "Mirror"
  b_Mirror : Mk0 K mg "Mirror"
  m_Mirror_image : MetT K mg "Mirror" "image" "Mirror.image" s_Mirror_image ["self", "cell"]
  m_Mirror_back : MetT K mg "Mirror" "back" "Mirror.back" s_Mirror_back ["self"]
  k_Shift : ClsT K mg "Shift"
  n_Shift : IniT K mg "Shift" "Shift.__init__" s_Shift_init ["self", "by"]
  m_Shift_image : MetT K mg "Shift" "image" "Shift.image" s_Shift_image ["self", "cell"]
  m_Shift_back : MetT K mg "Shift" "back" "Shift.back" s_Shift_back ["self"]
  t_Shift_by : NoA K mg "Shift" "by"
  k_Chain : ClsT K mg "Chain"
  n_Chain : IniT K mg "Chain" "Chain.__init__" s_Chain_init ["self", "motions"]
  m_Chain_image : MetT K mg "Chain" "image" "Chain.image" s_Chain_image ["self", "cell"]
  m_Chain_back : MetT K mg "Chain" "back" "Chain.back" s_Chain_back ["self"]
  t_Chain_parts : NoA K mg "Chain" "parts"
  is_Floor_Floor : IsT K mg "Floor" "Floor"
  h_WAYS : ∃ a, mg "WAYS" = some (.ref a) ∧ ∀ G, Dv K G (.ref a) waysD
  g_abs : mg "abs" = none
  g_bool : mg "bool" = none
  g_divmod : mg "divmod" = none
  g_enumerate : mg "enumerate" = none
  g_int : mg "int" = none
  g_isinstance : mg "isinstance" = none
  g_len : mg "len" = none
  g_list : mg "list" = none
  g_max : mg "max" = none
  g_range : mg "range" = none
  g_reversed : mg "reversed" = none
  g_sorted : mg "sorted" = none
  g_sum : mg "sum" = none
  g_tuple : mg "tuple" = none
def R_is_whole (ds : List D) (r : Res) : Prop := ∃ i, ds = [.int i] ∧ r = .val (.bl true)
theorem r_is_whole {i : Int} : R_is_whole [.int i] (.val (.bl true)) := ⟨i, rfl, rfl⟩
theorem cal_is_whole (T : Txt K mg) : Cal P w K mg base 1 "is_whole" R_is_whole := by
  refine cal_D T.f_is_whole sc_is_whole (fun ds r ⟨_, e, _⟩ => by rw [e]; rfl) fun Z hr ds r ⟨i, e, e2⟩ => ?_
  subst e e2
  refine ss_ret (e_and (e_isi T.g_isinstance T.g_int (e_wk (e_v 0)) rfl kb_int_int) (fun _ => (e_one (e_not (e_isi T.g_isinstance T.g_bool (e_wk (e_v 0)) rfl kb_int_bool))))) ?_
  rfl

def R_is_cell (ds : List D) (r : Res) : Prop := ∃ a b, ds = [cell a b] ∧ r = .val (.bl true)
theorem r_is_cell {a b : Int} : R_is_cell [cell a b] (.val (.bl true)) := ⟨a, b, rfl, rfl⟩
theorem cal_is_cell (T : Txt K mg) : Cal P w K mg base 2 "is_cell" R_is_cell := by
  refine cal_D T.f_is_cell sc_is_cell (fun ds r ⟨_, _, e, _⟩ => by rw [e]; rfl) fun Z hr ds r ⟨a, b, e, e2⟩ => ?_
  subst e e2
  refine ss_skip (t_w (w_or (t_not (t_val (e_isi T.g_isinstance T.g_tuple (e_wk (e_v 0)) rfl kb_tup_tup))) (fun _ => (w_or1 (t_cmp (c_neI (e_len T.g_len (aw_cons (e_wk (e_v 0)) aw_nil)) e_int)))))) rfl ?_
  exact ss_ret (e_and (e_call (cal_is_whole T) (hr.mono (by decide)) (a_cons (e_ix (e_v 0) e_int (by rfl)) a_nil) r_is_whole) (fun _ => (e_one (e_call (cal_is_whole T) (hr.mono (by decide)) (a_cons (e_ix (e_v 0) e_int (by rfl)) a_nil) r_is_whole)))) rfl

def isCell (o : D) (c d : Int) : Prop := o = cell c d ∨ o = .ktup [.int c, .int d]
def R_plus (ds : List D) (r : Res) : Prop := ∃ a b c d t o, ds = [cell a b, o, .int t] ∧ isCell o c d ∧ MulOk t c ∧ MulOk t d ∧ r = .val (cell (a + t * c) (b + t * d))
theorem r_plus {a b c d t : Int} (h1 : MulOk t c) (h2 : MulOk t d) : R_plus [cell a b, cell c d, .int t] (.val (cell (a + t * c) (b + t * d))) := ⟨a, b, c, d, t, _, rfl, .inl rfl, h1, h2, rfl⟩
theorem r_plusK {a b c d t : Int} (h1 : MulOk t c) (h2 : MulOk t d) : R_plus [cell a b, .ktup [.int c, .int d], .int t] (.val (cell (a + t * c) (b + t * d))) := ⟨a, b, c, d, t, _, rfl, .inr rfl, h1, h2, rfl⟩
def R_plus1 (ds : List D) (r : Res) : Prop := ∃ a b c d o, ds = [cell a b, o] ∧ isCell o c d ∧ r = .val (cell (a + c) (b + d))
theorem r_plus1 {a b c d : Int} : R_plus1 [cell a b, cell c d] (.val (cell (a + c) (b + d))) := ⟨a, b, c, d, _, rfl, .inl rfl, rfl⟩
theorem r_plus1K {a b c d : Int} : R_plus1 [cell a b, .ktup [.int c, .int d]] (.val (cell (a + c) (b + d))) := ⟨a, b, c, d, _, rfl, .inr rfl, rfl⟩
theorem body_plus (T : Txt K mg) (Z : Site) (ds : List D) (r : Res) (h : R_plus ds r) : Ss (bx P w K mg base ["one", "other", "times"] "plus" (defScope s_plus) Z) (defBody s_plus) (startD 3 ds) (FnEnd r) := by
  obtain ⟨a, b, c, d, t, o, e, ho, m1, m2, e2⟩ := h
  subst e e2
  rcases ho with rfl | rfl
  · refine ss_ret (e_tup (a_cons (e_add (e_ix (e_v 0) e_int (by rfl)) (e_mulO (e_v 2) (e_ix (e_v 1) e_int (by rfl)) m1)) (a_cons (e_add (e_ix (e_v 0) e_int (by rfl)) (e_mulO (e_v 2) (e_ix (e_v 1) e_int (by rfl)) m2)) a_nil))) ?_
    rfl
  · refine ss_ret (e_tup (a_cons (e_add (e_ix (e_v 0) e_int (by rfl)) (e_mulO (e_v 2) (e_ix (e_v 1) e_int (by rfl)) m1)) (a_cons (e_add (e_ix (e_v 0) e_int (by rfl)) (e_mulO (e_v 2) (e_ix (e_v 1) e_int (by rfl)) m2)) a_nil))) ?_
    rfl
theorem cal_plus (T : Txt K mg) : Cal P w K mg base 1 "plus" R_plus :=
  cal_DD T.f_plus sc_plus (fun ds r ⟨_, _, _, _, _, _, e, _⟩ => by rw [e]; rfl) fun Z hr ds r h => body_plus T Z ds r h
theorem cal_plus1 (T : Txt K mg) : Cal P w K mg base 1 "plus" R_plus1 := by
  have C : Cal P w K mg base 1 "plus" (fun ds r => R_plus (ds ++ [.int 1]) r) := cal_DD1 (fun G => .int 1) T.f_plus sc_plus (fun ds r ⟨_, _, _, _, _, _, e, _⟩ => by rw [e]; rfl) fun Z hr ds r h => body_plus T Z ds r h
  obtain ⟨f, fd, ps, dvs, us, dd, R0, h1, h2, h3, h4, h5, h6, h7⟩ := C.ex
  refine ⟨f, fd, ps, dvs, us, dd, R0, h1, h2, h3, h4, h5, h6, fun ds r ⟨a, b, c, d, o, e, ho, e2⟩ => h7 ds r ⟨a, b, c, d, 1, o, by rw [e]; rfl, ho, mulOk_l (by decide), mulOk_l (by decide), ?_⟩⟩
  rw [e2, Int.one_mul, Int.one_mul]

def R_reach (ds : List D) (r : Res) : Prop := ∃ a b, ds = [.int a, .int b] ∧ r = .val (.int (reach a b))
theorem r_reach {a b : Int} : R_reach [.int a, .int b] (.val (.int (reach a b))) := ⟨a, b, rfl, rfl⟩
theorem cal_reach (T : Txt K mg) : Cal P w K mg base 1 "reach" R_reach := by
  refine cal_D T.f_reach sc_reach (fun ds r ⟨_, _, e, _⟩ => by rw [e]; rfl) fun Z hr ds r ⟨a, b, e, e2⟩ => ?_
  subst e e2
  refine ss_ret (e_max3 T.g_max rfl (a_cons (e_abs T.g_abs (a_cons (e_v 0) a_nil)) (a_cons (e_abs T.g_abs (a_cons (e_v 1) a_nil)) (a_cons (e_abs T.g_abs (a_cons (e_add (e_v 0) (e_v 1)) a_nil)) a_nil)))) ?_
  rfl

def R_distance (ds : List D) (r : Res) : Prop := ∃ a b c d, ds = [cell a b, cell c d] ∧ r = .val (.int (reach (c - a) (d - b)))
theorem r_distance {a b c d : Int} : R_distance [cell a b, cell c d] (.val (.int (reach (c - a) (d - b)))) := ⟨a, b, c, d, rfl, rfl⟩
theorem cal_distance (T : Txt K mg) : Cal P w K mg base 2 "distance" R_distance := by
  refine cal_D T.f_distance sc_distance (fun ds r ⟨_, _, _, _, e, _⟩ => by rw [e]; rfl) fun Z hr ds r ⟨a, b, c, d, e, e2⟩ => ?_
  subst e e2
  refine ss_ret (e_call (cal_reach T) hr (a_cons (e_sub (e_ix (e_v 1) e_int (by rfl)) (e_ix (e_v 0) e_int (by rfl))) (a_cons (e_sub (e_ix (e_v 1) e_int (by rfl)) (e_ix (e_v 0) e_int (by rfl))) a_nil)) r_reach) ?_
  rfl

/-- numbers that the rules take -/
def Bd (x : Int) : Prop := x.natAbs ≤ 10 ^ 100
theorem mul_bd {i j : Int} {A B : Nat} (hi : i.natAbs ≤ A) (hj : j.natAbs ≤ B) : (i * j).natAbs ≤ A * B := by
  rw [Int.natAbs_mul]
  exact Nat.mul_le_mul hi hj
theorem bd_far {a b c d : Int} (ha : Bd a) (hb : Bd b) (hc : Bd c) (hd : Bd d) : (reach (c - a) (d - b)).natAbs ≤ 4 * 10 ^ 100 := by
  unfold Bd at *
  have h := reach_cases (c - a) (d - b)
  omega
theorem bd_pt {a c f k : Int} (ha : Bd a) (hc : Bd c) (hf : f.natAbs ≤ 4 * 10 ^ 100) (hk0 : 0 ≤ k) (hk : k ≤ f) : (a * f + k * (c - a)).natAbs ≤ 10 ^ 202 := by
  unfold Bd at *
  have h1 := mul_bd ha hf
  have h2 : (k * (c - a)).natAbs ≤ (4 * 10 ^ 100) * (2 * 10 ^ 100) := mul_bd (by omega) (by omega)
  omega
theorem bd_quot {a f : Int} (ha : a.natAbs ≤ 10 ^ 202) (hf : 0 < f) : (a / f).natAbs ≤ 10 ^ 202 := by
  have h := Int.natAbs_ediv_le_natAbs a f
  omega
def R_nearest (ds : List D) (r : Res) : Prop := ∃ a b c d k, ds = [cell a b, cell c d, .int k] ∧ Bd a ∧ Bd b ∧ Bd c ∧ Bd d ∧ 0 ≤ k ∧ k ≤ farOf (a, b) (c, d) ∧ r = .new (cellsD (nearC (a, b) (c, d) k))
theorem r_nearest {a b c d k : Int} (ha : Bd a) (hb : Bd b) (hc : Bd c) (hd : Bd d) (h0 : 0 ≤ k) (h1 : k ≤ farOf (a, b) (c, d)) : R_nearest [cell a b, cell c d, .int k] (.new (cellsD (nearC (a, b) (c, d) k))) := ⟨a, b, c, d, k, rfl, ha, hb, hc, hd, h0, h1, rfl⟩
theorem cands_take (a b f : Int) (i j : Nat) (hi : i < 2) (hj : j < 2) : (cands a b f).take (2 * i + j + 1) = (cands a b f).take (2 * i + j) ++ [(a / f + i, b / f + j)] := by
  have h1 : i = 0 ∨ i = 1 := by omega
  have h2 : j = 0 ∨ j = 1 := by omega
  rcases h1 with rfl | rfl <;> rcases h2 with rfl | rfl <;> simp [cands]
theorem cal_nearest (T : Txt K mg) : Cal P w K mg base 3 "nearest" R_nearest := by
  refine cal_D T.f_nearest sc_nearest (fun ds r ⟨_, _, _, _, _, e, _⟩ => by rw [e]; rfl) fun Z hr ds r ⟨a, b, c, d, k, e, ha, hb, hc, hd, h0, h1, e2⟩ => ?_
  subst e e2
  have nd := sc_nearest.nd
  refine ss_set 3 nd (e_call (cal_distance T) (hr.mono (by decide)) (a_cons (e_v 0) (a_cons (e_v 1) a_nil)) r_distance) ?_
  have bF := bd_far ha hb hc hd
  have eF : farOf (a, b) (c, d) = reach (c - a) (d - b) := rfl
  have nn := reach_nn (c - a) (d - b)
  rw [eF] at h1
  unfold nearC
  rw [eF]
  generalize reach (c - a) (d - b) = f at *
  refine ss_skip (t_w (w_or (t_not (t_val (e_call (cal_is_whole T) (hr.mono (by decide)) (a_cons (e_v 2) a_nil) r_is_whole))) (fun _ => (w_or (t_cmp (c_lt (e_v 2) e_int)) (fun _ => (w_or1 (t_cmp (c_gt (e_v 2) (e_v 3))))))))) ?_ ?_
  · simp
    omega
  refine ss_when (t_cmp (c_eqI (e_v 3) e_int)) (fun h => ?_) (fun h => ?_)
  · rw [if_pos (of_decide_eq_true h)]
    refine ss_ret (e_lst (a_cons (e_v 0) a_nil)) ?_
    rfl
  have hf : f ≠ 0 := of_decide_eq_false h
  have hf0 : 0 < f := by omega
  rw [if_neg hf]
  have bA := bd_pt (c := c) ha hc bF h0 h1
  have bB := bd_pt (c := d) hb hd bF h0 h1
  unfold Bd at ha hb hc hd
  refine ss_set 4 nd (e_add (e_mulO (e_ix (e_v 0) e_int (by rfl)) (e_v 3) (mulOk_of (by omega) (by omega))) (e_mulO (e_v 2) (e_sub (e_ix (e_v 1) e_int (by rfl)) (e_ix (e_v 0) e_int (by rfl))) (mulOk_of (by omega) (by omega)))) ?_
  refine ss_set 5 nd (e_add (e_mulO (e_ix (e_v 0) e_int (by rfl)) (e_v 3) (mulOk_of (by omega) (by omega))) (e_mulO (e_v 2) (e_sub (e_ix (e_v 1) e_int (by rfl)) (e_ix (e_v 0) e_int (by rfl))) (mulOk_of (by omega) (by omega)))) ?_
  refine ss_setN 6 nd (e_lst a_nil) ?_
  have eA : ptA (a, b) (c, d) k f = a * f + k * (c - a) := rfl
  have eB : ptB (a, b) (c, d) k f = b * f + k * (d - b) := rfl
  rw [eA, eB]
  generalize a * f + k * (c - a) = A at *
  generalize b * f + k * (d - b) = B at *
  have qA := bd_quot bA hf0
  have qB := bd_quot bB hf0
  have dv : CDivW A f := divOk_of hf0 (by omega)
  have dvB : CDivW B f := divOk_of hf0 (by omega)
  refine ss_for rfl rfl (sr_range2 T.g_range (a_cons (e_fdiv (e_v 4) (e_v 3) dv) (a_cons (e_add (e_fdiv (e_v 4) (e_v 3) dv) e_int) a_nil))) (fun i δ => ∃ s t, δ = [.val (cell a b), .val (cell c d), .val (.int k), .val (.int f), .val (.int A), .val (.int B), .own (cellsD (((cands A B f).take (2 * i)).filter (nearOk A B f))), s, t]) ⟨.any, .any, rfl⟩ ?_ ?_
  · rintro i δ hi ⟨s, t, rfl⟩
    have hi : i < 2 := by omega
    refine ⟨_, g_nm 7 nd, ?_⟩
    refine ss_for rfl rfl (sr_range2 T.g_range (a_cons (e_fdiv (e_v 5) (e_v 3) dvB) (a_cons (e_add (e_fdiv (e_v 5) (e_v 3) dvB) e_int) a_nil))) (fun j δ => ∃ t, δ = [.val (cell a b), .val (cell c d), .val (.int k), .val (.int f), .val (.int A), .val (.int B), .own (cellsD (((cands A B f).take (2 * i + j)).filter (nearOk A B f))), .val (.int (A / f + i)), t]) ⟨t, rfl⟩ ?_ ?_
    · rintro j δ hj ⟨t, rfl⟩
      have hj : j < 2 := by omega
      refine ⟨_, g_nm 8 nd, ?_⟩
      have hz : (cellsD (((cands A B f).take (2 * i + j)).filter (nearOk A B f))).length < sizeLine := by
        refine small_ln ?_
        rw [List.length_map]
        exact Nat.le_trans (List.length_filter_le _ _) (Nat.le_trans (List.length_take_le _ _) (by omega))
      have ct := cands_take A B f i j hi hj
      refine ss_when (t_cmp (c_le (e_mul e_int (e_call (cal_reach T) (hr.mono (by decide)) (a_cons (e_sub (e_v 4) (e_mulO (e_v 7) (e_v 3) (mulOk_of (by omega) (by omega)))) (a_cons (e_sub (e_v 5) (e_mulO (e_v 8) (e_v 3) (mulOk_of (by omega) (by omega)))) a_nil)) r_reach) (.inl (by decide))) (e_v 3))) (fun h => ?_) (fun h => ?_)
      · refine ss_app 6 (e_tup (a_cons (e_v 7) (a_cons (e_v 8) a_nil))) ?_ hz
        refine ss_nil (ss_nil ⟨.val (.int (B / f + j)), ?_⟩)
        have q : nearOk A B f (A / f + i, B / f + j) = true := h
        rw [Nat.add_assoc] at ct
        rw [ct, List.filter_append, List.filter_cons, if_pos q, cellsD_app]
        rfl
      · refine ss_nil ⟨.val (.int (B / f + j)), ?_⟩
        have q : nearOk A B f (A / f + i, B / f + j) = false := h
        rw [Nat.add_assoc] at ct
        rw [ct, List.filter_append, List.filter_cons, if_neg (by rw [q]; decide), List.filter_nil, List.append_nil]
        rfl
    · rintro δ ⟨t, rfl⟩
      refine ss_nil ⟨.val (.int (A / f + i)), t, ?_⟩
      have e2 : 2 * i + (B / f + 2 - B / f).toNat = 2 * (i + 1) := by omega
      rw [e2]
  · rintro δ ⟨s, t, rfl⟩
    refine ss_retO 6 ?_
    have e2 : 2 * (A / f + 2 - A / f).toNat = 4 := by omega
    rw [e2]
    rfl

def PlOk (p : Int) : Prop := 0 ≤ p ∧ p ≤ 10 ^ 140
def R_ring_of (ds : List D) (r : Res) : Prop := ∃ p, ds = [.int p] ∧ PlOk p ∧ r = .val (.int (ringOf p))
theorem r_ring_of {p : Int} (h : PlOk p) : R_ring_of [.int p] (.val (.int (ringOf p))) := ⟨p, rfl, h, rfl⟩
theorem cal_ring_of (T : Txt K mg) : Cal P w K mg base 1 "ring_of" R_ring_of := by
  refine cal_D T.f_ring_of sc_ring_of (fun ds r ⟨_, e, _⟩ => by rw [e]; rfl) fun Z hr ds r ⟨p, e, ⟨h0, h1⟩, e2⟩ => ?_
  subst e e2
  have nd := sc_ring_of.nd
  refine ss_set 1 nd e_int ?_
  refine ss_set 2 nd e_int ?_
  refine ss_while rfl (fun m δ => ∃ h : Int, δ = [.val (.int p), .val (.int 0), .val (.int h), .any] ∧ 1 ≤ h ∧ h ≤ 2 * p + 1 ∧ m = (p - h).toNat) (p - 1).toNat ⟨1, rfl, by omega, by omega, rfl⟩ ?_
  rintro m δ ⟨h, rfl, g1, g2, rfl⟩
  refine ⟨_, t_cmp (c_lt (e_mulO (e_mul e_int (e_v 2) (.inl (by decide))) (e_add (e_v 2) e_int) (mulOk_of (by omega) (by omega))) (e_v 0)), fun k => ?_, fun k => ?_⟩
  · have k : 3 * h * (h + 1) < p := of_decide_eq_true k
    have kk : 0 ≤ h * (3 * h + 2) := Int.mul_nonneg (by omega) (by omega)
    have k2 : h < p := by grind
    refine ss_set 2 nd (e_mul e_int (e_v 2) (.inl (by decide))) ?_
    exact ss_nil ⟨(p - 2 * h).toNat, by omega, 2 * h, rfl, by omega, by omega, rfl⟩
  have k : ¬ 3 * h * (h + 1) < p := of_decide_eq_false k
  refine ss_while rfl (fun m δ => ∃ (l u : Int) (x : Hold), δ = [.val (.int p), .val (.int l), .val (.int u), x] ∧ 0 ≤ l ∧ l ≤ u ∧ u ≤ 2 * p + 1 ∧ p ≤ 3 * u * (u + 1) ∧ (l = 0 ∨ 3 * l * (l - 1) < p) ∧ m = (u - l).toNat) (h - 0).toNat ⟨0, h, .any, rfl, by omega, by omega, by omega, by omega, .inl rfl, rfl⟩ ?_
  rintro m δ ⟨l, u, x, rfl, g3, g4, g5, g6, g7, rfl⟩
  refine ⟨_, t_cmp (c_lt (e_v 1) (e_v 2)), fun k => ?_, fun k => ?_⟩
  · have k : l < u := of_decide_eq_true k
    refine ss_set 3 nd (e_fdiv (e_add (e_v 1) (e_v 2)) e_int (divL rfl)) ?_
    show Ss _ _ [.val (.int p), .val (.int l), .val (.int u), .val (.int ((l + u) / 2))] _
    have q1 : l ≤ (l + u) / 2 := by omega
    have q2 : (l + u) / 2 < u := by omega
    generalize (l + u) / 2 = q at *
    refine ss_if (t_cmp (c_lt (e_mulO (e_mul e_int (e_v 3) (.inl (by decide))) (e_add (e_v 3) e_int) (mulOk_of (by omega) (by omega))) (e_v 0))) (fun k => ?_) (fun k => ?_)
    · have k : 3 * q * (q + 1) < p := of_decide_eq_true k
      refine ss_set 1 nd (e_add (e_v 3) e_int) ?_
      have e : 3 * (q + 1) * (q + 1 - 1) = 3 * q * (q + 1) := by grind
      exact ss_nil (ss_nil ⟨(u - (q + 1)).toNat, by omega, q + 1, u, _, rfl, by omega, by omega, by omega, g6, .inr (by omega), rfl⟩)
    · have k : ¬ 3 * q * (q + 1) < p := of_decide_eq_false k
      refine ss_set 2 nd (e_v 3) ?_
      exact ss_nil (ss_nil ⟨(q - l).toNat, by omega, l, q, _, rfl, by omega, by omega, by omega, by omega, g7, rfl⟩)
  have k : ¬ l < u := of_decide_eq_false k
  have e : l = u := by omega
  subst e
  rw [ringOf_eq h0 ⟨g3, g6, g7⟩]
  exact ss_ret (e_v 1) rfl

theorem way_bd (k : Int) : (-(2 ^ 64) < wayA k ∧ wayA k < 2 ^ 64) ∧ (-(2 ^ 64) < wayB k ∧ wayB k < 2 ^ 64) := by
  unfold wayA wayB
  constructor
  · repeat' split
    all_goals decide
  · repeat' split
    all_goals decide
theorem divp_of {i j : Int} (hj : 0 < j) (hi : i.natAbs ≤ 10 ^ 250) : CDivP i j := divp_ok hj (by
  have b := PyProof.Rows.intBits_le (k := 900) (Nat.lt_of_le_of_lt hi (by decide))
  omega)
theorem mod6 (k : Int) : 0 ≤ k % 6 ∧ k % 6 < 6 := by omega
def R_cell_at (ds : List D) (r : Res) : Prop := ∃ p, ds = [.int p] ∧ PlOk p ∧ r = .val (cellP (cellAtC p))
theorem r_cell_at {p : Int} (h : PlOk p) : R_cell_at [.int p] (.val (cellP (cellAtC p))) := ⟨p, rfl, h, rfl⟩
theorem cal_cell_at (T : Txt K mg) : Cal P w K mg base 2 "cell_at" R_cell_at := by
  refine cal_D T.f_cell_at sc_cell_at (fun ds r ⟨_, e, _⟩ => by rw [e]; rfl) fun Z hr ds r ⟨p, e, hp, e2⟩ => ?_
  subst e e2
  have nd := sc_cell_at.nd
  have h0 := hp.1
  have h1 := hp.2
  refine ss_skip (t_w (w_or (t_not (t_val (e_call (cal_is_whole T) (hr.mono (by decide)) (a_cons (e_v 0) a_nil) r_is_whole))) (fun _ => (w_or1 (t_cmp (c_lt (e_v 0) e_int)))))) ?_ ?_
  · simp
    omega
  unfold cellAtC
  refine ss_when (t_cmp (c_eqI (e_v 0) e_int)) (fun h => ?_) (fun h => ?_)
  · have h : p = 0 := of_decide_eq_true h
    rw [if_pos h]
    exact ss_ret (e_tup (a_cons e_int (a_cons e_int a_nil))) rfl
  have h : p ≠ 0 := of_decide_eq_false h
  rw [if_neg h]
  have ⟨d1, d2, d3⟩ := place_d (p := p) (by omega)
  have dl := ringOf_le h0
  refine ss_set 1 nd (e_call (cal_ring_of T) (hr.mono (by decide)) (a_cons (e_v 0) a_nil) (r_ring_of hp)) ?_
  generalize ringOf p = n at *
  refine ss_asg (e_divmod T.g_divmod (a_cons (e_sub (e_v 0) (e_mulO (e_mul e_int (e_v 1) (.inl (by decide))) (e_sub (e_v 1) e_int) (mulOk_of (by omega) (by omega)))) (a_cons (e_v 1) a_nil)) (divp_of (by omega) (by omega))) (g_tup rfl (gs_cons (g_nm 2 nd) (gs_cons (g_nm 3 nd) gs_nil))) ?_
  show Ss _ _ [.val (.int p), .val (.int n), .val (.int ((p - 3 * n * (n - 1)) / n)), .val (.int ((p - 3 * n * (n - 1)) % n)), .any] _
  unfold ringC cellS wA wB
  generalize (p - 3 * n * (n - 1)) / n = s
  generalize (p - 3 * n * (n - 1)) % n = t
  have m5 := mod6 (s + 5)
  have m1 := mod6 (s + 1)
  refine ss_set 4 nd (e_call (cal_plus T) (hr.mono (by decide)) (a_cons (e_tup (a_cons e_int (a_cons e_int a_nil))) (a_cons (e_ix (e_gv T.h_WAYS) (e_mod (e_add (e_v 2) e_int) e_int (by decide)) (ways_at m5.1 m5.2)) (a_cons (e_v 1) a_nil))) (r_plusK (mulOk_r (way_bd _).1) (mulOk_r (way_bd _).2))) ?_
  refine ss_ret (e_call (cal_plus T) (hr.mono (by decide)) (a_cons (e_v 4) (a_cons (e_ix (e_gv T.h_WAYS) (e_mod (e_add (e_v 2) e_int) e_int (by decide)) (ways_at m1.1 m1.2)) (a_cons (e_v 3) a_nil))) (r_plusK (mulOk_r (way_bd _).1) (mulOk_r (way_bd _).2))) ?_
  rw [Int.zero_add, Int.zero_add]
  rfl

theorem made_all (n : Nat) (g : Nat → D) : made n (fun _ => true) g = (List.range n).map g := by
  unfold made
  rw [List.filter_eq_self.mpr (fun _ _ => rfl)]
/-! ### the motions as objects -/
mutual
def moD (mg : Str → Option Value) : Mo → D
  | .turn k => .obj (adr mg "Turn") [("times", .int k)]
  | .mirror => .obj (adr mg "Mirror") []
  | .shift s => .obj (adr mg "Shift") [("by", cellP s)]
  | .plain => .obj (adr mg "Motion") []
  | .chain l => .obj (adr mg "Chain") [("parts", .lst (mosD mg l))]
def mosD (mg : Str → Option Value) : List Mo → List D
  | [] => []
  | m :: l => moD mg m :: mosD mg l
end
theorem mosD_map (mg : Str → Option Value) : ∀ l : List Mo, mosD mg l = l.map (moD mg)
  | [] => by unfold mosD; rfl
  | m :: l => by unfold mosD; rw [mosD_map mg l]; rfl
theorem mosD_len (mg : Str → Option Value) (l : List Mo) : (mosD mg l).length = l.length := by rw [mosD_map, List.length_map]
theorem mosD_getD (mg : Str → Option Value) {l : List Mo} {i : Nat} (h : i < l.length) : (mosD mg l).getD i .non = moD mg (l.getD i .plain) := by
  rw [mosD_map, List.getD_eq_getElem?_getD, List.getD_eq_getElem?_getD, List.getElem?_map, List.getElem?_eq_getElem h]
  rfl
def clsOf : Mo → Str
  | .turn _ => "Turn"
  | .mirror => "Mirror"
  | .shift _ => "Shift"
  | .plain => "Motion"
  | .chain _ => "Chain"
def fldsOf (mg : Str → Option Value) : Mo → List (Str × D)
  | .turn k => [("times", .int k)]
  | .mirror => []
  | .shift s => [("by", cellP s)]
  | .plain => []
  | .chain l => [("parts", .lst (mosD mg l))]
theorem moD_eq (mg : Str → Option Value) (m : Mo) : moD mg m = .obj (adr mg (clsOf m)) (fldsOf mg m) := by
  cases m <;> (unfold moD; rfl)
theorem ho_mo {X : Cx} {o : Expr} {δ : List Hold} {m : Mo} (h : Ee X o δ (moD X.mg m)) : Ee X o δ (.obj (adr X.mg (clsOf m)) (fldsOf X.mg m)) := by
  rw [← moD_eq]
  exact h
theorem of_mo {X : Cx} {o : Expr} {δ : List Hold} {m : Mo} (h : Ee X o δ (.obj (adr X.mg (clsOf m)) (fldsOf X.mg m))) : Ee X o δ (moD X.mg m) := by
  rw [moD_eq]
  exact h
theorem no_image (mg : Str → Option Value) (m : Mo) : (fldsOf mg m).lookup ("image" : Str) = none := by cases m <;> rfl
theorem no_back (mg : Str → Option Value) (m : Mo) : (fldsOf mg m).lookup ("back" : Str) = none := by cases m <;> rfl
theorem no_form (mg : Str → Option Value) (m : Mo) : (fldsOf mg m).lookup ("form" : Str) = none := by cases m <;> rfl
theorem cell_eq {a b c d : Int} (h1 : a = c) (h2 : b = d) : cell a b = cell c d := by rw [h1, h2]
/-! ### they are made -/
theorem mk_Turn_ex (T : Txt K mg) : ∃ f fd us, Mk K (adr mg "Turn") f ∧ FnOk P w K mg base CX0 1 f fd ["self", "times"] (spI K (adr mg "Turn") (InV K) fun ds fs => ∃ k, ds = [.int k] ∧ fs = [(("times" : Str), D.int k)]) ∧ Binds K fd ["self", "times"] [] ∧ Vals [.int 1] us ∧ Binds K fd ["self", "times"] us := by
  obtain ⟨f, fd, us, hM, F, b0, v, b1⟩ := T.n_Turn.ex
  refine ⟨f, fd, us, hM, ?_, b0, v, b1⟩
  refine F.ok sc_Turn_init (fun vs H Q E h => ?_) (fun cdv A outer s H vs Q E hr h => ?_)
  · obtain ⟨G, p, dx, ws, ds, fs, rfl, _, _, _, hA, ⟨k, rfl, _⟩, _⟩ := h
    cases hA with
    | cons r1 r2 => cases r2; rfl
  · obtain ⟨G, p, dx, ws, ds, fs, rfl, ex, gp, hp, hA, ⟨k, rfl, rfl⟩, q⟩ := h
    cases hA with
    | cons r1 r2 =>
      cases r2
      refine ⟨_, pss_one (ps_fld (pv 0) (pv 1) rfl), ?_⟩
      obtain ⟨k1, k2⟩ := fld_kept (C := adr mg "Turn") (dx := dx) (f := "times") ex gp r1
      exact ⟨_, rfl, _, rfl, p, adr mg "Turn", dx, [], rfl, hp, T.k_Turn.cl, T.t_Turn_times, (by show 0 < 1000; decide), q G _ _ k1 upd_same k2⟩
theorem mk_Turn (T : Txt K mg) : DL.Made P w K mg base 1 "Turn" (InV K) fun ds fs => ∃ k, ds = [.int k] ∧ fs = [(("times" : Str), D.int k)] := by
  obtain ⟨f, fd, us, hM, F, b0, v, b1⟩ := mk_Turn_ex (P := P) (w := w) (base := base) T
  exact ⟨f, fd, _, [], [], [], _, T.k_Turn.m, hM, F, b0, .nil, fun _ _ _ _ h => by rw [List.append_nil, List.append_nil]; exact h, fun ds fs h => by rw [List.append_nil]; exact h⟩
theorem mk_Turn0 (T : Txt K mg) : DL.Made P w K mg base 1 "Turn" (InV K) fun ds fs => ds = [] ∧ fs = [(("times" : Str), D.int 1)] := by
  obtain ⟨f, fd, us, hM, F, b0, v, b1⟩ := mk_Turn_ex (P := P) (w := w) (base := base) T
  exact ⟨f, fd, _, [.int 1], us, [.int 1], _, T.k_Turn.m, hM, F, b1, v, fun _ _ _ _ h => DvAll.append h (.cons (.int 1) .nil), fun ds fs ⟨e, e2⟩ => by rw [e, e2]; exact ⟨1, rfl, rfl⟩⟩
theorem mk_Shift (T : Txt K mg) : DL.Made P w K mg base 1 "Shift" (InV K) fun ds fs => ∃ d, ds = [d] ∧ fs = [(("by" : Str), d)] := by
  obtain ⟨f, fd, hM, F, b0⟩ := T.n_Shift.ex
  have FF : FnOk P w K mg base CX0 1 f fd ["self", "by"] (spI K (adr mg "Shift") (InV K) fun ds fs => ∃ d, ds = [d] ∧ fs = [(("by" : Str), d)]) := by
    refine F.ok sc_Shift_init (fun vs H Q E h => ?_) (fun cdv A outer s H vs Q E hr h => ?_)
    · obtain ⟨G, p, dx, ws, ds, fs, rfl, _, _, _, hA, ⟨k, rfl, _⟩, _⟩ := h
      cases hA with
      | cons r1 r2 => cases r2; rfl
    · obtain ⟨G, p, dx, ws, ds, fs, rfl, ex, gp, hp, hA, ⟨k, rfl, rfl⟩, q⟩ := h
      cases hA with
      | cons r1 r2 =>
        cases r2
        refine ⟨_, pss_one (ps_fld (pv 0) (pv 1) rfl), ?_⟩
        obtain ⟨k1, k2⟩ := fld_kept (C := adr mg "Shift") (dx := dx) (f := "by") ex gp r1
        exact ⟨_, rfl, _, rfl, p, adr mg "Shift", dx, [], rfl, hp, T.k_Shift.cl, T.t_Shift_by, (by show 0 < 1000; decide), q G _ _ k1 upd_same k2⟩
  exact ⟨f, fd, _, [], [], [], _, T.k_Shift.m, hM, FF, b0, .nil, fun _ _ _ _ h => by rw [List.append_nil, List.append_nil]; exact h, fun ds fs h => by rw [List.append_nil]; exact h⟩
theorem mk_Chain (T : Txt K mg) : DL.Made P w K mg base 1 "Chain" (InL K) fun ds fs => ∃ es, ds = [.lst es] ∧ fs = [(("parts" : Str), D.lst es)] := by
  obtain ⟨f, fd, hM, F, b0⟩ := T.n_Chain.ex
  have FF : FnOk P w K mg base CX0 1 f fd ["self", "motions"] (spI K (adr mg "Chain") (InL K) fun ds fs => ∃ es, ds = [.lst es] ∧ fs = [(("parts" : Str), D.lst es)]) := by
    refine F.ok sc_Chain_init (fun vs H Q E h => ?_) (fun cdv A outer s H vs Q E hr h => ?_)
    · obtain ⟨G, p, dx, ws, ds, fs, rfl, _, _, _, ⟨l, xs, es, rfl, _⟩, _⟩ := h
      rfl
    · obtain ⟨G, p, dx, ws, ds, fs, rfl, ex, gp, hp, ⟨l, xs, es, rfl, rfl, hs, rr⟩, ⟨es', e1, rfl⟩, q⟩ := h
      cases e1
      refine ⟨_, pss_one (ps_fld (pv 0) (pe_callTy call_list_of rfl T.g_list (by decide +kernel) (pa_cons (pv 1) pa_nil)) rfl), ?_⟩
      refine ⟨_, rfl, _, _, rfl, .inl hs, fun l2 hl2 => ?_⟩
      have npl : p ≠ l2 := ne_of_none hp hl2
      have gl2 : G l2 = none := Evl.fresh_back ex hl2
      refine ⟨_, rfl, p, adr mg "Chain", dx, [], rfl, (by rw [upd_ne npl]; exact hp), T.k_Chain.cl, T.t_Chain_parts, (by show 0 < 1000; decide), ?_⟩
      refine q (upd G l2 (.lst xs)) _ [("parts", .ref l2)] ⟨Ex.new gl2, fun a o z => ?_, fun a o n z => ?_, fun b hb => ?_⟩ upd_same (.cons (.lst upd_same (rr.mono (Ex.new gl2))) .nil)
      · by_cases y : a = l2
        · subst y
          rw [upd_same] at z
          rw [upd_ne (Ne.symm npl), upd_same]
          exact z
        · rw [upd_ne y] at z
          rw [upd_ne (ne_of_none z gp), upd_ne y]
          exact ex a o z
      · rw [upd_ne n, upd_ne (ne_of_none z hl2)]
        exact z
      · exact upd_ne fun z => hb (by rw [z]; exact hl2)
  exact ⟨f, fd, _, [], [], [], _, T.k_Chain.m, hM, FF, b0, .nil, fun G H ws ds h => by rw [List.append_nil, List.append_nil]; exact h, fun ds fs h => by rw [List.append_nil]; exact h⟩
/-! ### image -/
def R_img (mg : Str → Option Value) (m : Mo) (ds : List D) (r : Res) : Prop := ∃ c, ds = [moD mg m, cellP c] ∧ r = .val (cellP (img m c))
theorem r_img {m : Mo} {c : Int × Int} : R_img mg m [.obj (adr mg (clsOf m)) (fldsOf mg m), cellP c] (.val (cellP (img m c))) := ⟨c, by rw [moD_eq], rfl⟩
theorem vimg_turn (T : Txt K mg) (k : Int) : Mcal P w K mg base 1 (adr mg "Turn") "image" (R_img mg (.turn k)) := by
  refine mcal_D T.k_Turn T.m_Turn_image sc_Turn_image (fun ds r ⟨_, e, _⟩ => by rw [e]; rfl) fun Z hr ds r ⟨c, e, e2⟩ => ?_
  subst e e2
  have nd := sc_Turn_image.nd
  simp only [img]
  rw [moD_eq]
  refine ss_for rfl rfl (sr_range1 T.g_range (a_cons (e_mod (e_fld T.k_Turn.cl T.t_Turn_times (e_v 0) (by rfl)) e_int (by decide)) a_nil) (by omega) (by omega)) (fun i δ => ∃ s, δ = [.val (.obj (adr mg "Turn") [("times", .int k)]), .val (cellP (rotN i c)), s]) ⟨.any, rfl⟩ ?_ ?_
  · rintro i δ hi ⟨s, rfl⟩
    refine ⟨_, g_nm 2 nd, ?_⟩
    refine ss_set 1 nd (e_tup (a_cons (e_neg (e_ix (e_v 1) e_int (by rfl))) (a_cons (e_add (e_ix (e_v 1) e_int (by rfl)) (e_ix (e_v 1) e_int (by rfl))) a_nil))) ?_
    exact ss_nil ⟨_, rfl⟩
  · rintro δ ⟨s, rfl⟩
    exact ss_ret (e_v 1) rfl
theorem vimg_mirror (T : Txt K mg) : Mcal P w K mg base 1 (adr mg "Mirror") "image" (R_img mg .mirror) := by
  refine mcal_D T.k_Mirror T.m_Mirror_image sc_Mirror_image (fun ds r ⟨_, e, _⟩ => by rw [e]; rfl) fun Z hr ds r ⟨c, e, e2⟩ => ?_
  subst e e2
  simp only [img]
  exact ss_ret (e_tup (a_cons (e_ix (e_v 1) e_int (by rfl)) (a_cons (e_ix (e_v 1) e_int (by rfl)) a_nil))) rfl
theorem vimg_plain (T : Txt K mg) : Mcal P w K mg base 1 (adr mg "Motion") "image" (R_img mg .plain) := by
  refine mcal_D T.k_Motion T.m_Motion_image sc_Motion_image (fun ds r ⟨_, e, _⟩ => by rw [e]; rfl) fun Z hr ds r ⟨c, e, e2⟩ => ?_
  subst e e2
  simp only [img]
  exact ss_ret (e_v 1) rfl
theorem vimg_shift (T : Txt K mg) (s : Int × Int) : Mcal P w K mg base 2 (adr mg "Shift") "image" (R_img mg (.shift s)) := by
  refine mcal_D T.k_Shift T.m_Shift_image sc_Shift_image (fun ds r ⟨_, e, _⟩ => by rw [e]; rfl) fun Z hr ds r ⟨c, e, e2⟩ => ?_
  subst e e2
  simp only [img]
  rw [moD_eq]
  exact ss_ret (e_call (cal_plus1 T) hr (a_cons (e_v 1) (a_cons (e_fld T.k_Shift.cl T.t_Shift_by (e_v 0) (by rfl)) a_nil)) r_plus1) rfl
theorem vimg (T : Txt K mg) : ∀ (n : Nat) (m : Mo), mok n m → Mcal P w K mg base (n + 2) (adr mg (clsOf m)) "image" (R_img mg m)
  | n, .turn k, _ => (vimg_turn T k).mono (by omega)
  | n, .mirror, _ => (vimg_mirror T).mono (by omega)
  | n, .plain, _ => (vimg_plain T).mono (by omega)
  | n, .shift s, _ => (vimg_shift T s).mono (by omega)
  | 0, .chain l, h => by simp [mok] at h
  | n + 1, .chain l, h => by
    simp only [mok] at h
    refine mcal_D T.k_Chain T.m_Chain_image sc_Chain_image (fun ds r ⟨_, e, _⟩ => by rw [e]; rfl) fun Z hr ds r ⟨c, e, e2⟩ => ?_
    subst e e2
    have nd := sc_Chain_image.nd
    simp only [img]
    rw [moD_eq]
    refine ss_for rfl rfl (sr_list (e_fld T.k_Chain.cl T.t_Chain_parts (e_v 0) (by rfl))) (fun i δ => ∃ s, δ = [.val (.obj (adr mg "Chain") [("parts", .lst (mosD mg l))]), .val (cellP (imgs (l.take i) c)), s]) ⟨.any, by simp only [List.take_zero, imgs]; rfl⟩ ?_ ?_
    · rintro i δ hi ⟨s, rfl⟩
      have hi : i < l.length := by rw [mosD_len] at hi; exact hi
      rw [mosD_getD mg hi]
      have hm := moks_mem h.2 (getD_mem (d := Mo.plain) hi)
      have ht : imgs (l.take (i + 1)) c = img (l.getD i .plain) (imgs (l.take i) c) := by
        rw [take_succ_getD (d := Mo.plain) hi, imgs_app]
        simp only [imgs]
      generalize l.getD i .plain = m at *
      refine ⟨_, g_nm 2 nd, ?_⟩
      refine ss_set 1 nd (e_meth (vimg T n m hm) (hr.mono (by omega)) (ho_mo (e_v 2)) (a_cons (e_v 1) a_nil) r_img (no_image _ _)) ?_
      exact ss_nil ⟨_, by rw [ht]; rfl⟩
    · rintro δ ⟨s, rfl⟩
      rw [mosD_len, List.take_of_length_le (Nat.le_refl _)]
      exact ss_ret (e_v 1) rfl
/-! ### back -/
def R_bk (mg : Str → Option Value) (m : Mo) (ds : List D) (r : Res) : Prop := ds = [moD mg m] ∧ r = .val (moD mg (bk m))
theorem r_bk {m : Mo} : R_bk mg m [.obj (adr mg (clsOf m)) (fldsOf mg m)] (.val (moD mg (bk m))) := ⟨by rw [moD_eq], rfl⟩
theorem vback (T : Txt K mg) : ∀ (n : Nat) (m : Mo), mok n m → Mcal P w K mg base (n + 3) (adr mg (clsOf m)) "back" (R_bk mg m)
  | n, .turn k, _ => by
    refine mcal_D T.k_Turn T.m_Turn_back sc_Turn_back (fun ds r ⟨e, _⟩ => by rw [e]; rfl) fun Z hr ds r ⟨e, e2⟩ => ?_
    subst e e2
    simp only [bk]
    rw [moD_eq, moD_eq]
    exact ss_ret (e_make (mk_Turn T) (hr.mono (by omega)) (a_cons (e_neg (e_fld T.k_Turn.cl T.t_Turn_times (e_v 0) (by rfl))) a_nil) ⟨_, rfl, rfl⟩) rfl
  | n, .mirror, _ => by
    refine mcal_D T.k_Mirror T.m_Mirror_back sc_Mirror_back (fun ds r ⟨e, _⟩ => by rw [e]; rfl) fun Z hr ds r ⟨e, e2⟩ => ?_
    subst e e2
    simp only [bk]
    rw [moD_eq]
    exact ss_ret (e_makeB T.b_Mirror) rfl
  | n, .plain, _ => by
    refine mcal_D T.k_Motion T.m_Motion_back sc_Motion_back (fun ds r ⟨e, _⟩ => by rw [e]; rfl) fun Z hr ds r ⟨e, e2⟩ => ?_
    subst e e2
    simp only [bk]
    rw [moD_eq]
    exact ss_ret (e_makeB T.b_Motion) rfl
  | n, .shift s, _ => by
    refine mcal_D T.k_Shift T.m_Shift_back sc_Shift_back (fun ds r ⟨e, _⟩ => by rw [e]; rfl) fun Z hr ds r ⟨e, e2⟩ => ?_
    subst e e2
    simp only [bk]
    rw [moD_eq, moD_eq]
    refine ss_ret (e_make (mk_Shift T) (hr.mono (by omega)) (a_cons (e_call (cal_plus T) (hr.mono (by omega)) (a_cons (e_tup (a_cons e_int (a_cons e_int a_nil))) (a_cons (e_fld T.k_Shift.cl T.t_Shift_by (e_v 0) (by rfl)) (a_cons (e_neg e_int) a_nil))) (r_plus (mulOk_l (by decide)) (mulOk_l (by decide)))) a_nil) ⟨_, rfl, rfl⟩) ?_
    show Res.val _ = Res.val _
    rw [cell_eq (show 0 + -1 * s.1 = -s.1 by omega) (show 0 + -1 * s.2 = -s.2 by omega)]
    rfl
  | 0, .chain l, h => by simp [mok] at h
  | n + 1, .chain l, h => by
    simp only [mok] at h
    refine mcal_D T.k_Chain T.m_Chain_back sc_Chain_back (fun ds r ⟨e, _⟩ => by rw [e]; rfl) fun Z hr ds r ⟨e, e2⟩ => ?_
    subst e e2
    have nd := sc_Chain_back.nd
    simp only [bk]
    rw [moD_eq, moD_eq]
    have hl : (mosD mg l).length = l.length := mosD_len mg l
    refine ss_ret (r := .val (.obj (adr mg "Chain") [("parts", .lst (made (mosD mg l).length (fun _ => true) fun i => moD mg (bk (l.reverse.getD i .plain))))])) (e_makeL (mk_Chain T) (hr.mono (by omega)) (e_frz (e_lc [("one", 1)] (fun _ => true) (fun i => moD mg (bk (l.reverse.getD i .plain))) (fun i => [.val (.obj (adr mg "Chain") [("parts", .lst (mosD mg l))]), .val (moD mg (l.reverse.getD i .plain))]) ["self", "one"] (defScope s_Chain_back) rfl nd (sr_rev T.g_reversed (a_cons (e_fld T.k_Chain.cl T.t_Chain_parts (e_v 0) (by rfl)) a_nil)) (Nat.le_trans (by rw [hl]; exact h.1) (by decide)) (by decide +kernel) ?_ ?_ ?_)) rfl ⟨_, rfl, rfl⟩) ?_
    · intro s H C cl fp i hi
      have e : (mosD mg l).reverse.getD i .non = moD mg (l.reverse.getD i .plain) := by
        rw [mosD_map, ← List.map_reverse, ← mosD_map]
        exact mosD_getD mg (by rw [List.length_reverse]; rw [hl] at hi; exact hi)
      show EgW _ [1] _ ((mosD mg l).reverse.getD i .non) _ _
      rw [e]
      exact gw_nm 1 nd
    · intro s H C cl fp i hi
      exact if_nil
    · intro s H C cl fp i hi _
      have hm := moks_mem h.2 (List.mem_reverse.mp (getD_mem (d := Mo.plain) (l := l.reverse) (i := i) (by rw [List.length_reverse]; rw [hl] at hi; exact hi)))
      generalize l.reverse.getD i .plain = m at *
      exact e_meth0 (vback T n m hm) (hr.mono (by omega)) (ho_mo (e_v 1)) r_bk (no_back _ _)
    · show Res.val _ = Res.val _
      have e : made (mosD mg l).length (fun _ => true) (fun i => moD mg (bk (l.reverse.getD i .plain))) = mosD mg (bks l).reverse := by
        rw [made_all, hl, mosD_map, bks_map, ← List.map_reverse, List.map_map]
        apply List.ext_getElem?
        intro i
        rw [List.getElem?_map, List.getElem?_map]
        by_cases hi : i < l.length
        · rw [List.getElem?_range hi, Option.map_some, List.getD_eq_getElem?_getD, List.getElem?_eq_getElem (by rw [List.length_reverse]; exact hi)]
          rfl
        · rw [List.getElem?_eq_none (by rw [List.length_range]; omega), List.getElem?_eq_none (by rw [List.length_reverse]; omega)]
          rfl
      rw [e]
      rfl

/-! ### the floor as an object -/
def floorD (mg : Str → Option Value) (kept : List (Int × Int)) : D := .obj (adr mg "Floor") [("kept", .dct kept)]
theorem putK_kvT {cs : List (Int × Int)} {c : Int × Int} : putK (cs.map kvT) ([.inl c.1, .inl c.2] : List Key) (V.bl true) = (putC cs c).map kvT := by
  have hk : ∀ x : Int × Int, (kvT x).1 = ([.inl c.1, .inl c.2] : List Key) ↔ x = c := fun x => by
    show ([.inl x.1, .inl x.2] : List Key) = [.inl c.1, .inl c.2] ↔ _
    constructor
    · intro z
      injection z with z1 z2
      injection z1 with z1
      injection z2 with z2
      injection z2 with z2
      exact Prod.ext z1 z2
    · rintro rfl
      rfl
  unfold putK putC
  have ha : ((cs.map kvT).any fun kv => decide (kv.1 = ([.inl c.1, .inl c.2] : List Key))) = decide (c ∈ cs) := by
    rw [Bool.eq_iff_iff, List.any_eq_true, decide_eq_true_eq]
    constructor
    · rintro ⟨kv, h1, h2⟩
      rw [List.mem_map] at h1
      obtain ⟨x, hx, rfl⟩ := h1
      rw [decide_eq_true_eq, hk] at h2
      rw [← h2]
      exact hx
    · intro h
      exact ⟨kvT c, List.mem_map.mpr ⟨c, h, rfl⟩, decide_eq_true ((hk c).mpr rfl)⟩
  rw [ha]
  by_cases h : c ∈ cs
  · rw [if_pos h, if_pos (decide_eq_true h), List.map_map]
    apply List.map_congr_left
    intro x _
    show (if (kvT x).1 = _ then ((kvT x).1, V.bl true) else kvT x) = kvT x
    split <;> rfl
  · rw [if_neg h, if_neg (by rw [decide_eq_false h]; decide), List.map_append]
    rfl
/-- what stands behind i turns of the loop of __init__ -/
def Built (H H' : Hp) (p d C dx : Addr) (kept : List (Int × Int)) : Prop := (∀ a o, a ≠ p → H a = some o → H' a = some o) ∧ H' p = some (.ins C dx [("kept", .ref d)]) ∧ H' d = some (.dT (kept.map kvT))
theorem mk_Floor (T : Txt K mg) : DL.Made P w K mg base 3 "Floor" (InL K) fun ds fs => ∃ cs : List (Int × Int), cs.length ≤ 1000 ∧ ds = [.lst (cellsD cs)] ∧ fs = [(("kept" : Str), D.dct (dedC cs))] := by
  obtain ⟨f, fd, hM, F, b0⟩ := T.n_Floor.ex
  have FF : FnOk P w K mg base CX0 3 f fd ["self", "walls"] (spI K (adr mg "Floor") (InL K) fun ds fs => ∃ cs : List (Int × Int), cs.length ≤ 1000 ∧ ds = [.lst (cellsD cs)] ∧ fs = [(("kept" : Str), D.dct (dedC cs))]) := by
    refine F.ok sc_Floor_init (fun vs H Q E h => ?_) (fun cdv A outer s H vs Q E hr h => ?_)
    · obtain ⟨G, p, dx, ws, ds, fs, rfl, _, _, _, ⟨l, xs, es, rfl, _⟩, _⟩ := h
      rfl
    · obtain ⟨G, p, dx, ws, ds, fs, rfl, ex, gp, hp, ⟨l, xs, es, rfl, rfl, hs, rr⟩, ⟨cs, hlen, e1, rfl⟩, q⟩ := h
      cases e1
      have nd := sc_Floor_init.nd
      refine ⟨_, pss_cons (ps_fld (pv 0) pe_dnewT rfl) (pss_one (ps_for PassesOwn.never rfl (pi_enum rfl T.g_enumerate (pa_cons (pv 1) pa_nil)) (pg_tup rfl (pgs_cons (pg_name (i := 2) nd rfl (Or.inl rfl)) (pgs_cons (pg_name (i := 3) nd rfl (Or.inl rfl)) pgs_nil)))
        (pss_cons (ps_if (canT _ _) (canSs _ _) pss_nil) (pss_one (ps_dput (Nat.lt_of_le_of_lt (Nat.add_le_add_left (by decide : 1 ≤ 64) _) hr.units) (pe_fld (pv 0) rfl) (pv 3) pe_bl rfl))))), ?_⟩
      intro d nd0
      have npd : p ≠ d := ne_of_none hp nd0
      have gd : G d = none := Evl.fresh_back ex nd0
      refine ⟨_, rfl, p, adr mg "Floor", dx, [], rfl, (by rw [upd_ne npd]; exact hp), T.k_Floor.cl, T.t_Floor_kept, (by show 0 < 1000; decide), ?_⟩
      have B0 : Built H (upd (upd H d (.dT [])) p (.ins (adr mg "Floor") dx [("kept", .ref d)])) p d (adr mg "Floor") dx [] := ⟨fun a o n z => by rw [upd_ne n, upd_ne (ne_of_none z nd0)]; exact z, upd_same, by rw [upd_ne (Ne.symm npd), upd_same]; rfl⟩
      have hsl : ∀ H', (∀ a o, a ≠ p → H a = some o → H' a = some o) → SqL K H' l xs := fun H' k => by
        rcases hs with h | h
        · refine Or.inl ?_
          rcases h with h | ⟨o, h⟩
          · exact Or.inl (k _ _ (fun z => by rw [z, hp] at h; cases h) h)
          · exact Or.inr ⟨o, k _ _ (fun z => by rw [z, hp] at h; cases h) h⟩
        · exact Or.inr h
      have xlen : xs.length = cs.length := by rw [rr.length, List.length_map]
      refine ⟨_, rfl, l, xs, rfl, hsl _ B0.1, fun i m σ' H' => m = cs.length - i ∧ i ≤ cs.length ∧ Built H H' p d (adr mg "Floor") dx (dedC (cs.take i)) ∧ ∃ u v, σ' = [some (.ref p), some (.ref l), u, v], ⟨cs.length, by simp, Nat.zero_le _, B0, none, none, rfl⟩, ?_⟩
      rintro i m σ' H' ⟨rfl, hi, B, u, v, rfl⟩
      by_cases hlt : i < cs.length
      · have hx : i < xs.length := by rw [xlen]; exact hlt
        refine .inr ⟨⟨xs, xs[i], hsl _ B.1, List.getElem?_eq_getElem hx⟩, fun σ2 H2 => i + 1 ≤ cs.length ∧ Built H H2 p d (adr mg "Floor") dx (dedC (cs.take (i + 1))) ∧ ∃ u v, σ2 = [some (.ref p), some (.ref l), u, v], fun σ2 H2 ⟨a1, a2, a3⟩ => ⟨cs.length - (i + 1), by omega, rfl, a1, a2, a3⟩, fun x H2 y => ?_⟩
        obtain ⟨t, z, rfl, hT, rfl, y⟩ := y
        have hz := y xs (hsl _ B.1)
        obtain ⟨dd, d1, d2⟩ := rr.getV hz
        have ed : dd = cellP (cs.getD i (0, 0)) := by
          rw [← cells_getD hlt, List.getD_eq_getElem?_getD, d1]
          rfl
        subst ed
        have ntp : t ≠ p := (ne_of_none B.2.1 hT).symm
        have ntd : t ≠ d := (ne_of_none B.2.2 hT).symm
        refine ⟨t, _, rfl, SqT.of upd_same, rfl, _, _, rfl, _, _, rfl, rfl, ?_⟩
        -- the test, by data
        have B1 : Built H (upd H' t (.tup [.int (i : Nat), z])) p d (adr mg "Floor") dx (dedC (cs.take i)) := ⟨fun a o n w => by
          have w2 := B.1 a o n w
          rw [upd_ne (ne_of_none w2 hT)]
          exact w2, by rw [upd_ne ntp.symm]; exact B.2.1, by rw [upd_ne ntd.symm]; exact B.2.2⟩
        generalize upd H' t (.tup [.int (i : Nat), z]) = H1 at B1 ⊢
        have ex1 : Ex G H1 := fun a o w => B1.1 a o (ne_of_none w gp) (ex a o w)
        obtain ⟨b, rfl, hb⟩ := dv_cell d2
        have N1 : Nv K G H1 G H1 [some (.ref p), some (.ref l), some (V.int (i : Nat)), some (.ref b)] [.any, .any, .any, .val (cellP (cs.getD i (0, 0)))] :=
          (nv_blank ex1 [some (.ref p), some (.ref l), some (V.int (i : Nat)), none] 4 rfl).set (i := 3) d2
        refine (t_not (t_val (e_call (cal_is_cell T) (hr.mono (by decide)) (a_cons (e_v 3) a_nil) r_is_cell)) : Et _ _ [.any, .any, .any, .val (cellP (cs.getD i (0, 0)))] _).run G H1 G H1 _ N1 _ fun G2 H2 g2 => iteF ?_
        have B2 : Built H H2 p d (adr mg "Floor") dx (dedC (cs.take i)) := ⟨fun a o n w => g2.h _ _ (B1.1 a o n w), g2.h _ _ B1.2.1, g2.h _ _ B1.2.2⟩
        have hb2 : H2 b = some (.tup (([.inl (cs.getD i (0, 0)).1, .inl (cs.getD i (0, 0)).2] : List Key).map kV)) := B2.1 _ _ (ne_of_none hb gp) (ex _ _ hb)
        have hlk : ((dedC (cs.take i)).map kvT).length < sizeLine := by
          have h1 := dedC_len (cs.take i) []
          have h2 : (dedC (cs.take i)).length ≤ 0 + (cs.take i).length := h1
          have h3 := List.length_take_le i cs
          rw [List.length_map]
          exact small_ln (by omega)
        have nbd : ∀ a o, a ≠ p → H a = some o → upd H2 d (.dT (putK ((dedC (cs.take i)).map kvT) ([.inl (cs.getD i (0, 0)).1, .inl (cs.getD i (0, 0)).2] : List Key) (V.bl true))) a = some o := fun a o n w => by
          rw [upd_ne (ne_of_none w nd0)]
          exact B2.1 a o n w
        refine ⟨_, rfl, p, adr mg "Floor", dx, _, _, rfl, B2.2.1, T.k_Floor.cl, T.t_Floor_kept, rfl, _, rfl, d, _, rfl, DPut.t B2.2.2 hb2 hlk, by omega, ⟨nbd, by rw [upd_ne npd]; exact B2.2.1, ?_⟩, _, _, rfl⟩
        rw [upd_same, putK_kvT, dedC_take hlt]
      · have e : i = cs.length := by omega
        subst e
        refine .inl ⟨⟨xs, hsl _ B.1, by rw [xlen]; exact Nat.le_refl _⟩, ?_⟩
        rw [List.take_length] at B
        refine q (upd G d (.dT ((dedC cs).map kvT))) H' [("kept", .ref d)] ⟨Ex.new gd, fun a o z => ?_, B.1, fun b hb => upd_ne fun z => hb (by rw [z]; exact nd0)⟩ B.2.1 (.cons (.dct upd_same) .nil)
        by_cases y : a = d
        · subst y
          rw [upd_same] at z
          rw [← z]
          exact B.2.2
        · rw [upd_ne y] at z
          exact B.1 a o (ne_of_none z gp) (ex a o z)
  exact ⟨f, fd, _, [], [], [], _, T.k_Floor.m, hM, FF, b0, .nil, fun G H ws ds h => by rw [List.append_nil, List.append_nil]; exact h, fun ds fs h => by rw [List.append_nil]; exact h⟩

theorem made_filter (cs : List (Int × Int)) (q : Int × Int → Bool) : made cs.length (fun i => q (cs.getD i (0, 0))) (fun i => cellP (cs.getD i (0, 0))) = cellsD (cs.filter q) := by
  unfold made
  have h : ∀ cs : List (Int × Int), (List.range cs.length).map (fun i => cs.getD i (0, 0)) = cs := fun cs => by
    apply List.ext_getElem?
    intro i
    rw [List.getElem?_map]
    by_cases hi : i < cs.length
    · rw [List.getElem?_range hi, Option.map_some, List.getD_eq_getElem?_getD, List.getElem?_eq_getElem hi]
      rfl
    · rw [List.getElem?_eq_none (by rw [List.length_range]; omega), List.getElem?_eq_none (by omega)]
      rfl
  have e : cs.filter q = (((List.range cs.length).filter fun i => q (cs.getD i (0, 0))).map fun i => cs.getD i (0, 0)) := by
    conv => lhs; rw [← h cs]
    rw [List.filter_map]
    rfl
  rw [e]
  unfold cellsD
  rw [List.map_map]
  rfl
theorem eqD_nil (cs : List (Int × Int)) : eqD (.lst (cellsD cs)) (.lst []) = decide (cs = []) := eqD_cells cs []
theorem okD_none : okD (.lst []) := okD_cells []
/-! ### walls, free -/
def R_walls (mg : Str → Option Value) (ds : List D) (r : Res) : Prop := ∃ kept, ds = [floorD mg kept] ∧ r = .new (cellsD (sortC kept))
theorem vwalls (T : Txt K mg) : Mcal P w K mg base 1 (adr mg "Floor") "walls" (R_walls mg) := by
  refine mcal_D T.k_Floor T.m_Floor_walls sc_Floor_walls (fun ds r ⟨_, e, _⟩ => by rw [e]; rfl) fun Z hr ds r ⟨kept, e, e2⟩ => ?_
  subst e e2
  exact ss_ret (e_sortedC T.g_sorted (e_frz (e_listD rfl T.g_list (e_fld T.k_Floor.cl T.t_Floor_kept (e_v 0) (by rfl))))) rfl
def R_free (mg : Str → Option Value) (ds : List D) (r : Res) : Prop := ∃ kept cs, ds = [floorD mg kept, .lst (cellsD cs)] ∧ cs.length ≤ 1000 ∧ r = .new (cellsD (freeC kept cs))
theorem vfree (T : Txt K mg) : Mcal P w K mg base 1 (adr mg "Floor") "free" (R_free mg) := by
  refine mcal_D T.k_Floor T.m_Floor_free sc_Floor_free (fun ds r ⟨_, _, e, _⟩ => by rw [e]; rfl) fun Z hr ds r ⟨kept, cs, e, hl, e2⟩ => ?_
  subst e e2
  have nd := sc_Floor_free.nd
  have hcl : (cellsD cs).length = cs.length := List.length_map _
  refine ss_ret (r := .new (made (cellsD cs).length (fun i => !decide (cs.getD i (0, 0) ∈ kept)) fun i => cellP (cs.getD i (0, 0)))) (e_lc [("cell", 2)] (fun i => !decide (cs.getD i (0, 0) ∈ kept)) (fun i => cellP (cs.getD i (0, 0))) (fun i => [.val (floorD mg kept), .val (.lst (cellsD cs)), .val (cellP (cs.getD i (0, 0)))]) ["self", "cells", "cell"] (defScope s_Floor_free) rfl nd (sr_list (e_v 1)) (Nat.le_trans (by rw [hcl]; exact hl) (by decide)) (by decide +kernel) ?_ ?_ ?_) ?_
  · intro s H C cl fp i hi
    show EgW _ [2] _ ((cellsD cs).getD i .non) _ _
    rw [cells_getD (by rw [← hcl]; exact hi)]
    exact gw_nm 2 nd
  · intro s H C cl fp i hi
    exact if_one (t_cmp (c_notinD (Nat.lt_of_le_of_lt (Nat.add_le_add_left (by decide : 1 ≤ 64) _) hr.units) (e_v 2) (e_fld T.k_Floor.cl T.t_Floor_kept (e_v 0) (by rfl))))
  · intro s H C cl fp i hi _
    exact e_v 2
  · show Res.new _ = Res.new _
    rw [hcl, made_filter cs fun c => !decide (c ∈ kept)]
    rfl
/-! ### barred, sees -/
def barD (b : Option Nat) : D := match b with
  | some i => .int (1 + (i : Nat))
  | none => .non
def R_barred (mg : Str → Option Value) (ds : List D) (r : Res) : Prop := ∃ kept a b c d, ds = [floorD mg kept, cell a b, cell c d] ∧ Bd a ∧ Bd b ∧ Bd c ∧ Bd d ∧ r = .val (barD (barN kept (a, b) (c, d)))
theorem r_barred {kept : List (Int × Int)} {a b c d : Int} (ha : Bd a) (hb : Bd b) (hc : Bd c) (hd : Bd d) : R_barred mg [floorD mg kept, cell a b, cell c d] (.val (barD (barN kept (a, b) (c, d)))) := ⟨kept, a, b, c, d, rfl, ha, hb, hc, hd, rfl⟩
theorem nearC_len1000 (o p : Int × Int) (k : Int) : (nearC o p k).length ≤ 1000 := by
  have := nearC_len o p k
  omega
theorem vbarred (T : Txt K mg) : Mcal P w K mg base 4 (adr mg "Floor") "barred" (R_barred mg) := by
  refine mcal_D T.k_Floor T.m_Floor_barred sc_Floor_barred (fun ds r ⟨_, _, _, _, _, e, _⟩ => by rw [e]; rfl) fun Z hr ds r ⟨kept, a, b, c, d, e, ha, hb, hc, hd, e2⟩ => ?_
  subst e e2
  have nd := sc_Floor_barred.nd
  have eF : farOf (a, b) (c, d) = reach (c - a) (d - b) := rfl
  refine ss_for rfl rfl (sr_range2 T.g_range (a_cons e_int (a_cons (e_call (cal_distance T) (hr.mono (by decide)) (a_cons (e_v 1) (a_cons (e_v 2) a_nil)) r_distance) a_nil))) (fun i δ => (∃ s, δ = [.val (floorD mg kept), .val (cell a b), .val (cell c d), s]) ∧ ∀ j : Nat, j < i → freeC kept (nearC (a, b) (c, d) (1 + (j : Nat))) ≠ []) ⟨⟨.any, rfl⟩, fun j h => absurd h (by omega)⟩ ?_ ?_
  · rintro i δ hi ⟨⟨s, rfl⟩, hI⟩
    have hi : i < (farOf (a, b) (c, d) - 1).toNat := hi
    refine ⟨_, g_nm 3 nd, ?_⟩
    refine ss_when (t_cmp (c_eqW hr.units (e_wk (e_frz (e_meth (vfree T) (hr.mono (by decide)) (e_v 0) (a_cons (e_frz (e_call (cal_nearest T) (hr.mono (by decide)) (a_cons (e_v 1) (a_cons (e_v 2) (a_cons (e_v 3) a_nil))) (r_nearest ha hb hc hd (by omega) (by omega)))) a_nil) ⟨kept, _, rfl, nearC_len1000 _ _ _, rfl⟩ (by rfl)))) (e_wk (e_lstV a_nil)) (okD_cells _) okD_none)) (fun h => ?_) (fun h => ?_)
    · rw [eqD_nil] at h
      have h := of_decide_eq_true h
      rw [barN_at hi h hI]
      exact ss_ret (e_v 3) rfl
    · rw [eqD_nil] at h
      have h := of_decide_eq_false h
      exact ss_nil ⟨⟨_, rfl⟩, fun j hj => by
        by_cases q : j = i
        · rw [q]; exact h
        · exact hI j (by omega)⟩
  · rintro δ ⟨⟨s, rfl⟩, hI⟩
    have eB : barN kept (a, b) (c, d) = none := barN_no hI
    rw [eB]
    refine ss_ret (r := .val .non) e_non ?_
    show Res.val .non = Res.val (barD none)
    rfl
def R_sees (mg : Str → Option Value) (ds : List D) (r : Res) : Prop := ∃ kept a b c d, ds = [floorD mg kept, cell a b, cell c d] ∧ Bd a ∧ Bd b ∧ Bd c ∧ Bd d ∧ r = .val (.bl (barN kept (a, b) (c, d)).isNone)
theorem r_sees {kept : List (Int × Int)} {a b c d : Int} (ha : Bd a) (hb : Bd b) (hc : Bd c) (hd : Bd d) : R_sees mg [floorD mg kept, cell a b, cell c d] (.val (.bl (barN kept (a, b) (c, d)).isNone)) := ⟨kept, a, b, c, d, rfl, ha, hb, hc, hd, rfl⟩
theorem vsees (T : Txt K mg) : Mcal P w K mg base 5 (adr mg "Floor") "sees" (R_sees mg) := by
  refine mcal_D T.k_Floor T.m_Floor_sees sc_Floor_sees (fun ds r ⟨_, _, _, _, _, e, _⟩ => by rw [e]; rfl) fun Z hr ds r ⟨kept, a, b, c, d, e, ha, hb, hc, hd, e2⟩ => ?_
  subst e e2
  have hB := @r_barred mg kept a b c d ha hb hc hd
  cases q : barN kept (a, b) (c, d) with
  | none =>
    rw [q] at hB
    exact ss_ret (e_cmp (c_isN (e_wk (e_meth (vbarred T) (hr.mono (by decide)) (e_v 0) (a_cons (e_v 1) (a_cons (e_v 2) a_nil)) hB (by rfl))))) rfl
  | some i =>
    rw [q] at hB
    exact ss_ret (e_cmp (c_isN (e_wk (e_meth (vbarred T) (hr.mono (by decide)) (e_v 0) (a_cons (e_v 1) (a_cons (e_v 2) a_nil)) hB (by rfl))))) rfl

theorem any_cells (cs : List (Int × Int)) (a b : Int) : (D.pys (cellsD cs)).any (fun z => PyData.eqv z (cell a b).py) = decide ((a, b) ∈ cs) := by
  rw [pys_cells, Bool.eq_iff_iff, List.any_eq_true, decide_eq_true_eq]
  have hq : ∀ x y : Int, PyData.eqv (.tuple [.int x, .int y]) (cell a b).py = decide (x = a ∧ y = b) := fun x y => eqD_cell x y a b
  constructor
  · rintro ⟨z, h1, h2⟩
    rw [List.mem_map] at h1
    obtain ⟨c, hc, rfl⟩ := h1
    rw [hq, decide_eq_true_eq] at h2
    rw [← h2.1, ← h2.2]
    exact hc
  · intro h
    exact ⟨_, List.mem_map.mpr ⟨(a, b), h, rfl⟩, by rw [hq]; exact decide_eq_true ⟨rfl, rfl⟩⟩
theorem any_cellP (cs : List (Int × Int)) (c : Int × Int) : (D.pys (cellsD cs)).any (fun z => PyData.eqv z (cellP c).py) = decide (c ∈ cs) := any_cells cs c.1 c.2
theorem candsL_take (a b f : Int) {i : Nat} (h : i < 4) : (candsL a b f).take (i + 1) = (candsL a b f).take i ++ [(a / f + (0 + (i : Int)) % 2, b / f + (0 + (i : Int)) / 2)] := by
  have : i = 0 ∨ i = 1 ∨ i = 2 ∨ i = 3 := by omega
  rcases this with rfl | rfl | rfl | rfl <;> simp [candsL]
theorem units65 {k : Nat} {A : Around} (r : Room k A) : A.units + 65 < cLine := by have := r.un; omega
theorem made_mapC (cs : List (Int × Int)) (f : Int × Int → Int × Int) : made cs.length (fun _ => true) (fun i => cellP (f (cs.getD i (0, 0)))) = cellsD (cs.map f) := by
  rw [made_all]
  apply List.ext_getElem?
  intro i
  rw [List.getElem?_map, List.getElem?_map, List.getElem?_map]
  by_cases h : i < cs.length
  · rw [List.getElem?_range h, Option.map_some, List.getD_eq_getElem?_getD, List.getElem?_eq_getElem h]
    rfl
  · rw [List.getElem?_eq_none (by rw [List.length_range]; omega), List.getElem?_eq_none (by omega)]
    rfl
theorem atI_last {l : List (Int × Int)} (h : l ≠ []) : atI (cellsD l) (-1) = some (cellP (l.getLastD (0, 0))) := by
  have hl : 0 < l.length := List.length_pos_iff.mpr h
  unfold atI ixN
  rw [if_neg (by decide), if_pos (by rw [List.length_map]; omega)]
  have : (-1 + ((cellsD l).length : Int)).toNat = l.length - 1 := by rw [List.length_map]; omega
  rw [this]
  show (cellsD l)[l.length - 1]? = _
  rw [List.getElem?_map, List.getLastD_eq_getLast?, List.getLast?_eq_getElem?, List.getElem?_eq_getElem (by omega)]
  rfl
theorem ded_len (cs : List (Int × Int)) : (dedC cs).length ≤ cs.length := by
  have := dedC_len cs []
  simpa [dedC] using this
/-- small numbers: sums of them are still taken -/
def Bs (x : Int) : Prop := x.natAbs ≤ 10 ^ 99
theorem bs_bd {x : Int} (h : Bs x) : Bd x := by unfold Bs at h; unfold Bd; omega
theorem bs_add {x y : Int} (h : Bs x) (hy : y.natAbs ≤ 1000) : Bd (x + y) := by unfold Bs at h; unfold Bd; omega
theorem cellAt_small {i : Nat} {n : Int} (hn : 0 ≤ n) (hn2 : n ≤ 10) (hi : i < ballN n) : (cellAtC (i : Int)).1.natAbs ≤ 10 ∧ (cellAtC (i : Int)).2.natAbs ≤ 10 := by
  have hm : cellAtC (i : Int) ∈ ballC (ballN n) := List.mem_map.mpr ⟨i, List.mem_range.mpr hi, rfl⟩
  rw [ball_mem hn] at hm
  have g := reach_ge (cellAtC (i : Int)).1 (cellAtC (i : Int)).2
  omega
theorem ballN_le {n : Int} (hn : 0 ≤ n) (hn2 : n ≤ 10) : ballN n ≤ 331 := by
  unfold ballN
  have := tri_mono hn hn2
  omega
theorem pl_small {i : Nat} (h : i ≤ 1000) : PlOk (i : Int) := by unfold PlOk; omega

/-! ### moved, stretches -/
mutual
theorem moD_nodct (mg : Str → Option Value) : ∀ m : Mo, (moD mg m).nodct = true
  | .turn k => by unfold moD; rfl
  | .mirror => by unfold moD; rfl
  | .shift s => by unfold moD; rfl
  | .plain => by unfold moD; rfl
  | .chain l => by
    unfold moD
    show (D.nodcts (mosD mg l) && true) = true
    rw [mosD_nodct mg l]
    rfl
theorem mosD_nodct (mg : Str → Option Value) : ∀ l : List Mo, D.nodcts (mosD mg l) = true
  | [] => by unfold mosD; rfl
  | m :: l => by
    unfold mosD
    show ((moD mg m).nodct && D.nodcts (mosD mg l)) = true
    rw [moD_nodct mg m, mosD_nodct mg l]
    rfl
end
def R_moved (mg : Str → Option Value) (ds : List D) (r : Res) : Prop := ∃ kept m, ds = [floorD mg kept, moD mg m] ∧ mok 2 m ∧ kept.length ≤ 1000 ∧ r = .val (floorD mg (dedC (kept.map (img m))))
theorem vmoved (T : Txt K mg) : Mcal P w K mg base 5 (adr mg "Floor") "moved" (R_moved mg) := by
  refine mcal_D T.k_Floor T.m_Floor_moved sc_Floor_moved (fun ds r ⟨_, _, e, _⟩ => by rw [e]; rfl) fun Z hr ds r ⟨kept, m, e, hm, hl, e2⟩ => ?_
  subst e e2
  have nd := sc_Floor_moved.nd
  refine ss_ret (r := .val (floorD mg (dedC (kept.map (img m))))) (e_makeL (mk_Floor T) (hr.mono (by decide)) (e_frz (e_lcKept (cs := kept) [("cell", 2)] (fun i => cellP (img m (kept.getD i (0, 0)))) (fun i => [.any, .val (moD mg m), .val (cellP (kept.getD i (0, 0)))]) [.any, .val (moD mg m), .any] ["self", "motion", "cell"] (defScope s_Floor_moved) T.k_Floor.cl T.t_Floor_kept rfl nd (Nat.le_trans hl (by decide)) (by decide +kernel) rfl rfl ?_ ?_ (fun _ => rfl) ?_ ?_)) rfl ⟨kept.map (img m), by rw [List.length_map]; exact hl, by rw [made_mapC kept (img m)], rfl⟩) rfl
  · intro i d h
    have hi : i < 3 := (List.getElem?_eq_some_iff.mp h).1
    have : i = 0 ∨ i = 1 ∨ i = 2 := by omega
    rcases this with rfl | rfl | rfl
    · cases h
    · cases h
      exact ⟨rfl, moD_nodct mg m⟩
    · cases h
  · intro i ds h
    have hi : i < 3 := (List.getElem?_eq_some_iff.mp h).1
    have : i = 0 ∨ i = 1 ∨ i = 2 := by omega
    rcases this with rfl | rfl | rfl <;> cases h
  · intro s H C cl fp i hi
    exact gw_nm 2 nd
  · intro s H C cl fp i hi
    exact e_meth (vimg T 2 m hm) (hr.mono (by decide)) (ho_mo (e_v 1)) (a_cons (e_v 2) a_nil) r_img (no_image _ _)
theorem last_split {l : List (Int × Int)} (h : l ≠ []) : cellsD l = cellsD l.dropLast ++ [cellP (l.getLastD (0, 0))] := by
  have e : l.getLastD (0, 0) = l.getLast h := by rw [List.getLastD_eq_getLast?, List.getLast?_eq_some_getLast h]; rfl
  rw [e]
  conv => lhs; rw [← List.dropLast_concat_getLast h]
  rw [cellsD_app]
  rfl
def seenAt (kept : List (Int × Int)) (o : Int × Int) (i : Nat) : Bool := (barN kept o (addP o (cellAtC (i : Int)))).isNone
def strC (kept : List (Int × Int)) (o : Int × Int) (n : Int) : List (Int × Int) := runs (seenAt kept o) (ballN n)
theorem strC_len (kept : List (Int × Int)) (o : Int × Int) {n : Int} (h0 : 0 ≤ n) (h1 : n ≤ 10) : (strC kept o n).length ≤ 331 := Nat.le_trans (runs_len _ _) (ballN_le h0 h1)
def R_stretches (mg : Str → Option Value) (ds : List D) (r : Res) : Prop := ∃ kept a b n, ds = [floorD mg kept, cell a b, .int n] ∧ Bs a ∧ Bs b ∧ 0 ≤ n ∧ n ≤ 10 ∧ r = .new (cellsD (strC kept (a, b) n))
theorem r_stretches {kept : List (Int × Int)} {a b n : Int} (ha : Bs a) (hb : Bs b) (h0 : 0 ≤ n) (h1 : n ≤ 10) : R_stretches mg [floorD mg kept, cell a b, .int n] (.new (cellsD (strC kept (a, b) n))) := ⟨kept, a, b, n, rfl, ha, hb, h0, h1, rfl⟩
theorem vstretches (T : Txt K mg) : Mcal P w K mg base 6 (adr mg "Floor") "stretches" (R_stretches mg) := by
  refine mcal_D T.k_Floor T.m_Floor_stretches sc_Floor_stretches (fun ds r ⟨_, _, _, _, e, _⟩ => by rw [e]; rfl) fun Z hr ds r ⟨kept, a, b, n, e, ha, hb, h0, h1, e2⟩ => ?_
  subst e e2
  have nd := sc_Floor_stretches.nd
  have hN := ballN_le h0 h1
  have t0 : 0 ≤ 3 * n * (n + 1) := Int.mul_nonneg (by omega) (by omega)
  have eN : ballN n = (3 * n * (n + 1) + 1).toNat := rfl
  refine ss_skip (t_w (w_or (t_not (t_val (e_call (cal_is_whole T) (hr.mono (by decide)) (a_cons (e_v 2) a_nil) r_is_whole))) (fun _ => (w_or1 (t_cmp (c_lt (e_v 2) e_int)))))) ?_ ?_
  · simp
    omega
  refine ss_setN 3 nd (e_lst a_nil) ?_
  unfold strC
  refine ss_for rfl rfl (sr_range1 T.g_range (a_cons (e_add (e_mulO (e_mul e_int (e_v 2) (.inl (by decide))) (e_add (e_v 2) e_int) (mulOk_l (by omega))) e_int) a_nil) (by omega) (by omega)) (fun i δ => ∃ s t, δ = [.val (floorD mg kept), .val (cell a b), .val (.int n), .own (cellsD (runs (seenAt kept (a, b)) i)), s, t]) ⟨.any, .any, rfl⟩ ?_ ?_
  · rintro i δ hi ⟨s, t, rfl⟩
    have hi : i < ballN n := hi
    rw [Int.zero_add]
    refine ⟨_, g_nm 4 nd, ?_⟩
    have ⟨s1, s2⟩ := cellAt_small h0 h1 hi
    have bd1 : Bd (a + (cellAtC (i : Int)).1) := bs_add ha (by omega)
    have bd2 : Bd (b + (cellAtC (i : Int)).2) := bs_add hb (by omega)
    have hrl := runs_len (seenAt kept (a, b)) i
    have hrn : runs (seenAt kept (a, b)) (i + 1) = if seenAt kept (a, b) i = true then addRun (runs (seenAt kept (a, b)) i) i else runs (seenAt kept (a, b)) i := rfl
    have hse : seenAt kept (a, b) i = (barN kept (a, b) (a + (cellAtC (i : Int)).1, b + (cellAtC (i : Int)).2)).isNone := rfl
    refine ss_when (t_not (t_val (e_meth (vsees T) (hr.mono (by decide)) (e_v 0) (a_cons (e_v 1) (a_cons (e_call (cal_plus1 T) (hr.mono (by decide)) (a_cons (e_v 1) (a_cons (e_call (cal_cell_at T) (hr.mono (by decide)) (a_cons (e_v 4) a_nil) (r_cell_at (pl_small (by omega)))) a_nil)) r_plus1) a_nil)) (r_sees (bs_bd ha) (bs_bd hb) bd1 bd2) (by rfl)))) (fun h => ?_) (fun h => ?_)
    · rw [← hse] at h
      refine ss_cont ⟨.val (.int (i : Int)), t, ?_⟩
      rw [hrn, if_neg (by intro z; rw [z] at h; cases h)]
      rfl
    · rw [← hse] at h
      have hs : seenAt kept (a, b) i = true := by
        cases z : seenAt kept (a, b) i with
        | true => rfl
        | false => rw [z] at h; cases h
      rw [hs, if_pos rfl] at hrn
      generalize runs (seenAt kept (a, b)) i = l at *
      unfold addRun at hrn
      have hz : (cellsD l).length < sizeLine := small_ln (by rw [List.length_map]; omega)
      have hlast : (!eqD (.lst (cellsD l)) (.lst [])) = true → atI (cellsD l) (-1) = some (cellP (l.getLastD (0, 0))) := fun q => by
        rw [eqD_nil] at q
        exact atI_last (by simpa using q)
      refine ss_if (t_w (w_and (t_cmp (c_neW hr.units (w_v 3) (e_wk (e_lstV a_nil)) (okD_cells _) okD_none)) (fun q => (w_and1 (t_cmp (c_eqI (e_ix (e_ixO 3 (e_neg e_int) rfl (hlast q)) e_int (by rfl)) (e_sub (e_v 4) e_int))))))) (fun q => ?_) (fun q => ?_)
      · rw [eqD_nil] at q
        have q : l ≠ [] ∧ (l.getLastD (0, 0)).2 = (i : Int) - 1 := by simpa using q
        rw [if_pos q] at hrn
        have hsp := last_split q.1
        refine ss_popIx (i := 0) (d := .int (l.getLastD (0, 0)).1) 3 5 nd (fun _ => e_int) hsp rfl (h := ?_)
        have hz2 : (cellsD l.dropLast).length < sizeLine := small_ln (by rw [List.length_map, List.length_dropLast]; omega)
        refine ss_app 3 (e_tup (a_cons (e_v 5) (a_cons (e_v 4) a_nil))) ?_ hz2
        refine ss_nil (ss_nil ⟨.val (.int (i : Int)), .val (.int (l.getLastD (0, 0)).1), ?_⟩)
        rw [hrn, cellsD_app]
        rfl
      · rw [eqD_nil] at q
        have q : ¬ (l ≠ [] ∧ (l.getLastD (0, 0)).2 = (i : Int) - 1) := by
          intro z
          rw [decide_eq_false z.1, decide_eq_true z.2] at q
          cases q
        rw [if_neg q] at hrn
        refine ss_app 3 (e_tup (a_cons (e_v 4) (a_cons (e_v 4) a_nil))) ?_ hz
        refine ss_nil (ss_nil ⟨.val (.int (i : Int)), t, ?_⟩)
        rw [hrn, cellsD_app]
        rfl
  · rintro δ ⟨s, t, rfl⟩
    exact ss_retO 3 rfl

def R_law_cell_at (ds : List D) (r : Res) : Prop := ∃ ns k, ds = [.scr ns, .int k] ∧ 0 ≤ k ∧ r = .val (.int (getI ns k))
theorem r_law_cell_at {ns : List Int} {k : Int} (h : 0 ≤ k) : R_law_cell_at [.scr ns, .int k] (.val (.int (getI ns k))) := ⟨ns, k, rfl, h, rfl⟩
theorem cal_law_cell_at (T : Txt K mg) : Cal P w K mg base 1 "_law_cell_at" R_law_cell_at := by
  refine cal_D T.f_law_cell_at sc_law_cell_at (fun ds r ⟨_, _, e, _⟩ => by rw [e]; rfl) fun Z hr ds r ⟨ns, k, e, h0, e2⟩ => ?_
  subst e e2
  refine ss_when (t_cmp (c_lt (e_v 1) (e_len T.g_len (aw_cons (e_wk (e_v 0)) aw_nil)))) (fun h => ?_) (fun h => ?_)
  · have h : k < ((intsD ns).length : Int) := of_decide_eq_true h
    rw [List.length_map] at h
    have h2 : k.toNat < ns.length := by omega
    refine ss_ret (e_ix (e_v 0) (e_v 1) (d := .int (getI ns k)) ?_) rfl
    show atI (ns.map D.int) k = _
    rw [atI_get0 h0 (by rw [List.length_map]; exact h), List.getElem?_map, List.getElem?_eq_getElem h2]
    unfold getI
    rw [List.getD_eq_getElem?_getD, List.getElem?_eq_getElem h2]
    rfl
  · have h : ¬ k < ((intsD ns).length : Int) := of_decide_eq_false h
    rw [List.length_map] at h
    refine ss_ret e_int ?_
    show Res.val (.int 0) = Res.val (.int (getI ns k))
    unfold getI
    rw [List.getD_eq_getElem?_getD, List.getElem?_eq_none (by omega)]
    rfl

def R_law_whole (ds : List D) (r : Res) : Prop := ∃ i, ds = [.int i] ∧ r = .val (.bl true)
theorem r_law_whole {i : Int} : R_law_whole [.int i] (.val (.bl true)) := ⟨i, rfl, rfl⟩
theorem cal_law_whole (T : Txt K mg) : Cal P w K mg base 1 "_law_whole" R_law_whole := by
  refine cal_D T.f_law_whole sc_law_whole (fun ds r ⟨_, e, _⟩ => by rw [e]; rfl) fun Z hr ds r ⟨i, e, e2⟩ => ?_
  subst e e2
  refine ss_ret (e_and (e_isi T.g_isinstance T.g_int (e_wk (e_v 0)) rfl kb_int_int) (fun _ => (e_one (e_not (e_isi T.g_isinstance T.g_bool (e_wk (e_v 0)) rfl kb_int_bool))))) ?_
  rfl

def R_law_cell (ds : List D) (r : Res) : Prop := ∃ a b, ds = [cell a b] ∧ r = .val (.bl true)
theorem r_law_cell {a b : Int} : R_law_cell [cell a b] (.val (.bl true)) := ⟨a, b, rfl, rfl⟩
theorem cal_law_cell (T : Txt K mg) : Cal P w K mg base 2 "_law_cell" R_law_cell := by
  refine cal_D T.f_law_cell sc_law_cell (fun ds r ⟨_, _, e, _⟩ => by rw [e]; rfl) fun Z hr ds r ⟨a, b, e, e2⟩ => ?_
  subst e e2
  refine ss_ret (e_and (e_isi T.g_isinstance T.g_tuple (e_wk (e_v 0)) rfl kb_tup_tup) (fun _ => (e_and (e_cmp (c_eqI (e_len T.g_len (aw_cons (e_wk (e_v 0)) aw_nil)) e_int)) (fun _ => (e_and (e_call (cal_law_whole T) (hr.mono (by decide)) (a_cons (e_ix (e_v 0) e_int (by rfl)) a_nil) r_law_whole) (fun _ => (e_one (e_call (cal_law_whole T) (hr.mono (by decide)) (a_cons (e_ix (e_v 0) e_int (by rfl)) a_nil) r_law_whole)))))))) ?_
  rfl

def R_law_number_by (ds : List D) (r : Res) : Prop := ∃ c, ds = [.int c] ∧ r = .val (.int (numBy c))
theorem r_law_number_by {c : Int} : R_law_number_by [.int c] (.val (.int (numBy c))) := ⟨c, rfl, rfl⟩
theorem cal_law_number_by (T : Txt K mg) : Cal P w K mg base 1 "_law_number_by" R_law_number_by := by
  refine cal_D T.f_law_number_by sc_law_number_by (fun ds r ⟨_, e, _⟩ => by rw [e]; rfl) fun Z hr ds r ⟨c, e, e2⟩ => ?_
  subst e e2
  refine ss_when (t_cmp (c_eqI (e_mod (e_v 0) e_int (by decide)) e_int)) (fun h => ?_) (fun h => ?_)
  · refine ss_ret (e_sub (e_mod (e_fdiv (e_v 0) e_int (divL rfl)) e_int (by decide)) e_int) ?_
    show Res.val (.int _) = Res.val (.int _)
    unfold numBy
    rw [if_pos (of_decide_eq_true h)]
  · refine ss_ret (e_add (e_sub (e_mod (e_mul (e_fdiv (e_v 0) e_int (divL rfl)) e_int (.inr (by decide))) (e_sub (e_mul e_int (e_pow e_int e_int (powL rfl)) (.inl (by decide))) e_int) (by decide)) (e_pow e_int e_int (powL rfl))) e_int) ?_
    show Res.val (.int _) = Res.val (.int _)
    unfold numBy
    rw [if_neg (of_decide_eq_false h)]
    rfl

def R_law_reach (ds : List D) (r : Res) : Prop := ∃ a b c d, ds = [cell a b, cell c d] ∧ r = .val (.int (reach (c - a) (d - b)))
theorem r_law_reach {a b c d : Int} : R_law_reach [cell a b, cell c d] (.val (.int (reach (c - a) (d - b)))) := ⟨a, b, c, d, rfl, rfl⟩
theorem cal_law_reach (T : Txt K mg) : Cal P w K mg base 1 "_law_reach" R_law_reach := by
  refine cal_D T.f_law_reach sc_law_reach (fun ds r ⟨_, _, _, _, e, _⟩ => by rw [e]; rfl) fun Z hr ds r ⟨a, b, c, d, e, e2⟩ => ?_
  subst e e2
  have nd := sc_law_reach.nd
  refine ss_set 2 nd (e_sub (e_ix (e_v 1) e_int (by rfl)) (e_ix (e_v 0) e_int (by rfl))) ?_
  refine ss_set 3 nd (e_sub (e_ix (e_v 1) e_int (by rfl)) (e_ix (e_v 0) e_int (by rfl))) ?_
  refine ss_ret (e_maxL (ns := [c - a, -(c - a), d - b, -(d - b), (c - a) + (d - b), -(c - a) - (d - b)]) T.g_max rfl (a_cons (e_lstV (a_cons (e_v 2) (a_cons (e_neg (e_v 2)) (a_cons (e_v 3) (a_cons (e_neg (e_v 3)) (a_cons (e_add (e_v 2) (e_v 3)) (a_cons (e_sub (e_neg (e_v 2)) (e_v 3)) a_nil))))))) a_nil) (reach_mem _ _) fun y h => reach_ub h) ?_
  rfl

/-- a deed, as the law tells it -/
def deedD : Mo → D
  | .turn k => .tup [.str "turn", .int k]
  | .mirror => .tup [.str "mirror", .int 0]
  | .shift s => .tup [.str "shift", cellP s]
  | _ => .non
def isDeed : Mo → Prop
  | .turn _ => True
  | .mirror => True
  | .shift _ => True
  | _ => False
abbrev deedsD (l : List Mo) : List D := l.map deedD
theorem deeds_getD {l : List Mo} {i : Nat} (h : i < l.length) : (deedsD l).getD i .non = deedD (l.getD i .plain) := by
  rw [List.getD_eq_getElem?_getD, List.getD_eq_getElem?_getD, List.getElem?_map, List.getElem?_eq_getElem h]
  rfl
def deedOf (c : Int) : Mo := if c % 3 = 0 then .turn (numBy (c / 3)) else if c % 3 = 1 then .mirror else .shift (numBy (c / 3), numBy (c / 3 * 69621 % 2147483629))
theorem deedOf_ok (c : Int) : isDeed (deedOf c) := by
  unfold deedOf
  repeat' split
  all_goals trivial
def R_law_deed (ds : List D) (r : Res) : Prop := ∃ c, ds = [.int c] ∧ r = .val (deedD (deedOf c))
theorem r_law_deed {c : Int} : R_law_deed [.int c] (.val (deedD (deedOf c))) := ⟨c, rfl, rfl⟩
theorem cal_law_deed (T : Txt K mg) : Cal P w K mg base 2 "_law_deed" R_law_deed := by
  refine cal_D T.f_law_deed sc_law_deed (fun ds r ⟨_, e, _⟩ => by rw [e]; rfl) fun Z hr ds r ⟨c, e, e2⟩ => ?_
  subst e e2
  have nd := sc_law_deed.nd
  unfold deedOf
  refine ss_set 1 nd (e_call (cal_law_number_by T) (hr.mono (by decide)) (a_cons (e_fdiv (e_v 0) e_int (divL rfl)) a_nil) r_law_number_by) ?_
  refine ss_when (t_cmp (c_eqI (e_mod (e_v 0) e_int (by decide)) e_int)) (fun h => ?_) (fun h => ?_)
  · rw [if_pos (of_decide_eq_true h)]
    exact ss_ret (e_tup (a_cons e_str (a_cons (e_v 1) a_nil))) rfl
  rw [if_neg (of_decide_eq_false h)]
  refine ss_when (t_cmp (c_eqI (e_mod (e_v 0) e_int (by decide)) e_int)) (fun h => ?_) (fun h => ?_)
  · rw [if_pos (of_decide_eq_true h)]
    exact ss_ret (e_tup (a_cons e_str (a_cons e_int a_nil))) rfl
  rw [if_neg (of_decide_eq_false h)]
  exact ss_ret (e_tup (a_cons e_str (a_cons (e_tup (a_cons (e_v 1) (a_cons (e_call (cal_law_number_by T) (hr.mono (by decide)) (a_cons (e_mod (e_mul (e_fdiv (e_v 0) e_int (divL rfl)) e_int (.inr (by decide))) e_int (by decide)) a_nil) r_law_number_by) a_nil))) a_nil))) rfl

def R_law_motion (mg : Str → Option Value) (ds : List D) (r : Res) : Prop := ∃ m, ds = [deedD m] ∧ isDeed m ∧ r = .val (moD mg m)
theorem r_law_motion {m : Mo} (h : isDeed m) : R_law_motion mg [deedD m] (.val (moD mg m)) := ⟨m, rfl, h, rfl⟩
theorem cal_law_motion (T : Txt K mg) : Cal P w K mg base 3 "_law_motion" (R_law_motion mg) := by
  refine cal_D T.f_law_motion sc_law_motion (fun ds r ⟨_, e, _⟩ => by rw [e]; rfl) fun Z hr ds r ⟨m, e, hm, e2⟩ => ?_
  subst e e2
  cases m with
  | turn k =>
    rw [moD_eq]
    exact ss_take (t_cmp (c_eqS (e_ix (e_v 0) e_int (by rfl)) e_str)) rfl (ss_ret (e_make (mk_Turn T) (hr.mono (by decide)) (a_cons (e_ix (e_v 0) e_int (by rfl)) a_nil) ⟨_, rfl, rfl⟩) rfl)
  | mirror =>
    rw [moD_eq]
    refine ss_skip (t_cmp (c_eqS (e_ix (e_v 0) e_int (by rfl)) e_str)) (by decide) ?_
    exact ss_take (t_cmp (c_eqS (e_ix (e_v 0) e_int (by rfl)) e_str)) rfl (ss_ret (e_makeB T.b_Mirror) rfl)
  | shift s =>
    rw [moD_eq]
    refine ss_skip (t_cmp (c_eqS (e_ix (e_v 0) e_int (by rfl)) e_str)) (by decide) ?_
    refine ss_skip (t_cmp (c_eqS (e_ix (e_v 0) e_int (by rfl)) e_str)) (by decide) ?_
    exact ss_ret (e_make (mk_Shift T) (hr.mono (by decide)) (a_cons (e_ix (e_v 0) e_int (by rfl)) a_nil) ⟨_, rfl, rfl⟩) rfl
  | plain => exact hm.elim
  | chain l => exact hm.elim

def R_law_image (ds : List D) (r : Res) : Prop := ∃ c l, ds = [cellP c, .lst (deedsD l)] ∧ (∀ m ∈ l, isDeed m) ∧ r = .val (cellP (imgs l c))
theorem r_law_image {c : Int × Int} {l : List Mo} (h : ∀ m ∈ l, isDeed m) : R_law_image [cellP c, .lst (deedsD l)] (.val (cellP (imgs l c))) := ⟨c, l, rfl, h, rfl⟩
theorem cal_law_image (T : Txt K mg) : Cal P w K mg base 1 "_law_image" R_law_image := by
  refine cal_D T.f_law_image sc_law_image (fun ds r ⟨_, _, e, _⟩ => by rw [e]; rfl) fun Z hr ds r ⟨c, l, e, hl, e2⟩ => ?_
  subst e e2
  have nd := sc_law_image.nd
  refine ss_for rfl rfl (sr_list (e_v 1)) (fun i δ => ∃ s t, δ = [.val (cellP (imgs (l.take i) c)), .val (.lst (deedsD l)), s, t]) ⟨.any, .any, by simp only [List.take_zero, imgs]; rfl⟩ ?_ ?_
  · rintro i δ hi ⟨s, t, rfl⟩
    have hi : i < l.length := by simpa using hi
    rw [deeds_getD hi]
    have hm := hl _ (getD_mem (d := Mo.plain) hi)
    have ht : imgs (l.take (i + 1)) c = img (l.getD i .plain) (imgs (l.take i) c) := by
      rw [take_succ_getD (d := Mo.plain) hi, imgs_app]
      simp only [imgs]
    generalize l.getD i .plain = m at *
    generalize imgs (l.take i) c = q at *
    refine ⟨_, g_nm 2 nd, ?_⟩
    cases m with
    | mirror =>
      simp only [img] at ht
      refine ss_take (t_cmp (c_eqS (e_ix (e_v 2) e_int (by rfl)) e_str)) rfl ?_
      refine ss_set 0 nd (e_tup (a_cons (e_ix (e_v 0) e_int (by rfl)) (a_cons (e_ix (e_v 0) e_int (by rfl)) a_nil))) ?_
      refine ss_nil ?_
      refine ss_skip (t_cmp (c_eqS (e_ix (e_v 2) e_int (by rfl)) e_str)) (by decide) ?_
      refine ss_skip (t_cmp (c_eqS (e_ix (e_v 2) e_int (by rfl)) e_str)) (by decide) ?_
      exact ss_nil ⟨_, _, by rw [ht]; rfl⟩
    | shift d =>
      simp only [img] at ht
      refine ss_skip (t_cmp (c_eqS (e_ix (e_v 2) e_int (by rfl)) e_str)) (by decide) ?_
      refine ss_take (t_cmp (c_eqS (e_ix (e_v 2) e_int (by rfl)) e_str)) rfl ?_
      refine ss_set 0 nd (e_tup (a_cons (e_add (e_ix (e_v 0) e_int (by rfl)) (e_ix (e_ix (e_v 2) e_int (by rfl)) e_int (by rfl))) (a_cons (e_add (e_ix (e_v 0) e_int (by rfl)) (e_ix (e_ix (e_v 2) e_int (by rfl)) e_int (by rfl))) a_nil))) ?_
      refine ss_nil ?_
      refine ss_skip (t_cmp (c_eqS (e_ix (e_v 2) e_int (by rfl)) e_str)) (by decide) ?_
      exact ss_nil ⟨_, _, by rw [ht]; rfl⟩
    | turn k =>
      simp only [img] at ht
      refine ss_skip (t_cmp (c_eqS (e_ix (e_v 2) e_int (by rfl)) e_str)) (by decide) ?_
      refine ss_skip (t_cmp (c_eqS (e_ix (e_v 2) e_int (by rfl)) e_str)) (by decide) ?_
      refine ss_take (t_cmp (c_eqS (e_ix (e_v 2) e_int (by rfl)) e_str)) rfl ?_
      refine ss_for rfl rfl (sr_range1 T.g_range (a_cons (e_mod (e_ix (e_v 2) e_int (by rfl)) e_int (by decide)) a_nil) (by omega) (by omega)) (fun j δ => ∃ u, δ = [.val (cellP (rotN j q)), .val (.lst (deedsD l)), .val (deedD (.turn k)), u]) ⟨_, rfl⟩ ?_ ?_
      · rintro j δ hj ⟨u, rfl⟩
        refine ⟨_, g_nm 3 nd, ?_⟩
        refine ss_set 0 nd (e_tup (a_cons (e_neg (e_ix (e_v 0) e_int (by rfl))) (a_cons (e_add (e_ix (e_v 0) e_int (by rfl)) (e_ix (e_v 0) e_int (by rfl))) a_nil))) ?_
        exact ss_nil ⟨_, rfl⟩
      · rintro δ ⟨u, rfl⟩
        exact ss_nil (ss_nil ⟨_, _, by rw [ht]⟩)
    | plain => exact hm.elim
    | chain l => exact hm.elim
  · rintro δ ⟨s, t, rfl⟩
    rw [List.take_of_length_le (by simp)]
    exact ss_ret (e_v 0) rfl

def R_law_sorted_once (mg : Str → Option Value) (ds : List D) (r : Res) : Prop := ∃ shuts, ds = [floorD mg (dedC shuts), .lst (cellsD shuts)] ∧ shuts.length ≤ 900 ∧ r = .val (.bl true)
theorem r_law_sorted_once {shuts : List (Int × Int)} (h : shuts.length ≤ 900) : R_law_sorted_once mg [floorD mg (dedC shuts), .lst (cellsD shuts)] (.val (.bl true)) := ⟨shuts, rfl, h, rfl⟩
theorem cal_law_sorted_once (T : Txt K mg) : Cal P w K mg base 3 "_law_sorted_once" (R_law_sorted_once mg) := by
  refine cal_D T.f_law_sorted_once sc_law_sorted_once (fun ds r ⟨_, e, _⟩ => by rw [e]; rfl) fun Z hr ds r ⟨shuts, e, hl, e2⟩ => ?_
  subst e e2
  have nd := sc_law_sorted_once.nd
  refine ss_setN 2 nd (e_meth0 (vwalls T) (hr.mono (by decide)) (e_v 0) ⟨dedC shuts, rfl, rfl⟩ (by rfl)) ?_
  refine ss_setN 3 nd (e_lst a_nil) ?_
  have hsl : (sortC (dedC shuts)).length ≤ 900 := by
    rw [(sortC_perm _).length_eq]
    exact Nat.le_trans (ded_len _) hl
  refine ss_for rfl rfl (sr_list (e_v 1)) (fun i δ => ∃ s, δ = [.val (floorD mg (dedC shuts)), .val (.lst (cellsD shuts)), .own (cellsD (sortC (dedC shuts))), .own (cellsD (dedC (shuts.take i))), s]) ⟨.any, rfl⟩ ?_ ?_
  · rintro i δ hi ⟨s, rfl⟩
    have hi : i < shuts.length := by simpa using hi
    rw [cells_getD hi]
    have ht := dedC_take hi
    refine ⟨_, g_nm 4 nd, ?_⟩
    generalize shuts.getD i (0, 0) = c at *
    have hz : (cellsD (dedC (shuts.take i))).length < sizeLine := small_ln (by
      rw [List.length_map]
      have h1 := ded_len (shuts.take i)
      have h2 := List.length_take_le i shuts
      omega)
    refine ss_when (t_cmp (c_notinL (units65 hr) (e_wk (e_v 4)) (w_v 3) (okD_cell _ _) (okD_cells _))) (fun h => ?_) (fun h => ?_)
    · rw [any_cells] at h
      have hn : c ∉ dedC (shuts.take i) := by simpa using h
      refine ss_app 3 (e_v 4) ?_ hz
      refine ss_nil (ss_nil ⟨.val (cellP c), ?_⟩)
      rw [ht]
      unfold putC
      rw [if_neg hn, cellsD_app]
      rfl
    · rw [any_cells] at h
      have hn : c ∈ dedC (shuts.take i) := by simpa using h
      refine ss_nil ⟨.val (cellP c), ?_⟩
      rw [ht]
      unfold putC
      rw [if_pos hn]
      rfl
  · rintro δ ⟨s, rfl⟩
    rw [List.take_of_length_le (by simp)]
    refine ss_skip (t_not (t_val (e_isi T.g_isinstance T.g_list (w_v 2) rfl kb_lst_lst))) rfl ?_
    refine ss_scan 2 4 nd rfl rfl (fun i hi => ?_) ?_ (by decide)
    · rw [cells_getD (by simpa using hi)]
      exact t_not (t_val (e_call (cal_law_cell T) (hr.mono (by decide)) (a_cons (e_v 4) a_nil) r_law_cell))
    refine ss_skip (t_bw (t_cmp (c_neW hr.units (e_wk (e_v 2)) (e_wk (e_frz (e_sortedC T.g_sorted (e_v 3)))) (okD_cells _) (okD_cells _)))) ?_ ?_
    · rw [eqD_cells]
      simp
    refine ss_clear 2 ?_
    exact ss_ret e_bl rfl

theorem candsL_at (a b f : Int) {i : Nat} (h : i < 4) : (candsL a b f)[i]? = some (a / f + (0 + (i : Int)) % 2, b / f + (0 + (i : Int)) / 2) := by
  have : i = 0 ∨ i = 1 ∨ i = 2 ∨ i = 3 := by omega
  rcases this with rfl | rfl | rfl | rfl <;> simp [candsL]
def freeAt (shuts : List (Int × Int)) (o p : Int × Int) (k : Int) : Bool := !decide (freeC shuts (nearC o p k) = [])
def R_law_free_at (ds : List D) (r : Res) : Prop := ∃ a b c d k shuts, ds = [cell a b, cell c d, .int k, .lst (cellsD shuts)] ∧ Bd a ∧ Bd b ∧ Bd c ∧ Bd d ∧ 0 < k ∧ k < farOf (a, b) (c, d) ∧ r = .val (.bl (freeAt shuts (a, b) (c, d) k))
theorem cal_law_free_at (T : Txt K mg) : Cal P w K mg base 2 "_law_free_at" R_law_free_at := by
  refine cal_D T.f_law_free_at sc_law_free_at (fun ds r ⟨_, _, _, _, _, _, e, _⟩ => by rw [e]; rfl) fun Z hr ds r ⟨a, b, c, d, k, shuts, e, ha, hb, hc, hd, h0, h1, e2⟩ => ?_
  subst e e2
  have nd := sc_law_free_at.nd
  refine ss_set 4 nd (e_call (cal_law_reach T) (hr.mono (by decide)) (a_cons (e_v 0) (a_cons (e_v 1) a_nil)) r_law_reach) ?_
  have bF := bd_far ha hb hc hd
  have eF : farOf (a, b) (c, d) = reach (c - a) (d - b) := rfl
  have hfn : freeAt shuts (a, b) (c, d) k = !decide (freeC shuts (lawC (a, b) (c, d) k) = []) := by
    unfold freeAt
    congr 1
    rw [decide_eq_decide]
    exact free_nil.symm
  rw [hfn]
  rw [eF] at h1
  unfold lawC
  rw [eF, if_neg (by omega)]
  generalize reach (c - a) (d - b) = f at *
  have hf0 : 0 < f := by omega
  have bA := bd_pt (c := c) ha hc bF (Int.le_of_lt h0) (Int.le_of_lt h1)
  have bB := bd_pt (c := d) hb hd bF (Int.le_of_lt h0) (Int.le_of_lt h1)
  have eA : ptA (a, b) (c, d) k f = a * f + k * (c - a) := rfl
  have eB : ptB (a, b) (c, d) k f = b * f + k * (d - b) := rfl
  rw [eA, eB]
  unfold Bd at ha hb hc hd
  rw [Int.mul_comm a f] at bA ⊢
  rw [Int.mul_comm b f] at bB ⊢
  refine ss_set 5 nd (e_add (e_mulO (e_v 4) (e_ix (e_v 0) e_int (by rfl)) (mulOk_of (by omega) (by omega))) (e_mulO (e_v 2) (e_sub (e_ix (e_v 1) e_int (by rfl)) (e_ix (e_v 0) e_int (by rfl))) (mulOk_of (by omega) (by omega)))) ?_
  refine ss_set 6 nd (e_add (e_mulO (e_v 4) (e_ix (e_v 0) e_int (by rfl)) (mulOk_of (by omega) (by omega))) (e_mulO (e_v 2) (e_sub (e_ix (e_v 1) e_int (by rfl)) (e_ix (e_v 0) e_int (by rfl))) (mulOk_of (by omega) (by omega)))) ?_
  show Ss _ _ [.val (cell a b), .val (cell c d), .val (.int k), .val (.lst (cellsD shuts)), .val (.int f), .val (.int (f * a + k * (c - a))), .val (.int (f * b + k * (d - b))), .any, .any, .any] _
  generalize f * a + k * (c - a) = A at *
  generalize f * b + k * (d - b) = B at *
  have qA := bd_quot bA hf0
  have qB := bd_quot bB hf0
  have dv : ∀ x : Int, CDivW x f := fun x => divOk_of hf0 (by omega)
  refine ss_for rfl rfl (sr_range1 T.g_range (a_cons e_int a_nil) (by decide) (by decide)) (fun i δ => (∃ s t u, δ = [.val (cell a b), .val (cell c d), .val (.int k), .val (.lst (cellsD shuts)), .val (.int f), .val (.int A), .val (.int B), s, t, u]) ∧ ∀ j : Nat, j < i → ∀ x, (candsL A B f)[j]? = some x → (nearOk A B f x && !decide (x ∈ shuts)) = false) ⟨⟨.any, .any, .any, rfl⟩, fun j h => absurd h (by omega)⟩ ?_ ?_
  · rintro i δ hi ⟨⟨s, t, u, rfl⟩, hI⟩
    have hi : i < 4 := hi
    refine ⟨_, g_nm 7 nd, ?_⟩
    have ct := candsL_at A B f hi
    refine ss_set 8 nd (e_tup (a_cons (e_add (e_fdiv (e_v 5) (e_v 4) (dv _)) (e_mod (e_v 7) e_int (by decide))) (a_cons (e_add (e_fdiv (e_v 6) (e_v 4) (dv _)) (e_fdiv (e_v 7) e_int (divL rfl))) a_nil))) ?_
    show Ss _ _ [.val (cell a b), .val (cell c d), .val (.int k), .val (.lst (cellsD shuts)), .val (.int f), .val (.int A), .val (.int B), .val (.int (0 + (i : Int))), .val (cell (A / f + (0 + (i : Int)) % 2) (B / f + (0 + (i : Int)) / 2)), u] _
    have hx : (A / f + (0 + (i : Int)) % 2).natAbs ≤ 10 ^ 203 := by omega
    have hy : (B / f + (0 + (i : Int)) / 2).natAbs ≤ 10 ^ 203 := by omega
    generalize A / f + (0 + (i : Int)) % 2 = x at *
    generalize B / f + (0 + (i : Int)) / 2 = y at *
    have eR : reach (f * x - A) (f * y - B) = reach (A - x * f) (B - y * f) := by
      rw [← reach_neg, Int.mul_comm f x, Int.mul_comm f y]
      congr 1 <;> omega
    refine ss_set 9 nd (e_call (cal_law_reach T) (hr.mono (by decide)) (a_cons (e_tup (a_cons (e_v 5) (a_cons (e_v 6) a_nil))) (a_cons (e_tup (a_cons (e_mulO (e_v 4) (e_ix (e_v 8) e_int (by rfl)) (mulOk_of (by omega) (by omega))) (a_cons (e_mulO (e_v 4) (e_ix (e_v 8) e_int (by rfl)) (mulOk_of (by omega) (by omega))) a_nil))) a_nil)) r_law_reach) ?_
    have hnk : nearOk A B f (x, y) = decide (2 * reach (f * x - A) (f * y - B) ≤ f) := by rw [eR]; rfl
    refine ss_when (t_w (w_and (t_cmp (c_le (e_mul e_int (e_v 9) (.inl (by decide))) (e_v 4))) (fun _ => (w_and1 (t_cmp (c_notinL (units65 hr) (e_wk (e_v 8)) (e_wk (e_v 3)) (okD_cell _ _) (okD_cells _))))))) (fun h => ?_) (fun h => ?_)
    · rw [any_cells, ← hnk] at h
      have hmem : (x, y) ∈ candsL A B f := List.mem_of_getElem? ct
      have hne : freeC shuts ((candsL A B f).filter (nearOk A B f)) ≠ [] := fun z => by
        unfold freeC at z
        rw [List.filter_eq_nil_iff] at z
        rw [Bool.and_eq_true] at h
        exact z (x, y) (List.mem_filter.mpr ⟨hmem, h.1⟩) h.2
      rw [decide_eq_false hne]
      exact ss_ret e_bl rfl
    · rw [any_cells, ← hnk] at h
      refine ss_nil ⟨⟨_, _, _, rfl⟩, fun j hj z hz => ?_⟩
      by_cases q : j = i
      · subst q
        rw [ct] at hz
        cases hz
        exact h
      · exact hI j (by omega) z hz
  · rintro δ ⟨⟨s, t, u, rfl⟩, hI⟩
    have hne : freeC shuts ((candsL A B f).filter (nearOk A B f)) = [] := by
      unfold freeC
      rw [List.filter_eq_nil_iff]
      intro z hz
      have ⟨z1, z2⟩ := List.mem_filter.mp hz
      obtain ⟨j, hj, e⟩ := List.getElem_of_mem z1
      have hj4 : j < 4 := hj
      have := hI j hj4 z (by rw [List.getElem?_eq_getElem hj, e])
      rw [z2, Bool.true_and] at this
      rw [this]
      decide
    rw [decide_eq_true hne]
    exact ss_ret e_bl rfl

def R_law_seen (ds : List D) (r : Res) : Prop := ∃ a b c d shuts, ds = [cell a b, cell c d, .lst (cellsD shuts)] ∧ Bd a ∧ Bd b ∧ Bd c ∧ Bd d ∧ r = .val (.bl (barN shuts (a, b) (c, d)).isNone)
theorem cal_law_seen (T : Txt K mg) : Cal P w K mg base 3 "_law_seen" R_law_seen := by
  refine cal_D T.f_law_seen sc_law_seen (fun ds r ⟨_, _, _, _, _, e, _⟩ => by rw [e]; rfl) fun Z hr ds r ⟨a, b, c, d, shuts, e, ha, hb, hc, hd, e2⟩ => ?_
  subst e e2
  have nd := sc_law_seen.nd
  have eF : farOf (a, b) (c, d) = reach (c - a) (d - b) := rfl
  refine ss_for rfl rfl (sr_range2 T.g_range (a_cons e_int (a_cons (e_call (cal_law_reach T) (hr.mono (by decide)) (a_cons (e_v 0) (a_cons (e_v 1) a_nil)) r_law_reach) a_nil))) (fun i δ => (∃ s, δ = [.val (cell a b), .val (cell c d), .val (.lst (cellsD shuts)), s]) ∧ ∀ j : Nat, j < i → freeC shuts (nearC (a, b) (c, d) (1 + (j : Nat))) ≠ []) ⟨⟨.any, rfl⟩, fun j h => absurd h (by omega)⟩ ?_ ?_
  · rintro i δ hi ⟨⟨s, rfl⟩, hI⟩
    have hi : i < (farOf (a, b) (c, d) - 1).toNat := hi
    refine ⟨_, g_nm 3 nd, ?_⟩
    refine ss_when (t_not (t_val (e_call (cal_law_free_at T) (hr.mono (by decide)) (a_cons (e_v 0) (a_cons (e_v 1) (a_cons (e_v 3) (a_cons (e_v 2) a_nil)))) ⟨a, b, c, d, _, shuts, rfl, ha, hb, hc, hd, by omega, by omega, rfl⟩))) (fun h => ?_) (fun h => ?_)
    · unfold freeAt at h
      have h : freeC shuts (nearC (a, b) (c, d) (1 + (i : Nat))) = [] := by simpa using h
      rw [barN_at hi h hI]
      exact ss_ret e_bl rfl
    · unfold freeAt at h
      have h : freeC shuts (nearC (a, b) (c, d) (1 + (i : Nat))) ≠ [] := by simpa using h
      exact ss_nil ⟨⟨_, rfl⟩, fun j hj => by
        by_cases q : j = i
        · rw [q]; exact h
        · exact hI j (by omega)⟩
  · rintro δ ⟨⟨s, rfl⟩, hI⟩
    have eB : barN shuts (a, b) (c, d) = none := barN_no hI
    rw [eB]
    exact ss_ret e_bl rfl

def ballL (m : Int × Int) (k : Nat) : List (Int × Int) := (ballC k).map (addP m)
theorem ballL_succ (m : Int × Int) (k : Nat) : ballL m (k + 1) = ballL m k ++ [addP m (cellAtC (k : Int))] := by
  unfold ballL ballC
  rw [List.range_succ, List.map_append, List.map_append]
  rfl
theorem ballL_len (m : Int × Int) (k : Nat) : (ballL m k).length = k := by
  unfold ballL ballC
  rw [List.length_map, List.length_map, List.length_range]
theorem ballL_last (m : Int × Int) (k : Nat) : atI (cellsD (ballL m (k + 1))) (-1) = some (cellP (addP m (cellAtC (k : Int)))) := by
  have h : ballL m (k + 1) ≠ [] := fun z => by
    have := ballL_len m (k + 1)
    rw [z] at this
    cases this
  rw [atI_last h, List.getLastD_eq_getLast?, ballL_succ, List.getLast?_concat]
  rfl
def R_law_cells (ds : List D) (r : Res) : Prop := ∃ m n, ds = [cellP m, .int n] ∧ 0 ≤ n ∧ n ≤ 10 ∧ r = .new (cellsD (ballL m (ballN n)))
theorem r_law_cells {m : Int × Int} {n : Int} (h0 : 0 ≤ n) (h1 : n ≤ 10) : R_law_cells [cellP m, .int n] (.new (cellsD (ballL m (ballN n)))) := ⟨m, n, rfl, h0, h1, rfl⟩
theorem ballN_nat (i : Nat) : (ballN (i : Int) : Int) = 3 * (i : Int) * ((i : Int) + 1) + 1 := by
  have : 0 ≤ 3 * (i : Int) * ((i : Int) + 1) := Int.mul_nonneg (by omega) (by omega)
  unfold ballN
  omega
theorem cal_law_cells (T : Txt K mg) : Cal P w K mg base 1 "_law_cells" R_law_cells := by
  refine cal_D T.f_law_cells sc_law_cells (fun ds r ⟨_, _, e, _⟩ => by rw [e]; rfl) fun Z hr ds r ⟨m, n, e, h0, h1, e2⟩ => ?_
  subst e e2
  have nd := sc_law_cells.nd
  refine ss_setN 2 nd (e_lst (a_cons (e_v 0) a_nil)) ?_
  have e0 : [cellP m] = cellsD (ballL m (ballN ((0 : Nat) : Int))) := by
    show [cellP m] = cellsD (ballL m 1)
    rw [ballL_succ]
    show [cellP m] = [cellP (addP m (0, 0))]
    unfold addP
    rw [Int.add_zero, Int.add_zero]
  refine ss_for rfl rfl (sr_range2 T.g_range (a_cons e_int (a_cons (e_add (e_v 1) e_int) a_nil))) (fun i δ => ∃ s t u v x, δ = [.val (cellP m), .val (.int n), .own (cellsD (ballL m (ballN (i : Int)))), s, t, u, v, x]) ⟨.any, .any, .any, .any, .any, by rw [← e0]; rfl⟩ ?_ ?_
  · rintro i δ hi ⟨s, t, u, v, x, rfl⟩
    have hi : (i : Int) < n := by omega
    have hb := ballN_nat i
    have hb2 := ballN_nat (i + 1)
    have hbl := ballN_le (n := ((i + 1 : Nat) : Int)) (by omega) (by omega)
    have hstep : ballN ((i + 1 : Nat) : Int) = ballN (i : Int) + 6 * (i + 1) := by
      have : 3 * ((i + 1 : Nat) : Int) * (((i + 1 : Nat) : Int) + 1) = 3 * (i : Int) * ((i : Int) + 1) + 6 * ((i : Int) + 1) := by
        rw [Int.natCast_add]
        grind
      omega
    obtain ⟨k, hk⟩ : ∃ k, ballN (i : Int) = k + 1 := ⟨ballN (i : Int) - 1, by
      have : 0 ≤ 3 * (i : Int) * ((i : Int) + 1) := Int.mul_nonneg (by omega) (by omega)
      omega⟩
    refine ⟨_, g_nm 3 nd, ?_⟩
    have hla : atI (cellsD (ballL m (ballN (i : Int)))) (-1) = some (cellP (addP m (cellAtC (k : Int)))) := by rw [hk]; exact ballL_last m k
    refine ss_set 4 nd (e_ixO 2 (e_neg e_int) rfl hla) ?_
    refine ss_for rfl rfl (sr_range1 T.g_range (a_cons (e_mul e_int (e_v 3) (.inl (by decide))) a_nil) (by omega) (by omega)) (fun j δ => ∃ u v x, δ = [.val (cellP m), .val (.int n), .own (cellsD (ballL m (ballN (i : Int) + j))), .val (.int (1 + (i : Int))), .val (cellP (addP m (cellAtC ((k + j : Nat) : Int)))), u, v, x]) ⟨_, _, _, rfl⟩ ?_ ?_
    · rintro j δ hj ⟨u, v, x, rfl⟩
      have hj : j < 6 * (i + 1) := by omega
      rw [Int.zero_add]
      refine ⟨_, g_nm 5 nd, ?_⟩
      have hw := nextWay_ok (1 + (i : Int)) (j : Int)
      have hsp := spiral_next (n := 1 + (i : Int)) (h := (j : Int)) (by omega) (by omega) (by omega)
      have ekj : 3 * (1 + (i : Int)) * (1 + (i : Int) - 1) + 1 + (j : Int) = ((k + j + 1 : Nat) : Int) := by
        have : 3 * (1 + (i : Int)) * (1 + (i : Int) - 1) = 3 * (i : Int) * ((i : Int) + 1) := by grind
        omega
      rw [ekj] at hsp
      have hsp := hsp.2
      rw [show ((k + j + 1 : Nat) : Int) - 1 = ((k + j : Nat) : Int) by omega] at hsp
      refine ss_set 6 nd (e_mod (e_add (e_fdiv (e_v 5) (e_v 3) (divOk_of (by omega) (by omega))) e_int) e_int (by decide)) ?_
      refine ss_whenJ (fun δ' => δ' = [.val (cellP m), .val (.int n), .own (cellsD (ballL m (ballN (i : Int) + j))), .val (.int (1 + (i : Int))), .val (cellP (addP m (cellAtC ((k + j : Nat) : Int)))), .val (.int (j : Int)), .val (.int (nextWay (1 + (i : Int)) (j : Int))), x]) (t_cmp (c_eqI (e_v 5) e_int)) (fun h Q q => ?_) (fun h => ?_) ?_
      · refine ss_set 6 nd e_int ?_
        refine ss_nil (q _ ?_)
        unfold nextWay
        rw [if_pos (of_decide_eq_true h)]
        rfl
      · unfold nextWay
        rw [if_neg (of_decide_eq_false h)]
        rfl
      rintro δ rfl
      refine ss_set 7 nd (e_ix (e_lstV (a_cons (e_tup (a_cons e_int (a_cons e_int a_nil))) (a_cons (e_tup (a_cons e_int (a_cons e_int a_nil))) (a_cons (e_tup (a_cons (e_neg e_int) (a_cons e_int a_nil))) (a_cons (e_tup (a_cons (e_neg e_int) (a_cons e_int a_nil))) (a_cons (e_tup (a_cons e_int (a_cons (e_neg e_int) a_nil))) (a_cons (e_tup (a_cons e_int (a_cons (e_neg e_int) a_nil))) a_nil))))))) (e_v 6) (ways_at' hw.1 hw.2)) ?_
      refine ss_set 4 nd (e_tup (a_cons (e_add (e_ix (e_v 4) e_int (by rfl)) (e_ix (e_v 7) e_int (by rfl))) (a_cons (e_add (e_ix (e_v 4) e_int (by rfl)) (e_ix (e_v 7) e_int (by rfl))) a_nil))) ?_
      generalize nextWay (1 + (i : Int)) (j : Int) = wy at *
      have hc : addP m (cellAtC ((k + j + 1 : Nat) : Int)) = step1 (addP m (cellAtC ((k + j : Nat) : Int))) wy := by rw [hsp, addP_step]
      show Ss _ _ [.val (cellP m), .val (.int n), .own (cellsD (ballL m (ballN (i : Int) + j))), .val (.int (1 + (i : Int))), .val (cellP (step1 (addP m (cellAtC ((k + j : Nat) : Int))) wy)), .val (.int (j : Int)), .val (.int wy), .val (cell (wayA wy) (wayB wy))] _
      rw [← hc]
      have hz : (cellsD (ballL m (ballN (i : Int) + j))).length < sizeLine := small_ln (by rw [List.length_map, ballL_len]; omega)
      refine ss_app 2 (e_v 4) ?_ hz
      refine ss_nil ⟨.val (.int (j : Int)), .val (.int wy), .val (cell (wayA wy) (wayB wy)), ?_⟩
      rw [← Nat.add_assoc (ballN (i : Int)), ballL_succ, cellsD_app, show ballN (i : Int) + j = k + j + 1 by omega, ← Nat.add_assoc k]
      rfl
    · rintro δ ⟨u, v, x, rfl⟩
      refine ss_nil ⟨.val (.int (1 + (i : Int))), .val (cellP (addP m (cellAtC ((k + (6 * (1 + (i : Int))).toNat : Nat) : Int)))), u, v, x, ?_⟩
      rw [hstep, show (6 * (1 + (i : Int))).toNat = 6 * (i + 1) by omega]
  · rintro δ ⟨s, t, u, v, x, rfl⟩
    refine ss_retO 2 ?_
    have : (((n + 1 - 1).toNat : Nat) : Int) = n := by omega
    rw [this]
    rfl

def R_law_stretches (ds : List D) (r : Res) : Prop := ∃ l, ds = [.lst (cellsD l)] ∧ (∀ q ∈ l, q.1 ≤ q.2) ∧ r = .val (.bl true)
theorem r_law_stretches {kept : List (Int × Int)} {o : Int × Int} {n : Int} : R_law_stretches [.lst (cellsD (strC kept o n))] (.val (.bl true)) := ⟨_, rfl, fun q h => (runs_le _ _ q h).1, rfl⟩
theorem cal_law_stretches (T : Txt K mg) : Cal P w K mg base 3 "_law_stretches" R_law_stretches := by
  refine cal_D T.f_law_stretches sc_law_stretches (fun ds r ⟨_, e, _⟩ => by rw [e]; rfl) fun Z hr ds r ⟨l, e, hl, e2⟩ => ?_
  subst e e2
  have nd := sc_law_stretches.nd
  refine ss_skip (t_not (t_val (e_isi T.g_isinstance T.g_list (e_wk (e_v 0)) rfl kb_lst_lst))) rfl ?_
  refine ss_for rfl rfl (sr_list (e_v 0)) (fun i δ => ∃ s, δ = [.val (.lst (cellsD l)), s]) ⟨.any, rfl⟩ ?_ ?_
  · rintro i δ hi ⟨s, rfl⟩
    have hi : i < l.length := by simpa using hi
    rw [cells_getD hi]
    have hm := hl _ (getD_mem (d := ((0, 0) : Int × Int)) hi)
    generalize l.getD i (0, 0) = q at *
    refine ⟨_, g_nm 1 nd, ?_⟩
    refine ss_skip (t_w (w_or (t_not (t_val (e_call (cal_law_cell T) (hr.mono (by decide)) (a_cons (e_v 1) a_nil) r_law_cell))) (fun _ => (w_or1 (t_cmp (c_gt (e_ix (e_v 1) e_int (by rfl)) (e_ix (e_v 1) e_int (by rfl)))))))) ?_ (ss_nil ⟨_, rfl⟩)
    rw [decide_eq_false (show ¬ q.2 < q.1 by omega)]
    rfl
  · rintro δ ⟨s, rfl⟩
    exact ss_ret e_bl rfl

def R_law_due (ds : List D) (r : Res) : Prop := ∃ a b n shuts, ds = [cell a b, .int n, .lst (cellsD shuts)] ∧ Bs a ∧ Bs b ∧ 0 ≤ n ∧ n ≤ 10 ∧ r = .new (cellsD (strC (dedC shuts) (a, b) n))
theorem r_law_due {shuts : List (Int × Int)} {a b n : Int} (ha : Bs a) (hb : Bs b) (h0 : 0 ≤ n) (h1 : n ≤ 10) : R_law_due [cell a b, .int n, .lst (cellsD shuts)] (.new (cellsD (strC (dedC shuts) (a, b) n))) := ⟨a, b, n, shuts, rfl, ha, hb, h0, h1, rfl⟩
theorem ballL_at (m : Int × Int) {k i : Nat} (h : i < k) : (D.lst (cellsD (ballL m k))).items.bind (atI · (i : Int)) = some (cellP (addP m (cellAtC (i : Int)))) := by
  show atI (cellsD (ballL m k)) (i : Int) = _
  rw [atI_get0 (by omega) (by rw [List.length_map, ballL_len]; omega), List.getElem?_map, Int.toNat_natCast]
  unfold ballL ballC
  rw [List.getElem?_map, List.getElem?_map, List.getElem?_range h]
  rfl
theorem cal_law_due (T : Txt K mg) : Cal P w K mg base 4 "_law_due" R_law_due := by
  refine cal_D T.f_law_due sc_law_due (fun ds r ⟨_, _, _, _, e, _⟩ => by rw [e]; rfl) fun Z hr ds r ⟨a, b, n, shuts, e, ha, hb, h0, h1, e2⟩ => ?_
  subst e e2
  have nd := sc_law_due.nd
  have hN := ballN_le h0 h1
  have hcl : (cellsD (ballL (a, b) (ballN n))).length = ballN n := by rw [List.length_map, ballL_len]
  refine ss_setN 3 nd (e_lst a_nil) ?_
  refine ss_set 4 nd (e_frz (e_call (cal_law_cells T) (hr.mono (by decide)) (a_cons (e_v 0) (a_cons (e_v 1) a_nil)) (r_law_cells (m := (a, b)) h0 h1))) ?_
  refine ss_for rfl rfl (sr_range1 T.g_range (a_cons (e_len T.g_len (aw_cons (e_wk (e_v 4)) aw_nil)) a_nil) (by rw [hcl]; omega) (by rw [hcl]; omega)) (fun i δ => ∃ s, δ = [.val (cell a b), .val (.int n), .val (.lst (cellsD shuts)), .own (cellsD (runs (seenAt (dedC shuts) (a, b)) i)), .val (.lst (cellsD (ballL (a, b) (ballN n)))), s]) ⟨.any, rfl⟩ ?_ ?_
  · rintro i δ hi ⟨s, rfl⟩
    have hi : i < ballN n := by rw [hcl] at hi; omega
    rw [Int.zero_add]
    refine ⟨_, g_nm 5 nd, ?_⟩
    have ⟨s1, s2⟩ := cellAt_small h0 h1 hi
    have bd1 : Bd (a + (cellAtC (i : Int)).1) := bs_add ha (by omega)
    have bd2 : Bd (b + (cellAtC (i : Int)).2) := bs_add hb (by omega)
    have hat := ballL_at (a, b) hi
    have hrl := runs_len (seenAt (dedC shuts) (a, b)) i
    have hrn : runs (seenAt (dedC shuts) (a, b)) (i + 1) = if seenAt (dedC shuts) (a, b) i = true then addRun (runs (seenAt (dedC shuts) (a, b)) i) i else runs (seenAt (dedC shuts) (a, b)) i := rfl
    have hse : (barN shuts (a, b) (a + (cellAtC (i : Int)).1, b + (cellAtC (i : Int)).2)).isNone = seenAt (dedC shuts) (a, b) i := by
      unfold seenAt
      rw [barN_ded]
      rfl
    refine ss_when (t_val (e_call (cal_law_seen T) (hr.mono (by decide)) (a_cons (e_v 0) (a_cons (e_ix (e_v 4) (e_v 5) hat) (a_cons (e_v 2) a_nil))) ⟨a, b, _, _, shuts, rfl, bs_bd ha, bs_bd hb, bd1, bd2, rfl⟩)) (fun h => ?_) (fun h => ?_)
    · have h : seenAt (dedC shuts) (a, b) i = true := hse.symm.trans h
      rw [h, if_pos rfl] at hrn
      generalize runs (seenAt (dedC shuts) (a, b)) i = l at *
      unfold addRun at hrn
      have hz : (cellsD l).length < sizeLine := small_ln (by rw [List.length_map]; omega)
      have hlast : (!eqD (.lst (cellsD l)) (.lst [])) = true → atI (cellsD l) (-1) = some (cellP (l.getLastD (0, 0))) := fun q => by
        rw [eqD_nil] at q
        exact atI_last (by simpa using q)
      refine ss_if (t_w (w_and (t_cmp (c_neW hr.units (w_v 3) (e_wk (e_lstV a_nil)) (okD_cells _) okD_none)) (fun q => (w_and1 (t_cmp (c_eqI (e_ix (e_ixO 3 (e_neg e_int) rfl (hlast q)) e_int (by rfl)) (e_sub (e_v 5) e_int))))))) (fun q => ?_) (fun q => ?_)
      · rw [eqD_nil] at q
        have q : l ≠ [] ∧ (l.getLastD (0, 0)).2 = (i : Int) - 1 := by simpa using q
        rw [if_pos q] at hrn
        have hl0 : 0 < l.length := List.length_pos_iff.mpr q.1
        have hix : ixN (cellsD l).length (-1) = some (l.length - 1) := by
          unfold ixN
          rw [if_neg (by decide), if_pos (by rw [List.length_map]; omega), List.length_map]
          congr 1
          omega
        refine ss_setAt 3 (l.length - 1) (e_tup (a_cons (e_ix (e_ixO 3 (e_neg e_int) rfl (atI_last q.1)) e_int (by rfl)) (a_cons (e_v 5) a_nil))) (fun _ => e_neg e_int) hix ?_
        refine ss_nil (ss_nil (ss_nil ⟨.val (.int (i : Int)), ?_⟩))
        have hset : (cellsD l).set (l.length - 1) (cell (l.getLastD (0, 0)).1 (i : Int)) = cellsD (l.dropLast ++ [((l.getLastD (0, 0)).1, (i : Int))]) := by
          rw [last_split q.1, cellsD_app, List.set_append_right _ _ (by rw [List.length_map, List.length_dropLast]; exact Nat.le_refl _), List.length_map, List.length_dropLast, Nat.sub_self]
          rfl
        rw [hrn, ← hset]
        rfl
      · rw [eqD_nil] at q
        have q : ¬ (l ≠ [] ∧ (l.getLastD (0, 0)).2 = (i : Int) - 1) := by
          intro z
          rw [decide_eq_false z.1, decide_eq_true z.2] at q
          cases q
        rw [if_neg q] at hrn
        refine ss_app 3 (e_tup (a_cons (e_v 5) (a_cons (e_v 5) a_nil))) ?_ hz
        refine ss_nil (ss_nil (ss_nil ⟨.val (.int (i : Int)), ?_⟩))
        rw [hrn, cellsD_app]
        rfl
    · have h : seenAt (dedC shuts) (a, b) i = false := hse.symm.trans h
      refine ss_nil ⟨.val (.int (i : Int)), ?_⟩
      rw [hrn, if_neg (by rw [h]; decide)]
      rfl
  · rintro δ ⟨s, rfl⟩
    refine ss_retO 3 ?_
    rw [hcl]
    rfl

def R_law_many (ds : List D) (r : Res) : Prop := ∃ l : List (Int × Int), ds = [.lst (cellsD l)] ∧ l.length ≤ 1000 ∧ r = .val (.int (manyC l))
theorem r_law_many {l : List (Int × Int)} (h : l.length ≤ 1000) : R_law_many [.lst (cellsD l)] (.val (.int (manyC l))) := ⟨l, rfl, h, rfl⟩
theorem cal_law_many (T : Txt K mg) : Cal P w K mg base 1 "_law_many" R_law_many := by
  refine cal_D T.f_law_many sc_law_many (fun ds r ⟨_, e, _⟩ => by rw [e]; rfl) fun Z hr ds r ⟨l, e, hl, e2⟩ => ?_
  subst e e2
  have nd := sc_law_many.nd
  have hcl : (cellsD l).length = l.length := List.length_map _
  have em : made (cellsD l).length (fun _ => true) (fun i => .int ((l.getD i (0, 0)).2 + 1 - (l.getD i (0, 0)).1)) = (l.map fun q => q.2 + 1 - q.1).map D.int := by
    rw [made_all, hcl, List.map_map]
    apply List.ext_getElem?
    intro i
    rw [List.getElem?_map, List.getElem?_map]
    by_cases h : i < l.length
    · rw [List.getElem?_range h, Option.map_some, List.getD_eq_getElem?_getD, List.getElem?_eq_getElem h]
      rfl
    · rw [List.getElem?_eq_none (by rw [List.length_range]; omega), List.getElem?_eq_none (by omega)]
      rfl
  have hE : Ee (bx P w K mg base ["_law_stretches_here", "_law_first", "_law_last"] "_law_many" (defScope s_law_many) Z) (match defBody s_law_many with | [.Return (some (.Call _ [e] _ _)) _] => e | _ => .Constant .none 0 ⟨0, 0, 0, 0⟩) [.val (.lst (cellsD l)), .any, .any] (.lst ((l.map fun q => q.2 + 1 - q.1).map D.int)) := by
    rw [← em]
    refine e_frz (e_lc [("_law_first", 1), ("_law_last", 2)] (fun _ => true) (fun i => .int ((l.getD i (0, 0)).2 + 1 - (l.getD i (0, 0)).1)) (fun i => [.val (.lst (cellsD l)), .val (.int (l.getD i (0, 0)).1), .val (.int (l.getD i (0, 0)).2)]) ["_law_stretches_here", "_law_first", "_law_last"] (defScope s_law_many) rfl nd (sr_list (e_v 0)) (Nat.le_trans (by rw [hcl]; exact hl) (by decide)) (by decide +kernel) ?_ ?_ ?_)
    · intro s H C cl fp i hi
      show EgW _ [1, 2] _ ((cellsD l).getD i .non) _ _
      rw [cells_getD (by rw [← hcl]; exact hi)]
      exact gw_two 1 2 nd rfl
    · intro s H C cl fp i hi
      exact if_nil
    · intro s H C cl fp i hi _
      exact e_sub (e_add (e_v 2) e_int) (e_v 1)
  exact ss_ret (e_sum T.g_sum rfl (a_cons hE a_nil)) rfl

def R_law_meets (mg : Str → Option Value) (ds : List D) (r : Res) : Prop := ∃ cs a b c d l, ds = [floorD mg (dedC cs), cell a b, cell c d, floorD mg (dedC (cs.map (img (.chain l)))), .lst (deedsD l)] ∧ (∀ m ∈ l, isDeed m) ∧ Bd a ∧ Bd b ∧ Bd c ∧ Bd d ∧
  Bd (img (.chain l) (a, b)).1 ∧ Bd (img (.chain l) (a, b)).2 ∧ Bd (img (.chain l) (c, d)).1 ∧ Bd (img (.chain l) (c, d)).2 ∧ r = .val (.bl true)
theorem r_sees_of {kept : List (Int × Int)} {a b c d : Int} {x : Option Nat} (ha : Bd a) (hb : Bd b) (hc : Bd c) (hd : Bd d) (h : barN kept (a, b) (c, d) = x) : R_sees mg [floorD mg kept, cell a b, cell c d] (.val (.bl x.isNone)) := ⟨kept, a, b, c, d, rfl, ha, hb, hc, hd, by rw [h]⟩
theorem r_sees_b {kept : List (Int × Int)} {a b c d : Int} {x : Bool} (ha : Bd a) (hb : Bd b) (hc : Bd c) (hd : Bd d) (h : (barN kept (a, b) (c, d)).isNone = x) : R_sees mg [floorD mg kept, cell a b, cell c d] (.val (.bl x)) := ⟨kept, a, b, c, d, rfl, ha, hb, hc, hd, by rw [h]⟩
theorem r_barred_of {kept : List (Int × Int)} {o p : Int × Int} {x : Option Nat} (ha : Bd o.1) (hb : Bd o.2) (hc : Bd p.1) (hd : Bd p.2) (h : barN kept o p = x) : R_barred mg [floorD mg kept, cellP o, cellP p] (.val (barD x)) := ⟨kept, o.1, o.2, p.1, p.2, rfl, ha, hb, hc, hd, by rw [h]⟩
theorem cal_law_meets (T : Txt K mg) : Cal P w K mg base 6 "_law_meets" (R_law_meets mg) := by
  refine cal_D T.f_law_meets sc_law_meets (fun ds r ⟨_, _, _, _, _, _, e, _⟩ => by rw [e]; rfl) fun Z hr ds r ⟨cs, a, b, c, d, l, e, hl, ha, hb, hc, hd, i1, i2, i3, i4, e2⟩ => ?_
  subst e e2
  have nd := sc_law_meets.nd
  have hbk := bar_back (dedC cs) (a, b) (c, d)
  have hmv := bar_moved (.chain l) cs (a, b) (c, d)
  have hio : ∀ q, img (.chain l) q = imgs l q := fun q => by simp only [img]
  rw [hio, hio] at hmv
  rw [hio] at i1 i2 i3 i4
  cases q : barN (dedC cs) (a, b) (c, d) with
  | none =>
    rw [q] at hbk hmv
    refine ss_set 5 nd (e_meth (vsees T) (hr.mono (by decide)) (e_v 0) (a_cons (e_v 1) (a_cons (e_v 2) a_nil)) (r_sees_of ha hb hc hd q) (by rfl)) ?_
    refine ss_set 6 nd (e_meth (vsees T) (hr.mono (by decide)) (e_v 0) (a_cons (e_v 2) (a_cons (e_v 1) a_nil)) (r_sees_b hc hd ha hb hbk) (by rfl)) ?_
    refine ss_skip (t_w (w_or (t_not (t_val (e_isi T.g_isinstance T.g_bool (e_wk (e_v 5)) rfl kb_bool_bool))) (fun _ => (w_or (t_not (t_val (e_isi T.g_isinstance T.g_bool (e_wk (e_v 6)) rfl kb_bool_bool))) (fun _ => (w_or1 (t_cmp (c_neB (e_v 5) (e_v 6))))))))) rfl ?_
    refine ss_set 7 nd (e_meth (vbarred T) (hr.mono (by decide)) (e_v 3) (a_cons (e_call (cal_law_image T) (hr.mono (by decide)) (a_cons (e_v 1) (a_cons (e_v 4) a_nil)) (r_law_image (c := (a, b)) hl)) (a_cons (e_call (cal_law_image T) (hr.mono (by decide)) (a_cons (e_v 2) (a_cons (e_v 4) a_nil)) (r_law_image (c := (c, d)) hl)) a_nil)) (r_barred_of i1 i2 i3 i4 hmv) (by rfl)) ?_
    refine ss_take (t_cmp (c_isN (e_wk (e_v 7)))) rfl (ss_ret (e_and (e_v 5) (fun _ => (e_one (e_cmp (c_isN (e_wk (e_meth (vbarred T) (hr.mono (by decide)) (e_v 0) (a_cons (e_v 1) (a_cons (e_v 2) a_nil)) (r_barred_of (o := (a, b)) (p := (c, d)) ha hb hc hd q) (by rfl)))))))) ?_)
    rfl
  | some n =>
    rw [q] at hbk hmv
    refine ss_set 5 nd (e_meth (vsees T) (hr.mono (by decide)) (e_v 0) (a_cons (e_v 1) (a_cons (e_v 2) a_nil)) (r_sees_of ha hb hc hd q) (by rfl)) ?_
    refine ss_set 6 nd (e_meth (vsees T) (hr.mono (by decide)) (e_v 0) (a_cons (e_v 2) (a_cons (e_v 1) a_nil)) (r_sees_b hc hd ha hb hbk) (by rfl)) ?_
    refine ss_skip (t_w (w_or (t_not (t_val (e_isi T.g_isinstance T.g_bool (e_wk (e_v 5)) rfl kb_bool_bool))) (fun _ => (w_or (t_not (t_val (e_isi T.g_isinstance T.g_bool (e_wk (e_v 6)) rfl kb_bool_bool))) (fun _ => (w_or1 (t_cmp (c_neB (e_v 5) (e_v 6))))))))) rfl ?_
    refine ss_set 7 nd (e_meth (vbarred T) (hr.mono (by decide)) (e_v 3) (a_cons (e_call (cal_law_image T) (hr.mono (by decide)) (a_cons (e_v 1) (a_cons (e_v 4) a_nil)) (r_law_image (c := (a, b)) hl)) (a_cons (e_call (cal_law_image T) (hr.mono (by decide)) (a_cons (e_v 2) (a_cons (e_v 4) a_nil)) (r_law_image (c := (c, d)) hl)) a_nil)) (r_barred_of i1 i2 i3 i4 hmv) (by rfl)) ?_
    refine ss_skip (t_cmp (c_isN (e_wk (e_v 7)))) rfl ?_
    refine ss_ret (e_and (e_not (e_v 5)) (fun _ => (e_and (e_call (cal_law_whole T) (hr.mono (by decide)) (a_cons (e_v 7) a_nil) r_law_whole) (fun _ => (e_one (e_cmp (c_eqI (e_v 7) (e_meth (vbarred T) (hr.mono (by decide)) (e_v 0) (a_cons (e_v 1) (a_cons (e_v 2) a_nil)) (r_barred_of (o := (a, b)) (p := (c, d)) ha hb hc hd q) (by rfl))))))))) ?_
    rw [decide_eq_true rfl]
    rfl

def R_law_balls (mg : Str → Option Value) (ds : List D) (r : Res) : Prop := ∃ cs a b c d n, ds = [floorD mg (dedC cs), cell a b, cell c d, .int n, .lst (cellsD cs)] ∧ Bs a ∧ Bs b ∧ Bs c ∧ Bs d ∧ 0 ≤ n ∧ n ≤ 5 ∧ r = .val (.bl true)
theorem cal_law_balls (T : Txt K mg) : Cal P w K mg base 7 "_law_balls" (R_law_balls mg) := by
  refine cal_D T.f_law_balls sc_law_balls (fun ds r ⟨_, _, _, _, _, _, e, _⟩ => by rw [e]; rfl) fun Z hr ds r ⟨cs, a, b, c, d, n, e, ha, hb, hc, hd, h0, h1, e2⟩ => ?_
  subst e e2
  have nd := sc_law_balls.nd
  refine ss_set 5 nd (e_frz (e_meth (vstretches T) (hr.mono (by decide)) (e_v 0) (a_cons (e_v 1) (a_cons (e_v 3) a_nil)) (r_stretches ha hb h0 (by omega)) (by rfl))) ?_
  refine ss_set 6 nd (e_frz (e_call (cal_law_due T) (hr.mono (by decide)) (a_cons (e_v 1) (a_cons (e_v 3) (a_cons (e_v 4) a_nil))) (r_law_due ha hb h0 (by omega)))) ?_
  refine ss_skip (t_w (w_or (t_not (t_val (e_call (cal_law_stretches T) (hr.mono (by decide)) (a_cons (e_v 5) a_nil) r_law_stretches))) (fun _ => (w_or1 (t_cmp (c_neW hr.units (e_wk (e_v 5)) (e_wk (e_v 6)) (okD_cells _) (okD_cells _))))))) ?_ ?_
  · rw [eqD_cells]
    simp
  refine ss_for rfl rfl (sr_list (e_lstV (a_cons (e_tup (a_cons (e_v 2) (a_cons (e_add e_int (e_mod (e_v 3) e_int (by decide))) a_nil))) (a_cons (e_tup (a_cons (e_v 1) (a_cons (e_mod (e_add (e_v 3) e_int) e_int (by decide)) a_nil))) a_nil)))) (fun i δ => ∃ s t u, δ = [.val (floorD mg (dedC cs)), .val (cell a b), .val (cell c d), .val (.int n), .val (.lst (cellsD cs)), .val (.lst (cellsD (strC (dedC cs) (a, b) n))), .val (.lst (cellsD (strC (dedC cs) (a, b) n))), s, t, u, .any]) ⟨.any, .any, .any, rfl⟩ ?_ ?_
  · rintro i δ hi ⟨s, t, u, rfl⟩
    have hi : i < 2 := hi
    have hx : ∃ x y k, ([.tup [cell c d, .int (1 + n % 2)], .tup [cell a b, .int ((n + 1) % 3)]] : List D).getD i .non = .tup [cell x y, .int k] ∧ Bs x ∧ Bs y ∧ 0 ≤ k ∧ k ≤ 10 := by
      have : i = 0 ∨ i = 1 := by omega
      rcases this with rfl | rfl
      · exact ⟨c, d, 1 + n % 2, rfl, hc, hd, by omega, by omega⟩
      · exact ⟨a, b, (n + 1) % 3, rfl, ha, hb, by omega, by omega⟩
    obtain ⟨x, y, k, ex, bx', by', k0, k1⟩ := hx
    refine ⟨_, by rw [ex]; exact g_tup rfl (gs_cons (g_nm 7 nd) (gs_cons (g_nm 8 nd) gs_nil)), ?_⟩
    refine ss_setN 9 nd (e_meth (vstretches T) (hr.mono (by decide)) (e_v 0) (a_cons (e_v 7) (a_cons (e_v 8) a_nil)) (r_stretches bx' by' k0 k1) (by rfl)) ?_
    refine ss_skip (t_w (w_or (t_not (t_val (e_bw (e_call (cal_law_stretches T) (hr.mono (by decide)) (a_cons (e_v 9) a_nil) r_law_stretches)))) (fun _ => (w_or1 (t_cmp (c_neW hr.units (w_v 9) (e_wk (e_frz (e_call (cal_law_due T) (hr.mono (by decide)) (a_cons (e_v 7) (a_cons (e_v 8) (a_cons (e_v 4) a_nil))) (r_law_due bx' by' k0 k1)))) (okD_cells _) (okD_cells _))))))) ?_ ?_
    · rw [eqD_cells]
      simp
    have hz : (cellsD (strC (dedC cs) (x, y) k)).length < sizeLine := small_ln (by rw [List.length_map]; have := strC_len (dedC cs) (x, y) k0 k1; omega)
    refine ss_app 9 (e_tup (a_cons e_int (a_cons e_int a_nil))) ?_ hz
    exact ss_nil ⟨_, _, _, rfl⟩
  · rintro δ ⟨s, t, u, rfl⟩
    refine ss_setN 10 nd (e_meth (vstretches T) (hr.mono (by decide)) (e_v 0) (a_cons (e_v 1) (a_cons (e_v 3) a_nil)) (r_stretches ha hb h0 (by omega)) (by rfl)) ?_
    refine ss_skip (t_w (w_or (t_not (t_val (e_bw (e_call (cal_law_stretches T) (hr.mono (by decide)) (a_cons (e_v 10) a_nil) r_law_stretches)))) (fun _ => (w_or (t_cmp (c_neW hr.units (w_v 10) (e_wk (e_v 6)) (okD_cells _) (okD_cells _))) (fun _ => (w_or1 (t_cmp (c_neW hr.units (e_wk (e_v 5)) (e_wk (e_v 6)) (okD_cells _) (okD_cells _))))))))) ?_ ?_
    · rw [eqD_cells]
      simp
    have hz : (cellsD (strC (dedC cs) (a, b) n)).length < sizeLine := small_ln (by rw [List.length_map]; have := strC_len (dedC cs) (a, b) h0 (by omega); omega)
    refine ss_app 10 (e_tup (a_cons e_int (a_cons e_int a_nil))) ?_ hz
    exact ss_ret e_bl rfl

theorem cutL_map {α β : Type} (f : α → β) (xs : List α) (lo hi : Option Int) : cutL (xs.map f) lo hi = (cutL xs lo hi).map f := by
  unfold cutL
  rw [List.length_map, List.map_take, List.map_drop]
theorem cutL_len {α : Type} (xs : List α) (lo hi : Option Int) : (cutL xs lo hi).length ≤ xs.length := by
  unfold cutL
  rw [List.length_take, List.length_drop]
  omega
def lawDeeds (ns : List Int) : List Mo := (List.range 3).map fun i : Nat => deedOf (getI ns (4 + (0 + (i : Int))))
theorem lawDeeds_len (ns : List Int) : (lawDeeds ns).length = 3 := by
  unfold lawDeeds
  rw [List.length_map, List.length_range]
theorem lawDeeds_mem {ns : List Int} {m : Mo} (h : m ∈ lawDeeds ns) : ∃ c, m = deedOf c := by
  unfold lawDeeds at h
  rw [List.mem_map] at h
  obtain ⟨i, _, rfl⟩ := h
  exact ⟨_, rfl⟩
theorem rotN_reach : ∀ (n : Nat) (c : Int × Int), reach (rotN n c).1 (rotN n c).2 = reach c.1 c.2
  | 0, c => rfl
  | n + 1, c => by
    unfold rotN
    rw [reach_rot, rotN_reach n c]
theorem deed_reach (x : Int) (c : Int × Int) : reach (img (deedOf x) c).1 (img (deedOf x) c).2 ≤ reach c.1 c.2 + 2 * 10 ^ 60 := by
  unfold deedOf
  split
  · simp only [img]
    rw [rotN_reach]
    omega
  · split
    · simp only [img, swp]
      rw [reach_swp]
      omega
    · simp only [img]
      have h1 := numBy_bd (x / 3)
      have h2 := numBy_bd (x / 3 * 69621 % 2147483629)
      have g := reach_ge c.1 c.2
      generalize numBy (x / 3) = s at *
      generalize numBy (x / 3 * 69621 % 2147483629) = t at *
      rw [reach_le]
      omega
theorem deeds_reach : ∀ (l : List Mo) (c : Int × Int), (∀ m ∈ l, ∃ x, m = deedOf x) → reach (imgs l c).1 (imgs l c).2 ≤ reach c.1 c.2 + 2 * 10 ^ 60 * (l.length : Int)
  | [], c, _ => by
    simp only [imgs]
    show _ ≤ reach c.1 c.2 + 2 * 10 ^ 60 * 0
    omega
  | m :: l, c, h => by
    simp only [imgs]
    obtain ⟨x, hx⟩ := h m (by simp)
    have h1 := deed_reach x c
    rw [← hx] at h1
    have h2 := deeds_reach l (img m c) fun m q => h m (by simp [q])
    rw [List.length_cons]
    generalize reach c.1 c.2 = p at *
    generalize reach (img m c).1 (img m c).2 = q at *
    generalize reach (imgs l (img m c)).1 (imgs l (img m c)).2 = r at *
    omega
theorem r_moved {cs : List (Int × Int)} {m : Mo} (hm : mok 2 m) (hl : cs.length ≤ 900) : R_moved mg [floorD mg (dedC cs), moD mg m] (.val (floorD mg (dedC (cs.map (img m))))) :=
  ⟨dedC cs, m, rfl, hm, by have := ded_len cs; omega, by rw [ded_moved]⟩
theorem str_shift (cs : List (Int × Int)) (s o : Int × Int) (n : Int) : strC (dedC (cs.map (img (.shift s)))) (o.1 + s.1, o.2 + s.2) n = strC (dedC cs) o n := by
  unfold strC
  refine runs_congr _ fun i hi => ?_
  unfold seenAt
  have h := bar_moved (.shift s) cs o (addP o (cellAtC (i : Int)))
  have e1 : img (.shift s) o = (o.1 + s.1, o.2 + s.2) := by simp only [img]
  have e2 : img (.shift s) (addP o (cellAtC (i : Int))) = addP (o.1 + s.1, o.2 + s.2) (cellAtC (i : Int)) := by
    simp only [img]
    unfold addP
    refine Prod.ext ?_ ?_ <;> simp only <;> omega
  rw [e1, e2] at h
  rw [h]
theorem many_moved (m : Mo) (cs : List (Int × Int)) (o : Int × Int) {n : Int} (h0 : 0 ≤ n) : manyC (strC (dedC (cs.map (img m))) (img m o) n) = manyC (strC (dedC cs) o n) := by
  unfold strC
  rw [runs_many, runs_many]
  have h := ball_count m cs o h0
  exact congrArg Int.ofNat h
theorem ok_law {f : Addr} {fd : FuncData} (F : Fun K "law" "law" s_law f fd) (T : Txt K mg) : FnOk P w K mg base CX0 9 f fd ["_law_script"] (spD K R_law) := by
  refine fn_D F sc_law (fun ds r ⟨_, e, _⟩ => by rw [e]; rfl) fun Z hr ds r ⟨ns, e, hl, e2⟩ => ?_
  subst e e2
  have nd := sc_law.nd
  refine ss_set 1 nd (e_tup (a_cons (e_call (cal_law_number_by T) (hr.mono (by decide)) (a_cons (e_call (cal_law_cell_at T) (hr.mono (by decide)) (a_cons (e_v 0) (a_cons e_int a_nil)) (r_law_cell_at (by decide))) a_nil) r_law_number_by) (a_cons (e_call (cal_law_number_by T) (hr.mono (by decide)) (a_cons (e_call (cal_law_cell_at T) (hr.mono (by decide)) (a_cons (e_v 0) (a_cons e_int a_nil)) (r_law_cell_at (by decide))) a_nil) r_law_number_by) a_nil))) ?_
  refine ss_set 2 nd (e_tup (a_cons (e_sub (e_add (e_ix (e_v 1) e_int (by rfl)) (e_mod (e_call (cal_law_cell_at T) (hr.mono (by decide)) (a_cons (e_v 0) (a_cons e_int a_nil)) (r_law_cell_at (by decide))) e_int (by decide))) e_int) (a_cons (e_sub (e_add (e_ix (e_v 1) e_int (by rfl)) (e_mod (e_call (cal_law_cell_at T) (hr.mono (by decide)) (a_cons (e_v 0) (a_cons e_int a_nil)) (r_law_cell_at (by decide))) e_int (by decide))) e_int) a_nil))) ?_
  show Ss _ _ [.val (.scr ns), .val (cell (numBy (getI ns 0)) (numBy (getI ns 1))), .val (cell (numBy (getI ns 0) + getI ns 2 % 13 - 6) (numBy (getI ns 1) + getI ns 3 % 13 - 6)), .any, .any, .any, .any, .any, .any, .any, .any, .any, .any, .any, .any, .any, .any, .any] _
  have b1 := numBy_bd (getI ns 0)
  have b2 := numBy_bd (getI ns 1)
  have b3 : numBy (getI ns 0) + getI ns 2 % 13 - 6 - numBy (getI ns 0) ≤ 6 ∧ -6 ≤ numBy (getI ns 0) + getI ns 2 % 13 - 6 - numBy (getI ns 0) := by omega
  have b4 : numBy (getI ns 1) + getI ns 3 % 13 - 6 - numBy (getI ns 1) ≤ 6 ∧ -6 ≤ numBy (getI ns 1) + getI ns 3 % 13 - 6 - numBy (getI ns 1) := by omega
  generalize hc : numBy (getI ns 0) + getI ns 2 % 13 - 6 = c at *
  generalize hd : numBy (getI ns 1) + getI ns 3 % 13 - 6 = d at *
  generalize numBy (getI ns 0) = a at *
  generalize numBy (getI ns 1) = b at *
  clear hc hd
  have Sa : Bs a := by unfold Bs; omega
  have Sb : Bs b := by unfold Bs; omega
  have Sc : Bs c := by unfold Bs; omega
  have Sd : Bs d := by unfold Bs; omega
  have Ba := bs_bd Sa
  have Bb := bs_bd Sb
  have Bc := bs_bd Sc
  have Bdd := bs_bd Sd
  refine ss_set 3 nd (e_mod (e_fdiv (e_call (cal_law_cell_at T) (hr.mono (by decide)) (a_cons (e_v 0) (a_cons e_int a_nil)) (r_law_cell_at (by decide))) e_int (divL rfl)) e_int (by decide)) ?_
  refine ss_whenJ (fun δ' => ∃ n : Int, 0 ≤ n ∧ n ≤ 4 ∧ δ' = [.val (.scr ns), .val (cell a b), .val (cell c d), .val (.int n), .any, .any, .any, .any, .any, .any, .any, .any, .any, .any, .any, .any, .any, .any]) (t_cmp (c_eqI (e_mod (e_fdiv (e_call (cal_law_cell_at T) (hr.mono (by decide)) (a_cons (e_v 0) (a_cons e_int a_nil)) (r_law_cell_at (by decide))) e_int (divL rfl)) e_int (by decide)) e_int)) (fun h Q q => ?_) (fun h => ?_) ?_
  · refine ss_set 3 nd e_int ?_
    exact ss_nil (q _ ⟨4, by decide, by decide, rfl⟩)
  · exact ⟨getI ns 7 / 2 % 4, by omega, by omega, rfl⟩
  rintro δ ⟨n, n0, n4, rfl⟩
  have hw : ∃ w : Int, (D.lst [.int 13, .int 5]).items.bind (atI · (getI ns 7 % 2)) = some (.int w) ∧ 1 ≤ w ∧ w ≤ 13 := by
    have : getI ns 7 % 2 = 0 ∨ getI ns 7 % 2 = 1 := by omega
    rcases this with h | h
    · rw [h]; exact ⟨13, rfl, by decide, by decide⟩
    · rw [h]; exact ⟨5, rfl, by decide, by decide⟩
  obtain ⟨w, hw, w1, w13⟩ := hw
  have w0 : 0 < w := by omega
  have dv : ∀ y : Int, CDivW y w := fun y => divOk_of w0 (by omega)
  refine ss_set 4 nd (e_ix (e_lstV (a_cons e_int (a_cons e_int a_nil))) (e_mod (e_call (cal_law_cell_at T) (hr.mono (by decide)) (a_cons (e_v 0) (a_cons e_int a_nil)) (r_law_cell_at (by decide))) e_int (by decide)) hw) ?_
  refine ss_setN 5 nd (e_lst a_nil) ?_
  obtain ⟨cs, hcl, eL⟩ : ∃ cs : List Int, cs.length ≤ 63 ∧ cutL (intsD ns) (some 8) (some 48) = intsD cs := ⟨cutL ns (some 8) (some 48), Nat.le_trans (cutL_len _ _ _) hl, cutL_map _ _ _ _⟩
  refine ss_for rfl rfl (sr_list (d := .lst (intsD cs)) (ds := intsD cs) (by rw [← eL]; exact e_frz (e_slice (e_v 0) (o_some e_int) (o_some e_int))) rfl) (fun i δ => ∃ s, δ = [.val (.scr ns), .val (cell a b), .val (cell c d), .val (.int n), .val (.int w), .own (cellsD ((cs.take i).map fun x => (a + x % w - w / 2, b + x / w % w - w / 2))), s, .any, .any, .any, .any, .any, .any, .any, .any, .any, .any, .any]) ⟨.any, rfl⟩ ?_ ?_
  · rintro i δ hi ⟨s, rfl⟩
    have hi : i < cs.length := by simpa using hi
    rw [ints_getD hi]
    have ht := take_succ_getD (d := (0 : Int)) hi
    have hz : (cellsD ((cs.take i).map fun x => (a + x % w - w / 2, b + x / w % w - w / 2))).length < sizeLine := small_ln (by rw [List.length_map, List.length_map]; have := List.length_take_le i cs; omega)
    generalize cs.getD i 0 = x at *
    refine ⟨_, g_nm 6 nd, ?_⟩
    refine ss_app 5 (e_tup (a_cons (e_sub (e_add (e_ix (e_v 1) e_int (by rfl)) (e_mod (e_v 6) (e_v 4) w0)) (e_fdiv (e_v 4) e_int (divL rfl))) (a_cons (e_sub (e_add (e_ix (e_v 1) e_int (by rfl)) (e_mod (e_fdiv (e_v 6) (e_v 4) (dv _)) (e_v 4) w0)) (e_fdiv (e_v 4) e_int (divL rfl))) a_nil))) ?_ hz
    refine ss_nil ⟨.val (.int x), ?_⟩
    rw [ht, List.map_append, cellsD_app]
    rfl
  rintro δ ⟨s, rfl⟩
  rw [List.take_of_length_le (by simp)]
  refine ss_frz 5 ?_
  have hsl : (cs.map fun x => (a + x % w - w / 2, b + x / w % w - w / 2)).length ≤ 900 := by rw [List.length_map]; omega
  show Ss _ _ [.val (.scr ns), .val (cell a b), .val (cell c d), .val (.int n), .val (.int w), .val (.lst (cellsD (cs.map fun x => (a + x % w - w / 2, b + x / w % w - w / 2)))), s, .any, .any, .any, .any, .any, .any, .any, .any, .any, .any, .any] _
  generalize (cs.map fun x => (a + x % w - w / 2, b + x / w % w - w / 2)) = shuts at *
  refine ss_set 7 nd (e_frz (e_lc [("_law_k", 8)] (fun _ => true) (fun i => deedD (deedOf (getI ns (4 + (0 + (i : Int)))))) (fun i => [.val (.scr ns), .val (cell a b), .val (cell c d), .val (.int n), .val (.int w), .val (.lst (cellsD shuts)), s, .any, .val (.int (0 + (i : Int))), .any, .any, .any, .any, .any, .any, .any, .any, .any]) ["_law_script", "_law_one", "_law_other", "_law_size", "_law_wide", "_law_shuts", "_law_cell_here", "_law_deeds", "_law_k", "_law_motion_here", "_law_deed_here", "_law_floor", "_law_there", "_law_images", "_law_found", "_law_moved", "_law_by", "_law_shifted"] (defScope s_law) rfl nd (sr_range1 T.g_range (a_cons e_int a_nil) (by decide) (by decide)) (by decide) (by decide +kernel) ?_ ?_ ?_)) ?_
  · intro s H C cl fp i hi
    exact gw_nm 8 nd
  · intro s H C cl fp i hi
    exact if_nil
  · intro s H C cl fp i hi _
    exact e_call (cal_law_deed T) (hr.mono (by decide)) (a_cons (e_call (cal_law_cell_at T) (hr.mono (by decide)) (a_cons (e_v 0) (a_cons (e_add e_int (e_v 8)) a_nil)) (r_law_cell_at (by omega))) a_nil) r_law_deed
  have em : made (3 : Int).toNat (fun _ => true) (fun i => deedD (deedOf (getI ns (4 + (0 + (i : Int)))))) = deedsD (lawDeeds ns) := by
    rw [made_all]
    unfold lawDeeds
    show _ = List.map deedD (List.map _ _)
    rw [List.map_map]
    rfl
  show Ss _ _ [.val (.scr ns), .val (cell a b), .val (cell c d), .val (.int n), .val (.int w), .val (.lst (cellsD shuts)), s, .val (.lst (made (3 : Int).toNat (fun _ => true) (fun i => deedD (deedOf (getI ns (4 + (0 + (i : Int)))))))), .any, .any, .any, .any, .any, .any, .any, .any, .any, .any] _
  rw [em]
  have hlm : ∀ m ∈ lawDeeds ns, ∃ x, m = deedOf x := fun m h => lawDeeds_mem h
  have hll := lawDeeds_len ns
  generalize lawDeeds ns = l at *
  have hld : ∀ m ∈ l, isDeed m := fun m h => by
    obtain ⟨x, rfl⟩ := hlm m h
    exact deedOf_ok x
  have hmk : mok 2 (.chain l) := by
    simp only [mok]
    refine ⟨by omega, moks_of fun m h => ?_⟩
    obtain ⟨x, rfl⟩ := hlm m h
    unfold deedOf
    repeat' split
    all_goals simp [mok]
  have hdl : (deedsD l).length = l.length := List.length_map _
  have ec : made (deedsD l).length (fun _ => true) (fun i => moD mg (l.getD i .plain)) = mosD mg l := by
    rw [made_all, mosD_map, hdl]
    apply List.ext_getElem?
    intro i
    rw [List.getElem?_map, List.getElem?_map]
    by_cases hi : i < l.length
    · rw [List.getElem?_range hi, Option.map_some, List.getD_eq_getElem?_getD, List.getElem?_eq_getElem hi]
      rfl
    · rw [List.getElem?_eq_none (by rw [List.length_range]; omega), List.getElem?_eq_none (by omega)]
      rfl
  refine ss_set 9 nd (d := moD mg (.chain l)) (of_mo (m := .chain l) (e_makeL (mk_Chain T) (hr.mono (by decide)) (e_frz (e_lc [("_law_deed_here", 10)] (fun _ => true) (fun i => moD mg (l.getD i .plain)) (fun i => [.val (.scr ns), .val (cell a b), .val (cell c d), .val (.int n), .val (.int w), .val (.lst (cellsD shuts)), s, .val (.lst (deedsD l)), .any, .any, .val (deedD (l.getD i .plain)), .any, .any, .any, .any, .any, .any, .any]) ["_law_script", "_law_one", "_law_other", "_law_size", "_law_wide", "_law_shuts", "_law_cell_here", "_law_deeds", "_law_k", "_law_motion_here", "_law_deed_here", "_law_floor", "_law_there", "_law_images", "_law_found", "_law_moved", "_law_by", "_law_shifted"] (defScope s_law) rfl nd (sr_list (e_v 7)) (Nat.le_trans (by rw [hdl, hll]; decide : _ ≤ 1000) (by decide)) (by decide +kernel) ?_ ?_ ?_)) rfl ⟨_, rfl, by rw [ec]; rfl⟩)) ?_
  · intro s H C cl fp i hi
    show EgW _ [10] _ ((deedsD l).getD i .non) _ _
    rw [deeds_getD (by rw [← hdl]; exact hi)]
    exact gw_nm 10 nd
  · intro s H C cl fp i hi
    exact if_nil
  · intro s H C cl fp i hi _
    have hi : i < l.length := by rw [← hdl]; exact hi
    exact e_call (cal_law_motion T) (hr.mono (by decide)) (a_cons (e_v 10) a_nil) (r_law_motion (hld _ (getD_mem (d := Mo.plain) hi)))
  refine ss_set 11 nd (d := floorD mg (dedC shuts)) (e_makeL (mk_Floor T) (hr.mono (by decide)) (e_frz (e_list T.g_list (a_cons (e_v 5) a_nil))) rfl ⟨shuts, by omega, rfl, rfl⟩) ?_
  refine ss_set 12 nd (d := floorD mg (dedC (shuts.map (img (.chain l))))) (e_meth (vmoved T) (hr.mono (by decide)) (e_v 11) (a_cons (e_v 9) a_nil) (r_moved hmk hsl) (by rfl)) ?_
  have hsh : (cellsD shuts).length = shuts.length := List.length_map _
  refine ss_cons (s_setLc 13 [("_law_cell_here", 6)] (fun _ => true) (fun i => cellP (imgs l (shuts.getD i (0, 0)))) (fun i => [.val (.scr ns), .val (cell a b), .val (cell c d), .val (.int n), .val (.int w), .val (.lst (cellsD shuts)), .val (cellP (shuts.getD i (0, 0))), .val (.lst (deedsD l)), .any, .val (moD mg (.chain l)), .any, .val (floorD mg (dedC shuts)), .val (floorD mg (dedC (shuts.map (img (.chain l))))), .any, .any, .any, .any, .any]) true ["_law_script", "_law_one", "_law_other", "_law_size", "_law_wide", "_law_shuts", "_law_cell_here", "_law_deeds", "_law_k", "_law_motion_here", "_law_deed_here", "_law_floor", "_law_there", "_law_images", "_law_found", "_law_moved", "_law_by", "_law_shifted"] (defScope s_law) rfl nd (sr_list (e_v 5)) (Nat.le_trans (by rw [hsh]; exact hsl) (by decide)) (by decide +kernel) ?_ ?_ ?_ ?_)
  · intro s H C cl fp i hi
    show EgW _ [6] _ ((cellsD shuts).getD i .non) _ _
    rw [cells_getD (by rw [← hsh]; exact hi)]
    exact gw_nm 6 nd
  · intro s H C cl fp i hi
    exact if_nil
  · intro s H C cl fp i hi _
    exact e_call (cal_law_image T) (hr.mono (by decide)) (a_cons (e_v 6) (a_cons (e_v 7) a_nil)) (r_law_image hld)
  have hio : ∀ q, img (.chain l) q = imgs l q := fun q => by simp only [img]
  have ei : made (cellsD shuts).length (fun _ => true) (fun i => cellP (imgs l (shuts.getD i (0, 0)))) = cellsD (shuts.map (img (.chain l))) := by
    rw [hsh, made_mapC shuts (imgs l), show imgs l = img (.chain l) from (funext hio).symm]
  show Ss _ _ [.val (.scr ns), .val (cell a b), .val (cell c d), .val (.int n), .val (.int w), .val (.lst (cellsD shuts)), s, .val (.lst (deedsD l)), .any, .val (moD mg (.chain l)), .any, .val (floorD mg (dedC shuts)), .val (floorD mg (dedC (shuts.map (img (.chain l))))), .val (.lst (made (cellsD shuts).length (fun _ => true) (fun i => cellP (imgs l (shuts.getD i (0, 0)))))), .any, .any, .any, .any] _
  rw [ei]
  have r1 := deeds_reach l (a, b) hlm
  have r2 := deeds_reach l (c, d) hlm
  rw [hll] at r1 r2
  have ga : reach a b ≤ 10 ^ 61 := reach_le.mpr (by omega)
  have gc : reach c d ≤ 10 ^ 61 := reach_le.mpr (by omega)
  have r1 : reach (imgs l (a, b)).1 (imgs l (a, b)).2 ≤ 10 ^ 62 := by
    have r1 : reach (imgs l (a, b)).1 (imgs l (a, b)).2 ≤ reach a b + 2 * 10 ^ 60 * 3 := r1
    generalize reach (imgs l (a, b)).1 (imgs l (a, b)).2 = x at *
    omega
  have r2 : reach (imgs l (c, d)).1 (imgs l (c, d)).2 ≤ 10 ^ 62 := by
    have r2 : reach (imgs l (c, d)).1 (imgs l (c, d)).2 ≤ reach c d + 2 * 10 ^ 60 * 3 := r2
    generalize reach (imgs l (c, d)).1 (imgs l (c, d)).2 = x at *
    omega
  have q1 := reach_le.mp r1
  have q2 := reach_le.mp r2
  have i1 : Bs (imgs l (a, b)).1 := by
    generalize (imgs l (a, b)).1 = x at *
    generalize (imgs l (a, b)).2 = y at *
    unfold Bs
    omega
  have i2 : Bs (imgs l (a, b)).2 := by
    generalize (imgs l (a, b)).1 = x at *
    generalize (imgs l (a, b)).2 = y at *
    unfold Bs
    omega
  have i3 : Bs (imgs l (c, d)).1 := by
    generalize (imgs l (c, d)).1 = x at *
    generalize (imgs l (c, d)).2 = y at *
    unfold Bs
    omega
  have i4 : Bs (imgs l (c, d)).2 := by
    generalize (imgs l (c, d)).1 = x at *
    generalize (imgs l (c, d)).2 = y at *
    unfold Bs
    omega
  have hsm : (shuts.map (img (.chain l))).length ≤ 900 := by rw [List.length_map]; exact hsl
  refine ss_skip (t_w (w_or (t_not (t_val (e_isC T.g_isinstance T.is_Floor_Floor (e_wk (e_v 12))))) (fun _ => (w_or1 (t_not (t_val (e_call (cal_law_sorted_once T) (hr.mono (by decide)) (a_cons (e_v 12) (a_cons (e_v 13) a_nil)) (r_law_sorted_once hsm)))))))) rfl ?_
  have rm : R_law_meets mg [floorD mg (dedC shuts), cell a b, cell c d, floorD mg (dedC (shuts.map (img (.chain l)))), .lst (deedsD l)] (.val (.bl true)) :=
    ⟨shuts, a, b, c, d, l, rfl, hld, Ba, Bb, Bc, Bdd, by rw [hio]; exact bs_bd i1, by rw [hio]; exact bs_bd i2, by rw [hio]; exact bs_bd i3, by rw [hio]; exact bs_bd i4, rfl⟩
  refine ss_skip (t_not (t_val (e_call (cal_law_meets T) (hr.mono (by decide)) (a_cons (e_v 11) (a_cons (e_v 1) (a_cons (e_v 2) (a_cons (e_v 12) (a_cons (e_v 7) a_nil))))) rm))) rfl ?_
  have rb : R_law_balls mg [floorD mg (dedC shuts), cell a b, cell c d, .int n, .lst (cellsD shuts)] (.val (.bl true)) := ⟨shuts, a, b, c, d, n, rfl, Sa, Sb, Sc, Sd, n0, by omega, rfl⟩
  refine ss_skip (t_not (t_val (e_call (cal_law_balls T) (hr.mono (by decide)) (a_cons (e_v 11) (a_cons (e_v 1) (a_cons (e_v 2) (a_cons (e_v 3) (a_cons (e_v 5) a_nil))))) rb))) rfl ?_
  refine ss_set 14 nd (e_frz (e_meth (vstretches T) (hr.mono (by decide)) (e_v 11) (a_cons (e_v 1) (a_cons (e_v 3) a_nil)) (r_stretches Sa Sb n0 (by omega)) (by rfl))) ?_
  have rs : R_stretches mg [floorD mg (dedC (shuts.map (img (.chain l)))), cellP (imgs l (a, b)), .int n] (.new (cellsD (strC (dedC (shuts.map (img (.chain l)))) (imgs l (a, b)) n))) := r_stretches i1 i2 n0 (by omega)
  refine ss_set 15 nd (e_frz (e_meth (vstretches T) (hr.mono (by decide)) (e_v 12) (a_cons (e_call (cal_law_image T) (hr.mono (by decide)) (a_cons (e_v 1) (a_cons (e_v 7) a_nil)) (r_law_image (c := (a, b)) hld)) (a_cons (e_v 3) a_nil)) rs (by rfl))) ?_
  have l1 := strC_len (dedC (shuts.map (img (.chain l)))) (imgs l (a, b)) n0 (by omega : n ≤ 10)
  have l2 := strC_len (dedC shuts) (a, b) n0 (by omega : n ≤ 10)
  have hmm := many_moved (.chain l) shuts (a, b) n0
  rw [hio] at hmm
  refine ss_skip (t_w (w_or (t_not (t_val (e_call (cal_law_stretches T) (hr.mono (by decide)) (a_cons (e_v 15) a_nil) r_law_stretches))) (fun _ => (w_or1 (t_cmp (c_neI (e_call (cal_law_many T) (hr.mono (by decide)) (a_cons (e_v 15) a_nil) (r_law_many (by omega))) (e_call (cal_law_many T) (hr.mono (by decide)) (a_cons (e_v 14) a_nil) (r_law_many (by omega))))))))) ?_ ?_
  · rw [hmm]
    simp
  refine ss_set 16 nd (e_tup (a_cons (e_call (cal_law_number_by T) (hr.mono (by decide)) (a_cons (e_call (cal_law_cell_at T) (hr.mono (by decide)) (a_cons (e_v 0) (a_cons e_int a_nil)) (r_law_cell_at (by decide))) a_nil) r_law_number_by) (a_cons (e_call (cal_law_number_by T) (hr.mono (by decide)) (a_cons (e_call (cal_law_cell_at T) (hr.mono (by decide)) (a_cons (e_v 0) (a_cons e_int a_nil)) (r_law_cell_at (by decide))) a_nil) r_law_number_by) a_nil))) ?_
  show Ss _ _ [.val (.scr ns), .val (cell a b), .val (cell c d), .val (.int n), .val (.int w), .val (.lst (cellsD shuts)), s, .val (.lst (deedsD l)), .any, .val (moD mg (.chain l)), .any, .val (floorD mg (dedC shuts)), .val (floorD mg (dedC (shuts.map (img (.chain l))))), .val (.lst (cellsD (shuts.map (img (.chain l))))), .val (.lst (cellsD (strC (dedC shuts) (a, b) n))), .val (.lst (cellsD (strC (dedC (shuts.map (img (.chain l)))) (imgs l (a, b)) n))), .val (cell (numBy (getI ns 2)) (numBy (getI ns 3))), .any] _
  have v1 := numBy_bd (getI ns 2)
  have v2 := numBy_bd (getI ns 3)
  generalize numBy (getI ns 2) = s1 at *
  generalize numBy (getI ns 3) = s2 at *
  have hmk2 : mok 2 (.shift (s1, s2)) := by simp [mok]
  have S1 : Bs (a + s1) := by unfold Bs; omega
  have S2 : Bs (b + s2) := by unfold Bs; omega
  have rs2 : R_stretches mg [floorD mg (dedC (shuts.map (img (.shift (s1, s2))))), cell (a + s1) (b + s2), .int n] (.new (cellsD (strC (dedC shuts) (a, b) n))) := by
    have h := r_stretches (mg := mg) (kept := dedC (shuts.map (img (.shift (s1, s2))))) S1 S2 n0 (by omega : n ≤ 10)
    have e := str_shift shuts (s1, s2) (a, b) n
    have e : strC (dedC (shuts.map (img (.shift (s1, s2))))) (a + s1, b + s2) n = strC (dedC shuts) (a, b) n := e
    rw [e] at h
    exact h
  refine ss_set 17 nd (e_frz (e_meth (vstretches T) (hr.mono (by decide)) (e_meth (vmoved T) (hr.mono (by decide)) (e_v 11) (a_cons (of_mo (m := .shift (s1, s2)) (e_make (mk_Shift T) (hr.mono (by decide)) (a_cons (e_v 16) a_nil) ⟨_, rfl, rfl⟩)) a_nil) (r_moved hmk2 hsl) (by rfl)) (a_cons (e_tup (a_cons (e_add (e_ix (e_v 1) e_int (by rfl)) (e_ix (e_v 16) e_int (by rfl))) (a_cons (e_add (e_ix (e_v 1) e_int (by rfl)) (e_ix (e_v 16) e_int (by rfl))) a_nil))) (a_cons (e_v 3) a_nil)) rs2 (by rfl))) ?_
  refine ss_skip (t_w (w_or (t_not (t_val (e_call (cal_law_stretches T) (hr.mono (by decide)) (a_cons (e_v 17) a_nil) r_law_stretches))) (fun _ => (w_or (t_cmp (c_neW hr.units (e_wk (e_v 17)) (e_wk (e_v 14)) (okD_cells _) (okD_cells _))) (fun _ => (w_or1 (t_cmp (c_neW hr.units (e_wk (e_v 14)) (e_wk (e_frz (e_meth (vstretches T) (hr.mono (by decide)) (e_v 11) (a_cons (e_v 1) (a_cons (e_v 3) a_nil)) (r_stretches Sa Sb n0 (by omega)) (by rfl)))) (okD_cells _) (okD_cells _))))))))) ?_ ?_
  · rw [eqD_cells]
    simp
  have rso : R_law_sorted_once mg [floorD mg (dedC ((shuts.map (img (.chain l))).map (img (bk (.chain l))))), .lst (cellsD shuts)] (.val (.bl true)) := by
    rw [map_back]
    exact r_law_sorted_once hsl
  refine ss_ret (e_and (e_call (cal_law_sorted_once T) (hr.mono (by decide)) (a_cons (e_meth (vmoved T) (hr.mono (by decide)) (e_v 12) (a_cons (e_meth0 (vback T 2 (.chain l) hmk) (hr.mono (by decide)) (ho_mo (e_v 9)) r_bk (no_back _ _)) a_nil) (r_moved (mok_bk _ 2 hmk) hsm) (by rfl)) (a_cons (e_v 5) a_nil)) rso) (fun _ => (e_one (e_call (cal_law_sorted_once T) (hr.mono (by decide)) (a_cons (e_v 11) (a_cons (e_v 5) a_nil)) (r_law_sorted_once hsl))))) ?_
  rfl

theorem refV (a : Addr) : RelV (.ref a) (.ref a) := rfl
theorem wayK {a : Addr} {o : Obj} {n : Nat} {x y : Int} {t u : Tok} (l : K.lookup a = some o) (z : o.cls = .type "tuple") (d : o.data = .seq #[.int x t, .int y u] n) {G : Hp} : Dv K G (.ref a) (.ktup [.int x, .int y]) :=
  .ktup (fun H => .inr ⟨o, _, n, l, z, d, (by show 2 ≤ sizeLine; decide), .cons (show RelV (.int x) (.int x t) from ⟨t, rfl⟩) (.cons (show RelV (.int y) (.int y u) from ⟨u, rfl⟩) .nil)⟩) (.cons (.int x) (.cons (.int y) .nil))
theorem all_mk {h : Heap} {fa : Addr} (X : K.In h) (G : h.Ns mainGlobals mg) (hfa : mg "law" = some (.ref fa))
    {f1 : Addr} {oc1 kV1 dc1 pm1 cd1 ct1 : Value} {od1 an1 : Option Addr} {sl1 : Array (Option Value)}
    {f2 : Addr} {oc2 kV2 dc2 pm2 cd2 ct2 : Value} {od2 an2 : Option Addr} {sl2 : Array (Option Value)}
    {f3 T3 : Addr} {oc3 kV3 dc3 pm3 cd3 ct3 u3 : Value} {od3 an3 : Option Addr} {sl3 : Array (Option Value)} {o3 : Obj} {n3 : Nat}
    {f4 : Addr} {oc4 kV4 dc4 pm4 cd4 ct4 : Value} {od4 an4 : Option Addr} {sl4 : Array (Option Value)}
    {f5 : Addr} {oc5 kV5 dc5 pm5 cd5 ct5 : Value} {od5 an5 : Option Addr} {sl5 : Array (Option Value)}
    {f6 : Addr} {oc6 kV6 dc6 pm6 cd6 ct6 : Value} {od6 an6 : Option Addr} {sl6 : Array (Option Value)}
    {f7 : Addr} {oc7 kV7 dc7 pm7 cd7 ct7 : Value} {od7 an7 : Option Addr} {sl7 : Array (Option Value)}
    {f8 : Addr} {oc8 kV8 dc8 pm8 cd8 ct8 : Value} {od8 an8 : Option Addr} {sl8 : Array (Option Value)}
    {f9 : Addr} {oc9 kV9 dc9 pm9 cd9 ct9 : Value} {od9 an9 : Option Addr} {sl9 : Array (Option Value)}
    {f10 : Addr} {oc10 kV10 dc10 pm10 cd10 ct10 : Value} {od10 an10 : Option Addr} {sl10 : Array (Option Value)}
    {f11 : Addr} {oc11 kV11 dc11 pm11 cd11 ct11 : Value} {od11 an11 : Option Addr} {sl11 : Array (Option Value)}
    {f12 : Addr} {oc12 kV12 dc12 pm12 cd12 ct12 : Value} {od12 an12 : Option Addr} {sl12 : Array (Option Value)}
    {f13 : Addr} {oc13 kV13 dc13 pm13 cd13 ct13 : Value} {od13 an13 : Option Addr} {sl13 : Array (Option Value)}
    {f14 : Addr} {oc14 kV14 dc14 pm14 cd14 ct14 : Value} {od14 an14 : Option Addr} {sl14 : Array (Option Value)}
    {f15 : Addr} {oc15 kV15 dc15 pm15 cd15 ct15 : Value} {od15 an15 : Option Addr} {sl15 : Array (Option Value)}
    {f16 : Addr} {oc16 kV16 dc16 pm16 cd16 ct16 : Value} {od16 an16 : Option Addr} {sl16 : Array (Option Value)}
    {f17 : Addr} {oc17 kV17 dc17 pm17 cd17 ct17 : Value} {od17 an17 : Option Addr} {sl17 : Array (Option Value)}
    {f18 : Addr} {oc18 kV18 dc18 pm18 cd18 ct18 : Value} {od18 an18 : Option Addr} {sl18 : Array (Option Value)}
    {f19 : Addr} {oc19 kV19 dc19 pm19 cd19 ct19 : Value} {od19 an19 : Option Addr} {sl19 : Array (Option Value)}
    {f20 : Addr} {oc20 kV20 dc20 pm20 cd20 ct20 : Value} {od20 an20 : Option Addr} {sl20 : Array (Option Value)}
    {f21 : Addr} {oc21 kV21 dc21 pm21 cd21 ct21 : Value} {od21 an21 : Option Addr} {sl21 : Array (Option Value)}
    {f22 : Addr} {oc22 kV22 dc22 pm22 cd22 ct22 : Value} {od22 an22 : Option Addr} {sl22 : Array (Option Value)}
    {f23 : Addr} {oc23 kV23 dc23 pm23 cd23 ct23 : Value} {od23 an23 : Option Addr} {sl23 : Array (Option Value)}
    {f24 : Addr} {oc24 kV24 dc24 pm24 cd24 ct24 : Value} {od24 an24 : Option Addr} {sl24 : Array (Option Value)}
    {f25 : Addr} {oc25 kV25 dc25 pm25 cd25 ct25 : Value} {od25 an25 : Option Addr} {sl25 : Array (Option Value)}
    {f26 : Addr} {oc26 kV26 dc26 pm26 cd26 ct26 : Value} {od26 an26 : Option Addr} {sl26 : Array (Option Value)}
    {cC_Floor : Addr}
    {f_Floor_init : Addr} {oc_Floor_init kV_Floor_init dc_Floor_init pm_Floor_init cd_Floor_init ct_Floor_init : Value} {od_Floor_init an_Floor_init : Option Addr} {sl_Floor_init : Array (Option Value)}
    {f_Floor_walls : Addr} {oc_Floor_walls kV_Floor_walls dc_Floor_walls pm_Floor_walls cd_Floor_walls ct_Floor_walls : Value} {od_Floor_walls an_Floor_walls : Option Addr} {sl_Floor_walls : Array (Option Value)}
    {f_Floor_free : Addr} {oc_Floor_free kV_Floor_free dc_Floor_free pm_Floor_free cd_Floor_free ct_Floor_free : Value} {od_Floor_free an_Floor_free : Option Addr} {sl_Floor_free : Array (Option Value)}
    {f_Floor_barred : Addr} {oc_Floor_barred kV_Floor_barred dc_Floor_barred pm_Floor_barred cd_Floor_barred ct_Floor_barred : Value} {od_Floor_barred an_Floor_barred : Option Addr} {sl_Floor_barred : Array (Option Value)}
    {f_Floor_sees : Addr} {oc_Floor_sees kV_Floor_sees dc_Floor_sees pm_Floor_sees cd_Floor_sees ct_Floor_sees : Value} {od_Floor_sees an_Floor_sees : Option Addr} {sl_Floor_sees : Array (Option Value)}
    {f_Floor_stretches : Addr} {oc_Floor_stretches kV_Floor_stretches dc_Floor_stretches pm_Floor_stretches cd_Floor_stretches ct_Floor_stretches : Value} {od_Floor_stretches an_Floor_stretches : Option Addr} {sl_Floor_stretches : Array (Option Value)}
    {f_Floor_moved : Addr} {oc_Floor_moved kV_Floor_moved dc_Floor_moved pm_Floor_moved cd_Floor_moved ct_Floor_moved : Value} {od_Floor_moved an_Floor_moved : Option Addr} {sl_Floor_moved : Array (Option Value)}
    {cC_Motion : Addr}
    {f_Motion_image : Addr} {oc_Motion_image kV_Motion_image dc_Motion_image pm_Motion_image cd_Motion_image ct_Motion_image : Value} {od_Motion_image an_Motion_image : Option Addr} {sl_Motion_image : Array (Option Value)}
    {f_Motion_back : Addr} {oc_Motion_back kV_Motion_back dc_Motion_back pm_Motion_back cd_Motion_back ct_Motion_back : Value} {od_Motion_back an_Motion_back : Option Addr} {sl_Motion_back : Array (Option Value)}
    {cC_Turn : Addr}
    {f_Turn_init : Addr} {oc_Turn_init kV_Turn_init dc_Turn_init pm_Turn_init cd_Turn_init ct_Turn_init : Value} {od_Turn_init an_Turn_init : Option Addr} {sl_Turn_init : Array (Option Value)}
    {T_Turn_init : Addr} {u_Turn_init : Value} {o_Turn_init : Obj} {n_Turn_init : Nat}
    {f_Turn_image : Addr} {oc_Turn_image kV_Turn_image dc_Turn_image pm_Turn_image cd_Turn_image ct_Turn_image : Value} {od_Turn_image an_Turn_image : Option Addr} {sl_Turn_image : Array (Option Value)}
    {f_Turn_back : Addr} {oc_Turn_back kV_Turn_back dc_Turn_back pm_Turn_back cd_Turn_back ct_Turn_back : Value} {od_Turn_back an_Turn_back : Option Addr} {sl_Turn_back : Array (Option Value)}
    {cC_Mirror : Addr}
    {f_Mirror_image : Addr} {oc_Mirror_image kV_Mirror_image dc_Mirror_image pm_Mirror_image cd_Mirror_image ct_Mirror_image : Value} {od_Mirror_image an_Mirror_image : Option Addr} {sl_Mirror_image : Array (Option Value)}
    {f_Mirror_back : Addr} {oc_Mirror_back kV_Mirror_back dc_Mirror_back pm_Mirror_back cd_Mirror_back ct_Mirror_back : Value} {od_Mirror_back an_Mirror_back : Option Addr} {sl_Mirror_back : Array (Option Value)}
    {cC_Shift : Addr}
    {f_Shift_init : Addr} {oc_Shift_init kV_Shift_init dc_Shift_init pm_Shift_init cd_Shift_init ct_Shift_init : Value} {od_Shift_init an_Shift_init : Option Addr} {sl_Shift_init : Array (Option Value)}
    {f_Shift_image : Addr} {oc_Shift_image kV_Shift_image dc_Shift_image pm_Shift_image cd_Shift_image ct_Shift_image : Value} {od_Shift_image an_Shift_image : Option Addr} {sl_Shift_image : Array (Option Value)}
    {f_Shift_back : Addr} {oc_Shift_back kV_Shift_back dc_Shift_back pm_Shift_back cd_Shift_back ct_Shift_back : Value} {od_Shift_back an_Shift_back : Option Addr} {sl_Shift_back : Array (Option Value)}
    {cC_Chain : Addr}
    {f_Chain_init : Addr} {oc_Chain_init kV_Chain_init dc_Chain_init pm_Chain_init cd_Chain_init ct_Chain_init : Value} {od_Chain_init an_Chain_init : Option Addr} {sl_Chain_init : Array (Option Value)}
    {f_Chain_image : Addr} {oc_Chain_image kV_Chain_image dc_Chain_image pm_Chain_image cd_Chain_image ct_Chain_image : Value} {od_Chain_image an_Chain_image : Option Addr} {sl_Chain_image : Array (Option Value)}
    {f_Chain_back : Addr} {oc_Chain_back kV_Chain_back dc_Chain_back pm_Chain_back cd_Chain_back ct_Chain_back : Value} {od_Chain_back an_Chain_back : Option Addr} {sl_Chain_back : Array (Option Value)}
    {aW w0 w1 w2 w3 w4 w5 : Addr} {oW x0 x1 x2 x3 x4 x5 : Obj} {nW n0W n1W n2W n3W n4W n5W : Nat} {tW0 tW1 tW2 tW3 tW4 tW5 tX0 tX1 tX2 tX3 tX4 tX5 : Tok}
    (a1 : PySem.W.nsIn K mainGlobals "is_whole" = some (some (.ref f1)))
    (l1 : K.lookup f1 = some ⟨oc1, od1, .func (PySem.W.fnOf "is_whole" "is_whole" (defArgs s_is_whole) (defBody s_is_whole) (defScope s_is_whole) .none kV1 dc1 pm1 an1 cd1 ct1), sl1⟩)
    (c1 : PySem.W.codeIn K cd1 "is_whole" = true)
    (k1 : PySem.W.keepIn K (.ref f1) = true)
    (a2 : PySem.W.nsIn K mainGlobals "is_cell" = some (some (.ref f2)))
    (l2 : K.lookup f2 = some ⟨oc2, od2, .func (PySem.W.fnOf "is_cell" "is_cell" (defArgs s_is_cell) (defBody s_is_cell) (defScope s_is_cell) .none kV2 dc2 pm2 an2 cd2 ct2), sl2⟩)
    (c2 : PySem.W.codeIn K cd2 "is_cell" = true)
    (k2 : PySem.W.keepIn K (.ref f2) = true)
    (a3 : PySem.W.nsIn K mainGlobals "plus" = some (some (.ref f3)))
    (l3 : K.lookup f3 = some ⟨oc3, od3, .func (PySem.W.fnOf "plus" "plus" (defArgs s_plus) (defBody s_plus) (defScope s_plus) (.ref T3) kV3 dc3 pm3 an3 cd3 ct3), sl3⟩)
    (c3 : PySem.W.codeIn K cd3 "plus" = true)
    (k3 : PySem.W.keepIn K (.ref f3) = true)
    (t3 : K.lookup T3 = some o3)
    (z3 : o3.data = .seq #[u3] n3)
    (r3 : RelV (.int 1) u3)
    (a4 : PySem.W.nsIn K mainGlobals "reach" = some (some (.ref f4)))
    (l4 : K.lookup f4 = some ⟨oc4, od4, .func (PySem.W.fnOf "reach" "reach" (defArgs s_reach) (defBody s_reach) (defScope s_reach) .none kV4 dc4 pm4 an4 cd4 ct4), sl4⟩)
    (c4 : PySem.W.codeIn K cd4 "reach" = true)
    (k4 : PySem.W.keepIn K (.ref f4) = true)
    (a5 : PySem.W.nsIn K mainGlobals "distance" = some (some (.ref f5)))
    (l5 : K.lookup f5 = some ⟨oc5, od5, .func (PySem.W.fnOf "distance" "distance" (defArgs s_distance) (defBody s_distance) (defScope s_distance) .none kV5 dc5 pm5 an5 cd5 ct5), sl5⟩)
    (c5 : PySem.W.codeIn K cd5 "distance" = true)
    (k5 : PySem.W.keepIn K (.ref f5) = true)
    (a6 : PySem.W.nsIn K mainGlobals "nearest" = some (some (.ref f6)))
    (l6 : K.lookup f6 = some ⟨oc6, od6, .func (PySem.W.fnOf "nearest" "nearest" (defArgs s_nearest) (defBody s_nearest) (defScope s_nearest) .none kV6 dc6 pm6 an6 cd6 ct6), sl6⟩)
    (c6 : PySem.W.codeIn K cd6 "nearest" = true)
    (k6 : PySem.W.keepIn K (.ref f6) = true)
    (a7 : PySem.W.nsIn K mainGlobals "ring_of" = some (some (.ref f7)))
    (l7 : K.lookup f7 = some ⟨oc7, od7, .func (PySem.W.fnOf "ring_of" "ring_of" (defArgs s_ring_of) (defBody s_ring_of) (defScope s_ring_of) .none kV7 dc7 pm7 an7 cd7 ct7), sl7⟩)
    (c7 : PySem.W.codeIn K cd7 "ring_of" = true)
    (k7 : PySem.W.keepIn K (.ref f7) = true)
    (a8 : PySem.W.nsIn K mainGlobals "cell_at" = some (some (.ref f8)))
    (l8 : K.lookup f8 = some ⟨oc8, od8, .func (PySem.W.fnOf "cell_at" "cell_at" (defArgs s_cell_at) (defBody s_cell_at) (defScope s_cell_at) .none kV8 dc8 pm8 an8 cd8 ct8), sl8⟩)
    (c8 : PySem.W.codeIn K cd8 "cell_at" = true)
    (k8 : PySem.W.keepIn K (.ref f8) = true)
    (a9 : PySem.W.nsIn K mainGlobals "_law_cell_at" = some (some (.ref f9)))
    (l9 : K.lookup f9 = some ⟨oc9, od9, .func (PySem.W.fnOf "_law_cell_at" "_law_cell_at" (defArgs s_law_cell_at) (defBody s_law_cell_at) (defScope s_law_cell_at) .none kV9 dc9 pm9 an9 cd9 ct9), sl9⟩)
    (c9 : PySem.W.codeIn K cd9 "_law_cell_at" = true)
    (k9 : PySem.W.keepIn K (.ref f9) = true)
    (a10 : PySem.W.nsIn K mainGlobals "_law_whole" = some (some (.ref f10)))
    (l10 : K.lookup f10 = some ⟨oc10, od10, .func (PySem.W.fnOf "_law_whole" "_law_whole" (defArgs s_law_whole) (defBody s_law_whole) (defScope s_law_whole) .none kV10 dc10 pm10 an10 cd10 ct10), sl10⟩)
    (c10 : PySem.W.codeIn K cd10 "_law_whole" = true)
    (k10 : PySem.W.keepIn K (.ref f10) = true)
    (a11 : PySem.W.nsIn K mainGlobals "_law_cell" = some (some (.ref f11)))
    (l11 : K.lookup f11 = some ⟨oc11, od11, .func (PySem.W.fnOf "_law_cell" "_law_cell" (defArgs s_law_cell) (defBody s_law_cell) (defScope s_law_cell) .none kV11 dc11 pm11 an11 cd11 ct11), sl11⟩)
    (c11 : PySem.W.codeIn K cd11 "_law_cell" = true)
    (k11 : PySem.W.keepIn K (.ref f11) = true)
    (a12 : PySem.W.nsIn K mainGlobals "_law_number_by" = some (some (.ref f12)))
    (l12 : K.lookup f12 = some ⟨oc12, od12, .func (PySem.W.fnOf "_law_number_by" "_law_number_by" (defArgs s_law_number_by) (defBody s_law_number_by) (defScope s_law_number_by) .none kV12 dc12 pm12 an12 cd12 ct12), sl12⟩)
    (c12 : PySem.W.codeIn K cd12 "_law_number_by" = true)
    (k12 : PySem.W.keepIn K (.ref f12) = true)
    (a13 : PySem.W.nsIn K mainGlobals "_law_reach" = some (some (.ref f13)))
    (l13 : K.lookup f13 = some ⟨oc13, od13, .func (PySem.W.fnOf "_law_reach" "_law_reach" (defArgs s_law_reach) (defBody s_law_reach) (defScope s_law_reach) .none kV13 dc13 pm13 an13 cd13 ct13), sl13⟩)
    (c13 : PySem.W.codeIn K cd13 "_law_reach" = true)
    (k13 : PySem.W.keepIn K (.ref f13) = true)
    (a14 : PySem.W.nsIn K mainGlobals "_law_deed" = some (some (.ref f14)))
    (l14 : K.lookup f14 = some ⟨oc14, od14, .func (PySem.W.fnOf "_law_deed" "_law_deed" (defArgs s_law_deed) (defBody s_law_deed) (defScope s_law_deed) .none kV14 dc14 pm14 an14 cd14 ct14), sl14⟩)
    (c14 : PySem.W.codeIn K cd14 "_law_deed" = true)
    (k14 : PySem.W.keepIn K (.ref f14) = true)
    (a15 : PySem.W.nsIn K mainGlobals "_law_motion" = some (some (.ref f15)))
    (l15 : K.lookup f15 = some ⟨oc15, od15, .func (PySem.W.fnOf "_law_motion" "_law_motion" (defArgs s_law_motion) (defBody s_law_motion) (defScope s_law_motion) .none kV15 dc15 pm15 an15 cd15 ct15), sl15⟩)
    (c15 : PySem.W.codeIn K cd15 "_law_motion" = true)
    (k15 : PySem.W.keepIn K (.ref f15) = true)
    (a16 : PySem.W.nsIn K mainGlobals "_law_image" = some (some (.ref f16)))
    (l16 : K.lookup f16 = some ⟨oc16, od16, .func (PySem.W.fnOf "_law_image" "_law_image" (defArgs s_law_image) (defBody s_law_image) (defScope s_law_image) .none kV16 dc16 pm16 an16 cd16 ct16), sl16⟩)
    (c16 : PySem.W.codeIn K cd16 "_law_image" = true)
    (k16 : PySem.W.keepIn K (.ref f16) = true)
    (a17 : PySem.W.nsIn K mainGlobals "_law_sorted_once" = some (some (.ref f17)))
    (l17 : K.lookup f17 = some ⟨oc17, od17, .func (PySem.W.fnOf "_law_sorted_once" "_law_sorted_once" (defArgs s_law_sorted_once) (defBody s_law_sorted_once) (defScope s_law_sorted_once) .none kV17 dc17 pm17 an17 cd17 ct17), sl17⟩)
    (c17 : PySem.W.codeIn K cd17 "_law_sorted_once" = true)
    (k17 : PySem.W.keepIn K (.ref f17) = true)
    (a18 : PySem.W.nsIn K mainGlobals "_law_free_at" = some (some (.ref f18)))
    (l18 : K.lookup f18 = some ⟨oc18, od18, .func (PySem.W.fnOf "_law_free_at" "_law_free_at" (defArgs s_law_free_at) (defBody s_law_free_at) (defScope s_law_free_at) .none kV18 dc18 pm18 an18 cd18 ct18), sl18⟩)
    (c18 : PySem.W.codeIn K cd18 "_law_free_at" = true)
    (k18 : PySem.W.keepIn K (.ref f18) = true)
    (a19 : PySem.W.nsIn K mainGlobals "_law_seen" = some (some (.ref f19)))
    (l19 : K.lookup f19 = some ⟨oc19, od19, .func (PySem.W.fnOf "_law_seen" "_law_seen" (defArgs s_law_seen) (defBody s_law_seen) (defScope s_law_seen) .none kV19 dc19 pm19 an19 cd19 ct19), sl19⟩)
    (c19 : PySem.W.codeIn K cd19 "_law_seen" = true)
    (k19 : PySem.W.keepIn K (.ref f19) = true)
    (a20 : PySem.W.nsIn K mainGlobals "_law_cells" = some (some (.ref f20)))
    (l20 : K.lookup f20 = some ⟨oc20, od20, .func (PySem.W.fnOf "_law_cells" "_law_cells" (defArgs s_law_cells) (defBody s_law_cells) (defScope s_law_cells) .none kV20 dc20 pm20 an20 cd20 ct20), sl20⟩)
    (c20 : PySem.W.codeIn K cd20 "_law_cells" = true)
    (k20 : PySem.W.keepIn K (.ref f20) = true)
    (a21 : PySem.W.nsIn K mainGlobals "_law_stretches" = some (some (.ref f21)))
    (l21 : K.lookup f21 = some ⟨oc21, od21, .func (PySem.W.fnOf "_law_stretches" "_law_stretches" (defArgs s_law_stretches) (defBody s_law_stretches) (defScope s_law_stretches) .none kV21 dc21 pm21 an21 cd21 ct21), sl21⟩)
    (c21 : PySem.W.codeIn K cd21 "_law_stretches" = true)
    (k21 : PySem.W.keepIn K (.ref f21) = true)
    (a22 : PySem.W.nsIn K mainGlobals "_law_due" = some (some (.ref f22)))
    (l22 : K.lookup f22 = some ⟨oc22, od22, .func (PySem.W.fnOf "_law_due" "_law_due" (defArgs s_law_due) (defBody s_law_due) (defScope s_law_due) .none kV22 dc22 pm22 an22 cd22 ct22), sl22⟩)
    (c22 : PySem.W.codeIn K cd22 "_law_due" = true)
    (k22 : PySem.W.keepIn K (.ref f22) = true)
    (a23 : PySem.W.nsIn K mainGlobals "_law_many" = some (some (.ref f23)))
    (l23 : K.lookup f23 = some ⟨oc23, od23, .func (PySem.W.fnOf "_law_many" "_law_many" (defArgs s_law_many) (defBody s_law_many) (defScope s_law_many) .none kV23 dc23 pm23 an23 cd23 ct23), sl23⟩)
    (c23 : PySem.W.codeIn K cd23 "_law_many" = true)
    (k23 : PySem.W.keepIn K (.ref f23) = true)
    (a24 : PySem.W.nsIn K mainGlobals "_law_meets" = some (some (.ref f24)))
    (l24 : K.lookup f24 = some ⟨oc24, od24, .func (PySem.W.fnOf "_law_meets" "_law_meets" (defArgs s_law_meets) (defBody s_law_meets) (defScope s_law_meets) .none kV24 dc24 pm24 an24 cd24 ct24), sl24⟩)
    (c24 : PySem.W.codeIn K cd24 "_law_meets" = true)
    (k24 : PySem.W.keepIn K (.ref f24) = true)
    (a25 : PySem.W.nsIn K mainGlobals "_law_balls" = some (some (.ref f25)))
    (l25 : K.lookup f25 = some ⟨oc25, od25, .func (PySem.W.fnOf "_law_balls" "_law_balls" (defArgs s_law_balls) (defBody s_law_balls) (defScope s_law_balls) .none kV25 dc25 pm25 an25 cd25 ct25), sl25⟩)
    (c25 : PySem.W.codeIn K cd25 "_law_balls" = true)
    (k25 : PySem.W.keepIn K (.ref f25) = true)
    (a26 : PySem.W.nsIn K mainGlobals "law" = some (some (.ref f26)))
    (l26 : K.lookup f26 = some ⟨oc26, od26, .func (PySem.W.fnOf "law" "law" (defArgs s_law) (defBody s_law) (defScope s_law) .none kV26 dc26 pm26 an26 cd26 ct26), sl26⟩)
    (c26 : PySem.W.codeIn K cd26 "law" = true)
    (k26 : PySem.W.keepIn K (.ref f26) = true)
    (aC_Floor : PySem.W.nsIn K mainGlobals "Floor" = some (some (.ref cC_Floor)))
    (pg_Floor : PySem.W.plainGet K cC_Floor Str.empty = true)
    (hd_Floor : PySem.W.hasDictIn K cC_Floor = true)
    (po_Floor : PySem.W.plainOver K cC_Floor = true)
    (sa_Floor : PySem.W.findIn K (.ref cC_Floor) "__setattr__" = some (some (.builtin "object.__setattr__")))
    (mk_Floor : PySem.W.makesIn K cC_Floor = true)
    (kc_Floor : PySem.W.keepIn K (.ref cC_Floor) = true)
    (a_Floor_init : PySem.W.findIn K (.ref cC_Floor) "__init__" = some (some (.ref f_Floor_init)))
    (i_Floor_init : PySem.W.isFn K (.ref f_Floor_init) = true)
    (l_Floor_init : K.lookup f_Floor_init = some ⟨oc_Floor_init, od_Floor_init, .func (PySem.W.fnOf "__init__" "Floor.__init__" (defArgs s_Floor_init) (defBody s_Floor_init) (defScope s_Floor_init) .none kV_Floor_init dc_Floor_init pm_Floor_init an_Floor_init cd_Floor_init ct_Floor_init), sl_Floor_init⟩)
    (c_Floor_init : PySem.W.codeIn K cd_Floor_init "Floor.__init__" = true)
    (k_Floor_init : PySem.W.keepIn K (.ref f_Floor_init) = true)
    (a_Floor_walls : PySem.W.findIn K (.ref cC_Floor) "walls" = some (some (.ref f_Floor_walls)))
    (i_Floor_walls : PySem.W.isFn K (.ref f_Floor_walls) = true)
    (l_Floor_walls : K.lookup f_Floor_walls = some ⟨oc_Floor_walls, od_Floor_walls, .func (PySem.W.fnOf "walls" "Floor.walls" (defArgs s_Floor_walls) (defBody s_Floor_walls) (defScope s_Floor_walls) .none kV_Floor_walls dc_Floor_walls pm_Floor_walls an_Floor_walls cd_Floor_walls ct_Floor_walls), sl_Floor_walls⟩)
    (c_Floor_walls : PySem.W.codeIn K cd_Floor_walls "Floor.walls" = true)
    (k_Floor_walls : PySem.W.keepIn K (.ref f_Floor_walls) = true)
    (a_Floor_free : PySem.W.findIn K (.ref cC_Floor) "free" = some (some (.ref f_Floor_free)))
    (i_Floor_free : PySem.W.isFn K (.ref f_Floor_free) = true)
    (l_Floor_free : K.lookup f_Floor_free = some ⟨oc_Floor_free, od_Floor_free, .func (PySem.W.fnOf "free" "Floor.free" (defArgs s_Floor_free) (defBody s_Floor_free) (defScope s_Floor_free) .none kV_Floor_free dc_Floor_free pm_Floor_free an_Floor_free cd_Floor_free ct_Floor_free), sl_Floor_free⟩)
    (c_Floor_free : PySem.W.codeIn K cd_Floor_free "Floor.free" = true)
    (k_Floor_free : PySem.W.keepIn K (.ref f_Floor_free) = true)
    (a_Floor_barred : PySem.W.findIn K (.ref cC_Floor) "barred" = some (some (.ref f_Floor_barred)))
    (i_Floor_barred : PySem.W.isFn K (.ref f_Floor_barred) = true)
    (l_Floor_barred : K.lookup f_Floor_barred = some ⟨oc_Floor_barred, od_Floor_barred, .func (PySem.W.fnOf "barred" "Floor.barred" (defArgs s_Floor_barred) (defBody s_Floor_barred) (defScope s_Floor_barred) .none kV_Floor_barred dc_Floor_barred pm_Floor_barred an_Floor_barred cd_Floor_barred ct_Floor_barred), sl_Floor_barred⟩)
    (c_Floor_barred : PySem.W.codeIn K cd_Floor_barred "Floor.barred" = true)
    (k_Floor_barred : PySem.W.keepIn K (.ref f_Floor_barred) = true)
    (a_Floor_sees : PySem.W.findIn K (.ref cC_Floor) "sees" = some (some (.ref f_Floor_sees)))
    (i_Floor_sees : PySem.W.isFn K (.ref f_Floor_sees) = true)
    (l_Floor_sees : K.lookup f_Floor_sees = some ⟨oc_Floor_sees, od_Floor_sees, .func (PySem.W.fnOf "sees" "Floor.sees" (defArgs s_Floor_sees) (defBody s_Floor_sees) (defScope s_Floor_sees) .none kV_Floor_sees dc_Floor_sees pm_Floor_sees an_Floor_sees cd_Floor_sees ct_Floor_sees), sl_Floor_sees⟩)
    (c_Floor_sees : PySem.W.codeIn K cd_Floor_sees "Floor.sees" = true)
    (k_Floor_sees : PySem.W.keepIn K (.ref f_Floor_sees) = true)
    (a_Floor_stretches : PySem.W.findIn K (.ref cC_Floor) "stretches" = some (some (.ref f_Floor_stretches)))
    (i_Floor_stretches : PySem.W.isFn K (.ref f_Floor_stretches) = true)
    (l_Floor_stretches : K.lookup f_Floor_stretches = some ⟨oc_Floor_stretches, od_Floor_stretches, .func (PySem.W.fnOf "stretches" "Floor.stretches" (defArgs s_Floor_stretches) (defBody s_Floor_stretches) (defScope s_Floor_stretches) .none kV_Floor_stretches dc_Floor_stretches pm_Floor_stretches an_Floor_stretches cd_Floor_stretches ct_Floor_stretches), sl_Floor_stretches⟩)
    (c_Floor_stretches : PySem.W.codeIn K cd_Floor_stretches "Floor.stretches" = true)
    (k_Floor_stretches : PySem.W.keepIn K (.ref f_Floor_stretches) = true)
    (a_Floor_moved : PySem.W.findIn K (.ref cC_Floor) "moved" = some (some (.ref f_Floor_moved)))
    (i_Floor_moved : PySem.W.isFn K (.ref f_Floor_moved) = true)
    (l_Floor_moved : K.lookup f_Floor_moved = some ⟨oc_Floor_moved, od_Floor_moved, .func (PySem.W.fnOf "moved" "Floor.moved" (defArgs s_Floor_moved) (defBody s_Floor_moved) (defScope s_Floor_moved) .none kV_Floor_moved dc_Floor_moved pm_Floor_moved an_Floor_moved cd_Floor_moved ct_Floor_moved), sl_Floor_moved⟩)
    (c_Floor_moved : PySem.W.codeIn K cd_Floor_moved "Floor.moved" = true)
    (k_Floor_moved : PySem.W.keepIn K (.ref f_Floor_moved) = true)
    (na_Floor_kept : PySem.W.findIn K (.ref cC_Floor) "kept" = some none)
    (aC_Motion : PySem.W.nsIn K mainGlobals "Motion" = some (some (.ref cC_Motion)))
    (pg_Motion : PySem.W.plainGet K cC_Motion Str.empty = true)
    (hd_Motion : PySem.W.hasDictIn K cC_Motion = true)
    (po_Motion : PySem.W.plainOver K cC_Motion = true)
    (sa_Motion : PySem.W.findIn K (.ref cC_Motion) "__setattr__" = some (some (.builtin "object.__setattr__")))
    (mk_Motion : PySem.W.makesIn K cC_Motion = true)
    (kc_Motion : PySem.W.keepIn K (.ref cC_Motion) = true)
    (in_Motion : PySem.W.findIn K (.ref cC_Motion) "__init__" = some (some (.builtin "object.__init__")))
    (a_Motion_image : PySem.W.findIn K (.ref cC_Motion) "image" = some (some (.ref f_Motion_image)))
    (i_Motion_image : PySem.W.isFn K (.ref f_Motion_image) = true)
    (l_Motion_image : K.lookup f_Motion_image = some ⟨oc_Motion_image, od_Motion_image, .func (PySem.W.fnOf "image" "Motion.image" (defArgs s_Motion_image) (defBody s_Motion_image) (defScope s_Motion_image) .none kV_Motion_image dc_Motion_image pm_Motion_image an_Motion_image cd_Motion_image ct_Motion_image), sl_Motion_image⟩)
    (c_Motion_image : PySem.W.codeIn K cd_Motion_image "Motion.image" = true)
    (k_Motion_image : PySem.W.keepIn K (.ref f_Motion_image) = true)
    (a_Motion_back : PySem.W.findIn K (.ref cC_Motion) "back" = some (some (.ref f_Motion_back)))
    (i_Motion_back : PySem.W.isFn K (.ref f_Motion_back) = true)
    (l_Motion_back : K.lookup f_Motion_back = some ⟨oc_Motion_back, od_Motion_back, .func (PySem.W.fnOf "back" "Motion.back" (defArgs s_Motion_back) (defBody s_Motion_back) (defScope s_Motion_back) .none kV_Motion_back dc_Motion_back pm_Motion_back an_Motion_back cd_Motion_back ct_Motion_back), sl_Motion_back⟩)
    (c_Motion_back : PySem.W.codeIn K cd_Motion_back "Motion.back" = true)
    (k_Motion_back : PySem.W.keepIn K (.ref f_Motion_back) = true)
    (aC_Turn : PySem.W.nsIn K mainGlobals "Turn" = some (some (.ref cC_Turn)))
    (pg_Turn : PySem.W.plainGet K cC_Turn Str.empty = true)
    (hd_Turn : PySem.W.hasDictIn K cC_Turn = true)
    (po_Turn : PySem.W.plainOver K cC_Turn = true)
    (sa_Turn : PySem.W.findIn K (.ref cC_Turn) "__setattr__" = some (some (.builtin "object.__setattr__")))
    (mk_Turn : PySem.W.makesIn K cC_Turn = true)
    (kc_Turn : PySem.W.keepIn K (.ref cC_Turn) = true)
    (a_Turn_init : PySem.W.findIn K (.ref cC_Turn) "__init__" = some (some (.ref f_Turn_init)))
    (i_Turn_init : PySem.W.isFn K (.ref f_Turn_init) = true)
    (l_Turn_init : K.lookup f_Turn_init = some ⟨oc_Turn_init, od_Turn_init, .func (PySem.W.fnOf "__init__" "Turn.__init__" (defArgs s_Turn_init) (defBody s_Turn_init) (defScope s_Turn_init) (.ref T_Turn_init) kV_Turn_init dc_Turn_init pm_Turn_init an_Turn_init cd_Turn_init ct_Turn_init), sl_Turn_init⟩)
    (c_Turn_init : PySem.W.codeIn K cd_Turn_init "Turn.__init__" = true)
    (k_Turn_init : PySem.W.keepIn K (.ref f_Turn_init) = true)
    (t_Turn_init : K.lookup T_Turn_init = some o_Turn_init)
    (z_Turn_init : o_Turn_init.data = .seq #[u_Turn_init] n_Turn_init)
    (r_Turn_init : RelV (.int 1) u_Turn_init)
    (a_Turn_image : PySem.W.findIn K (.ref cC_Turn) "image" = some (some (.ref f_Turn_image)))
    (i_Turn_image : PySem.W.isFn K (.ref f_Turn_image) = true)
    (l_Turn_image : K.lookup f_Turn_image = some ⟨oc_Turn_image, od_Turn_image, .func (PySem.W.fnOf "image" "Turn.image" (defArgs s_Turn_image) (defBody s_Turn_image) (defScope s_Turn_image) .none kV_Turn_image dc_Turn_image pm_Turn_image an_Turn_image cd_Turn_image ct_Turn_image), sl_Turn_image⟩)
    (c_Turn_image : PySem.W.codeIn K cd_Turn_image "Turn.image" = true)
    (k_Turn_image : PySem.W.keepIn K (.ref f_Turn_image) = true)
    (a_Turn_back : PySem.W.findIn K (.ref cC_Turn) "back" = some (some (.ref f_Turn_back)))
    (i_Turn_back : PySem.W.isFn K (.ref f_Turn_back) = true)
    (l_Turn_back : K.lookup f_Turn_back = some ⟨oc_Turn_back, od_Turn_back, .func (PySem.W.fnOf "back" "Turn.back" (defArgs s_Turn_back) (defBody s_Turn_back) (defScope s_Turn_back) .none kV_Turn_back dc_Turn_back pm_Turn_back an_Turn_back cd_Turn_back ct_Turn_back), sl_Turn_back⟩)
    (c_Turn_back : PySem.W.codeIn K cd_Turn_back "Turn.back" = true)
    (k_Turn_back : PySem.W.keepIn K (.ref f_Turn_back) = true)
    (na_Turn_times : PySem.W.findIn K (.ref cC_Turn) "times" = some none)
    (aC_Mirror : PySem.W.nsIn K mainGlobals "Mirror" = some (some (.ref cC_Mirror)))
    (pg_Mirror : PySem.W.plainGet K cC_Mirror Str.empty = true)
    (hd_Mirror : PySem.W.hasDictIn K cC_Mirror = true)
    (po_Mirror : PySem.W.plainOver K cC_Mirror = true)
    (sa_Mirror : PySem.W.findIn K (.ref cC_Mirror) "__setattr__" = some (some (.builtin "object.__setattr__")))
    (mk_Mirror : PySem.W.makesIn K cC_Mirror = true)
    (kc_Mirror : PySem.W.keepIn K (.ref cC_Mirror) = true)
    (in_Mirror : PySem.W.findIn K (.ref cC_Mirror) "__init__" = some (some (.builtin "object.__init__")))
    (a_Mirror_image : PySem.W.findIn K (.ref cC_Mirror) "image" = some (some (.ref f_Mirror_image)))
    (i_Mirror_image : PySem.W.isFn K (.ref f_Mirror_image) = true)
    (l_Mirror_image : K.lookup f_Mirror_image = some ⟨oc_Mirror_image, od_Mirror_image, .func (PySem.W.fnOf "image" "Mirror.image" (defArgs s_Mirror_image) (defBody s_Mirror_image) (defScope s_Mirror_image) .none kV_Mirror_image dc_Mirror_image pm_Mirror_image an_Mirror_image cd_Mirror_image ct_Mirror_image), sl_Mirror_image⟩)
    (c_Mirror_image : PySem.W.codeIn K cd_Mirror_image "Mirror.image" = true)
    (k_Mirror_image : PySem.W.keepIn K (.ref f_Mirror_image) = true)
    (a_Mirror_back : PySem.W.findIn K (.ref cC_Mirror) "back" = some (some (.ref f_Mirror_back)))
    (i_Mirror_back : PySem.W.isFn K (.ref f_Mirror_back) = true)
    (l_Mirror_back : K.lookup f_Mirror_back = some ⟨oc_Mirror_back, od_Mirror_back, .func (PySem.W.fnOf "back" "Mirror.back" (defArgs s_Mirror_back) (defBody s_Mirror_back) (defScope s_Mirror_back) .none kV_Mirror_back dc_Mirror_back pm_Mirror_back an_Mirror_back cd_Mirror_back ct_Mirror_back), sl_Mirror_back⟩)
    (c_Mirror_back : PySem.W.codeIn K cd_Mirror_back "Mirror.back" = true)
    (k_Mirror_back : PySem.W.keepIn K (.ref f_Mirror_back) = true)
    (aC_Shift : PySem.W.nsIn K mainGlobals "Shift" = some (some (.ref cC_Shift)))
    (pg_Shift : PySem.W.plainGet K cC_Shift Str.empty = true)
    (hd_Shift : PySem.W.hasDictIn K cC_Shift = true)
    (po_Shift : PySem.W.plainOver K cC_Shift = true)
    (sa_Shift : PySem.W.findIn K (.ref cC_Shift) "__setattr__" = some (some (.builtin "object.__setattr__")))
    (mk_Shift : PySem.W.makesIn K cC_Shift = true)
    (kc_Shift : PySem.W.keepIn K (.ref cC_Shift) = true)
    (a_Shift_init : PySem.W.findIn K (.ref cC_Shift) "__init__" = some (some (.ref f_Shift_init)))
    (i_Shift_init : PySem.W.isFn K (.ref f_Shift_init) = true)
    (l_Shift_init : K.lookup f_Shift_init = some ⟨oc_Shift_init, od_Shift_init, .func (PySem.W.fnOf "__init__" "Shift.__init__" (defArgs s_Shift_init) (defBody s_Shift_init) (defScope s_Shift_init) .none kV_Shift_init dc_Shift_init pm_Shift_init an_Shift_init cd_Shift_init ct_Shift_init), sl_Shift_init⟩)
    (c_Shift_init : PySem.W.codeIn K cd_Shift_init "Shift.__init__" = true)
    (k_Shift_init : PySem.W.keepIn K (.ref f_Shift_init) = true)
    (a_Shift_image : PySem.W.findIn K (.ref cC_Shift) "image" = some (some (.ref f_Shift_image)))
    (i_Shift_image : PySem.W.isFn K (.ref f_Shift_image) = true)
    (l_Shift_image : K.lookup f_Shift_image = some ⟨oc_Shift_image, od_Shift_image, .func (PySem.W.fnOf "image" "Shift.image" (defArgs s_Shift_image) (defBody s_Shift_image) (defScope s_Shift_image) .none kV_Shift_image dc_Shift_image pm_Shift_image an_Shift_image cd_Shift_image ct_Shift_image), sl_Shift_image⟩)
    (c_Shift_image : PySem.W.codeIn K cd_Shift_image "Shift.image" = true)
    (k_Shift_image : PySem.W.keepIn K (.ref f_Shift_image) = true)
    (a_Shift_back : PySem.W.findIn K (.ref cC_Shift) "back" = some (some (.ref f_Shift_back)))
    (i_Shift_back : PySem.W.isFn K (.ref f_Shift_back) = true)
    (l_Shift_back : K.lookup f_Shift_back = some ⟨oc_Shift_back, od_Shift_back, .func (PySem.W.fnOf "back" "Shift.back" (defArgs s_Shift_back) (defBody s_Shift_back) (defScope s_Shift_back) .none kV_Shift_back dc_Shift_back pm_Shift_back an_Shift_back cd_Shift_back ct_Shift_back), sl_Shift_back⟩)
    (c_Shift_back : PySem.W.codeIn K cd_Shift_back "Shift.back" = true)
    (k_Shift_back : PySem.W.keepIn K (.ref f_Shift_back) = true)
    (na_Shift_by : PySem.W.findIn K (.ref cC_Shift) "by" = some none)
    (aC_Chain : PySem.W.nsIn K mainGlobals "Chain" = some (some (.ref cC_Chain)))
    (pg_Chain : PySem.W.plainGet K cC_Chain Str.empty = true)
    (hd_Chain : PySem.W.hasDictIn K cC_Chain = true)
    (po_Chain : PySem.W.plainOver K cC_Chain = true)
    (sa_Chain : PySem.W.findIn K (.ref cC_Chain) "__setattr__" = some (some (.builtin "object.__setattr__")))
    (mk_Chain : PySem.W.makesIn K cC_Chain = true)
    (kc_Chain : PySem.W.keepIn K (.ref cC_Chain) = true)
    (a_Chain_init : PySem.W.findIn K (.ref cC_Chain) "__init__" = some (some (.ref f_Chain_init)))
    (i_Chain_init : PySem.W.isFn K (.ref f_Chain_init) = true)
    (l_Chain_init : K.lookup f_Chain_init = some ⟨oc_Chain_init, od_Chain_init, .func (PySem.W.fnOf "__init__" "Chain.__init__" (defArgs s_Chain_init) (defBody s_Chain_init) (defScope s_Chain_init) .none kV_Chain_init dc_Chain_init pm_Chain_init an_Chain_init cd_Chain_init ct_Chain_init), sl_Chain_init⟩)
    (c_Chain_init : PySem.W.codeIn K cd_Chain_init "Chain.__init__" = true)
    (k_Chain_init : PySem.W.keepIn K (.ref f_Chain_init) = true)
    (a_Chain_image : PySem.W.findIn K (.ref cC_Chain) "image" = some (some (.ref f_Chain_image)))
    (i_Chain_image : PySem.W.isFn K (.ref f_Chain_image) = true)
    (l_Chain_image : K.lookup f_Chain_image = some ⟨oc_Chain_image, od_Chain_image, .func (PySem.W.fnOf "image" "Chain.image" (defArgs s_Chain_image) (defBody s_Chain_image) (defScope s_Chain_image) .none kV_Chain_image dc_Chain_image pm_Chain_image an_Chain_image cd_Chain_image ct_Chain_image), sl_Chain_image⟩)
    (c_Chain_image : PySem.W.codeIn K cd_Chain_image "Chain.image" = true)
    (k_Chain_image : PySem.W.keepIn K (.ref f_Chain_image) = true)
    (a_Chain_back : PySem.W.findIn K (.ref cC_Chain) "back" = some (some (.ref f_Chain_back)))
    (i_Chain_back : PySem.W.isFn K (.ref f_Chain_back) = true)
    (l_Chain_back : K.lookup f_Chain_back = some ⟨oc_Chain_back, od_Chain_back, .func (PySem.W.fnOf "back" "Chain.back" (defArgs s_Chain_back) (defBody s_Chain_back) (defScope s_Chain_back) .none kV_Chain_back dc_Chain_back pm_Chain_back an_Chain_back cd_Chain_back ct_Chain_back), sl_Chain_back⟩)
    (c_Chain_back : PySem.W.codeIn K cd_Chain_back "Chain.back" = true)
    (k_Chain_back : PySem.W.keepIn K (.ref f_Chain_back) = true)
    (na_Chain_parts : PySem.W.findIn K (.ref cC_Chain) "parts" = some none)
    (ha_Floor_Floor : PySem.W.findIn K (.ref cC_Floor) "__class__" = some (some (.builtin "object.__class__")))
    (hn_Floor_Floor : PySem.W.specialIn K (.builtin "object.__class__") "__get__" = some (some (.builtin "getset_descriptor.__get__")))
    (ht_Floor_Floor : PySem.W.takesIn K (.builtin "object.__class__") = some true)
    (hm_Floor_Floor : PySem.W.mroIn K cC_Floor (.type "object") = some true)
    (mo_Floor_Floor : PySem.W.mroIn K cC_Floor (.type "object") = some true)
    (mt_Floor_Floor : PySem.W.typeIn K (.ref cC_Floor) = some (.type "type"))
    (mr_Floor_Floor : PySem.W.mroIn K cC_Floor (.ref cC_Floor) = some true)
    (aW_ : PySem.W.nsIn K mainGlobals "WAYS" = some (some (.ref aW)))
    (lW : K.lookup aW = some oW)
    (zW : oW.cls = .type "tuple")
    (dW : oW.data = .seq #[.ref w0, .ref w1, .ref w2, .ref w3, .ref w4, .ref w5] nW)
    (lW0 : K.lookup w0 = some x0)
    (zW0 : x0.cls = .type "tuple")
    (dW0 : x0.data = .seq #[.int (1) tW0, .int (0) tX0] n0W)
    (lW1 : K.lookup w1 = some x1)
    (zW1 : x1.cls = .type "tuple")
    (dW1 : x1.data = .seq #[.int (0) tW1, .int (1) tX1] n1W)
    (lW2 : K.lookup w2 = some x2)
    (zW2 : x2.cls = .type "tuple")
    (dW2 : x2.data = .seq #[.int (-1) tW2, .int (1) tX2] n2W)
    (lW3 : K.lookup w3 = some x3)
    (zW3 : x3.cls = .type "tuple")
    (dW3 : x3.data = .seq #[.int (-1) tW3, .int (0) tX3] n3W)
    (lW4 : K.lookup w4 = some x4)
    (zW4 : x4.cls = .type "tuple")
    (dW4 : x4.data = .seq #[.int (0) tW4, .int (-1) tX4] n4W)
    (lW5 : K.lookup w5 = some x5)
    (zW5 : x5.cls = .type "tuple")
    (dW5 : x5.data = .seq #[.int (1) tW5, .int (-1) tX5] n5W)
    (y_abs : PySem.W.nsIn K mainGlobals "abs" = some none)
    (y_bool : PySem.W.nsIn K mainGlobals "bool" = some none)
    (y_divmod : PySem.W.nsIn K mainGlobals "divmod" = some none)
    (y_enumerate : PySem.W.nsIn K mainGlobals "enumerate" = some none)
    (y_int : PySem.W.nsIn K mainGlobals "int" = some none)
    (y_isinstance : PySem.W.nsIn K mainGlobals "isinstance" = some none)
    (y_len : PySem.W.nsIn K mainGlobals "len" = some none)
    (y_list : PySem.W.nsIn K mainGlobals "list" = some none)
    (y_max : PySem.W.nsIn K mainGlobals "max" = some none)
    (y_range : PySem.W.nsIn K mainGlobals "range" = some none)
    (y_reversed : PySem.W.nsIn K mainGlobals "reversed" = some none)
    (y_sorted : PySem.W.nsIn K mainGlobals "sorted" = some none)
    (y_sum : PySem.W.nsIn K mainGlobals "sum" = some none)
    (y_tuple : PySem.W.nsIn K mainGlobals "tuple" = some none) : ∃ fd : FuncData, (∀ (s : Shared) (v : Value), BindsTo s fd ⟨[v], []⟩ [("_law_script", v)]) ∧ ∀ base : Heap, K.In base → base.Ns mainGlobals mg → FnOk P w K mg base CX0 9 fa fd ["_law_script"] (spD K R_law) := by
  have e := hfa.symm.trans (PySem.W.mg_of X G a26)
  cases e
  have f_is_whole : DefT K mg "is_whole" s_is_whole ["thing"] := defT (PySem.W.mg_of X G a1) l1 c1 k1 fun _ _ _ _ _ _ us hl => match us, hl with | [_], _ => rfl
  have f_is_cell : DefT K mg "is_cell" s_is_cell ["thing"] := defT (PySem.W.mg_of X G a2) l2 c2 k2 fun _ _ _ _ _ _ us hl => match us, hl with | [_], _ => rfl
  have f_plus : DefD K mg "plus" s_plus ["one", "other", "times"] (.int 1) := defD (PySem.W.mg_of X G a3) l3 c3 k3 t3 z3 r3 (fun _ _ _ _ _ _ _ us its hl hi => match us, hl, its, hi with | [_, _, _], _, [_], _ => ⟨_, rfl, rfl⟩) (fun _ _ _ _ _ _ _ us its hl hi => match us, hl, its, hi with | [_, _], _, [_], _ => ⟨_, rfl, rfl⟩) (by decide)
  have f_reach : DefT K mg "reach" s_reach ["a", "b"] := defT (PySem.W.mg_of X G a4) l4 c4 k4 fun _ _ _ _ _ _ us hl => match us, hl with | [_, _], _ => rfl
  have f_distance : DefT K mg "distance" s_distance ["one", "other"] := defT (PySem.W.mg_of X G a5) l5 c5 k5 fun _ _ _ _ _ _ us hl => match us, hl with | [_, _], _ => rfl
  have f_nearest : DefT K mg "nearest" s_nearest ["one", "other", "at"] := defT (PySem.W.mg_of X G a6) l6 c6 k6 fun _ _ _ _ _ _ us hl => match us, hl with | [_, _, _], _ => rfl
  have f_ring_of : DefT K mg "ring_of" s_ring_of ["place"] := defT (PySem.W.mg_of X G a7) l7 c7 k7 fun _ _ _ _ _ _ us hl => match us, hl with | [_], _ => rfl
  have f_cell_at : DefT K mg "cell_at" s_cell_at ["place"] := defT (PySem.W.mg_of X G a8) l8 c8 k8 fun _ _ _ _ _ _ us hl => match us, hl with | [_], _ => rfl
  have f_law_cell_at : DefT K mg "_law_cell_at" s_law_cell_at ["_law_script", "_law_k"] := defT (PySem.W.mg_of X G a9) l9 c9 k9 fun _ _ _ _ _ _ us hl => match us, hl with | [_, _], _ => rfl
  have f_law_whole : DefT K mg "_law_whole" s_law_whole ["_law_found"] := defT (PySem.W.mg_of X G a10) l10 c10 k10 fun _ _ _ _ _ _ us hl => match us, hl with | [_], _ => rfl
  have f_law_cell : DefT K mg "_law_cell" s_law_cell ["_law_found"] := defT (PySem.W.mg_of X G a11) l11 c11 k11 fun _ _ _ _ _ _ us hl => match us, hl with | [_], _ => rfl
  have f_law_number_by : DefT K mg "_law_number_by" s_law_number_by ["_law_cell_here"] := defT (PySem.W.mg_of X G a12) l12 c12 k12 fun _ _ _ _ _ _ us hl => match us, hl with | [_], _ => rfl
  have f_law_reach : DefT K mg "_law_reach" s_law_reach ["_law_one", "_law_other"] := defT (PySem.W.mg_of X G a13) l13 c13 k13 fun _ _ _ _ _ _ us hl => match us, hl with | [_, _], _ => rfl
  have f_law_deed : DefT K mg "_law_deed" s_law_deed ["_law_cell_here"] := defT (PySem.W.mg_of X G a14) l14 c14 k14 fun _ _ _ _ _ _ us hl => match us, hl with | [_], _ => rfl
  have f_law_motion : DefT K mg "_law_motion" s_law_motion ["_law_deed_here"] := defT (PySem.W.mg_of X G a15) l15 c15 k15 fun _ _ _ _ _ _ us hl => match us, hl with | [_], _ => rfl
  have f_law_image : DefT K mg "_law_image" s_law_image ["_law_spot", "_law_deeds"] := defT (PySem.W.mg_of X G a16) l16 c16 k16 fun _ _ _ _ _ _ us hl => match us, hl with | [_, _], _ => rfl
  have f_law_sorted_once : DefT K mg "_law_sorted_once" s_law_sorted_once ["_law_floor", "_law_shuts"] := defT (PySem.W.mg_of X G a17) l17 c17 k17 fun _ _ _ _ _ _ us hl => match us, hl with | [_, _], _ => rfl
  have f_law_free_at : DefT K mg "_law_free_at" s_law_free_at ["_law_one", "_law_other", "_law_at", "_law_shuts"] := defT (PySem.W.mg_of X G a18) l18 c18 k18 fun _ _ _ _ _ _ us hl => match us, hl with | [_, _, _, _], _ => rfl
  have f_law_seen : DefT K mg "_law_seen" s_law_seen ["_law_one", "_law_other", "_law_shuts"] := defT (PySem.W.mg_of X G a19) l19 c19 k19 fun _ _ _ _ _ _ us hl => match us, hl with | [_, _, _], _ => rfl
  have f_law_cells : DefT K mg "_law_cells" s_law_cells ["_law_middle", "_law_size"] := defT (PySem.W.mg_of X G a20) l20 c20 k20 fun _ _ _ _ _ _ us hl => match us, hl with | [_, _], _ => rfl
  have f_law_stretches : DefT K mg "_law_stretches" s_law_stretches ["_law_found"] := defT (PySem.W.mg_of X G a21) l21 c21 k21 fun _ _ _ _ _ _ us hl => match us, hl with | [_], _ => rfl
  have f_law_due : DefT K mg "_law_due" s_law_due ["_law_middle", "_law_size", "_law_shuts"] := defT (PySem.W.mg_of X G a22) l22 c22 k22 fun _ _ _ _ _ _ us hl => match us, hl with | [_, _, _], _ => rfl
  have f_law_many : DefT K mg "_law_many" s_law_many ["_law_stretches_here"] := defT (PySem.W.mg_of X G a23) l23 c23 k23 fun _ _ _ _ _ _ us hl => match us, hl with | [_], _ => rfl
  have f_law_meets : DefT K mg "_law_meets" s_law_meets ["_law_floor", "_law_one", "_law_other", "_law_there", "_law_deeds"] := defT (PySem.W.mg_of X G a24) l24 c24 k24 fun _ _ _ _ _ _ us hl => match us, hl with | [_, _, _, _, _], _ => rfl
  have f_law_balls : DefT K mg "_law_balls" s_law_balls ["_law_floor", "_law_one", "_law_other", "_law_size", "_law_shuts"] := defT (PySem.W.mg_of X G a25) l25 c25 k25 fun _ _ _ _ _ _ us hl => match us, hl with | [_, _, _, _, _], _ => rfl
  have f_law : DefT K mg "law" s_law ["_law_script"] := defT (PySem.W.mg_of X G a26) l26 c26 k26 fun _ _ _ _ _ _ us hl => match us, hl with | [_], _ => rfl
  have q_Floor : mg "Floor" = some (.ref cC_Floor) := PySem.W.mg_of X G aC_Floor
  have k_Floor : ClsT K mg "Floor" := clsT q_Floor pg_Floor hd_Floor po_Floor sa_Floor
  have n_Floor : IniT K mg "Floor" "Floor.__init__" s_Floor_init ["self", "walls"] := iniT q_Floor mk_Floor kc_Floor a_Floor_init i_Floor_init l_Floor_init c_Floor_init k_Floor_init fun _ _ _ _ _ _ us hl => match us, hl with | [_, _], _ => rfl
  have m_Floor_walls : MetT K mg "Floor" "walls" "Floor.walls" s_Floor_walls ["self"] := metT q_Floor a_Floor_walls i_Floor_walls l_Floor_walls c_Floor_walls k_Floor_walls fun _ _ _ _ _ _ us hl => match us, hl with | [_], _ => rfl
  have m_Floor_free : MetT K mg "Floor" "free" "Floor.free" s_Floor_free ["self", "cells"] := metT q_Floor a_Floor_free i_Floor_free l_Floor_free c_Floor_free k_Floor_free fun _ _ _ _ _ _ us hl => match us, hl with | [_, _], _ => rfl
  have m_Floor_barred : MetT K mg "Floor" "barred" "Floor.barred" s_Floor_barred ["self", "one", "other"] := metT q_Floor a_Floor_barred i_Floor_barred l_Floor_barred c_Floor_barred k_Floor_barred fun _ _ _ _ _ _ us hl => match us, hl with | [_, _, _], _ => rfl
  have m_Floor_sees : MetT K mg "Floor" "sees" "Floor.sees" s_Floor_sees ["self", "one", "other"] := metT q_Floor a_Floor_sees i_Floor_sees l_Floor_sees c_Floor_sees k_Floor_sees fun _ _ _ _ _ _ us hl => match us, hl with | [_, _, _], _ => rfl
  have m_Floor_stretches : MetT K mg "Floor" "stretches" "Floor.stretches" s_Floor_stretches ["self", "middle", "size"] := metT q_Floor a_Floor_stretches i_Floor_stretches l_Floor_stretches c_Floor_stretches k_Floor_stretches fun _ _ _ _ _ _ us hl => match us, hl with | [_, _, _], _ => rfl
  have m_Floor_moved : MetT K mg "Floor" "moved" "Floor.moved" s_Floor_moved ["self", "motion"] := metT q_Floor a_Floor_moved i_Floor_moved l_Floor_moved c_Floor_moved k_Floor_moved fun _ _ _ _ _ _ us hl => match us, hl with | [_, _], _ => rfl
  have t_Floor_kept : NoA K mg "Floor" "kept" := noA q_Floor na_Floor_kept
  have q_Motion : mg "Motion" = some (.ref cC_Motion) := PySem.W.mg_of X G aC_Motion
  have k_Motion : ClsT K mg "Motion" := clsT q_Motion pg_Motion hd_Motion po_Motion sa_Motion
  have b_Motion : Mk0 K mg "Motion" := mk0 q_Motion mk_Motion in_Motion kc_Motion
  have m_Motion_image : MetT K mg "Motion" "image" "Motion.image" s_Motion_image ["self", "cell"] := metT q_Motion a_Motion_image i_Motion_image l_Motion_image c_Motion_image k_Motion_image fun _ _ _ _ _ _ us hl => match us, hl with | [_, _], _ => rfl
  have m_Motion_back : MetT K mg "Motion" "back" "Motion.back" s_Motion_back ["self"] := metT q_Motion a_Motion_back i_Motion_back l_Motion_back c_Motion_back k_Motion_back fun _ _ _ _ _ _ us hl => match us, hl with | [_], _ => rfl
  have q_Turn : mg "Turn" = some (.ref cC_Turn) := PySem.W.mg_of X G aC_Turn
  have k_Turn : ClsT K mg "Turn" := clsT q_Turn pg_Turn hd_Turn po_Turn sa_Turn
  have n_Turn : IniD K mg "Turn" "Turn.__init__" s_Turn_init ["self", "times"] (.int 1) := iniD q_Turn mk_Turn kc_Turn a_Turn_init i_Turn_init l_Turn_init c_Turn_init k_Turn_init t_Turn_init z_Turn_init r_Turn_init (fun _ _ _ _ _ _ _ us its hl hi => match us, hl, its, hi with | [_, _], _, [_], _ => ⟨_, rfl, rfl⟩) (fun _ _ _ _ _ _ _ us its hl hi => match us, hl, its, hi with | [_], _, [_], _ => ⟨_, rfl, rfl⟩) (by decide)
  have m_Turn_image : MetT K mg "Turn" "image" "Turn.image" s_Turn_image ["self", "cell"] := metT q_Turn a_Turn_image i_Turn_image l_Turn_image c_Turn_image k_Turn_image fun _ _ _ _ _ _ us hl => match us, hl with | [_, _], _ => rfl
  have m_Turn_back : MetT K mg "Turn" "back" "Turn.back" s_Turn_back ["self"] := metT q_Turn a_Turn_back i_Turn_back l_Turn_back c_Turn_back k_Turn_back fun _ _ _ _ _ _ us hl => match us, hl with | [_], _ => rfl
  have t_Turn_times : NoA K mg "Turn" "times" := noA q_Turn na_Turn_times
  have q_Mirror : mg "Mirror" = some (.ref cC_Mirror) := PySem.W.mg_of X G aC_Mirror
  have k_Mirror : ClsT K mg "Mirror" := clsT q_Mirror pg_Mirror hd_Mirror po_Mirror sa_Mirror
  have b_Mirror : Mk0 K mg "Mirror" := mk0 q_Mirror mk_Mirror in_Mirror kc_Mirror
  have m_Mirror_image : MetT K mg "Mirror" "image" "Mirror.image" s_Mirror_image ["self", "cell"] := metT q_Mirror a_Mirror_image i_Mirror_image l_Mirror_image c_Mirror_image k_Mirror_image fun _ _ _ _ _ _ us hl => match us, hl with | [_, _], _ => rfl
  have m_Mirror_back : MetT K mg "Mirror" "back" "Mirror.back" s_Mirror_back ["self"] := metT q_Mirror a_Mirror_back i_Mirror_back l_Mirror_back c_Mirror_back k_Mirror_back fun _ _ _ _ _ _ us hl => match us, hl with | [_], _ => rfl
  have q_Shift : mg "Shift" = some (.ref cC_Shift) := PySem.W.mg_of X G aC_Shift
  have k_Shift : ClsT K mg "Shift" := clsT q_Shift pg_Shift hd_Shift po_Shift sa_Shift
  have n_Shift : IniT K mg "Shift" "Shift.__init__" s_Shift_init ["self", "by"] := iniT q_Shift mk_Shift kc_Shift a_Shift_init i_Shift_init l_Shift_init c_Shift_init k_Shift_init fun _ _ _ _ _ _ us hl => match us, hl with | [_, _], _ => rfl
  have m_Shift_image : MetT K mg "Shift" "image" "Shift.image" s_Shift_image ["self", "cell"] := metT q_Shift a_Shift_image i_Shift_image l_Shift_image c_Shift_image k_Shift_image fun _ _ _ _ _ _ us hl => match us, hl with | [_, _], _ => rfl
  have m_Shift_back : MetT K mg "Shift" "back" "Shift.back" s_Shift_back ["self"] := metT q_Shift a_Shift_back i_Shift_back l_Shift_back c_Shift_back k_Shift_back fun _ _ _ _ _ _ us hl => match us, hl with | [_], _ => rfl
  have t_Shift_by : NoA K mg "Shift" "by" := noA q_Shift na_Shift_by
  have q_Chain : mg "Chain" = some (.ref cC_Chain) := PySem.W.mg_of X G aC_Chain
  have k_Chain : ClsT K mg "Chain" := clsT q_Chain pg_Chain hd_Chain po_Chain sa_Chain
  have n_Chain : IniT K mg "Chain" "Chain.__init__" s_Chain_init ["self", "motions"] := iniT q_Chain mk_Chain kc_Chain a_Chain_init i_Chain_init l_Chain_init c_Chain_init k_Chain_init fun _ _ _ _ _ _ us hl => match us, hl with | [_, _], _ => rfl
  have m_Chain_image : MetT K mg "Chain" "image" "Chain.image" s_Chain_image ["self", "cell"] := metT q_Chain a_Chain_image i_Chain_image l_Chain_image c_Chain_image k_Chain_image fun _ _ _ _ _ _ us hl => match us, hl with | [_, _], _ => rfl
  have m_Chain_back : MetT K mg "Chain" "back" "Chain.back" s_Chain_back ["self"] := metT q_Chain a_Chain_back i_Chain_back l_Chain_back c_Chain_back k_Chain_back fun _ _ _ _ _ _ us hl => match us, hl with | [_], _ => rfl
  have t_Chain_parts : NoA K mg "Chain" "parts" := noA q_Chain na_Chain_parts
  have is_Floor_Floor : IsT K mg "Floor" "Floor" := isT q_Floor q_Floor ⟨⟨pg_Floor, hd_Floor, po_Floor, sa_Floor⟩, ha_Floor_Floor, hn_Floor_Floor, ht_Floor_Floor, hm_Floor_Floor, kit_of_mro mo_Floor_Floor mt_Floor_Floor mr_Floor_Floor⟩
  have h_WAYS : ∃ a, mg "WAYS" = some (.ref a) ∧ ∀ G, Dv K G (.ref a) waysD := ⟨aW, PySem.W.mg_of X G aW_, fun G => .ktup (fun H => .inr ⟨oW, _, nW, lW, zW, dW, (by show 6 ≤ sizeLine; decide), .cons (refV w0) (.cons (refV w1) (.cons (refV w2) (.cons (refV w3) (.cons (refV w4) (.cons (refV w5) .nil)))))⟩) (.cons (wayK lW0 zW0 dW0) (.cons (wayK lW1 zW1 dW1) (.cons (wayK lW2 zW2 dW2) (.cons (wayK lW3 zW3 dW3) (.cons (wayK lW4 zW4 dW4) (.cons (wayK lW5 zW5 dW5) .nil))))))⟩
  have g_abs : mg "abs" = none := PySem.W.mg_none_of X G y_abs
  have g_bool : mg "bool" = none := PySem.W.mg_none_of X G y_bool
  have g_divmod : mg "divmod" = none := PySem.W.mg_none_of X G y_divmod
  have g_enumerate : mg "enumerate" = none := PySem.W.mg_none_of X G y_enumerate
  have g_int : mg "int" = none := PySem.W.mg_none_of X G y_int
  have g_isinstance : mg "isinstance" = none := PySem.W.mg_none_of X G y_isinstance
  have g_len : mg "len" = none := PySem.W.mg_none_of X G y_len
  have g_list : mg "list" = none := PySem.W.mg_none_of X G y_list
  have g_max : mg "max" = none := PySem.W.mg_none_of X G y_max
  have g_range : mg "range" = none := PySem.W.mg_none_of X G y_range
  have g_reversed : mg "reversed" = none := PySem.W.mg_none_of X G y_reversed
  have g_sorted : mg "sorted" = none := PySem.W.mg_none_of X G y_sorted
  have g_sum : mg "sum" = none := PySem.W.mg_none_of X G y_sum
  have g_tuple : mg "tuple" = none := PySem.W.mg_none_of X G y_tuple
  have T : Txt K mg := ⟨f_is_whole, f_is_cell, f_plus, f_reach, f_distance, f_nearest, f_ring_of, f_cell_at, f_law_cell_at, f_law_whole, f_law_cell, f_law_number_by, f_law_reach, f_law_deed, f_law_motion, f_law_image, f_law_sorted_once, f_law_free_at, f_law_seen, f_law_cells, f_law_stretches, f_law_due, f_law_many, f_law_meets, f_law_balls, f_law, k_Floor, n_Floor, m_Floor_walls, m_Floor_free, m_Floor_barred, m_Floor_sees, m_Floor_stretches, m_Floor_moved, t_Floor_kept, k_Motion, b_Motion, m_Motion_image, m_Motion_back, k_Turn, n_Turn, m_Turn_image, m_Turn_back, t_Turn_times, k_Mirror, b_Mirror, m_Mirror_image, m_Mirror_back, k_Shift, n_Shift, m_Shift_image, m_Shift_back, t_Shift_by, k_Chain, n_Chain, m_Chain_image, m_Chain_back, t_Chain_parts, is_Floor_Floor, h_WAYS, g_abs, g_bool, g_divmod, g_enumerate, g_int, g_isinstance, g_len, g_list, g_max, g_range, g_reversed, g_sorted, g_sum, g_tuple⟩
  exact ⟨PySem.W.fnOf "law" "law" (defArgs s_law) (defBody s_law) (defScope s_law) .none kV26 dc26 pm26 an26 cd26 ct26, fun s v => .of_eq rfl, fun base _ _ => ok_law (fun_mk (st := s_law) l26 c26 k26) T⟩
end
end K

open PySem PySem.W PyProof.Rows in
set_option maxRecDepth 100000 in
set_option maxHeartbeats 0 in
theorem PySem.Challenge.cw_sixcells_k09_whole_sight_moved_holds : PySem.Challenge.rw_sixcells_k09_whole_sight_moved.Holds := by
  w_on; o_law; k_head; (case hw => w_witness2)
  k_fill
  refine DL.walk (l := PySem.Challenge.rw_sixcells_k09_whole_sight_moved) (k := 9) (x := "_law_script") (by decide) rfl rfl (fun w h Y => PySem.W.kIn_of Y) ?F
  case F =>
    intro w mg fa h KX G hmg
    refine' K.all_mk KX G hmg ?a1 ?l1 ?c1 ?k1 ?a2 ?l2 ?c2 ?k2 ?a3 ?l3 ?c3 ?k3 ?t3 ?z3 ?r3 ?a4 ?l4 ?c4 ?k4 ?a5 ?l5 ?c5 ?k5 ?a6 ?l6 ?c6 ?k6 ?a7 ?l7 ?c7 ?k7 ?a8 ?l8 ?c8 ?k8 ?a9 ?l9 ?c9 ?k9 ?a10 ?l10 ?c10 ?k10 ?a11 ?l11 ?c11 ?k11 ?a12 ?l12 ?c12 ?k12 ?a13 ?l13 ?c13 ?k13 ?a14 ?l14 ?c14 ?k14 ?a15 ?l15 ?c15 ?k15 ?a16 ?l16 ?c16 ?k16 ?a17 ?l17 ?c17 ?k17 ?a18 ?l18 ?c18 ?k18 ?a19 ?l19 ?c19 ?k19 ?a20 ?l20 ?c20 ?k20 ?a21 ?l21 ?c21 ?k21 ?a22 ?l22 ?c22 ?k22 ?a23 ?l23 ?c23 ?k23 ?a24 ?l24 ?c24 ?k24 ?a25 ?l25 ?c25 ?k25 ?a26 ?l26 ?c26 ?k26 ?aC_Floor ?pg_Floor ?hd_Floor ?po_Floor ?sa_Floor ?mk_Floor ?kc_Floor ?a_Floor_init ?i_Floor_init ?l_Floor_init ?c_Floor_init ?k_Floor_init ?a_Floor_walls ?i_Floor_walls ?l_Floor_walls ?c_Floor_walls ?k_Floor_walls ?a_Floor_free ?i_Floor_free ?l_Floor_free ?c_Floor_free ?k_Floor_free ?a_Floor_barred ?i_Floor_barred ?l_Floor_barred ?c_Floor_barred ?k_Floor_barred ?a_Floor_sees ?i_Floor_sees ?l_Floor_sees ?c_Floor_sees ?k_Floor_sees ?a_Floor_stretches ?i_Floor_stretches ?l_Floor_stretches ?c_Floor_stretches ?k_Floor_stretches ?a_Floor_moved ?i_Floor_moved ?l_Floor_moved ?c_Floor_moved ?k_Floor_moved ?na_Floor_kept ?aC_Motion ?pg_Motion ?hd_Motion ?po_Motion ?sa_Motion ?mk_Motion ?kc_Motion ?in_Motion ?a_Motion_image ?i_Motion_image ?l_Motion_image ?c_Motion_image ?k_Motion_image ?a_Motion_back ?i_Motion_back ?l_Motion_back ?c_Motion_back ?k_Motion_back ?aC_Turn ?pg_Turn ?hd_Turn ?po_Turn ?sa_Turn ?mk_Turn ?kc_Turn ?a_Turn_init ?i_Turn_init ?l_Turn_init ?c_Turn_init ?k_Turn_init ?t_Turn_init ?z_Turn_init ?r_Turn_init ?a_Turn_image ?i_Turn_image ?l_Turn_image ?c_Turn_image ?k_Turn_image ?a_Turn_back ?i_Turn_back ?l_Turn_back ?c_Turn_back ?k_Turn_back ?na_Turn_times ?aC_Mirror ?pg_Mirror ?hd_Mirror ?po_Mirror ?sa_Mirror ?mk_Mirror ?kc_Mirror ?in_Mirror ?a_Mirror_image ?i_Mirror_image ?l_Mirror_image ?c_Mirror_image ?k_Mirror_image ?a_Mirror_back ?i_Mirror_back ?l_Mirror_back ?c_Mirror_back ?k_Mirror_back ?aC_Shift ?pg_Shift ?hd_Shift ?po_Shift ?sa_Shift ?mk_Shift ?kc_Shift ?a_Shift_init ?i_Shift_init ?l_Shift_init ?c_Shift_init ?k_Shift_init ?a_Shift_image ?i_Shift_image ?l_Shift_image ?c_Shift_image ?k_Shift_image ?a_Shift_back ?i_Shift_back ?l_Shift_back ?c_Shift_back ?k_Shift_back ?na_Shift_by ?aC_Chain ?pg_Chain ?hd_Chain ?po_Chain ?sa_Chain ?mk_Chain ?kc_Chain ?a_Chain_init ?i_Chain_init ?l_Chain_init ?c_Chain_init ?k_Chain_init ?a_Chain_image ?i_Chain_image ?l_Chain_image ?c_Chain_image ?k_Chain_image ?a_Chain_back ?i_Chain_back ?l_Chain_back ?c_Chain_back ?k_Chain_back ?na_Chain_parts ?ha_Floor_Floor ?hn_Floor_Floor ?ht_Floor_Floor ?hm_Floor_Floor ?mo_Floor_Floor ?mt_Floor_Floor ?mr_Floor_Floor ?aW_ ?lW ?zW ?dW ?lW0 ?zW0 ?dW0 ?lW1 ?zW1 ?dW1 ?lW2 ?zW2 ?dW2 ?lW3 ?zW3 ?dW3 ?lW4 ?zW4 ?dW4 ?lW5 ?zW5 ?dW5 ?y_abs ?y_bool ?y_divmod ?y_enumerate ?y_int ?y_isinstance ?y_len ?y_list ?y_max ?y_range ?y_reversed ?y_sorted ?y_sum ?y_tuple
    (case a1 => k_is)
    (case l1 => k_is)
    (case c1 => k_is)
    (case k1 => k_is)
    (case a2 => k_is)
    (case l2 => k_is)
    (case c2 => k_is)
    (case k2 => k_is)
    (case a3 => k_is)
    (case l3 => k_is)
    (case c3 => k_is)
    (case k3 => k_is)
    (case t3 => k_is)
    (case z3 => rfl)
    (case r3 => exact ⟨_, rfl⟩)
    (case a4 => k_is)
    (case l4 => k_is)
    (case c4 => k_is)
    (case k4 => k_is)
    (case a5 => k_is)
    (case l5 => k_is)
    (case c5 => k_is)
    (case k5 => k_is)
    (case a6 => k_is)
    (case l6 => k_is)
    (case c6 => k_is)
    (case k6 => k_is)
    (case a7 => k_is)
    (case l7 => k_is)
    (case c7 => k_is)
    (case k7 => k_is)
    (case a8 => k_is)
    (case l8 => k_is)
    (case c8 => k_is)
    (case k8 => k_is)
    (case a9 => k_is)
    (case l9 => k_is)
    (case c9 => k_is)
    (case k9 => k_is)
    (case a10 => k_is)
    (case l10 => k_is)
    (case c10 => k_is)
    (case k10 => k_is)
    (case a11 => k_is)
    (case l11 => k_is)
    (case c11 => k_is)
    (case k11 => k_is)
    (case a12 => k_is)
    (case l12 => k_is)
    (case c12 => k_is)
    (case k12 => k_is)
    (case a13 => k_is)
    (case l13 => k_is)
    (case c13 => k_is)
    (case k13 => k_is)
    (case a14 => k_is)
    (case l14 => k_is)
    (case c14 => k_is)
    (case k14 => k_is)
    (case a15 => k_is)
    (case l15 => k_is)
    (case c15 => k_is)
    (case k15 => k_is)
    (case a16 => k_is)
    (case l16 => k_is)
    (case c16 => k_is)
    (case k16 => k_is)
    (case a17 => k_is)
    (case l17 => k_is)
    (case c17 => k_is)
    (case k17 => k_is)
    (case a18 => k_is)
    (case l18 => k_is)
    (case c18 => k_is)
    (case k18 => k_is)
    (case a19 => k_is)
    (case l19 => k_is)
    (case c19 => k_is)
    (case k19 => k_is)
    (case a20 => k_is)
    (case l20 => k_is)
    (case c20 => k_is)
    (case k20 => k_is)
    (case a21 => k_is)
    (case l21 => k_is)
    (case c21 => k_is)
    (case k21 => k_is)
    (case a22 => k_is)
    (case l22 => k_is)
    (case c22 => k_is)
    (case k22 => k_is)
    (case a23 => k_is)
    (case l23 => k_is)
    (case c23 => k_is)
    (case k23 => k_is)
    (case a24 => k_is)
    (case l24 => k_is)
    (case c24 => k_is)
    (case k24 => k_is)
    (case a25 => k_is)
    (case l25 => k_is)
    (case c25 => k_is)
    (case k25 => k_is)
    (case a26 => k_is)
    (case l26 => k_is)
    (case c26 => k_is)
    (case k26 => k_is)
    (case aC_Floor => k_is)
    (case pg_Floor => k_is)
    (case hd_Floor => k_is)
    (case po_Floor => k_is)
    (case sa_Floor => k_is)
    (case mk_Floor => k_is)
    (case kc_Floor => k_is)
    (case a_Floor_init => k_is)
    (case i_Floor_init => k_is)
    (case l_Floor_init => k_is)
    (case c_Floor_init => k_is)
    (case k_Floor_init => k_is)
    (case a_Floor_walls => k_is)
    (case i_Floor_walls => k_is)
    (case l_Floor_walls => k_is)
    (case c_Floor_walls => k_is)
    (case k_Floor_walls => k_is)
    (case a_Floor_free => k_is)
    (case i_Floor_free => k_is)
    (case l_Floor_free => k_is)
    (case c_Floor_free => k_is)
    (case k_Floor_free => k_is)
    (case a_Floor_barred => k_is)
    (case i_Floor_barred => k_is)
    (case l_Floor_barred => k_is)
    (case c_Floor_barred => k_is)
    (case k_Floor_barred => k_is)
    (case a_Floor_sees => k_is)
    (case i_Floor_sees => k_is)
    (case l_Floor_sees => k_is)
    (case c_Floor_sees => k_is)
    (case k_Floor_sees => k_is)
    (case a_Floor_stretches => k_is)
    (case i_Floor_stretches => k_is)
    (case l_Floor_stretches => k_is)
    (case c_Floor_stretches => k_is)
    (case k_Floor_stretches => k_is)
    (case a_Floor_moved => k_is)
    (case i_Floor_moved => k_is)
    (case l_Floor_moved => k_is)
    (case c_Floor_moved => k_is)
    (case k_Floor_moved => k_is)
    (case na_Floor_kept => k_is)
    (case aC_Motion => k_is)
    (case pg_Motion => k_is)
    (case hd_Motion => k_is)
    (case po_Motion => k_is)
    (case sa_Motion => k_is)
    (case mk_Motion => k_is)
    (case kc_Motion => k_is)
    (case in_Motion => k_is)
    (case a_Motion_image => k_is)
    (case i_Motion_image => k_is)
    (case l_Motion_image => k_is)
    (case c_Motion_image => k_is)
    (case k_Motion_image => k_is)
    (case a_Motion_back => k_is)
    (case i_Motion_back => k_is)
    (case l_Motion_back => k_is)
    (case c_Motion_back => k_is)
    (case k_Motion_back => k_is)
    (case aC_Turn => k_is)
    (case pg_Turn => k_is)
    (case hd_Turn => k_is)
    (case po_Turn => k_is)
    (case sa_Turn => k_is)
    (case mk_Turn => k_is)
    (case kc_Turn => k_is)
    (case a_Turn_init => k_is)
    (case i_Turn_init => k_is)
    (case l_Turn_init => k_is)
    (case c_Turn_init => k_is)
    (case k_Turn_init => k_is)
    (case t_Turn_init => k_is)
    (case z_Turn_init => rfl)
    (case r_Turn_init => exact ⟨_, rfl⟩)
    (case a_Turn_image => k_is)
    (case i_Turn_image => k_is)
    (case l_Turn_image => k_is)
    (case c_Turn_image => k_is)
    (case k_Turn_image => k_is)
    (case a_Turn_back => k_is)
    (case i_Turn_back => k_is)
    (case l_Turn_back => k_is)
    (case c_Turn_back => k_is)
    (case k_Turn_back => k_is)
    (case na_Turn_times => k_is)
    (case aC_Mirror => k_is)
    (case pg_Mirror => k_is)
    (case hd_Mirror => k_is)
    (case po_Mirror => k_is)
    (case sa_Mirror => k_is)
    (case mk_Mirror => k_is)
    (case kc_Mirror => k_is)
    (case in_Mirror => k_is)
    (case a_Mirror_image => k_is)
    (case i_Mirror_image => k_is)
    (case l_Mirror_image => k_is)
    (case c_Mirror_image => k_is)
    (case k_Mirror_image => k_is)
    (case a_Mirror_back => k_is)
    (case i_Mirror_back => k_is)
    (case l_Mirror_back => k_is)
    (case c_Mirror_back => k_is)
    (case k_Mirror_back => k_is)
    (case aC_Shift => k_is)
    (case pg_Shift => k_is)
    (case hd_Shift => k_is)
    (case po_Shift => k_is)
    (case sa_Shift => k_is)
    (case mk_Shift => k_is)
    (case kc_Shift => k_is)
    (case a_Shift_init => k_is)
    (case i_Shift_init => k_is)
    (case l_Shift_init => k_is)
    (case c_Shift_init => k_is)
    (case k_Shift_init => k_is)
    (case a_Shift_image => k_is)
    (case i_Shift_image => k_is)
    (case l_Shift_image => k_is)
    (case c_Shift_image => k_is)
    (case k_Shift_image => k_is)
    (case a_Shift_back => k_is)
    (case i_Shift_back => k_is)
    (case l_Shift_back => k_is)
    (case c_Shift_back => k_is)
    (case k_Shift_back => k_is)
    (case na_Shift_by => k_is)
    (case aC_Chain => k_is)
    (case pg_Chain => k_is)
    (case hd_Chain => k_is)
    (case po_Chain => k_is)
    (case sa_Chain => k_is)
    (case mk_Chain => k_is)
    (case kc_Chain => k_is)
    (case a_Chain_init => k_is)
    (case i_Chain_init => k_is)
    (case l_Chain_init => k_is)
    (case c_Chain_init => k_is)
    (case k_Chain_init => k_is)
    (case a_Chain_image => k_is)
    (case i_Chain_image => k_is)
    (case l_Chain_image => k_is)
    (case c_Chain_image => k_is)
    (case k_Chain_image => k_is)
    (case a_Chain_back => k_is)
    (case i_Chain_back => k_is)
    (case l_Chain_back => k_is)
    (case c_Chain_back => k_is)
    (case k_Chain_back => k_is)
    (case na_Chain_parts => k_is)
    (case ha_Floor_Floor => k_is)
    (case hn_Floor_Floor => k_is)
    (case ht_Floor_Floor => k_is)
    (case hm_Floor_Floor => k_is)
    (case mo_Floor_Floor => k_is)
    (case mt_Floor_Floor => k_is)
    (case mr_Floor_Floor => k_is)
    (case aW_ => k_is)
    (case lW => k_is)
    (case zW => rfl)
    (case dW => rfl)
    (case lW0 => k_is)
    (case zW0 => rfl)
    (case dW0 => rfl)
    (case lW1 => k_is)
    (case zW1 => rfl)
    (case dW1 => rfl)
    (case lW2 => k_is)
    (case zW2 => rfl)
    (case dW2 => rfl)
    (case lW3 => k_is)
    (case zW3 => rfl)
    (case dW3 => rfl)
    (case lW4 => k_is)
    (case zW4 => rfl)
    (case dW4 => rfl)
    (case lW5 => k_is)
    (case zW5 => rfl)
    (case dW5 => rfl)
    (case y_abs => k_is)
    (case y_bool => k_is)
    (case y_divmod => k_is)
    (case y_enumerate => k_is)
    (case y_int => k_is)
    (case y_isinstance => k_is)
    (case y_len => k_is)
    (case y_list => k_is)
    (case y_max => k_is)
    (case y_range => k_is)
    (case y_reversed => k_is)
    (case y_sorted => k_is)
    (case y_sum => k_is)
    (case y_tuple => k_is)

